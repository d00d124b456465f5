import PyProof.Rows.All
import Wide.All
import OpenK.AllK
import Wide.FinOn
import HandS.ForMost
import HandS.Deep
import HandS.TupAny
import HandS.Wide
import KE.KDictKeyed
import KE.DataEq
import HandS.SortOrd
import HandS.Ends
import HandS.HeadEnd
import HandS.Defaults
import HandS.Codes
import HandS.EndBits
import HandS.IsInst
import HandS.Conv
import KE.SortData
import KE.LtData
import PyProof.ReprRoads
import HandS.Iter
import HandS.Words
import Lean
import KE.KIntText
import KE.KStateDown
import HandS.Head0
import HandS.Head1
import HandS.Head2
import HandS.HeadHook1
import HandS.HeadHook2
import PySem.Challenge.RW_smallword_k77_opening_steps
set_option autoImplicit false
/-! The pure side: values, a store, results, the words of which the defs' bodies are made. -/
namespace Sw
/-- a text is its codes -/
abbrev Tx := List Nat
/-- a value: data, or a place in the store -/
inductive W where
  | non | bl (b : Bool) | int (i : Int) | str (s : Tx) | tup (ws : List W) | ref (n : Nat)
  /-- the script: a list that is read, never written -/
  | scr (ns : List Int)
  deriving Inhabited

mutual
def W.beq : W → W → Bool
  | .non, .non => true
  | .bl a, .bl b => a == b
  | .int a, .int b => a == b
  | .str a, .str b => a == b
  | .tup a, .tup b => W.beqs a b
  | .ref a, .ref b => a == b
  | .scr a, .scr b => a == b
  | _, _ => false
def W.beqs : List W → List W → Bool
  | [], [] => true
  | a :: as, b :: bs => W.beq a b && W.beqs as bs
  | _, _ => false
end
mutual
theorem W.beq_rfl : ∀ a : W, W.beq a a = true
  | .non => rfl
  | .bl a => by simp [W.beq]
  | .int a => by simp [W.beq]
  | .str a => by simp [W.beq]
  | .tup a => by rw [W.beq]; exact W.beqs_rfl a
  | .ref a => by simp [W.beq]
  | .scr a => by simp [W.beq]
theorem W.beqs_rfl : ∀ a : List W, W.beqs a a = true
  | [] => rfl
  | a :: as => by rw [W.beqs, W.beq_rfl a, W.beqs_rfl as]; rfl
end
mutual
theorem W.of_beq : ∀ a b : W, W.beq a b = true → a = b
  | .non, b, h => by cases b <;> simp_all [W.beq]
  | .bl a, b, h => by cases b <;> simp_all [W.beq]
  | .int a, b, h => by cases b <;> simp_all [W.beq]
  | .str a, b, h => by cases b <;> simp_all [W.beq]
  | .tup a, b, h => by
    cases b with
    | tup b => rw [W.beq] at h; rw [W.of_beqs a b h]
    | _ => simp [W.beq] at h
  | .ref a, b, h => by cases b <;> simp_all [W.beq]
  | .scr a, b, h => by cases b <;> simp_all [W.beq]
theorem W.of_beqs : ∀ a b : List W, W.beqs a b = true → a = b
  | [], b, h => by cases b <;> simp_all [W.beqs]
  | a :: as, b, h => by
    cases b with
    | nil => simp [W.beqs] at h
    | cons b bs =>
      rw [W.beqs, Bool.and_eq_true] at h
      rw [W.of_beq a b h.1, W.of_beqs as bs h.2]
end
instance : DecidableEq W := fun a b => if h : W.beq a b = true then .isTrue (W.of_beq a b h) else .isFalse fun e => h (e ▸ W.beq_rfl a)

/-- what stands in the store -/
inductive O where
  | lst (ws : List W)
  | dic (kvs : List (W × W))
  /-- a dict that is walked just now -/
  | dlk (kvs : List (W × W))
  | ins (c : Nat) (fs : List (Tx × W))
  deriving DecidableEq
abbrev Mem := List O
/-- an exception: its class, what it was made with -/
structure Xn where
  cls : Nat
  arg : W
abbrev Out (α : Type) := Option (Except Xn α × Mem)
abbrev Sl := List (Option W)
def ok {α : Type} (a : α) (M : Mem) : Out α := some (.ok a, M)
def bnd {α β : Type} (m : Out α) (f : α → Mem → Out β) : Out β := match m with
  | none => none
  | some (.error x, M) => some (.error x, M)
  | some (.ok a, M) => f a M
theorem bnd_ok {α β : Type} (a : α) (M : Mem) (f : α → Mem → Out β) : bnd (ok a M) f = f a M := rfl
theorem bnd_some {α β : Type} (a : α) (M : Mem) (f : α → Mem → Out β) : bnd (some (.ok a, M)) f = f a M := rfl
theorem bnd_none {α β : Type} (f : α → Mem → Out β) : bnd (none : Out α) f = none := rfl
theorem bnd_err {α β : Type} (x : Xn) (M : Mem) (f : α → Mem → Out β) : bnd (some (.error x, M) : Out α) f = some (.error x, M) := rfl
abbrev EM := Sl → Mem → Out W
abbrev LM := Sl → Mem → Out (List W)
inductive Fl where
  | nx (s : Sl) | rt (w : W)
abbrev SM := Sl → Mem → Out Fl

/-! ### data -/
mutual
def isD : W → Bool
  | .tup ws => isDs ws
  | .ref _ => false
  | .scr _ => false
  | _ => true
def isDs : List W → Bool
  | [] => true
  | w :: ws => isD w && isDs ws
end
/-! data without truths: what may be a key -/
mutual
def isK : W → Bool
  | .tup ws => isKs ws
  | .ref _ => false
  | .bl _ => false
  | .non => false
  | .scr _ => false
  | _ => true
def isKs : List W → Bool
  | [] => true
  | w :: ws => isK w && isKs ws
end
mutual
def dep : W → Nat
  | .tup ws => deps ws + 1
  | _ => 0
def deps : List W → Nat
  | [] => 0
  | w :: ws => max (dep w) (deps ws)
end
/-! Python's == takes True for 1 -/
mutual
def nrm : W → W
  | .bl b => .int (if b then 1 else 0)
  | .tup ws => .tup (nrms ws)
  | w => w
def nrms : List W → List W
  | [] => []
  | w :: ws => nrm w :: nrms ws
end
def eqD (a b : W) : Bool := decide (nrm a = nrm b)
/-! the refs in a value -/
mutual
def refsW : W → List Nat
  | .tup ws => refsWs ws
  | .ref n => [n]
  | _ => []
def refsWs : List W → List Nat
  | [] => []
  | w :: ws => refsW w ++ refsWs ws
end
/-- a dict that may be asked -/
def dicO : Option O → Option (List (W × W))
  | some (.dic kvs) => some kvs
  | some (.dlk kvs) => some kvs
  | _ => none
def refsO : O → List Nat
  | .lst ws => refsWs ws
  | .dic kvs => refsWs (kvs.map (·.2))
  | .dlk kvs => refsWs (kvs.map (·.2))
  | .ins _ fs => refsWs (fs.map (·.2))

def many (n : Nat) : Bool := decide (n ≤ 1000000)
/-! ### == -/
/-- a value with the lists that it holds written out: a list is a tuple with a mark ahead -/
def flats (f : W → Option W) : List W → Option (List W)
  | [] => some []
  | w :: ws => (match f w, flats f ws with
    | some a, some b => some (a :: b)
    | _, _ => none)
def flatF : Nat → Mem → W → Option W
  | 0, _, w => if isD w then some w else none
  | n + 1, M, w => if isD w then some w else match w with
    | .tup ws => (flats (flatF n M) ws).map .tup
    | .ref i => (match M[i]? with
      | some (.lst ws) => (flats (flatF n M) ws).map fun r => .tup (.scr [] :: r)
      | _ => none)
    | _ => none
def eqW (M : Mem) (a b : W) : Option Bool := match flatF 4 M a, flatF 4 M b with
  | some x, some y => if dep x ≤ 60 ∧ dep y ≤ 60 then some (eqD x y) else none
  | _, _ => none

/-! ### < -/
mutual
def ltD : W → W → Option Bool
  | .int a, .int b => some (decide (a < b))
  | .bl a, .bl b => some (!a && b)
  | .str a, .str b => some (decide (a < b))
  | .tup xs, .tup ys => ltDs xs ys
  | _, _ => none
def ltDs : List W → List W → Option Bool
  | [], ys => some (!ys.isEmpty)
  | _ :: _, [] => some false
  | x :: xs, y :: ys => if x = y then ltDs xs ys else if eqD x y then none else ltD x y
end
/-- sorts of values, as sorting asks -/
def topK : W → Nat
  | .int _ => 1
  | .str _ => 2
  | .tup _ => 3
  | _ => 0
def firstK : W → Nat
  | .tup (x :: _) => topK x
  | _ => 0
def allK (f : W → Nat) (k : Nat) (ws : List W) : Bool := ws.all fun w => f w == k
def homog (ws : List W) : Bool := allK topK 1 ws || allK topK 2 ws || (allK firstK 1 ws || allK firstK 2 ws || allK firstK 3 ws)
/-- any two can be told apart by < -/
def cmp2 (a b : W) : Bool := match ltD a b, ltD b a with
  | some x, some y => if a = b then true else x != y
  | _, _ => false
def cmpAll (ws : List W) : Bool := ws.all fun a => isD a && decide (dep a ≤ 58) && ws.all fun b => cmp2 a b
def lt1 (a b : W) : Bool := ltD a b == some true
def ins1 (a : W) : List W → List W
  | [] => [a]
  | b :: bs => if lt1 b a then b :: ins1 a bs else a :: b :: bs
def srt (ws : List W) : List W := ws.foldr ins1 []
def sortW (ws : List W) : Option (List W) := if homog ws && cmpAll ws && many ws.length then some (srt ws) else none

/-! ### dicts -/
def dget : List (W × W) → W → Option W
  | [], _ => none
  | (k', v) :: r, k => if k' = k then some v else dget r k
def dput (kvs : List (W × W)) (k v : W) : List (W × W) := match kvs with
  | [] => [(k, v)]
  | (k', v') :: r => if k' = k then (k', v) :: r else (k', v') :: dput r k v

def isT : W → Bool
  | .tup _ => true
  | _ => false
/-- keys of a dict are of one sort: tuples, or intsOf and texts -/
def okKey (kvs : List (W × W)) (k : W) : Bool := isK k && decide (dep k ≤ 8) && (match kvs with
  | [] => true
  | p :: _ => isT p.1 == isT k)

/-! ### sizes -/
def szLine : Nat := 16777216

/-! ### garbage -/
def okBase (n : Nat) (M B : Mem) : Bool := (B.zip M).all fun p => decide (p.1 = p.2) || (refsO p.1).all fun r => decide (r < n)
def dd (l : List Nat) : List Nat := l.foldr (fun a r => if a ∈ r then r else a :: r) []
mutual
def ren (n : Nat) (fs : List Nat) : W → W
  | .ref j => if j < n then .ref j else .ref (n + fs.idxOf j)
  | .tup ws => .tup (rens n fs ws)
  | w => w
def rens (n : Nat) (fs : List Nat) : List W → List W
  | [] => []
  | w :: ws => ren n fs w :: rens n fs ws
end
def gcF (n : Nat) (w : W) : List Nat := (dd (refsW w)).filter fun j => decide (n ≤ j)
def getAll (M : Mem) (fs : List Nat) : Option Mem := fs.mapM fun j => M[j]?
/-- what a call leaves: what nobody can reach any more is left out -/
def gc (M : Mem) (w : W) (M' : Mem) : W × Mem :=
  let n := M.length
  let B := M'.take n
  match getAll M' (gcF n w) with
  | some G => if n ≤ M'.length ∧ okBase n M B = true ∧ (G.all fun o => (refsO o).all fun r => decide (r < n)) = true then (ren n (gcF n w) w, B ++ G) else (w, M')
  | none => (w, M')
def gcO (M : Mem) (r : Out W) : Out W := match r with
  | none => none
  | some (.ok w, M') => some (.ok (gc M w M').1, (gc M w M').2)
  | some (.error x, M') => some (.error ⟨x.cls, (gc M x.arg M').1⟩, (gc M x.arg M').2)

/-! ### expressions -/
def eV (i : Nat) : EM := fun s M => match s[i]? with
  | some (some w) => ok w M
  | _ => none
def eC (w : W) : EM := fun _ M => ok w M
def eAs : List EM → LM
  | [] => fun _ M => ok [] M
  | m :: ms => fun s M => bnd (m s M) fun w M => bnd (eAs ms s M) fun ws M => ok (w :: ws) M
def alloc (o : O) (M : Mem) : Out W := ok (.ref M.length) (M ++ [o])
def eTup (ms : List EM) : EM := fun s M => bnd (eAs ms s M) fun ws M => ok (.tup ws) M
/-- a new list -/
def eNew (l : LM) : EM := fun s M => bnd (l s M) fun ws M => alloc (.lst ws) M
def eDic : EM := fun _ M => alloc (.dic []) M
/-- the items of a list, a tuple -/
def items (w : W) (M : Mem) : Option (List W) := match w with
  | .tup ws => some ws
  | .ref i => (match M[i]? with
    | some (.lst ws) => some ws
    | _ => none)
  | .scr ns => some (ns.map .int)
  | _ => none
def lOf (m : EM) : LM := fun s M => bnd (m s M) fun w M => match items w M with
  | some ws => ok ws M
  | none => none
abbrev Op2 := W → W → Mem → Out W
def eOp (f : Op2) (a b : EM) : EM := fun s M => bnd (a s M) fun x M => bnd (b s M) fun y M => f x y M
abbrev Op1 := W → Mem → Out W
def eUn (f : Op1) (a : EM) : EM := fun s M => bnd (a s M) fun x M => f x M
def catL (xs ys : List W) (M : Mem) : Out W := if many (xs.length + ys.length) then alloc (.lst (xs ++ ys)) M else none
def oAdd : Op2 := fun x y M => match x, y with
  | .int a, .int b => ok (.int (a + b)) M
  | .str a, .str b => if many (a.length + b.length) then ok (.str (a ++ b)) M else none
  | .tup a, .tup b => if many (a.length + b.length) then ok (.tup (a ++ b)) M else none
  | .ref i, .ref j => (match M[i]?, M[j]? with
    | some (.lst xs), some (.lst ys) => catL xs ys M
    | _, _ => none)
  | _, _ => none
def oSub : Op2 := fun x y M => match x, y with
  | .int a, .int b => ok (.int (a - b)) M
  | _, _ => none
def oMul : Op2 := fun x y M => match x, y with
  | .int a, .int b => if a.natAbs.log2 + b.natAbs.log2 < 1000000 then ok (.int (a * b)) M else none
  | _, _ => none
def oDiv : Op2 := fun x y M => match x, y with
  | .int a, .int b => if 0 < b ∧ b.natAbs.log2 < 9000 then ok (.int (a / b)) M else none
  | _, _ => none
def oMod : Op2 := fun x y M => match x, y with
  | .int a, .int b => if 0 < b then ok (.int (a % b)) M else none
  | _, _ => none
def oShr : Op2 := fun x y M => match x, y with
  | .int a, .int b => if 0 ≤ b then ok (.int (a / 2 ^ b.toNat)) M else none
  | _, _ => none
def oShl : Op2 := fun x y M => match x, y with
  | .int a, .int b => if 0 ≤ b ∧ b ≤ 1000 ∧ a.natAbs < 2 ^ 64 then ok (.int (a * 2 ^ b.toNat)) M else none
  | _, _ => none
def uNeg : Op1 := fun x M => match x with
  | .int a => ok (.int (-a)) M
  | _ => none
def eqOut (M : Mem) (r : Option Bool) : Out W := match r with
  | some b => ok (.bl b) M
  | none => none
def oEq : Op2 := fun x y M => eqOut M (eqW M x y)
def oNe : Op2 := fun x y M => eqOut M ((eqW M x y).map (!·))
def oLt : Op2 := fun x y M => eqOut M (if isD x && isD y && decide (dep x ≤ 60) && decide (dep y ≤ 60) then ltD x y else none)
def oGt : Op2 := fun x y M => match x, y with
  | .int a, .int b => ok (.bl (decide (b < a))) M
  | _, _ => none
def oLe : Op2 := fun x y M => match x, y with
  | .int a, .int b => ok (.bl (decide (a ≤ b))) M
  | _, _ => none
def oGe : Op2 := fun x y M => match x, y with
  | .int a, .int b => ok (.bl (decide (b ≤ a))) M
  | _, _ => none
/-- x in y: data in a list or tuple of data, a key in a dict -/
def inW (x y : W) (M : Mem) : Option Bool := match y with
  | .tup ws => if isD x && isDs ws && decide (dep x ≤ 60) && decide (deps ws ≤ 59) then some (ws.any fun z => eqD z x) else none
  | .ref i => (match M[i]? with
    | some (.lst ws) => if isD x && isDs ws && decide (dep x ≤ 60) && decide (deps ws ≤ 59) then some (ws.any fun z => eqD z x) else none
    | o => (match dicO o with
      | some kvs => if okKey kvs x then some (dget kvs x).isSome else none
      | none => none))
  | .str z => (match x with
    | .str [c] => some (decide (c ∈ z))
    | _ => none)
  | _ => none
def oIn : Op2 := fun x y M => eqOut M (inW x y M)
def oNi : Op2 := fun x y M => eqOut M ((inW x y M).map (!·))
def uIsN : Op1 := fun x M => ok (.bl (decide (x = .non))) M
def uNoN : Op1 := fun x M => ok (.bl (!decide (x = .non))) M
def uNot : Op1 := fun x M => match x with
  | .bl b => ok (.bl (!b)) M
  | _ => none
def eAnd (a b : EM) : EM := fun s M => bnd (a s M) fun x M => match x with
  | .bl true => b s M
  | .bl false => ok (.bl false) M
  | _ => none
def eOr (a b : EM) : EM := fun s M => bnd (a s M) fun x M => match x with
  | .bl true => ok (.bl true) M
  | .bl false => b s M
  | _ => none
def eIf (t a b : EM) : EM := fun s M => bnd (t s M) fun x M => match x with
  | .bl true => a s M
  | .bl false => b s M
  | _ => none
/-- an index as Python takes it -/
def ixW (n : Nat) (i : Int) : Option Nat := if 0 ≤ i then (if i < n then some i.toNat else none) else if 0 ≤ i + n then some (i + n).toNat else none
def atW (ws : List W) (i : Int) (M : Mem) : Out W := match (ixW ws.length i).bind (ws[·]?) with
  | some w => ok w M
  | none => none
def oIx : Op2 := fun x y M => match y with
  | .int i => (match x with
    | .str z => if many z.length then (match (ixW z.length i).bind (z[·]?) with
      | some c => ok (.str [c]) M
      | none => none) else none
    | .ref j => (match dicO M[j]? with
      | some kvs => if okKey kvs y then (match dget kvs y with
        | some w => ok w M
        | none => none) else none
      | none => (match items x M with
        | some ws => atW ws i M
        | none => none))
    | _ => (match items x M with
      | some ws => atW ws i M
      | none => none))
  | _ => (match x with
    | .ref j => (match dicO M[j]? with
      | some kvs => if okKey kvs y then (match dget kvs y with
        | some w => ok w M
        | none => none) else none
      | none => none)
    | _ => none)
/-- the slice from lo to hi -/
def clampW (n : Nat) (i : Int) : Nat := if 0 ≤ i then min i.toNat n else (i + n).toNat
def cutL {α : Type} (xs : List α) (lo hi : Option Int) : List α :=
  let a := match lo with
    | none => 0
    | some i => clampW xs.length i
  let b := match hi with
    | none => xs.length
    | some i => clampW xs.length i
  (xs.take b).drop a
/-- repr, str.join and what else the model reckons: told by the rules -/
def eCall (orc : Nat → List W → Mem → Out W) (f : Nat) (ms : List EM) : EM := fun s M => bnd (eAs ms s M) fun ws M => orc f ws M

/-! ### builtins over sequences -/
def eTuple (l : LM) : EM := fun s M => bnd (l s M) fun ws M => ok (.tup ws) M
def lSorted (l : LM) : LM := fun s M => bnd (l s M) fun ws M => match sortW ws with
  | some r => ok r M
  | none => none
def lSame (l : LM) : LM := l
def bools : List W → Option (List Bool)
  | [] => some []
  | .bl b :: ws => (bools ws).map (b :: ·)
  | _ => none
def intsOf : List W → Option (List Int)
  | [] => some []
  | .int b :: ws => (intsOf ws).map (b :: ·)
  | _ => none
def eAll (l : LM) : EM := fun s M => bnd (l s M) fun ws M => match bools ws with
  | some bs => ok (.bl (bs.all id)) M
  | none => none
def eAny (l : LM) : EM := fun s M => bnd (l s M) fun ws M => match bools ws with
  | some bs => ok (.bl (bs.any id)) M
  | none => none
def eSum (l : LM) : EM := fun s M => bnd (l s M) fun ws M => match intsOf ws with
  | some bs => ok (.int bs.sum) M
  | none => none
/-- len of a text, a tuple, a list, a dict -/
def lenW (x : W) (M : Mem) : Option Nat := match x with
  | .str z => if many z.length then some z.length else none
  | .ref i => (match dicO M[i]? with
    | some kvs => some kvs.length
    | none => (items x M).map (·.length))
  | _ => (items x M).map (·.length)
def uLen : Op1 := fun x M => match lenW x M with
  | some n => ok (.int n) M
  | none => none

/-! ### what is walked: the items; the list or dict that has to stand still -/
abbrev Wd := List W × Option (Nat × O)
abbrev IM := Sl → Mem → Out Wd
def still (g : Option (Nat × O)) (M : Mem) : Bool := match g with
  | none => true
  | some (i, o) => decide (M[i]? = some o)
def iSeq (m : EM) : IM := fun s M => bnd (m s M) fun w M => match w with
  | .tup ws => ok (ws, none) M
  | .str z => ok (z.map fun c => .str [c], none) M
  | .scr ns => ok (ns.map .int, none) M
  | .ref i => (match M[i]? with
    | some (.lst ws) => ok (ws, some (i, .lst ws)) M
    | _ => none)
  | _ => none
def iNew (l : LM) : IM := fun s M => bnd (l s M) fun ws M => ok (ws, none) M
def rangeW (lo : Int) (n : Nat) : List W := (List.range n).map fun (i : Nat) => .int (lo + (i : Int))
def iRange (lo hi : EM) : IM := fun s M => bnd (lo s M) fun a M => bnd (hi s M) fun b M => match a, b with
  | .int a, .int b => if -1000000 ≤ a ∧ a ≤ 1000000 ∧ -1000000 ≤ b ∧ b ≤ 1000000 then ok (rangeW a (b - a).toNat, none) M else none
  | _, _ => none
def iEnum (m : EM) : IM := fun s M => bnd (iSeq m s M) fun p M => ok (p.1.mapIdx fun i w => .tup [.int i, w], p.2) M
inductive Pat where
  | one (i : Nat)
  | some_ (is : List Nat)
def setS (s : Sl) (i : Nat) (w : W) : Sl := s.set i (some w)
def setMany : List Nat → List W → Sl → Option Sl
  | [], [], s => some s
  | i :: is, w :: ws, s => setMany is ws (setS s i w)
  | _, _, _ => none
def bindP (p : Pat) (w : W) (s : Sl) : Option Sl := match p with
  | .one i => some (setS s i w)
  | .some_ is => (match w with
    | .tup ws => setMany is ws s
    | _ => none)

/-- the keys of a locked dict -/
def iKeysD (m : EM) : IM := fun s M => bnd (m s M) fun w M => match w with
  | .ref j => (match M[j]? with
    | some (.dlk kvs) => ok (kvs.map (·.1), some (j, .dlk kvs)) M
    | _ => none)
  | _ => none
/-- the dict that is locked -/
def lockAt (md : EM) (s : Sl) (M : Mem) : Option (Nat × List (W × W)) := match md s M with
  | some (.ok (.ref j), M') => if M' = M then (match M[j]? with
    | some (.dic kvs) => some (j, kvs)
    | _ => none) else none
  | _ => none
def lLock {α : Type} (md : EM) (b : Sl → Mem → Out α) : Sl → Mem → Out α := fun s M => match lockAt md s M with
  | some (j, kvs) => (match b s (M.set j (.dlk kvs)) with
    | some (.ok a, M') => if M'[j]? = some (.dlk kvs) then some (.ok a, M'.set j (.dic kvs)) else none
    | _ => none)
  | none => b s M
/-! ### comprehensions -/
/-- what is raised in a comprehension is no way -/
def noX {α : Type} (o : Out α) : Out α := match o with
  | some (.ok a, M) => some (.ok a, M)
  | _ => none
def lcL (g : Option (Nat × O)) (p : Pat) (c e : EM) (s : Sl) : List W → List W → Mem → Out (List W)
  | [], acc, M => if still g M && many acc.length then ok acc M else none
  | w :: ws, acc, M => if still g M && many acc.length then (match bindP p w s with
    | none => none
    | some s' => bnd (noX (c s' M)) fun b M => match b with
      | .bl true => bnd (noX (e s' M)) fun y M => lcL g p c e s ws (acc ++ [y]) M
      | .bl false => lcL g p c e s ws acc M
      | _ => none) else none
def lComp (it : IM) (p : Pat) (c e : EM) : LM := fun s M => bnd (it s M) fun q M => lcL q.2 p c e s q.1 [] M

/-- a list at hand -/
def lstOf (m : EM) : LM := fun s M => bnd (m s M) fun w M => match w with
  | .tup _ => none
  | _ => (match items w M with
    | some ws => ok ws M
    | none => none)
/-- list(x): a list that nobody holds -/
def lList (l : LM) : LM := fun s M => bnd (l s M) fun ws M => if many ws.length then ok ws M else none
def fAll (ws : List W) (M : Mem) : Out W := match bools ws with
  | some bs => ok (.bl (bs.all id)) M
  | none => none
def fAny (ws : List W) (M : Mem) : Out W := match bools ws with
  | some bs => ok (.bl (bs.any id)) M
  | none => none
def eL (f : List W → Mem → Out W) (l : LM) : EM := fun s M => bnd (l s M) fun ws M => f ws M
/-! ### statements -/
def sAsg (p : Pat) (e : EM) : SM := fun s M => bnd (e s M) fun w M => match bindP p w s with
  | some s' => ok (.nx s') M
  | none => none
def sExp (e : EM) : SM := fun s M => bnd (e s M) fun _ M => ok (.nx s) M
def sRet (e : EM) : SM := fun s M => bnd (e s M) fun w M => ok (.rt w) M
def sPass : SM := fun s M => ok (.nx s) M
def sSeq (a b : SM) : SM := fun s M => bnd (a s M) fun fl M => match fl with
  | .nx s' => b s' M
  | .rt w => ok (.rt w) M
def sIf (t : EM) (a b : SM) : SM := fun s M => bnd (t s M) fun x M => match x with
  | .bl true => a s M
  | .bl false => b s M
  | _ => none
def forL (g : Option (Nat × O)) (p : Pat) (b : SM) : List W → Sl → Mem → Out Fl
  | [], s, M => if still g M then ok (.nx s) M else none
  | w :: ws, s, M => if still g M then (match bindP p w s with
    | none => none
    | some s' => bnd (b s' M) fun fl M => match fl with
      | .nx s'' => forL g p b ws s'' M
      | .rt r => ok (.rt r) M) else none
def sFor (p : Pat) (it : IM) (b : SM) : SM := fun s M => bnd (it s M) fun q M => forL q.2 p b q.1 s M
def whL (t : EM) (b : SM) : Nat → Sl → Mem → Out Fl
  | 0, _, _ => none
  | g + 1, s, M => bnd (t s M) fun x M => match x with
    | .bl true => bnd (b s M) fun fl M => (match fl with
      | .nx s' => whL t b g s' M
      | .rt r => ok (.rt r) M)
    | .bl false => ok (.nx s) M
    | _ => none
def sWhile (g : Nat) (t : EM) (b : SM) : SM := fun s M => whL t b g s M
/-- d[k] = v, xs[i] = v -/
def putW (o k v : W) (M : Mem) : Option Mem := match o with
  | .ref j => (match M[j]? with
    | some (.dic kvs) => if okKey kvs k && many (kvs.length + 1) then some (M.set j (.dic (dput kvs k v))) else none
    | some (.lst ws) => (match k with
      | .int i => (ixW ws.length i).map fun n => M.set j (.lst (ws.set n v))
      | _ => none)
    | _ => none)
  | _ => none
def sPut (o k e : EM) : SM := fun s M => bnd (e s M) fun v M => bnd (o s M) fun o M => bnd (k s M) fun k M => match putW o k v M with
  | some M' => ok (.nx s) M'
  | none => none
/-! methods -/
/-- the sort of thing that has methods -/
def kindW (x : W) (M : Mem) : Nat := match x with
  | .str _ => 1
  | .ref j => (match M[j]? with
    | some (.lst _) => 2
    | some (.dic _) => 3
    | some (.dlk _) => 3
    | _ => 0)
  | _ => 0
abbrev Mth := W → List W → Mem → Out W
def eM (k : Nat) (f : Mth) (o : EM) (es : List EM) : EM := fun s M => bnd (o s M) fun x M => if kindW x M = k then bnd (eAs es s M) fun vs M => f x vs M else none
/-- a list at hand, changed -/
def onL (x : W) (M : Mem) (g : Nat → List W → Out W) : Out W := match x with
  | .ref j => (match M[j]? with
    | some (.lst ws) => g j ws
    | _ => none)
  | _ => none
def fAppend : Mth := fun x vs M => onL x M fun j ws => match vs with
  | [v] => if many (ws.length + 1) then ok .non (M.set j (.lst (ws ++ [v]))) else none
  | _ => none
def fExtend : Mth := fun x vs M => onL x M fun j ws => match vs with
  | [.ref i] => (match M[i]? with
    | some (.lst us) => if many (ws.length + us.length) then ok .non (M.set j (.lst (ws ++ us))) else none
    | _ => none)
  | _ => none
def fPop : Mth := fun x vs M => onL x M fun j ws => match vs with
  | [] => (match ws.getLast? with
    | some w => ok w (M.set j (.lst ws.dropLast))
    | none => none)
  | [.int i] => (match ixW ws.length i with
    | some n => (match ws[n]? with
      | some w => ok w (M.set j (.lst (ws.eraseIdx n)))
      | none => none)
    | none => none)
  | _ => none
def fReverse : Mth := fun x vs M => onL x M fun j ws => match vs with
  | [] => ok .non (M.set j (.lst ws.reverse))
  | _ => none
def fClear : Mth := fun x vs M => onL x M fun j ws => match vs with
  | [] => ok .non (M.set j (.lst []))
  | _ => none
/-! isinstance by the built-in types -/
def tyN : W → Mem → Option String
  | .non, _ => some "NoneType"
  | .bl _, _ => some "bool"
  | .int _, _ => some "int"
  | .str _, _ => some "str"
  | .tup _, _ => some "tuple"
  | .scr _, _ => some "list"
  | .ref j, M => (match M[j]? with
    | some (.lst _) => some "list"
    | some (.dic kvs) => if kvs.any (fun p => isT p.1) then none else some "dict"
    | _ => none)
def uIsA (T : String) : Op1 := fun x M => match tyN x M with
  | some t => ok (.bl (t == T || t == "bool" && T == "int")) M
  | none => none

/-! ### a def's body: parameters first, the other slots empty; then the result -/
def start (n : Nat) (ws : List W) : Sl := ws.map some ++ List.replicate (n - ws.length) none
def body (n : Nat) (b : SM) (ws : List W) (M : Mem) : Out W := bnd (b (start n ws) M) fun fl M => match fl with
  | .nx _ => ok .non M
  | .rt w => ok w M
end Sw

set_option autoImplicit false
set_option Elab.async false
set_option linter.all false
set_option maxRecDepth 100000
/-! The pure side told of the model: what stands for what; the readings of the rules. -/
namespace Sw
open PySem PySem.Spec L2

abbrev tx (s : Tx) : Str := ⟨s.toArray⟩
theorem tx_inj {a b : Tx} (h : tx a = tx b) : a = b := by
  have h1 : a.toArray = b.toArray := congrArg Str.cps h
  exact Array.toList_inj.mpr h1 |> fun e => by simpa using e
/-- the written part, where the classes stand, the world -/
structure Rc where
  K : PySem.W.Frag
  w : World
  cls : Nat → Addr

/-! ### keys -/
mutual
def keyN : W → NestedKey
  | .int i => .num i
  | .str s => .text (tx s)
  | .tup ws => .tup (keyNs ws)
  | _ => .none
def keyNs : List W → List NestedKey
  | [] => []
  | w :: ws => keyN w :: keyNs ws
end
def keyA : W → Key
  | .int i => .inl i
  | .str s => .inr (tx s)
  | _ => .inl 0

/-! ### what stands for what -/
def frzH : HO → Bool
  | .frz _ _ => true
  | _ => false
/-- a dict that is walked is locked -/
def LK (lk : Bool) (H : Hp) (a : Addr) (u : HO) : Prop := match lk with
  | false => H a = some u
  | true => ∃ o, H a = some (.frz o u)
theorem LK.rd {lk : Bool} {H : Hp} {a : Addr} {u : HO} (h : LK lk H a u) : Rd H a u := by
  cases lk with
  | false => exact .inl h
  | true => exact .inr h
theorem LK.eq {lk : Bool} {H H' : Hp} {a : Addr} {u : HO} (e : H' a = H a) (h : LK lk H a u) : LK lk H' a u := by
  cases lk with
  | false => exact e.trans h
  | true => obtain ⟨o, h⟩ := h; exact ⟨o, e.trans h⟩

/-- the script: locked as an object, or an object of the module -/
def ScrAt (C : Rc) (H : Hp) (a : Addr) (ns : List Int) : Prop := (∃ o, H a = some (.frz o (.lst (ns.map V.int)))) ∨
  ∃ (o : Obj) (its : Array Value) (n : Nat), C.K.lookup a = some o ∧ o.cls = .type "list" ∧ o.dict = none ∧ o.data = .seq its n ∧ its.size ≤ sizeLine ∧ Vals (ns.map V.int) its.toList
theorem ScrAt.seq {C : Rc} {H : Hp} {a : Addr} {ns : List Int} (h : ScrAt C H a ns) : SqL C.K H a (ns.map V.int) := by
  rcases h with h | h
  · exact .inl (.inr h)
  · exact .inr h
section
variable (C : Rc) (H : Hp) (r : List Addr)
mutual
def RepW : W → V → Prop
  | .non, v => v = .non
  | .bl b, v => v = .bl b
  | .int i, v => v = .int i
  | .str s, v => v = .str (tx s)
  | .tup ws, v => ∃ a vs, v = .ref a ∧ SqT C.K H a vs ∧ RepWs ws vs
  | .ref n, v => ∃ a, v = .ref a ∧ r[n]? = some a
  | .scr ns, v => ∃ a, v = .ref a ∧ ns.length ≤ 63 ∧ ScrAt C H a ns
def RepWs : List W → List V → Prop
  | [], vs => vs = []
  | w :: ws, vs => ∃ v vr, vs = v :: vr ∧ RepW w v ∧ RepWs ws vr
end
/-- the raw entries of a dict whose keys are tuples -/
def RawT (a : Addr) (xs : List (NestedKey × Addr × Value)) : Heap → Prop := fun h => ∃ o es ep, h.get? a = some o ∧ o.ExactDict ∧ o.data = .dict es ep ∧
  es.toList = xs.map fun x => (⟨x.1.hash C.w, .ref x.2.1, x.2.2⟩ : DictEntry)
/-- the pairs of a dict by tuples -/
def PrT (kvs : List (W × W)) (xs : List (NestedKey × Addr × Value)) : Prop := Paired (fun (p : W × W) (x : NestedKey × Addr × Value) =>
  keyN p.1 = x.1 ∧ RepW C H r p.1 (.ref x.2.1) ∧ ∃ v, RepW C H r p.2 v ∧ RelV v x.2.2) kvs xs
/-- the pairs of a dict by ints and texts -/
def PrA (kvs : List (W × W)) (xs : List (Key × V)) : Prop := Paired (fun (p : W × W) (x : Key × V) => keyA p.1 = x.1 ∧ RepW C H r p.2 x.2) kvs xs
structure DicAt (lk : Bool) (kvs : List (W × W)) (a : Addr) : Prop where
  few : kvs.length ≤ 1000000
  nd : (kvs.map (·.1)).Nodup
  key : ∀ p ∈ kvs, isK p.1 = true ∧ dep p.1 ≤ 8
  obj : ((∀ p ∈ kvs, isT p.1 = false) ∧ ∃ xs, LK lk H a (.dK xs) ∧ PrA C H r kvs xs) ∨
    ((kvs ≠ [] ∧ ∀ p ∈ kvs, isT p.1 = true) ∧ (a == sysModules) = false ∧ ∃ xs, LK lk H a (.ext (RawT C a xs)) ∧ PrT C H r kvs xs)
def RepO : O → Addr → Prop
  | .lst ws, a => ∃ vs, H a = some (.lst vs) ∧ RepWs C H r ws vs
  | .dic kvs, a => DicAt C H r false kvs a
  | .dlk kvs, a => DicAt C H r true kvs a
  | .ins c fs, a => ∃ dx vs, H a = some (.ins (C.cls c) dx ((fs.map fun p => tx p.1).zip vs)) ∧ RepWs C H r (fs.map (·.2)) vs
structure RepM (M : Mem) : Prop where
  len : r.length = M.length
  obj : ∀ (i : Nat) (a : Addr) (o : O), r[i]? = some a → M[i]? = some o → RepO C H r o a
  nd : r.Nodup
def RepS (s : Sl) (σ : L2.St) : Prop := s.length = σ.length ∧ ∀ (i : Nat) (w : W), s[i]? = some (some w) → ∃ v, σ[i]? = some (some v) ∧ RepW C H r w v
end

section
variable {C : Rc} {H H' : Hp} {r r' : List Addr} {M M' : Mem}
/-- how a heap and its places go on: nothing else that was tracked is touched, the new places are new -/
structure Mono (r r' : List Addr) (H H' : Hp) : Prop where
  pre : ∃ t, r' = r ++ t ∧ ∀ a ∈ t, H a = none
  keep : ∀ a o, H a = some o → (a ∉ r ∨ frzH o = true) → H' a = some o
theorem Mono.refl (r : List Addr) (H : Hp) : Mono r r H H := ⟨⟨[], by simp, by simp⟩, fun _ _ h _ => h⟩
theorem RepO.some {o : O} {a : Addr} (h : RepO C H r o a) : ∃ u, H a = Option.some u ∧ (∀ xs, u ≠ .tup xs) ∧ ∀ b x, u = .frz b x → (∃ xs, x = .dK xs) ∨ ∃ P, x = .ext P := by
  have dic : ∀ lk kvs, DicAt C H r lk kvs a → ∃ u, H a = Option.some u ∧ (∀ xs, u ≠ .tup xs) ∧ ∀ b x, u = .frz b x → (∃ xs, x = .dK xs) ∨ ∃ P, x = .ext P := fun lk kvs d => by
    rcases d.obj with ⟨_, xs, e, _⟩ | ⟨_, _, xs, e, _⟩ <;> cases lk
    · exact ⟨_, e, by simp, by simp⟩
    · obtain ⟨o, e⟩ := e
      exact ⟨_, e, by simp, fun b x z => by cases z; exact .inl ⟨_, rfl⟩⟩
    · exact ⟨_, e, by simp, by simp⟩
    · obtain ⟨o, e⟩ := e
      exact ⟨_, e, by simp, fun b x z => by cases z; exact .inr ⟨_, rfl⟩⟩
  cases o with
  | lst ws => obtain ⟨vs, e, _⟩ := h; exact ⟨_, e, by simp, by simp⟩
  | dic kvs => exact dic false kvs h
  | dlk kvs => exact dic true kvs h
  | ins c fs => obtain ⟨dx, vs, e, _⟩ := h; exact ⟨_, e, by simp, by simp⟩
theorem RepM.at (m : RepM C H r M) {a : Addr} (h : a ∈ r) : ∃ (i : Nat) (o : O), r[i]? = some a ∧ M[i]? = some o ∧ RepO C H r o a := by
  obtain ⟨i, hi⟩ := List.mem_iff_getElem?.mp h
  have hl : i < M.length := by rw [← m.len]; exact (List.getElem?_eq_some_iff.mp hi).1
  exact ⟨i, M[i], hi, List.getElem?_eq_getElem hl, m.obj i a _ hi (List.getElem?_eq_getElem hl)⟩
theorem RepM.has (m : RepM C H r M) {a : Addr} (h : a ∈ r) : ∃ u, H a = some u ∧ (∀ xs, u ≠ .tup xs) ∧ ∀ b x, u = .frz b x → (∃ xs, x = .dK xs) ∨ ∃ P, x = .ext P := by
  obtain ⟨i, o, _, _, q⟩ := m.at h
  exact q.some
theorem RepM.notup (m : RepM C H r M) {a : Addr} {xs : List V} (h : H a = some (.tup xs)) : a ∉ r := fun hm => by
  obtain ⟨u, e, n, _⟩ := m.has hm
  rw [h] at e
  exact n xs (Option.some.inj e).symm
theorem RepM.nofrz (m : RepM C H r M) {a : Addr} {b : Obj} {x : HO} (h : H a = some (.frz b x)) (n1 : ∀ xs, x ≠ .dK xs) (n2 : ∀ P, x ≠ .ext P) : a ∉ r := fun hm => by
  obtain ⟨u, e, _, n⟩ := m.has hm
  rw [h] at e
  rcases n b x (Option.some.inj e).symm with ⟨_, z⟩ | ⟨_, z⟩
  · exact n1 _ z
  · exact n2 _ z
theorem RepM.new (m : RepM C H r M) {a : Addr} (h : H a = none) : a ∉ r := fun hm => by
  obtain ⟨u, e, _⟩ := m.has hm
  rw [h] at e
  cases e
theorem Mono.trans {r2 : List Addr} {H2 : Hp} (a : Mono r r' H H') (m : RepM C H' r' M') (b : Mono r' r2 H' H2) : Mono r r2 H H2 := by
  obtain ⟨t, e, ht⟩ := a.pre
  obtain ⟨u, f, hu⟩ := b.pre
  have back : ∀ c, H' c = none → c ∉ r' := fun c hc => m.new hc
  refine ⟨⟨t ++ u, by rw [f, e, List.append_assoc], fun c hc => ?_⟩, fun c o h hr => ?_⟩
  · rcases List.mem_append.mp hc with hc | hc
    · exact ht c hc
    · have hn := hu c hc
      cases q : H c with
      | none => rfl
      | some o =>
        by_cases hr : c ∈ r
        · exact absurd (show c ∈ r' by rw [e]; exact List.mem_append_left _ hr) (back c hn)
        · rw [a.keep c o q (.inl hr)] at hn
          cases hn
  · rcases hr with hr | hr
    · have hr' : c ∉ r' := fun hm => by
        rw [e] at hm
        rcases List.mem_append.mp hm with z | z
        · exact hr z
        · rw [ht c z] at h
          cases h
      exact b.keep c o (a.keep c o h (.inl hr)) (.inl hr')
    · exact b.keep c o (a.keep c o h (.inr hr)) (.inr hr)
theorem Mono.ix {i : Nat} {a : Addr} (x : Mono r r' H H') (h : r[i]? = some a) : r'[i]? = some a := by
  obtain ⟨t, e, _⟩ := x.pre
  rw [e, List.getElem?_append_left (List.getElem?_eq_some_iff.mp h).1]
  exact h
theorem Mono.tup {a : Addr} {xs : List V} (x : Mono r r' H H') (m : RepM C H r M) (h : SqT C.K H a xs) : SqT C.K H' a xs := by
  rcases h with (h | ⟨o, h⟩) | h
  · exact .inl (.inl (x.keep _ _ h (.inl (m.notup h))))
  · exact .inl (.inr ⟨o, x.keep _ _ h (.inr rfl)⟩)
  · exact .inr h
theorem Mono.scr {a : Addr} {ns : List Int} (x : Mono r r' H H') (m : RepM C H r M) (h : ScrAt C H a ns) : ScrAt C H' a ns := by
  rcases h with ⟨o, h⟩ | h
  · exact .inl ⟨o, x.keep _ _ h (.inr rfl)⟩
  · exact .inr h
mutual
theorem RepW.go (x : Mono r r' H H') (m : RepM C H r M) : ∀ (w : W) (v : V), RepW C H r w v → RepW C H' r' w v
  | .non, v, h => h
  | .bl _, v, h => h
  | .int _, v, h => h
  | .str _, v, h => h
  | .tup ws, v, h => by
    obtain ⟨a, vs, e, s, q⟩ := h
    exact ⟨a, vs, e, x.tup m s, RepWs.go x m ws vs q⟩
  | .ref n, v, h => by
    obtain ⟨a, e, q⟩ := h
    exact ⟨a, e, x.ix q⟩
  | .scr ns, v, h => by
    obtain ⟨a, e, l, q⟩ := h
    exact ⟨a, e, l, x.scr m q⟩
theorem RepWs.go (x : Mono r r' H H') (m : RepM C H r M) : ∀ (ws : List W) (vs : List V), RepWs C H r ws vs → RepWs C H' r' ws vs
  | [], vs, h => h
  | w :: ws, vs, h => by
    obtain ⟨v, vr, e, p, q⟩ := h
    exact ⟨v, vr, e, RepW.go x m w v p, RepWs.go x m ws vr q⟩
end
theorem RepWs.length : ∀ {ws : List W} {vs : List V}, RepWs C H r ws vs → vs.length = ws.length
  | [], vs, h => by rw [show vs = [] from h]; rfl
  | w :: ws, vs, h => by
    obtain ⟨v, vr, e, _, q⟩ := h
    rw [e, List.length_cons, List.length_cons, RepWs.length q]
theorem RepWs.get : ∀ {ws : List W} {vs : List V} {i : Nat} {w : W}, RepWs C H r ws vs → ws[i]? = some w → ∃ v, vs[i]? = some v ∧ RepW C H r w v
  | [], _, _, _, _, e => by simp at e
  | w :: ws, vs, 0, w', h, e => by
    obtain ⟨v, vr, rfl, p, _⟩ := h
    simp at e
    subst e
    exact ⟨v, rfl, p⟩
  | w :: ws, vs, i + 1, w', h, e => by
    obtain ⟨v, vr, rfl, _, q⟩ := h
    obtain ⟨v', e', p'⟩ := RepWs.get (i := i) q (by simpa using e)
    exact ⟨v', by simpa using e', p'⟩
theorem RepWs.app : ∀ {ws : List W} {vs : List V} {xs : List W} {us : List V}, RepWs C H r ws vs → RepWs C H r xs us → RepWs C H r (ws ++ xs) (vs ++ us)
  | [], vs, _, _, h, k => by rw [show vs = [] from h]; exact k
  | w :: ws, vs, _, _, h, k => by
    obtain ⟨v, vr, rfl, p, q⟩ := h
    exact ⟨v, vr ++ _, rfl, p, RepWs.app q k⟩
theorem RepWs.one {w : W} {v : V} (h : RepW C H r w v) : RepWs C H r [w] [v] := ⟨v, [], rfl, h, rfl⟩
theorem RepWs.cons {w : W} {v : V} {ws : List W} {vs : List V} (h : RepW C H r w v) (k : RepWs C H r ws vs) : RepWs C H r (w :: ws) (v :: vs) := ⟨v, vs, rfl, h, k⟩
theorem RepWs.set : ∀ {ws : List W} {vs : List V} (i : Nat) {w : W} {v : V}, RepWs C H r ws vs → RepW C H r w v → RepWs C H r (ws.set i w) (vs.set i v)
  | [], vs, _, _, _, h, _ => by rw [show vs = [] from h]; rfl
  | x :: ws, vs, 0, w, v, h, k => by
    obtain ⟨u, vr, rfl, p, q⟩ := h
    exact ⟨v, vr, rfl, k, q⟩
  | x :: ws, vs, i + 1, w, v, h, k => by
    obtain ⟨u, vr, rfl, p, q⟩ := h
    exact ⟨u, vr.set i v, rfl, p, RepWs.set i q k⟩
theorem RepWs.take : ∀ {ws : List W} {vs : List V} (i : Nat), RepWs C H r ws vs → RepWs C H r (ws.take i) (vs.take i)
  | [], vs, i, h => by rw [show vs = [] from h]; simp [RepWs]
  | w :: ws, vs, 0, h => by simp [RepWs]
  | w :: ws, vs, i + 1, h => by
    obtain ⟨v, vr, rfl, p, q⟩ := h
    exact ⟨v, vr.take i, rfl, p, RepWs.take i q⟩
theorem RepWs.drop : ∀ {ws : List W} {vs : List V} (i : Nat), RepWs C H r ws vs → RepWs C H r (ws.drop i) (vs.drop i)
  | [], vs, i, h => by rw [show vs = [] from h]; simp [RepWs]
  | w :: ws, vs, 0, h => by simpa using h
  | w :: ws, vs, i + 1, h => by
    obtain ⟨v, vr, rfl, p, q⟩ := h
    simpa using RepWs.drop i q
theorem RepS.go {s : Sl} {σ : L2.St} (x : Mono r r' H H') (m : RepM C H r M) (h : RepS C H r s σ) : RepS C H' r' s σ :=
  ⟨h.1, fun i w e => let ⟨v, e', p⟩ := h.2 i w e; ⟨v, e', RepW.go x m w v p⟩⟩
theorem RepS.put {s : Sl} {σ : L2.St} {i : Nat} {w : W} {v : V} (h : RepS C H r s σ) (k : RepW C H r w v) : RepS C H r (setS s i w) (σ.set i (some v)) := by
  refine ⟨by simp [setS, h.1], fun j x e => ?_⟩
  unfold setS at e
  by_cases hj : i = j
  · subst hj
    have hi : i < s.length := by
      by_cases hl : i < s.length
      · exact hl
      · rw [List.getElem?_eq_none (by simpa using hl)] at e
        cases e
    rw [List.getElem?_set_self hi] at e
    cases e
    exact ⟨v, List.getElem?_set_self (by rw [← h.1]; exact hi), k⟩
  · rw [List.getElem?_set_ne hj] at e
    obtain ⟨u, e', p⟩ := h.2 j x e
    exact ⟨u, by rw [List.getElem?_set_ne hj]; exact e', p⟩

/-! ### the store goes on -/
/-- a new object that is not of the store -/
theorem Mono.temp {p : Addr} {o : HO} (hp : H p = none) : Mono r r H (upd H p o) :=
  ⟨⟨[], by simp, by simp⟩, fun a u h _ => by rw [upd_ne (ne_of_none h hp)]; exact h⟩
theorem PrT.go {kvs : List (W × W)} {xs : List (NestedKey × Addr × Value)} (x : Mono r r' H H') (m : RepM C H r M) (h : PrT C H r kvs xs) : PrT C H' r' kvs xs :=
  Paired.mapP h fun p y ⟨a, b, v, c, d⟩ => ⟨a, RepW.go x m _ _ b, v, RepW.go x m _ _ c, d⟩
theorem PrA.go {kvs : List (W × W)} {xs : List (Key × V)} (x : Mono r r' H H') (m : RepM C H r M) (h : PrA C H r kvs xs) : PrA C H' r' kvs xs :=
  Paired.mapP h fun p y ⟨a, b⟩ => ⟨a, RepW.go x m _ _ b⟩
theorem DicAt.go {lk : Bool} {kvs : List (W × W)} {a : Addr} (x : Mono r r' H H') (m : RepM C H r M) (h : DicAt C H r lk kvs a) (e : H' a = H a) : DicAt C H' r' lk kvs a := by
  refine DicAt.mk h.few h.nd h.key ?_
  rcases h.obj with ⟨n, xs, e1, q⟩ | ⟨n, n2, xs, e1, q⟩
  · exact .inl ⟨n, xs, e1.eq e, PrA.go x m q⟩
  · exact .inr ⟨n, n2, xs, e1.eq e, PrT.go x m q⟩
/-- an object of the store that is not touched -/
theorem RepO.go {o : O} {a : Addr} (x : Mono r r' H H') (m : RepM C H r M) (h : RepO C H r o a) (e : H' a = H a) : RepO C H' r' o a := by
  cases o with
  | lst ws => obtain ⟨vs, e1, q⟩ := h; exact ⟨vs, e.trans e1, RepWs.go x m _ _ q⟩
  | dic kvs =>
    exact DicAt.go x m h e
  | dlk kvs => exact DicAt.go x m h e
  | ins c fs => obtain ⟨dx, vs, e1, q⟩ := h; exact ⟨dx, vs, e.trans e1, RepWs.go x m _ _ q⟩
theorem RepM.temp {p : Addr} {o : HO} (m : RepM C H r M) (hp : H p = none) : RepM C (upd H p o) r M :=
  ⟨m.len, fun i a o' h1 h2 => RepO.go (Mono.temp hp) m (m.obj i a o' h1 h2) (upd_ne fun e => m.new hp (by rw [← e]; exact List.mem_of_getElem? h1)), m.nd⟩
/-- a new object of the store -/
theorem Mono.alloc {p : Addr} {o : HO} (hp : H p = none) : Mono r (r ++ [p]) H (upd H p o) :=
  ⟨⟨[p], rfl, fun a ha => by rw [List.mem_singleton.mp ha]; exact hp⟩, fun a u h _ => by rw [upd_ne (ne_of_none h hp)]; exact h⟩
theorem RepM.alloc {p : Addr} {u : HO} {o : O} (m : RepM C H r M) (hp : H p = none) (h : RepO C (upd H p u) (r ++ [p]) o p) : RepM C (upd H p u) (r ++ [p]) (M ++ [o]) := by
  refine ⟨by simp [m.len], fun i a o' h1 h2 => ?_, ?_⟩
  · by_cases hi : i < r.length
    · rw [List.getElem?_append_left hi] at h1
      rw [List.getElem?_append_left (by rw [← m.len]; exact hi)] at h2
      exact RepO.go (Mono.alloc hp) m (m.obj i a o' h1 h2) (upd_ne fun e => m.new hp (by rw [← e]; exact List.mem_of_getElem? h1))
    · have hl : i < (r ++ [p]).length := (List.getElem?_eq_some_iff.mp h1).1
      have e : i = r.length := by simp at hl; omega
      subst e
      rw [List.getElem?_append_right (Nat.le_refl _)] at h1
      rw [m.len, List.getElem?_append_right (Nat.le_refl _)] at h2
      simp at h1 h2
      subst h1 h2
      exact h
  · refine List.nodup_append.mpr ⟨m.nd, by simp, fun a ha b hb e => ?_⟩
    rw [List.mem_singleton.mp hb] at e
    exact m.new hp (e ▸ ha)
/-- an object of the store is changed -/
theorem Mono.write {p : Addr} {u : HO} (hp : p ∈ r) (hf : ∀ o, H p = some o → frzH o = false) : Mono r r H (upd H p u) :=
  ⟨⟨[], by simp, by simp⟩, fun a o h hr => by
    rw [upd_ne fun e => ?_]
    · exact h
    · subst e
      rcases hr with hr | hr
      · exact hr hp
      · rw [hf o h] at hr
        cases hr⟩
theorem RepM.write {i : Nat} {p : Addr} {u : HO} {o : O} (m : RepM C H r M) (hp : r[i]? = some p) (hf : ∀ o, H p = some o → frzH o = false) (h : RepO C (upd H p u) r o p) : RepM C (upd H p u) r (M.set i o) := by
  refine ⟨by simp [m.len], fun j a o' h1 h2 => ?_, m.nd⟩
  have hi : i < r.length := (List.getElem?_eq_some_iff.mp hp).1
  by_cases hj : i = j
  · subst hj
    rw [hp] at h1
    cases h1
    rw [List.getElem?_set_self (by rw [← m.len]; exact hi)] at h2
    cases h2
    exact h
  · rw [List.getElem?_set_ne hj] at h2
    refine RepO.go (Mono.write (List.mem_of_getElem? hp) hf) m (m.obj j a o' h1 h2) (upd_ne fun e => hj ?_)
    subst e
    exact (List.getElem?_inj hi m.nd).mp (hp.trans h1.symm)
end
/-! ### more places -/
section
variable {C : Rc} {H : Hp} {r t : List Addr}
theorem ix_pre {i : Nat} {a : Addr} (h : r[i]? = some a) : (r ++ t)[i]? = some a := by
  rw [List.getElem?_append_left (List.getElem?_eq_some_iff.mp h).1]
  exact h
mutual
theorem RepW_pre : ∀ {w : W} {v : V}, RepW C H r w v → RepW C H (r ++ t) w v
  | .non, v, h => h
  | .bl _, v, h => h
  | .int _, v, h => h
  | .str _, v, h => h
  | .tup ws, v, h => by
    obtain ⟨a, vs, e, s, q⟩ := h
    exact ⟨a, vs, e, s, RepWs_pre q⟩
  | .ref n, v, h => by
    obtain ⟨a, e, q⟩ := h
    exact ⟨a, e, ix_pre q⟩
  | .scr ns, v, h => h
theorem RepWs_pre : ∀ {ws : List W} {vs : List V}, RepWs C H r ws vs → RepWs C H (r ++ t) ws vs
  | [], vs, h => h
  | w :: ws, vs, h => by
    obtain ⟨v, vr, e, p, q⟩ := h
    exact ⟨v, vr, e, RepW_pre p, RepWs_pre q⟩
end
theorem DicAt_pre {lk : Bool} {kvs : List (W × W)} {a : Addr} (h : DicAt C H r lk kvs a) : DicAt C H (r ++ t) lk kvs a := by
  refine DicAt.mk h.few h.nd h.key ?_
  rcases h.obj with ⟨n, xs, e, q⟩ | ⟨n, n2, xs, e, q⟩
  · exact .inl ⟨n, xs, e, Paired.mapP q fun p y ⟨a, b⟩ => ⟨a, RepW_pre b⟩⟩
  · exact .inr ⟨n, n2, xs, e, Paired.mapP q fun p y ⟨a, b, v, c, d⟩ => ⟨a, RepW_pre b, v, RepW_pre c, d⟩⟩
theorem RepO_pre {o : O} {a : Addr} (h : RepO C H r o a) : RepO C H (r ++ t) o a := by
  cases o with
  | lst ws => obtain ⟨vs, e, q⟩ := h; exact ⟨vs, e, RepWs_pre q⟩
  | dic kvs =>
    exact DicAt_pre h
  | dlk kvs => exact DicAt_pre h
  | ins c fs => obtain ⟨dx, vs, e, q⟩ := h; exact ⟨dx, vs, e, RepWs_pre q⟩
end
end Sw

set_option autoImplicit false
set_option Elab.async false
set_option linter.all false
set_option maxRecDepth 100000
/-! The readings: what a pure result promises of the model. -/
namespace Sw
open PySem PySem.Spec L2
section
variable (C : Rc) (E : XK)
/-- how an exception lies in the model -/
def RepX (H : Hp) (r : List Addr) (x : Xn) (c : Value) (d : Option Addr) : Prop := c = .ref (C.cls x.cls) ∧ ((x.arg = .non ∧ d = none) ∨ x.arg ≠ .non ∧ ∃ b f v, d = some b ∧ H b = some (.xd [(f, v)]) ∧ RepW C H r x.arg v)
/-- what is wanted of a result: at these places, in this heap -/
abbrev KT (α : Type) := List Addr → Hp → α → Mem → Prop
def PG {α : Type} (r : List Addr) (H : Hp) (o : Out α) (K : α → Mem → Prop) : Prop := match o with
  | none => False
  | some (.ok a, M') => K a M'
  | some (.error x, M') => ∀ c d H' r', Mono r r' H H' → RepM C H' r' M' → RepX C H' r' x c d → E c d H'
def Kv (Q : VK) : KT W := fun r H w M => ∀ v H' r', Mono r r' H H' → RepM C H' r' M → RepW C H' r' w v → Q v H'
def Kl (Q : List V → Hp → Prop) : KT (List W) := fun r H ws M => ∀ vs H' r', Mono r r' H H' → RepM C H' r' M → RepWs C H' r' ws vs → Q vs H'
def Kb (Q : Bool → Hp → Prop) : KT W := fun r H w M => ∃ b, w = .bl b ∧ ∀ H' r', Mono r r' H H' → RepM C H' r' M → Q b H'
/-- a new list that is not of the store -/
def Kf (Q : VK) : KT (List W) := fun r H ws M => ∀ p vs H' r', Mono r r' H H' → RepM C H' r' M → RepWs C H' r' ws vs → H' p = some (.lst vs) → p ∉ r' → H p = none → ws.length ≤ 1000000 → Q (.ref p) H'
/-- any list or tuple that may be read -/
def Kr (Q : VK) : KT (List W) := fun r H ws M => ∀ p vs H' r', Mono r r' H H' → RepM C H' r' M → RepWs C H' r' ws vs → (SqL C.K H' p vs ∨ SqT C.K H' p vs) → Q (.ref p) H'
def Ks (D : Ends) : KT Fl := fun r H fl M => match fl with
  | .nx s => ∀ σ' H' r', Mono r r' H H' → RepM C H' r' M → RepS C H' r' s σ' → D.nx σ' H'
  | .rt w => ∀ v H' r', Mono r r' H H' → RepM C H' r' M → RepW C H' r' w v → D.rt v H'
/-- the readings -/
def tE (m : EM) : TE := fun σ H Q => ∃ s M r, RepS C H r s σ ∧ RepM C H r M ∧ PG C E r H (m s M) (Kv C Q r H)
def tT (m : EM) : TT := fun σ H Q => ∃ s M r, RepS C H r s σ ∧ RepM C H r M ∧ PG C E r H (m s M) (Kb C Q r H)
def tA (m : LM) : TA := fun σ H Q => ∃ s M r, RepS C H r s σ ∧ RepM C H r M ∧ PG C E r H (m s M) (Kl C Q r H)
def tF (m : LM) : TE := fun σ H Q => ∃ s M r, RepS C H r s σ ∧ RepM C H r M ∧ PG C E r H (m s M) (Kf C Q r H)
def tR (m : LM) : TE := fun σ H Q => ∃ s M r, RepS C H r s σ ∧ RepM C H r M ∧ PG C E r H (m s M) (Kr C Q r H)
def tS (m : SM) : TS := fun D σ H => ∃ s M r, RepS C H r s σ ∧ RepM C H r M ∧ PG C E r H (m s M) (Ks C D r H)
/-- an operation by values -/
def r2 (f : Op2) : R2 := fun x y H Q => ∃ r M a b, RepM C H r M ∧ RepW C H r a x ∧ RepW C H r b y ∧ PG C E r H (f a b M) (Kv C Q r H)
def r1 (f : Op1) : V → Hp → VK → Prop := fun x H Q => ∃ r M a, RepM C H r M ∧ RepW C H r a x ∧ PG C E r H (f a M) (Kv C Q r H)
def rn (f : List W → Mem → Out W) : List V → Hp → VK → Prop := fun xs H Q => ∃ r M ws, RepM C H r M ∧ RepWs C H r ws xs ∧ PG C E r H (f ws M) (Kv C Q r H)
/-- what is wanted still is when one has gone on -/
def Cl {α : Type} (K : KT α) : Prop := ∀ (r r' : List Addr) (H H' : Hp) (M' : Mem) (a : α) (M : Mem), Mono r r' H H' → RepM C H' r' M' → K r H a M → K r' H' a M
end
section
variable {C : Rc} {E : XK} {H H' : Hp} {r r' : List Addr} {M M' : Mem}
theorem Mono.none_back (x : Mono r r' H H') (m' : RepM C H' r' M') {p : Addr} (h : H' p = none) : H p = none := by
  cases q : H p with
  | none => rfl
  | some o =>
    by_cases hr : p ∈ r
    · obtain ⟨t, e, _⟩ := x.pre
      exact absurd h (fun z => m'.new z (by rw [e]; exact List.mem_append_left _ hr))
    · rw [x.keep _ _ q (.inl hr)] at h
      cases h
theorem Kv_cl {Q : VK} : Cl C (Kv C Q) := fun r r' H H' M' a M x m h v H2 r2 y m2 q => h v H2 r2 (x.trans m y) m2 q
theorem Kl_cl {Q : List V → Hp → Prop} : Cl C (Kl C Q) := fun r r' H H' M' a M x m h v H2 r2 y m2 q => h v H2 r2 (x.trans m y) m2 q
theorem Kb_cl {Q : Bool → Hp → Prop} : Cl C (Kb C Q) := fun r r' H H' M' a M x m ⟨b, e, h⟩ => ⟨b, e, fun H2 r2 y m2 => h H2 r2 (x.trans m y) m2⟩
theorem Kf_cl {Q : VK} : Cl C (Kf C Q) := fun r r' H H' M' a M x m h p vs H2 r2 y m2 q hp hn h0 hl => h p vs H2 r2 (x.trans m y) m2 q hp hn (x.none_back m h0) hl
theorem Kr_cl {Q : VK} : Cl C (Kr C Q) := fun r r' H H' M' a M x m h p vs H2 r2 y m2 q hp => h p vs H2 r2 (x.trans m y) m2 q hp
theorem Ks_cl {D : Ends} : Cl C (Ks C D) := fun r r' H H' M' a M x m h => by
  cases a with
  | nx s => exact fun v H2 r2 y m2 q => h v H2 r2 (x.trans m y) m2 q
  | rt s => exact fun v H2 r2 y m2 q => h v H2 r2 (x.trans m y) m2 q
theorem PG.go {α : Type} {K : KT α} {o : Out α} (cl : Cl C K) (x : Mono r r' H H') (m : RepM C H' r' M') (h : PG C E r H o (K r H)) : PG C E r' H' o (K r' H') := by
  unfold PG at h ⊢
  split at h
  · exact h
  · exact cl _ _ _ _ _ _ _ x m h
  · exact fun c d H2 r2 y m2 q => h c d H2 r2 (x.trans m y) m2 q
theorem PG.imp {α : Type} {K K' : α → Mem → Prop} {o : Out α} (h : PG C E r H o K) (f : ∀ a M, o = some (.ok a, M) → K a M → K' a M) : PG C E r H o K' := by
  unfold PG at h ⊢
  split at h
  · exact h
  · exact f _ _ rfl h
  · exact h
/-- one after the other -/
theorem PG.fst {α β : Type} {K : KT β} {o : Out α} {f : α → Mem → Out β} (cl : Cl C K) (h : PG C E r H (bnd o f) (K r H)) :
    PG C E r H o fun a M1 => ∀ r1 H1, Mono r r1 H H1 → RepM C H1 r1 M1 → PG C E r1 H1 (f a M1) (K r1 H1) := by
  cases o with
  | none => exact h
  | some p =>
    obtain ⟨e, M1⟩ := p
    cases e with
    | error x => exact h
    | ok w => exact fun r1 H1 x m => PG.go cl x m h
/-- a value's reading, and on -/
theorem tE_on {β : Type} {m : EM} {f : W → Mem → Out β} {K : KT β} {Q : VK} {σ : L2.St} {s : Sl} (cl : Cl C K) (hs : RepS C H r s σ) (hm : RepM C H r M) (h : PG C E r H (bnd (m s M) f) (K r H))
    (k : ∀ v H1 r1 M1 w, Mono r r1 H H1 → RepM C H1 r1 M1 → RepW C H1 r1 w v → RepS C H1 r1 s σ → PG C E r1 H1 (f w M1) (K r1 H1) → Q v H1) : tE C E m σ H Q :=
  ⟨s, M, r, hs, hm, (h.fst cl).imp fun a M1 _ q v H1 r1 x m1 p => k v H1 r1 M1 a x m1 p (hs.go x hm) (q r1 H1 x m1)⟩
theorem tA_on {β : Type} {m : LM} {f : List W → Mem → Out β} {K : KT β} {Q : List V → Hp → Prop} {σ : L2.St} {s : Sl} (cl : Cl C K) (hs : RepS C H r s σ) (hm : RepM C H r M) (h : PG C E r H (bnd (m s M) f) (K r H))
    (k : ∀ vs H1 r1 M1 ws, m s M = some (.ok ws, M1) → Mono r r1 H H1 → RepM C H1 r1 M1 → RepWs C H1 r1 ws vs → RepS C H1 r1 s σ → PG C E r1 H1 (f ws M1) (K r1 H1) → Q vs H1) : tA C E m σ H Q :=
  ⟨s, M, r, hs, hm, (h.fst cl).imp fun a M1 e q v H1 r1 x m1 p => k v H1 r1 M1 a e x m1 p (hs.go x hm) (q r1 H1 x m1)⟩
theorem tT_on {β : Type} {m : EM} {f : W → Mem → Out β} {K : KT β} {Q : Bool → Hp → Prop} {σ : L2.St} {s : Sl} (cl : Cl C K) (hs : RepS C H r s σ) (hm : RepM C H r M) (h : PG C E r H (bnd (m s M) f) (K r H))
    (hb : ∀ w M1, (∀ b, w ≠ .bl b) → f w M1 = none)
    (k : ∀ b H1 r1 M1, Mono r r1 H H1 → RepM C H1 r1 M1 → RepS C H1 r1 s σ → PG C E r1 H1 (f (.bl b) M1) (K r1 H1) → Q b H1) : tT C E m σ H Q := by
  have h2 := h.fst cl
  refine ⟨s, M, r, hs, hm, ?_⟩
  revert h2
  cases e : m s M with
  | none => intro h2; exact h2
  | some o =>
    obtain ⟨o, M1⟩ := o
    cases o with
    | error x => intro h2; exact h2
    | ok w =>
      intro h2
      by_cases hw : ∃ b, w = .bl b
      · obtain ⟨b, rfl⟩ := hw
        exact ⟨b, rfl, fun H1 r1 x m1 => k b H1 r1 M1 x m1 (hs.go x hm) (h2 r1 H1 x m1)⟩
      · rw [e] at h
        have h : PG C E r H (f w M1) (K r H) := h
        rw [hb w M1 fun b e => hw ⟨b, e⟩] at h
        exact h.elim
theorem tF_on {β : Type} {m : LM} {f : List W → Mem → Out β} {K : KT β} {Q : VK} {σ : L2.St} {s : Sl} (cl : Cl C K) (hs : RepS C H r s σ) (hm : RepM C H r M) (h : PG C E r H (bnd (m s M) f) (K r H))
    (k : ∀ p vs H1 r1 M1 ws, Mono r r1 H H1 → RepM C H1 r1 M1 → RepWs C H1 r1 ws vs → H1 p = some (.lst vs) → p ∉ r1 → H p = none → ws.length ≤ 1000000 → RepS C H1 r1 s σ → PG C E r1 H1 (f ws M1) (K r1 H1) → Q (.ref p) H1) : tF C E m σ H Q :=
  ⟨s, M, r, hs, hm, (h.fst cl).imp fun a M1 _ q p v H1 r1 x m1 y h1 h2 h3 h4 => k p v H1 r1 M1 a x m1 y h1 h2 h3 h4 (hs.go x hm) (q r1 H1 x m1)⟩
theorem tR_on {β : Type} {m : LM} {f : List W → Mem → Out β} {K : KT β} {Q : VK} {σ : L2.St} {s : Sl} (cl : Cl C K) (hs : RepS C H r s σ) (hm : RepM C H r M) (h : PG C E r H (bnd (m s M) f) (K r H))
    (k : ∀ p vs H1 r1 M1 ws, Mono r r1 H H1 → RepM C H1 r1 M1 → RepWs C H1 r1 ws vs → (SqL C.K H1 p vs ∨ SqT C.K H1 p vs) → RepS C H1 r1 s σ → PG C E r1 H1 (f ws M1) (K r1 H1) → Q (.ref p) H1) : tR C E m σ H Q :=
  ⟨s, M, r, hs, hm, (h.fst cl).imp fun a M1 _ q p v H1 r1 x m1 y h1 => k p v H1 r1 M1 a x m1 y h1 (hs.go x hm) (q r1 H1 x m1)⟩
/-- of a reading, what is implied -/
theorem PE.imp {X : Cx} {e : Expr} {t t' : TE} (h : PE X e t) (f : ∀ σ H Q, t' σ H Q → t σ H Q) : PE X e t' := ⟨fun pins s σ H Q I q => h.run pins s σ H Q I (f σ H Q q)⟩
theorem PT.imp {X : Cx} {e : Expr} {t t' : TT} (h : PT X e t) (f : ∀ σ H Q, t' σ H Q → t σ H Q) : PT X e t' := ⟨fun pins s σ H Q I q => h.run pins s σ H Q I (f σ H Q q)⟩
theorem PA.imp {X : Cx} {e : List Expr} {t t' : TA} (h : PA X e t) (f : ∀ σ H Q, t' σ H Q → t σ H Q) : PA X e t' := ⟨fun pos pins s σ H Q I q => h.run pos pins s σ H Q I (f σ H Q q)⟩
theorem PS.imp {X : Cx} {e : Stmt} {t t' : TS} (h : PS X e t) (f : ∀ D σ H, t' D σ H → t D σ H) : PS X e t' := ⟨fun pins s σ H D I q => h.run pins s σ H D I (f D σ H q)⟩
theorem PSs.imp {X : Cx} {e : List Stmt} {t t' : TS} (h : PSs X e t) (f : ∀ D σ H, t' D σ H → t D σ H) : PSs X e t' := ⟨fun pins s σ H D I q => h.run pins s σ H D I (f D σ H q)⟩
end
end Sw

set_option autoImplicit false
set_option Elab.async false
set_option linter.all false
set_option maxRecDepth 100000
/-! Rules: expressions. -/
namespace Sw
open PySem PySem.Spec L2
theorem bnd_inv {α β : Type} {o : Out α} {f : α → Mem → Out β} {b : β} {M : Mem} (h : bnd o f = some (.ok b, M)) : ∃ a M1, o = some (.ok a, M1) ∧ f a M1 = some (.ok b, M) := by
  cases o with
  | none => simp [bnd] at h
  | some p =>
    obtain ⟨e, M1⟩ := p
    cases e with
    | error x => simp [bnd] at h
    | ok a => exact ⟨a, M1, rfl, h⟩
theorem ok_inv {α : Type} {a b : α} {M M' : Mem} (h : ok a M = some (.ok b, M')) : a = b ∧ M = M' := by
  simp only [ok, Option.some.injEq, Prod.mk.injEq, Except.ok.injEq] at h
  exact h
theorem eAs_len : ∀ {ms : List EM} {s : Sl} {M : Mem} {ws : List W} {M' : Mem}, eAs ms s M = some (.ok ws, M') → ws.length = ms.length
  | [], s, M, ws, M', e => by rw [← (ok_inv e).1]; rfl
  | m :: ms, s, M, ws, M', e => by
    obtain ⟨w, M1, _, e⟩ := bnd_inv e
    obtain ⟨us, M2, e2, e⟩ := bnd_inv e
    rw [← (ok_inv e).1, List.length_cons, List.length_cons, eAs_len e2]
section
variable {C : Rc} {E : XK} {X : Cx}
/-! ### arguments, displays -/
theorem i_nil : PA X [] (tA C E (eAs [])) := PA.imp pa_nil fun σ H Q ⟨s, M, r, hs, hm, p⟩ => p [] H r (Mono.refl _ _) hm rfl
theorem i_cons {e : Expr} {es : List Expr} {m : EM} {ms : List EM} (ha : PE X e (tE C E m)) (hr : PA X es (tA C E (eAs ms))) (hs : starEach (e :: es) X.env = (false, eval e X.env) :: starEach es X.env := by rfl) : PA X (e :: es) (tA C E (eAs (m :: ms))) :=
  PA.imp (pa_cons ha hr hs) fun _ _ _ ⟨_, _, _, hs, hm, p⟩ => tE_on Kl_cl hs hm p fun v H1 r1 M1 w x1 m1 q1 s1 p1 =>
    tA_on Kl_cl s1 m1 p1 fun vs H2 r2 M2 ws _ x2 m2 q2 s2 p2 => p2 (v :: vs) H2 r2 (Mono.refl _ _) m2 ⟨v, vs, rfl, RepW.go x2 m1 _ _ q1, q2⟩
theorem i_tup {es : List Expr} {ms : List EM} {x1 : _} {pos : Pos} (h : PA X es (tA C E (eAs ms))) (hl : ms.length ≤ 1000 := by exact Nat.le_of_ble_eq_true rfl) : PE X (.Tuple es x1 pos) (tE C E (eTup ms)) :=
  PE.imp (pe_tup h) fun _ _ _ ⟨_, _, _, hs, hm, p⟩ => tA_on Kv_cl hs hm p fun vs H1 r1 M1 ws e x1 m1 q1 s1 p1 =>
    ⟨by rw [q1.length, eAs_len e]; exact Nat.le_trans hl (by decide), fun a ha => p1 (.ref a) _ r1 (Mono.temp ha) (m1.temp ha) ⟨a, vs, rfl, .inl (.inl upd_same), RepWs.go (Mono.temp ha) m1 _ _ q1⟩⟩
/-- a list that nobody holds yet -/
theorem i_lstF {es : List Expr} {ms : List EM} {pos : Pos} (h : PA X es (tA C E (eAs ms))) (hl : ms.length ≤ 1000 := by exact Nat.le_of_ble_eq_true rfl) : PE X (.List es pos) (tF C E (eAs ms)) :=
  PE.imp (pe_lst h) fun _ _ _ ⟨s, M, r, hs, hm, p⟩ => ⟨s, M, r, hs, hm, p.imp fun ws M1 e k vs H1 r1 x1 m1 q1 =>
    ⟨by rw [q1.length, eAs_len e]; exact Nat.le_trans hl (by decide), fun a ha => k a vs _ r1 (x1.trans m1 (Mono.temp ha)) (m1.temp ha) (RepWs.go (Mono.temp ha) m1 _ _ q1) upd_same (m1.new ha) (x1.none_back m1 ha)
      (by rw [eAs_len e]; exact Nat.le_trans hl (by decide))⟩⟩
/-- a list laid already comes into the store -/
theorem RepM.take {H : Hp} {r : List Addr} {M : Mem} {a : Addr} {ws : List W} {vs : List V} (m : RepM C H r M) (h : H a = some (.lst vs)) (q : RepWs C H r ws vs) (n : a ∉ r) : RepM C H (r ++ [a]) (M ++ [O.lst ws]) := by
  refine ⟨by simp [m.len], fun i b o' h1 h2 => ?_, List.nodup_append.mpr ⟨m.nd, by simp, fun b hb c hc e => n (by rw [← List.mem_singleton.mp hc, ← e]; exact hb)⟩⟩
  by_cases hi : i < r.length
  · rw [List.getElem?_append_left hi] at h1
    rw [List.getElem?_append_left (by rw [← m.len]; exact hi)] at h2
    exact RepO_pre (m.obj i b o' h1 h2)
  · have hl : i < (r ++ [a]).length := (List.getElem?_eq_some_iff.mp h1).1
    have e : i = r.length := by simp at hl; omega
    subst e
    rw [List.getElem?_append_right (Nat.le_refl _)] at h1
    rw [m.len, List.getElem?_append_right (Nat.le_refl _)] at h2
    simp at h1 h2
    subst h1 h2
    exact ⟨vs, h, RepWs_pre q⟩
theorem Mono.take {H H1 : Hp} {r r1 : List Addr} {a : Addr} (x : Mono r r1 H H1) (h0 : H a = none) : Mono r (r1 ++ [a]) H H1 := by
  obtain ⟨t, e1, ht⟩ := x.pre
  exact ⟨⟨t ++ [a], by rw [e1, List.append_assoc], fun b hb => (List.mem_append.mp hb).elim (ht b) fun hb => by rw [List.mem_singleton.mp hb]; exact h0⟩, x.keep⟩
/-- .. taken into the store -/
theorem i_new {e : Expr} {l : LM} (h : PE X e (tF C E l)) : PE X e (tE C E (eNew l)) :=
  PE.imp h fun σ H Q ⟨s, M, r, hs, hm, p⟩ => by
    have p : PG C E r H (bnd (l s M) fun ws M => alloc (.lst ws) M) (Kv C Q r H) := p
    cases e : l s M with
    | none => rw [e] at p; exact p.elim
    | some o =>
      obtain ⟨o, M1⟩ := o
      rw [e] at p
      refine ⟨s, M, r, hs, hm, ?_⟩
      rw [e]
      cases o with
      | error x => exact p
      | ok ws => exact fun a vs H1 r1 x1 m1 q1 ha hn h0 _ => p (.ref a) H1 (r1 ++ [a]) (x1.take h0) (m1.take ha q1 hn) ⟨a, rfl, by rw [← m1.len, List.getElem?_append_right (Nat.le_refl _)]; simp⟩
/-- a list that is not of the store may be read -/
theorem i_ofF {e : Expr} {l : LM} (h : PE X e (tF C E l)) : PE X e (tR C E l) :=
  PE.imp h fun _ _ _ ⟨s, M, r, hs, hm, p⟩ => ⟨s, M, r, hs, hm, p.imp fun ws M1 e k a vs H1 r1 x1 m1 q1 ha hn h0 _ => k a vs H1 r1 x1 m1 q1 (.inl (.inl (.inl ha)))⟩
theorem Kr_of {H : Hp} {r : List Addr} {M : Mem} {w : W} {v : V} {ws : List W} (m : RepM C H r M) (q : RepW C H r w v) (h : items w M = some ws) : ∃ p vs, v = .ref p ∧ (SqL C.K H p vs ∨ SqT C.K H p vs) ∧ RepWs C H r ws vs := by
  cases w with
  | tup xs =>
    obtain ⟨a, vs, e, s, q⟩ := q
    simp only [items, Option.some.injEq] at h
    subst h
    exact ⟨a, vs, e, .inr s, q⟩
  | ref n =>
    obtain ⟨a, e, hn⟩ := q
    unfold items at h
    simp only at h
    split at h
    · rename_i xs hx
      simp only [Option.some.injEq] at h
      subst h
      obtain ⟨vs, h1, q⟩ := m.obj n a _ hn hx
      exact ⟨a, vs, e, .inl (.inl (.inl h1)), q⟩
    · cases h
  | scr ns =>
    obtain ⟨a, e, hl, hs⟩ := q
    simp only [items, Option.some.injEq] at h
    subst h
    refine ⟨a, _, e, .inl hs.seq, ?_⟩
    clear hs hl
    induction ns with
    | nil => rfl
    | cons n ns ih => exact ⟨.int n, ns.map V.int, rfl, rfl, ih⟩
  | _ => simp [items] at h
/-- any list or tuple that is at hand -/
theorem i_lOf {e : Expr} {m : EM} (h : PE X e (tE C E m)) : PE X e (tR C E (lOf m)) :=
  PE.imp h fun _ _ _ ⟨_, _, _, hs, hm, p⟩ => tE_on Kr_cl hs hm p fun v H1 r1 M1 w x1 m1 q1 s1 p1 => by
    cases e : items w M1 with
    | none => rw [e] at p1; exact p1.elim
    | some ws =>
      rw [e] at p1
      obtain ⟨a, vs, ev, sq, q⟩ := Kr_of m1 q1 e
      subst ev
      exact p1 a vs H1 r1 (Mono.refl _ _) m1 q sq
/-! ### names, constants -/
theorem i_V {i : Nat} {x : Str} {pos : Pos} (hN : X.N[i]? = some x) (hv : Vis X.env.scope x) (hd : (x == ("__debug__" : Str)) = false := by decide) (hcd : (x == ("__classdict__" : Str)) = false := by decide) : PE X (.Name x pos) (tE C E (eV i)) :=
  PE.imp (pe_var hN hv hd hcd) fun σ H Q ⟨s, M, r, hs, hm, p⟩ => by
    unfold eV at p
    split at p
    · rename_i w hw
      obtain ⟨v, e, q⟩ := hs.2 i w hw
      exact ⟨v, e, p v H r (Mono.refl _ _) hm q⟩
    · exact p.elim
theorem i_C {e : Expr} {v : V} {w : W} (h : PE X e (tC v)) (q : ∀ H r, RepW C H r w v) : PE X e (tE C E (eC w)) :=
  PE.imp h fun σ H Q ⟨s, M, r, hs, hm, p⟩ => p v H r (Mono.refl _ _) hm (q H r)
theorem i_int {i : Int} {j : Nat} {pos : Pos} : PE X (.Constant (.int i) j pos) (tE C E (eC (.int i))) := i_C pe_int fun _ _ => rfl
theorem i_bl {b : Bool} {j : Nat} {pos : Pos} : PE X (.Constant (.bool b) j pos) (tE C E (eC (.bl b))) := i_C pe_bl fun _ _ => rfl
theorem i_non {j : Nat} {pos : Pos} : PE X (.Constant .none j pos) (tE C E (eC .non)) := i_C pe_non fun _ _ => rfl
theorem tx_cps (x : Str) : tx x.cps.toList = x := by cases x; rfl
theorem i_str {x : Str} {z : Tx} {j : Nat} {pos : Pos} (hz : x = tx z := by rfl) : PE X (.Constant (.str x) j pos) (tE C E (eC (.str z))) := i_C pe_str fun _ _ => by subst hz; rfl
/-! ### operators -/
theorem i_op {op : Operator} {f : Op2} {a b : Expr} {ma mb : EM} {pos : Pos} (ho : OpR X (binaryOp op) (r2 C E f)) (ha : PE X a (tE C E ma)) (hb : PE X b (tE C E mb)) : PE X (.BinOp a op b pos) (tE C E (eOp f ma mb)) :=
  PE.imp (pe_op ho ha hb) fun _ _ _ ⟨_, _, _, hs, hm, p⟩ => tE_on Kv_cl hs hm p fun v H1 r1 M1 w x1 m1 q1 s1 p1 =>
    tE_on Kv_cl s1 m1 p1 fun u H2 r2 M2 z x2 m2 q2 s2 p2 => ⟨r2, M2, w, z, m2, RepW.go x2 m1 _ _ q1, q2, p2⟩
theorem i_cmp {op : CmpOp} {f : Op2} {a b : Expr} {ma mb : EM} {pos : Pos} (ho : OpR X (compareOp op) (r2 C E f)) (ha : PE X a (tE C E ma)) (hb : PE X b (tE C E mb)) (hm : behindInMarks op b = false := by rfl) : PE X (.Compare a [op] [b] pos) (tE C E (eOp f ma mb)) :=
  PE.imp (pe_cmpR ho ha hb hm) fun _ _ _ ⟨_, _, _, hs, hm, p⟩ => tE_on Kv_cl hs hm p fun v H1 r1 M1 w x1 m1 q1 s1 p1 =>
    tE_on Kv_cl s1 m1 p1 fun u H2 r2 M2 z x2 m2 q2 s2 p2 => ⟨r2, M2, w, z, m2, RepW.go x2 m1 _ _ q1, q2, p2⟩
theorem i_un {op : UnaryOp} {f : Op1} {a : Expr} {ma : EM} {pos : Pos} (ho : UnR X (unaryOp op) (r1 C E f)) (ha : PE X a (tE C E ma)) : PE X (.UnaryOp op a pos) (tE C E (eUn f ma)) :=
  PE.imp (pe_un ho ha) fun _ _ _ ⟨_, _, _, hs, hm, p⟩ => tE_on Kv_cl hs hm p fun v H1 r1 M1 w x1 m1 q1 s1 p1 => ⟨r1, M1, w, m1, q1, p1⟩
theorem i_ix {a b : Expr} {ma mb : EM} {pos : Pos} {f : Op2} (ho : IxR X (r2 C E f)) (ha : PE X a (tE C E ma)) (hb : PE X b (tE C E mb)) (hs : PlainIx b := by intro _ _; rfl) : PE X (.Subscript a b pos) (tE C E (eOp f ma mb)) :=
  PE.imp (pe_ix ho ha hb hs) fun _ _ _ ⟨_, _, _, hs, hm, p⟩ => tE_on Kv_cl hs hm p fun v H1 r1 M1 w x1 m1 q1 s1 p1 =>
    tE_on Kv_cl s1 m1 p1 fun u H2 r2 M2 z x2 m2 q2 s2 p2 => ⟨r2, M2, w, z, m2, RepW.go x2 m1 _ _ q1, q2, p2⟩
/-! ### tests -/
theorem i_t {e : Expr} {m : EM} (h : PE X e (tE C E m)) (he : ∀ whole, isTrue e X.env whole = (do let v ← whole; standAt e.pos; holding [v] (truthy v)) := by intro _; rfl) : PT X e (tT C E m) :=
  PT.imp (pt_val h he) fun _ _ _ ⟨s, M, r, hs, hm, p⟩ => ⟨s, M, r, hs, hm, p.imp fun w M1 _ ⟨b, e, k⟩ v H1 r1 x1 m1 q1 => by
    subst e
    exact ⟨b, q1, k H1 r1 x1 m1⟩⟩
theorem i_tcmp {op : CmpOp} {f : Op2} {a b : Expr} {ma mb : EM} {pos : Pos} (ho : OpR X (compareOp op) (r2 C E f)) (ha : PE X a (tE C E ma)) (hb : PE X b (tE C E mb)) (hm : behindInMarks op b = false := by rfl) : PT X (.Compare a [op] [b] pos) (tT C E (eOp f ma mb)) :=
  PT.imp (pt_cmpR ho ha hb hm) fun σ H Q ⟨s, M, r, hs, hm, p⟩ => by
    have g : tE C E (eOp f ma mb) σ H (fun z H3 => ∃ k, z = .bl k ∧ Q k H3) := ⟨s, M, r, hs, hm, p.imp fun w M1 _ ⟨b, e, k⟩ v H1 r1 x1 m1 q1 => by
      subst e
      exact ⟨b, q1, k H1 r1 x1 m1⟩⟩
    obtain ⟨s, M, r, hs, hm, p⟩ := g
    exact tE_on Kv_cl hs hm p fun v H1 r1 M1 w x1 m1 q1 s1 p1 => tE_on Kv_cl s1 m1 p1 fun u H2 r2 M2 z x2 m2 q2 s2 p2 => ⟨r2, M2, w, z, m2, RepW.go x2 m1 _ _ q1, q2, p2⟩
theorem i_tnot {a : Expr} {m : EM} {pos : Pos} (ha : PT X a (tT C E m)) : PT X (.UnaryOp .Not a pos) (tT C E (eUn uNot m)) :=
  PT.imp (pt_not ha) fun _ _ _ ⟨_, _, _, hs, hm, p⟩ => tT_on Kb_cl hs hm p (fun w M1 h => by cases w <;> first | rfl | exact absurd rfl (h _)) fun b H1 r1 M1 x1 m1 s1 p1 => by
    obtain ⟨c, e, k⟩ := p1
    cases e
    exact k H1 r1 (Mono.refl _ _) m1
theorem i_tand1 {a : Expr} {m : EM} {pos : Pos} (ha : PT X a (tT C E m)) : PW X (.BoolOp .And [a] pos) (tT C E m) := pw_and1 ha
theorem i_tor1 {a : Expr} {m : EM} {pos : Pos} (ha : PT X a (tT C E m)) : PW X (.BoolOp .Or [a] pos) (tT C E m) := pw_or1 ha
theorem PW.imp {e : Expr} {t t' : TT} (h : PW X e t) (f : ∀ σ H Q, t' σ H Q → t σ H Q) : PW X e t' := ⟨fun wh pins s σ H Q I q => h.run wh pins s σ H Q I (f σ H Q q)⟩
theorem i_tand {a b : Expr} {rest : List Expr} {ma mb : EM} {pos : Pos} (ha : PT X a (tT C E ma)) (hb : PW X (.BoolOp .And (b :: rest) pos) (tT C E mb)) : PW X (.BoolOp .And (a :: b :: rest) pos) (tT C E (eAnd ma mb)) :=
  PW.imp (pw_and ha hb) fun _ _ _ ⟨_, _, _, hs, hm, p⟩ => tT_on Kb_cl hs hm p (fun w M1 h => by cases w <;> first | rfl | exact absurd rfl (h _)) fun b H1 r1 M1 x1 m1 s1 p1 => by
    cases b with
    | true => exact iteT ⟨_, _, _, s1, m1, p1⟩
    | false =>
      refine iteF ?_
      obtain ⟨c, e, k⟩ := p1
      cases e
      exact k H1 r1 (Mono.refl _ _) m1
theorem i_tor {a b : Expr} {rest : List Expr} {ma mb : EM} {pos : Pos} (ha : PT X a (tT C E ma)) (hb : PW X (.BoolOp .Or (b :: rest) pos) (tT C E mb)) : PW X (.BoolOp .Or (a :: b :: rest) pos) (tT C E (eOr ma mb)) :=
  PW.imp (pw_or ha hb) fun _ _ _ ⟨_, _, _, hs, hm, p⟩ => tT_on Kb_cl hs hm p (fun w M1 h => by cases w <;> first | rfl | exact absurd rfl (h _)) fun b H1 r1 M1 x1 m1 s1 p1 => by
    cases b with
    | false => exact iteF ⟨_, _, _, s1, m1, p1⟩
    | true =>
      refine iteT ?_
      obtain ⟨c, e, k⟩ := p1
      cases e
      exact k H1 r1 (Mono.refl _ _) m1
/-! ### and, or, not, if as values -/
theorem i_one {op : BoolOp} {a : Expr} {m : EM} {pos : Pos} (ha : PE X a (tE C E m)) : PE X (.BoolOp op [a] pos) (tE C E m) := pe_one ha
theorem bl_of {H : Hp} {r : List Addr} {w : W} {v : V} (q : RepW C H r w v) : ∀ b, w = .bl b → v = .bl b := fun b e => by subst e; exact q
theorem i_and {a b : Expr} {rest : List Expr} {ma mb : EM} {pos : Pos} (ha : PE X a (tE C E ma)) (hb : PE X (.BoolOp .And (b :: rest) pos) (tE C E mb)) : PE X (.BoolOp .And (a :: b :: rest) pos) (tE C E (eAnd ma mb)) :=
  PE.imp (pe_and ha hb) fun _ _ _ ⟨_, _, _, hs, hm, p⟩ => tE_on Kv_cl hs hm p fun v H1 r1 M1 w x1 m1 q1 s1 p1 => by
    cases w with
    | bl c =>
      refine ⟨c, q1, ?_⟩
      cases c with
      | true => exact iteT ⟨_, _, _, s1, m1, p1⟩
      | false => exact iteF (p1 (.bl false) H1 r1 (Mono.refl _ _) m1 rfl)
    | _ => exact p1.elim
theorem i_or {a b : Expr} {rest : List Expr} {ma mb : EM} {pos : Pos} (ha : PE X a (tE C E ma)) (hb : PE X (.BoolOp .Or (b :: rest) pos) (tE C E mb)) : PE X (.BoolOp .Or (a :: b :: rest) pos) (tE C E (eOr ma mb)) :=
  PE.imp (pe_or ha hb) fun _ _ _ ⟨_, _, _, hs, hm, p⟩ => tE_on Kv_cl hs hm p fun v H1 r1 M1 w x1 m1 q1 s1 p1 => by
    cases w with
    | bl c =>
      refine ⟨c, q1, ?_⟩
      cases c with
      | false => exact iteF ⟨_, _, _, s1, m1, p1⟩
      | true => exact iteT (p1 (.bl true) H1 r1 (Mono.refl _ _) m1 rfl)
    | _ => exact p1.elim
theorem i_not {a : Expr} {m : EM} {pos : Pos} (ha : PE X a (tE C E m)) : PE X (.UnaryOp .Not a pos) (tE C E (eUn uNot m)) :=
  PE.imp (pe_not ha) fun _ _ _ ⟨_, _, _, hs, hm, p⟩ => tE_on Kv_cl hs hm p fun v H1 r1 M1 w x1 m1 q1 s1 p1 => by
    cases w with
    | bl c => exact ⟨c, q1, p1 (.bl (!c)) H1 r1 (Mono.refl _ _) m1 rfl⟩
    | _ => exact p1.elim
theorem i_if {c a b : Expr} {mc ma mb : EM} {pos : Pos} (hc : PT X c (tT C E mc)) (ha : PE X a (tE C E ma)) (hb : PE X b (tE C E mb)) : PE X (.IfExp c a b pos) (tE C E (eIf mc ma mb)) :=
  PE.imp (pe_ifExp hc ha hb) fun _ _ _ ⟨_, _, _, hs, hm, p⟩ => tT_on Kv_cl hs hm p (fun w M1 h => by cases w <;> first | rfl | exact absurd rfl (h _)) fun b H1 r1 M1 x1 m1 s1 p1 => by
    cases b with
    | true => exact iteT ⟨_, _, _, s1, m1, p1⟩
    | false => exact iteF ⟨_, _, _, s1, m1, p1⟩
/-! ### statements -/
theorem i_expr {e : Expr} {m : EM} {pos : Pos} (h : PE X e (tE C E m)) (hs : swapsWith e none pos.line X.env = pure false := by rfl) : PS X (.Expr e pos) (tS C E (sExp m)) :=
  PS.imp (ps_expr h hs) fun _ _ _ ⟨_, _, _, hs, hm, p⟩ => tE_on Ks_cl hs hm p fun v H1 r1 M1 w x1 m1 q1 s1 p1 => p1 _ H1 r1 (Mono.refl _ _) m1 s1
theorem i_ret {e : Expr} {m : EM} {pos : Pos} (h : PE X e (tE C E m)) : PS X (.Return (some e) pos) (tS C E (sRet m)) :=
  PS.imp (ps_ret h) fun _ _ _ ⟨_, _, _, hs, hm, p⟩ => tE_on Ks_cl hs hm p fun v H1 r1 M1 w x1 m1 q1 s1 p1 => p1 v H1 r1 (Mono.refl _ _) m1 q1
theorem i_pass {pos : Pos} : PS X (.Pass pos) (tS C E sPass) := PS.imp ps_pass fun D σ H ⟨s, M, r, hs, hm, p⟩ => p σ H r (Mono.refl _ _) hm hs
theorem i_sif {c : Expr} {a b : List Stmt} {mc : EM} {ma mb : SM} {pos : Pos} (hc : PT X c (tT C E mc)) (ha : PSs X a (tS C E ma)) (hb : PSs X b (tS C E mb)) : PS X (.If c a b pos) (tS C E (sIf mc ma mb)) :=
  PS.imp (ps_if hc ha hb) fun _ _ _ ⟨_, _, _, hs, hm, p⟩ => tT_on Ks_cl hs hm p (fun w M1 h => by cases w <;> first | rfl | exact absurd rfl (h _)) fun b H1 r1 M1 x1 m1 s1 p1 => by
    cases b with
    | true => exact iteT ⟨_, _, _, s1, m1, p1⟩
    | false => exact iteF ⟨_, _, _, s1, m1, p1⟩
theorem i_snil : PSs X [] (tS C E sPass) := PSs.imp pss_nil fun D σ H ⟨s, M, r, hs, hm, p⟩ => p σ H r (Mono.refl _ _) hm hs
theorem i_sone {st : Stmt} {m : SM} (h : PS X st (tS C E m)) : PSs X [st] (tS C E m) := pss_one h
theorem tS_on {m : SM} {f : Sl → SM} {D D1 : Ends} {σ : L2.St} {H : Hp} {r : List Addr} {M : Mem} {s : Sl} (hs : RepS C H r s σ) (hm : RepM C H r M)
    (h : PG C E r H (bnd (m s M) fun fl M => match fl with
      | .nx s' => f s' s' M
      | .rt w => ok (.rt w) M) (Ks C D r H))
    (hrt : ∀ v H', D.rt v H' → D1.rt v H')
    (k : ∀ s' σ' H1 r1 M1, Mono r r1 H H1 → RepM C H1 r1 M1 → RepS C H1 r1 s' σ' → PG C E r1 H1 (f s' s' M1) (Ks C D r1 H1) → D1.nx σ' H1) : tS C E m D1 σ H := by
  refine ⟨s, M, r, hs, hm, (h.fst Ks_cl).imp fun fl M1 e q => ?_⟩
  cases fl with
  | nx s' => exact fun σ' H1 r1 x m1 s1 => k s' σ' H1 r1 M1 x m1 s1 (q r1 H1 x m1)
  | rt w => exact fun v H1 r1 x m1 qv => hrt v H1 (q r1 H1 x m1 v H1 r1 (Mono.refl _ _) m1 qv)
theorem i_scons {st : Stmt} {rest : List Stmt} {m u : SM} (h : PS X st (tS C E m)) (k : PSs X rest (tS C E u)) : PSs X (st :: rest) (tS C E (sSeq m u)) :=
  PSs.imp (pss_cons h k) fun D σ H ⟨s, M, r, hs, hm, p⟩ => tS_on (f := fun s => u) (D := D) hs hm p (fun _ _ q => q) fun s' σ' H1 r1 M1 x m1 s1 p1 => ⟨s', M1, r1, s1, m1, p1⟩
end
end Sw

set_option autoImplicit false
set_option Elab.async false
set_option linter.all false
set_option maxRecDepth 100000
/-! Data: == and in, told of the model. -/
namespace Sw
open PySem PySem.Spec L2
def hasM : List W → Bool
  | .scr _ :: _ => true
  | _ => false
mutual
/-- a value with its lists written out, as the library's data -/
def toD : W → PyData
  | .non => .none
  | .bl b => .bool b
  | .int i => .int i
  | .str s => .str (tx s)
  | .tup ws => if hasM ws then .list (toDs ws).tail else .tuple (toDs ws)
  | .ref _ => .none
  | .scr _ => .none
def toDs : List W → List PyData
  | [] => []
  | w :: ws => toD w :: toDs ws
end
/-! written out well: marks stand at the head of tuples alone -/
mutual
def isF : W → Bool
  | .tup ws => isFt ws
  | .ref _ => false
  | .scr _ => false
  | _ => true
def isFs : List W → Bool
  | [] => true
  | w :: ws => isF w && isFs ws
def isFt : List W → Bool
  | [] => true
  | .scr [] :: ws => isFs ws
  | w :: ws => isF w && isFs ws
end
mutual
theorem isF_of_D : ∀ w : W, isD w = true → isF w = true
  | .non, _ => rfl
  | .bl _, _ => rfl
  | .int _, _ => rfl
  | .str _, _ => rfl
  | .tup ws, h => by
    have h : isDs ws = true := h
    cases ws with
    | nil => rfl
    | cons w ws =>
      have hh := isFs_of_D (w :: ws) h
      cases w <;> first | exact hh | (simp [isDs, isD] at h)
  | .ref _, h => by simp [isD] at h
  | .scr _, h => by simp [isD] at h
theorem isFs_of_D : ∀ ws : List W, isDs ws = true → isFs ws = true
  | [], _ => rfl
  | w :: ws, h => by
    rw [isDs, Bool.and_eq_true] at h
    rw [isFs, isF_of_D w h.1, isFs_of_D ws h.2]
    rfl
end
theorem hasM_of_D {ws : List W} (h : isDs ws = true) : hasM ws = false := by
  cases ws with
  | nil => rfl
  | cons w ws => cases w <;> first | rfl | (simp [isDs, isD] at h)
theorem hasM_of_F {ws : List W} (h : isFs ws = true) : hasM ws = false := by
  cases ws with
  | nil => rfl
  | cons w ws => cases w <;> first | rfl | (simp [isFs, isF] at h)
/-- a row's head: a mark, or none -/
theorem isFt_cases {ws : List W} (h : isFt ws = true) : (∃ r, ws = .scr [] :: r ∧ isFs r = true) ∨ (isFs ws = true ∧ hasM ws = false) := by
  cases ws with
  | nil => exact .inr ⟨rfl, rfl⟩
  | cons w ws =>
    cases w with
    | scr ns =>
      cases ns with
      | nil => exact .inl ⟨ws, rfl, h⟩
      | cons n ns => simp [isFt, isF] at h
    | _ => exact .inr ⟨h, rfl⟩
theorem toD_lst {ws : List W} : toD (.tup (.scr [] :: ws)) = .list (toDs ws) := by simp [toD, hasM, toDs]
theorem toD_tup {ws : List W} (h : hasM ws = false) : toD (.tup ws) = .tuple (toDs ws) := by simp [toD, h]
mutual
theorem toD_plain : ∀ w : W, PyData.plain (toD w) = true
  | .non => rfl
  | .bl _ => rfl
  | .int _ => rfl
  | .str _ => rfl
  | .tup ws => by
    have h := toDs_plain ws
    rw [toD]
    split
    · rw [PyData.plain]
      cases ws with
      | nil => rfl
      | cons w ws =>
        rw [toDs, PyData.plainAll, Bool.and_eq_true] at h
        exact h.2
    · rw [PyData.plain]
      exact h
  | .ref _ => rfl
  | .scr _ => rfl
theorem toDs_plain : ∀ ws : List W, PyData.plainAll (toDs ws) = true
  | [] => rfl
  | w :: ws => by
    rw [toDs, PyData.plainAll, toD_plain w, toDs_plain ws]
    rfl
end
mutual
theorem toD_depth : ∀ w : W, (toD w).depth ≤ dep w
  | .non => Nat.le_refl _
  | .bl _ => Nat.le_refl _
  | .int _ => Nat.le_refl _
  | .str _ => Nat.le_refl _
  | .tup ws => by
    have h := toDs_depth ws
    rw [toD, dep]
    split
    · rw [PyData.depth]
      cases ws with
      | nil => exact Nat.succ_le_succ (Nat.zero_le _)
      | cons w ws =>
        refine Nat.succ_le_succ (Nat.le_trans ?_ h)
        rw [toDs, PyData.depthAll]
        exact Nat.le_max_right _ _
    · rw [PyData.depth]
      exact Nat.succ_le_succ h
  | .ref _ => Nat.le_refl _
  | .scr _ => Nat.le_refl _
theorem toDs_depth : ∀ ws : List W, PyData.depthAll (toDs ws) ≤ deps ws
  | [] => Nat.le_refl _
  | w :: ws => by
    rw [toDs, PyData.depthAll, deps]
    have h1 := toD_depth w
    have h2 := toDs_depth ws
    omega
end
theorem eqD_tup (xs ys : List W) : eqD (.tup xs) (.tup ys) = decide (nrms xs = nrms ys) := by
  unfold eqD
  exact decide_eq_decide.mpr (by rw [nrm, nrm]; exact ⟨fun h => W.tup.inj h, fun h => by rw [h]⟩)
theorem eqDs_cons (x y : W) (xs ys : List W) : decide (nrms (x :: xs) = nrms (y :: ys)) = (eqD x y && decide (nrms xs = nrms ys)) := by
  unfold eqD
  rw [nrms, nrms, ← Bool.decide_and]
  exact decide_eq_decide.mpr List.cons_eq_cons
theorem nrms_len : ∀ xs : List W, (nrms xs).length = xs.length
  | [] => rfl
  | x :: xs => by rw [nrms, List.length_cons, List.length_cons, nrms_len xs]
theorem str_tx (a b : Tx) : (tx a == tx b) = decide (a = b) := by
  by_cases h : a = b
  · subst h
    simp
  · rw [decide_eq_false h]
    exact beq_eq_false_iff_ne.mpr fun e => h (tx_inj e)
mutual
theorem eqv_D : ∀ (x y : W), isF x = true → isF y = true → PyData.eqv (toD x) (toD y) = eqD x y
  | .non, y, _, hy => by
    cases y with
    | tup ys => rw [toD, toD]; split <;> simp [PyData.eqv, eqD, nrm]
    | ref _ => simp [isF] at hy
    | scr _ => simp [isF] at hy
    | _ => simp [toD, PyData.eqv, eqD, nrm]
  | .bl a, y, _, hy => by
    cases y with
    | tup ys => rw [toD, toD]; split <;> simp [PyData.eqv, eqD, nrm]
    | ref _ => simp [isF] at hy
    | scr _ => simp [isF] at hy
    | bl b => cases a <;> cases b <;> rfl
    | int i => simp only [toD, PyData.eqv, eqD, nrm]; rw [Bool.eq_iff_iff]; simp
    | _ => simp [toD, PyData.eqv, eqD, nrm]
  | .int a, y, _, hy => by
    cases y with
    | tup ys => rw [toD, toD]; split <;> simp [PyData.eqv, eqD, nrm]
    | ref _ => simp [isF] at hy
    | scr _ => simp [isF] at hy
    | bl b => simp only [toD, PyData.eqv, eqD, nrm]; rw [Bool.eq_iff_iff]; simp
    | int i => simp only [toD, PyData.eqv, eqD, nrm]; rw [Bool.eq_iff_iff]; simp
    | _ => simp [toD, PyData.eqv, eqD, nrm]
  | .str a, y, _, hy => by
    cases y with
    | tup ys => rw [toD, toD]; split <;> simp [PyData.eqv, eqD, nrm]
    | ref _ => simp [isF] at hy
    | scr _ => simp [isF] at hy
    | str b => simp only [toD, PyData.eqv, eqD, nrm, str_tx]; exact decide_eq_decide.mpr ⟨fun h => by rw [h], fun h => W.str.inj h⟩
    | _ => simp [toD, PyData.eqv, eqD, nrm]
  | .tup xs, y, hx, hy => by
    cases y with
    | tup ys =>
      rw [eqD_tup]
      rcases isFt_cases (ws := xs) hx with ⟨r, e, hr⟩ | ⟨hr, hm⟩
      · subst e
        rw [toD_lst]
        rcases isFt_cases (ws := ys) hy with ⟨q, e, hq⟩ | ⟨hq, hn⟩
        · subst e
          rw [toD_lst, PyData.eqv, eqDs_cons, eqvs_D r q hr hq]
          rfl
        · rw [toD_tup hn]
          cases ys with
          | nil => simp [PyData.eqv, nrms, toDs]
          | cons y ys =>
            rw [eqDs_cons]
            have : eqD (.scr []) y = false := by
              unfold eqD
              cases y <;> first | (simp [isFs, isF] at hq; done) | simp [nrm]
            rw [this]
            simp [PyData.eqv]
      · rw [toD_tup hm]
        rcases isFt_cases (ws := ys) hy with ⟨q, e, hq⟩ | ⟨hq, hn⟩
        · subst e
          rw [toD_lst]
          cases xs with
          | nil => simp [PyData.eqv, nrms, toDs]
          | cons x xs =>
            rw [eqDs_cons]
            have : eqD x (.scr []) = false := by
              unfold eqD
              cases x <;> first | (simp [isFs, isF] at hr; done) | simp [nrm]
            rw [this]
            simp [PyData.eqv]
        · rw [toD_tup hn, PyData.eqv, eqvs_D xs ys hr hq]
    | ref _ => simp [isF] at hy
    | scr _ => simp [isF] at hy
    | _ => rw [toD, toD]; split <;> simp [PyData.eqv, eqD, nrm]
  | .ref _, _, hx, _ => by simp [isF] at hx
  | .scr _, _, hx, _ => by simp [isF] at hx
theorem eqvs_D : ∀ (xs ys : List W), isFs xs = true → isFs ys = true → PyData.eqvAll (toDs xs) (toDs ys) = decide (nrms xs = nrms ys)
  | [], [], _, _ => by simp [toDs, PyData.eqvAll]
  | [], y :: ys, _, _ => by simp [toDs, PyData.eqvAll, nrms]
  | x :: xs, [], _, _ => by simp [toDs, PyData.eqvAll, nrms]
  | x :: xs, y :: ys, hx, hy => by
    rw [isFs, Bool.and_eq_true] at hx hy
    rw [toDs, toDs, PyData.eqvAll, eqDs_cons, eqv_D x y hx.1 hy.1, eqvs_D xs ys hx.2 hy.2]
end
section
variable {C : Rc} {H : Hp} {r : List Addr} {M : Mem}
mutual
theorem RepW.dp : ∀ (w : W) (v : V), isD w = true → RepW C H r w v → Dp C.K H v (toD w)
  | .non, v, _, h => by rw [show v = .non from h]; exact .non
  | .bl b, v, _, h => by rw [show v = .bl b from h]; exact .bl b
  | .int i, v, _, h => by rw [show v = .int i from h]; exact .int i
  | .str s, v, _, h => by rw [show v = .str (tx s) from h]; exact .str _
  | .tup ws, v, hd, h => by
    obtain ⟨a, vs, rfl, s, q⟩ := h
    have hd : isDs ws = true := hd
    rw [toD_tup (hasM_of_D hd)]
    exact .tup s (RepWs.dp ws vs hd q)
  | .ref _, _, hd, _ => by simp [isD] at hd
  | .scr _, _, hd, _ => by simp [isD] at hd
theorem RepWs.dp : ∀ (ws : List W) (vs : List V), isDs ws = true → RepWs C H r ws vs → DpAll C.K H vs (toDs ws)
  | [], vs, _, h => by rw [show vs = [] from h]; exact .nil
  | w :: ws, vs, hd, h => by
    obtain ⟨v, vr, rfl, p, q⟩ := h
    rw [isDs, Bool.and_eq_true] at hd
    exact .cons (RepW.dp w v hd.1 p) (RepWs.dp ws vr hd.2 q)
end
theorem flats_F {f : W → Option W} (hf : ∀ (w x : W), f w = some x → isF x = true) : ∀ {ws xs : List W}, flats f ws = some xs → isFs xs = true
  | [], xs, h => by simp [flats] at h; subst h; rfl
  | w :: ws, xs, h => by
    unfold flats at h
    split at h
    · rename_i a b ha hb
      simp only [Option.some.injEq] at h
      subst h
      rw [isFs, hf w a ha, flats_F hf hb]
      rfl
    · cases h
theorem isFt_of_Fs {ws : List W} (h : isFs ws = true) : isFt ws = true := by
  cases ws with
  | nil => rfl
  | cons w ws => cases w <;> first | exact h | (simp [isFs, isF] at h)
theorem flatF_F : ∀ (n : Nat) (w x : W), flatF n M w = some x → isF x = true
  | 0, w, x, h => by
    unfold flatF at h
    split at h
    · rename_i hd
      simp only [Option.some.injEq] at h
      subst h
      exact isF_of_D _ hd
    · cases h
  | n + 1, w, x, h => by
    unfold flatF at h
    split at h
    · rename_i hd
      simp only [Option.some.injEq] at h
      subst h
      exact isF_of_D _ hd
    · split at h
      · rename_i ws _
        cases e : flats (flatF n M) ws with
        | none => rw [e] at h; cases h
        | some xs =>
          rw [e] at h
          simp only [Option.map_some, Option.some.injEq] at h
          subst h
          exact isFt_of_Fs (flats_F (fun w x => flatF_F n w x) e)
      · split at h
        · rename_i ws _
          cases e : flats (flatF n M) ws with
          | none => rw [e] at h; cases h
          | some xs =>
            rw [e] at h
            simp only [Option.map_some, Option.some.injEq] at h
            subst h
            exact flats_F (fun w x => flatF_F n w x) e
        · cases h
      · cases h
theorem flats_dp {f : W → Option W} (hf : ∀ (w x : W) (v : V), f w = some x → RepW C H r w v → Dp C.K H v (toD x)) : ∀ {ws xs : List W} {vs : List V}, flats f ws = some xs → RepWs C H r ws vs → DpAll C.K H vs (toDs xs)
  | [], xs, vs, h, q => by simp [flats] at h; subst h; rw [show vs = [] from q]; exact .nil
  | w :: ws, xs, vs, h, q => by
    obtain ⟨v, vr, rfl, p, q⟩ := q
    unfold flats at h
    split at h
    · rename_i a b ha hb
      simp only [Option.some.injEq] at h
      subst h
      exact .cons (hf w a v ha p) (flats_dp hf hb q)
    · cases h
theorem flatF_dp (m : RepM C H r M) : ∀ (n : Nat) (w x : W) (v : V), flatF n M w = some x → RepW C H r w v → Dp C.K H v (toD x)
  | 0, w, x, v, h, q => by
    unfold flatF at h
    split at h
    · rename_i hd
      simp only [Option.some.injEq] at h
      subst h
      exact RepW.dp _ _ hd q
    · cases h
  | n + 1, w, x, v, h, q => by
    unfold flatF at h
    split at h
    · rename_i hd
      simp only [Option.some.injEq] at h
      subst h
      exact RepW.dp _ _ hd q
    · split at h
      · rename_i ws _
        cases e : flats (flatF n M) ws with
        | none => rw [e] at h; cases h
        | some xs =>
          rw [e] at h
          simp only [Option.map_some, Option.some.injEq] at h
          subst h
          obtain ⟨a, vs, rfl, s, q⟩ := q
          rw [toD_tup (hasM_of_F (flats_F (fun w x => flatF_F n w x) e))]
          exact .tup s (flats_dp (fun w x v => flatF_dp m n w x v) e q)
      · split at h
        · rename_i i _ _ ws hi
          cases e : flats (flatF n M) ws with
          | none => rw [e] at h; cases h
          | some xs =>
            rw [e] at h
            simp only [Option.map_some, Option.some.injEq] at h
            subst h
            obtain ⟨a, rfl, ha⟩ := q
            obtain ⟨vs, h1, q⟩ := m.obj i a _ ha hi
            rw [toD_lst]
            exact .lst (.inl (.inl h1)) (flats_dp (fun w x v => flatF_dp m n w x v) e q)
        · cases h
      · cases h
end
/-! ### the operators -/
section
variable {C : Rc} {E : XK} {X : Cx}
theorem eqOut_go {H : Hp} {r : List Addr} {M : Mem} {o : Option Bool} {Q : VK} {b : Bool} (m : RepM C H r M) (e : o = some b) (p : PG C E r H (eqOut M o) (Kv C Q r H)) : Q (.bl b) H := by
  subst e
  exact p (.bl b) H r (Mono.refl _ _) m rfl
theorem room64 {X : Cx} {a b n : Nat} (hu : X.A.units + 64 < cLine) (h : a ≤ n) (hn : n ≤ 61) : X.A.units + min a b < cLine := by
  have : min a b ≤ a := Nat.min_le_left _ _
  omega
theorem o_eq (hK : C.K = X.K) (hu : X.A.units + 64 < cLine) : OpR X (compareOp .Eq) (r2 C E oEq) := by
  intro pins s σ H x y v u Q I rx ry ⟨r, M, a, b, m, qa, qb, p⟩
  have p : PG C E r H (eqOut M (eqW M a b)) (Kv C Q r H) := p
  unfold eqW at p
  split at p
  · rename_i fa fb ha hb
    split at p
    · rename_i hd
      have da := flatF_dp m 4 a fa x ha qa
      have db := flatF_dp m 4 b fb y hb qb
      rw [hK] at da db
      obtain ⟨as, ra⟩ := Dp.reads I _ _ _ da rx
      obtain ⟨bs, rb⟩ := Dp.reads I _ _ _ db ry
      refine PySem.SeqAt.eq_plain ra rb (toD_plain _) (toD_plain _) (room64 hu (Nat.le_trans (toD_depth _) hd.1) (by decide)) ⟨.bl _, H, I, rfl, ?_⟩
      rw [eqv_D _ _ (flatF_F 4 a fa ha) (flatF_F 4 b fb hb)]
      exact eqOut_go m rfl p
    · exact p.elim
  · exact p.elim
theorem o_ne (hK : C.K = X.K) (hu : X.A.units + 64 < cLine) : OpR X (compareOp .NotEq) (r2 C E oNe) := by
  intro pins s σ H x y v u Q I rx ry ⟨r, M, a, b, m, qa, qb, p⟩
  have p : PG C E r H (eqOut M ((eqW M a b).map (!·))) (Kv C Q r H) := p
  unfold eqW at p
  split at p
  · rename_i fa fb ha hb
    split at p
    · rename_i hd
      have da := flatF_dp m 4 a fa x ha qa
      have db := flatF_dp m 4 b fb y hb qb
      rw [hK] at da db
      obtain ⟨as, ra⟩ := Dp.reads I _ _ _ da rx
      obtain ⟨bs, rb⟩ := Dp.reads I _ _ _ db ry
      refine PySem.SeqAt.ne_plain ra rb (toD_plain _) (toD_plain _) (room64 hu (Nat.le_trans (toD_depth _) hd.1) (by decide)) ⟨.bl _, H, I, rfl, ?_⟩
      rw [eqv_D _ _ (flatF_F 4 a fa ha) (flatF_F 4 b fb hb)]
      exact eqOut_go m rfl p
    · exact p.elim
  · exact p.elim
end
end Sw

set_option autoImplicit false
set_option Elab.async false
set_option linter.all false
set_option maxRecDepth 100000
/-! Operators on numbers, texts, tuples, lists. -/
namespace Sw
open PySem PySem.Spec L2
theorem tx_app (a b : Tx) : tx a ++ tx b = tx (a ++ b) := by
  show (⟨a.toArray ++ b.toArray⟩ : Str) = ⟨(a ++ b).toArray⟩
  simp
theorem tx_len (a : Tx) : (tx a).length = a.length := by
  show a.toArray.size = a.length
  simp
theorem many_le {n : Nat} (h : many n = true) : n ≤ sizeLine := Nat.le_trans (of_decide_eq_true h) (by decide)
theorem many_lt {n : Nat} (h : many (n + 1) = true) : n < sizeLine := many_le h |> fun h => Nat.lt_of_lt_of_le (Nat.lt_succ_self n) h
section
variable {C : Rc} {E : XK} {X : Cx}
/-- a result that changes nothing -/
theorem Kv_now {H : Hp} {r : List Addr} {M : Mem} {w : W} {v : V} {Q : VK} (m : RepM C H r M) (p : Kv C Q r H w M) (q : RepW C H r w v) : Q v H := p v H r (Mono.refl _ _) m q
/-- a new tuple -/
theorem Kv_tup {H : Hp} {r : List Addr} {M : Mem} {ws : List W} {vs : List V} {Q : VK} (m : RepM C H r M) (p : Kv C Q r H (.tup ws) M) (q : RepWs C H r ws vs) : ∀ a, H a = none → Q (.ref a) (upd H a (.tup vs)) := fun a ha =>
  p (.ref a) _ r (Mono.temp ha) (m.temp ha) ⟨a, vs, rfl, .inl (.inl upd_same), RepWs.go (Mono.temp ha) m _ _ q⟩
/-- a new list of the store -/
theorem Kv_lst {H : Hp} {r : List Addr} {M : Mem} {ws : List W} {vs : List V} {Q : VK} (m : RepM C H r M) (p : Kv C Q r H (.ref M.length) (M ++ [O.lst ws])) (q : RepWs C H r ws vs) : ∀ a, H a = none → Q (.ref a) (upd H a (.lst vs)) := fun a ha =>
  p (.ref a) _ (r ++ [a]) (Mono.alloc ha) (m.alloc ha ⟨vs, upd_same, RepWs.go (Mono.alloc ha) m _ _ q⟩) ⟨a, rfl, by rw [← m.len, List.getElem?_append_right (Nat.le_refl _)]; simp⟩
theorem lst_at {H : Hp} {r : List Addr} {M : Mem} {i : Nat} {v : V} {ws : List W} (m : RepM C H r M) (q : RepW C H r (.ref i) v) (h : M[i]? = some (O.lst ws)) : ∃ a vs, v = .ref a ∧ r[i]? = some a ∧ H a = some (.lst vs) ∧ RepWs C H r ws vs := by
  obtain ⟨a, e, ha⟩ := q
  obtain ⟨vs, h1, h2⟩ := m.obj i a _ ha h
  exact ⟨a, vs, e, ha, h1, h2⟩
theorem o_add (hK : C.K = X.K) : OpR X (binaryOp .Add) (r2 C E oAdd) := by
  intro pins s σ H x y v u Q I rx ry ⟨r, M, a, b, m, qa, qb, p⟩
  have p : PG C E r H (oAdd a b M) (Kv C Q r H) := p
  cases a with
  | int i =>
    cases b with
    | int j => exact op_add pins s σ H x y v u Q I rx ry ⟨i, j, qa, qb, Kv_now m p rfl⟩
    | _ => exact p.elim
  | str z =>
    cases b with
    | str z2 =>
      simp only [oAdd] at p
      split at p
      · rename_i hz
        exact op_add_str pins s σ H x y v u Q I rx ry ⟨_, _, qa, qb, by rw [tx_len, tx_len]; exact many_le hz, by rw [tx_app]; exact Kv_now m p rfl⟩
      · exact p.elim
    | _ => exact p.elim
  | tup xs =>
    cases b with
    | tup ys =>
      simp only [oAdd] at p
      split at p
      · rename_i hz
        obtain ⟨c, vs, e1, s1, q1⟩ := id qa
        obtain ⟨d, us, e2, s2, q2⟩ := id qb
        refine op_catA pins s σ H x y v u Q I rx ry ⟨c, d, vs, us, e1, e2, by rw [← hK]; exact s1, by rw [← hK]; exact s2, by rw [q1.length, q2.length]; exact many_le hz, fun e => ?_, fun _ e => ?_, fun _ _ => ?_⟩
        · have ex : xs = [] := List.eq_nil_of_length_eq_zero (by rw [← q1.length, e]; rfl)
          subst ex
          exact Kv_now m p ⟨d, us, rfl, s2, q2⟩
        · have ey : ys = [] := List.eq_nil_of_length_eq_zero (by rw [← q2.length, e]; rfl)
          subst ey
          refine Kv_now m p ?_
          rw [List.append_nil]
          exact ⟨c, vs, rfl, s1, q1⟩
        · exact Kv_tup m p (q1.app q2)
      · exact p.elim
    | _ => exact p.elim
  | ref i =>
    cases b with
    | ref j =>
      simp only [oAdd] at p
      split at p
      · rename_i xs ys hi hj
        unfold catL at p
        split at p
        · rename_i hz
          obtain ⟨c, vs, e1, _, h1, q1⟩ := lst_at m qa hi
          obtain ⟨d, us, e2, _, h2, q2⟩ := lst_at m qb hj
          exact op_cat pins s σ H x y v u Q I rx ry ⟨c, d, vs, us, e1, e2, h1, h2, by rw [q1.length, q2.length]; exact many_le hz, Kv_lst m p (q1.app q2)⟩
        · exact p.elim
      · exact p.elim
    | _ => exact p.elim
  | _ => exact p.elim
theorem o_sub : OpR X (binaryOp .Sub) (r2 C E oSub) := by
  intro pins s σ H x y v u Q I rx ry ⟨r, M, a, b, m, qa, qb, p⟩
  have p : PG C E r H (oSub a b M) (Kv C Q r H) := p
  cases a with
  | int i =>
    cases b with
    | int j => exact op_sub pins s σ H x y v u Q I rx ry ⟨i, j, qa, qb, Kv_now m p rfl⟩
    | _ => exact p.elim
  | _ => exact p.elim
theorem o_mul : OpR X (binaryOp .Mult) (r2 C E oMul) := by
  intro pins s σ H x y v u Q I rx ry ⟨r, M, a, b, m, qa, qb, p⟩
  have p : PG C E r H (oMul a b M) (Kv C Q r H) := p
  cases a with
  | int i =>
    cases b with
    | int j =>
      simp only [oMul] at p
      split at p
      · rename_i hz
        exact op_mulW pins s σ H x y v u Q I rx ry ⟨i, j, qa, qb, hz, Kv_now m p rfl⟩
      · exact p.elim
    | _ => exact p.elim
  | _ => exact p.elim
theorem o_div : OpR X (binaryOp .FloorDiv) (r2 C E oDiv) := by
  intro pins s σ H x y v u Q I rx ry ⟨r, M, a, b, m, qa, qb, p⟩
  have p : PG C E r H (oDiv a b M) (Kv C Q r H) := p
  cases a with
  | int i =>
    cases b with
    | int j =>
      simp only [oDiv] at p
      split at p
      · rename_i hz
        exact op_fdivW pins s σ H x y v u Q I rx ry ⟨i, j, qa, qb, hz, Kv_now m p rfl⟩
      · exact p.elim
    | _ => exact p.elim
  | _ => exact p.elim
theorem o_mod : OpR X (binaryOp .Mod) (r2 C E oMod) := by
  intro pins s σ H x y v u Q I rx ry ⟨r, M, a, b, m, qa, qb, p⟩
  have p : PG C E r H (oMod a b M) (Kv C Q r H) := p
  cases a with
  | int i =>
    cases b with
    | int j =>
      simp only [oMod] at p
      split at p
      · rename_i hz
        exact op_mod pins s σ H x y v u Q I rx ry ⟨i, j, qa, qb, hz, Kv_now m p rfl⟩
      · exact p.elim
    | _ => exact p.elim
  | _ => exact p.elim
theorem o_shr : OpR X (binaryOp .RShift) (r2 C E oShr) := by
  intro pins s σ H x y v u Q I rx ry ⟨r, M, a, b, m, qa, qb, p⟩
  have p : PG C E r H (oShr a b M) (Kv C Q r H) := p
  cases a with
  | int i =>
    cases b with
    | int j =>
      simp only [oShr] at p
      split at p
      · rename_i hz
        exact op_shr pins s σ H x y v u Q I rx ry ⟨i, j, qa, qb, hz, Kv_now m p rfl⟩
      · exact p.elim
    | _ => exact p.elim
  | _ => exact p.elim
theorem o_shl : OpR X (binaryOp .LShift) (r2 C E oShl) := by
  intro pins s σ H x y v u Q I rx ry ⟨r, M, a, b, m, qa, qb, p⟩
  have p : PG C E r H (oShl a b M) (Kv C Q r H) := p
  cases a with
  | int i =>
    cases b with
    | int j =>
      simp only [oShl] at p
      split at p
      · rename_i hz
        exact op_shl pins s σ H x y v u Q I rx ry ⟨i, j, qa, qb, ⟨hz.1, Int.le_trans hz.2.1 (by decide), hz.2.2⟩, Kv_now m p rfl⟩
      · exact p.elim
    | _ => exact p.elim
  | _ => exact p.elim
theorem u_neg : UnR X (unaryOp .USub) (r1 C E uNeg) := by
  intro pins s σ H x v Q I rx ⟨r, M, a, m, qa, p⟩
  have p : PG C E r H (uNeg a M) (Kv C Q r H) := p
  cases a with
  | int i => exact un_neg pins s σ H x v Q I rx ⟨i, qa, Kv_now m p rfl⟩
  | _ => exact p.elim
theorem o_gt : OpR X (compareOp .Gt) (r2 C E oGt) := by
  intro pins s σ H x y v u Q I rx ry ⟨r, M, a, b, m, qa, qb, p⟩
  have p : PG C E r H (oGt a b M) (Kv C Q r H) := p
  cases a with
  | int i =>
    cases b with
    | int j => exact op_gt pins s σ H x y v u Q I rx ry ⟨i, j, qa, qb, Kv_now m p rfl⟩
    | _ => exact p.elim
  | _ => exact p.elim
theorem o_le : OpR X (compareOp .LtE) (r2 C E oLe) := by
  intro pins s σ H x y v u Q I rx ry ⟨r, M, a, b, m, qa, qb, p⟩
  have p : PG C E r H (oLe a b M) (Kv C Q r H) := p
  cases a with
  | int i =>
    cases b with
    | int j => exact op_le pins s σ H x y v u Q I rx ry ⟨i, j, qa, qb, Kv_now m p rfl⟩
    | _ => exact p.elim
  | _ => exact p.elim
theorem o_ge : OpR X (compareOp .GtE) (r2 C E oGe) := by
  intro pins s σ H x y v u Q I rx ry ⟨r, M, a, b, m, qa, qb, p⟩
  have p : PG C E r H (oGe a b M) (Kv C Q r H) := p
  cases a with
  | int i =>
    cases b with
    | int j => exact op_ge pins s σ H x y v u Q I rx ry ⟨i, j, qa, qb, Kv_now m p rfl⟩
    | _ => exact p.elim
  | _ => exact p.elim
/-! is None -/
theorem non_iff {H : Hp} {r : List Addr} {w : W} {v : V} (q : RepW C H r w v) : decide (v = .non) = decide (w = .non) := by
  refine decide_eq_decide.mpr ?_
  cases w with
  | non => rw [show v = .non from q]; simp
  | tup ws => obtain ⟨a, vs, e, _⟩ := q; rw [e]; simp
  | ref n => obtain ⟨a, e, _⟩ := q; rw [e]; simp
  | scr n => obtain ⟨a, e, _⟩ := q; rw [e]; simp
  | bl b => rw [show v = .bl b from q]; simp
  | int b => rw [show v = .int b from q]; simp
  | str b => rw [show v = .str (tx b) from q]; simp
theorem i_isN {a : Expr} {m : EM} {j : Nat} {pos pos' : Pos} (ha : PE X a (tE C E m)) : PE X (.Compare a [.Is] [.Constant .none j pos'] pos) (tE C E (eUn uIsN m)) :=
  PE.imp (pe_cmp (pc_isN ha) rfl) fun _ _ _ ⟨_, _, _, hs, hm, p⟩ => tE_on Kv_cl hs hm p fun v H1 r1 M1 w x1 m1 q1 s1 p1 => by
    rw [non_iff q1]
    exact Kv_now m1 p1 rfl
theorem i_noN {a : Expr} {m : EM} {j : Nat} {pos pos' : Pos} (ha : PE X a (tE C E m)) : PE X (.Compare a [.IsNot] [.Constant .none j pos'] pos) (tE C E (eUn uNoN m)) :=
  PE.imp (pe_cmp (pc_notN ha) rfl) fun _ _ _ ⟨_, _, _, hs, hm, p⟩ => tE_on Kv_cl hs hm p fun v H1 r1 M1 w x1 m1 q1 s1 p1 => by
    rw [non_iff q1]
    exact Kv_now m1 p1 rfl
end
end Sw

set_option autoImplicit false
set_option Elab.async false
set_option linter.all false
set_option maxRecDepth 100000
/-! Dicts. -/
namespace Sw
open PySem PySem.Spec L2
mutual
theorem keyN_inj : ∀ (a b : W), isK a = true → isK b = true → keyN a = keyN b → a = b
  | .int i, b, _, hb, h => by cases b <;> simp_all [keyN, isK]
  | .str i, b, _, hb, h => by
    cases b with
    | str j =>
      simp only [keyN, NestedKey.text.injEq] at h
      rw [tx_inj h]
    | _ => simp_all [keyN, isK]
  | .tup xs, b, ha, hb, h => by
    cases b with
    | tup ys =>
      simp only [keyN, NestedKey.tup.injEq] at h
      rw [keyNs_inj xs ys ha hb h]
    | _ => simp_all [keyN, isK]
  | .non, _, ha, _, _ => by simp [isK] at ha
  | .bl _, _, ha, _, _ => by simp [isK] at ha
  | .ref _, _, ha, _, _ => by simp [isK] at ha
  | .scr _, _, ha, _, _ => by simp [isK] at ha
theorem keyNs_inj : ∀ (a b : List W), isKs a = true → isKs b = true → keyNs a = keyNs b → a = b
  | [], [], _, _, _ => rfl
  | [], _ :: _, _, _, h => by simp [keyNs] at h
  | _ :: _, [], _, _, h => by simp [keyNs] at h
  | a :: as, b :: bs, ha, hb, h => by
    simp only [keyNs, List.cons.injEq] at h
    rw [isKs, Bool.and_eq_true] at ha hb
    rw [keyN_inj a b ha.1 hb.1 h.1, keyNs_inj as bs ha.2 hb.2 h.2]
end
theorem keyA_inj {a b : W} (ha : isK a = true) (hb : isK b = true) (ta : isT a = false) (tb : isT b = false) (h : keyA a = keyA b) : a = b := by
  cases a <;> first | (simp [isK] at ha; done) | (simp [isT] at ta; done) | skip
  · cases b <;> first | (simp [isK] at hb; done) | (simp [isT] at tb; done) | skip
    · simp only [keyA, Sum.inl.injEq] at h
      rw [h]
    · simp [keyA] at h
  · cases b <;> first | (simp [isK] at hb; done) | (simp [isT] at tb; done) | skip
    · simp [keyA] at h
    · simp only [keyA, Sum.inr.injEq] at h
      rw [tx_inj h]
mutual
theorem keyN_depth : ∀ w : W, (keyN w).depth ≤ dep w
  | .tup ws => by
    rw [keyN, NestedKey.depth, dep]
    exact Nat.succ_le_succ (keyNs_depth ws)
  | .non => Nat.le_refl _
  | .bl _ => Nat.le_refl _
  | .int _ => Nat.le_refl _
  | .str _ => Nat.le_refl _
  | .ref _ => Nat.le_refl _
  | .scr _ => Nat.le_refl _
theorem keyNs_depth : ∀ ws : List W, NestedKey.depthAll (keyNs ws) ≤ deps ws
  | [] => Nat.le_refl _
  | w :: ws => by
    rw [keyNs, NestedKey.depthAll, deps]
    have h1 := keyN_depth w
    have h2 := keyNs_depth ws
    omega
end
section
variable {C : Rc} {X : Cx} {pins : List (Addr × Obj)} {σ : L2.St} {H : Hp} {s : Shared} {r : List Addr} {M : Mem}
mutual
theorem RepW.nested (hK : C.K = X.K) (I : Inv X pins σ H s) : ∀ (w : W) (v : V) (u : Value), isK w = true → RepW C H r w v → L2.RelV v u → NestedIs s.heap (keyN w) u
  | .int i, v, u, _, h, q => by
    rw [show v = .int i from h] at q
    obtain ⟨t, rfl⟩ := q
    exact .int i t
  | .str z, v, u, _, h, q => by
    rw [show v = .str (tx z) from h] at q
    obtain ⟨t, rfl⟩ := q
    exact .text _ t
  | .tup ws, v, u, hk, h, q => by
    obtain ⟨a, vs, rfl, sq, qs⟩ := h
    obtain rfl : u = Value.ref a := q
    rw [hK] at sq
    obtain ⟨its, rv, ⟨o, ho, hc, n, hd⟩, hz⟩ := I.tuple sq
    exact .tup ho hc hd (by simpa using RepWs.nested hK I ws vs its hk qs rv)
  | .non, _, _, hk, _, _ => by simp [isK] at hk
  | .bl _, _, _, hk, _, _ => by simp [isK] at hk
  | .ref _, _, _, hk, _, _ => by simp [isK] at hk
  | .scr _, _, _, hk, _, _ => by simp [isK] at hk
theorem RepWs.nested (hK : C.K = X.K) (I : Inv X pins σ H s) : ∀ (ws : List W) (vs : List V) (us : List Value), isKs ws = true → RepWs C H r ws vs → L2.Vals vs us → NestedAll s.heap (keyNs ws) us
  | [], vs, us, _, h, q => by
    rw [show vs = [] from h] at q
    cases q
    exact .nil
  | w :: ws, vs, us, hk, h, q => by
    obtain ⟨v, vr, rfl, p, ps⟩ := h
    rw [isKs, Bool.and_eq_true] at hk
    cases q with
    | cons q1 q2 => exact .cons (RepW.nested hK I w v _ hk.1 p q1) (RepWs.nested hK I ws vr _ hk.2 ps q2)
end
theorem okKey_iff {kvs : List (W × W)} {k : W} (h : okKey kvs k = true) : isK k = true ∧ dep k ≤ 8 ∧ (kvs = [] ∨ ∃ p rest, kvs = p :: rest ∧ isT p.1 = isT k) := by
  unfold okKey at h
  rw [Bool.and_eq_true, Bool.and_eq_true, decide_eq_true_eq] at h
  refine ⟨h.1.1, h.1.2, ?_⟩
  cases kvs with
  | nil => exact .inl rfl
  | cons p rest => exact .inr ⟨p, rest, rfl, by simpa using h.2⟩
/-- a dict asked by an int or a text -/
theorem DicAt.atom {lk : Bool} {kvs : List (W × W)} {a : Addr} {k : W} (d : DicAt C H r lk kvs a) (h : okKey kvs k = true) (t : isT k = false) : (∀ p ∈ kvs, isT p.1 = false) ∧ ∃ xs, LK lk H a (.dK xs) ∧ PrA C H r kvs xs := by
  rcases d.obj with z | ⟨⟨hne, hT⟩, _, _⟩
  · exact z
  · rcases (okKey_iff h).2.2 with e | ⟨p, rest, e, q⟩
    · exact absurd e hne
    · rw [e] at hT
      rw [hT p List.mem_cons_self, t] at q
      cases q
theorem PrA.val {kvs : List (W × W)} {xs : List (Key × V)} (q : PrA C H r kvs xs) (hk : ∀ p ∈ kvs, isK p.1 = true) (ht : ∀ p ∈ kvs, isT p.1 = false) {k : W} (h : isK k = true) (t : isT k = false) :
    (∀ w, dget kvs k = some w → ∃ v, valV xs (keyA k) = some v ∧ RepW C H r w v) ∧ (dget kvs k = none → valV xs (keyA k) = none) := by
  induction q with
  | nil => exact ⟨fun w e => by simp [dget] at e, fun _ => rfl⟩
  | @cons p x ps rest e q ih =>
    obtain ⟨e1, e2⟩ := e
    obtain ⟨k', w'⟩ := p
    obtain ⟨i1, i2⟩ := ih (fun p hp => hk p (List.mem_cons_of_mem _ hp)) (fun p hp => ht p (List.mem_cons_of_mem _ hp))
    by_cases hkk : k' = k
    · subst hkk
      refine ⟨fun w e => ?_, fun e => ?_⟩
      · simp only [dget, if_true, Option.some.injEq] at e
        subst e
        exact ⟨x.2, valV_pos e1.symm, e2⟩
      · simp [dget] at e
    · have hx : ¬ x.1 = keyA k := fun e => hkk (keyA_inj (hk _ List.mem_cons_self) h (ht _ List.mem_cons_self) t (e1.trans e))
      refine ⟨fun w e => ?_, fun e => ?_⟩
      · simp only [dget, if_neg hkk] at e
        rw [valV_neg hx]
        exact i1 w e
      · simp only [dget, if_neg hkk] at e
        rw [valV_neg hx]
        exact i2 e
theorem kV_of {k : W} {v : V} (h : isK k = true) (t : isT k = false) (q : RepW C H r k v) : v = kV (keyA k) := by
  cases k <;> first | (simp [isK] at h; done) | (simp [isT] at t; done) | exact q
theorem PrT.mem {kvs : List (W × W)} {xs : List (NestedKey × Addr × Value)} (q : PrT C H r kvs xs) : ∀ x ∈ xs, ∃ p ∈ kvs, keyN p.1 = x.1 ∧ RepW C H r p.1 (.ref x.2.1) := by
  induction q with
  | nil => intro x hx; cases hx
  | @cons p y ps rest e q ih =>
    intro x hx
    rcases List.mem_cons.mp hx with hx | hx
    · subst hx
      exact ⟨p, List.mem_cons_self, e.1, e.2.1⟩
    · obtain ⟨p', h1, h2⟩ := ih x hx
      exact ⟨p', List.mem_cons_of_mem _ h1, h2⟩
theorem PrT.keys {kvs : List (W × W)} {xs : List (NestedKey × Addr × Value)} (q : PrT C H r kvs xs) : xs.map (·.1) = kvs.map fun p => keyN p.1 := by
  induction q with
  | nil => rfl
  | @cons p y ps rest e q ih => rw [List.map_cons, List.map_cons, ih, e.1]
theorem PrA.keys {kvs : List (W × W)} {xs : List (Key × V)} (q : PrA C H r kvs xs) : xs.map (·.1) = kvs.map fun p => keyA p.1 := by
  induction q with
  | nil => rfl
  | @cons p y ps rest e q ih => rw [List.map_cons, List.map_cons, ih, e.1]
theorem nodup_keyN {kvs : List (W × W)} (hk : ∀ p ∈ kvs, isK p.1 = true) (nd : (kvs.map (·.1)).Nodup) : (kvs.map fun p => keyN p.1).Nodup := by
  induction kvs with
  | nil => exact List.nodup_nil
  | cons p ps ih =>
    rw [List.map_cons, List.nodup_cons] at nd ⊢
    refine ⟨fun hm => nd.1 ?_, ih (fun p hp => hk p (List.mem_cons_of_mem _ hp)) nd.2⟩
    obtain ⟨p', hp, e⟩ := List.mem_map.mp hm
    have e' := keyN_inj _ _ (hk p' (List.mem_cons_of_mem _ hp)) (hk p List.mem_cons_self) e
    exact List.mem_map.mpr ⟨p', hp, e'⟩
/-- a dict asked by a tuple -/
theorem DicAt.tups (hK : C.K = X.K) (hw : C.w = X.w) (I : Inv X pins σ H s) {lk : Bool} {kvs : List (W × W)} {a : Addr} {k : W} (d : DicAt C H r lk kvs a) (h : okKey kvs k = true) (t : isT k = true) :
    (a == sysModules) = false ∧ (lk = false → Mut (H a) ∧ ∀ o, H a = some o → frzH o = false) ∧ ∃ xs, s.heap.DictOfH (nestedKind X.prog X.w) a xs ∧ PrT C H r kvs xs := by
  rcases (okKey_iff h).2.2 with e | ⟨p, rest, e, q⟩
  · subst e
    rcases d.obj with ⟨_, xs, e1, q⟩ | ⟨⟨hne, _⟩, _, _⟩
    · cases q
      obtain ⟨_, hd, vs, rel, o, es, ep, h1, h2, h3, h4, h5, _⟩ := dk_rd I.hok e1.rd
      cases rel
      refine ⟨hd, fun el => by subst el; have e1 : H a = some _ := e1; rw [e1]; exact ⟨True.intro, fun o z => by cases z; rfl⟩, [], ⟨o, es, ep, h1, h2, h3, ?_, by simp, by simp⟩, .nil⟩
      have h5 : PySem.Pairs _ es.toList [] := h5
      cases e : es.toList with
      | nil => rfl
      | cons x y => rw [e] at h5; cases h5
    · exact absurd rfl hne
  · rcases d.obj with ⟨ht, _⟩ | ⟨_, hd, xs, e1, qs⟩
    · rw [e] at ht
      rw [ht p List.mem_cons_self, t] at q
      cases q
    · obtain ⟨⟨o, es, ep, h1, h2, h3, h4⟩, _, _⟩ := e1.rd.ok I.hok
      refine ⟨hd, fun el => by subst el; have e1 : H a = some _ := e1; rw [e1]; exact ⟨True.intro, fun o z => by cases z; rfl⟩, xs, ⟨o, es, ep, h1, h2, h3, ?_, ?_, ?_⟩, qs⟩
      · rw [h4, hw]
        rfl
      · intro x hx
        obtain ⟨p, hp, e2, e3⟩ := qs.mem x hx
        have hkp := d.key p hp
        have n := RepW.nested hK I p.1 _ _ hkp.1 e3 rfl
        rw [e2] at n
        exact ⟨n, by rw [← e2]; exact Nat.le_trans (keyN_depth _) hkp.2⟩
      · rw [qs.keys]
        exact nodup_keyN (fun p hp => (d.key p hp).1) d.nd
theorem PrT.val {kvs : List (W × W)} {xs : List (NestedKey × Addr × Value)} (q : PrT C H r kvs xs) (hk : ∀ p ∈ kvs, isK p.1 = true) {k : W} (h : isK k = true) :
    (∀ w, dget kvs k = some w → ∃ p v, atKey xs (keyN k) = some p ∧ RepW C H r w v ∧ L2.RelV v p.2) ∧ (dget kvs k = none → atKey xs (keyN k) = none) := by
  induction q with
  | nil => exact ⟨fun w e => by simp [dget] at e, fun _ => rfl⟩
  | @cons p x ps rest e q ih =>
    obtain ⟨e1, e2, v, e3, e4⟩ := e
    obtain ⟨k', w'⟩ := p
    obtain ⟨i1, i2⟩ := ih (fun p hp => hk p (List.mem_cons_of_mem _ hp))
    by_cases hkk : k' = k
    · subst hkk
      refine ⟨fun w e => ?_, fun e => ?_⟩
      · simp only [dget, if_true, Option.some.injEq] at e
        subst e
        exact ⟨x.2, v, by simp only [atKey, List.find?_cons, ← e1, decide_true, Option.map_some], e3, e4⟩
      · simp [dget] at e
    · have hx : ¬ x.1 = keyN k := fun e => hkk (keyN_inj _ _ (hk _ List.mem_cons_self) h (e1.trans e))
      have hf : atKey (x :: rest) (keyN k) = atKey rest (keyN k) := by simp only [atKey, List.find?_cons, decide_eq_false hx]
      refine ⟨fun w e => ?_, fun e => ?_⟩
      · simp only [dget, if_neg hkk] at e
        rw [hf]
        exact i1 w e
      · simp only [dget, if_neg hkk] at e
        rw [hf]
        exact i2 e
/-- the room that keys want -/
theorem key_room {A : Around} (hu : A.units + 64 < cLine) : (nestedKind X.prog X.w).room A.in1 := by
  show A.units + 1 + 8 < cLine
  omega
theorem tup_ref {k : W} {v : V} (t : isT k = true) (q : RepW C H r k v) : ∃ b, v = .ref b := by
  cases k <;> first | (simp [isT] at t; done) | skip
  obtain ⟨a, vs, e, _⟩ := q
  exact ⟨a, e⟩
theorem tup_is (hK : C.K = X.K) (I : Inv X pins σ H s) {k : W} {b : Addr} (h : isK k = true) (hd : dep k ≤ 8) (q : RepW C H r k (.ref b)) : (nestedKind X.prog X.w).is s.heap (keyN k) b :=
  ⟨RepW.nested hK I k _ _ h q rfl, Nat.le_trans (keyN_depth _) hd⟩
theorem dget_k {a : Addr} {kvs : List (Key × V)} {k : Key} (e : Rd H a (.dK kvs)) : DGet H a (kV k) (valV kvs k) := .inl ⟨kvs, k, e, rfl, rfl⟩
/-- d[k] -/
theorem dic_get {A : Around} {E : Value → Shared → Prop} {Q : Value → Shared → Prop} (hK : C.K = X.K) (hw : C.w = X.w) (hu : A.units + 64 < cLine) (I : Inv X pins σ H s) (m : RepM C H r M) {lk : Bool} {kvs : List (W × W)} {a : Addr} {k w : W} {v : V} {u : Value}
    (d : DicAt C H r lk kvs a) (h : okKey kvs k = true) (qk : RepW C H r k v) (ru : L2.RelV v u) (hg : dget kvs k = some w) (hq : ∀ z z' s', Inv X pins σ H s' → RepW C H r w z → L2.RelV z z' → Q z' s') : wpAny (model X.prog X.w) A (getItem (.ref a) u) Q E s := by
  obtain ⟨hk, hd, _⟩ := okKey_iff h
  cases t : isT k with
  | false =>
    obtain ⟨ht, xs, e1, q⟩ := d.atom h t
    obtain ⟨z, e2, q2⟩ := (q.val (fun p hp => (d.key p hp).1) ht hk t).1 w hg
    have ev := kV_of hk t qk
    subst ev
    exact d_getItem (v := z) (by omega) I (by rw [← e2]; exact dget_k e1.rd) ru fun w' s' I' r' => hq z w' s' I' q2 r'
  | true =>
    obtain ⟨hsm, _, xs, dd, q⟩ := d.tups hK hw I h t
    obtain ⟨p, z, e2, q2, r2⟩ := (q.val (fun p hp => (d.key p hp).1) hk).1 w hg
    obtain ⟨b, ev⟩ := tup_ref t qk
    subst ev
    obtain rfl : u = Value.ref b := ru
    exact wpAny_getItem_heap (key_room hu) (tup_is hK I hk hd qk) dd e2 (hq z _ _ (I.tok _) q2 r2)
theorem dic_in {A : Around} {E : Value → Shared → Prop} {Q : Value → Shared → Prop} (hK : C.K = X.K) (hw : C.w = X.w) (hu : A.units + 64 < cLine) (I : Inv X pins σ H s) (m : RepM C H r M) {lk : Bool} {kvs : List (W × W)} {a : Addr} {k : W} {v : V} {u : Value}
    (d : DicAt C H r lk kvs a) (h : okKey kvs k = true) (qk : RepW C H r k v) (ru : L2.RelV v u) (hq : ∀ s', Inv X pins σ H s' → Q (.bool (dget kvs k).isSome) s') : wpAny (model X.prog X.w) A (compareOp .In u (.ref a)) Q E s := by
  obtain ⟨hk, hd, _⟩ := okKey_iff h
  cases t : isT k with
  | false =>
    obtain ⟨ht, xs, e1, q⟩ := d.atom h t
    have qv := q.val (fun p hp => (d.key p hp).1) ht hk t
    have ev := kV_of hk t qk
    subst ev
    refine d_in (by omega) I (dget_k e1.rd) ru fun s' I' => ?_
    have : (valV xs (keyA k)).isSome = (dget kvs k).isSome := by
      cases e : dget kvs k with
      | none => rw [qv.2 e]; rfl
      | some w => obtain ⟨z, e2, _⟩ := qv.1 w e; rw [e2]; rfl
    rw [this]
    exact hq s' I'
  | true =>
    obtain ⟨hsm, _, xs, dd, q⟩ := d.tups hK hw I h t
    have qv := q.val (fun p hp => (d.key p hp).1) hk
    obtain ⟨b, ev⟩ := tup_ref t qk
    subst ev
    obtain rfl : u = Value.ref b := ru
    refine wpAny_in_heap (key_room hu) (tup_is hK I hk hd qk) hsm dd ?_
    have : (atKey xs (keyN k)).isSome = (dget kvs k).isSome := by
      cases e : dget kvs k with
      | none => rw [qv.2 e]; rfl
      | some w => obtain ⟨p, z, e2, _⟩ := qv.1 w e; rw [e2]; rfl
    rw [this]
    exact hq _ (I.tok _)
theorem dic_notIn {A : Around} {E : Value → Shared → Prop} {Q : Value → Shared → Prop} (hK : C.K = X.K) (hw : C.w = X.w) (hu : A.units + 64 < cLine) (I : Inv X pins σ H s) (m : RepM C H r M) {lk : Bool} {kvs : List (W × W)} {a : Addr} {k : W} {v : V} {u : Value}
    (d : DicAt C H r lk kvs a) (h : okKey kvs k = true) (qk : RepW C H r k v) (ru : L2.RelV v u) (hq : ∀ s', Inv X pins σ H s' → Q (.bool (!(dget kvs k).isSome)) s') : wpAny (model X.prog X.w) A (compareOp .NotIn u (.ref a)) Q E s := by
  obtain ⟨hk, hd, _⟩ := okKey_iff h
  cases t : isT k with
  | false =>
    obtain ⟨ht, xs, e1, q⟩ := d.atom h t
    have qv := q.val (fun p hp => (d.key p hp).1) ht hk t
    have ev := kV_of hk t qk
    subst ev
    refine d_notIn (by omega) I (dget_k e1.rd) ru fun s' I' => ?_
    have : (valV xs (keyA k)).isSome = (dget kvs k).isSome := by
      cases e : dget kvs k with
      | none => rw [qv.2 e]; rfl
      | some w => obtain ⟨z, e2, _⟩ := qv.1 w e; rw [e2]; rfl
    rw [this]
    exact hq s' I'
  | true =>
    obtain ⟨hsm, _, xs, dd, q⟩ := d.tups hK hw I h t
    have qv := q.val (fun p hp => (d.key p hp).1) hk
    obtain ⟨b, ev⟩ := tup_ref t qk
    subst ev
    obtain rfl : u = Value.ref b := ru
    refine PyProof.Rows.wpAny_notIn_heap (key_room hu) (tup_is hK I hk hd qk) hsm dd ?_
    have : (atKey xs (keyN k)).isSome = (dget kvs k).isSome := by
      cases e : dget kvs k with
      | none => rw [qv.2 e]; rfl
      | some w => obtain ⟨p, z, e2, _⟩ := qv.1 w e; rw [e2]; rfl
    rw [this]
    exact hq _ (I.tok _)
/-! ### d[k] = v -/
theorem dput_keys : ∀ (kvs : List (W × W)) (k v : W), (dput kvs k v).map (·.1) = if k ∈ kvs.map (·.1) then kvs.map (·.1) else kvs.map (·.1) ++ [k]
  | [], k, v => by simp [dput]
  | (k', v') :: rest, k, v => by
    have ih := dput_keys rest k v
    by_cases h : k' = k
    · subst h
      simp [dput]
    · simp only [dput, if_neg h, List.map_cons, ih, List.mem_cons]
      by_cases hm : k ∈ rest.map (·.1)
      · rw [if_pos hm, if_pos (.inr hm)]
      · rw [if_neg hm, if_neg (fun z => z.elim (fun e => h e.symm) hm)]
        rfl
theorem dput_mem {kvs : List (W × W)} {k v : W} : ∀ p ∈ dput kvs k v, p.1 = k ∨ ∃ q ∈ kvs, q.1 = p.1 := by
  intro p hp
  have h : p.1 ∈ (dput kvs k v).map (·.1) := List.mem_map.mpr ⟨p, hp, rfl⟩
  rw [dput_keys] at h
  split at h
  · obtain ⟨q, hq, e⟩ := List.mem_map.mp h
    exact .inr ⟨q, hq, e⟩
  · rcases List.mem_append.mp h with h | h
    · obtain ⟨q, hq, e⟩ := List.mem_map.mp h
      exact .inr ⟨q, hq, e⟩
    · exact .inl (List.mem_singleton.mp h)
theorem dput_len (kvs : List (W × W)) (k v : W) : (dput kvs k v).length ≤ kvs.length + 1 := by
  have h := congrArg List.length (dput_keys kvs k v)
  rw [List.length_map] at h
  rw [h]
  split <;> simp
theorem dput_nd {kvs : List (W × W)} {k v : W} (nd : (kvs.map (·.1)).Nodup) : ((dput kvs k v).map (·.1)).Nodup := by
  rw [dput_keys]
  split
  · exact nd
  · rename_i h
    refine List.nodup_append.mpr ⟨nd, by simp, fun a ha b hb e => h ?_⟩
    rw [List.mem_singleton.mp hb] at e
    rw [← e]
    exact ha
theorem dput_new : ∀ {kvs : List (W × W)} {k v : W}, k ∉ kvs.map (·.1) → dput kvs k v = kvs ++ [(k, v)]
  | [], _, _, _ => rfl
  | (k', v') :: rest, k, v, h => by
    rw [List.map_cons, List.mem_cons, not_or] at h
    simp only [dput, if_neg (fun e : k' = k => h.1 e.symm), dput_new h.2, List.cons_append]
theorem dput_old : ∀ {kvs : List (W × W)} {k v : W}, (kvs.map (·.1)).Nodup → k ∈ kvs.map (·.1) → dput kvs k v = kvs.map fun p => if p.1 = k then (p.1, v) else p
  | [], _, _, _, h => by simp at h
  | (k', v') :: rest, k, v, nd, h => by
    rw [List.map_cons, List.nodup_cons] at nd
    by_cases e : k' = k
    · subst e
      have : rest.map (fun p => if p.1 = k' then (p.1, v) else p) = rest := by
        refine (List.map_congr_left (g := fun p => p) fun p hp => if_neg fun e => ?_).trans (List.map_id' rest)
        exact nd.1 (by rw [← e]; exact List.mem_map.mpr ⟨p, hp, rfl⟩)
      simp [dput, this]
    · rw [List.map_cons, List.mem_cons] at h
      simp only [dput, if_neg e, List.map_cons]
      rw [dput_old nd.2 (h.resolve_left fun z => e z.symm)]
theorem PrA.put {kvs : List (W × W)} {xs : List (Key × V)} (q : PrA C H r kvs xs) (nd : (kvs.map (·.1)).Nodup) (hk : ∀ p ∈ kvs, isK p.1 = true) (ht : ∀ p ∈ kvs, isT p.1 = false) {k w : W} {v : V} (h : isK k = true) (t : isT k = false) (hw : RepW C H r w v) :
    PrA C H r (dput kvs k w) (putK xs (keyA k) v) := by
  have hany : (xs.any fun kv => decide (kv.1 = keyA k)) = decide (k ∈ kvs.map (·.1)) := by
    clear nd
    induction q with
    | nil => rfl
    | @cons p x ps rest e q ih =>
      rw [List.any_cons, ih (fun p hp => hk p (List.mem_cons_of_mem _ hp)) (fun p hp => ht p (List.mem_cons_of_mem _ hp))]
      have : decide (x.1 = keyA k) = decide (k = p.1) := decide_eq_decide.mpr ⟨fun z => (keyA_inj (hk _ List.mem_cons_self) h (ht _ List.mem_cons_self) t (e.1.trans z)).symm, fun z => by rw [← e.1, z]⟩
      rw [this, List.map_cons, ← Bool.decide_or]
      exact decide_eq_decide.mpr List.mem_cons.symm
  unfold putK
  rw [hany]
  by_cases hm : k ∈ kvs.map (·.1)
  · rw [if_pos (decide_eq_true hm), dput_old nd hm]
    clear hm nd hany
    induction q with
    | nil => exact .nil
    | @cons p x ps rest e q ih =>
      rw [List.map_cons, List.map_cons]
      refine .cons ?_ (ih (fun p hp => hk p (List.mem_cons_of_mem _ hp)) (fun p hp => ht p (List.mem_cons_of_mem _ hp)))
      by_cases hx : p.1 = k
      · rw [if_pos hx, if_pos (by rw [← e.1, hx])]
        exact ⟨e.1, hw⟩
      · rw [if_neg hx, if_neg fun z => hx (keyA_inj (hk _ List.mem_cons_self) h (ht _ List.mem_cons_self) t (e.1.trans z))]
        exact e
  · rw [if_neg (by simpa using hm), dput_new hm]
    clear hm nd hany hk ht
    induction q with
    | nil => exact .cons ⟨rfl, hw⟩ .nil
    | @cons p x ps rest e q ih => exact .cons e ih
theorem PrT.put {kvs : List (W × W)} {xs : List (NestedKey × Addr × Value)} (q : PrT C H r kvs xs) (nd : (kvs.map (·.1)).Nodup) (hk : ∀ p ∈ kvs, isK p.1 = true) {k w : W} {b : Addr} {v : V} {u : Value} (h : isK k = true) (qk : RepW C H r k (.ref b)) (hw : RepW C H r w v) (ru : L2.RelV v u) :
    PrT C H r (dput kvs k w) (storedH xs (keyN k) b u) := by
  by_cases hm : k ∈ kvs.map (·.1)
  · have hs : ∃ p, atKey xs (keyN k) = some p := by
      obtain ⟨p, hp, e⟩ := List.mem_map.mp hm
      cases hg : dget kvs k with
      | some z => obtain ⟨p, _, e2, _⟩ := (q.val hk h).1 z hg; exact ⟨p, e2⟩
      | none =>
        exfalso
        clear q nd hm
        induction kvs with
        | nil => cases hp
        | cons y ys ih =>
          simp only [dget] at hg
          split at hg
          · cases hg
          · rename_i hne
            rcases List.mem_cons.mp hp with hp | hp
            · exact hne (by rw [← hp, e])
            · exact ih (fun p hp => hk p (List.mem_cons_of_mem _ hp)) hp hg
    obtain ⟨pp, hs⟩ := hs
    rw [storedH_old hs, dput_old nd hm]
    clear hm nd hs
    induction q with
    | nil => exact .nil
    | @cons p x ps rest e q ih =>
      rw [List.map_cons, List.map_cons]
      refine .cons ?_ (ih (fun p hp => hk p (List.mem_cons_of_mem _ hp)))
      by_cases hx : p.1 = k
      · rw [if_pos hx]
        unfold putAt
        rw [if_pos (by rw [← e.1, hx])]
        exact ⟨e.1, e.2.1, v, hw, ru⟩
      · rw [if_neg hx]
        unfold putAt
        rw [if_neg fun z => hx (keyN_inj _ _ (hk _ List.mem_cons_self) h (e.1.trans z))]
        exact e
  · have hn : atKey xs (keyN k) = none := by
      refine (q.val hk h).2 ?_
      clear q nd
      induction kvs with
      | nil => rfl
      | cons y ys ih =>
        rw [List.map_cons, List.mem_cons, not_or] at hm
        obtain ⟨y1, y2⟩ := y
        simp only [dget, if_neg (fun e : y1 = k => hm.1 e.symm)]
        exact ih (fun p hp => hk p (List.mem_cons_of_mem _ hp)) hm.2
    rw [storedH_new hn, dput_new hm]
    clear hm nd hn hk
    induction q with
    | nil => exact .cons ⟨rfl, qk, v, hw, ru⟩ .nil
    | @cons p x ps rest e q ih => exact .cons e ih
end
end Sw

set_option autoImplicit false
set_option Elab.async false
set_option linter.all false
set_option maxRecDepth 100000
/-! Stores to dicts and lists; indices; in; len. -/
namespace Sw
open PySem PySem.Spec L2
section
variable {C : Rc} {X : Cx} {pins : List (Addr × Obj)} {σ : L2.St} {H : Hp} {s : Shared} {r : List Addr} {M : Mem}
theorem RawT.ok {P : Program} {w : World} {C : Rc} {H' : Hp} {h : Heap} {a : Addr} {xs : List (NestedKey × Addr × Value)} (x : RawT C a xs h) : ObjOk P w H' h a (.ext (RawT C a xs)) := by
  obtain ⟨o, es, ep, h1, h2⟩ := id x
  refine ⟨x, ⟨o, h1⟩, fun g1 g2 ⟨o, es, ep, k1, k2⟩ q => ⟨o, es, ep, q o k1, k2⟩⟩
theorem DicAt.put_side {lk : Bool} {kvs : List (W × W)} {a : Addr} {k w : W} (d : DicAt C H r lk kvs a) (h : okKey kvs k = true) (hl : many (kvs.length + 1) = true) :
    (dput kvs k w).length ≤ 1000000 ∧ ((dput kvs k w).map (·.1)).Nodup ∧ (∀ p ∈ dput kvs k w, isK p.1 = true ∧ dep p.1 ≤ 8) ∧ ∀ p ∈ dput kvs k w, isT p.1 = isT k := by
  obtain ⟨hk, hd, hh⟩ := okKey_iff h
  refine ⟨Nat.le_trans (dput_len kvs k w) (of_decide_eq_true hl), dput_nd d.nd, fun p hp => ?_, fun p hp => ?_⟩
  · rcases dput_mem p hp with e | ⟨q, hq, e⟩
    · rw [e]; exact ⟨hk, hd⟩
    · rw [← e]; exact d.key q hq
  · rcases dput_mem p hp with e | ⟨q, hq, e⟩
    · rw [e]
    · rw [← e]
      rcases hh with e2 | ⟨p0, rest, e2, e3⟩
      · rw [e2] at hq; cases hq
      · rcases d.obj with ⟨z, _⟩ | ⟨⟨_, z⟩, _⟩
        · rw [z q hq, ← e3, z p0 (by rw [e2]; exact List.mem_cons_self)]
        · rw [z q hq, ← e3, z p0 (by rw [e2]; exact List.mem_cons_self)]
theorem dic_set {A : Around} {E : Value → Shared → Prop} {Q : Unit → Shared → Prop} (hK : C.K = X.K) (hw : C.w = X.w) (hu : A.units + 64 < cLine) (I : Inv X pins σ H s) (m : RepM C H r M) {kvs : List (W × W)} {a : Addr} {j : Nat} {k w : W} {v z : V} {u uz : Value}
    (ha : r[j]? = some a) (hM : M[j]? = some (O.dic kvs)) (h : okKey kvs k = true) (hl : many (kvs.length + 1) = true) (qk : RepW C H r k v) (ru : L2.RelV v u) (qz : RepW C H r w z) (rz : L2.RelV z uz)
    (hq : ∀ H' s', Inv X pins σ H' s' → Mono r r H H' → RepM C H' r (M.set j (O.dic (dput kvs k w))) → Q () s') : wpAny (model X.prog X.w) A (setItem (.ref a) u uz) Q E s := by
  have d : DicAt C H r false kvs a := m.obj j a _ ha hM
  obtain ⟨hk, hd, _⟩ := okKey_iff h
  obtain ⟨f1, f2, f3, f4⟩ := d.put_side (w := w) h hl
  have few := of_decide_eq_true hl
  cases t : isT k with
  | false =>
    obtain ⟨ht, xs, e1, q⟩ := d.atom h t
    have e1 : H a = some (.dK xs) := e1
    have nf : ∀ o, H a = some o → frzH o = false := fun o z => by rw [e1] at z; cases z; rfl
    have ev := kV_of hk t qk
    subst ev
    have hx : xs.length < sizeLine := by
      have hle : kvs.length = xs.length := Paired.length q
      have : (1000001 : Nat) ≤ sizeLine := by decide
      omega
    refine d_setItem (by omega) I (DPut.k e1 hx) ru rz fun s' I' => hq _ s' I' (Mono.write (List.mem_of_getElem? ha) nf) (m.write ha nf ?_)
    refine DicAt.mk f1 f2 f3 (.inl ⟨fun p hp => (f4 p hp).trans t, _, upd_same, ?_⟩)
    exact (q.put d.nd (fun p hp => (d.key p hp).1) ht hk t qz).go (Mono.write (List.mem_of_getElem? ha) nf) m
  | true =>
    obtain ⟨hsm, hmn, xs, dd, q⟩ := d.tups hK hw I h t
    obtain ⟨hmu, nf⟩ := hmn rfl
    obtain ⟨b, ev⟩ := tup_ref t qk
    subst ev
    obtain rfl : u = Value.ref b := ru
    have hz : xs.length ≤ sizeLine := by
      have hle : kvs.length = xs.length := Paired.length q
      have : (1000001 : Nat) ≤ sizeLine := by decide
      omega
    refine wpAny_setItem_heap (hsz := hz) (key_room hu) (tup_is hK I hk hd qk) dd fun h' dd' hs => ?_
    obtain ⟨o, es, ep, h1, h2, h3, h4, _, _⟩ := dd'
    have raw : RawT C a (storedH xs (keyN k) b uz) h' := ⟨o, es, ep, h1, h2, h3, by rw [h4, hw]; rfl⟩
    refine hq (upd H a (.ext (RawT C a (storedH xs (keyN k) b uz)))) _ (d_write I hmu hs ⟨o, h1⟩ raw.ok) (Mono.write (List.mem_of_getElem? ha) nf) (m.write ha nf ?_)
    have hne : dput kvs k w ≠ [] := fun e => by
      have := congrArg (fun l => List.map Prod.fst l) e
      simp only [dput_keys] at this
      split at this
      · rename_i hm
        rw [show kvs.map (·.1) = [] from this] at hm
        cases hm
      · simp at this
    refine DicAt.mk f1 f2 f3 (.inr ⟨⟨hne, fun p hp => (f4 p hp).trans t⟩, hsm, _, upd_same, ?_⟩)
    exact (q.put d.nd (fun p hp => (d.key p hp).1) hk qk qz rz).go (Mono.write (List.mem_of_getElem? ha) nf) m
theorem dic_of {j : Nat} {a : Addr} {kvs : List (W × W)} (m : RepM C H r M) (ha : r[j]? = some a) (h : dicO M[j]? = some kvs) : ∃ lk, DicAt C H r lk kvs a := by
  cases e : M[j]? with
  | none => rw [e] at h; cases h
  | some o =>
    rw [e] at h
    cases o with
    | dic us => cases h; exact ⟨false, m.obj j a _ ha e⟩
    | dlk us => cases h; exact ⟨true, m.obj j a _ ha e⟩
    | _ => cases h
theorem dic_type (hK : C.K = X.K) (hw : C.w = X.w) (I : Inv X pins σ H s) {lk : Bool} {kvs : List (W × W)} {a : Addr} (d : DicAt C H r lk kvs a) : s.TypeIs (.ref a) "dict" := by
  rcases d.obj with ⟨_, xs, e1, _⟩ | ⟨_, _, xs, e1, _⟩
  · obtain ⟨_, _, vs, _, dd⟩ := dk_rd I.hok e1.rd
    exact dd.typeIs
  · obtain ⟨⟨o, es, ep, h1, h2, h3, _⟩, _, _⟩ := e1.rd.ok I.hok
    exact ⟨o, h1, h2.1⟩
theorem dic_nodict (I : Inv X pins σ H s) {lk : Bool} {kvs : List (W × W)} {a : Addr} (d : DicAt C H r lk kvs a) : ∃ ob, s.heap.get? a = some ob ∧ ob.dict = none := by
  rcases d.obj with ⟨_, xs, e1, _⟩ | ⟨_, _, xs, e1, _⟩
  · obtain ⟨_, _, vs, _, ob, _, _, h1, h2, _⟩ := dk_rd I.hok e1.rd
    exact ⟨ob, h1, h2.2.1⟩
  · obtain ⟨⟨o, es, ep, h1, h2, h3, _⟩, _, _⟩ := e1.rd.ok I.hok
    exact ⟨o, h1, h2.2.1⟩
end
/-! ### indices -/
theorem ixW_eq (n : Nat) (i : Int) : ixW n i = L2.ixN n i := by
  unfold ixW L2.ixN
  by_cases h0 : 0 ≤ i
  · rw [if_pos h0, if_pos h0]
  · rw [if_neg h0, if_neg h0]
    by_cases h1 : 0 ≤ i + n
    · rw [if_pos h1, if_pos (by omega)]
    · rw [if_neg h1, if_neg (by omega)]
section
variable {C : Rc} {E : XK} {X : Cx}
theorem atW_go {H : Hp} {r : List Addr} {M : Mem} {ws : List W} {vs : List V} {i : Int} {Q : VK} (m : RepM C H r M) (q : RepWs C H r ws vs) (p : PG C E r H (atW ws i M) (Kv C Q r H)) : ∃ v, atI vs i = some v ∧ Q v H := by
  unfold atW at p
  split at p
  · rename_i w hw
    obtain ⟨n, h1, h2⟩ := Option.bind_eq_some_iff.mp hw
    obtain ⟨v, h3, h4⟩ := q.get h2
    refine ⟨v, ?_, Kv_now m p h4⟩
    unfold atI
    rw [q.length, ← ixW_eq, h1]
    exact h3
  · exact p.elim
theorem seq_ix {H : Hp} {r : List Addr} {M : Mem} {w : W} {x : V} {ws : List W} {i : Int} {Q : VK} (hK : C.K = X.K) (m : RepM C H r M) (qa : RepW C H r w x) (h : items w M = some ws) (p : PG C E r H (atW ws i M) (Kv C Q r H)) : rIx X.K x (.int i) H Q := by
  obtain ⟨a, vs, e, sq, q⟩ := Kr_of m qa h
  obtain ⟨v, h1, h2⟩ := atW_go m q p
  rw [hK] at sq
  rcases sq with sq | sq
  · exact .inl ⟨a, vs, i, v, e, rfl, sq, h1, h2⟩
  · exact .inr (.inl ⟨a, vs, i, v, e, rfl, sq, h1, h2⟩)
end
theorem sub_any {prog : Program} {w : World} {A : Around} {E : Value → Shared → Prop} {s : Shared} {value slice : Expr} {o i : Value} {T id : String} {Q : Value → Shared → Prop} (hT : s.TypeIs o T) (hl : typeLookup (.type T) "__getitem__" = pure (some (.builtin id)))
    (h : wpAny (model prog w) A (getItem o i) Q E s) (hs : subscripted slice false o i = operate [o, i] (getItem o i)) : wpAny (model prog w) A (PyProof.Rows.subscriptTail value slice o i) Q E s := by
  have last : wpAny (model prog w) A (subscripted slice false o i) (fun r s3 => wpAny (model prog w) A (letTemporaryGo value o r >>= fun _ => pure r) Q E s3) E s := by
    rw [hs]
    exact wpAny_operating (wpAny_mono h (fun _ _ z => wpAny_bind (wpAny_letTemporaryGo (wpAny_pure z))) fun _ _ z => z)
  unfold PyProof.Rows.subscriptTail
  apply wpAny_bind
  rw [getitemInPython_of_ne hT.not_modules]
  apply wpAny_bind
  apply wpAny_specialOf hT hl
  first
    | exact wpAny_pure (wpAny_bind last)
    | exact wpAny_bind (wpAny_pure (wpAny_bind last))
    | exact wpAny_bind last
section
variable {C : Rc} {E : XK} {X : Cx}
theorem tx_get (z : Tx) (n : Nat) : (tx z).cps.toList[n]? = z[n]? := by simp
theorem o_ix (hK : C.K = X.K) (hw : C.w = X.w) (hu : X.A.units + 64 < cLine) : IxR X (r2 C E oIx) := by
  intro value slice pins s σ H x y v u Q I rx ry ⟨r, M, a, b, m, qa, qb, p⟩ hs
  change PG C E r H (oIx a b M) (Kv C Q r H) at p
  have seq : ∀ ws i, items a M = some ws → b = .int i → PG C E r H (atW ws i M) (Kv C Q r H) → EP X pins σ Q = EP X pins σ Q → rIx X.K x y H Q := fun ws i h e p1 _ => by
    clear p
    subst e
    have ey : y = .int i := qb
    subst ey
    exact seq_ix hK m qa h p1
  have dic : ∀ j kvs, a = .ref j → dicO M[j]? = some kvs → okKey kvs b = true → PG C E r H (match dget kvs b with
      | some w => ok w M
      | none => none) (Kv C Q r H) → wpAny (model X.prog X.w) X.A (PyProof.Rows.subscriptTail value slice v u) (EP X pins σ Q) X.xe s := fun j kvs e hM hk p1 => by
    clear p
    subst e
    cases hg : dget kvs b with
    | none => rw [hg] at p1; exact p1.elim
    | some w =>
      rw [hg] at p1
      obtain ⟨c, ec, hc⟩ := qa
      subst ec
      obtain rfl : v = Value.ref c := rx
      obtain ⟨lk, d⟩ := dic_of m hc hM
      exact sub_any (dic_type hK hw I d) PySem.F.slot_dict_getitem.lookup (dic_get hK hw hu I m d hk qb ry hg fun z z' s' I' q' r' => ⟨z, H, I', r', Kv_now m p1 q'⟩) hs
  unfold oIx at p
  split at p
  · rename_i i
    split at p
    · rename_i z
      split at p
      · rename_i hzl
        split at p
        · rename_i c hc
          obtain ⟨n, h1, h2⟩ := Option.bind_eq_some_iff.mp hc
          refine ix_str value slice pins s σ H x y v u Q I rx ry ⟨tx z, i, c, qa, qb, by rw [tx_len]; exact many_le hzl, ?_, Kv_now m p rfl⟩ hs
          unfold atI
          rw [← ixW_eq]
          have e : (tx z).cps.toList = z := by simp
          rw [e, h1]
          exact h2
        · exact p.elim
      · exact p.elim
    · rename_i j
      split at p
      · rename_i kvs hM
        split at p
        · rename_i hk
          exact dic j kvs rfl hM hk p
        · exact p.elim
      · split at p
        · rename_i ws h
          exact ix_seq value slice pins s σ H x y v u Q I rx ry (seq ws i h rfl p rfl) hs
        · exact p.elim
    · split at p
      · rename_i ws h
        exact ix_seq value slice pins s σ H x y v u Q I rx ry (seq ws i h rfl p rfl) hs
      · exact p.elim
  · split at p
    · rename_i j
      split at p
      · rename_i kvs hM
        split at p
        · rename_i hk
          exact dic j kvs rfl hM hk p
        · exact p.elim
      · exact p.elim
    · exact p.elim
end
end Sw

set_option autoImplicit false
set_option Elab.async false
set_option linter.all false
set_option maxRecDepth 100000
/-! in, len. -/
namespace Sw
open PySem PySem.Spec L2
theorem any_eqv {x : W} (hx : isD x = true) : ∀ {ws : List W}, isDs ws = true → ((toDs ws).any fun z => PyData.eqv z (toD x)) = ws.any fun z => eqD z x
  | [], _ => rfl
  | w :: ws, h => by
    rw [isDs, Bool.and_eq_true] at h
    rw [toDs, List.any_cons, List.any_cons, eqv_D w x (isF_of_D _ h.1) (isF_of_D _ hx), any_eqv hx h.2]
section
variable {C : Rc} {E : XK} {X : Cx}
theorem room65 {X : Cx} {a b : Nat} (hu : X.A.units + 64 < cLine) (h : a ≤ 59) : X.A.units + 1 + min a b < cLine := by
  have : min a b ≤ a := Nat.min_le_left _ _
  omega
theorem Reads.tup_of {h : Heap} {v : Value} {ds : List PyData} {as : List Addr} (x : Reads h v (.tuple ds) as) : Reads h v (.tuple ds) as := x
/-- the four ways of in -/
theorem in_ways (hK : C.K = X.K) (hw : C.w = X.w) (hu : X.A.units + 64 < cLine) {pins : List (Addr × Obj)} {s : Shared} {σ : L2.St} {H : Hp} {x y : V} {v u : Value} {r : List Addr} {M : Mem} {a b : W} {k : Bool} {Q Q' : Value → Shared → Prop}
    (I : Inv X pins σ H s) (rx : L2.RelV x v) (ry : L2.RelV y u) (m : RepM C H r M) (qa : RepW C H r a x) (qb : RepW C H r b y) (h : inW a b M = some k) (hq : ∀ s', Inv X pins σ H s' → Q (.bool k) s') (hq' : ∀ s', Inv X pins σ H s' → Q' (.bool (!k)) s') :
    wpAny (model X.prog X.w) X.A (compareOp .In v u) Q X.xe s ∧ wpAny (model X.prog X.w) X.A (compareOp .NotIn v u) Q' X.xe s := by
  unfold inW at h
  have seq : ∀ ws, isD a = true → isDs ws = true → deps ws ≤ 59 → k = (ws.any fun z => eqD z a) → (Dp X.K H y (.list (toDs ws)) ∨ Dp X.K H y (.tuple (toDs ws))) →
      wpAny (model X.prog X.w) X.A (compareOp .In v u) Q X.xe s ∧ wpAny (model X.prog X.w) X.A (compareOp .NotIn v u) Q' X.xe s := fun ws h1 h2 h3 e dy => by
    subst e
    have dx := RepW.dp a x h1 qa
    rw [hK] at dx
    obtain ⟨as, ra⟩ := Dp.reads I _ _ _ dx rx
    have hr := room65 (X := X) (b := (toD a).depth) hu (Nat.le_trans (toDs_depth ws) h3)
    rcases dy with dy | dy
    · obtain ⟨bs, rb⟩ := Dp.reads I _ _ _ dy ry
      exact ⟨PySem.SeqAt.in_list_data rb ra (toDs_plain ws) (toD_plain a) hr (by rw [any_eqv h1 h2]; exact hq _ I), PySem.SeqAt.notIn_list_data rb ra (toDs_plain ws) (toD_plain a) hr (by rw [any_eqv h1 h2]; exact hq' _ I)⟩
    · obtain ⟨bs, rb⟩ := Dp.reads I _ _ _ dy ry
      exact ⟨PySem.SeqAt.in_tuple_data rb ra (toDs_plain ws) (toD_plain a) hr (by rw [any_eqv h1 h2]; exact hq _ I), PySem.SeqAt.notIn_tuple_data rb ra (toDs_plain ws) (toD_plain a) hr (by rw [any_eqv h1 h2]; exact hq' _ I)⟩
  split at h
  · rename_i ws
    split at h
    · rename_i hc
      simp only [Bool.and_eq_true, decide_eq_true_eq] at hc
      have dy := RepW.dp (.tup ws) y hc.1.1.2 qb
      rw [toD_tup (hasM_of_D hc.1.1.2), hK] at dy
      exact seq ws hc.1.1.1 hc.1.1.2 hc.2 (Option.some.inj h).symm (.inr dy)
    · cases h
  · rename_i i
    split at h
    · rename_i ws hi
      split at h
      · rename_i hc
        simp only [Bool.and_eq_true, decide_eq_true_eq] at hc
        obtain ⟨c, vs, e1, _, h1, q1⟩ := lst_at m qb hi
        have dy : Dp C.K H y (.list (toDs ws)) := by
          rw [e1]
          exact .lst (.inl (.inl h1)) (RepWs.dp ws vs hc.1.1.2 q1)
        rw [hK] at dy
        exact seq ws hc.1.1.1 hc.1.1.2 hc.2 (Option.some.inj h).symm (.inl dy)
      · cases h
    · split at h
      · rename_i kvs hi
        split at h
        · rename_i hk
          obtain ⟨c, ec, hc⟩ := qb
          subst ec
          obtain rfl : u = Value.ref c := ry
          obtain ⟨lk, d⟩ := dic_of m hc hi
          have e := (Option.some.inj h).symm
          subst e
          exact ⟨dic_in hK hw hu I m d hk qa rx hq, dic_notIn hK hw hu I m d hk qa rx hq'⟩
        · cases h
      · cases h
  · rename_i z
    split at h
    · rename_i c
      have e := (Option.some.inj h).symm
      subst e
      have ez : (tx z).cps.toList = z := by simp
      have g1 : wpAny (model X.prog X.w) X.A (compareOp .In v u) (EP X pins σ fun w H' => H' = H ∧ w = .bl (decide (c ∈ z))) X.xe s := op_in_sign pins s σ H x y v u _ I rx ry ⟨c, tx z, qa, qb, rfl, by rw [ez]⟩
      have g2 : wpAny (model X.prog X.w) X.A (compareOp .NotIn v u) (EP X pins σ fun w H' => H' = H ∧ w = .bl (!decide (c ∈ z))) X.xe s := op_notIn_sign pins s σ H x y v u _ I rx ry ⟨c, tx z, qa, qb, rfl, by rw [ez]⟩
      refine ⟨thn g1 fun w s1 ⟨w', H1, I1, r1, e1, e2⟩ => ?_, thn g2 fun w s1 ⟨w', H1, I1, r1, e1, e2⟩ => ?_⟩
      · subst e1 e2
        obtain rfl : w = Value.bool _ := r1
        exact hq _ I1
      · subst e1 e2
        obtain rfl : w = Value.bool _ := r1
        exact hq' _ I1
    · cases h
  · cases h
theorem o_in (hK : C.K = X.K) (hw : C.w = X.w) (hu : X.A.units + 64 < cLine) : OpR X (compareOp .In) (r2 C E oIn) := by
  intro pins s σ H x y v u Q I rx ry ⟨r, M, a, b, m, qa, qb, p⟩
  change PG C E r H (eqOut M (inW a b M)) (Kv C Q r H) at p
  cases e : inW a b M with
  | none => rw [e] at p; exact p.elim
  | some k =>
    rw [e] at p
    exact (in_ways hK hw hu (Q' := fun _ _ => True) I rx ry m qa qb e (fun s' I' => ⟨.bl k, H, I', rfl, eqOut_go m rfl p⟩) fun _ _ => trivial).1
theorem o_ni (hK : C.K = X.K) (hw : C.w = X.w) (hu : X.A.units + 64 < cLine) : OpR X (compareOp .NotIn) (r2 C E oNi) := by
  intro pins s σ H x y v u Q I rx ry ⟨r, M, a, b, m, qa, qb, p⟩
  change PG C E r H (eqOut M ((inW a b M).map (!·))) (Kv C Q r H) at p
  cases e : inW a b M with
  | none => rw [e] at p; exact p.elim
  | some k =>
    rw [e] at p
    exact (in_ways hK hw hu (Q := fun _ _ => True) I rx ry m qa qb e (fun _ _ => trivial) fun s' I' => ⟨.bl (!k), H, I', rfl, eqOut_go m rfl p⟩).2
/-! ### calls of built-ins by values -/
theorem i_c1 {f : Op1} {v : Value} {id : String} {x : Str} {e : Expr} {m : EM} {p pos : Pos} (hv0 : v = .builtin id) (hc : CallR X (.builtin id) (fun xs H Q => ∃ a, xs = [a] ∧ r1 C E f a H Q)) (hg : Gl X x) (hm : X.mg x = none) (hv : bootBuiltins x = some (.builtin id)) (ha : PE X e (tE C E m))
    (hn : x ≠ "__name__" := by decide) (hdb : (x == ("__debug__" : Str)) = false := by decide) (hs : starEach [e] X.env = (false, eval e X.env) :: starEach [] X.env := by rfl) : PE X (.Call (.Name x p) [e] [] pos) (tE C E (eUn f m)) :=
  PE.imp (pe_callB hc hg hm hv (pa_cons ha pa_nil hs) hn hdb hs rfl) fun _ _ _ ⟨_, _, _, hs, hm, p⟩ => tE_on Kv_cl hs hm p fun v H1 r1 M1 w x1 m1 q1 s1 p1 => ⟨v, rfl, r1, M1, w, m1, q1, p1⟩
theorem i_c1t {f : Op1} {T : String} {x : Str} {e : Expr} {m : EM} {p pos : Pos} (hc : CallR X (.type T) (fun xs H Q => ∃ a, xs = [a] ∧ r1 C E f a H Q)) (hg : Gl X x) (hm : X.mg x = none) (hv : bootBuiltins x = some (.type T)) (ha : PE X e (tE C E m))
    (hn : x ≠ "__name__" := by decide) (hdb : (x == ("__debug__" : Str)) = false := by decide) (hs : starEach [e] X.env = (false, eval e X.env) :: starEach [] X.env := by rfl) : PE X (.Call (.Name x p) [e] [] pos) (tE C E (eUn f m)) :=
  PE.imp (pe_callTy hc hg hm hv (pa_cons ha pa_nil hs) hn hdb hs rfl) fun _ _ _ ⟨_, _, _, hs, hm, p⟩ => tE_on Kv_cl hs hm p fun v H1 r1 M1 w x1 m1 q1 s1 p1 => ⟨v, rfl, r1, M1, w, m1, q1, p1⟩
/-- a built-in over a list or tuple -/
def rL (C : Rc) (E : XK) (f : List W → Mem → Out W) : V → Hp → VK → Prop := fun x H Q => ∃ r M a vs ws, x = .ref a ∧ (SqL C.K H a vs ∨ SqT C.K H a vs) ∧ RepM C H r M ∧ RepWs C H r ws vs ∧ PG C E r H (f ws M) (Kv C Q r H)
theorem i_cL {f : List W → Mem → Out W} {id : String} {x : Str} {e : Expr} {l : LM} {p pos : Pos} (hc : CallR X (.builtin id) (fun xs H Q => ∃ a, xs = [a] ∧ rL C E f a H Q)) (hg : Gl X x) (hm : X.mg x = none) (hv : bootBuiltins x = some (.builtin id)) (ha : PE X e (tR C E l))
    (hn : x ≠ "__name__" := by decide) (hdb : (x == ("__debug__" : Str)) = false := by decide) (hs : starEach [e] X.env = (false, eval e X.env) :: starEach [] X.env := by rfl) : PE X (.Call (.Name x p) [e] [] pos) (tE C E (eL f l)) :=
  PE.imp (pe_callB hc hg hm hv (pa_cons ha pa_nil hs) hn hdb hs rfl) fun _ _ _ ⟨_, _, _, hs, hm, p⟩ => tR_on Kv_cl hs hm p fun a vs H1 r1 M1 ws x1 m1 q1 sq s1 p1 => ⟨.ref a, rfl, r1, M1, a, vs, ws, rfl, sq, m1, q1, p1⟩
theorem i_cLt {f : List W → Mem → Out W} {T : String} {x : Str} {e : Expr} {l : LM} {p pos : Pos} (hc : CallR X (.type T) (fun xs H Q => ∃ a, xs = [a] ∧ rL C E f a H Q)) (hg : Gl X x) (hm : X.mg x = none) (hv : bootBuiltins x = some (.type T)) (ha : PE X e (tR C E l))
    (hn : x ≠ "__name__" := by decide) (hdb : (x == ("__debug__" : Str)) = false := by decide) (hs : starEach [e] X.env = (false, eval e X.env) :: starEach [] X.env := by rfl) : PE X (.Call (.Name x p) [e] [] pos) (tE C E (eL f l)) :=
  PE.imp (pe_callTy hc hg hm hv (pa_cons ha pa_nil hs) hn hdb hs rfl) fun _ _ _ ⟨_, _, _, hs, hm, p⟩ => tR_on Kv_cl hs hm p fun a vs H1 r1 M1 ws x1 m1 q1 sq s1 p1 => ⟨.ref a, rfl, r1, M1, a, vs, ws, rfl, sq, m1, q1, p1⟩
/-- len -/
theorem lenW_go {H : Hp} {r : List Addr} {M : Mem} {w : W} {x : V} {ws : List W} (m : RepM C H r M) (q : RepW C H r w x) (h : items w M = some ws) : ∃ p vs, x = .ref p ∧ (SqL C.K H p vs ∨ SqT C.K H p vs) ∧ vs.length = ws.length := by
  obtain ⟨p, vs, e, sq, q⟩ := Kr_of m q h
  exact ⟨p, vs, e, sq, q.length⟩
theorem c_len (hK : C.K = X.K) (hw : C.w = X.w) : CallR X (.builtin "len") (fun xs H Q => ∃ a, xs = [a] ∧ r1 C E uLen a H Q) := by
  intro pins s σ H xs us Q I rv ⟨a, e, r, M, w, m, q, p⟩
  subst e
  have seq : ∀ ws, items w M = some ws → (∀ n : Nat, n = ws.length → Q (.int n) H) → wpAny (model X.prog X.w) X.A (call (.builtin "len") us) (EP X pins σ Q) X.xe s := fun ws h hq => by
    obtain ⟨c, vs, ec, sq, hl⟩ := lenW_go m q h
    rw [hK] at sq
    subst ec
    exact call_len_seq pins s σ H [.ref c] us Q I rv ⟨c, vs, rfl, sq, hq _ hl⟩
  change PG C E r H (match lenW w M with
    | some n => ok (.int n) M
    | none => none) (Kv C Q r H) at p
  cases e : lenW w M with
  | none => rw [e] at p; exact p.elim
  | some n =>
    rw [e] at p
    have go : ∀ k : Nat, k = n → Q (.int k) H := fun k ek => by subst ek; exact Kv_now m p rfl
    unfold lenW at e
    split at e
    · rename_i z
      split at e
      · rename_i hz
        exact call_len_str pins s σ H [a] us Q I rv ⟨tx z, by rw [show a = .str (tx z) from q], by rw [tx_len]; exact many_le hz, by rw [tx_len]; exact go _ (Option.some.inj e)⟩
      · cases e
    · rename_i i
      split at e
      · rename_i kvs hi
        obtain ⟨c, ec, hc⟩ := q
        subst ec
        obtain ⟨lk, d⟩ := dic_of m hc hi
        cases rv with
        | cons r1 r2 =>
          cases r2
          obtain rfl := r1
          rcases d.obj with ⟨_, xs, e1, qs⟩ | ⟨_, hsm, xs, e1, qs⟩
          · refine d_len I e1.rd fun t s' I' => ⟨.int xs.length, H, I', ⟨t, rfl⟩, go _ ?_⟩
            rw [← Paired.length qs]
            exact Option.some.inj e
          · obtain ⟨⟨o, es, ep, h1, h2, h3, h4⟩, _, _⟩ := e1.rd.ok I.hok
            have hs : es.size = xs.length := by
              rw [← Array.length_toList, h4, List.length_map]
            have hlen : kvs.length = xs.length := Paired.length qs
            have hfew := d.few
            have hdr : s.heap.DictRaw c es ep := ⟨o, h1, h2, h3⟩
            refine PyProof.Rows.call_len_slot (n := (es.size : Int)) hdr.typeIs PySem.F.slot_dict_len (fun Q' hq => call_len_raw hsm hdr hq) (by omega) (by omega) ⟨.int es.size, H, I.tok _, ⟨_, rfl⟩, go _ ?_⟩
            rw [hs, ← hlen]
            exact Option.some.inj e
      · cases hi : items (.ref i) M with
        | none => rw [hi] at e; cases e
        | some ws =>
          rw [hi] at e
          exact seq ws hi fun k ek => go k (ek.trans (Option.some.inj e))
    · cases hi : items w M with
      | none => rw [hi] at e; cases e
      | some ws =>
        rw [hi] at e
        exact seq ws hi fun k ek => go k (ek.trans (Option.some.inj e))
end
end Sw

set_option autoImplicit false
set_option Elab.async false
set_option linter.all false
set_option maxRecDepth 100000
/-! Walks, targets, loops. -/
namespace Sw
open PySem PySem.Spec L2
section
variable (C : Rc) (E : XK)
/-- a walk of the model goes through these items, as long as the list that it walks stands still -/
def Wk (J : L2.It) (q : Wd) (r0 : List Addr) (H0 : Hp) : Prop := ∀ r H M, Mono r0 r H0 H → RepM C H r M → still q.2 M = true →
  (∀ (i : Nat) (w : W), q.1[i]? = some w → J.go i H ∧ ∀ x H', J.yld i H x H' → Mono r r H H' ∧ RepM C H' r M ∧ RepW C H' r w x) ∧ J.stop q.1.length H
def Ki (R : L2.It → Hp → Prop) : KT Wd := fun r H q M => ∀ J H' r', Mono r r' H H' → RepM C H' r' M → Wk C J q r' H' → R J H'
def tI (m : IM) : TI := fun σ H R => ∃ s M r, RepS C H r s σ ∧ RepM C H r M ∧ PG C E r H (m s M) (Ki C R r H)
def ownP : Pat → List Nat
  | .one i => [i]
  | .some_ is => is
/-- a target -/
def gP (p : Pat) : TG := fun v σ H Q => ∃ s M r w s', RepS C H r s σ ∧ RepM C H r M ∧ RepW C H r w v ∧ bindP p w s = some s' ∧ ∀ σ', RepS C H r s' σ' → (∀ j, j ∉ ownP p → σ'[j]? = σ[j]?) → Q σ' H
end
section
variable {C : Rc} {E : XK} {X : Cx}
theorem Ki_cl {R : L2.It → Hp → Prop} : Cl C (Ki C R) := fun r r' H H' M' a M x m h J H2 r2 y m2 q => h J H2 r2 (x.trans m y) m2 q
theorem tI_on {β : Type} {m : IM} {f : Wd → Mem → Out β} {K : KT β} {R : L2.It → Hp → Prop} {σ : L2.St} {s : Sl} {H : Hp} {r : List Addr} {M : Mem} (cl : Cl C K) (hs : RepS C H r s σ) (hm : RepM C H r M) (h : PG C E r H (bnd (m s M) f) (K r H))
    (k : ∀ J H1 r1 M1 q, Mono r r1 H H1 → RepM C H1 r1 M1 → Wk C J q r1 H1 → RepS C H1 r1 s σ → PG C E r1 H1 (f q M1) (K r1 H1) → R J H1) : tI C E m σ H R :=
  ⟨s, M, r, hs, hm, (h.fst cl).imp fun a M1 _ q J H1 r1 x m1 p => k J H1 r1 M1 a x m1 p (hs.go x hm) (q r1 H1 x m1)⟩
theorem PI.imp {tg e : Expr} {t t' : TI} (h : PI X tg e t) (f : ∀ σ H Q, t' σ H Q → t σ H Q) : PI X tg e t' := ⟨fun pins s σ H Q I q => h.run pins s σ H Q I (f σ H Q q)⟩
theorem LPG.imp {tg : Expr} {t t' : TG} (h : L2.PG X tg t) (f : ∀ v σ H Q, t' v σ H Q → t v σ H Q) : L2.PG X tg t' := ⟨fun pins s σ H v u Q I ru q => h.run pins s σ H v u Q I ru (f v σ H Q q)⟩
/-! ### targets -/
theorem i_gn {i : Nat} {x : Str} {pos : Pos} (hN : X.N.Nodup) (hi : X.N[i]? = some x) (hx : Loc X.env.scope x) (hf : X.fn x = true ∨ X.env.scope.names.lookup x = some .local := by first | exact .inl rfl | exact .inr rfl | assumption) : L2.PG X (.Name x pos) (gP C (.one i)) :=
  LPG.imp (pg_name hN hi hx hf) fun v σ H Q ⟨s, M, r, w, s', hs, hm, hw, hb, k⟩ => by
    simp only [bindP, Option.some.injEq] at hb
    subst hb
    exact k _ (hs.put hw) fun j hj => List.getElem?_set_ne fun e => hj (by rw [← e]; exact List.mem_singleton.mpr rfl)
def gPs (C : Rc) (is : List Nat) : TGs := fun vs σ H Q => ∃ s M r ws s', RepS C H r s σ ∧ RepM C H r M ∧ RepWs C H r ws vs ∧ setMany is ws s = some s' ∧ ∀ σ', RepS C H r s' σ' → (∀ j, j ∉ is → σ'[j]? = σ[j]?) → Q σ' H
theorem LPGs.imp {tg : List Expr} {t t' : TGs} (h : L2.PGs X tg t) (f : ∀ v σ H Q, t' v σ H Q → t v σ H Q) : L2.PGs X tg t' := ⟨fun pins s σ H v u Q I ru q => h.run pins s σ H v u Q I ru (f v σ H Q q)⟩
theorem i_gnil : L2.PGs X [] (gPs C []) :=
  LPGs.imp pgs_nil fun vs σ H Q ⟨s, M, r, ws, s', hs, hm, hw, hb, k⟩ => by
    cases ws with
    | nil =>
      simp only [setMany, Option.some.injEq] at hb
      subst hb
      exact ⟨hw, k σ hs fun _ _ => rfl⟩
    | cons w ws => simp [setMany] at hb
theorem i_gcons {i : Nat} {x : Str} {pos : Pos} {es : List Expr} {is : List Nat} (hN : X.N.Nodup) (hi : X.N[i]? = some x) (hx : Loc X.env.scope x) (h2 : L2.PGs X es (gPs C is)) (hf : X.fn x = true ∨ X.env.scope.names.lookup x = some .local := by first | exact .inl rfl | exact .inr rfl | assumption)
    (hs : (assignEach (.Name x pos :: es) X.env).map (·.2) = assign (.Name x pos) X.env :: (assignEach es X.env).map (·.2) := by rfl) : L2.PGs X (.Name x pos :: es) (gPs C (i :: is)) :=
  LPGs.imp (pgs_cons (i_gn (C := C) hN hi hx hf) h2 hs) fun vs σ H Q ⟨s, M, r, ws, s', hs, hm, hw, hb, k⟩ => by
    cases ws with
    | nil => simp [setMany] at hb
    | cons w ws =>
      obtain ⟨v, vr, rfl, p, q⟩ := hw
      exact ⟨v, vr, rfl, s, M, r, w, setS s i w, hs, hm, p, rfl, fun σ' h' n' => ⟨setS s i w, M, r, ws, s', h', hm, q, hb, fun σ2 h2 n2 => k σ2 h2 fun j hj => (n2 j fun z => hj (List.mem_cons_of_mem _ z)).trans (n' j fun z => hj (by rw [List.mem_singleton.mp z]; exact List.mem_cons_self))⟩⟩
theorem setMany_len : ∀ {is : List Nat} {ws : List W} {s s' : Sl}, setMany is ws s = some s' → ws.length = is.length
  | [], [], _, _, _ => rfl
  | [], _ :: _, _, _, h => by simp [setMany] at h
  | _ :: _, [], _, _, h => by simp [setMany] at h
  | i :: is, w :: ws, s, s', h => by
    rw [List.length_cons, List.length_cons, setMany_len (is := is) (ws := ws) h]
theorem i_gt {es : List Expr} {kk : Nat} {pos : Pos} {is : List Nat} (hK : C.K = X.K) (hc : X.calm = true) (h : L2.PGs X es (gPs C is)) (hn : (assignEach es X.env).length = is.length := by rfl) (hst : (assignEach es X.env).findIdx? (·.1) = none := by rfl) : L2.PG X (.Tuple es kk pos) (gP C (.some_ is)) :=
  LPG.imp (pg_tup hc h hn hst) fun v σ H Q ⟨s, M, r, w, s', hs, hm, hw, hb, k⟩ => by
    cases w with
    | tup ws =>
      obtain ⟨a, vs, e, sq, q⟩ := hw
      rw [hK] at sq
      exact ⟨a, vs, e, sq, by rw [q.length, setMany_len hb], s, M, r, ws, s', hs, hm, q, hb, k⟩
    | _ => simp [bindP] at hb
theorem i_asg {tg e : Expr} {m : EM} {p : Pat} {pos : Pos} (he : PE X e (tE C E m)) (hg : L2.PG X tg (gP C p)) (hs : swapsWithSole [tg] e pos.line X.env = pure false := by rfl) (hw : swappedStores [tg] e X.env = pure none := by rfl)
    (h1 : (assignEach [tg] X.env).map (·.2) = [assign tg X.env] := by rfl) : PS X (.Assign [tg] e pos) (tS C E (sAsg p m)) :=
  PS.imp (ps_asg he hg hs hw h1) fun D σ H ⟨s, M, r, hs, hm, p⟩ => tE_on Ks_cl hs hm p fun v H1 r1 M1 w x1 m1 q1 s1 p1 => by
    cases e : bindP ‹Pat› w s with
    | none => rw [e] at p1; exact p1.elim
    | some s' =>
      rw [e] at p1
      exact ⟨s, M1, r1, w, s', s1, m1, q1, e, fun σ' h' _ => p1 σ' H1 r1 (Mono.refl _ _) m1 h'⟩
theorem i_set {i : Nat} {x : Str} {e : Expr} {m : EM} {pos pos' : Pos} (hN : X.N.Nodup) (hi : X.N[i]? = some x) (hx : Loc X.env.scope x) (he : PE X e (tE C E m)) (hs : swapsWith e (some (.Name x pos')) pos.line X.env = pure false := by rfl)
    (hf : X.fn x = true ∨ X.env.scope.names.lookup x = some .local := by first | exact .inl rfl | exact .inr rfl | assumption) : PS X (.Assign [.Name x pos'] e pos) (tS C E (sAsg (.one i) m)) :=
  PS.imp (ps_set hN hi hx he hs hf) fun D σ H ⟨s, M, r, hs, hm, p⟩ => tE_on Ks_cl hs hm p fun v H1 r1 M1 w x1 m1 q1 s1 p1 => p1 _ H1 r1 (Mono.refl _ _) m1 (s1.put q1)
/-! ### for -/
theorem i_for {tg iter : Expr} {bd : List Stmt} {m : IM} {p : Pat} {b : SM} {pos : Pos} (hp : PassesOwn (model X.prog X.w) X.A X.env X.xe) (hc : X.calm = true) (hi : PI X tg iter (tI C E m)) (hg : L2.PG X tg (gP C p)) (hb : PSs X bd (tS C E b))
    (hf : ∀ x, foldedSetIterable iter X.env x = pure x := by intro _; rfl) : PS X (.For tg iter bd [] pos) (tS C E (sFor p m b)) :=
  PS.imp (ps_for hp hc hi hg hb hf) fun D σ H ⟨s, M, r, hs, hm, pp⟩ => tI_on Ks_cl hs hm pp fun J H1 r1 M1 q x1 m1 wk s1 p1 => by
    obtain ⟨ws, g⟩ := q
    refine ⟨fun i n σ' H' => n = ws.length - i ∧ i ≤ ws.length ∧ ∃ s' M' r', Mono r1 r' H1 H' ∧ RepS C H' r' s' σ' ∧ RepM C H' r' M' ∧ PG C E r' H' (forL g p b (ws.drop i) s' M') (Ks C D r' H'), ⟨ws.length, rfl, Nat.zero_le _, s, M1, r1, Mono.refl _ _, s1, m1, p1⟩, ?_⟩
    rintro i n σ' H' ⟨rfl, hi, s', M', r', x', s1', m1', p1'⟩
    by_cases hst : still g M' = true
    · obtain ⟨items_, stop⟩ := wk r' H' M' x' m1' hst
      by_cases hlt : i < ws.length
      · refine .inr ⟨(items_ i ws[i] (List.getElem?_eq_getElem hlt)).1, fun σ2 H2 => ∃ s2 M2 r2, Mono r1 r2 H1 H2 ∧ RepS C H2 r2 s2 σ2 ∧ RepM C H2 r2 M2 ∧ PG C E r2 H2 (forL g p b (ws.drop (i + 1)) s2 M2) (Ks C D r2 H2),
          fun σ2 H2 h2 => ⟨ws.length - (i + 1), by omega, rfl, hlt, h2⟩, fun x H2 y => ?_⟩
        obtain ⟨y1, y2, y3⟩ := (items_ i ws[i] (List.getElem?_eq_getElem hlt)).2 x H2 y
        rw [List.drop_eq_getElem_cons hlt] at p1'
        unfold forL at p1'
        rw [if_pos hst] at p1'
        have p2 := PG.go Ks_cl y1 y2 p1'
        cases eb : bindP p ws[i] s' with
        | none => rw [eb] at p2; exact p2.elim
        | some s2 =>
          rw [eb] at p2
          refine ⟨s', M', r', ws[i], s2, s1'.go y1 m1', y2, y3, eb, fun σ2 h2 _ => ?_⟩
          refine ⟨s2, M', r', h2, y2, (p2.fst Ks_cl).imp fun fl M3 e3 q3 => ?_⟩
          cases fl with
          | nx s3 => exact fun σ3 H3 r3 x3 m3 h3 => ⟨s3, M3, r3, (x'.trans m1' y1).trans y2 x3, h3, m3, q3 r3 H3 x3 m3⟩
          | rt w => exact fun v H3 r3 x3 m3 qv => q3 r3 H3 x3 m3 v H3 r3 (Mono.refl _ _) m3 qv
      · have e : i = ws.length := by omega
        subst e
        rw [List.drop_length] at p1'
        unfold forL at p1'
        rw [if_pos hst] at p1'
        exact .inl ⟨stop, p1' σ' H' r' (Mono.refl _ _) m1' s1'⟩
    · exfalso
      cases e : ws.drop i with
      | nil => rw [e] at p1'; unfold forL at p1'; rw [if_neg hst] at p1'; exact p1'
      | cons w rest => rw [e] at p1'; unfold forL at p1'; rw [if_neg hst] at p1'; exact p1'
/-! ### while -/
theorem i_while {c : Expr} {bd : List Stmt} {t : EM} {b : SM} {g : Nat} {pos : Pos} (hp : PassesOwn (model X.prog X.w) X.A X.env X.xe) (hc : PT X c (tT C E t)) (hb : PSs X bd (tS C E b)) : PS X (.While c bd [] pos) (tS C E (sWhile g t b)) :=
  PS.imp (ps_while hp hc hb) fun D σ H ⟨s, M, r, hs, hm, pp⟩ => by
    refine ⟨fun n σ' H' => ∃ s' M' r', RepS C H' r' s' σ' ∧ RepM C H' r' M' ∧ PG C E r' H' (whL t b n s' M') (Ks C D r' H'), ⟨g, s, M, r, hs, hm, pp⟩, ?_⟩
    rintro n σ' H' ⟨s', M', r', s1', m1', p1'⟩
    cases n with
    | zero => exact p1'.elim
    | succ n =>
      refine tT_on Ks_cl s1' m1' p1' (fun w M1 h => by cases w <;> first | rfl | exact absurd rfl (h _)) fun k H1 r1 M1 x1 m1 s1 p1 => ?_
      cases k with
      | false => exact iteF (p1 σ' H1 r1 (Mono.refl _ _) m1 s1)
      | true =>
        refine iteT ⟨fun σ2 H2 => ∃ s2 M2 r2, RepS C H2 r2 s2 σ2 ∧ RepM C H2 r2 M2 ∧ PG C E r2 H2 (whL t b n s2 M2) (Ks C D r2 H2), fun σ2 H2 h2 => ⟨n, Nat.lt_succ_self n, h2⟩, ?_⟩
        refine ⟨s', M1, r1, s1, m1, (p1.fst Ks_cl).imp fun fl M3 e3 q3 => ?_⟩
        cases fl with
        | nx s3 => exact fun σ3 H3 r3 x3 m3 h3 => ⟨s3, M3, r3, h3, m3, q3 r3 H3 x3 m3⟩
        | rt w => exact fun v H3 r3 x3 m3 qv => q3 r3 H3 x3 m3 v H3 r3 (Mono.refl _ _) m3 qv
end
end Sw

set_option autoImplicit false
set_option Elab.async false
set_option linter.all false
set_option maxRecDepth 100000
/-! What is walked; comprehensions. -/
namespace Sw
open PySem PySem.Spec L2
section
variable {C : Rc} {E : XK} {X : Cx}
/-- a list or tuple that stays, at each later state -/
theorem wk_seqT {H0 : Hp} {r0 : List Addr} {a : Addr} {ws : List W} {g : Option (Nat × O)} (h : ∀ r H M, Mono r0 r H0 H → RepM C H r M → still g M = true → ∃ vs, SqT C.K H a vs ∧ RepWs C H r ws vs) : Wk C (Itt C.K a) (ws, g) r0 H0 := by
  intro r H M x m hst
  obtain ⟨vs, sq', q'⟩ := h r H M x m hst
  refine ⟨fun i w hi => ?_, vs, sq', by rw [q'.length]; exact Nat.le_refl _⟩
  obtain ⟨v, hv, qv⟩ := q'.get hi
  refine ⟨⟨vs, v, sq', hv⟩, fun y H' ⟨e, k⟩ => ?_⟩
  subst e
  have := k vs sq'
  rw [hv] at this
  cases this
  exact ⟨Mono.refl _ _, m, qv⟩
theorem wk_seqL {H0 : Hp} {r0 : List Addr} {a : Addr} {ws : List W} {g : Option (Nat × O)} (h : ∀ r H M, Mono r0 r H0 H → RepM C H r M → still g M = true → ∃ vs, SqL C.K H a vs ∧ RepWs C H r ws vs) : Wk C (Itl C.K a) (ws, g) r0 H0 := by
  intro r H M x m hst
  obtain ⟨vs, sq', q'⟩ := h r H M x m hst
  refine ⟨fun i w hi => ?_, vs, sq', by rw [q'.length]; exact Nat.le_refl _⟩
  obtain ⟨v, hv, qv⟩ := q'.get hi
  refine ⟨⟨vs, v, sq', hv⟩, fun y H' ⟨e, k⟩ => ?_⟩
  subst e
  have := k vs sq'
  rw [hv] at this
  cases this
  exact ⟨Mono.refl _ _, m, qv⟩
theorem scr_reps {H : Hp} {r : List Addr} : ∀ ns : List Int, RepWs C H r (ns.map W.int) (ns.map V.int)
  | [] => rfl
  | n :: ns => ⟨.int n, ns.map V.int, rfl, rfl, scr_reps ns⟩
theorem still_iff {i : Nat} {o : O} {M : Mem} (h : still (some (i, o)) M = true) : M[i]? = some o := of_decide_eq_true h
theorem wk_str {H0 : Hp} {r0 : List Addr} {z : Tx} {g : Option (Nat × O)} : Wk C (Its (tx z)) (z.map fun c => W.str [c], g) r0 H0 := by
  intro r H M x m hst
  have sz : (tx z).cps.size = z.length := by simp
  refine ⟨fun i w hi => ?_, by show (tx z).cps.size ≤ (z.map fun c => W.str [c]).length; rw [sz, List.length_map]; exact Nat.le_refl _⟩
  rw [List.getElem?_map] at hi
  cases e : z[i]? with
  | none => rw [e] at hi; cases hi
  | some c =>
    rw [e] at hi
    simp only [Option.map_some, Option.some.injEq] at hi
    subst hi
    have hl : i < z.length := (List.getElem?_eq_some_iff.mp e).1
    refine ⟨by show i < (tx z).cps.size; rw [sz]; exact hl, fun y H' ⟨e1, c', e2, e3⟩ => ?_⟩
    subst e1 e3
    have e4 : (tx z).cps[i]? = z[i]? := by simp
    rw [e4, e] at e2
    cases e2
    exact ⟨Mono.refl _ _, m, rfl⟩
theorem i_seq {tg e : Expr} {m : EM} (hK : C.K = X.K) (h : PE X e (tE C E m)) : PI X tg e (tI C E (iSeq m)) := by
  refine ⟨fun pins s σ H R I ⟨s0, M, r, hs, hm, p⟩ => ?_⟩
  have rd : tE C E m σ H (fun x H1 => (∃ a xs, x = .ref a ∧ SqL X.K H1 a xs ∧ R (Itl X.K a) H1) ∨ (∃ a xs, x = .ref a ∧ SqT X.K H1 a xs ∧ R (Itt X.K a) H1) ∨ ∃ z, x = .str z ∧ R (Its z) H1) :=
    tE_on Ki_cl hs hm p fun v H1 r1 M1 w x1 m1 q1 s1 p1 => by
      cases w with
      | tup ws =>
        obtain ⟨a, vs, e, sq, q⟩ := q1
        refine .inr (.inl ⟨a, vs, e, by rw [← hK]; exact sq, ?_⟩)
        rw [← hK]
        exact p1 _ H1 r1 (Mono.refl _ _) m1 (wk_seqT fun r H M x m _ => ⟨vs, x.tup m1 sq, RepWs.go x m1 _ _ q⟩)
      | str z => exact .inr (.inr ⟨tx z, q1, p1 _ H1 r1 (Mono.refl _ _) m1 wk_str⟩)
      | scr ns =>
        obtain ⟨a, e, hl, hs⟩ := q1
        refine .inl ⟨a, _, e, by rw [← hK]; exact hs.seq, ?_⟩
        rw [← hK]
        exact p1 _ H1 r1 (Mono.refl _ _) m1 (wk_seqL fun r H M x m _ => ⟨_, (x.scr m1 hs).seq, scr_reps ns⟩)
      | ref i =>
        dsimp only at p1
        split at p1
        · rename_i ws hi
          obtain ⟨a, vs, e, ha, h1, q⟩ := lst_at m1 q1 hi
          refine .inl ⟨a, vs, e, .inl (.inl h1), ?_⟩
          rw [← hK]
          refine p1 _ H1 r1 (Mono.refl _ _) m1 (wk_seqL fun r H M x m hst => ?_)
          obtain ⟨vs', h1', q'⟩ := m.obj i a _ (x.ix ha) (still_iff hst)
          exact ⟨vs', .inl (.inl h1'), q'⟩
        · exact p1.elim
      | _ => exact p1.elim
  refine thn (h.run pins s σ H _ I rd) fun v s1 ⟨x, H1, I1, r1, q1⟩ => ?_
  rcases q1 with ⟨a, xs, e, hq, q⟩ | ⟨a, xs, e, hq, q⟩ | ⟨z, e, q⟩
  · subst e
    obtain rfl : v = Value.ref a := r1
    obtain ⟨its, rv, pl, hz⟩ := I1.list hq
    exact wpAny_pyIter_list pl.isList (pi_one (tk := s1.toks) I1 _ (turn_list a _) ⟨_, Heap.get?_push_size _ rfl, rfl, rfl⟩ q)
  · subst e
    obtain rfl : v = Value.ref a := r1
    obtain ⟨its, rv, pl, hz⟩ := I1.tuple hq
    exact wpAny_pyIter_tuple (show s1.heap.IsTuple a its.toArray from pl) (pi_one (tk := s1.toks) I1 _ (turn_tuple a _) ⟨_, Heap.get?_push_size _ rfl, rfl, rfl⟩ q)
  · subst e
    obtain ⟨t, rfl⟩ := r1
    cases ha : z.cps.all (· < 128)
    · exact wpAny_pyIter_wide ha (pi_one (tk := s1.toks) I1 _ (turn_str _ z t "str_iterator" (.inr rfl)) ⟨_, Heap.get?_push_size _ rfl, rfl, rfl⟩ q)
    · exact wpAny_pyIter_ascii ha (pi_one (tk := s1.toks) I1 _ (turn_str _ z t "str_ascii_iterator" (.inl rfl)) ⟨_, Heap.get?_push_size _ rfl, rfl, rfl⟩ q)
/-- a list that nobody else holds -/
theorem i_iNew {tg e : Expr} {l : LM} (hK : C.K = X.K) (h : PE X e (tF C E l)) : PI X tg e (tI C E (iNew l)) :=
  PI.imp (pi_list h) fun σ H R ⟨s0, M, r, hs, hm, p⟩ => tF_on Ki_cl hs hm p fun a vs H1 r1 M1 ws x1 m1 q1 ha hn h0 hl s1 p1 => by
    refine ⟨a, rfl, ⟨vs, .inl (.inl ha)⟩, ?_⟩
    rw [← hK]
    exact p1 _ H1 r1 (Mono.refl _ _) m1 (wk_seqL fun r H M x m _ => ⟨vs, .inl (.inl (x.keep a _ ha (.inl hn))), RepWs.go x m1 _ _ q1⟩)
theorem wk_range {H0 : Hp} {r0 : List Addr} {lo : Int} {n : Nat} : Wk C (Itr lo n) (rangeW lo n, none) r0 H0 := by
  intro r H M x m hst
  refine ⟨fun i w hi => ?_, by show n ≤ (rangeW lo n).length; simp [rangeW]⟩
  unfold rangeW at hi
  rw [List.getElem?_map] at hi
  cases e : (List.range n)[i]? with
  | none => rw [e] at hi; cases hi
  | some c =>
    rw [e] at hi
    simp only [Option.map_some, Option.some.injEq] at hi
    subst hi
    have hl : i < n := by
      have := (List.getElem?_eq_some_iff.mp e).1
      simpa using this
    have hc : c = i := by
      rw [List.getElem?_range hl] at e
      exact (Option.some.inj e).symm
    subst hc
    refine ⟨hl, fun y H' ⟨e1, e2⟩ => ?_⟩
    subst e1 e2
    exact ⟨Mono.refl _ _, m, rfl⟩
def iRange1 (hi : EM) : IM := iRange (eC (.int 0)) hi
theorem i_range1 {tg a : Expr} {ma : EM} {p pos : Pos} (hg : Gl X "range") (hm : X.mg "range" = none) (ha : PE X a (tE C E ma)) (hs : starEach [a] X.env = [(false, eval a X.env)] := by rfl) (hs1 : starEach [a] X.env = (false, eval a X.env) :: starEach [] X.env := by rfl) : PI X tg (.Call (.Name "range" p) [a] [] pos) (tI C E (iRange1 ma)) :=
  PI.imp (pi_range1 hg hm (pa_cons ha pa_nil hs1) hs) fun σ H R ⟨s0, M, r, hs, hm, p⟩ => by
    have p : PG C E r H (bnd (ma s0 M) fun b M => match W.int 0, b with
      | .int a, .int b => if -1000000 ≤ a ∧ a ≤ 1000000 ∧ -1000000 ≤ b ∧ b ≤ 1000000 then ok (rangeW a (b - a).toNat, none) M else none
      | _, _ => none) (Ki C R r H) := p
    exact tE_on Ki_cl hs hm p fun v H1 r1 M1 w x1 m1 q1 s1 p1 => by
      cases w with
      | int j =>
        simp only at p1
        split at p1
        · rename_i hj
          refine ⟨j, by rw [show v = .int j from q1], by omega, by omega, ?_⟩
          have := p1 (Itr 0 (j - 0).toNat) H1 r1 (Mono.refl _ _) m1 wk_range
          rw [Int.sub_zero] at this
          exact this
        · exact p1.elim
      | _ => exact p1.elim
theorem i_range2 {tg a b : Expr} {ma mb : EM} {p pos : Pos} (hg : Gl X "range") (hm : X.mg "range" = none) (ha : PE X a (tE C E ma)) (hb : PE X b (tE C E mb)) (hs : starEach [a, b] X.env = [(false, eval a X.env), (false, eval b X.env)] := by rfl) (hs2 : starEach [a, b] X.env = (false, eval a X.env) :: starEach [b] X.env := by rfl) (hs3 : starEach [b] X.env = (false, eval b X.env) :: starEach [] X.env := by rfl) (hs4 : starEach [b] X.env = [(false, eval b X.env)] := by rfl) :
    PI X tg (.Call (.Name "range" p) [a, b] [] pos) (tI C E (iRange ma mb)) :=
  PI.imp (pi_range2 hg hm (pa_cons ha (pa_cons hb pa_nil hs3) hs2) hs hs4) fun σ H R ⟨s0, M, r, hs, hm, p⟩ =>
    tE_on Ki_cl hs hm p fun v H1 r1 M1 w x1 m1 q1 s1 p1 => tE_on Ki_cl s1 m1 p1 fun v2 H2 r2 M2 w2 x2 m2 q2 s2 p2 => by
      cases w with
      | int i =>
        cases w2 with
        | int j =>
          simp only at p2
          split at p2
          · rename_i hj
            exact ⟨i, j, by rw [show v = .int i from q1, show v2 = .int j from q2], ⟨by omega, by omega, by omega, by omega⟩, p2 (Itr i (j - i).toNat) H2 r2 (Mono.refl _ _) m2 wk_range⟩
          · exact p2.elim
        | _ => exact p2.elim
      | _ => exact p2.elim
/-! ### comprehensions -/
theorem setMany_agree : ∀ {is : List Nat} {ws : List W} {s t s' : Sl}, s.length = t.length → (∀ j, j ∉ is → s[j]? = t[j]?) → setMany is ws s = some s' → setMany is ws t = some s'
  | [], [], s, t, s', hl, h, e => by
    simp only [setMany, Option.some.injEq] at e ⊢
    subst e
    exact (List.ext_getElem? fun j => h j (by simp)).symm
  | [], _ :: _, _, _, _, _, _, h => by simp [setMany] at h
  | _ :: _, [], _, _, _, _, _, h => by simp [setMany] at h
  | i :: is, w :: ws, s, t, s', hl, h, e => by
    refine setMany_agree (is := is) (s := setS s i w) (t := setS t i w) (by simp [setS, hl]) (fun j hj => ?_) e
    unfold setS
    by_cases hij : i = j
    · subst hij
      rw [List.getElem?_set, List.getElem?_set]
      simp [hl]
    · rw [List.getElem?_set_ne hij, List.getElem?_set_ne hij]
      exact h j fun z => (List.mem_cons.mp z).elim (fun e => hij e.symm) hj
theorem bindP_agree {p : Pat} {w : W} {s t s' : Sl} (hl : s.length = t.length) (h : ∀ j, j ∉ ownP p → s[j]? = t[j]?) (e : bindP p w s = some s') : bindP p w t = some s' := by
  cases p with
  | one i =>
    have : setMany [i] [w] s = some s' := e
    exact setMany_agree (is := [i]) hl h this
  | some_ is =>
    cases w with
    | tup ws => exact setMany_agree hl h e
    | _ => cases e
theorem wipe_get {σ : L2.St} {i : Nat} : ∀ {vs : List Nat}, i ∉ vs → (wipe σ vs)[i]? = σ[i]?
  | [], _ => rfl
  | v :: vs, h => by
    rw [List.mem_cons, not_or] at h
    unfold wipe
    rw [List.getElem?_set_ne (Ne.symm h.1), wipe_get h.2]
theorem wipe_in {i : Nat} : ∀ (vs : List Nat) (σ : L2.St), i ∈ vs → (wipe σ vs)[i]? = if i < σ.length then some none else none := by
  intro vs
  induction vs with
  | nil => intro σ h; cases h
  | cons v vs ih =>
    intro σ h
    unfold wipe
    by_cases hv : v = i
    · subst hv
      rw [List.getElem?_set]
      simp [wipe_length]
    · rw [List.getElem?_set_ne hv]
      exact ih σ ((List.mem_cons.mp h).resolve_left fun e => hv e.symm)
theorem wipe_eq {σ σ' : L2.St} {vs : List Nat} (hl : σ'.length = σ.length) (h : ∀ i, i ∉ vs → σ'[i]? = σ[i]?) : wipe σ' vs = wipe σ vs := by
  apply List.ext_getElem?
  intro i
  by_cases hi : i ∈ vs
  · rw [wipe_in vs σ' hi, wipe_in vs σ hi, hl]
  · rw [wipe_get hi, wipe_get hi, h i hi]
/-- the own slots forgotten: the names of a comprehension are not asked ahead of it -/
def wipeS (s : Sl) : List Nat → Sl
  | [] => s
  | v :: vs => (wipeS s vs).set v none
theorem wipeS_len (s : Sl) : ∀ vs : List Nat, (wipeS s vs).length = s.length
  | [] => rfl
  | v :: vs => by unfold wipeS; rw [List.length_set, wipeS_len s vs]
theorem wipeS_get {s : Sl} {i : Nat} : ∀ {vs : List Nat}, i ∉ vs → (wipeS s vs)[i]? = s[i]?
  | [], _ => rfl
  | v :: vs, h => by
    rw [List.mem_cons, not_or] at h
    unfold wipeS
    rw [List.getElem?_set_ne (Ne.symm h.1), wipeS_get h.2]
theorem wipeS_in {i : Nat} : ∀ (vs : List Nat) (s : Sl), i ∈ vs → ∀ w, (wipeS s vs)[i]? ≠ some (some w) := by
  intro vs
  induction vs with
  | nil => intro s h; cases h
  | cons v vs ih =>
    intro s h w
    unfold wipeS
    by_cases hv : v = i
    · subst hv
      rw [List.getElem?_set]
      split
      · split <;> simp
      · rename_i z; exact absurd rfl z
    · rw [List.getElem?_set_ne hv]
      exact ih s ((List.mem_cons.mp h).resolve_left fun e => hv e.symm) w
theorem RepS.wiped {H : Hp} {r : List Addr} {s : Sl} {σ : L2.St} (h : RepS C H r s σ) (vs : List Nat) : RepS C H r (wipeS s vs) (wipe σ vs) := by
  refine ⟨by rw [wipeS_len, wipe_length, h.1], fun i w e => ?_⟩
  by_cases hi : i ∈ vs
  · exact absurd e (wipeS_in vs s hi w)
  · rw [wipeS_get hi] at e
    rw [wipe_get hi]
    exact h.2 i w e
/-! a list that is not of the store is changed -/
mutual
theorem RepW.out {H : Hp} {r : List Addr} {D : Addr} {xs : List V} {u : HO} (hD : H D = some (.lst xs)) : ∀ (w : W) (v : V), RepW C H r w v → RepW C (upd H D u) r w v
  | .non, v, h => h
  | .bl _, v, h => h
  | .int _, v, h => h
  | .str _, v, h => h
  | .tup ws, v, h => by
    obtain ⟨a, vs, e, s, q⟩ := h
    refine ⟨a, vs, e, ?_, RepWs.out hD ws vs q⟩
    rcases s with (s | ⟨o, s⟩) | s
    · exact .inl (.inl (by rw [upd_ne fun e => by rw [e, hD] at s; cases s]; exact s))
    · exact .inl (.inr ⟨o, by rw [upd_ne fun e => by rw [e, hD] at s; cases s]; exact s⟩)
    · exact .inr s
  | .ref n, v, h => h
  | .scr ns, v, h => by
    obtain ⟨a, e, l, s⟩ := h
    refine ⟨a, e, l, ?_⟩
    rcases s with ⟨o, s⟩ | s
    · exact .inl ⟨o, by rw [upd_ne fun e => by rw [e, hD] at s; cases s]; exact s⟩
    · exact .inr s
theorem RepWs.out {H : Hp} {r : List Addr} {D : Addr} {xs : List V} {u : HO} (hD : H D = some (.lst xs)) : ∀ (ws : List W) (vs : List V), RepWs C H r ws vs → RepWs C (upd H D u) r ws vs
  | [], vs, h => h
  | w :: ws, vs, h => by
    obtain ⟨v, vr, e, p, q⟩ := h
    exact ⟨v, vr, e, RepW.out hD w v p, RepWs.out hD ws vr q⟩
end
theorem DicAt.out {H : Hp} {r : List Addr} {D : Addr} {xs : List V} {u : HO} (hD : H D = Option.some (.lst xs)) {lk : Bool} {kvs : List (W × W)} {a : Addr} (ne : a ≠ D) (h : DicAt C H r lk kvs a) : DicAt C (upd H D u) r lk kvs a := by
  have eq := upd_ne (H := H) (o := u) ne
  refine DicAt.mk h.few h.nd h.key ?_
  rcases h.obj with ⟨n, xs, e, q⟩ | ⟨n, n2, xs, e, q⟩
  · exact .inl ⟨n, xs, e.eq eq, Paired.mapP q fun p y ⟨a, b⟩ => ⟨a, RepW.out hD _ _ b⟩⟩
  · exact .inr ⟨n, n2, xs, e.eq eq, Paired.mapP q fun p y ⟨a, b, v, c, d⟩ => ⟨a, RepW.out hD _ _ b, v, RepW.out hD _ _ c, d⟩⟩
theorem RepO.out {H : Hp} {r : List Addr} {D : Addr} {xs : List V} {u : HO} (hD : H D = Option.some (.lst xs)) {o : O} {a : Addr} (ne : a ≠ D) (h : RepO C H r o a) : RepO C (upd H D u) r o a := by
  have eq := upd_ne (H := H) (o := u) ne
  cases o with
  | lst ws => obtain ⟨vs, e, q⟩ := h; exact ⟨vs, eq.trans e, RepWs.out hD _ _ q⟩
  | dic kvs =>
    exact DicAt.out hD ne h
  | dlk kvs => exact DicAt.out hD ne h
  | ins c fs => obtain ⟨dx, vs, e, q⟩ := h; exact ⟨dx, vs, eq.trans e, RepWs.out hD _ _ q⟩
theorem RepM.out {H : Hp} {r : List Addr} {M : Mem} {D : Addr} {xs : List V} {u : HO} (hD : H D = some (.lst xs)) (hn : D ∉ r) (m : RepM C H r M) : RepM C (upd H D u) r M :=
  ⟨m.len, fun i a o h1 h2 => RepO.out hD (fun e => hn (by rw [← e]; exact List.mem_of_getElem? h1)) (m.obj i a o h1 h2), m.nd⟩
theorem RepS.out {H : Hp} {r : List Addr} {s : Sl} {σ : L2.St} {D : Addr} {xs : List V} {u : HO} (hD : H D = some (.lst xs)) (h : RepS C H r s σ) : RepS C (upd H D u) r s σ :=
  ⟨h.1, fun i w e => let ⟨v, e', p⟩ := h.2 i w e; ⟨v, e', RepW.out hD w v p⟩⟩
theorem Mono.out {H0 H : Hp} {r0 r : List Addr} {D : Addr} {u : HO} (h0 : H0 D = none) (x : Mono r0 r H0 H) : Mono r0 r H0 (upd H D u) :=
  ⟨x.pre, fun a o h hr => by rw [upd_ne fun e => by rw [e, h0] at h; cases h]; exact x.keep a o h hr⟩
theorem Mono.notin {H H' : Hp} {r r' : List Addr} {D : Addr} {o : HO} (x : Mono r r' H H') (hD : H D = some o) (hn : D ∉ r) : D ∉ r' := fun hm => by
  obtain ⟨t, e, ht⟩ := x.pre
  rw [e] at hm
  rcases List.mem_append.mp hm with h | h
  · exact hn h
  · rw [ht D h] at hD
    cases hD
theorem noX_inv {α : Type} {o : Out α} {a : α} {M : Mem} (h : noX o = some (.ok a, M)) : o = some (.ok a, M) := by
  unfold noX at h
  split at h
  · exact h
  · cases h
/-- how a comprehension's turn comes out -/
theorem lcL_cons {g : Option (Nat × O)} {p : Pat} {c e : EM} {s : Sl} {w : W} {ws acc R : List W} {M Mf : Mem} (h : lcL g p c e s (w :: ws) acc M = some (.ok R, Mf)) : still g M = true ∧ acc.length ≤ 1000000 ∧ ∃ s' b M1, bindP p w s = some s' ∧ c s' M = some (.ok b, M1) ∧
    ((b = .bl true ∧ ∃ y M2, e s' M1 = some (.ok y, M2) ∧ lcL g p c e s ws (acc ++ [y]) M2 = some (.ok R, Mf)) ∨ (b = .bl false ∧ lcL g p c e s ws acc M1 = some (.ok R, Mf))) := by
  unfold lcL at h
  split at h
  · rename_i hc
    rw [Bool.and_eq_true] at hc
    refine ⟨hc.1, of_decide_eq_true hc.2, ?_⟩
    split at h
    · cases h
    · rename_i s' hs
      obtain ⟨b, M1, h1, h2⟩ := bnd_inv h
      refine ⟨s', b, M1, hs, noX_inv h1, ?_⟩
      split at h2
      · obtain ⟨y, M2, h3, h4⟩ := bnd_inv h2
        exact .inl ⟨rfl, y, M2, noX_inv h3, h4⟩
      · exact .inr ⟨rfl, h2⟩
      · cases h2
  · cases h
theorem lcL_nil {g : Option (Nat × O)} {p : Pat} {c e : EM} {s : Sl} {acc R : List W} {M Mf : Mem} (h : lcL g p c e s [] acc M = some (.ok R, Mf)) : still g M = true ∧ acc.length ≤ 1000000 ∧ R = acc ∧ Mf = M := by
  unfold lcL at h
  split at h
  · rename_i hc
    rw [Bool.and_eq_true] at hc
    obtain ⟨a, b⟩ := ok_inv h
    exact ⟨hc.1, of_decide_eq_true hc.2, a.symm, b.symm⟩
  · cases h
theorem noX_err {α β : Type} {o : Out α} {f : α → Mem → Out β} {x : Xn} {M : Mem} (h : bnd (noX o) f = some (.error x, M)) : ∃ a M1, o = some (.ok a, M1) ∧ f a M1 = some (.error x, M) := by
  unfold noX at h
  split at h
  · exact ⟨_, _, rfl, h⟩
  · cases h
theorem lcL_err {g : Option (Nat × O)} {p : Pat} {c e : EM} {s : Sl} : ∀ {ws acc : List W} {M Mf : Mem} {x : Xn}, lcL g p c e s ws acc M ≠ some (.error x, Mf)
  | [], acc, M, Mf, x => by unfold lcL; split <;> simp [ok]
  | w :: ws, acc, M, Mf, x => by
    intro h
    unfold lcL at h
    split at h
    · split at h
      · cases h
      · obtain ⟨b, M1, h1, h2⟩ := noX_err h
        split at h2
        · obtain ⟨y, M2, h3, h4⟩ := noX_err h2
          exact lcL_err h4
        · exact lcL_err h2
        · cases h2
    · cases h
theorem i_ts0 {Y : Cx} : PTs Y [] (tT C E (eC (.bl true))) := ⟨fun pins s σ H Q I h => pts_nil.run pins s σ H Q I (by
  obtain ⟨s0, M, r, hs, hm, b, e, k⟩ := h
  cases e
  exact k H r (Mono.refl _ _) hm)⟩
theorem i_ts1 {Y : Cx} {c : Expr} {m : EM} (h : PT Y c (tT C E m)) : PTs Y [c] (tT C E m) := pts_one h
/-- what a comprehension's reading asks for -/
theorem lc_pure {mi : IM} {p : Pat} {c e : EM} {vs : List Nat} (hv : ∀ v ∈ vs, v ∈ ownP p) {σ : L2.St} {H : Hp} {Q : VK} (hp : ∀ v ∈ ownP p, v ∈ vs)
    (h : tF C E (lComp mi p c e) σ H Q) : tLc (tI C E mi) (gP C p) (tT C E0 c) (tE C E0 e) vs σ H Q := by
  obtain ⟨s, M, r, hs, hm, pp⟩ := h
  refine tI_on Kf_cl hs hm pp fun J H1 r1 M1 q x1 m1 wk s1 p1 => ?_
  obtain ⟨ws, g⟩ := q
  intro D hD
  have nD : D ∉ r1 := m1.new hD
  cases eR : lcL g p c e s ws [] M1 with
  | none => dsimp only at p1; rw [eR] at p1; exact p1.elim
  | some o =>
    obtain ⟨o, Mf⟩ := o
    cases o with
    | error x => exact absurd eR lcL_err
    | ok R =>
      dsimp only at p1
      rw [eR] at p1
      have p1 : Kf C Q r1 H1 R Mf := p1
      refine ⟨fun i n H' => n = ws.length - i ∧ i ≤ ws.length ∧ ∃ acc vs r' M', H' D = some (.lst vs) ∧ D ∉ r' ∧ RepWs C H' r' acc vs ∧ Mono r1 r' H1 H' ∧ RepM C H' r' M' ∧ lcL g p c e s (ws.drop i) acc M' = some (.ok R, Mf),
        ⟨ws.length, rfl, Nat.zero_le _, [], [], r1, M1, upd_same, nD, rfl, Mono.temp hD, m1.temp hD, eR⟩, ?_⟩
      rintro i n H' ⟨rfl, hi, acc, vs', r', M', hD', nD', qa, x', m', e'⟩
      by_cases hlt : i < ws.length
      · rw [List.drop_eq_getElem_cons hlt] at e'
        obtain ⟨hst, hmany, s', b, M2, eb, ec, rest⟩ := lcL_cons e'
        obtain ⟨items_, stop⟩ := wk r' H' M' x' m' hst
        refine .inr ⟨(items_ i ws[i] (List.getElem?_eq_getElem hlt)).1, fun H2 => ∃ acc vs r' M', H2 D = some (.lst vs) ∧ D ∉ r' ∧ RepWs C H2 r' acc vs ∧ Mono r1 r' H1 H2 ∧ RepM C H2 r' M' ∧ lcL g p c e s (ws.drop (i + 1)) acc M' = some (.ok R, Mf),
          fun H2 h2 => ⟨ws.length - (i + 1), by omega, rfl, hlt, h2⟩, fun x H2 y => ?_⟩
        obtain ⟨y1, y2, y3⟩ := (items_ i ws[i] (List.getElem?_eq_getElem hlt)).2 x H2 y
        have sw : RepS C H2 r' (wipeS s vs) (wipe σ vs) := ((s1.go x' m1).go y1 m').wiped vs
        have ebw : bindP p ws[i] (wipeS s vs) = some s' := bindP_agree (wipeS_len s vs).symm (fun j hj => (wipeS_get fun z => hj (hv j z)).symm) eb
        refine ⟨wipeS s vs, M', r', ws[i], s', sw, y2, y3, ebw, fun σ2 h2 nn => ?_⟩
        refine ⟨?_, ?_⟩
        · have l2 : σ2.length = σ.length := by
            rw [← h2.1, ← s1.1]
            have : ∀ {is : List Nat} {us : List W} {a b : Sl}, setMany is us a = some b → b.length = a.length := by
              intro is
              induction is with
              | nil => intro us a b h; cases us with
                | nil => simp only [setMany, Option.some.injEq] at h; rw [h]
                | cons _ _ => simp [setMany] at h
              | cons i is ih => intro us a b h; cases us with
                | nil => simp [setMany] at h
                | cons u us => rw [ih (us := us) h]; simp [setS]
            cases p with
            | one i => rw [this (is := [i]) (us := [ws[_]]) eb]
            | some_ is =>
              unfold bindP at eb
              dsimp only at eb
              split at eb
              · exact this eb
              · cases eb
          refine wipe_eq l2 fun j hj => ?_
          rw [nn j fun z => hj (hp j z), wipe_get hj]
        · refine ⟨s', M', r', h2, y2, ?_⟩
          rw [ec]
          have hD2 : H2 D = some (.lst vs') := y1.keep D _ hD' (.inl nD')
          rcases rest with ⟨rfl, z, M3, ee, er⟩ | ⟨rfl, er⟩
          · refine ⟨true, rfl, fun H3 r3 x3 m3 => ?_⟩
            refine iteT ⟨s', M2, r3, h2.go x3 y2, m3, ?_⟩
            rw [ee]
            intro v H4 r4 x4 m4 qv
            have hD3 : H3 D = some (.lst vs') := x3.keep D _ hD2 (.inl nD')
            have nD3 : D ∉ r3 := x3.notin hD2 nD'
            have hD4 : H4 D = some (.lst vs') := x4.keep D _ hD3 (.inl nD3)
            have nD4 : D ∉ r4 := x4.notin hD3 nD3
            have qa4 : RepWs C H4 r4 acc vs' := RepWs.go x4 m3 _ _ (RepWs.go x3 y2 _ _ (RepWs.go y1 m' _ _ qa))
            refine ⟨vs', hD4, by rw [qa.length]; exact Nat.lt_of_le_of_lt hmany (by decide), acc ++ [z], vs' ++ [v], r4, M3, upd_same, nD4, RepWs.out hD4 _ _ (qa4.app (RepWs.one qv)), ?_, m4.out hD4 nD4, er⟩
            exact Mono.out hD (((x'.trans m' y1).trans y2 x3).trans m3 x4)
          · refine ⟨false, rfl, fun H3 r3 x3 m3 => iteF ?_⟩
            exact ⟨acc, vs', r3, M2, x3.keep D _ hD2 (.inl nD'), x3.notin hD2 nD', RepWs.go x3 y2 _ _ (RepWs.go y1 m' _ _ qa), (x'.trans m' y1).trans y2 x3, m3, er⟩
      · have e2 : i = ws.length := by omega
        subst e2
        rw [List.drop_length] at e'
        obtain ⟨hst, hmany, e3, e4⟩ := lcL_nil e'
        subst e3
        subst e4
        obtain ⟨items_, stop⟩ := wk r' H' _ x' m' hst
        exact .inl ⟨stop, p1 D vs' H' r' x' m' qa hD' nD' hD hmany⟩
end
end Sw

set_option autoImplicit false
set_option Elab.async false
set_option linter.all false
set_option maxRecDepth 100000
/-! What a call leaves: the garbage left out. -/
namespace Sw
open PySem PySem.Spec L2
section
variable {C : Rc} {H : Hp} {r r2 : List Addr}
theorem mem_dd {a : Nat} : ∀ {l : List Nat}, a ∈ dd l ↔ a ∈ l
  | [] => by simp [dd]
  | b :: l => by
    have ih := @mem_dd a l
    have e : dd (b :: l) = if b ∈ dd l then dd l else b :: dd l := rfl
    rw [e]
    split
    · rename_i h
      rw [ih, List.mem_cons]
      constructor
      · exact .inr
      · rintro (rfl | h2)
        · exact ih.mp h
        · exact h2
    · rw [List.mem_cons, List.mem_cons, ih]
theorem nodup_dd : ∀ l : List Nat, (dd l).Nodup
  | [] => List.nodup_nil
  | b :: l => by
    have e : dd (b :: l) = if b ∈ dd l then dd l else b :: dd l := rfl
    rw [e]
    split
    · exact nodup_dd l
    · rename_i h
      exact List.nodup_cons.mpr ⟨h, nodup_dd l⟩
theorem getAll_get {M G : Mem} : ∀ {fs : List Nat}, getAll M fs = some G → G.length = fs.length ∧ ∀ (i : Nat) (j : Nat), fs[i]? = some j → G[i]? = M[j]? ∧ M[j]?.isSome
  | [], h => by
    simp only [getAll, List.mapM_nil] at h
    cases h
    exact ⟨rfl, by simp⟩
  | f :: fs, h => by
    unfold getAll at h
    rw [List.mapM_cons] at h
    cases e1 : M[f]? with
    | none => rw [e1] at h; cases h
    | some o =>
      rw [e1] at h
      cases e2 : List.mapM (fun j => M[j]?) fs with
      | none => rw [e2] at h; cases h
      | some G' =>
        rw [e2] at h
        cases h
        obtain ⟨l, k⟩ := getAll_get (fs := fs) e2
        refine ⟨by rw [List.length_cons, List.length_cons, l], fun i j hi => ?_⟩
        cases i with
        | zero =>
          simp only [List.getElem?_cons_zero, Option.some.injEq] at hi
          subst hi
          rw [e1]
          exact ⟨rfl, rfl⟩
        | succ i =>
          simp only [List.getElem?_cons_succ] at hi ⊢
          exact k i j hi
/-! the refs of what is told are places -/
mutual
theorem RepW.lt : ∀ {w : W} {v : V}, RepW C H r w v → ∀ j ∈ refsW w, j < r.length
  | .non, v, h => by simp [refsW]
  | .bl _, v, h => by simp [refsW]
  | .int _, v, h => by simp [refsW]
  | .str _, v, h => by simp [refsW]
  | .tup ws, v, h => by
    obtain ⟨a, vs, e, s, q⟩ := h
    intro j hj
    exact RepWs.lt q j (by simpa [refsW] using hj)
  | .ref n, v, h => by
    obtain ⟨a, e, q⟩ := h
    intro j hj
    simp only [refsW, List.mem_singleton] at hj
    subst hj
    exact (List.getElem?_eq_some_iff.mp q).1
  | .scr ns, v, h => by simp [refsW]
theorem RepWs.lt : ∀ {ws : List W} {vs : List V}, RepWs C H r ws vs → ∀ j ∈ refsWs ws, j < r.length
  | [], vs, h => by simp [refsWs]
  | w :: ws, vs, h => by
    obtain ⟨v, vr, e, p, q⟩ := h
    intro j hj
    simp only [refsWs, List.mem_append] at hj
    rcases hj with hj | hj
    · exact RepW.lt p j hj
    · exact RepWs.lt q j hj
end
theorem PrA.vals {kvs : List (W × W)} {xs : List (Key × V)} (h : PrA C H r kvs xs) : RepWs C H r (kvs.map (·.2)) (xs.map (·.2)) := by
  induction h with
  | nil => rfl
  | cons p t ih => exact ⟨_, _, rfl, p.2, ih⟩
theorem PrT.vals {kvs : List (W × W)} {xs : List (NestedKey × Addr × Value)} (h : PrT C H r kvs xs) : ∃ vs, RepWs C H r (kvs.map (·.2)) vs := by
  induction h with
  | nil => exact ⟨[], rfl⟩
  | cons p t ih =>
    obtain ⟨_, _, v, hv, _⟩ := p
    obtain ⟨vs, ih⟩ := ih
    exact ⟨v :: vs, v, vs, rfl, hv, ih⟩
theorem DicAt.lt {lk : Bool} {kvs : List (W × W)} {a : Addr} (h : DicAt C H r lk kvs a) : ∀ j ∈ refsWs (kvs.map (·.2)), j < r.length := by
  rcases h.obj with ⟨n, xs, e, q⟩ | ⟨n, n2, xs, e, q⟩
  · exact RepWs.lt q.vals
  · obtain ⟨vs, q⟩ := q.vals
    exact RepWs.lt q
theorem RepO.lt {o : O} {a : Addr} (h : RepO C H r o a) : ∀ j ∈ refsO o, j < r.length := by
  cases o with
  | lst ws => obtain ⟨vs, e, q⟩ := h; exact RepWs.lt q
  | dic kvs =>
    exact DicAt.lt h
  | dlk kvs => exact DicAt.lt h
  | ins c fs => obtain ⟨dx, vs, e, q⟩ := h; exact RepWs.lt q
theorem idx_get {j : Nat} : ∀ {fs : List Nat}, j ∈ fs → fs[fs.idxOf j]? = some j
  | [], h => by cases h
  | f :: fs, h => by
    by_cases e : f = j
    · subst e
      simp
    · rw [List.idxOf_cons]
      have : (f == j) = false := by simpa using e
      rw [this]
      simp only [cond_false, List.getElem?_cons_succ]
      exact idx_get ((List.mem_cons.mp h).resolve_left fun z => e z.symm)
/-! places renamed -/
mutual
theorem RepW.ren {n : Nat} {fs : List Nat} (hlo : ∀ j a, j < n → r[j]? = some a → r2[j]? = some a) (hhi : ∀ j a, n ≤ j → j ∈ fs → r[j]? = some a → r2[n + fs.idxOf j]? = some a) : ∀ {w : W} {v : V}, RepW C H r w v → (∀ j ∈ refsW w, n ≤ j → j ∈ fs) → RepW C H r2 (ren n fs w) v
  | .non, v, h, _ => h
  | .bl _, v, h, _ => h
  | .int _, v, h, _ => h
  | .str _, v, h, _ => h
  | .tup ws, v, h, hf => by
    obtain ⟨a, vs, e, s, q⟩ := h
    exact ⟨a, vs, e, s, RepWs.ren hlo hhi q fun j hj => hf j (by simpa [refsW] using hj)⟩
  | .ref i, v, h, hf => by
    obtain ⟨a, e, q⟩ := h
    unfold Sw.ren
    split
    · rename_i hi
      exact ⟨a, e, hlo i a hi q⟩
    · rename_i hi
      exact ⟨a, e, hhi i a (by omega) (hf i (by simp [refsW]) (by omega)) q⟩
  | .scr ns, v, h, _ => h
theorem RepWs.ren {n : Nat} {fs : List Nat} (hlo : ∀ j a, j < n → r[j]? = some a → r2[j]? = some a) (hhi : ∀ j a, n ≤ j → j ∈ fs → r[j]? = some a → r2[n + fs.idxOf j]? = some a) : ∀ {ws : List W} {vs : List V}, RepWs C H r ws vs → (∀ j ∈ refsWs ws, n ≤ j → j ∈ fs) → RepWs C H r2 (rens n fs ws) vs
  | [], vs, h, _ => h
  | w :: ws, vs, h, hf => by
    obtain ⟨v, vr, e, p, q⟩ := h
    exact ⟨v, vr, e, RepW.ren hlo hhi p fun j hj => hf j (by simp [refsWs, hj]), RepWs.ren hlo hhi q fun j hj => hf j (by simp [refsWs, hj])⟩
end
mutual
theorem ren_id {n : Nat} {fs : List Nat} : ∀ {w : W}, (∀ j ∈ refsW w, j < n) → ren n fs w = w
  | .non, _ => rfl
  | .bl _, _ => rfl
  | .int _, _ => rfl
  | .str _, _ => rfl
  | .tup ws, h => by unfold ren; rw [rens_id fun j hj => h j (by simpa [refsW] using hj)]
  | .ref i, h => by unfold ren; rw [if_pos (h i (by simp [refsW]))]
  | .scr _, _ => rfl
theorem rens_id {n : Nat} {fs : List Nat} : ∀ {ws : List W}, (∀ j ∈ refsWs ws, j < n) → rens n fs ws = ws
  | [], _ => rfl
  | w :: ws, h => by unfold rens; rw [ren_id fun j hj => h j (by simp [refsWs, hj]), rens_id fun j hj => h j (by simp [refsWs, hj])]
end
theorem RepW.low {n : Nat} (hlo : ∀ j a, j < n → r[j]? = some a → r2[j]? = some a) {w : W} {v : V} (h : RepW C H r w v) (hw : ∀ j ∈ refsW w, j < n) : RepW C H r2 w v := by
  have h2 := RepW.ren (r2 := r2) (fs := []) hlo (fun j a _ h => by cases h) h fun j hj h => absurd (hw j hj) (by omega)
  rw [ren_id hw] at h2
  exact h2
theorem RepWs.low {n : Nat} (hlo : ∀ j a, j < n → r[j]? = some a → r2[j]? = some a) {ws : List W} {vs : List V} (h : RepWs C H r ws vs) (hw : ∀ j ∈ refsWs ws, j < n) : RepWs C H r2 ws vs := by
  have h2 := RepWs.ren (r2 := r2) (fs := []) hlo (fun j a _ h => by cases h) h fun j hj h => absurd (hw j hj) (by omega)
  rw [rens_id hw] at h2
  exact h2
theorem PrA.low {n : Nat} (hlo : ∀ j a, j < n → r[j]? = some a → r2[j]? = some a) {kvs : List (W × W)} {xs : List (Key × V)} (h : PrA C H r kvs xs) (hw : ∀ j ∈ refsWs (kvs.map (·.2)), j < n) : PrA C H r2 kvs xs := by
  induction h with
  | nil => exact .nil
  | cons p t ih => exact .cons ⟨p.1, p.2.low hlo fun j hj => hw j (by simp [refsWs, hj])⟩ (ih fun j hj => hw j (by rw [List.map_cons, refsWs, List.mem_append]; exact .inr hj))
mutual
theorem refs_key : ∀ {w : W}, isK w = true → refsW w = []
  | .non, _ => rfl
  | .bl _, _ => rfl
  | .int _, _ => rfl
  | .str _, _ => rfl
  | .tup ws, h => by unfold refsW; exact refss_key (by simpa [isK] using h)
  | .ref _, h => by simp [isK] at h
  | .scr _, _ => rfl
theorem refss_key : ∀ {ws : List W}, isKs ws = true → refsWs ws = []
  | [], _ => rfl
  | w :: ws, h => by
    unfold isKs at h
    rw [Bool.and_eq_true] at h
    unfold refsWs
    rw [refs_key h.1, refss_key h.2]
    rfl
end
theorem PrT.low {n : Nat} (hlo : ∀ j a, j < n → r[j]? = some a → r2[j]? = some a) {kvs : List (W × W)} {xs : List (NestedKey × Addr × Value)} (h : PrT C H r kvs xs) (hk : ∀ p ∈ kvs, isK p.1 = true) (hw : ∀ j ∈ refsWs (kvs.map (·.2)), j < n) : PrT C H r2 kvs xs := by
  induction h with
  | nil => exact .nil
  | cons p t ih =>
    obtain ⟨p1, p2, v, p3, p4⟩ := p
    refine .cons ⟨p1, p2.low hlo fun j hj => ?_, v, p3.low hlo fun j hj => hw j (by simp [refsWs, hj]), p4⟩ (ih (fun q hq => hk q (List.mem_cons_of_mem _ hq)) fun j hj => hw j (by rw [List.map_cons, refsWs, List.mem_append]; exact .inr hj))
    rw [refs_key (hk _ List.mem_cons_self)] at hj
    cases hj
theorem DicAt.low {n : Nat} (hlo : ∀ j a, j < n → r[j]? = some a → r2[j]? = some a) {lk : Bool} {kvs : List (W × W)} {a : Addr} (h : DicAt C H r lk kvs a) (hw : ∀ j ∈ refsWs (kvs.map (·.2)), j < n) : DicAt C H r2 lk kvs a := by
  refine DicAt.mk h.few h.nd h.key ?_
  rcases h.obj with ⟨m, xs, e, q⟩ | ⟨m, n2, xs, e, q⟩
  · exact .inl ⟨m, xs, e, q.low hlo hw⟩
  · exact .inr ⟨m, n2, xs, e, q.low hlo (fun p hp => (h.key p hp).1) hw⟩
theorem RepO.low {n : Nat} (hlo : ∀ j a, j < n → r[j]? = Option.some a → r2[j]? = Option.some a) {o : O} {a : Addr} (h : RepO C H r o a) (hw : ∀ j ∈ refsO o, j < n) : RepO C H r2 o a := by
  cases o with
  | lst ws => obtain ⟨vs, e, q⟩ := h; exact ⟨vs, e, q.low hlo hw⟩
  | dic kvs =>
    exact DicAt.low hlo h hw
  | dlk kvs => exact DicAt.low hlo h hw
  | ins c fs => obtain ⟨dx, vs, e, q⟩ := h; exact ⟨dx, vs, e, q.low hlo hw⟩
end
section
variable {C : Rc} {H H' : Hp} {r r' : List Addr} {M M' : Mem}
/-- what is told still is when the garbage is left out -/
theorem gc_rep (m : RepM C H r M) (x : Mono r r' H H') (m' : RepM C H' r' M') (w : W) : ∃ r2, Mono r r2 H H' ∧ RepM C H' r2 (gc M w M').2 ∧ ∀ v, RepW C H' r' w v → RepW C H' r2 (gc M w M').1 v := by
  have dflt : (gc M w M') = (w, M') → ∃ r2, Mono r r2 H H' ∧ RepM C H' r2 (gc M w M').2 ∧ ∀ v, RepW C H' r' w v → RepW C H' r2 (gc M w M').1 v := fun e => by
    rw [e]
    exact ⟨r', x, m', fun v h => h⟩
  cases eG : getAll M' (gcF M.length w) with
  | none => exact dflt (by unfold gc; simp only [eG])
  | some G =>
    by_cases hc : M.length ≤ M'.length ∧ okBase M.length M (M'.take M.length) = true ∧ (G.all fun o => (refsO o).all fun r => decide (r < M.length)) = true
    · have e : gc M w M' = (ren M.length (gcF M.length w) w, M'.take M.length ++ G) := by unfold gc; simp only [eG]; rw [if_pos hc]
      rw [e]
      obtain ⟨hle, hB, hG⟩ := hc
      obtain ⟨gl, gg⟩ := getAll_get eG
      generalize hfs : gcF M.length w = fs at *
      have hfn : ∀ j ∈ fs, M.length ≤ j := fun j hj => by
        rw [← hfs] at hj
        exact of_decide_eq_true (List.mem_filter.mp hj).2
      have hnd : fs.Nodup := by rw [← hfs]; exact (nodup_dd _).filter _
      have hfl : ∀ j ∈ fs, j < r'.length := fun j hj => by
        obtain ⟨i, hi⟩ := List.mem_iff_getElem?.mp hj
        rw [m'.len]
        exact (List.getElem?_eq_some_iff.mp (Option.eq_some_of_isSome (gg i j hi).2)).1
      obtain ⟨t, et, ht⟩ := x.pre
      have er : r'.take M.length = r := by rw [et, ← m.len, List.take_left']; rfl
      have hlo : ∀ j a, j < M.length → r'[j]? = some a → (r ++ fs.map fun j => r'.getD j 0)[j]? = some a := fun j a hj h => by
        rw [List.getElem?_append_left (by rw [m.len]; exact hj), ← er, List.getElem?_take_of_lt hj]
        exact h
      have hhi : ∀ j a, M.length ≤ j → j ∈ fs → r'[j]? = some a → (r ++ fs.map fun j => r'.getD j 0)[M.length + fs.idxOf j]? = some a := fun j a hj hm h => by
        rw [List.getElem?_append_right (by rw [m.len]; omega), m.len, Nat.add_sub_cancel_left, List.getElem?_map, show fs[fs.idxOf j]? = some j from idx_get hm]
        simp only [Option.map_some, Option.some.injEq]
        rw [List.getD_eq_getElem?_getD, h]
        rfl
      have at2 : ∀ i a, (r ++ fs.map fun j => r'.getD j 0)[i]? = some a → (i < M.length ∧ r'[i]? = some a) ∨ (M.length ≤ i ∧ ∃ j, fs[i - M.length]? = some j ∧ r'[j]? = some a) := fun i a h => by
        by_cases hi : i < M.length
        · refine .inl ⟨hi, ?_⟩
          rw [List.getElem?_append_left (by rw [m.len]; exact hi), ← er, List.getElem?_take_of_lt hi] at h
          exact h
        · refine .inr ⟨by omega, ?_⟩
          rw [List.getElem?_append_right (by rw [m.len]; omega), m.len, List.getElem?_map] at h
          cases ej : fs[i - M.length]? with
          | none => rw [ej] at h; cases h
          | some j =>
            rw [ej] at h
            simp only [Option.map_some, Option.some.injEq] at h
            have hl := hfl j (List.mem_of_getElem? ej)
            rw [List.getD_eq_getElem?_getD, List.getElem?_eq_getElem hl] at h
            refine ⟨j, rfl, ?_⟩
            rw [List.getElem?_eq_getElem hl, ← h]
            rfl
      refine ⟨r ++ fs.map fun j => r'.getD j 0, ⟨⟨_, rfl, fun a ha => ?_⟩, x.keep⟩, ⟨?_, fun i a o h1 h2 => ?_, ?_⟩, fun v hv => ?_⟩
      · obtain ⟨j, hj, e⟩ := List.mem_map.mp ha
        have hl := hfl j hj
        rw [List.getD_eq_getElem?_getD, List.getElem?_eq_getElem hl] at e
        refine ht a ?_
        have e2 : r'[j]? = some a := by rw [List.getElem?_eq_getElem hl, ← e]; rfl
        rw [et, List.getElem?_append_right (by rw [m.len]; exact hfn j hj)] at e2
        exact List.mem_of_getElem? e2
      · rw [List.length_append, List.length_map, List.length_append, gl, List.length_take, Nat.min_eq_left hle, m.len]
      · have hml : (M'.take M.length).length = M.length := by rw [List.length_take, Nat.min_eq_left hle]
        rcases at2 i a h1 with ⟨hi, e1⟩ | ⟨hi, j, ej, e1⟩
        · rw [List.getElem?_append_left (by rw [hml]; exact hi)] at h2
          have h3 : M'[i]? = some o := by rw [List.getElem?_take_of_lt hi] at h2; exact h2
          have q := m'.obj i a o e1 h3
          refine RepO.low hlo q fun j hj => ?_
          have hb : ∀ p ∈ (M'.take M.length).zip M, decide (p.1 = p.2) = true ∨ ((refsO p.1).all fun r => decide (r < M.length)) = true := fun p hp => by
            have := List.all_eq_true.mp hB p hp
            rwa [Bool.or_eq_true] at this
          have hMi : M[i]? = some M[i] := List.getElem?_eq_getElem hi
          have hz : ((M'.take M.length).zip M)[i]? = some (o, M[i]) := by rw [List.getElem?_zip_eq_some]; exact ⟨h2, hMi⟩
          rcases hb _ (List.mem_of_getElem? hz) with hb | hb
          · have hb : o = M[i] := of_decide_eq_true hb
            have hri : r[i]? = some a := by rw [← er, List.getElem?_take_of_lt hi]; exact e1
            have := (m.obj i a M[i] hri hMi).lt j (by rw [← hb]; exact hj)
            rwa [m.len] at this
          · exact of_decide_eq_true (List.all_eq_true.mp hb j hj)
        · rw [List.getElem?_append_right (by rw [hml]; exact hi), hml] at h2
          rw [(gg _ j ej).1] at h2
          have q := m'.obj j a o e1 h2
          refine RepO.low hlo q fun k hk => ?_
          have hoG : o ∈ G := List.mem_of_getElem? (i := i - M.length) (by rw [(gg _ j ej).1]; exact h2)
          exact of_decide_eq_true (List.all_eq_true.mp (List.all_eq_true.mp hG o hoG) k hk)
      · refine List.pairwise_iff_getElem.mpr fun i k hi hk hik => ?_
        intro eik
        have eik : (r ++ fs.map fun j => r'.getD j 0)[i]? = some (r ++ fs.map fun j => r'.getD j 0)[k] := by rw [List.getElem?_eq_getElem hi, eik]
        rcases at2 _ _ (List.getElem?_eq_getElem hk) with ⟨k1, k2⟩ | ⟨k1, j, k2, k3⟩ <;> rcases at2 _ _ eik with ⟨i1, i2⟩ | ⟨i1, j', i2, i3⟩
        · have := (List.getElem?_inj (by rw [m'.len]; omega) m'.nd).mp (i2.trans k2.symm); omega
        · omega
        · have := (List.getElem?_inj (by rw [m'.len]; omega) m'.nd).mp (i2.trans k3.symm)
          have := hfn j (List.mem_of_getElem? k2)
          omega
        · have e1 := (List.getElem?_inj (hfl j' (List.mem_of_getElem? i2)) m'.nd).mp (i3.trans k3.symm)
          subst e1
          have := (List.getElem?_inj (List.getElem?_eq_some_iff.mp i2).1 hnd).mp (i2.trans k2.symm)
          omega
      · refine hv.ren hlo hhi fun j hj hn => ?_
        rw [← hfs]
        exact List.mem_filter.mpr ⟨mem_dd.mpr hj, decide_eq_true hn⟩
    · exact dflt (by unfold gc; simp only [eG]; rw [if_neg hc])
end
end Sw

set_option autoImplicit false
set_option Elab.async false
set_option linter.all false
set_option maxRecDepth 100000
/-! Calls of defs, no guard being up. -/
namespace Sw
open PySem PySem.Spec L2
open PyProof.Rows (AllBare envOfC)
/-- what a def keeps where no guard is up -/
structure FnG (P : Program) (w : World) (K : PySem.W.Frag) (mg : Str → Option Value) (base : Heap)
    (CX : CXT) (k : Nat) (f : Addr) (fd : FuncData) (ps : List Str) (sp : Sp) : Prop where
  arity : ∀ vs H Q E, sp vs H Q E → vs.length = ps.length
  goes : ∀ (A : Around) (outer : List Env) (s : Shared) (H : Hp) (args : Args)
    (us : List Value) (vs : List V) (Q : VK) (E : XK), A.guards = some [] → Room k A →
    Env0 P w K mg base A outer s H → BindsTo s fd args (ps.zip us) → Vals vs us → sp vs H Q E →
    codeAny (model P w) A (.call (.ref f) args) (CR CX outer P w H s Q E) s
section
variable {P : Program} {w : World} {K : PySem.W.Frag} {mg : Str → Option Value} {base : Heap}
variable {CX : CXT} {k : Nat} {f : Addr} {fd : FuncData} {ps : List Str} {sp : Sp}
theorem FnG.more {j : Nat} (F : FnG P w K mg base CX j f fd ps sp) (h : j ≤ k) : FnG P w K mg base CX k f fd ps sp :=
  ⟨F.arity, fun A o s H a us vs Q E g r => F.goes A o s H a us vs Q E g (r.mono h)⟩
/-- a def by its body -/
theorem fnG {x qual : Str} {params : Arguments} {body : List Stmt} {sc : Scope} {dvs : List V} {kws : List (Str × V)} {N : List Str}
    (F : FunD K x qual params body sc dvs kws f fd) (S : FnScope N ps sc) (ar : ∀ vs H Q E, sp vs H Q E → vs.length = ps.length)
    (hb : ∀ (cdv : Value) (A : Around) (outer : List Env) (s : Shared) (H : Hp) (vs : List V) (Q : VK) (E : XK),
      A.guards = some [] → Room k (A.deeper (envOfC qual sc s.heap.objs.size f cdv)) → sp vs H Q E →
      ∃ t, PSs (cxOf CX P w K mg base N qual sc f cdv A outer s H E) body t ∧
        t { nx := fun _ H' => Q .non H', rt := Q } (L2.start N vs) H) : FnG P w K mg base CX (k + 1) f fd ps sp := by
  obtain ⟨oc, od, dV, kV, doc, pm, an, cdv, ct, osl, rfl, lk, hcd, _, _⟩ := F.ex
  refine ⟨ar, fun A outer s H args us vs Q E gd room e0 hbd hv hsp => ?_⟩
  have n0 := ar _ _ _ _ hsp
  have KX : K.In s.heap := PySem.W.Frag.In.keeps e0.mod.kin fun b o e => (e0.bs b o e).1
  have lim : s.heap.NoLimit := Heap.NoLimit.keeps e0.mod.nolimit fun b o e => (e0.bs b o e).1
  have kinds : ∀ y ∈ ps.zip us, sc.names.lookup y.1 = some .local ∨
      (sc.names.lookup y.1 = some .cell ∧ ((cellsFrom (s.heap.objs.size + 1) sc.names []).lookup y.1).isSome = true) := by
    rintro ⟨n, v⟩ hy
    have hn := (List.of_mem_zip hy).1
    exact (S.par n hn).imp id fun q => ⟨q, PySem.W.cellsFrom_some _ _ _ (.inl q)⟩
  refine codeAny_call_function room.depth (KX _ _ lk) rfl S.co S.gen rfl (PySem.W.codeRec_of KX hcd) (hbd _ _ _ _ ?_)
  refine wpAny_newFunctionEnv_cells S.kind kinds fun env he s1 x => ?_
  subst he
  refine ⟨lim.keeps x.toInCall.keep, codeAny_func ?_⟩
  obtain ⟨t, ht, hq⟩ := hb cdv A outer s H vs Q E gd (room.deeper _) hsp
  have I := inv_start (CX := CX) (P := P) (w := w) (E := E) (qual := qual) (f := f) (cd := cdv) S room.hd e0 n0 hv x
  refine wpAny_mono (ht.run [] s1 _ H _ I hq) (fun fl s' hs => ?_) fun e s' hs => hs
  cases fl with
  | next =>
    obtain ⟨σ', H', J, q⟩ := hs
    exact ⟨V.non, H', J.os, J.bare, J.base, J.hok, rfl, q⟩
  | ret u =>
    obtain ⟨v, σ', H', J, rv, q⟩ := hs
    exact ⟨v, H', J.os, J.bare, J.base, J.hok, rv, q⟩
  | brk =>
    obtain ⟨_, _, _, q⟩ := hs
    exact q.elim
  | cont =>
    obtain ⟨_, _, _, q⟩ := hs
    exact q.elim
end
section
variable {X : Cx} {CX : CXT} {k : Nat} {f C0 : Addr} {fd : FuncData} {ps : List Str} {sp : Sp} {dvs : List V} {ds : List Value} {E : XK}
theorem goG {pins : List (Addr × Obj)} {σ : L2.St} {H : Hp} {s : Shared} {Q : VK} {us : List Value} {vs : List V}
    (F : FnG X.prog X.w X.K X.mg X.base CX k f fd ps sp) (gd : X.A.guards = some []) (hr : Room k X.A) (hb : Binds X.K fd ps ds) (hd : Vals dvs ds)
    (hx : Passes CX X E) (I : Inv X pins σ H s) (r : Vals vs us) (h : sp (vs ++ dvs) H Q E) :
    wpAny (model X.prog X.w) X.A (call (.ref f) us) (EP X pins σ Q) X.xe s := by
  have rr := r.append hd
  have hl : (us ++ ds).length = ps.length := rr.length.symm.trans (F.arity _ _ _ _ h)
  refine wpAny_call (codeAny_mono (F.goes X.A X.stack s H ⟨us, []⟩ (us ++ ds) (vs ++ dvs) Q E gd hr I.env0 (hb s us I.kIn hl) rr h) ?_)
  intro r s' hq
  match r, hq with
  | .error e, hq => exact hx pins σ H s e s' I hq
  | .ok (.ret u), hq => exact I.after hq
  | .ok .next, hq => exact hq.elim
  | .ok .brk, hq => exact hq.elim
  | .ok .cont, hq => exact hq.elim
/-- f(e, ..) -/
theorem callG {x : Str} {p pos : Pos} {e : Expr} {es : List Expr} {t : TA} (F : FnG X.prog X.w X.K X.mg X.base CX k f fd ps sp)
    (gd : X.A.guards = some []) (hr : Room k X.A) (hg : Gl X x) (hm : X.mg x = some (.ref f)) (hk : PySem.W.keepIn X.K (.ref f) = true)
    (hb : Binds X.K fd ps ds) (hd : Vals dvs ds) (hx : Passes CX X E) (ha : PA X (e :: es) t) (hdb : (x == ("__debug__" : Str)) = false := by decide)
    (he : starEach (e :: es) X.env = (false, eval e X.env) :: starEach es X.env := by rfl)
    (hpl : (backTo pos (starEach es X.env)).any (·.1) = false := by rfl) : PE X (.Call (.Name x p) (e :: es) [] pos) (tCall sp dvs E t) :=
  ⟨fun pins s σ H Q I h => wpAny_Call_Name_kw (ld_glob I hg hm (PySem.W.callWith_K (h₀ := X.base) I.ok.mod.kin hk
    (thn (ha.run pos pins s σ H _ I h) fun us s1 ⟨vs, H1, I1, r, q⟩ => ⟨I1.kIn, goG F gd hr hb hd hx I1 r q⟩) he hpl) hdb)⟩
/-- f() -/
theorem callG0 {x : Str} {p pos : Pos} (F : FnG X.prog X.w X.K X.mg X.base CX k f fd ps sp) (gd : X.A.guards = some []) (hr : Room k X.A)
    (hg : Gl X x) (hm : X.mg x = some (.ref f)) (hk : PySem.W.keepIn X.K (.ref f) = true) (hb : Binds X.K fd ps ds) (hd : Vals dvs ds)
    (hx : Passes CX X E) (hdb : (x == ("__debug__" : Str)) = false := by decide) : PE X (.Call (.Name x p) [] [] pos) (tCall sp dvs E tNil) :=
  ⟨fun pins s σ H Q I h => wpAny_Call_Name_kw (ld_glob I hg hm (PySem.W.callWith_K0 I.kIn hk (goG (us := []) F gd hr hb hd hx I .nil h)) hdb)⟩
end

/-! ### the law -/
theorem lawG {P : Program} {w : World} {K : PySem.W.Frag} {mg mb : Str → Option Value} {CX : CXT} {k : Nat} {fa a : Addr} {fd : FuncData} {x : Str} {sp : Sp}
    {s₁ : Shared} {vs : List Value} {ns : List Int} (KX : K.In s₁.heap) (hns : s₁.heap.Ns mainGlobals mg) (hb : s₁.heap.Ns builtinsNs mb)
    (hbb : ∀ x : Str, x ≠ "__name__" → mb x = bootBuiltins x) (hlim : s₁.heap.NoLimit) (hg : s₁.gens = #[])
    (ha : s₁.heap.get? a = some { cls := .type "list", data := .seq vs.toArray }) (hi : PyProof.Rows.IntsAre vs ns) (hl : ns.length ≤ sizeLine) (hr : Room k callerA)
    (F : ∀ base : Heap, K.In base → base.Ns mainGlobals mg → FnG P w K mg base CX k fa fd [x] sp)
    (hbind : ∀ (s : Shared) (u : Value), BindsTo s fd ⟨[u], []⟩ [(x, u)])
    (hsp : ∀ H : Hp, Only H → ((∃ o, H a = some (.frz o (.lst (ns.map V.int)))) ∨ ∃ (o : Obj) (its : Array Value) (n : Nat), K.lookup a = some o ∧ o.cls = .type "list" ∧ o.dict = none ∧ o.data = .seq its n ∧ its.size ≤ sizeLine ∧ Vals (ns.map V.int) its.toList) →
      sp [.ref a] H (fun v _ => v = .bl true) fun _ _ _ => False)
    (hCX : ∀ H e s', CX [] H s₁ (fun _ _ _ => False) e s' → False) :
    codeAny (model P w) callerA (.call (.ref fa) ⟨[.ref a], []⟩)
      (fun r s' => r = .ok (.ret (.bool true)) ∧ OldK s₁.heap s'.heap ∧ s'.os = s₁.os ∧ AllBare s'.gens) s₁ := by
  have rv := vals_ints hi
  have lv := hi.length
  have core : ∀ H : Hp, Only H → ((∃ o, H a = some (.frz o (.lst (ns.map V.int)))) ∨ ∃ (o : Obj) (its : Array Value) (n : Nat), K.lookup a = some o ∧ o.cls = .type "list" ∧ o.dict = none ∧ o.data = .seq its n ∧ its.size ≤ sizeLine ∧ Vals (ns.map V.int) its.toList) →
      HOk P w H s₁.heap → (∀ b, H b ≠ none → b = a) → (H a ≠ none → K.lookup a = none) →
      codeAny (model P w) callerA (.call (.ref fa) ⟨[.ref a], []⟩)
        (fun r s' => r = .ok (.ret (.bool true)) ∧ OldK s₁.heap s'.heap ∧ s'.os = s₁.os ∧ AllBare s'.gens) s₁ := by
    intro H hO hS hok only hK
    have dicts : ∀ {b : Addr} {o : Obj} {es : Array DictEntry} {ep : Nat}, s₁.heap.get? b = some o → o.data = .dict es ep → H b = none := by
      intro b o es ep e d
      cases q : H b with
      | none => rfl
      | some u =>
        obtain rfl : b = a := only b fun z => by rw [q] at z; cases z
        rw [ha] at e
        cases e
        cases (show Data.seq vs.toArray _ = Data.dict es ep from d)
    have ns2 : ∀ {b : Addr} {m : Str → Option Value}, s₁.heap.Ns b m → (hidT s₁.heap H).Ns b m :=
      fun {b m} ⟨o, es, ep, e, d, r⟩ => ⟨o, es, ep, hidT_get e (dicts e d), d, r⟩
    have kin : K.In (hidT s₁.heap H) := by
      intro b o e
      refine hidT_get (KX b o e) ?_
      cases q : H b with
      | none => rfl
      | some u =>
        have z : H b ≠ none := fun z => by rw [q] at z; cases z
        obtain rfl : b = a := only b z
        rw [hK z] at e
        cases e
    have md : Mod K mg (hidT s₁.heap H) := by
      refine ⟨kin, ns2 hns, ⟨mb, ns2 hb, hbb⟩, ?_⟩
      obtain ⟨mc, h1, h2⟩ := hlim
      exact ⟨mc, ns2 h1, h2⟩
    have e0 : Env0 P w K mg (hidT s₁.heap H) callerA [] s₁ H := by
      refine ⟨rfl, md, fun b o e => of_hidT e, Nat.le_of_eq (hidT_size _ _), trivial, ?_, hok, .of_eq hg⟩
      intro b hb
      have hb : b ∈ ([] : List Addr) := hb
      cases hb
    refine codeAny_mono ((F _ kin (ns2 hns)).goes callerA [] s₁ H ⟨[.ref a], []⟩ [.ref a] [.ref a] _ _ rfl hr e0 (hbind s₁ (.ref a)) (.cons rfl .nil) (hsp H hO hS)) ?_
    intro r s' h
    match r, h with
    | .error e, h => exact (hCX H e s' h).elim
    | .ok .next, h => exact h.elim
    | .ok .brk, h => exact h.elim
    | .ok .cont, h => exact h.elim
    | .ok (.ret u), h =>
      obtain ⟨v, H', os, bare, un, hok', r', q⟩ := h
      obtain rfl : v = V.bl true := q
      obtain rfl : u = Value.bool true := r'
      refine ⟨rfl, .of_keep fun b o e => ?_, os, bare⟩
      rcases hO b with z | ⟨ob, xs, z⟩
      · exact un.keep b o e z (fun y => by have y : b ∈ ([] : List Addr) := y; cases y) (fun y => by cases y)
      · obtain ⟨e1, _⟩ := hok b _ z
        obtain ⟨e2, _⟩ := hok' b _ (un.frzs b ob _ z)
        rw [e] at e1
        cases e1
        exact e2
  cases hk : K.lookup a with
  | some o =>
    have e := KX a o hk
    rw [ha] at e
    cases e
    refine core (fun _ => none) (fun _ => .inl rfl) (.inr ⟨_, vs.toArray, _, hk, rfl, rfl, rfl, ?_, ?_⟩) (fun b u z => ?_) (fun b z => absurd rfl z) fun z => absurd rfl z
    · rw [List.size_toArray, lv]; exact hl
    · simpa using rv
    · cases (show (none : Option HO) = some u from z)
  | none =>
    have yes : (fun b => if b = a then some (HO.frz { cls := .type "list", data := .seq vs.toArray } (.lst (ns.map V.int))) else none) a = some (HO.frz { cls := .type "list", data := .seq vs.toArray } (.lst (ns.map V.int))) := if_pos rfl
    refine core (fun b => if b = a then some (.frz { cls := .type "list", data := .seq vs.toArray } (.lst (ns.map V.int))) else none) (fun b => ?_) (.inl ⟨_, yes⟩) (fun b u z => ?_) (fun b z => ?_) fun _ => hk
    · by_cases q : b = a
      · exact .inr ⟨_, _, if_pos q⟩
      · exact .inl (if_neg q)
    · by_cases q : b = a
      · subst q
        cases (if_pos rfl).symm.trans z
        exact ⟨ha, by rw [List.length_map]; exact hl, vs, _, rv, ha⟩
      · cases (if_neg q).symm.trans z
    · by_cases q : b = a
      · exact q
      · exact absurd (if_neg q) z
/-- the law's goal behind the head -/
theorem walkG {l : PySem.W.OpenLaw} {n k : Nat} {q : Program} {loose : List Str} {XP : (Str → Option Value) → Heap → Prop} {YP : World → Heap → Prop} {d : DefRec} {CX : CXT} {x : Str}
    (hn : l.most = some n) (hn2 : n ≤ sizeLine) (hdf : d.params.defaults = []) (hr : Room k callerA)
    (F : ∀ (w : World) (mg : Str → Option Value) (fa : Addr) (h : Heap), YP w h → h.Ns mainGlobals mg → mg d.name = some (.ref fa) →
      ∃ (K : PySem.W.Frag) (fd : FuncData) (sp : Sp), K.In h ∧ (∀ (s : Shared) (u : Value), BindsTo s fd ⟨[u], []⟩ [(x, u)]) ∧
        (∀ (H : Hp) (a : Addr) (ns : List Int), ns.length ≤ n → (∀ z ∈ ns, Builtin.Int.intBits z ≤ 1048576) → Only H →
          ((∃ o, H a = some (.frz o (.lst (ns.map V.int)))) ∨ ∃ (o : Obj) (its : Array Value) (n : Nat), K.lookup a = some o ∧ o.cls = .type "list" ∧ o.dict = none ∧ o.data = .seq its n ∧ its.size ≤ sizeLine ∧ Vals (ns.map V.int) its.toList) →
          sp [.ref a] H (fun v _ => v = .bl true) fun _ _ _ => False) ∧
        ∀ base : Heap, K.In base → base.Ns mainGlobals mg → FnG l.prog w K mg base CX k fa fd [x] sp)
    (hCX : ∀ (H : Hp) (s : Shared) (e : Value) (s' : Shared), CX [] H s (fun _ _ _ => False) e s' → False) :
    PySem.W.WalkO q loose XP YP l.row.toRowW d [] (fun f vs => PySem.call f vs) :=
  Att.attach_callB hn hdf fun w s₀ s₁ mg mb fa o pm cd doc a vs ns G Y ho hd hcd hmg hobj hints hlen hbits hg => by
    obtain ⟨K, fd, sp, KX, hb, hsp, hF⟩ := F w mg fa _ Y G.T.g hmg
    exact lawG KX G.T.g G.T.b G.T.builtins G.T.nolimit hg hobj hints (Nat.le_trans hlen hn2) hr hF hb (fun H hO hS => hsp H a ns hlen hbits hO hS) fun H e s' => hCX H s₁ e s'
end Sw

set_option autoImplicit false
set_option Elab.async false
set_option linter.all false
set_option maxRecDepth 100000
/-! Defs by a table. -/
namespace Sw
open PySem PySem.Spec L2
open PyProof.Rows (AllBare envOfC)
/-- what is known of the defs -/
abbrev Orc := Nat → List W → Mem → Out W
/-- the defs, called d deep at most -/
def runT (T : Orc → Nat → Nat × SM) : Nat → Orc
  | 0 => fun _ _ _ => none
  | d + 1 => fun f ws M => gcO M (body (T (runT T d) f).1 (T (runT T d) f).2 ws M)
/-- a def's promise by a pure function -/
def spF (C : Rc) (g : List W → Mem → Out W) (n : Nat) : Sp := fun vs H Q E => vs.length = n ∧ ∃ r M ws, RepM C H r M ∧ RepWs C H r ws vs ∧ PG C E r H (g ws M) (Kv C Q r H)
section
variable {C : Rc} {E : XK} {X : Cx}
theorem i_call {CX : CXT} {k n id : Nat} {f : Addr} {fd : FuncData} {ps : List Str} {orc : Orc} {x : Str} {p pos : Pos} {e : Expr} {es : List Expr} {ms : List EM}
    (F : FnG X.prog X.w X.K X.mg X.base CX k f fd ps (spF C (orc id) n)) (gd : X.A.guards = some []) (hr : Room k X.A) (hg : Gl X x) (hm : X.mg x = some (.ref f))
    (hk : PySem.W.keepIn X.K (.ref f) = true) (hb : Binds X.K fd ps []) (hx : Passes CX X E) (ha : PA X (e :: es) (tA C E (eAs ms))) (hn : ms.length = n) (hdb : (x == ("__debug__" : Str)) = false := by decide)
    (he : starEach (e :: es) X.env = (false, eval e X.env) :: starEach es X.env := by rfl) (hpl : (backTo pos (starEach es X.env)).any (·.1) = false := by rfl) :
    PE X (.Call (.Name x p) (e :: es) [] pos) (tE C E (eCall orc id ms)) :=
  PE.imp (callG F gd hr hg hm hk hb .nil hx ha hdb he hpl) fun σ H Q ⟨s, M, r, hs, hm, p⟩ => tA_on Kv_cl hs hm p fun vs H1 r1 M1 ws e x1 m1 q1 s1 p1 => by
    rw [List.append_nil]
    exact ⟨by rw [q1.length, eAs_len e, hn], r1, M1, ws, m1, q1, p1⟩
theorem i_call0 {CX : CXT} {k id : Nat} {f : Addr} {fd : FuncData} {ps : List Str} {orc : Orc} {x : Str} {p pos : Pos}
    (F : FnG X.prog X.w X.K X.mg X.base CX k f fd ps (spF C (orc id) 0)) (gd : X.A.guards = some []) (hr : Room k X.A) (hg : Gl X x) (hm : X.mg x = some (.ref f))
    (hk : PySem.W.keepIn X.K (.ref f) = true) (hb : Binds X.K fd ps []) (hx : Passes CX X E) (hdb : (x == ("__debug__" : Str)) = false := by decide) :
    PE X (.Call (.Name x p) [] [] pos) (tE C E (eCall orc id [])) :=
  PE.imp (callG0 F gd hr hg hm hk hb .nil hx hdb) fun σ H Q ⟨s, M, r, hs, hm, p⟩ => ⟨rfl, r, M, [], hm, rfl, p⟩
theorem gc_non {M M' : Mem} {w : W} : (gc M w M').1 = .non ↔ w = .non := by
  unfold gc
  dsimp only
  split
  · split
    · cases w <;> simp [ren]
      split <;> simp
    · rfl
  · rfl
theorem RepS_start {H : Hp} {r : List Addr} {N : List Str} {ws : List W} {vs : List V} (q : RepWs C H r ws vs) : RepS C H r (Sw.start N.length ws) (L2.start N vs) := by
  have hl := q.length
  refine ⟨by simp [Sw.start, L2.start, hl], fun i w e => ?_⟩
  unfold Sw.start at e
  by_cases hi : i < ws.length
  · rw [List.getElem?_append_left (by simpa using hi), List.getElem?_map] at e
    cases ew : ws[i]? with
    | none => rw [ew] at e; cases e
    | some u =>
      rw [ew] at e
      cases e
      obtain ⟨v, hv, qv⟩ := q.get ew
      refine ⟨v, ?_, qv⟩
      unfold L2.start
      rw [List.getElem?_append_left (by rw [List.length_map, hl]; exact hi), List.getElem?_map, hv]
      rfl
  · rw [List.getElem?_append_right (by simpa using Nat.le_of_not_lt hi)] at e
    have := List.mem_of_getElem? e
    rw [List.mem_replicate] at this
    cases this.2
/-- a def by its body's words -/
theorem i_def {P : Program} {w : World} {K : PySem.W.Frag} {mg : Str → Option Value} {base : Heap} {CX : CXT} {k : Nat} {f : Addr} {fd : FuncData} {N ps : List Str}
    {x qual : Str} {params : Arguments} {bd : List Stmt} {sc : Scope} {b : SM} (F : FunD K x qual params bd sc [] [] f fd) (S : FnScope N ps sc)
    (hb : ∀ (cdv : Value) (A : Around) (outer : List Env) (s : Shared) (H : Hp) (E : XK), A.guards = some [] → Room k (A.deeper (envOfC qual sc s.heap.objs.size f cdv)) →
      PSs (cxOf CX P w K mg base N qual sc f cdv A outer s H E) bd (tS C E b)) :
    FnG P w K mg base CX (k + 1) f fd ps (spF C (fun ws M => gcO M (Sw.body N.length b ws M)) ps.length) := by
  refine fnG F S (fun vs H Q E h => h.1) fun cdv A outer s H vs Q E gd room hsp => ⟨tS C E b, hb cdv A outer s H E gd room, ?_⟩
  obtain ⟨hl, r, M, ws, m, q, p⟩ := hsp
  refine ⟨Sw.start N.length ws, M, r, RepS_start q, m, ?_⟩
  unfold Sw.body at p
  dsimp only at p
  cases e : b (Sw.start N.length ws) M with
  | none => rw [e] at p; exact p.elim
  | some o =>
    obtain ⟨o, M'⟩ := o
    rw [e] at p
    cases o with
    | error x =>
      intro c d H' r' x' m' q'
      obtain ⟨r2, y1, y2, y3⟩ := gc_rep m x' m' x.arg
      refine p c d H' r2 y1 y2 ⟨q'.1, ?_⟩
      rcases q'.2 with ⟨h1, h2⟩ | ⟨h1, a, g, v, h2, h3, h4⟩
      · exact .inl ⟨gc_non.mpr h1, h2⟩
      · exact .inr ⟨fun z => h1 (gc_non.mp z), a, g, v, h2, h3, y3 v h4⟩
    | ok fl =>
      cases fl with
      | nx s' =>
        intro σ' H' r' x' m' s1
        obtain ⟨r2, y1, y2, y3⟩ := gc_rep m x' m' .non
        exact p V.non H' r2 y1 y2 (y3 _ rfl)
      | rt u =>
        intro v H' r' x' m' qv
        obtain ⟨r2, y1, y2, y3⟩ := gc_rep m x' m' u
        exact p v H' r2 y1 y2 (y3 _ qv)
/-- at no depth nothing is told -/
theorem fn_zero {P : Program} {w : World} {K : PySem.W.Frag} {mg : Str → Option Value} {base : Heap} {CX : CXT} {k : Nat} {f : Addr} {fd : FuncData} {ps : List Str} : FnG P w K mg base CX k f fd ps (spF C (fun _ _ => none) ps.length) :=
  ⟨fun vs H Q E h => h.1, fun A o s H a us vs Q E g r e b v h => by
    obtain ⟨_, _, _, _, _, _, p⟩ := h
    exact p.elim⟩
end
end Sw
namespace Sw
open PySem PySem.Spec L2
open PyProof.Rows (AllBare envOfC)
/-- the same, the numbers told -/
theorem i_defn {C : Rc} {P : Program} {w : World} {K : PySem.W.Frag} {mg : Str → Option Value} {base : Heap} {CX : CXT} {k : Nat} {f : Addr} {fd : FuncData} {N ps : List Str}
    {x qual : Str} {params : Arguments} {bd : List Stmt} {sc : Scope} (n np : Nat) (b : SM) (F : FunD K x qual params bd sc [] [] f fd) (S : FnScope N ps sc) (hn : N.length = n) (hp : ps.length = np)
    (hb : ∀ (cdv : Value) (A : Around) (outer : List Env) (s : Shared) (H : Hp) (E : XK), A.guards = some [] → Room k (A.deeper (envOfC qual sc s.heap.objs.size f cdv)) →
      PSs (cxOf CX P w K mg base N qual sc f cdv A outer s H E) bd (tS C E b)) :
    FnG P w K mg base CX (k + 1) f fd ps (spF C (fun ws M => gcO M (Sw.body n b ws M)) np) := by
  subst hn hp
  exact i_def F S hb
theorem FnG.like {C : Rc} {P : Program} {w : World} {K : PySem.W.Frag} {mg : Str → Option Value} {base : Heap} {CX : CXT} {k : Nat} {f : Addr} {fd : FuncData} {ps ps' : List Str} {g g' : List W → Mem → Out W} {n n' : Nat}
    (h : FnG P w K mg base CX k f fd ps (spF C g n)) (e1 : ps' = ps) (e2 : g' = g) (e3 : n' = n) : FnG P w K mg base CX k f fd ps' (spF C g' n') := by
  subst e1 e2 e3
  exact h
end Sw

set_option autoImplicit false
set_option Elab.async false
set_option linter.all false
set_option maxRecDepth 100000
/-! Dict displays, stores, methods, isinstance, tuple, list, all, any. -/
namespace Sw
open PySem PySem.Spec L2
section
variable {C : Rc} {E : XK} {X : Cx}
theorem i_dic {pos : Pos} : PE X (.Dict [] [] pos) (tE C E eDic) :=
  PE.imp pe_dnewK fun σ H Q ⟨s, M, r, hs, hm, p⟩ => fun a ha => by
    have p : Kv C Q r H (.ref M.length) (M ++ [O.dic []]) := p
    refine p (.ref a) _ (r ++ [a]) (Mono.alloc ha) (hm.alloc ha ?_) ⟨a, rfl, by rw [← hm.len, List.getElem?_append_right (Nat.le_refl _)]; simp⟩
    exact DicAt.mk (Nat.zero_le _) (by simp) (by simp) (.inl ⟨by simp, [], upd_same, .nil⟩)
/-! ### o[k] = v -/
def tPut (C : Rc) (f : W → W → W → Mem → Option Mem) : TSet := fun o i v H Q => ∃ r M a b c M', RepM C H r M ∧ RepW C H r a o ∧ RepW C H r b i ∧ RepW C H r c v ∧ f a b c M = some M' ∧ ∀ H', Mono r r H H' → RepM C H' r M' → Q H'
theorem p_put (hK : C.K = X.K) (hw : C.w = X.w) (hu : X.A.units + 64 < cLine) : PSet X (tPut C putW) := by
  intro pins s σ H o i v ov iv u Q I ro ri rv ⟨r, M, a, b, c, M', m, qa, qb, qc, e, q⟩
  unfold putW at e
  cases a with
  | ref j =>
    dsimp only at e
    split at e
    · rename_i kvs hj
      split at e
      · rename_i hc
        rw [Bool.and_eq_true] at hc
        cases e
        obtain ⟨p, ep, hp⟩ := qa
        subst ep
        obtain rfl : ov = Value.ref p := ro
        exact dic_set hK hw hu I m hp hj hc.1 hc.2 qb ri qc rv fun H' s' I' x' m' => ⟨H', I', q H' x' m'⟩
      · cases e
    · rename_i ws hj
      split at e
      · rename_i k
        cases en : ixW ws.length k with
        | none => rw [en] at e; cases e
        | some n =>
          rw [en] at e
          cases e
          obtain ⟨p, vs, ep, hp, h1, qs⟩ := lst_at m qa hj
          subst ep
          have ei : i = .int k := qb
          subst ei
          have nf : ∀ o, H p = some o → frzH o = false := fun o z => by rw [h1] at z; cases z; rfl
          refine set_list pins s σ H _ _ v ov iv u Q I ro ri rv ⟨p, vs, k, n, rfl, rfl, h1, by rw [qs.length, ← ixW_eq]; exact en, q _ (Mono.write (List.mem_of_getElem? hp) nf) (m.write hp nf ⟨_, upd_same, ?_⟩)⟩
          exact RepWs.go (Mono.write (List.mem_of_getElem? hp) nf) m _ _ (qs.set n qc)
      · cases e
    · cases e
  | _ => cases e
theorem i_put {o k e : Expr} {mo mk me : EM} {pos pos' : Pos} (hK : C.K = X.K) (hw : C.w = X.w) (hu : X.A.units + 64 < cLine) (ho : PE X o (tE C E mo)) (hk : PE X k (tE C E mk)) (he : PE X e (tE C E me))
    (ha : ∀ v, assign (.Subscript o k pos') X.env v = (do
      let ov ← holding [v] (eval o X.env)
      let iv ← holding [v, ov] (eval k X.env)
      standAt pos'
      holding [v, ov, iv] (setItem ov iv v)
      release [v, ov, iv] []) := by intro _; rfl)
    (hs : swapsWithSole [.Subscript o k pos'] e pos.line X.env = pure false := by rfl) (hw' : swappedStores [.Subscript o k pos'] e X.env = pure none := by rfl)
    (h1 : (assignEach [.Subscript o k pos'] X.env).map (·.2) = [assign (.Subscript o k pos') X.env] := by rfl) : PS X (.Assign [.Subscript o k pos'] e pos) (tS C E (sPut mo mk me)) :=
  PS.imp (ps_asg he (pg_sub ho hk (p_put hK hw hu) ha) hs hw' h1) fun D σ H ⟨s, M, r, hs, hm, p⟩ => tE_on Ks_cl hs hm p fun v H1 r1 M1 c x1 m1 q1 s1 p1 =>
    tE_on Ks_cl s1 m1 p1 fun ov H2 r2 M2 a x2 m2 q2 s2 p2 => tE_on Ks_cl s2 m2 p2 fun iv H3 r3 M3 b x3 m3 q3 s3 p3 => by
      cases e : putW a b c M3 with
      | none => rw [e] at p3; exact p3.elim
      | some M' =>
        rw [e] at p3
        exact ⟨r3, M3, a, b, c, M', m3, RepW.go x3 m2 _ _ q2, q3, RepW.go x3 m2 _ _ (RepW.go x2 m1 _ _ q1), e, fun H' x' m' => p3 σ H' r3 x' m' (s3.go x' m3)⟩
/-! ### methods -/
def rM (C : Rc) (E : XK) (f : Mth) : V → List V → Hp → VK → Prop := fun x xs H Q => ∃ r M a ws, RepM C H r M ∧ RepW C H r a x ∧ RepWs C H r ws xs ∧ PG C E r H (f a ws M) (Kv C Q r H)
def tyK : Nat → String
  | 1 => "str"
  | 2 => "list"
  | 3 => "dict"
  | _ => ""
theorem kind_is (hK : C.K = X.K) (hw : C.w = X.w) {pins : List (Addr × Obj)} {σ : L2.St} {H : Hp} {s : Shared} {r : List Addr} {M : Mem} {w : W} {x : V} {v : Value} {k : Nat} (I : Inv X pins σ H s) (ro : RelV x v) (m : RepM C H r M) (q : RepW C H r w x)
    (h : kindW w M = k) (hk : k ≠ 0) : s.TypeIs v (tyK k) ∧ ∀ a, v = .ref a → ∃ ob, s.heap.get? a = some ob ∧ ob.dict = none := by
  unfold kindW at h
  split at h
  · subst h
    rename_i z
    obtain rfl : x = .str (tx z) := q
    obtain ⟨t, rfl⟩ := ro
    exact ⟨typeIs_str s _ t, fun _ e => nomatch e⟩
  · rename_i j
    split at h
    · rename_i ws hj
      subst h
      obtain ⟨p, vs, ep, hp, h1, qs⟩ := lst_at m q hj
      subst ep
      obtain rfl : v = Value.ref p := ro
      obtain ⟨its, n, _, e, _⟩ := I.lst h1
      exact ⟨⟨_, e, rfl⟩, fun a z => by cases z; exact ⟨_, e, rfl⟩⟩
    · rename_i kvs hj
      subst h
      obtain ⟨p, ep, hp⟩ := q
      subst ep
      obtain rfl : v = Value.ref p := ro
      have d : DicAt C H r false kvs p := m.obj j p _ hp hj
      exact ⟨dic_type hK hw I d, fun a z => by cases z; exact dic_nodict I d⟩
    · rename_i kvs hj
      subst h
      obtain ⟨p, ep, hp⟩ := q
      subst ep
      obtain rfl : v = Value.ref p := ro
      have d : DicAt C H r true kvs p := m.obj j p _ hp hj
      exact ⟨dic_type hK hw I d, fun a z => by cases z; exact dic_nodict I d⟩
    · exact absurd h.symm hk
  · exact absurd h.symm hk
theorem i_m {k : Nat} {id : String} {f : Mth} {o e : Expr} {es : List Expr} {mo : EM} {ms : List EM} {name : Str} {apos cpos : Pos} (hK : C.K = X.K) (hw : C.w = X.w) (hk : k ≠ 0) (pa : PlainAttrs (tyK k)) (slot : Slot (tyK k) name id) (hty : typeOf (.builtin id) = pure (.type "method_descriptor")) (hm : MtR X id (rM C E f))
    (ho : PE X o (tE C E mo)) (ha : PA X (e :: es) (tA C E (eAs ms))) (hbase : attributeBase o name X.env (eval o X.env) = eval o X.env := by rfl)
    (hfew : ((backTo cpos (starEach (e :: es) X.env)).all (fun x => !x.1) && (backToKw cpos (keywordEach [] X.env)).all (fun x => x.1.isSome)
      && decide ((e :: es).length + ([] : List Keyword).length + (if ([] : List Keyword).isEmpty then 0 else 1) < 30)) = true := by rfl)
    (hline : (apos.endLine == cpos.line) = true := by rfl) (hs : starEach (e :: es) X.env = (false, eval e X.env) :: starEach es X.env := by rfl) (hpl : (backTo cpos (starEach es X.env)).any (·.1) = false := by rfl) :
    PE X (.Call (.Attribute o name apos) (e :: es) [] cpos) (tE C E (eM k f mo ms)) := by
  refine ⟨fun pins s σ H Q I ⟨s0, M, r, hs0, hm0, p⟩ => ?_⟩
  have rd : tE C E mo σ H (fun x H1 => ∃ r1 M1 w, RepM C H1 r1 M1 ∧ RepW C H1 r1 w x ∧ kindW w M1 = k ∧ tA C E (eAs ms) σ H1 fun vs H2 => rM C E f x vs H2 Q) :=
    tE_on Kv_cl hs0 hm0 p fun v H1 r1 M1 w x1 m1 q1 s1 p1 => by
      split at p1
      · rename_i hkd
        exact ⟨r1, M1, w, m1, q1, hkd, tA_on Kv_cl s1 m1 p1 fun vs H2 r2 M2 ws _ x2 m2 q2 s2 p2 => ⟨r2, M2, w, ws, m2, RepW.go x2 m1 _ _ q1, q2, p2⟩⟩
      · exact p1.elim
  refine wpAny_Call_method_late hbase hfew hline rfl (thn (ho.run pins s σ H _ I rd) fun v s1 ⟨x, H1, I1, rx, r1, M1, w, m1, q1, hkd, q2⟩ => ?_)
  obtain ⟨h1, h2⟩ := kind_is hK hw I1 rx m1 q1 hkd hk
  refine ⟨tyK k, id, pa, slot, hty, h1, h2, ?_⟩
  have hA := ha.run cpos pins s1 σ H1 _ I1 q2
  rw [hs] at hA ⊢
  refine Calls.callWith_builtin (by show (false || (backTo cpos (starEach es X.env)).any (·.1)) = false; rw [hpl] <;> rfl) (Calls.evalArgs_plain ?_)
  exact thn hA fun us s2 ⟨vs, H2, I2, rvs, q3⟩ => hm pins s2 σ H2 x vs v us Q I2 rx rvs q3
theorem i_m0 {k : Nat} {id : String} {f : Mth} {o : Expr} {mo : EM} {name : Str} {apos cpos : Pos} (hK : C.K = X.K) (hw : C.w = X.w) (hk : k ≠ 0) (pa : PlainAttrs (tyK k)) (slot : Slot (tyK k) name id) (hty : typeOf (.builtin id) = pure (.type "method_descriptor")) (hm : MtR X id (rM C E f))
    (ho : PE X o (tE C E mo)) (hbase : attributeBase o name X.env (eval o X.env) = eval o X.env := by rfl) (hline : (apos.endLine == cpos.line) = true := by rfl) :
    PE X (.Call (.Attribute o name apos) [] [] cpos) (tE C E (eM k f mo [])) := by
  refine ⟨fun pins s σ H Q I ⟨s0, M, r, hs0, hm0, p⟩ => ?_⟩
  have rd : tE C E mo σ H (fun x H1 => ∃ r1 M1 w, RepM C H1 r1 M1 ∧ RepW C H1 r1 w x ∧ kindW w M1 = k ∧ rM C E f x [] H1 Q) :=
    tE_on Kv_cl hs0 hm0 p fun v H1 r1 M1 w x1 m1 q1 s1 p1 => by
      split at p1
      · rename_i hkd
        exact ⟨r1, M1, w, m1, q1, hkd, r1, M1, w, [], m1, q1, rfl, p1⟩
      · exact p1.elim
  refine wpAny_Call_method0_late hbase hline (thn (ho.run pins s σ H _ I rd) fun v s1 ⟨x, H1, I1, rx, r1, M1, w, m1, q1, hkd, q2⟩ => ?_)
  obtain ⟨h1, h2⟩ := kind_is hK hw I1 rx m1 q1 hkd hk
  exact ⟨tyK k, id, pa, slot, hty, h1, h2, Calls.callWith_builtin rfl (PySem.evalArgs_none (hm pins s1 σ H1 x [] v [] Q I1 rx .nil q2))⟩
theorem MtR.imp {id : String} {r r' : V → List V → Hp → VK → Prop} (h : MtR X id r) (f : ∀ x xs H Q, r' x xs H Q → r x xs H Q) : MtR X id r' := fun pins s σ H x xs v us Q I rx rv q => h pins s σ H x xs v us Q I rx rv (f x xs H Q q)
theorem onL_go {H : Hp} {r : List Addr} {M : Mem} {w : W} {x : V} {g : Nat → List W → Out W} {K : W → Mem → Prop} (m : RepM C H r M) (q : RepW C H r w x) (p : PG C E r H (onL w M g) K) : ∃ j ws a vs, x = .ref a ∧ r[j]? = some a ∧ M[j]? = some (.lst ws) ∧ H a = some (.lst vs) ∧ RepWs C H r ws vs ∧ PG C E r H (g j ws) K := by
  unfold onL at p
  split at p
  · split at p
    · rename_i j _ ws hj
      obtain ⟨a, vs, e, ha, h1, qs⟩ := lst_at m q hj
      exact ⟨j, ws, a, vs, e, ha, hj, h1, qs, p⟩
    · exact p.elim
  · exact p.elim
/-- a list of the store is changed -/
theorem wr_lst {H : Hp} {r : List Addr} {M : Mem} {j : Nat} {a : Addr} {ws : List W} {vs us : List V} (m : RepM C H r M) (ha : r[j]? = some a) (h1 : H a = some (.lst us)) (q : RepWs C H r ws vs) : Mono r r H (upd H a (.lst vs)) ∧ RepM C (upd H a (.lst vs)) r (M.set j (.lst ws)) :=
  have nf : ∀ o, H a = some o → frzH o = false := fun o z => by rw [h1] at z; cases z; rfl
  ⟨Mono.write (List.mem_of_getElem? ha) nf, m.write ha nf ⟨vs, upd_same, RepWs.go (Mono.write (List.mem_of_getElem? ha) nf) m _ _ q⟩⟩
theorem m_append : MtR X "list.append" (rM C E fAppend) := MtR.imp mt_append fun x xs H Q ⟨r, M, w, ws, m, q, qs, p⟩ => by
  obtain ⟨j, us, a, vs, e, ha, hj, h1, q1, p⟩ := onL_go m q p
  subst e
  split at p
  · rename_i v
    obtain ⟨y, yr, rfl, qy, hyr⟩ := qs
    obtain rfl := hyr
    split at p
    · rename_i hl
      obtain ⟨x', m'⟩ := wr_lst m ha h1 (q1.app (RepWs.one qy))
      refine ⟨a, vs, y, rfl, rfl, h1, ?_, p .non _ r x' m' rfl⟩
      have := of_decide_eq_true hl
      rw [q1.length]
      exact Nat.lt_of_lt_of_le (Nat.lt_of_succ_le this) (by decide)
    · exact p.elim
  · exact p.elim
theorem m_extend : MtR X "list.extend" (rM C E fExtend) := MtR.imp mt_extend fun x xs H Q ⟨r, M, w, ws, m, q, qs, p⟩ => by
  obtain ⟨j, us, a, vs, e, ha, hj, h1, q1, p⟩ := onL_go m q p
  subst e
  split at p
  · rename_i i
    obtain ⟨y, yr, rfl, qy, hyr⟩ := qs
    obtain rfl := hyr
    split at p
    · rename_i us2 hi
      split at p
      · rename_i hl
        obtain ⟨b, vs2, e, hb, h2, q2⟩ := lst_at m qy hi
        subst e
        obtain ⟨x', m'⟩ := wr_lst m ha h1 (q1.app q2)
        refine ⟨a, b, vs, vs2, rfl, rfl, h1, h2, ?_, p .non _ r x' m' rfl⟩
        have := of_decide_eq_true hl
        rw [q1.length, q2.length]
        exact Nat.le_trans this (by decide)
      · exact p.elim
    · exact p.elim
  · exact p.elim
theorem m_reverse : MtR X "list.reverse" (rM C E fReverse) := MtR.imp mt_reverse fun x xs H Q ⟨r, M, w, ws, m, q, qs, p⟩ => by
  obtain ⟨j, us, a, vs, e, ha, hj, h1, q1, p⟩ := onL_go m q p
  subst e
  split at p
  · obtain rfl := (show xs = [] from qs)
    have q2 : RepWs C H r us.reverse vs.reverse := by
      clear p h1 hj
      induction us generalizing vs with
      | nil => obtain rfl := (show vs = [] from q1); rfl
      | cons u us ih =>
        obtain ⟨v, vr, rfl, p1, p2⟩ := q1
        rw [List.reverse_cons, List.reverse_cons]
        exact (ih _ p2).app (RepWs.one p1)
    obtain ⟨x', m'⟩ := wr_lst m ha h1 q2
    exact ⟨a, vs, rfl, rfl, h1, p .non _ r x' m' rfl⟩
  · exact p.elim
theorem m_clear : MtR X "list.clear" (rM C E fClear) := MtR.imp mt_clear fun x xs H Q ⟨r, M, w, ws, m, q, qs, p⟩ => by
  obtain ⟨j, us, a, vs, e, ha, hj, h1, q1, p⟩ := onL_go m q p
  subst e
  split at p
  · obtain rfl := (show xs = [] from qs)
    obtain ⟨x', m'⟩ := wr_lst (ws := []) (vs := []) m ha h1 rfl
    exact ⟨a, vs, rfl, rfl, h1, p .non _ r x' m' rfl⟩
  · exact p.elim
theorem i_append {o e : Expr} {mo me : EM} {apos cpos : Pos} (hK : C.K = X.K) (hw : C.w = X.w) (ho : PE X o (tE C E mo)) (he : PE X e (tE C E me)) (hbase : attributeBase o "append" X.env (eval o X.env) = eval o X.env := by rfl)
    (hfew : ((backTo cpos (starEach [e] X.env)).all (fun x => !x.1) && (backToKw cpos (keywordEach [] X.env)).all (fun x => x.1.isSome)
      && decide ([e].length + ([] : List Keyword).length + (if ([] : List Keyword).isEmpty then 0 else 1) < 30)) = true := by rfl)
    (hline : (apos.endLine == cpos.line) = true := by rfl) (hs : starEach [e] X.env = (false, eval e X.env) :: starEach [] X.env := by rfl) :
    PE X (.Call (.Attribute o "append" apos) [e] [] cpos) (tE C E (eM 2 fAppend mo [me])) :=
  i_m (k := 2) hK hw (by decide) PySem.F.plainAttrs_list PySem.F.slot_list_append PySem.F.type_list_append m_append ho (i_cons he i_nil hs) hbase hfew hline hs rfl
/-! ### tuple, list, all, any -/
theorem i_tuple {x : Expr} {l : LM} {p pos : Pos} (hK : C.K = X.K) (hg : Gl X "tuple") (hm : X.mg "tuple" = none) (h : PE X x (tR C E l)) (na : starEach [x] X.env = (false, eval x X.env) :: starEach [] X.env := by rfl) :
    PE X (.Call (.Name "tuple" p) [x] [] pos) (tE C E (eTuple l)) :=
  PE.imp (pe_tupleOf hg hm h na) fun σ H Q ⟨s, M, r, hs, hm, p⟩ => tR_on Kv_cl hs hm p fun a vs H1 r1 M1 ws x1 m1 q1 sq s1 p1 => by
    rw [hK] at sq
    rcases sq with sq | sq
    · exact .inl ⟨a, vs, rfl, sq, fun b hb => p1 (.ref b) _ r1 (Mono.temp hb) (m1.temp hb) ⟨b, vs, rfl, .inl (.inl upd_same), RepWs.go (Mono.temp hb) m1 _ _ q1⟩⟩
    · exact .inr ⟨a, vs, rfl, sq, p1 (.ref a) H1 r1 (Mono.refl _ _) m1 ⟨a, vs, rfl, by rw [hK]; exact sq, q1⟩⟩
theorem i_list {x : Expr} {l : LM} {p pos : Pos} (hK : C.K = X.K) (hg : Gl X "list") (hm : X.mg "list" = none) (h : PE X x (tR C E l)) (na : starEach [x] X.env = (false, eval x X.env) :: starEach [] X.env := by rfl) :
    PE X (.Call (.Name "list" p) [x] [] pos) (tF C E (lList l)) :=
  PE.imp (pe_callTy call_list_of hg hm PyProof.Rows.boot_list (pa_cons h pa_nil na) (he := na) (hpl := rfl)) fun σ H Q ⟨s, M, r, hs, hm, p⟩ => by
    have p : PG C E r H (bnd (l s M) fun ws M => if many ws.length then ok ws M else none) (Kf C Q r H) := p
    have p2 := p.fst Kf_cl
    refine ⟨s, M, r, hs, hm, ?_⟩
    revert p2
    cases e : l s M with
    | none => intro p2; exact p2
    | some o =>
      obtain ⟨o, M1⟩ := o
      cases o with
      | error x => intro p2; exact p2
      | ok ws =>
        rw [e] at p
        have p : PG C E r H (if many ws.length then ok ws M1 else none) (Kf C Q r H) := p
        intro _
        intro a vs H1 r1 x1 m1 q1 sq
        split at p
        · rename_i hl
          rw [hK] at sq
          refine ⟨a, vs, rfl, sq, fun b hb => ?_⟩
          exact p b vs (upd H1 b (.lst vs)) r1 (x1.trans m1 (Mono.temp hb)) (m1.temp hb) (RepWs.go (Mono.temp hb) m1 _ _ q1) upd_same (m1.new hb) (x1.none_back m1 hb) (of_decide_eq_true hl)
        · exact p.elim
end
end Sw

set_option autoImplicit false
set_option Elab.async false
set_option linter.all false
set_option maxRecDepth 100000
/-! isinstance, all, any. -/
namespace Sw
open PySem PySem.Spec L2
section
variable {C : Rc} {E : XK} {X : Cx}
def kits : List String := ["NoneType", "bool", "int", "str", "tuple", "list", "dict"]
theorem tyN_in {w : W} {M : Mem} {t : String} (h : tyN w M = some t) : t ∈ kits := by
  unfold tyN at h
  split at h <;> (try (cases h; decide))
  split at h
  · cases h; decide
  · split at h
    · cases h
    · cases h; decide
  · cases h
theorem tyN_x (hK : C.K = X.K) {H : Hp} {r : List Addr} {M : Mem} {w : W} {x : V} {t : String} (m : RepM C H r M) (q : RepW C H r w x) (h : tyN w M = some t) : TyX X.K H x (.type t) := by
  cases w with
  | non => cases h; obtain rfl : x = .non := q; exact .base .non
  | bl b => cases h; obtain rfl : x = .bl b := q; exact .base (.bl b)
  | int i => cases h; obtain rfl : x = .int i := q; exact .base (.int i)
  | str z => cases h; obtain rfl : x = .str (tx z) := q; exact .base (.str _)
  | tup ws =>
    cases h
    obtain ⟨a, vs, e, s, _⟩ := q
    subst e
    rcases s with (s | ⟨o, s⟩) | ⟨o, its, n, s1, s2, _⟩
    · exact .base (.tup s)
    · exact .fTuple s
    · rw [hK] at s1
      exact .kTuple s1 s2
  | scr ns =>
    cases h
    obtain ⟨a, e, _, s⟩ := q
    subst e
    rcases s with ⟨o, s⟩ | ⟨o, its, n, s1, s2, _⟩
    · exact .base (.frz s)
    · rw [hK] at s1
      exact .kList s1 s2
  | ref j =>
    unfold tyN at h
    dsimp only at h
    split at h
    · rename_i ws hj
      cases h
      obtain ⟨a, vs, e, ha, h1, _⟩ := lst_at m q hj
      subst e
      exact .base (.lst h1)
    · rename_i kvs hj
      split at h
      · cases h
      · rename_i hn
        cases h
        obtain ⟨a, e, ha⟩ := q
        subst e
        have d : DicAt C H r false kvs a := m.obj j a _ ha hj
        rcases d.obj with ⟨_, xs, e1, _⟩ | ⟨⟨ne, z⟩, _⟩
        · exact .base (.dK e1)
        · exfalso
          apply hn
          cases kvs with
          | nil => exact absurd rfl ne
          | cons p ps => rw [List.any_cons, z p List.mem_cons_self]; rfl
    · cases h
theorem i_isA {T : Str} {Ts : String} {e : Expr} {m : EM} {p p2 pos : Pos} (hK : C.K = X.K) (hg : Gl X "isinstance") (hm : X.mg "isinstance" = none) (hgT : Gl X T) (hmT : X.mg T = none) (hvT : bootBuiltins T = some (.type Ts))
    (hkit : ∀ t ∈ kits, kitB t Ts = some (t == Ts || t == "bool" && Ts == "int")) (ha : PE X e (tE C E m)) (hnT : T ≠ "__name__" := by decide) (hdT : (T == ("__debug__" : Str)) = false := by decide)
    (hs : starEach [e, .Name T p2] X.env = (false, eval e X.env) :: starEach [.Name T p2] X.env := by rfl) (hs2 : starEach [.Name T p2] X.env = (false, eval (.Name T p2) X.env) :: starEach [] X.env := by rfl)
    (hpl : (backTo pos (starEach [.Name T p2] X.env)).any (·.1) = false := by rfl) :
    PE X (.Call (.Name "isinstance" p) [e, .Name T p2] [] pos) (tE C E (eUn (uIsA Ts) m)) :=
  PE.imp (pe_callB call_isi hg hm PyProof.Rows.boot_isinstance (pa_cons ha (pa_cons (pe_bltn (v := .ty Ts) hgT hmT hvT rfl hnT hdT) pa_nil hs2) hs) (he := hs) (hpl := hpl)) fun σ H Q ⟨s, M, r, hs, hm, p⟩ => tE_on Kv_cl hs hm p fun v H1 r1 M1 w x1 m1 q1 s1 p1 => by
    have p1 : PG C E r1 H1 (match tyN w M1 with
      | some t => ok (.bl (t == Ts || t == "bool" && Ts == "int")) M1
      | none => none) (Kv C Q r1 H1) := p1
    cases e : tyN w M1 with
    | none => rw [e] at p1; exact p1.elim
    | some t =>
      rw [e] at p1
      exact ⟨v, .ty Ts, .type t, .type Ts, _, rfl, .ty Ts, tyN_x hK m1 q1 e, kit_ty (hkit t (tyN_in e)), p1 _ H1 r1 (Mono.refl _ _) m1 rfl⟩
theorem kits_list : ∀ t ∈ kits, kitB t "list" = some (t == "list" || t == "bool" && "list" == "int") := by decide +kernel
theorem kits_tuple : ∀ t ∈ kits, kitB t "tuple" = some (t == "tuple" || t == "bool" && "tuple" == "int") := by decide +kernel
theorem kits_bool : ∀ t ∈ kits, kitB t "bool" = some (t == "bool" || t == "bool" && "bool" == "int") := by decide +kernel
theorem kits_int : ∀ t ∈ kits, kitB t "int" = some (t == "int" || t == "bool" && "int" == "int") := by decide +kernel
theorem kits_str : ∀ t ∈ kits, kitB t "str" = some (t == "str" || t == "bool" && "str" == "int") := by decide +kernel
theorem kits_dict : ∀ t ∈ kits, kitB t "dict" = some (t == "dict" || t == "bool" && "dict" == "int") := by decide +kernel
/-! all, any over lists of truths -/
theorem bools_vals {H : Hp} {r : List Addr} : ∀ {ws : List W} {vs : List V} {bs : List Bool}, bools ws = some bs → RepWs C H r ws vs → vs = bs.map V.bl
  | [], vs, bs, h, q => by cases h; exact q
  | w :: ws, vs, bs, h, q => by
    obtain ⟨v, vr, rfl, p, q⟩ := q
    cases w with
    | bl b =>
      unfold bools at h
      cases e : bools ws with
      | none => rw [e] at h; cases h
      | some bs' =>
        rw [e] at h
        cases h
        rw [bools_vals e q, show v = .bl b from p]
        rfl
    | _ => cases h
/-- over a list that nobody holds -/
theorem i_all {x : Expr} {l : LM} {p pos : Pos} (hK : C.K = X.K) (hc : X.calm = true) (hg : Gl X "all") (hm : X.mg "all" = none) (hv : bootBuiltins "all" = some (.builtin "all")) (h : PE X x (tF C E l)) (na : starEach [x] X.env = (false, eval x X.env) :: starEach [] X.env := by rfl) :
    PE X (.Call (.Name "all" p) [x] [] pos) (tE C E (eL fAll l)) :=
  PE.imp (pe_callB (cr_all hc) hg hm hv (pa_cons h pa_nil na) (he := na) (hpl := rfl)) fun σ H Q ⟨s, M, r, hs, hm, p⟩ => tF_on Kv_cl hs hm p fun a vs H1 r1 M1 ws x1 m1 q1 ha hn h0 hl s1 p1 => by
    unfold fAll at p1
    cases e : bools ws with
    | none => rw [e] at p1; exact p1.elim
    | some bs =>
      rw [e] at p1
      have hv := bools_vals e q1
      exact ⟨a, bs, rfl, .inl (.inl (by rw [← hv]; exact ha)), p1 _ H1 r1 (Mono.refl _ _) m1 rfl⟩
theorem i_any {x : Expr} {l : LM} {p pos : Pos} (hK : C.K = X.K) (hc : X.calm = true) (hg : Gl X "any") (hm : X.mg "any" = none) (hv : bootBuiltins "any" = some (.builtin "any")) (h : PE X x (tF C E l)) (na : starEach [x] X.env = (false, eval x X.env) :: starEach [] X.env := by rfl) :
    PE X (.Call (.Name "any" p) [x] [] pos) (tE C E (eL fAny l)) :=
  PE.imp (pe_callB (cr_any hc) hg hm hv (pa_cons h pa_nil na) (he := na) (hpl := rfl)) fun σ H Q ⟨s, M, r, hs, hm, p⟩ => tF_on Kv_cl hs hm p fun a vs H1 r1 M1 ws x1 m1 q1 ha hn h0 hl s1 p1 => by
    unfold fAny at p1
    cases e : bools ws with
    | none => rw [e] at p1; exact p1.elim
    | some bs =>
      rw [e] at p1
      have hv := bools_vals e q1
      exact ⟨a, bs, rfl, .inl (.inl (by rw [← hv]; exact ha)), p1 _ H1 r1 (Mono.refl _ _) m1 rfl⟩
end
end Sw

set_option autoImplicit false
set_option Elab.async false
set_option linter.all false
set_option maxRecDepth 100000
/-! sorted. -/
namespace Sw
open PySem PySem.Spec L2
/-! ### the order by signs -/
def ltI : List Int → List Int → Bool
  | _, [] => false
  | [], _ :: _ => true
  | a :: u, b :: v => if a < b then true else if b < a then false else ltI u v
mutual
def tok : W → List Int
  | .non => [0]
  | .bl b => [1, if b then 1 else 0]
  | .int i => [2, i]
  | .str s => 3 :: (s.map fun (c : Nat) => (c : Int) + 1) ++ [0]
  | .tup ws => 4 :: toks ws
  | .ref n => [5, n]
  | .scr _ => [6]
def toks : List W → List Int
  | [] => [-1]
  | w :: ws => tok w ++ toks ws
end
theorem ltI_asym : ∀ u v, ltI u v = true → ltI v u = false
  | [], [], h => by simp [ltI] at h
  | [], _ :: _, _ => by simp [ltI]
  | _ :: _, [], h => by simp [ltI] at h
  | a :: u, b :: v, h => by
    unfold ltI at h ⊢
    split at h
    · rename_i h1
      rw [if_neg (by omega), if_pos h1]
    · split at h
      · cases h
      · rw [if_neg (by assumption), if_neg (by assumption)]
        exact ltI_asym u v h
theorem ltI_tr : ∀ x y z, ltI y x = false → ltI z y = false → ltI z x = false
  | x, y, [], h1, h2 => by
    cases x with
    | nil => simp [ltI]
    | cons a u =>
      cases y with
      | nil => simp [ltI] at h1
      | cons b v => simp [ltI] at h2
  | [], y, _ :: _, _, _ => by simp [ltI]
  | a :: u, [], c :: w, h1, _ => by simp [ltI] at h1
  | a :: u, b :: v, c :: w, h1, h2 => by
    unfold ltI at h1 h2 ⊢
    split at h1
    · cases h1
    · split at h2
      · cases h2
      · rename_i n1 n2
        rw [if_neg (by omega)]
        split
        · rfl
        · rename_i n3
          have e1 : ¬ a < b := by omega
          have e2 : ¬ b < c := by omega
          rw [if_neg e1] at h1
          rw [if_neg e2] at h2
          exact ltI_tr u v w h1 h2
/-- the first place that differs decides -/
def Ltp (u v : List Int) : Prop := ∃ (p : List Int) (a b : Int) (u' v' : List Int), u = p ++ a :: u' ∧ v = p ++ b :: v' ∧ a < b
theorem Ltp.app {u v : List Int} (h : Ltp u v) (r r' : List Int) : Ltp (u ++ r) (v ++ r') := by
  obtain ⟨p, a, b, u', v', rfl, rfl, k⟩ := h
  exact ⟨p, a, b, u' ++ r, v' ++ r', by simp, by simp, k⟩
theorem Ltp.pre {u v : List Int} (h : Ltp u v) (p : List Int) : Ltp (p ++ u) (p ++ v) := by
  obtain ⟨q, a, b, u', v', rfl, rfl, k⟩ := h
  exact ⟨p ++ q, a, b, u', v', by simp, by simp, k⟩
theorem Ltp.lt {u v : List Int} (h : Ltp u v) : ltI u v = true := by
  obtain ⟨p, a, b, u', v', rfl, rfl, k⟩ := h
  induction p with
  | nil => simp [ltI, k]
  | cons c p ih => simp only [List.cons_append, ltI]; rw [if_neg (Int.lt_irrefl c), if_neg (Int.lt_irrefl c)]; exact ih
theorem str_ltp : ∀ s t : Tx, s < t → Ltp ((s.map fun (c : Nat) => (c : Int) + 1) ++ [0]) ((t.map fun (c : Nat) => (c : Int) + 1) ++ [0])
  | [], [], h => absurd h (by simp)
  | [], b :: t, _ => ⟨[], 0, b + 1, [], (t.map fun (c : Nat) => (c : Int) + 1) ++ [0], rfl, rfl, by omega⟩
  | _ :: _, [], h => absurd h (by simp)
  | a :: s, b :: t, h => by
    rw [List.cons_lt_cons_iff] at h
    rcases h with h | ⟨rfl, h⟩
    · exact ⟨[], (a : Int) + 1, (b : Int) + 1, (s.map fun (c : Nat) => (c : Int) + 1) ++ [0], (t.map fun (c : Nat) => (c : Int) + 1) ++ [0], rfl, rfl, by omega⟩
    · exact (str_ltp s t h).pre [(a : Int) + 1]
theorem str_tri : ∀ s t : Tx, s < t ∨ s = t ∨ t < s
  | [], [] => .inr (.inl rfl)
  | [], b :: t => .inl (List.nil_lt_cons b t)
  | a :: s, [] => .inr (.inr (List.nil_lt_cons a s))
  | a :: s, b :: t => by
    rw [List.cons_lt_cons_iff, List.cons_lt_cons_iff]
    rcases Nat.lt_trichotomy a b with h | h | h
    · exact .inl (.inl h)
    · subst h
      rcases str_tri s t with h | h | h
      · exact .inl (.inr ⟨rfl, h⟩)
      · exact .inr (.inl (by rw [h]))
      · exact .inr (.inr (.inr ⟨rfl, h⟩))
    · exact .inr (.inr (.inl h))
theorem tok_low : ∀ w : W, ∃ a r, tok w = a :: r ∧ 0 ≤ a
  | .non => ⟨0, [], rfl, by decide⟩
  | .bl b => ⟨1, _, rfl, by decide⟩
  | .int _ => ⟨2, _, rfl, by decide⟩
  | .str _ => ⟨3, _, rfl, by decide⟩
  | .tup _ => ⟨4, _, rfl, by decide⟩
  | .ref _ => ⟨5, _, rfl, by decide⟩
  | .scr _ => ⟨6, _, rfl, by decide⟩
mutual
theorem ltD_tok : ∀ (a b : W) (c : Bool), ltD a b = some c → (c = true → Ltp (tok a) (tok b)) ∧ (c = false → a = b ∨ Ltp (tok b) (tok a))
  | .int i, b, c, h => by
    cases b with
    | int j =>
      simp only [ltD, Option.some.injEq] at h
      subst h
      refine ⟨fun e => ⟨[2], i, j, [], [], rfl, rfl, of_decide_eq_true e⟩, fun e => ?_⟩
      have := of_decide_eq_false e
      by_cases q : i = j
      · exact .inl (by rw [q])
      · exact .inr ⟨[2], j, i, [], [], rfl, rfl, by omega⟩
    | _ => simp [ltD] at h
  | .bl i, b, c, h => by
    cases b with
    | bl j =>
      simp only [ltD, Option.some.injEq] at h
      subst h
      cases i <;> cases j <;> simp
      · exact ⟨[1], 0, 1, [], [], rfl, rfl, by decide⟩
      · exact ⟨[1], 0, 1, [], [], rfl, rfl, by decide⟩
    | _ => simp [ltD] at h
  | .str s, b, c, h => by
    cases b with
    | str t =>
      simp only [ltD, Option.some.injEq] at h
      subst h
      refine ⟨fun e => (str_ltp s t (of_decide_eq_true e)).pre [3], fun e => ?_⟩
      have h1 := of_decide_eq_false e
      by_cases q : s = t
      · exact .inl (by rw [q])
      · refine .inr ((str_ltp t s ?_).pre [3])
        exact ((str_tri s t).resolve_left h1).resolve_left q
    | _ => simp [ltD] at h
  | .tup xs, b, c, h => by
    cases b with
    | tup ys =>
      have h : ltDs xs ys = some c := by simpa [ltD] using h
      obtain ⟨h1, h2⟩ := ltDs_tok xs ys c h
      refine ⟨fun e => (h1 e).pre [4], fun e => ?_⟩
      rcases h2 e with q | q
      · exact .inl (by rw [q])
      · exact .inr (q.pre [4])
    | _ => simp [ltD] at h
  | .non, b, c, h => by simp [ltD] at h
  | .ref _, b, c, h => by simp [ltD] at h
  | .scr _, b, c, h => by simp [ltD] at h
theorem ltDs_tok : ∀ (xs ys : List W) (c : Bool), ltDs xs ys = some c → (c = true → Ltp (toks xs) (toks ys)) ∧ (c = false → xs = ys ∨ Ltp (toks ys) (toks xs))
  | [], [], c, h => by
    simp [ltDs] at h
    subst h
    exact ⟨fun e => (nomatch e), fun _ => .inl rfl⟩
  | [], y :: ys, c, h => by
    simp [ltDs] at h
    subst h
    obtain ⟨a, r, e, k⟩ := tok_low y
    exact ⟨fun _ => ⟨[], -1, a, [], r ++ toks ys, rfl, by simp [toks, e], by omega⟩, fun e => (nomatch e)⟩
  | x :: xs, [], c, h => by
    simp [ltDs] at h
    subst h
    obtain ⟨a, r, e, k⟩ := tok_low x
    exact ⟨fun e => (nomatch e), fun _ => .inr ⟨[], -1, a, [], r ++ toks xs, rfl, by simp [toks, e], by omega⟩⟩
  | x :: xs, y :: ys, c, h => by
    unfold ltDs at h
    split at h
    · rename_i e
      subst e
      obtain ⟨h1, h2⟩ := ltDs_tok xs ys c h
      refine ⟨fun e => (h1 e).pre (tok x), fun e => ?_⟩
      rcases h2 e with q | q
      · exact .inl (by rw [q])
      · exact .inr (q.pre (tok x))
    · split at h
      · cases h
      · rename_i n1 n2
        obtain ⟨h1, h2⟩ := ltD_tok x y c h
        refine ⟨fun e => (h1 e).app _ _, fun e => ?_⟩
        rcases h2 e with q | q
        · exact absurd q n1
        · exact .inr (q.app _ _)
end
theorem ltD_I {a b : W} {c : Bool} (h : ltD a b = some c) : ltI (tok a) (tok b) = c := by
  obtain ⟨h1, h2⟩ := ltD_tok a b c h
  cases c with
  | true => exact (h1 rfl).lt
  | false =>
    rcases h2 rfl with rfl | q
    · cases e : ltI (tok a) (tok a) with
      | false => rfl
      | true => exact absurd ((ltI_asym _ _ e).symm.trans e) (by simp)
    · exact ltI_asym _ _ q.lt
theorem cmp2_I {a b : W} (h : cmp2 a b = true) : ltD a b = some (ltI (tok a) (tok b)) ∧ (ltI (tok a) (tok b) = false → ltI (tok b) (tok a) = false → a = b) := by
  unfold cmp2 at h
  split at h
  · rename_i x y h1 h2
    refine ⟨by rw [ltD_I h1]; exact h1, fun e1 e2 => ?_⟩
    rw [ltD_I h1] at e1
    rw [ltD_I h2] at e2
    subst e1 e2
    split at h
    · assumption
    · simp at h
  · cases h
theorem ins1_perm (a : W) : ∀ bs : List W, (ins1 a bs).Perm (a :: bs)
  | [] => List.Perm.refl _
  | b :: bs => by
    unfold ins1
    split
    · exact ((ins1_perm a bs).cons b).trans (List.Perm.swap a b bs)
    · exact List.Perm.refl _
theorem srt_perm : ∀ ws : List W, (srt ws).Perm ws
  | [] => List.Perm.refl _
  | w :: ws => (ins1_perm w (srt ws)).trans ((srt_perm ws).cons w)
theorem ins1_sorted {a : W} : ∀ {bs : List W}, (∀ b ∈ bs, cmp2 a b = true ∧ cmp2 b a = true) → bs.Pairwise (fun x y => ltI (tok y) (tok x) = false) → (ins1 a bs).Pairwise (fun x y => ltI (tok y) (tok x) = false)
  | [], _, _ => List.pairwise_singleton _ _
  | b :: bs, hc, hs => by
    have hb := List.pairwise_cons.mp hs
    have e : lt1 b a = ltI (tok b) (tok a) := by
      unfold lt1
      rw [(cmp2_I (hc b List.mem_cons_self).2).1]
      cases ltI (tok b) (tok a) <;> rfl
    unfold ins1
    split
    · rename_i h
      rw [e] at h
      refine List.pairwise_cons.mpr ⟨fun z hz => ?_, ins1_sorted (fun z hz => hc z (List.mem_cons_of_mem _ hz)) hb.2⟩
      rcases List.mem_cons.mp ((ins1_perm a bs).mem_iff.mp hz) with rfl | hz
      · exact ltI_asym _ _ h
      · exact hb.1 z hz
    · rename_i h
      have h : ltI (tok b) (tok a) = false := by rw [← e]; exact Bool.eq_false_iff.mpr h
      refine List.pairwise_cons.mpr ⟨fun z hz => ?_, hs⟩
      rcases List.mem_cons.mp hz with rfl | hz
      · exact h
      · exact ltI_tr _ _ _ h (hb.1 z hz)
theorem srt_sorted : ∀ {ws : List W}, (∀ a ∈ ws, ∀ b ∈ ws, cmp2 a b = true) → (srt ws).Pairwise (fun x y => ltI (tok y) (tok x) = false)
  | [], _ => List.Pairwise.nil
  | w :: ws, h => ins1_sorted (fun b hb => by
      have hb := (srt_perm ws).mem_iff.mp hb
      exact ⟨h w List.mem_cons_self b (List.mem_cons_of_mem _ hb), h b (List.mem_cons_of_mem _ hb) w List.mem_cons_self⟩) (srt_sorted fun a ha b hb => h a (List.mem_cons_of_mem _ ha) b (List.mem_cons_of_mem _ hb))
/-- what is sorted is told -/
theorem srt_uniq {ws us : List W} (hc : ∀ a ∈ ws, ∀ b ∈ ws, cmp2 a b = true) (hp : us.Perm ws) (hs : us.Pairwise (fun x y => ltI (tok y) (tok x) = false)) : us = srt ws :=
  List.Perm.eq_of_pairwise (le := fun x y => ltI (tok y) (tok x) = false) (fun a b ha hb h1 h2 => (cmp2_I (hc a (hp.mem_iff.mp ha) b ((srt_perm ws).mem_iff.mp hb))).2 h2 h1) hs (srt_sorted hc) (hp.trans (srt_perm ws).symm)
end Sw

set_option autoImplicit false
set_option Elab.async false
set_option linter.all false
set_option maxRecDepth 100000
/-! sorted, of the model. -/
namespace Sw
open PySem PySem.Spec L2
open PySem.SeqAt
/-- the first pair that is not alike decides -/
def LexAt (A : Around) (s : Shared) (fin c : Bool) : List (Value × Value) → Prop
  | [] => fin = c
  | (p, q) :: r => ∃ e, EqAt A s p q e ∧ (e = true → LexAt A s fin c r) ∧ (e = false → RcLt A s p q c)
theorem tup_ltM (l b : Addr) (xs ys : Array Value) (n n2 : Nat) (dd dd2 : Option Addr) (sl sl2 : Array (Option Value)) (c : Bool) :
    Meets (Builtin.«tuple.__lt__» ⟨[.ref l, .ref b], []⟩) fun A R s =>
      s.heap.get? l = some { cls := .type "tuple", dict := dd, data := .seq xs n, slots := sl } ∧
      s.heap.get? b = some { cls := .type "tuple", dict := dd2, data := .seq ys n2, slots := sl2 } ∧
      LexAt A.in1 s (decide (xs.size < ys.size)) c (xs.toList.zip ys.toList) ∧ R (.ok (.ret (.bool c))) s := by
  refine .of_wp fun prog w A R s h => ?_
  obtain ⟨hp, g, d, tk, os⟩ := s
  obtain ⟨hl, hb, hx, hR⟩ := h
  have f2 := AutoSeq1.sub_tuple_tuple
  wp_walk using MeetsSeq.wpAny_loadPart' hl, MeetsSeq.wpAny_loadPart' hb,
    wpAny_forIn_list _ (fun rest b s' => b.1 = none ∧ s' = ⟨hp, g, d, tk, os⟩ ∧ LexAt A.in1 s' (decide (xs.size < ys.size)) c rest) _
  case turn =>
    rintro ⟨p, q⟩ rest b s' ⟨_, rfl, e, h1, h2, h3⟩
    refine wpAny_bind (h1 prog w _ _ ?_)
    cases e with
    | true =>
      wp_walk
      exact ⟨rfl, rfl, h2 rfl⟩
    | false =>
      simp only [Bool.not_false, if_true]
      exact wpAny_bind (wpAny_rule (wpAny_bind (h3 rfl prog w _ _ (wpAny_bind (wpAny_pure (wpAny_pure (wpAny_pure ⟨_, rfl, hR⟩)))))))
  case fin =>
    rintro ⟨b1, b2⟩ s' ⟨hb1, rfl, h1⟩
    dsimp only at hb1
    subst hb1
    wp_walk
    refine ⟨_, rfl, ?_⟩
    rw [show Builtin.Tuple.tupleCompareSizes CmpOp.Lt xs.size ys.size = .bool c from congrArg Value.bool h1]
    exact hR
  case h => exact ⟨rfl, rfl, hx⟩
theorem tup_lt {A : Around} {s : Shared} {l b : Addr} {xs ys : Array Value} {c : Bool} (hl : s.heap.IsTuple l xs) (hb : s.heap.IsTuple b ys) (hu : A.units < cLine) (hx : LexAt A.in1 s (decide (xs.size < ys.size)) c (xs.toList.zip ys.toList)) : RcLt A s (.ref l) (.ref b) c := by
  intro prog w E Q h
  obtain ⟨⟨cls, dd, data, sl⟩, ho, hc, n, hd⟩ := id hl
  obtain ⟨⟨cls2, dd2, data2, sl2⟩, ho2, hc2, n2, hd2⟩ := id hb
  simp only at hc hd hc2 hd2
  subst hc hd hc2 hd2
  exact richCompare_meets_room (op := .Lt) ⟨_, ho, rfl⟩ ⟨_, ho2, rfl⟩ F.slot_tuple_lt F.entry_tuple_lt (F.args_tuple_lt_2 _ _) (tup_ltM l b xs ys n n2 dd dd2 sl sl2 c)
    ⟨ho, ho2, hx, (show Value.bool c ≠ Value.notImplemented ∧ Q (.bool c) s from ⟨(fun x => nomatch x), h⟩)⟩ hu
/-! ### < of data -/
theorem toDs_len : ∀ ws : List W, (toDs ws).length = ws.length
  | [] => rfl
  | w :: ws => by rw [toDs, List.length_cons, List.length_cons, toDs_len ws]
theorem eqD_of {x y : W} (h : x = y) : eqD x y = true := by subst h; exact decide_eq_true rfl
mutual
theorem rl_D : ∀ (a b : W) (c : Bool) (A : Around) (s : Shared) (u v : Value) (as bs : List Addr), isD a = true → isD b = true → ltD a b = some c → Reads s.heap u (toD a) as → Reads s.heap v (toD b) bs → A.units + min (dep a) (dep b) < cLine → RcLt A s u v c
  | .int i, b, c, A, s, u, v, as, bs, da, db, h, ra, rb, hu => by
    cases b with
    | int j =>
      simp only [ltD, Option.some.injEq] at h
      subst h
      exact fun prog w E Q hq => PySem.W.rcLt_alike (.int i) (.int j) A s u v as bs ra rb rfl (by simp) (by simpa [PyData.depth, dep] using hu) prog w E Q (by rw [PySem.W.dataLt_int]; exact hq)
    | _ => simp [ltD] at h
  | .bl i, b, c, A, s, u, v, as, bs, da, db, h, ra, rb, hu => by
    cases b with
    | bl j =>
      simp only [ltD, Option.some.injEq] at h
      subst h
      exact fun prog w E Q hq => PySem.W.rcLt_alike (.bool i) (.bool j) A s u v as bs ra rb rfl (by simp) (by simpa [PyData.depth, dep] using hu) prog w E Q (by rw [PySem.W.dataLt_bool]; cases i <;> cases j <;> exact hq)
    | _ => simp [ltD] at h
  | .str x, b, c, A, s, u, v, as, bs, da, db, h, ra, rb, hu => by
    cases b with
    | str y =>
      simp only [ltD, Option.some.injEq] at h
      subst h
      exact fun prog w E Q hq => PySem.W.rcLt_alike (.str (tx x)) (.str (tx y)) A s u v as bs ra rb rfl (by simp) (by simpa [PyData.depth, dep] using hu) prog w E Q (by rw [PySem.W.dataLt_str]; simpa using hq)
    | _ => simp [ltD] at h
  | .tup xs, b, c, A, s, u, v, as, bs, da, db, h, ra, rb, hu => by
    cases b with
    | tup ys =>
      have h : ltDs xs ys = some c := by simpa [ltD] using h
      have da : isDs xs = true := da
      have db : isDs ys = true := db
      rw [toD_tup (hasM_of_D da)] at ra
      rw [toD_tup (hasM_of_D db)] at rb
      cases ra with
      | @tuple l o vs n _ as₁ h1 h2 h3 h4 =>
        cases rb with
        | @tuple l' o' vs' n' _ bs₁ k1 k2 k3 k4 =>
          simp only [dep] at hu
          refine tup_lt ⟨_, h1, h2, _, h3⟩ ⟨_, k1, k2, _, k3⟩ (by omega) ?_
          have e1 : vs.size = xs.length := by rw [← Array.length_toList, ReadsAll.length _ _ _ h4, toDs_len]
          have e2 : vs'.size = ys.length := by rw [← Array.length_toList, ReadsAll.length _ _ _ k4, toDs_len]
          rw [e1, e2]
          exact rl_Ds xs ys c A.in1 s vs.toList vs'.toList _ _ da db h h4 k4 (by show A.units + 1 + min (deps xs) (deps ys) < cLine; omega)
    | _ => simp [ltD] at h
  | .non, b, c, A, s, u, v, as, bs, da, db, h, ra, rb, hu => by simp [ltD] at h
  | .ref _, b, c, A, s, u, v, as, bs, da, db, h, ra, rb, hu => by simp [ltD] at h
  | .scr _, b, c, A, s, u, v, as, bs, da, db, h, ra, rb, hu => by simp [ltD] at h
theorem rl_Ds : ∀ (xs ys : List W) (c : Bool) (A : Around) (s : Shared) (vs us : List Value) (as bs : List Addr), isDs xs = true → isDs ys = true → ltDs xs ys = some c → ReadsAll s.heap vs (toDs xs) as → ReadsAll s.heap us (toDs ys) bs →
    A.units + min (deps xs) (deps ys) < cLine → LexAt A s (decide (xs.length < ys.length)) c (vs.zip us)
  | [], ys, c, A, s, vs, us, as, bs, da, db, h, ra, rb, hu => by
    cases ra
    simp only [ltDs, Option.some.injEq] at h
    subst h
    cases ys with
    | nil => cases rb; rfl
    | cons y ys => cases rb; simp [LexAt]
  | x :: xs, [], c, A, s, vs, us, as, bs, da, db, h, ra, rb, hu => by
    simp only [ltDs, Option.some.injEq] at h
    subst h
    cases ra
    cases rb
    simp [LexAt]
  | x :: xs, y :: ys, c, A, s, vs, us, as, bs, da, db, h, ra, rb, hu => by
    simp only [isDs, Bool.and_eq_true] at da db
    simp only [deps] at hu
    cases ra with
    | cons r rs =>
      cases rb with
      | cons r' rs' =>
        refine ⟨eqD x y, ?_, fun e => ?_, fun e => ?_⟩
        · rw [← eqv_D x y (isF_of_D _ da.1) (isF_of_D _ db.1)]
          refine eqAt_plain _ _ A s _ _ _ _ r r' (toD_plain _) (toD_plain _) ?_
          have := toD_depth x
          have := toD_depth y
          omega
        · unfold ltDs at h
          split at h
          · simp only [List.length_cons, Nat.add_lt_add_iff_right]
            exact rl_Ds xs ys c A s _ _ _ _ da.2 db.2 h rs rs' (by omega)
          · first
            | cases h
            | (rw [if_pos e] at h; cases h)
        · unfold ltDs at h
          split at h
          · rename_i exy
            rw [eqD_of exy] at e
            cases e
          · rw [if_neg (by rw [e]; exact Bool.false_ne_true)] at h
            exact rl_D x y c A s _ _ _ _ da.1 db.1 h r r' (by omega)
end
end Sw

set_option autoImplicit false
set_option Elab.async false
set_option linter.all false
set_option maxRecDepth 100000
/-! sorted: the rule. -/
namespace Sw
open PySem PySem.Spec L2
open PySem.SeqAt
open PyProof.Rows (oneType' tuples' keyLt' keyKind' oneLt' sortedAll sortedAll_at sortedAll_old)
mutual
theorem reads_det {h : Heap} : ∀ (w w' : W) (u : Value) (as bs : List Addr), isD w = true → isD w' = true → Reads h u (toD w) as → Reads h u (toD w') bs → w = w'
  | .non, w', u, as, bs, d, d', ra, rb => by
    cases ra
    cases w' with
    | tup ws => rw [toD_tup (hasM_of_D d')] at rb; cases rb
    | non => rfl
    | ref _ => simp [isD] at d'
    | scr _ => simp [isD] at d'
    | _ => cases rb
  | .bl b, w', u, as, bs, d, d', ra, rb => by
    cases ra
    cases w' with
    | tup ws => rw [toD_tup (hasM_of_D d')] at rb; cases rb
    | bl c => cases rb; rfl
    | _ => cases rb
  | .int i, w', u, as, bs, d, d', ra, rb => by
    cases ra
    cases w' with
    | tup ws => rw [toD_tup (hasM_of_D d')] at rb; cases rb
    | int c => cases rb; rfl
    | _ => cases rb
  | .str x, w', u, as, bs, d, d', ra, rb => by
    cases w' with
    | tup ws => rw [toD_tup (hasM_of_D d')] at rb; cases ra; cases rb
    | str y =>
      have e : tx x = tx y := by cases ra; cases rb; rfl
      rw [tx_inj e]
    | _ => cases ra; cases rb
  | .tup xs, w', u, as, bs, d, d', ra, rb => by
    rw [toD_tup (hasM_of_D d)] at ra
    cases w' with
    | tup ys =>
      rw [toD_tup (hasM_of_D d')] at rb
      cases ra with
      | @tuple l o vs n _ as₁ h1 h2 h3 h4 =>
        cases rb with
        | @tuple l' o' vs' n' _ bs₁ k1 k2 k3 k4 =>
          rw [h1] at k1
          cases k1
          rw [h3] at k3
          cases k3
          rw [reads_dets xs ys _ _ _ d d' h4 k4]
    | ref _ => simp [isD] at d'
    | scr _ => simp [isD] at d'
    | _ => cases ra; cases rb
  | .ref _, w', u, as, bs, d, d', ra, rb => by simp [isD] at d
  | .scr _, w', u, as, bs, d, d', ra, rb => by simp [isD] at d
theorem reads_dets {h : Heap} : ∀ (xs ys : List W) (us : List Value) (as bs : List Addr), isDs xs = true → isDs ys = true → ReadsAll h us (toDs xs) as → ReadsAll h us (toDs ys) bs → xs = ys
  | [], ys, us, as, bs, d, d', ra, rb => by
    cases ra
    cases ys with
    | nil => rfl
    | cons y ys => cases rb
  | x :: xs, ys, us, as, bs, d, d', ra, rb => by
    cases ra with
    | cons r rs =>
      cases ys with
      | nil => cases rb
      | cons y ys =>
        cases rb with
        | cons r' rs' =>
          simp only [isDs, Bool.and_eq_true] at d d'
          rw [reads_det x y _ _ _ d.1 d'.1 r r', reads_dets xs ys _ _ _ d.2 d'.2 rs rs']
end
/-- the data that a value is -/
def DW (h : Heap) (u : Value) (w : W) : Prop := isD w = true ∧ ∃ as, Reads h u (toD w) as
theorem DW.det {h : Heap} {u : Value} {w w' : W} (a : DW h u w) (b : DW h u w') : w = w' := by
  obtain ⟨d, as, r⟩ := a
  obtain ⟨d', bs, r'⟩ := b
  exact reads_det w w' u as bs d d' r r'
theorem DW.keeps {h h' : Heap} (k : ∀ b o, h.get? b = some o → h'.get? b = some o) {u : Value} {w : W} (a : DW h u w) : DW h' u w := ⟨a.1, let ⟨as, r⟩ := a.2; ⟨as, PyProof.Rows.Reads.keeps k r⟩⟩
open Classical in
noncomputable def dW (h : Heap) (u : Value) : W := if e : ∃ w, DW h u w then choose e else .non
theorem dW_eq {h : Heap} {u : Value} {w : W} (a : DW h u w) : dW h u = w := by
  have e : ∃ w, DW h u w := ⟨w, a⟩
  unfold dW
  rw [dif_pos e]
  exact (Classical.choose_spec e).det a
noncomputable def ltv (h : Heap) (u v : Value) : Bool := ltI (tok (dW h u)) (tok (dW h v))
theorem swo_v (h : Heap) : SrtO.Swo (ltv h) := ⟨fun x y k => ltI_asym _ _ k, fun x y z a b => ltI_tr _ _ _ a b⟩
def DWs (h : Heap) : List Value → List W → Prop
  | [], [] => True
  | u :: us, w :: ws => DW h u w ∧ DWs h us ws
  | _, _ => False
theorem DWs.map {h : Heap} : ∀ {us : List Value} {ws : List W}, DWs h us ws → us.map (dW h) = ws
  | [], [], _ => rfl
  | u :: us, w :: ws, k => by rw [List.map_cons, dW_eq k.1, DWs.map k.2]
  | [], _ :: _, k => k.elim
  | _ :: _, [], k => k.elim
theorem DWs.len {h : Heap} : ∀ {us : List Value} {ws : List W}, DWs h us ws → us.length = ws.length
  | [], [], _ => rfl
  | u :: us, w :: ws, k => by rw [List.length_cons, List.length_cons, DWs.len k.2]
  | [], _ :: _, k => k.elim
  | _ :: _, [], k => k.elim
theorem DWs.keeps {h h' : Heap} (kp : ∀ b o, h.get? b = some o → h'.get? b = some o) : ∀ {us : List Value} {ws : List W}, DWs h us ws → DWs h' us ws
  | [], [], _ => trivial
  | u :: us, w :: ws, k => ⟨k.1.keeps kp, DWs.keeps kp k.2⟩
  | [], _ :: _, k => k.elim
  | _ :: _, [], k => k.elim
theorem DWs.mem {h : Heap} {u : Value} : ∀ {us : List Value} {ws : List W}, DWs h us ws → u ∈ us → ∃ w ∈ ws, DW h u w
  | [], [], _, m => by cases m
  | v :: us, w :: ws, k, m => by
    rcases List.mem_cons.mp m with rfl | m
    · exact ⟨w, List.mem_cons_self, k.1⟩
    · obtain ⟨w', h1, h2⟩ := DWs.mem k.2 m
      exact ⟨w', List.mem_cons_of_mem _ h1, h2⟩
  | [], _ :: _, k, _ => k.elim
  | _ :: _, [], k, _ => k.elim
/-! ### as sorting compares -/
section
variable {prog : Program} {w : World} {A : Around} {E : Value → Shared → Prop} {s : Shared}
theorem one_D {f : Bool} {a b : W} {c : Bool} {u v : Value} {as bs : List Addr} {Q : Bool → Shared → Prop} (hf : f = true → topK a = 1 ∨ topK a = 2) (da : isD a = true) (db : isD b = true) (h : ltD a b = some c) (ra : Reads s.heap u (toD a) as) (rb : Reads s.heap v (toD b) bs)
    (hu : A.units + min (dep a) (dep b) < cLine) (hq : Q c s) : wpAny (model prog w) A (oneLt' f u v) Q E s := by
  cases f with
  | false =>
    refine PySem.W.kat_one _ _ ?_
    exact rl_D a b c A s u v as bs da db h ra rb hu prog w E _ (show PySem.W.BoolBack Q (.bool c) s from hq)
  | true =>
    have hf := hf rfl
    cases a with
    | int i =>
      cases b with
      | int j =>
        simp only [ltD, Option.some.injEq] at h
        subst h
        exact PySem.W.oneLt_alike (da := .int i) (db := .int j) (fun _ _ e => nomatch e) ra rb rfl (by simp) (by simpa [PyData.depth, dep] using hu) (by rw [PySem.W.dataLt_int]; exact hq)
      | _ => simp [ltD] at h
    | str x =>
      cases b with
      | str y =>
        simp only [ltD, Option.some.injEq] at h
        subst h
        exact PySem.W.oneLt_alike (da := .str (tx x)) (db := .str (tx y)) (fun _ _ e => nomatch e) ra rb rfl (by simp) (by simpa [PyData.depth, dep] using hu) (by rw [PySem.W.dataLt_str]; simpa using hq)
      | _ => simp [ltD] at h
    | _ => simp [topK] at hf
theorem kat_D {b : Bool} {Q : Bool → Shared → Prop} : ∀ (xs ys : List W) (c : Bool) (i : Nat) (vs us : List Value) (as bs : List Addr), isDs xs = true → isDs ys = true → ltDs xs ys = some c → ReadsAll s.heap vs (toDs xs) as → ReadsAll s.heap us (toDs ys) bs →
    A.units + min (deps xs) (deps ys) < cLine → (b = true → i = 0 → ∀ x r, xs = x :: r → topK x = 1 ∨ topK x = 2) → Q c s → PySem.W.KatLex prog w A b (decide (xs.length < ys.length)) Q (vs.zip us) i s
  | [], ys, c, i, vs, us, as, bs, da, db, h, ra, rb, hu, hb, hq => by
    cases ra
    simp only [ltDs, Option.some.injEq] at h
    subst h
    cases ys with
    | nil => cases rb; exact hq
    | cons y ys => cases rb; exact PySem.W.kat_nil (by simpa using hq)
  | x :: xs, [], c, i, vs, us, as, bs, da, db, h, ra, rb, hu, hb, hq => by
    simp only [ltDs, Option.some.injEq] at h
    subst h
    cases ra
    cases rb
    exact PySem.W.kat_nil (by simpa using hq)
  | x :: xs, y :: ys, c, i, vs, us, as, bs, da, db, h, ra, rb, hu, hb, hq => by
    simp only [isDs, Bool.and_eq_true] at da db
    simp only [deps] at hu
    cases ra with
    | cons r rs =>
      cases rb with
      | cons r' rs' =>
        refine PySem.W.kat_cons ?_
        have eq := eqAt_plain _ _ A s _ _ _ _ r r' (toD_plain x) (toD_plain y) (by
          have := toD_depth x
          have := toD_depth y
          omega)
        rw [eqv_D x y (isF_of_D _ da.1) (isF_of_D _ db.1)] at eq
        refine eq prog w _ _ (PySem.W.kat_go (fun e => PySem.W.kat_yes ?_) fun e => PySem.W.kat_no ?_)
        · unfold ltDs at h
          split at h
          · simp only [List.length_cons, Nat.add_lt_add_iff_right]
            exact kat_D xs ys c (i + 1) _ _ _ _ da.2 db.2 h rs rs' (by omega) (fun _ z => by omega) hq
          · first
            | cases h
            | (rw [if_pos e] at h; cases h)
        · unfold ltDs at h
          split at h
          · rename_i exy
            rw [eqD_of exy] at e
            cases e
          · rw [if_neg (by rw [e]; exact Bool.false_ne_true)] at h
            refine one_D (fun z => ?_) da.1 db.1 h r r' (by omega) hq
            rw [Bool.and_eq_true] at z
            exact hb z.1 (by simpa using z.2) x xs rfl
end
end Sw

set_option autoImplicit false
set_option Elab.async false
set_option linter.all false
set_option maxRecDepth 100000
namespace Sw
open PySem PySem.Spec L2
open PySem.SeqAt
open PyProof.Rows (oneType' tuples' keyLt' keyKind' oneLt' sortedAll sortedAll_at sortedAll_old)
section
variable {prog : Program} {w : World} {A : Around}
theorem dep_mem {x : W} : ∀ {xs : List W}, x ∈ xs → dep x ≤ deps xs
  | [], h => by cases h
  | y :: ys, h => by
    unfold deps
    rcases List.mem_cons.mp h with rfl | h
    · exact Nat.le_max_left _ _
    · exact Nat.le_trans (dep_mem h) (Nat.le_max_right _ _)
/-- the comparison of two items -/
theorem cmp_D {κ : PyProof.Rows.SortKind} {h : Heap} {s : Shared} {its : List Value} {ws : List W} (hk : ∀ b o, h.get? b = some o → s.heap.get? b = some o) (D : DWs h its ws) (hc : cmpAll ws = true) (hu : A.units + 58 < cLine)
    (hκ : (κ = oneType' ∧ ∀ w ∈ ws, topK w = 1 ∨ topK w = 2) ∨ ∃ b, κ = tuples' b ∧ (∀ w ∈ ws, firstK w ≠ 0) ∧ (b = true → ∀ w ∈ ws, firstK w = 1 ∨ firstK w = 2)) :
    SrtO.Cmp prog w A s κ (fun p => p.1 ∈ its) (SrtO.lt2 (ltv h)) := by
  intro p q hp hq
  obtain ⟨a, ha, da⟩ := D.mem hp
  obtain ⟨b, hb, db⟩ := D.mem hq
  have hca := List.all_eq_true.mp hc a ha
  rw [Bool.and_eq_true, Bool.and_eq_true] at hca
  have hdep := of_decide_eq_true hca.1.2
  have hab := List.all_eq_true.mp hca.2 b hb
  have e := (cmp2_I hab).1
  have ev : SrtO.lt2 (ltv h) p q = ltI (tok a) (tok b) := by
    show ltv h p.1 q.1 = _
    unfold ltv
    rw [dW_eq da, dW_eq db]
  rw [ev]
  obtain ⟨dA, as, ra⟩ := da.keeps hk
  obtain ⟨dB, bs, rb⟩ := db.keeps hk
  rcases hκ with ⟨rfl, ht⟩ | ⟨f, rfl, hf, hf2⟩
  · rw [PyProof.Rows.keyLt'_oneType]
    exact one_D (fun _ => ht a ha) dA dB e ra rb (by omega) ⟨rfl, rfl⟩
  · cases a with
    | tup xs =>
      cases b with
      | tup ys =>
        have e : ltDs xs ys = some (ltI (tok (.tup xs)) (tok (.tup ys))) := by simpa [ltD] using e
        have dA : isDs xs = true := dA
        have dB : isDs ys = true := dB
        rw [toD_tup (hasM_of_D dA)] at ra
        rw [toD_tup (hasM_of_D dB)] at rb
        revert ra rb
        generalize p.1 = u
        generalize q.1 = v
        intro ra rb
        cases ra with
        | @tuple l o vs n _ as₁ h1 h2 h3 h4 =>
          cases rb with
          | @tuple l' o' vs' n' _ bs₁ k1 k2 k3 k4 =>
            refine PySem.W.kat_lt h1 h3 k1 k3 ?_
            have e1 : vs.size = xs.length := by rw [← Array.length_toList, ReadsAll.length _ _ _ h4, toDs_len]
            have e2 : vs'.size = ys.length := by rw [← Array.length_toList, ReadsAll.length _ _ _ k4, toDs_len]
            rw [e1, e2]
            simp only [dep] at hdep
            refine kat_D xs ys _ 0 vs.toList vs'.toList _ _ dA dB e h4 k4 (by omega) (fun z _ x r ex => ?_) ⟨rfl, rfl⟩
            have := hf2 z _ ha
            rw [ex] at this
            exact this
      | _ => exact absurd rfl (hf _ hb)
    | _ => exact absurd rfl (hf _ ha)
theorem typ_int {M : Model} {h : Heap} {u : Value} {a : W} (d : DW h u a) (k : topK a = 1) : PySem.W.Looks M h (typeOf u) (.type "int") := by
  obtain ⟨_, as, r⟩ := d
  cases a with
  | int i => cases r; exact PySem.W.Looks.now
  | _ => simp [topK] at k
theorem typ_str {M : Model} {h : Heap} {u : Value} {a : W} (d : DW h u a) (k : topK a = 2) : PySem.W.Looks M h (typeOf u) (.type "str") := by
  obtain ⟨_, as, r⟩ := d
  cases a with
  | str i => cases r; exact PySem.W.Looks.now
  | _ => simp [topK] at k
theorem typ_tup {M : Model} {h : Heap} {u : Value} {a : W} (d : DW h u a) (k : topK a = 3) : PySem.W.Looks M h (typeOf u) (.type "tuple") := by
  obtain ⟨d, as, r⟩ := d
  cases a with
  | tup xs =>
    rw [toD_tup (hasM_of_D d)] at r
    cases r with
    | @tuple l o vs n _ as₁ h1 h2 h3 h4 => exact fun A Q E s k q => wpAny_typeOf_ref (k _ _ h1) (by rw [h2]; exact q)
  | _ => simp [topK] at k
/-- the first items -/
theorem firsts_D {h : Heap} {k : Nat} (hk : k ≠ 0) : ∀ {its : List Value} {ws : List W}, DWs h its ws → (∀ w ∈ ws, firstK w = k) → ∃ fs, PySem.W.KatTups h its fs ∧ fs.length = its.length ∧ ∀ f ∈ fs, ∃ x, DW h f x ∧ topK x = k
  | [], [], _, _ => ⟨[], trivial, rfl, by simp⟩
  | u :: us, w :: ws, D, hw => by
    obtain ⟨fs, h1, h2, h3⟩ := firsts_D hk D.2 fun z hz => hw z (List.mem_cons_of_mem _ hz)
    have hf := hw w List.mem_cons_self
    obtain ⟨d, as, r⟩ := D.1
    cases w with
    | tup xs =>
      cases xs with
      | nil => exact absurd hf.symm hk
      | cons x xs =>
        have d : isDs (x :: xs) = true := d
        rw [toD_tup (hasM_of_D d)] at r
        rw [isDs, Bool.and_eq_true] at d
        cases r with
        | @tuple l o vs n _ as₁ g1 g2 g3 g4 =>
          obtain ⟨vl⟩ := vs
          cases g4 with
          | @cons v0 vr _ _ a1 a2 r1 r2 =>
            refine ⟨v0 :: fs, .cons g1 g2 g3 (by simp) h1, by simp [h2], fun f hm => ?_⟩
            rcases List.mem_cons.mp hm with rfl | hm
            · exact ⟨x, ⟨d.1, _, r1⟩, hf⟩
            · exact h3 f hm
    | _ => exact absurd hf.symm hk
  | [], _ :: _, D, _ => D.elim
  | _ :: _, [], D, _ => D.elim
theorem all_of {f : W → Nat} {k : Nat} {ws : List W} (h : allK f k ws = true) : ∀ w ∈ ws, f w = k := fun w hw => by
  have := List.all_eq_true.mp h w hw
  simpa using this
theorem sortable_D {h : Heap} {s : Shared} {a : Addr} {its : List Value} {ws : List W} (D : DWs h its ws) (h2 : 2 ≤ its.length) (hh : homog ws = true) (hc : cmpAll ws = true) (hu : A.units + 58 < cLine)
    (hk : ∀ b o, h.get? b = some o → b ≠ a ∧ s.heap.get? b = some o) : SrtO.SortableO prog w A s a its (ltv h) := by
  intro h' keep
  have hk' : ∀ b o, h.get? b = some o → h'.get? b = some o := fun b o e => keep b o (hk b o e).1 (hk b o e).2
  have D' := D.keeps hk'
  have one : ∀ (T : Value) (k : Nat), k = 1 ∨ k = 2 → (T != Value.type "tuple") = true → (T == T) = true → (∀ {u : Value} {a : W}, DW h' u a → topK a = k → PySem.W.Looks (model prog w) h' (typeOf u) T) → (∀ w ∈ ws, topK w = k) → ∃ κ,
      (∀ (Q : PyProof.Rows.SortKind → Shared → Prop) (E : Value → Shared → Prop), Q κ { s with heap := h' } → wpAny (model prog w) A (keyKind' its.toArray) Q E { s with heap := h' }) ∧
      SrtO.Cmp prog w A { s with heap := h' } κ (fun p => p.1 ∈ its) (SrtO.lt2 (ltv h)) := by
    intro T k k12 t1 t2 ty hw
    refine ⟨oneType', fun Q E q => PySem.W.kas_kind h2 (fun v hv => ?_) t1 t2 q, cmp_D (s := { s with heap := h' }) hk' D hc hu (.inl ⟨rfl, fun w hm => by rw [hw w hm]; exact k12⟩)⟩
    obtain ⟨a, ha, da⟩ := D'.mem hv
    exact ty da (hw a ha)
  have two : ∀ (T : Value) (k : Nat), k ≠ 0 → (T == T) = true → ((T != Value.type "tuple") = true → k = 1 ∨ k = 2) → (∀ {u : Value} {a : W}, DW h' u a → topK a = k → PySem.W.Looks (model prog w) h' (typeOf u) T) → (∀ w ∈ ws, firstK w = k) → ∃ κ,
      (∀ (Q : PyProof.Rows.SortKind → Shared → Prop) (E : Value → Shared → Prop), Q κ { s with heap := h' } → wpAny (model prog w) A (keyKind' its.toArray) Q E { s with heap := h' }) ∧
      SrtO.Cmp prog w A { s with heap := h' } κ (fun p => p.1 ∈ its) (SrtO.lt2 (ltv h)) := by
    intro T k k0 t2 k12 ty hw
    obtain ⟨fs, f1, f2, f3⟩ := firsts_D k0 D' hw
    refine ⟨tuples' (T != Value.type "tuple"), fun Q E q => PySem.W.kat_kind f1 (by omega) (fun v hv => ?_) t2 q, cmp_D (s := { s with heap := h' }) hk' D hc hu (.inr ⟨_, rfl, fun w hm => by rw [hw w hm]; exact k0, fun z w hm => by rw [hw w hm]; exact k12 z⟩)⟩
    obtain ⟨x, dx, hx⟩ := f3 v hv
    exact ty dx hx
  unfold homog at hh
  simp only [Bool.or_eq_true] at hh
  rcases hh with (hh | hh) | (hh | hh) | hh
  · exact one (.type "int") 1 (.inl rfl) (by decide +kernel) (by rfl) typ_int (all_of hh)
  · exact one (.type "str") 2 (.inr rfl) (by decide +kernel) (by rfl) typ_str (all_of hh)
  · exact two (.type "int") 1 (by decide) (by rfl) (fun _ => .inl rfl) typ_int (all_of hh)
  · exact two (.type "str") 2 (by decide) (by rfl) (fun _ => .inr rfl) typ_str (all_of hh)
  · exact two (.type "tuple") 3 (by decide) (by rfl) (fun z => absurd z (by decide +kernel)) typ_tup (all_of hh)
end
section
variable {C : Rc} {E : XK} {X : Cx}
theorem Vals_DWs {pins : List (Addr × Obj)} {σ : L2.St} {H : Hp} {s : Shared} {r : List Addr} (hK : C.K = X.K) (I : Inv X pins σ H s) : ∀ {ws : List W} {vs : List V} {its : List Value}, (∀ w ∈ ws, isD w = true) → RepWs C H r ws vs → Vals vs its → DWs s.heap its ws ∧ ∀ u ∈ its, ∃ v, RelV v u ∧ RepW C H r (dW s.heap u) v
  | [], vs, its, _, q, rv => by
    obtain rfl := (show vs = [] from q)
    cases rv
    exact ⟨trivial, by simp⟩
  | w :: ws, vs, its, hd, q, rv => by
    obtain ⟨v, vr, rfl, p, q⟩ := q
    cases rv with
    | cons r1 r2 =>
      obtain ⟨h1, h2⟩ := Vals_DWs hK I (fun z hz => hd z (List.mem_cons_of_mem _ hz)) q r2
      have d := RepW.dp _ _ (hd w List.mem_cons_self) p
      rw [hK] at d
      obtain ⟨as, ra⟩ := Dp.reads I _ _ _ d r1
      have dw : DW s.heap _ w := ⟨hd w List.mem_cons_self, as, ra⟩
      refine ⟨⟨dw, h1⟩, fun u hu => ?_⟩
      rcases List.mem_cons.mp hu with rfl | hu
      · exact ⟨v, r1, by rw [dW_eq dw]; exact p⟩
      · exact h2 u hu
theorem out_vals {H : Hp} {r : List Addr} {f : Value → W} : ∀ {out : List Value}, (∀ u ∈ out, ∃ v, RelV v u ∧ RepW C H r (f u) v) → ∃ vs, Vals vs out ∧ RepWs C H r (out.map f) vs
  | [], _ => ⟨[], .nil, rfl⟩
  | u :: out, h => by
    obtain ⟨v, h1, h2⟩ := h u List.mem_cons_self
    obtain ⟨vs, h3, h4⟩ := out_vals fun z hz => h z (List.mem_cons_of_mem _ hz)
    exact ⟨v :: vs, .cons h1 h3, v, vs, rfl, h2, h4⟩
def rSort2 (C : Rc) (K : PySem.W.Frag) : List V → Hp → VK → Prop := fun xs H Q => ∃ a vs r M ws R, xs = [V.ref a] ∧ SqL K H a vs ∧ RepM C H r M ∧ RepWs C H r ws vs ∧ sortW ws = some R ∧ ∀ p vs', H p = none → RepWs C H r R vs' → Q (.ref p) (upd H p (.lst vs'))
theorem c_sorted (hK : C.K = X.K) (hu : X.A.units + 64 < cLine) : CallR X (.builtin "sorted") (rSort2 C X.K) := by
  intro pins s σ H xs us Q I rv ⟨a, vs, r, M, ws, R, e, sq, m, q, hs, hq⟩
  subst e
  obtain ⟨its, rv2, hl, hz⟩ := I.list sq
  obtain ⟨u, rfl, ru⟩ := vals1 rv
  obtain rfl : u = Value.ref a := ru
  unfold sortW at hs
  split at hs
  · rename_i hc
    rw [Bool.and_eq_true, Bool.and_eq_true] at hc
    obtain ⟨⟨hh, hc⟩, hmany⟩ := hc
    cases hs
    have hd : ∀ w ∈ ws, isD w = true := fun w hw => by
      have := List.all_eq_true.mp hc w hw
      rw [Bool.and_eq_true, Bool.and_eq_true] at this
      exact this.1.1
    have hc2 : ∀ a ∈ ws, ∀ b ∈ ws, cmp2 a b = true := fun a ha b hb => by
      have := List.all_eq_true.mp hc a ha
      rw [Bool.and_eq_true, Bool.and_eq_true] at this
      exact List.all_eq_true.mp this.2 b hb
    obtain ⟨D, hv⟩ := Vals_DWs hK I hd q rv2
    refine SrtO.sorted_ord (swo_v s.heap) hl.isList (by rw [← rv2.length]; exact hz) (fun h2 h₁ c hc' kk => ?_) fun out h1 h2 => ?_
    · exact sortable_D (s := { s with heap := h₁ }) D h2 hh hc (by show X.A.units + 1 + 1 + 58 < cLine; omega) kk
    · have hp : out.Perm its := h2.perm
      have e : out.map (dW s.heap) = srt ws := by
        refine srt_uniq hc2 ?_ ?_
        · rw [← D.map]
          exact hp.map _
        · rw [List.pairwise_map]
          exact h1
      obtain ⟨vs', g1, g2⟩ := out_vals (C := C) (H := H) (r := r) (f := dW s.heap) (out := out) fun u hu => hv u (hp.mem_iff.mp hu)
      rw [e] at g2
      obtain ⟨ep, he'⟩ := sortedAll_at s.heap its out.toArray
      have hlen : vs'.length ≤ sizeLine := by
        rw [g1.length, hp.length_eq, ← rv2.length]
        exact hz
      exact ⟨.ref _, upd H (s.heap.objs.size + 1) (.lst vs'), I.laid (t' := s.toks) (fun _ _ => sortedAll_old) (Nat.le_succ _) ⟨hlen, out, ep, g1, he'⟩, rfl, hq _ _ (I.hok.fresh (Nat.le_succ _)) g2⟩
  · cases hs
/-- a list that may be read -/
def Kq (C : Rc) (Q : VK) : KT (List W) := fun r H ws M => ∀ p vs H' r', Mono r r' H H' → RepM C H' r' M → RepWs C H' r' ws vs → SqL C.K H' p vs → Q (.ref p) H'
def tL (C : Rc) (E : XK) (m : LM) : TE := fun σ H Q => ∃ s M r, RepS C H r s σ ∧ RepM C H r M ∧ PG C E r H (m s M) (Kq C Q r H)
theorem Kq_cl {Q : VK} : Cl C (Kq C Q) := fun r r' H H' M' a M x m h p vs H2 r2 y m2 q hp => h p vs H2 r2 (x.trans m y) m2 q hp
theorem i_qF {e : Expr} {l : LM} (h : PE X e (tF C E l)) : PE X e (tL C E l) :=
  PE.imp h fun _ _ _ ⟨s, M, r, hs, hm, p⟩ => ⟨s, M, r, hs, hm, p.imp fun ws M1 e k a vs H1 r1 x1 m1 q1 ha hn h0 _ => k a vs H1 r1 x1 m1 q1 (.inl (.inl ha))⟩
theorem i_qOf {e : Expr} {m : EM} (h : PE X e (tE C E m)) : PE X e (tL C E (lstOf m)) :=
  PE.imp h fun _ _ _ ⟨_, _, _, hs, hm, p⟩ => tE_on Kq_cl hs hm p fun v H1 r1 M1 w x1 m1 q1 s1 p1 => by
    split at p1
    · exact p1.elim
    · rename_i nt
      cases e : items w M1 with
      | none => rw [e] at p1; exact p1.elim
      | some ws =>
        rw [e] at p1
        cases w with
        | tup ws => exact absurd rfl (nt _)
        | ref j =>
          unfold items at e
          dsimp only at e
          split at e
          · rename_i us hj
            cases e
            obtain ⟨a, vs, e, ha, h1, q⟩ := lst_at m1 q1 hj
            subst e
            exact p1 a vs H1 r1 (Mono.refl _ _) m1 q (.inl (.inl h1))
          · cases e
        | scr ns =>
          cases e
          obtain ⟨a, e, hl, hs⟩ := q1
          subst e
          exact p1 a _ H1 r1 (Mono.refl _ _) m1 (scr_reps ns) hs.seq
        | _ => cases e
theorem tL_on {β : Type} {m : LM} {f : List W → Mem → Out β} {K : KT β} {Q : VK} {σ : L2.St} {s : Sl} {H : Hp} {r : List Addr} {M : Mem} (cl : Cl C K) (hs : RepS C H r s σ) (hm : RepM C H r M) (h : PG C E r H (bnd (m s M) f) (K r H))
    (k : ∀ p vs H1 r1 M1 ws, Mono r r1 H H1 → RepM C H1 r1 M1 → RepWs C H1 r1 ws vs → SqL C.K H1 p vs → RepS C H1 r1 s σ → PG C E r1 H1 (f ws M1) (K r1 H1) → Q (.ref p) H1) : tL C E m σ H Q :=
  ⟨s, M, r, hs, hm, (h.fst cl).imp fun a M1 _ q p v H1 r1 x m1 y h1 => k p v H1 r1 M1 a x m1 y h1 (hs.go x hm) (q r1 H1 x m1)⟩
theorem i_sorted {x : Expr} {l : LM} {p pos : Pos} (hK : C.K = X.K) (hu : X.A.units + 64 < cLine) (hg : Gl X "sorted") (hm : X.mg "sorted" = none) (hv : bootBuiltins "sorted" = some (.builtin "sorted")) (h : PE X x (tL C E l)) (na : starEach [x] X.env = (false, eval x X.env) :: starEach [] X.env := by rfl) :
    PE X (.Call (.Name "sorted" p) [x] [] pos) (tF C E (lSorted l)) :=
  PE.imp (pe_callB (c_sorted hK hu) hg hm hv (pa_cons h pa_nil na) (he := na) (hpl := rfl)) fun σ H Q ⟨s, M, r, hs, hm, p⟩ => by
    have p2 := p.fst Kf_cl
    refine ⟨s, M, r, hs, hm, ?_⟩
    revert p2
    cases e : l s M with
    | none => intro p2; exact p2
    | some o =>
      obtain ⟨o, M1⟩ := o
      cases o with
      | error x => intro p2; exact p2
      | ok ws =>
        have p : PG C E r H (bnd (l s M) fun ws M => match sortW ws with
          | some r => ok r M
          | none => none) (Kf C Q r H) := p
        rw [e] at p
        have p : PG C E r H (match sortW ws with
          | some r => ok r M1
          | none => none) (Kf C Q r H) := p
        intro _
        intro a vs H1 r1 x1 m1 q1 sq
        cases eR : sortW ws with
        | none => rw [eR] at p; exact p.elim
        | some R =>
          rw [eR] at p
          rw [hK] at sq
          refine ⟨a, vs, r1, M1, ws, R, rfl, sq, m1, q1, eR, fun b vs' hb q' => ?_⟩
          refine p b vs' (upd H1 b (.lst vs')) r1 (x1.trans m1 (Mono.temp hb)) (m1.temp hb) (RepWs.go (Mono.temp hb) m1 _ _ q') upd_same (m1.new hb) (x1.none_back m1 hb) ?_
          unfold sortW at eR
          split at eR
          · rename_i hc
            rw [Bool.and_eq_true] at hc
            cases eR
            rw [(srt_perm ws).length_eq]
            exact of_decide_eq_true hc.2
          · cases eR
end
end Sw

set_option autoImplicit false
set_option Elab.async false
set_option linter.all false
set_option maxRecDepth 100000
/-! repr of tuples of data; its text tells the data. -/
namespace Sw
open PySem PySem.Spec L2
def rep (w : W) : Tx := (PyData.shown (toD w)).cps.toList
def uRepr : Op1 := fun x M => match x with
  | .tup ws => if isDs ws && decide (dep x ≤ 58) && PyData.showable (toD x) && many (rep x).length then ok (.str (rep x)) M else none
  | _ => none
mutual
theorem noDict : ∀ w : W, PyData.hasDict (toD w) = false
  | .non => rfl
  | .bl _ => rfl
  | .int _ => rfl
  | .str _ => rfl
  | .tup ws => by
    have h := noDicts ws
    unfold toD
    split
    · show PyData.hasDictAll (toDs ws).tail = false
      cases ws with
      | nil => rfl
      | cons w ws =>
        simp only [toDs, PyData.hasDictAll, Bool.or_eq_false_iff] at h
        exact h.2
    · exact h
  | .ref _ => rfl
  | .scr _ => rfl
theorem noDicts : ∀ ws : List W, PyData.hasDictAll (toDs ws) = false
  | [] => rfl
  | w :: ws => by
    simp only [toDs, PyData.hasDictAll, Bool.or_eq_false_iff]
    exact ⟨noDict w, noDicts ws⟩
end
section
variable {C : Rc} {E : XK} {X : Cx}
theorem c_repr (hK : C.K = X.K) (hu : X.A.units + 64 < cLine) (hg : X.A.guards = some []) : CallR X (.builtin "repr") (fun xs H Q => ∃ a, xs = [a] ∧ r1 C E uRepr a H Q) := by
  intro pins s σ H xs us Q I rv ⟨a, e, r, M, w, m, q, p⟩
  subst e
  obtain ⟨u, rfl, ru⟩ := vals1 rv
  cases w with
  | tup ws =>
    unfold uRepr at p
    dsimp only at p
    split at p
    · rename_i hc
      simp only [Bool.and_eq_true] at hc
      obtain ⟨⟨⟨hd, hdep⟩, hs⟩, hl⟩ := hc
      have hdep := of_decide_eq_true hdep
      have hl := of_decide_eq_true hl
      have dp := RepW.dp (.tup ws) a hd q
      rw [hK] at dp
      obtain ⟨as, ra⟩ := Dp.reads I _ _ _ dp ru
      obtain ⟨b, vs, ea, _, _⟩ := q
      subst ea
      obtain rfl : u = Value.ref b := ru
      have hz : (PyData.shown (toD (.tup ws))).length ≤ sizeLine := by
        have e : (PyData.shown (toD (.tup ws))).length = (rep (.tup ws)).length := (Array.length_toList (xs := (PyData.shown (toD (.tup ws))).cps)).symm
        rw [e]
        exact Nat.le_trans hl (by decide)
      refine repr_of_reads' ra hs (fun z => by rw [noDict] at z; cases z) hg ?_ (fun _ _ e => e) (fun h' t tk hk => ?_) hz
      · have := toD_depth (.tup ws)
        omega
      · exact ⟨.str (tx (rep (.tup ws))), H, I.kept (t' := tk) hk, ⟨t, by rw [show tx (rep (.tup ws)) = PyData.shown (toD (.tup ws)) from tx_cps _]⟩, p _ H r (Mono.refl _ _) m rfl⟩
    · exact p.elim
  | _ => exact p.elim
theorem i_repr {e : Expr} {m : EM} {p pos : Pos} (hK : C.K = X.K) (hu : X.A.units + 64 < cLine) (gd : X.A.guards = some []) (hg : Gl X "repr") (hm : X.mg "repr" = none) (hv : bootBuiltins "repr" = some (.builtin "repr")) (ha : PE X e (tE C E m))
    (hs : starEach [e] X.env = (false, eval e X.env) :: starEach [] X.env := by rfl) : PE X (.Call (.Name "repr" p) [e] [] pos) (tE C E (eUn uRepr m)) :=
  i_c1 (id := "repr") rfl (c_repr hK hu gd) hg hm hv ha (hs := hs)
end
end Sw

set_option autoImplicit false
set_option Elab.async false
set_option linter.all false
set_option maxRecDepth 100000
/-! Dicts locked while they are walked. -/
namespace Sw
open PySem PySem.Spec L2
section
variable {C : Rc} {E : XK} {X : Cx}
/-! ### a place that is no tuple, no script is changed -/
structure Oth (H : Hp) (d : Addr) : Prop where
  n1 : ∀ xs, H d ≠ some (.tup xs)
  n2 : ∀ b xs, H d ≠ some (.frz b (.tup xs))
  n3 : ∀ b xs, H d ≠ some (.frz b (.lst xs))
mutual
theorem RepW.chg {H : Hp} {r : List Addr} {d : Addr} {u : HO} (h : Oth H d) : ∀ (w : W) (v : V), RepW C H r w v → RepW C (upd H d u) r w v
  | .non, v, q => q
  | .bl _, v, q => q
  | .int _, v, q => q
  | .str _, v, q => q
  | .tup ws, v, q => by
    obtain ⟨a, vs, e, s, q⟩ := q
    refine ⟨a, vs, e, ?_, RepWs.chg h ws vs q⟩
    rcases s with (s | ⟨o, s⟩) | s
    · exact .inl (.inl (by rw [upd_ne fun e => h.n1 _ (e ▸ s)]; exact s))
    · exact .inl (.inr ⟨o, by rw [upd_ne fun e => h.n2 _ _ (e ▸ s)]; exact s⟩)
    · exact .inr s
  | .ref n, v, q => q
  | .scr ns, v, q => by
    obtain ⟨a, e, l, s⟩ := q
    refine ⟨a, e, l, ?_⟩
    rcases s with ⟨o, s⟩ | s
    · exact .inl ⟨o, by rw [upd_ne fun e => h.n3 _ _ (e ▸ s)]; exact s⟩
    · exact .inr s
theorem RepWs.chg {H : Hp} {r : List Addr} {d : Addr} {u : HO} (h : Oth H d) : ∀ (ws : List W) (vs : List V), RepWs C H r ws vs → RepWs C (upd H d u) r ws vs
  | [], vs, q => q
  | w :: ws, vs, q => by
    obtain ⟨v, vr, e, p, q⟩ := q
    exact ⟨v, vr, e, RepW.chg h w v p, RepWs.chg h ws vr q⟩
end
theorem PrA.chg {H : Hp} {r : List Addr} {d : Addr} {u : HO} (h : Oth H d) {kvs : List (W × W)} {xs : List (Key × V)} (q : PrA C H r kvs xs) : PrA C (upd H d u) r kvs xs := Paired.mapP q fun p y ⟨a, b⟩ => ⟨a, RepW.chg h _ _ b⟩
theorem PrT.chg {H : Hp} {r : List Addr} {d : Addr} {u : HO} (h : Oth H d) {kvs : List (W × W)} {xs : List (NestedKey × Addr × Value)} (q : PrT C H r kvs xs) : PrT C (upd H d u) r kvs xs := Paired.mapP q fun p y ⟨a, b, v, c, e⟩ => ⟨a, RepW.chg h _ _ b, v, RepW.chg h _ _ c, e⟩
theorem DicAt.chg {H : Hp} {r : List Addr} {d : Addr} {u : HO} (h : Oth H d) {lk : Bool} {kvs : List (W × W)} {a : Addr} (ne : a ≠ d) (q : DicAt C H r lk kvs a) : DicAt C (upd H d u) r lk kvs a := by
  have eq := upd_ne (H := H) (o := u) ne
  refine DicAt.mk q.few q.nd q.key ?_
  rcases q.obj with ⟨n, xs, e, z⟩ | ⟨n, n2, xs, e, z⟩
  · exact .inl ⟨n, xs, e.eq eq, z.chg h⟩
  · exact .inr ⟨n, n2, xs, e.eq eq, z.chg h⟩
theorem RepO.chg {H : Hp} {r : List Addr} {d : Addr} {u : HO} (h : Oth H d) {o : O} {a : Addr} (ne : a ≠ d) (q : RepO C H r o a) : RepO C (upd H d u) r o a := by
  have eq := upd_ne (H := H) (o := u) ne
  cases o with
  | lst ws => obtain ⟨vs, e, z⟩ := q; exact ⟨vs, eq.trans e, RepWs.chg h _ _ z⟩
  | dic kvs => exact DicAt.chg h ne q
  | dlk kvs => exact DicAt.chg h ne q
  | ins c fs => obtain ⟨dx, vs, e, z⟩ := q; exact ⟨dx, vs, eq.trans e, RepWs.chg h _ _ z⟩
theorem RepS.chg {H : Hp} {r : List Addr} {s : Sl} {σ : L2.St} {d : Addr} {u : HO} (h : Oth H d) (q : RepS C H r s σ) : RepS C (upd H d u) r s σ :=
  ⟨q.1, fun i w e => let ⟨v, e', p⟩ := q.2 i w e; ⟨v, e', RepW.chg h w v p⟩⟩
/-- the object at a place of the store is changed, whatever it was -/
theorem RepM.chg {H : Hp} {r : List Addr} {M : Mem} {d : Addr} {u : HO} {j : Nat} {o : O} (h : Oth H d) (hj : r[j]? = some d) (m : RepM C H r M) (q : RepO C (upd H d u) r o d) : RepM C (upd H d u) r (M.set j o) := by
  refine ⟨by simp [m.len], fun i a o' h1 h2 => ?_, m.nd⟩
  have hi : j < r.length := (List.getElem?_eq_some_iff.mp hj).1
  by_cases hij : j = i
  · subst hij
    rw [hj] at h1
    cases h1
    rw [List.getElem?_set_self (by rw [← m.len]; exact hi)] at h2
    cases h2
    exact q
  · rw [List.getElem?_set_ne hij] at h2
    refine RepO.chg h (fun e => hij ?_) (m.obj i a o' h1 h2)
    subst e
    exact (List.getElem?_inj hi m.nd).mp (hj.trans h1.symm)
/-- the lock of a dict -/
theorem lock_in {H : Hp} {r : List Addr} {M : Mem} {s : Sl} {σ : L2.St} {j : Nat} {kvs : List (W × W)} (hs : RepS C H r s σ) (m : RepM C H r M) (hj : M[j]? = some (.dic kvs)) : ∃ d u, r[j]? = some d ∧ H d = some u ∧ Mut (some u) ∧ frzH u = false ∧ (∀ od, Oth (upd H d (.frz od u)) d) ∧
    ∀ od, RepS C (upd H d (.frz od u)) r s σ ∧ RepM C (upd H d (.frz od u)) r (M.set j (.dlk kvs)) := by
  have hl : j < r.length := by rw [m.len]; exact (List.getElem?_eq_some_iff.mp hj).1
  have hr : r[j]? = some r[j] := List.getElem?_eq_getElem hl
  have d : DicAt C H r false kvs r[j] := m.obj j _ _ hr hj
  rcases d.obj with ⟨n, xs, e, z⟩ | ⟨n, n2, xs, e, z⟩
  · have e : H r[j] = some (.dK xs) := e
    have o : Oth H r[j] := ⟨(fun _ z => by rw [e] at z; cases z), (fun _ _ z => by rw [e] at z; cases z), (fun _ _ z => by rw [e] at z; cases z)⟩
    refine ⟨r[j], _, hr, e, True.intro, rfl, fun od => ⟨fun _ z => ?_, fun _ _ z => ?_, fun _ _ z => ?_⟩, fun od => ⟨hs.chg o, m.chg o hr ?_⟩⟩
    · rw [upd_same] at z; cases z
    · rw [upd_same] at z; cases z
    · rw [upd_same] at z; cases z
    · exact DicAt.mk d.few d.nd d.key (.inl ⟨n, xs, ⟨od, upd_same⟩, z.chg o⟩)
  · have e : H r[j] = some (.ext (RawT C r[j] xs)) := e
    have o : Oth H r[j] := ⟨(fun _ z => by rw [e] at z; cases z), (fun _ _ z => by rw [e] at z; cases z), (fun _ _ z => by rw [e] at z; cases z)⟩
    refine ⟨r[j], _, hr, e, True.intro, rfl, fun od => ⟨fun _ z => ?_, fun _ _ z => ?_, fun _ _ z => ?_⟩, fun od => ⟨hs.chg o, m.chg o hr ?_⟩⟩
    · rw [upd_same] at z; cases z
    · rw [upd_same] at z; cases z
    · rw [upd_same] at z; cases z
    · exact DicAt.mk d.few d.nd d.key (.inr ⟨n, n2, xs, ⟨od, upd_same⟩, z.chg o⟩)
/-- .. and what is behind it -/
theorem lock_out {H H' : Hp} {r r' : List Addr} {M M' : Mem} {j : Nat} {kvs : List (W × W)} {d : Addr} {u : HO} {od : Obj} (m : RepM C H r M) (hj : M[j]? = some (.dic kvs)) (hr : r[j]? = some d) (hu : H d = some u) (nu : frzH u = false)
    (x : Mono r r' (upd H d (.frz od u)) H') (m' : RepM C H' r' M') (hM : M'[j]? = some (.dlk kvs)) :
    H' d = some (.frz od u) ∧ Oth H' d ∧ Mono r r' H (upd H' d u) ∧ RepM C (upd H' d u) r' (M'.set j (.dic kvs)) := by
  have e1 : H' d = some (.frz od u) := x.keep d _ upd_same (.inr rfl)
  have hr' := x.ix hr
  have d0 : DicAt C H r false kvs d := m.obj j d _ hr hj
  have d1 : DicAt C H' r' true kvs d := m'.obj j d _ hr' hM
  have nt : (∀ xs, u ≠ .tup xs) ∧ ∀ xs, u ≠ .lst xs := by
    rcases d0.obj with ⟨n, xs, e, z⟩ | ⟨n, n2, xs, e, z⟩
    · cases hu.symm.trans (show H d = some (.dK xs) from e); exact ⟨(fun _ z => nomatch z), (fun _ z => nomatch z)⟩
    · cases hu.symm.trans (show H d = some (.ext (RawT C d xs)) from e); exact ⟨(fun _ z => nomatch z), (fun _ z => nomatch z)⟩
  have nt0 : ∀ xs, H' d ≠ some (.tup xs) := fun xs z => by rw [e1] at z; cases z
  have nt1 : ∀ b xs, H' d ≠ some (.frz b (.tup xs)) := fun b xs z => by
    rw [e1] at z
    cases z
    exact nt.1 _ rfl
  have nt2 : ∀ b xs, H' d ≠ some (.frz b (.lst xs)) := fun b xs z => by
    rw [e1] at z
    cases z
    exact nt.2 _ rfl
  have o : Oth H' d := ⟨(fun _ z => nt0 _ z), (fun _ _ z => nt1 _ _ z), (fun _ _ z => nt2 _ _ z)⟩
  refine ⟨e1, o, ⟨?_, fun a q h hq => ?_⟩, m'.chg o hr' ?_⟩
  · obtain ⟨t, et, ht⟩ := x.pre
    refine ⟨t, et, fun a ha => ?_⟩
    have h := ht a ha
    rw [upd_ne fun z => by rw [z, upd_same] at h; cases h] at h
    exact h
  · by_cases hd : a = d
    · subst hd
      rcases hq with hq | hq
      · exact absurd (List.mem_of_getElem? hr) hq
      · rw [hu] at h
        cases h
        rw [nu] at hq
        cases hq
    · rw [upd_ne hd]
      exact x.keep a q (by rw [upd_ne hd]; exact h) hq
  · refine DicAt.mk d1.few d1.nd d1.key ?_
    rcases d1.obj with ⟨n, xs, ⟨o1, e⟩, z⟩ | ⟨n, n2, xs, ⟨o1, e⟩, z⟩
    · rw [e1] at e
      cases e
      exact .inl ⟨n, xs, upd_same, z.chg o⟩
    · rw [e1] at e
      cases e
      exact .inr ⟨n, n2, xs, upd_same, z.chg o⟩
theorem lockAt_some {md : EM} {s : Sl} {M : Mem} {j : Nat} {kvs : List (W × W)} (h : lockAt md s M = some (j, kvs)) : M[j]? = some (.dic kvs) := by
  unfold lockAt at h
  split at h
  · split at h
    · split at h
      · rename_i hj
        cases h
        exact hj
      · cases h
    · cases h
  · cases h
theorem PElock.both {e : Expr} {t1 t2 t : TE} (h1 : PE X e t1) (h2 : PE X e t2) (h : ∀ σ H Q, t σ H Q → t1 σ H Q ∨ t2 σ H Q) : PE X e t :=
  ⟨fun pins s σ H Q I q => (h σ H Q q).elim (h1.run pins s σ H Q I) (h2.run pins s σ H Q I)⟩
/-- a comprehension over a dict -/
theorem i_lockF {e : Expr} {md : EM} {l : LM} (h : PE X e (tF C E l)) : PE X e (tF C E (lLock md l)) :=
  PElock.both (pe_lock h) h fun σ H Q ⟨s, M, r, hs, hm, p⟩ => by
    cases eL : lockAt md s M with
    | none =>
      refine .inr ⟨s, M, r, hs, hm, ?_⟩
      unfold lLock at p
      rw [eL] at p
      exact p
    | some q =>
      obtain ⟨j, kvs⟩ := q
      left
      unfold lLock at p
      rw [eL] at p
      dsimp only at p
      have hj := lockAt_some eL
      obtain ⟨d, u, hr, hu, mu, nu, ho, hin⟩ := lock_in hs hm hj
      refine ⟨d, u, hu, mu, fun od => ?_⟩
      obtain ⟨s1, m1⟩ := hin od
      refine ⟨s, M.set j (.dlk kvs), r, s1, m1, ?_⟩
      split at p
      · rename_i R M' eb
        rw [eb]
        split at p
        · rename_i hM
          have p : Kf C Q r H R (M'.set j (.dic kvs)) := p
          intro a vs H' r' x' m' q' ha hn h0 hl
          obtain ⟨e1, o, y1, y2⟩ := lock_out hm hj hr hu nu x' m' hM
          have hne : a ≠ d := fun z => by rw [z, upd_same] at h0; cases h0
          refine ⟨e1, p a vs _ r' y1 y2 (RepWs.chg o _ _ q') (by rw [upd_ne hne]; exact ha) hn (by rw [upd_ne hne] at h0; exact h0) hl⟩
        · exact p.elim
      · exact p.elim
/-- for .. over a dict -/
theorem i_lockS {st : Stmt} {md : EM} {b : SM} (h : PS X st (tS C E b)) : PS X st (tS C E (lLock md b)) :=
  ⟨fun pins s0 σ H D I ⟨s, M, r, hs, hm, p⟩ => by
    cases eL : lockAt md s M with
    | none =>
      refine h.run pins s0 σ H D I ⟨s, M, r, hs, hm, ?_⟩
      unfold lLock at p
      rw [eL] at p
      exact p
    | some q =>
      obtain ⟨j, kvs⟩ := q
      refine (ps_lock h).run pins s0 σ H D I ?_
      unfold lLock at p
      rw [eL] at p
      dsimp only at p
      have hj := lockAt_some eL
      obtain ⟨d, u, hr, hu, mu, nu, ho, hin⟩ := lock_in hs hm hj
      refine ⟨d, u, hu, mu, fun od => ?_⟩
      obtain ⟨s1, m1⟩ := hin od
      refine ⟨s, M.set j (.dlk kvs), r, s1, m1, ?_⟩
      split at p
      · rename_i R M' eb
        rw [eb]
        split at p
        · rename_i hM
          cases R with
          | nx s' =>
            intro σ' H' r' x' m' q'
            obtain ⟨e1, o, y1, y2⟩ := lock_out hm hj hr hu nu x' m' hM
            exact ⟨e1, p σ' _ r' y1 y2 (RepS.chg o q')⟩
          | rt w =>
            intro v H' r' x' m' q'
            obtain ⟨e1, o, y1, y2⟩ := lock_out hm hj hr hu nu x' m' hM
            exact ⟨e1, p v _ r' y1 y2 (RepW.chg o _ _ q')⟩
        · exact p.elim
      · exact p.elim⟩
/-! ### the keys -/
/-- the raw keys of a locked dict by tuples -/
def Itx (C : Rc) (d : Addr) (o : Obj) (xs : List (NestedKey × Addr × Value)) : L2.It :=
  ⟨fun i H => H d = some (.frz o (.ext (RawT C d xs))) ∧ i < xs.length, fun i H x H' => H' = H ∧ ∃ p, xs[i]? = some p ∧ x = .ref p.2.1, fun i H => H d = some (.frz o (.ext (RawT C d xs))) ∧ xs.length ≤ i⟩
theorem raw_at {P : Program} {w : World} {H : Hp} {h : Heap} {d : Addr} {o : Obj} {xs : List (NestedKey × Addr × Value)} (ok : HOk P w H h) (e : H d = some (.frz o (.ext (RawT C d xs)))) : h.get? d = some o ∧ o.ExactDict ∧ ∃ (es : Array DictEntry) (ep : Nat), o.data = .dict es ep ∧ es.size = xs.length ∧
    ∀ (i : Nat) (p : NestedKey × Addr × Value), xs[i]? = some p → es[i]? = some (⟨p.1.hash C.w, .ref p.2.1, p.2.2⟩ : DictEntry) := by
  obtain ⟨h1, ⟨o', es, ep, h2, h3, h4, h5⟩, _⟩ := ok d _ e
  rw [h1] at h2
  cases h2
  refine ⟨h1, h3, es, ep, h4, by rw [← Array.length_toList, h5, List.length_map], fun i p hp => ?_⟩
  rw [← Array.getElem?_toList, h5, List.getElem?_map, hp]
  rfl
theorem turn_x {P : Program} {w : World} {K : PySem.W.Frag} {tg : Expr} {d : Addr} {o : Obj} {es : Array DictEntry} {ep : Nat} {xs : List (NestedKey × Addr × Value)} (it : Addr) (hod : o.data = .dict es ep) :
    Turn P w K tg (Itx C d o xs) [it] it (fun i h => h.IsKeyIter it d i xs.length ep) where
  mem := by simp
  obj := fun i h st b hb => by
    obtain rfl : b = it := by simpa using hb
    obtain ⟨oi, e, c, dd⟩ := st
    exact ⟨oi, e, fun v z => by rw [dd] at z; cases z⟩
  keep := fun i h h' st k => st.at fun oi e => k it (by simp) oi e
  item := by
    intro Y hP hw hK hc i pins s σ H E I hf st hg
    subst hP hw hK
    obtain ⟨hd, hi⟩ := hg
    obtain ⟨f0, f1, f2, f3, f4, f5⟩ := hf it (by simp)
    obtain ⟨hgd, hx, es', ep', hdt, hsz, ent⟩ := raw_at I.hok hd
    obtain ⟨rfl, rfl⟩ := dict_ep hod hdt
    have hp := List.getElem?_eq_getElem hi
    refine next_key_item st hgd hdt hsz (ent i _ hp) fun h' st' sb => ?_
    have I1 : Inv Y pins σ H { s with heap := h' } := I.turned (t' := s.toks) (fun b ob hb e => (sb.2 b hb).trans e) f0 f1 f3 f4 f5
    obtain ⟨oi, e, c, dd⟩ := id st'
    exact ⟨_, rfl, go_of (s := { s with heap := h' }) e c dd (by decide) ⟨.ref xs[i].2.1, H, I1, rfl, ⟨rfl, _, hp, rfl⟩, st', fun b hb => (hf b hb).1⟩⟩
  done := by
    intro Y hP hw hK hc i pins s σ H E I hf st hg
    subst hP hw hK
    obtain ⟨hd, hi⟩ := hg
    obtain ⟨f0, f1, f2, f3, f4, f5⟩ := hf it (by simp)
    obtain ⟨hgd, hx, es', ep', hdt, hsz, ent⟩ := raw_at I.hok hd
    obtain ⟨rfl, rfl⟩ := dict_ep hod hdt
    exact next_key_end (I.ok.hd hc) st hgd hdt hsz hi fun h' eb => ⟨rfl, I.turned (t' := s.toks) (fun b ob hb e => eb b ob hb e) f0 f1 f3 f4 f5⟩
  self := fun A i s Q E st h => wpAny_pyIter_keyiter st h
theorem Paired.ix {α β : Type} {R : α → β → Prop} : ∀ {l : List α} {m : List β} {i : Nat} {a : α}, Paired R l m → l[i]? = some a → ∃ b, m[i]? = some b ∧ R a b
  | _, _, _, _, .nil, h => by simp at h
  | _, _, 0, _, .cons p _, h => by simp at h; subst h; exact ⟨_, rfl, p⟩
  | _, _, i + 1, _, .cons _ t, h => by
    obtain ⟨b, h1, h2⟩ := Paired.ix (i := i) t (by simpa using h)
    exact ⟨b, by simpa using h1, h2⟩
theorem i_keys {tg e : Expr} {m : EM} (hK : C.K = X.K) (h : PE X e (tE C E m)) : PI X tg e (tI C E (iKeysD m)) := by
  refine ⟨fun pins s σ H R I ⟨s0, M, r, hs, hm, p⟩ => ?_⟩
  have rd : tE C E m σ H (fun x H1 => ∃ d o, x = .ref d ∧ ((∃ xs, H1 d = some (.frz o (.dK xs)) ∧ R (Itk d o xs) H1) ∨ ∃ xs, (d == sysModules) = false ∧ H1 d = some (.frz o (.ext (RawT C d xs))) ∧ R (Itx C d o xs) H1)) :=
    tE_on Ki_cl hs hm p fun v H1 r1 M1 w x1 m1 q1 s1 p1 => by
      cases w with
      | ref j =>
        dsimp only at p1
        split at p1
        · rename_i kvs hj
          obtain ⟨d, ev, hd⟩ := q1
          have dd : DicAt C H1 r1 true kvs d := m1.obj j d _ hd hj
          rcases dd.obj with ⟨n, xs, ⟨o, e⟩, z⟩ | ⟨n, n2, xs, ⟨o, e⟩, z⟩
          · refine ⟨d, o, ev, .inl ⟨xs, e, p1 _ H1 r1 (Mono.refl _ _) m1 fun r2 H2 M2 y m2 hst => ?_⟩⟩
            have e2 := y.keep d _ e (.inr rfl)
            have hl : kvs.length = xs.length := Paired.length z
            refine ⟨fun i w hi => ?_, e2, by rw [List.length_map, hl]; exact Nat.le_refl _⟩
            rw [List.getElem?_map] at hi
            cases ek : kvs[i]? with
            | none => rw [ek] at hi; cases hi
            | some kv =>
              rw [ek] at hi
              cases hi
              obtain ⟨x, hx, k1, k2⟩ := Paired.ix z ek
              refine ⟨⟨e2, (List.getElem?_eq_some_iff.mp hx).1⟩, fun x' H' ⟨e3, k, v', e4, e5⟩ => ?_⟩
              subst e3 e5
              rw [hx] at e4
              cases e4
              refine ⟨Mono.refl _ _, m2, ?_⟩
              have hk := (dd.key kv (List.mem_of_getElem? ek)).1
              have ht := n kv (List.mem_of_getElem? ek)
              obtain ⟨kw, kv'⟩ := kv
              dsimp only at k1 hk ht ⊢
              subst k1
              cases kw with
              | int i => rfl
              | str t => rfl
              | tup _ => simp [isT] at ht
              | _ => simp [isK] at hk
          · refine ⟨d, o, ev, .inr ⟨xs, n2, e, p1 _ H1 r1 (Mono.refl _ _) m1 fun r2 H2 M2 y m2 hst => ?_⟩⟩
            have e2 := y.keep d _ e (.inr rfl)
            have hl : kvs.length = xs.length := Paired.length z
            refine ⟨fun i w hi => ?_, e2, by rw [List.length_map, hl]; exact Nat.le_refl _⟩
            rw [List.getElem?_map] at hi
            cases ek : kvs[i]? with
            | none => rw [ek] at hi; cases hi
            | some kv =>
              rw [ek] at hi
              cases hi
              obtain ⟨x, hx, k1, k2, v, k3, k4⟩ := Paired.ix z ek
              refine ⟨⟨e2, (List.getElem?_eq_some_iff.mp hx).1⟩, fun x' H' ⟨e3, p, e4, e5⟩ => ?_⟩
              subst e3 e5
              rw [hx] at e4
              cases e4
              exact ⟨Mono.refl _ _, m2, RepW.go y m1 _ _ k2⟩
        · exact p1.elim
      | _ => exact p1.elim
  refine thn (h.run pins s σ H _ I rd) fun v s1 ⟨x, H1, I1, rx, d, o, ex, q1⟩ => ?_
  subst ex
  obtain rfl : v = Value.ref d := rx
  rcases q1 with ⟨xs, hd, q⟩ | ⟨xs, hsm, hd, q⟩
  · obtain ⟨hs, hgd, hx, es, ep, vs, hdt, hsz, kv, hm⟩ := I1.frzK hd
    refine iter_keys hs hgd hx hdt (pi_one (tk := s1.toks) I1 _ (turn_keys _ hdt) ⟨_, Heap.get?_push_size _ rfl, rfl, ?_⟩ q)
    rw [hsz] <;> rfl
  · obtain ⟨hgd, hx, es, ep, hdt, hsz, ent⟩ := raw_at I1.hok hd
    refine iter_keys hsm hgd hx hdt (pi_one (tk := s1.toks) I1 _ (turn_x _ hdt) ⟨_, Heap.get?_push_size _ rfl, rfl, ?_⟩ q)
    rw [hsz] <;> rfl
end
end Sw

set_option autoImplicit false
set_option Elab.async false
set_option linter.all false
set_option maxRecDepth 100000
/-! Rules with what the printer leaves to Lean. -/
namespace Sw
open PySem PySem.Spec L2
section
variable {C : Rc} {E : XK} {X : Cx}
theorem i_v (i : Nat) {x : Str} {pos : Pos} (hN : X.N[i]? = some x := by rfl) (hv : Vis X.env.scope x := by first | exact Or.inl rfl | exact Or.inr (Or.inl rfl) | exact Or.inr (Or.inr rfl)) (hd : (x == ("__debug__" : Str)) = false := by decide)
    (hcd : (x == ("__classdict__" : Str)) = false := by decide) : PE X (.Name x pos) (tE C E (eV i)) := i_V hN hv hd hcd
theorem i_g (i : Nat) {x : Str} {pos : Pos} (hN : X.N.Nodup) (hi : X.N[i]? = some x := by rfl) (hx : Loc X.env.scope x := by first | exact Or.inl rfl | exact Or.inr rfl) (hf : X.fn x = true ∨ X.env.scope.names.lookup x = some .local := by first | exact .inl rfl | exact .inr rfl) :
    L2.PG X (.Name x pos) (gP C (.one i)) := i_gn hN hi hx hf
theorem i_gs (i : Nat) {x : Str} {pos : Pos} {es : List Expr} {is : List Nat} (hN : X.N.Nodup) (h2 : L2.PGs X es (gPs C is)) (hi : X.N[i]? = some x := by rfl) (hx : Loc X.env.scope x := by first | exact Or.inl rfl | exact Or.inr rfl)
    (hf : X.fn x = true ∨ X.env.scope.names.lookup x = some .local := by first | exact .inl rfl | exact .inr rfl) (hs : (assignEach (.Name x pos :: es) X.env).map (·.2) = assign (.Name x pos) X.env :: (assignEach es X.env).map (·.2) := by rfl) :
    L2.PGs X (.Name x pos :: es) (gPs C (i :: is)) := i_gcons hN hi hx h2 hf hs
theorem i_st (i : Nat) {x : Str} {e : Expr} {m : EM} {pos pos' : Pos} (hN : X.N.Nodup) (he : PE X e (tE C E m)) (hi : X.N[i]? = some x := by rfl) (hx : Loc X.env.scope x := by first | exact Or.inl rfl | exact Or.inr rfl)
    (hs : swapsWith e (some (.Name x pos')) pos.line X.env = pure false := by rfl) (hf : X.fn x = true ∨ X.env.scope.names.lookup x = some .local := by first | exact .inl rfl | exact .inr rfl) : PS X (.Assign [.Name x pos'] e pos) (tS C E (sAsg (.one i) m)) := i_set hN hi hx he hs hf
/-! ### comprehensions -/
theorem i_lc {elt tg iter : Expr} {ifs : List Expr} {scope : Scope} {own : List (Str × Nat)} {pos : Pos} {mi : IM} {p : Pat} {c e : EM} (hc : X.calm = true) (hN : X.N.Nodup) (hi : PI X tg iter (tI C E mi)) (ok : BlkOk X.N X.env.scope scope own)
    (hg : ∀ (s : Shared) (H : Hp) (Q : Addr) (cl : List (Str × Addr)) (fp : List Addr), L2.PG (X.blk s H scope (compEnvC scope cl Q X.env) fp) tg (gP C p))
    (ht : ∀ (s : Shared) (H : Hp) (Q : Addr) (cl : List (Str × Addr)) (fp : List Addr), PTs (X.blk s H scope (compEnvC scope cl Q X.env) fp) ifs (tT C E0 c))
    (he : ∀ (s : Shared) (H : Hp) (Q : Addr) (cl : List (Str × Addr)) (fp : List Addr), PE (X.blk s H scope (compEnvC scope cl Q X.env) fp) elt (tE C E0 e))
    (hv : ∀ v ∈ own.map (·.2), v ∈ ownP p) (hp : ∀ v ∈ ownP p, v ∈ own.map (·.2)) (hs : ∀ x, foldedSetIterable iter X.env x = pure x := by intro _; rfl) :
    PE X (.ListComp elt [⟨tg, iter, ifs, 0⟩] scope pos) (tF C E (lComp mi p c e)) :=
  PE.imp (pe_lc hc hN hi ok hg ht he hs) fun σ H Q h => lc_pure hv hp h
theorem PS.of {st : Stmt} {t t' : TS} (h : PS X st t) (f : ∀ D σ H, t' D σ H → t D σ H) : PS X st t' := ⟨fun pins s σ H D I q => h.run pins s σ H D I (f D σ H q)⟩
theorem set_new {l : LM} {i : Nat} {D : Ends} {σ : L2.St} {H : Hp} (h : tS C E (sAsg (.one i) (eNew l)) D σ H) : tF C E l σ H fun x H1 => D.nx (σ.set i (some x)) H1 := by
  obtain ⟨s, M, r, hs, hm, p⟩ := h
  refine ⟨s, M, r, hs, hm, ?_⟩
  cases e : l s M with
  | none =>
    have e2 : sAsg (.one i) (eNew l) s M = none := by simp [sAsg, eNew, e, bnd]
    rw [e2] at p
    exact p.elim
  | some o =>
    obtain ⟨o, M1⟩ := o
    cases o with
    | error x =>
      have e2 : sAsg (.one i) (eNew l) s M = some (.error x, M1) := by simp [sAsg, eNew, e, bnd]
      rw [e2] at p
      exact p
    | ok ws =>
      have e2 : sAsg (.one i) (eNew l) s M = some (.ok (.nx (setS s i (.ref M1.length))), M1 ++ [O.lst ws]) := by simp [sAsg, eNew, e, bnd, Sw.alloc, ok, bindP]
      rw [e2] at p
      intro a vs H1 r1 x1 m1 q1 ha hn h0 hl
      exact p _ H1 (r1 ++ [a]) (x1.take h0) (m1.take ha q1 hn) (RepS.put (RepS.go (x1.take h0) hm hs) ⟨a, rfl, by rw [← m1.len, List.getElem?_append_right (Nat.le_refl _)]; simp⟩)
theorem i_stLc (i : Nat) {y : Str} {py : Pos} {elt tg iter : Expr} {ifs : List Expr} {scope : Scope} {own : List (Str × Nat)} {pos spos : Pos} {mi : IM} {p : Pat} {c e : EM} (hc : X.calm = true) (hN : X.N.Nodup) (hi : PI X tg iter (tI C E mi)) (ok : BlkOk X.N X.env.scope scope own)
    (hg : ∀ (s : Shared) (H : Hp) (Q : Addr) (cl : List (Str × Addr)) (fp : List Addr), L2.PG (X.blk s H scope (compEnvC scope cl Q X.env) fp) tg (gP C p))
    (ht : ∀ (s : Shared) (H : Hp) (Q : Addr) (cl : List (Str × Addr)) (fp : List Addr), PTs (X.blk s H scope (compEnvC scope cl Q X.env) fp) ifs (tT C E0 c))
    (he : ∀ (s : Shared) (H : Hp) (Q : Addr) (cl : List (Str × Addr)) (fp : List Addr), PE (X.blk s H scope (compEnvC scope cl Q X.env) fp) elt (tE C E0 e))
    (hv : ∀ v ∈ own.map (·.2), v ∈ ownP p) (hp : ∀ v ∈ ownP p, v ∈ own.map (·.2))
    (hsw : swapsWith (.ListComp elt [⟨tg, iter, ifs, 0⟩] scope pos) (some (.Name y py)) spos.line X.env = pure true)
    (hy : X.N[i]? = some y := by rfl) (hyl : X.env.scope.names.lookup y = some .local := by rfl) (hs : ∀ x, foldedSetIterable iter X.env x = pure x := by intro _; rfl) :
    PS X (.Assign [.Name y py] (.ListComp elt [⟨tg, iter, ifs, 0⟩] scope pos) spos) (tS C E (sAsg (.one i) (eNew (lComp mi p c e)))) :=
  PS.of (ps_setLc hc hN hy hyl hsw hi ok hg ht he hs) fun D σ H h => lc_pure hv hp (set_new h)
/-! ### < -/
theorem o_lt (hK : C.K = X.K) (hu : X.A.units + 64 < cLine) : OpR X (compareOp .Lt) (r2 C E oLt) := by
  intro pins s σ H x y v u Q I rx ry ⟨r, M, a, b, m, qa, qb, p⟩
  have p : PG C E r H (eqOut M (if isD a && isD b && decide (dep a ≤ 60) && decide (dep b ≤ 60) then ltD a b else none)) (Kv C Q r H) := p
  split at p
  · rename_i hc
    simp only [Bool.and_eq_true] at hc
    obtain ⟨⟨⟨da, db⟩, ha⟩, hb⟩ := hc
    have ha := of_decide_eq_true ha
    cases e : ltD a b with
    | none => rw [e] at p; exact p.elim
    | some c =>
      rw [e] at p
      have pa := RepW.dp a x da qa
      have pb := RepW.dp b y db qb
      rw [hK] at pa pb
      obtain ⟨as, ra⟩ := Dp.reads I _ _ _ pa rx
      obtain ⟨bs, rb⟩ := Dp.reads I _ _ _ pb ry
      exact rl_D a b c X.A s v u as bs da db e ra rb (by have := Nat.min_le_left (dep a) (dep b); omega) X.prog X.w X.xe _ ⟨.bl c, H, I, rfl, eqOut_go m rfl p⟩
  · exact p.elim
/-! ### chains of comparisons -/
theorem i_tchain {op op' : CmpOp} {f f' : Op2} {a b c : Expr} {ma mb mc : EM} {pos : Pos} (ho : OpR X (compareOp op) (r2 C E f)) (ho' : OpR X (compareOp op') (r2 C E f')) (ha : PE X a (tE C E ma)) (hb : PE X b (tE C E mb)) (hc : PE X c (tE C E mc))
    (hm : lastMarks [op, op'] [b, c] = false := by with_unfolding_all rfl) : PT X (.Compare a [op, op'] [b, c] pos) (tT C E fun s M => bnd (ma s M) fun x M => bnd (mb s M) fun y M => bnd (f x y M) fun k M => match k with
      | .bl true => bnd (mc s M) fun z M => f' y z M
      | .bl false => ok (.bl false) M
      | _ => none) :=
  PT.imp (pt_chain ho ho' ha hb hc hm) fun σ H Q ⟨s, M, r, hs, hm, p⟩ => by
    refine tE_on Kb_cl hs hm p fun x H1 r1 M1 w1 x1 m1 q1 s1 p1 => tE_on Kb_cl s1 m1 p1 fun y H2 r2 M2 w2 x2 m2 q2 s2 p2 => ?_
    have q1' := RepW.go x2 m1 _ _ q1
    refine ⟨r2, M2, w1, w2, m2, q1', q2, (p2.fst Kb_cl).imp fun k M3 _ g z H3 r3 x3 m3 qz => ?_⟩
    have g := g r3 H3 x3 m3
    cases k with
    | bl k =>
      refine ⟨k, qz, ?_⟩
      cases k with
      | false =>
        obtain ⟨b, e, g⟩ := g
        cases e
        exact iteF ⟨false, rfl, g H3 r3 (Mono.refl _ _) m3⟩
      | true =>
        refine iteT (tE_on Kb_cl (s2.go x3 m2) m3 g fun z H4 r4 M4 w3 x4 m4 q4 s4 p4 => ⟨r4, M4, w2, w3, m4, RepW.go x4 m3 _ _ (RepW.go x3 m2 _ _ q2), q4, p4.imp fun w M5 _ ⟨b, e, g⟩ v H5 r5 x5 m5 q5 => ?_⟩)
        subst e
        exact ⟨b, q5, g H5 r5 x5 m5⟩
    | _ => exact g.elim
end
end Sw

set_option autoImplicit false
/-! Which built-in stands behind a name. -/
namespace Sw.PyB
open PySem
theorem b_len : bootBuiltins "len" = some (.builtin "len") := by decide +kernel
theorem b_repr : bootBuiltins "repr" = some (.builtin "repr") := by decide +kernel
theorem b_sorted : bootBuiltins "sorted" = some (.builtin "sorted") := by decide +kernel
theorem b_all : bootBuiltins "all" = some (.builtin "all") := by decide +kernel
theorem b_any : bootBuiltins "any" = some (.builtin "any") := by decide +kernel
theorem b_sum : bootBuiltins "sum" = some (.builtin "sum") := by decide +kernel
theorem b_abs : bootBuiltins "abs" = some (.builtin "abs") := by decide +kernel
theorem b_min : bootBuiltins "min" = some (.builtin "min") := by decide +kernel
theorem b_max : bootBuiltins "max" = some (.builtin "max") := by decide +kernel
theorem b_list : bootBuiltins "list" = some (.type "list") := by decide +kernel
theorem b_tuple : bootBuiltins "tuple" = some (.type "tuple") := by decide +kernel
theorem b_bool : bootBuiltins "bool" = some (.type "bool") := by decide +kernel
theorem b_int : bootBuiltins "int" = some (.type "int") := by decide +kernel
theorem b_str : bootBuiltins "str" = some (.type "str") := by decide +kernel
theorem b_dict : bootBuiltins "dict" = some (.type "dict") := by decide +kernel
end Sw.PyB

set_option autoImplicit false
set_option linter.all false
/-! How a pure body is gone through. -/
namespace Sw
/-- it comes out well, and so -/
def Ok {α : Type} (o : Out α) (Q : α → Mem → Prop) : Prop := ∃ a M, o = some (.ok a, M) ∧ Q a M
theorem Ok.mono {α : Type} {o : Out α} {Q Q' : α → Mem → Prop} (h : Ok o Q) (f : ∀ a M, Q a M → Q' a M) : Ok o Q' := let ⟨a, M, e, q⟩ := h; ⟨a, M, e, f a M q⟩
theorem Ok.eq {α : Type} {o : Out α} {a : α} {M : Mem} {Q : α → Mem → Prop} (e : o = some (.ok a, M)) (q : Q a M) : Ok o Q := ⟨a, M, e, q⟩
theorem Ok.of_eq {α : Type} {o : Out α} {a : α} {M : Mem} (h : Ok o fun b N => b = a ∧ N = M) : o = some (.ok a, M) := by
  obtain ⟨b, N, e, rfl, rfl⟩ := h
  exact e
section
variable {α β : Type} {Q : α → Mem → Prop} {M : Mem} {s : Sl}
@[simp] theorem Ok_ok (a : α) : Ok (ok a M) Q ↔ Q a M := by
  constructor
  · rintro ⟨b, N, e, q⟩
    cases e
    exact q
  · exact fun q => ⟨a, M, rfl, q⟩
@[simp] theorem Ok_some (a : α) : Ok (some (.ok a, M)) Q ↔ Q a M := Ok_ok a
@[simp] theorem Ok_none : Ok (none : Out α) Q ↔ False := ⟨(fun ⟨_, _, e, _⟩ => nomatch e), False.elim⟩
@[simp] theorem Ok_bnd {o : Out β} {f : β → Mem → Out α} : Ok (bnd o f) Q ↔ Ok o fun b M => Ok (f b M) Q := by
  constructor
  · rintro ⟨a, N, e, q⟩
    cases o with
    | none => cases e
    | some p =>
      obtain ⟨r, M1⟩ := p
      cases r with
      | error x => cases e
      | ok b => exact ⟨b, M1, rfl, a, N, e, q⟩
  · rintro ⟨b, M1, rfl, a, N, e, q⟩
    exact ⟨a, N, e, q⟩
theorem Ok_ite {c : Prop} [Decidable c] {a b : Out α} : Ok (if c then a else b) Q ↔ if c then Ok a Q else Ok b Q := by split <;> rfl
end
section
variable {Q : W → Mem → Prop} {QL : List W → Mem → Prop} {QF : Fl → Mem → Prop} {QI : Wd → Mem → Prop} {M : Mem} {s : Sl}
@[simp] theorem Ok_eC {w : W} : Ok (eC w s M) Q ↔ Q w M := Ok_ok w
@[simp] theorem Ok_eV {i : Nat} : Ok (eV i s M) Q ↔ ∃ w, s[i]? = some (some w) ∧ Q w M := by
  unfold eV
  split
  · rename_i w e
    simp [e]
  · rename_i n
    simp only [Ok_none, false_iff, not_exists]
    rintro w ⟨e, _⟩
    exact n w e
@[simp] theorem Ok_eAs0 : Ok (eAs [] s M) QL ↔ QL [] M := Ok_ok []
@[simp] theorem Ok_eAs1 {m : EM} {ms : List EM} : Ok (eAs (m :: ms) s M) QL ↔ Ok (m s M) fun w M => Ok (eAs ms s M) fun ws M => QL (w :: ws) M := by simp [eAs]
@[simp] theorem Ok_eTup {ms : List EM} : Ok (eTup ms s M) Q ↔ Ok (eAs ms s M) fun ws M => Q (.tup ws) M := by simp [eTup]
@[simp] theorem Ok_eNew {l : LM} : Ok (eNew l s M) Q ↔ Ok (l s M) fun ws M => Q (.ref M.length) (M ++ [.lst ws]) := by simp [eNew, alloc]
@[simp] theorem Ok_eDic : Ok (eDic s M) Q ↔ Q (.ref M.length) (M ++ [.dic []]) := by simp [eDic, alloc]
@[simp] theorem Ok_eOp {f : Op2} {a b : EM} : Ok (eOp f a b s M) Q ↔ Ok (a s M) fun x M => Ok (b s M) fun y M => Ok (f x y M) Q := by simp [eOp]
@[simp] theorem Ok_eUn {f : Op1} {a : EM} : Ok (eUn f a s M) Q ↔ Ok (a s M) fun x M => Ok (f x M) Q := by simp [eUn]
@[simp] theorem Ok_eCall {orc : Nat → List W → Mem → Out W} {f : Nat} {ms : List EM} : Ok (eCall orc f ms s M) Q ↔ Ok (eAs ms s M) fun ws M => Ok (orc f ws M) Q := by simp [eCall]
@[simp] theorem Ok_eTuple {l : LM} : Ok (eTuple l s M) Q ↔ Ok (l s M) fun ws M => Q (.tup ws) M := by simp [eTuple]
/-- a truth decides -/
def Br (x : W) (a b : Prop) : Prop := match x with
  | .bl true => a
  | .bl false => b
  | _ => False
@[simp] theorem Br_t {a b : Prop} : Br (.bl true) a b ↔ a := Iff.rfl
@[simp] theorem Br_f {a b : Prop} : Br (.bl false) a b ↔ b := Iff.rfl
theorem Br_b {k : Bool} {a b : Prop} : Br (.bl k) a b ↔ (k = true → a) ∧ (k = false → b) := by cases k <;> simp
@[simp] theorem Ok_eAnd {a b : EM} : Ok (eAnd a b s M) Q ↔ Ok (a s M) fun x M => Br x (Ok (b s M) Q) (Q (.bl false) M) := by
  unfold eAnd
  rw [Ok_bnd]
  constructor <;> (rintro ⟨x, N, e, q⟩; refine ⟨x, N, e, ?_⟩; cases x <;> first | exact (by simpa [Br] using q) | skip)
  · rename_i k; cases k <;> simpa [Br] using q
  · rename_i k; cases k <;> simpa [Br] using q
@[simp] theorem Ok_eOr {a b : EM} : Ok (eOr a b s M) Q ↔ Ok (a s M) fun x M => Br x (Q (.bl true) M) (Ok (b s M) Q) := by
  unfold eOr
  rw [Ok_bnd]
  constructor <;> (rintro ⟨x, N, e, q⟩; refine ⟨x, N, e, ?_⟩; cases x <;> first | exact (by simpa [Br] using q) | skip)
  · rename_i k; cases k <;> simpa [Br] using q
  · rename_i k; cases k <;> simpa [Br] using q
@[simp] theorem Ok_eIf {t a b : EM} : Ok (eIf t a b s M) Q ↔ Ok (t s M) fun x M => Br x (Ok (a s M) Q) (Ok (b s M) Q) := by
  unfold eIf
  rw [Ok_bnd]
  constructor <;> (rintro ⟨x, N, e, q⟩; refine ⟨x, N, e, ?_⟩; cases x <;> first | exact (by simpa [Br] using q) | skip)
  · rename_i k; cases k <;> simpa [Br] using q
  · rename_i k; cases k <;> simpa [Br] using q
@[simp] theorem Ok_uNot {k : Bool} : Ok (uNot (.bl k) M) Q ↔ Q (.bl (!k)) M := Ok_ok _
/-! statements -/
@[simp] theorem Ok_sSeq {a b : SM} : Ok (sSeq a b s M) QF ↔ Ok (a s M) fun fl M => match fl with
    | .nx s' => Ok (b s' M) QF
    | .rt w => QF (.rt w) M := by
  unfold sSeq
  rw [Ok_bnd]
  constructor <;> (rintro ⟨x, N, e, q⟩; refine ⟨x, N, e, ?_⟩; cases x <;> simpa using q)
@[simp] theorem Ok_sIf {t : EM} {a b : SM} : Ok (sIf t a b s M) QF ↔ Ok (t s M) fun x M => Br x (Ok (a s M) QF) (Ok (b s M) QF) := by
  unfold sIf
  rw [Ok_bnd]
  constructor <;> (rintro ⟨x, N, e, q⟩; refine ⟨x, N, e, ?_⟩; cases x <;> first | exact (by simpa [Br] using q) | skip)
  · rename_i k; cases k <;> simpa [Br] using q
  · rename_i k; cases k <;> simpa [Br] using q
@[simp] theorem Ok_sAsg {i : Nat} {e : EM} : Ok (sAsg (.one i) e s M) QF ↔ Ok (e s M) fun w M => QF (.nx (s.set i (some w))) M := by simp [sAsg, bindP, setS]
@[simp] theorem Ok_sRet {e : EM} : Ok (sRet e s M) QF ↔ Ok (e s M) fun w M => QF (.rt w) M := by simp [sRet]
@[simp] theorem Ok_sExp {e : EM} : Ok (sExp e s M) QF ↔ Ok (e s M) fun w M => QF (.nx s) M := by simp [sExp]
@[simp] theorem Ok_sPass : Ok (sPass s M) QF ↔ QF (.nx s) M := by simp [sPass]
@[simp] theorem Ok_sFor {p : Pat} {it : IM} {b : SM} : Ok (sFor p it b s M) QF ↔ Ok (it s M) fun q M => Ok (forL q.2 p b q.1 s M) QF := by simp [sFor]
@[simp] theorem Ok_sPut {o k e : EM} : Ok (sPut o k e s M) QF ↔ Ok (e s M) fun v M => Ok (o s M) fun o M => Ok (k s M) fun k M => ∃ M', putW o k v M = some M' ∧ QF (.nx s) M' := by
  unfold sPut
  simp only [Ok_bnd]
  constructor <;> (rintro ⟨v, N, e, o, N1, e1, k, N2, e2, q⟩; refine ⟨v, N, e, o, N1, e1, k, N2, e2, ?_⟩)
  · cases h : putW o k v N2 with
    | none => rw [h] at q; simp at q
    | some M' => rw [h] at q; simp at q; exact ⟨M', h, q⟩
  · obtain ⟨M', h, q⟩ := q
    rw [h]
    simpa using q
/-! walks -/
@[simp] theorem Ok_lComp {it : IM} {p : Pat} {c e : EM} : Ok (lComp it p c e s M) QL ↔ Ok (it s M) fun q M => Ok (lcL q.2 p c e s q.1 [] M) QL := by simp [lComp]
@[simp] theorem Ok_iNew {l : LM} : Ok (iNew l s M) QI ↔ Ok (l s M) fun ws M => QI (ws, none) M := by simp [iNew]
def seqW (w : W) (M : Mem) : Out Wd := match w with
    | .tup ws => ok (ws, none) M
    | .str z => ok (z.map fun c => .str [c], none) M
    | .scr ns => ok (ns.map .int, none) M
    | .ref i => (match M[i]? with
      | some (.lst ws) => ok (ws, some (i, .lst ws)) M
      | _ => none)
    | _ => none
@[simp] theorem Ok_iSeq {m : EM} : Ok (iSeq m s M) QI ↔ Ok (m s M) fun w M => Ok (seqW w M) QI := by
  unfold iSeq
  rw [Ok_bnd]
  exact Iff.rfl
@[simp] theorem Ok_seqTup {ws : List W} : Ok (seqW (.tup ws) M) QI ↔ QI (ws, none) M := Ok_ok _
@[simp] theorem Ok_seqScr {ns : List Int} : Ok (seqW (.scr ns) M) QI ↔ QI (ns.map .int, none) M := Ok_ok _
theorem Ok_seqRef {j : Nat} {ws : List W} (h : M[j]? = some (.lst ws)) : Ok (seqW (.ref j) M) QI ↔ QI (ws, some (j, .lst ws)) M := by simp [seqW, h]
def rngW (x y : W) (M : Mem) : Out Wd := match x, y with
    | .int a, .int b => if -1000000 ≤ a ∧ a ≤ 1000000 ∧ -1000000 ≤ b ∧ b ≤ 1000000 then ok (rangeW a (b - a).toNat, none) M else none
    | _, _ => none
@[simp] theorem Ok_iRange {a b : EM} : Ok (iRange a b s M) QI ↔ Ok (a s M) fun x M => Ok (b s M) fun y M => Ok (rngW x y M) QI := by
  unfold iRange
  rw [Ok_bnd]
  simp only [Ok_bnd]
  exact Iff.rfl
@[simp] theorem Ok_rngW {a b : Int} : Ok (rngW (.int a) (.int b) M) QI ↔ (-1000000 ≤ a ∧ a ≤ 1000000 ∧ -1000000 ≤ b ∧ b ≤ 1000000) ∧ QI (rangeW a (b - a).toNat, none) M := by
  unfold rngW
  dsimp only
  split
  · rename_i h; simp [h]
  · rename_i h; simp [h]
@[simp] theorem Ok_eM {k : Nat} {f : Mth} {o : EM} {es : List EM} : Ok (eM k f o es s M) Q ↔ Ok (o s M) fun x M => kindW x M = k ∧ Ok (eAs es s M) fun vs M => Ok (f x vs M) Q := by
  unfold eM
  rw [Ok_bnd]
  constructor <;> (rintro ⟨x, N, e, q⟩; refine ⟨x, N, e, ?_⟩)
  · split at q
    · rename_i h; exact ⟨h, by simpa using q⟩
    · simp at q
  · obtain ⟨h, q⟩ := q
    rw [if_pos h]
    simpa using q
@[simp] theorem Ok_lOf {m : EM} : Ok (lOf m s M) QL ↔ Ok (m s M) fun w M => ∃ ws, items w M = some ws ∧ QL ws M := by
  unfold lOf
  rw [Ok_bnd]
  constructor <;> (rintro ⟨x, N, e, q⟩; refine ⟨x, N, e, ?_⟩)
  · cases h : items x N with
    | none => rw [h] at q; simp at q
    | some ws => rw [h] at q; simp at q; exact ⟨ws, h, q⟩
  · obtain ⟨ws, h, q⟩ := q
    rw [h]
    simpa using q
@[simp] theorem Ok_lSorted {l : LM} : Ok (lSorted l s M) QL ↔ Ok (l s M) fun ws M => ∃ r, sortW ws = some r ∧ QL r M := by
  unfold lSorted
  rw [Ok_bnd]
  constructor <;> (rintro ⟨x, N, e, q⟩; refine ⟨x, N, e, ?_⟩)
  · cases h : sortW x with
    | none => rw [h] at q; simp at q
    | some ws => rw [h] at q; simp at q; exact ⟨ws, h, q⟩
  · obtain ⟨ws, h, q⟩ := q
    rw [h]
    simpa using q
/-! operators -/
@[simp] theorem Ok_add {a b : Int} : Ok (oAdd (.int a) (.int b) M) Q ↔ Q (.int (a + b)) M := Ok_ok _
@[simp] theorem Ok_sub {a b : Int} : Ok (oSub (.int a) (.int b) M) Q ↔ Q (.int (a - b)) M := Ok_ok _
@[simp] theorem Ok_mod {a b : Int} : Ok (oMod (.int a) (.int b) M) Q ↔ 0 < b ∧ Q (.int (a % b)) M := by
  unfold oMod
  dsimp only
  split
  · rename_i h; simp [h]
  · rename_i h; simp [h]
@[simp] theorem Ok_div {a b : Int} : Ok (oDiv (.int a) (.int b) M) Q ↔ (0 < b ∧ b.natAbs.log2 < 9000) ∧ Q (.int (a / b)) M := by
  unfold oDiv
  dsimp only
  split
  · rename_i h; simp [h]
  · rename_i h; simp [h]
@[simp] theorem Ok_mul {a b : Int} : Ok (oMul (.int a) (.int b) M) Q ↔ a.natAbs.log2 + b.natAbs.log2 < 1000000 ∧ Q (.int (a * b)) M := by
  unfold oMul
  dsimp only
  split
  · rename_i h; simp [h]
  · rename_i h; simp [h]
@[simp] theorem Ok_shr {a b : Int} : Ok (oShr (.int a) (.int b) M) Q ↔ 0 ≤ b ∧ Q (.int (a / 2 ^ b.toNat)) M := by
  unfold oShr
  dsimp only
  split
  · rename_i h; simp [h]
  · rename_i h; simp [h]
@[simp] theorem Ok_neg {a : Int} : Ok (uNeg (.int a) M) Q ↔ Q (.int (-a)) M := Ok_ok _
@[simp] theorem Ok_gt {a b : Int} : Ok (oGt (.int a) (.int b) M) Q ↔ Q (.bl (decide (b < a))) M := Ok_ok _
@[simp] theorem Ok_ge {a b : Int} : Ok (oGe (.int a) (.int b) M) Q ↔ Q (.bl (decide (b ≤ a))) M := Ok_ok _
@[simp] theorem Ok_le {a b : Int} : Ok (oLe (.int a) (.int b) M) Q ↔ Q (.bl (decide (a ≤ b))) M := Ok_ok _
@[simp] theorem Ok_lt {a b : Int} : Ok (oLt (.int a) (.int b) M) Q ↔ Q (.bl (decide (a < b))) M := Ok_ok _
theorem flatF_D {n : Nat} {w : W} (h : isD w = true) : flatF n M w = some w := by cases n <;> simp [flatF, h]
theorem eqW_D {a b : W} (ha : isD a = true) (hb : isD b = true) (da : dep a ≤ 60) (db : dep b ≤ 60) : eqW M a b = some (eqD a b) := by
  unfold eqW
  rw [flatF_D ha, flatF_D hb]
  simp [da, db]
@[simp] theorem Ok_eqi {a b : Int} : Ok (oEq (.int a) (.int b) M) Q ↔ Q (.bl (decide (a = b))) M := by
  unfold oEq
  rw [eqW_D rfl rfl (by simp [dep]) (by simp [dep])]
  simp [eqOut, eqD, nrm]
@[simp] theorem Ok_nei {a b : Int} : Ok (oNe (.int a) (.int b) M) Q ↔ Q (.bl (!decide (a = b))) M := by
  unfold oNe
  rw [eqW_D rfl rfl (by simp [dep]) (by simp [dep])]
  simp [eqOut, eqD, nrm]
@[simp] theorem Ok_eqs {a b : Tx} : Ok (oEq (.str a) (.str b) M) Q ↔ Q (.bl (decide (a = b))) M := by
  unfold oEq
  rw [eqW_D rfl rfl (by simp [dep]) (by simp [dep])]
  simp [eqOut, eqD, nrm]
@[simp] theorem Ok_nes {a b : Tx} : Ok (oNe (.str a) (.str b) M) Q ↔ Q (.bl (!decide (a = b))) M := by
  unfold oNe
  rw [eqW_D rfl rfl (by simp [dep]) (by simp [dep])]
  simp [eqOut, eqD, nrm]
@[simp] theorem Ok_lenTup {ws : List W} : Ok (uLen (.tup ws) M) Q ↔ Q (.int ws.length) M := by simp [uLen, lenW, items]
@[simp] theorem Ok_lenScr {ns : List Int} : Ok (uLen (.scr ns) M) Q ↔ Q (.int ns.length) M := by simp [uLen, lenW, items]
theorem Ok_lenRef {j : Nat} {ws : List W} (h : M[j]? = some (.lst ws)) : Ok (uLen (.ref j) M) Q ↔ Q (.int ws.length) M := by simp [uLen, lenW, items, h, dicO]
theorem ixW_nat {n k : Nat} (h : k < n) : ixW n (k : Int) = some k := by
  unfold ixW
  rw [if_pos (by omega), if_pos (by omega)]
  simp
theorem ixW_last {n : Nat} (h : 0 < n) : ixW n (-1) = some (n - 1) := by
  unfold ixW
  rw [if_neg (by omega), if_pos (by omega)]
  congr 1
  omega
theorem Ok_at {ws : List W} {i : Int} : Ok (atW ws i M) Q ↔ ∃ n w, ixW ws.length i = some n ∧ ws[n]? = some w ∧ Q w M := by
  unfold atW
  cases e : ixW ws.length i with
  | none => simp
  | some n =>
    cases e2 : ws[n]? with
    | none => simp [e2]
    | some w => simp [e2]
@[simp] theorem Ok_ixTup {ws : List W} {i : Int} : Ok (oIx (.tup ws) (.int i) M) Q ↔ Ok (atW ws i M) Q := by simp [oIx, items]
@[simp] theorem Ok_ixScr {ns : List Int} {i : Int} : Ok (oIx (.scr ns) (.int i) M) Q ↔ Ok (atW (ns.map .int) i M) Q := by simp [oIx, items]
theorem Ok_ixRef {j : Nat} {ws : List W} {i : Int} (h : M[j]? = some (.lst ws)) : Ok (oIx (.ref j) (.int i) M) Q ↔ Ok (atW ws i M) Q := by simp [oIx, items, h, dicO]
/-! calls -/
theorem Ok_body {n : Nat} {b : SM} {ws : List W} : Ok (body n b ws M) Q ↔ Ok (b (start n ws) M) fun fl M => match fl with
    | .nx _ => Q .non M
    | .rt w => Q w M := by
  unfold body
  rw [Ok_bnd]
  constructor <;> (rintro ⟨x, N, e, q⟩; refine ⟨x, N, e, ?_⟩; cases x <;> simpa using q)
theorem Ok_gcO {o : Out W} (h : Ok o fun w M' => Q (gc M w M').1 (gc M w M').2) : Ok (gcO M o) Q := by
  obtain ⟨w, M', rfl, q⟩ := h
  exact ⟨_, _, rfl, q⟩
end
/-! ### what is left of garbage -/
theorem okBase_same (M : Mem) : okBase M.length M M = true := by
  unfold okBase
  rw [List.all_eq_true]
  intro p hp
  obtain ⟨i, hi⟩ := List.mem_iff_getElem?.mp hp
  rw [List.getElem?_zip_eq_some] at hi
  have : p.1 = p.2 := Option.some.inj (hi.1.symm.trans hi.2)
  simp [this]
mutual
theorem refs_D : ∀ {w : W}, isD w = true → refsW w = []
  | .non, _ => rfl
  | .bl _, _ => rfl
  | .int _, _ => rfl
  | .str _, _ => rfl
  | .tup ws, h => by unfold refsW; exact refss_D h
  | .ref _, h => by simp [isD] at h
  | .scr _, h => by simp [isD] at h
theorem refss_D : ∀ {ws : List W}, isDs ws = true → refsWs ws = []
  | [], _ => rfl
  | w :: ws, h => by
    unfold isDs at h
    rw [Bool.and_eq_true] at h
    unfold refsWs
    rw [refs_D h.1, refss_D h.2]
    rfl
end
mutual
theorem ren_D {n : Nat} {fs : List Nat} : ∀ {w : W}, isD w = true → ren n fs w = w
  | .non, _ => rfl
  | .bl _, _ => rfl
  | .int _, _ => rfl
  | .str _, _ => rfl
  | .tup ws, h => by unfold ren; rw [rens_D h]
  | .ref _, h => by simp [isD] at h
  | .scr _, h => by simp [isD] at h
theorem rens_D {n : Nat} {fs : List Nat} : ∀ {ws : List W}, isDs ws = true → rens n fs ws = ws
  | [], _ => rfl
  | w :: ws, h => by
    unfold isDs at h
    rw [Bool.and_eq_true] at h
    unfold rens
    rw [ren_D h.1, rens_D h.2]
end
/-- data is told: nothing else is left -/
theorem gc_data {M X : Mem} {w : W} (h : isD w = true) : gc M w (M ++ X) = (w, M) := by
  have e : gcF M.length w = [] := by unfold gcF; rw [refs_D h]; rfl
  unfold gc
  dsimp only
  rw [e]
  have e2 : (M ++ X).take M.length = M := by simp
  simp only [getAll, List.mapM_nil]
  rw [e2]
  simp only [pure, okBase_same, List.all_nil, List.length_append, Nat.le_add_right, and_self, if_true, ren_D h, List.append_nil]
/-- a new list of data is told -/
theorem gc_list {M X : Mem} {j : Nat} {ws : List W} (hj : X[j]? = some (.lst ws)) (h : isDs ws = true) : gc M (.ref (M.length + j)) (M ++ X) = (.ref M.length, M ++ [.lst ws]) := by
  have e : gcF M.length (.ref (M.length + j)) = [M.length + j] := by
    unfold gcF
    simp [refsW, dd]
  unfold gc
  dsimp only
  rw [e]
  have e2 : (M ++ X).take M.length = M := by simp
  have e3 : (M ++ X)[M.length + j]? = some (.lst ws) := by rw [List.getElem?_append_right (by omega), Nat.add_sub_cancel_left]; exact hj
  simp only [getAll, List.mapM_cons, List.mapM_nil, e3]
  rw [e2]
  have hn : ¬ M.length + j < M.length := by omega
  simp [okBase_same, refsO, refss_D h, ren, hn]
end Sw

set_option autoImplicit false
set_option linter.all false
namespace Sw
/-- _law_draw -/
def bDraw : SM :=
  (sSeq (sAsg (.one 3) (eIf (eOp oGt (eUn uLen (eV 0)) (eC (.int 0))) (eOp oIx (eV 0) (eOp oMod (eV 1) (eUn uLen (eV 0)))) (eC (.int 0))))
  (sSeq (sIf (eAnd (eOp oGt (eUn uLen (eV 0)) (eC (.int 0))) (eOp oEq (eOp oMod (eOp oIx (eV 0) (eC (.int 0))) (eC (.int 2))) (eC (.int 1)))) (sRet (eOp oMod (eOp oMod (eOp oShr (eV 3) (eOp oAdd (eOp oMul (eC (.int 20)) (eOp oDiv (eV 1) (eUn uLen (eV 0)))) (eC (.int 1)))) (eC (.int 1048576))) (eV 2))) sPass)
  (sSeq (sAsg (.one 4) (eOp oAdd (eOp oAdd (eOp oMod (eV 3) (eC (.int 1000003))) (eOp oMul (eOp oMul (eC (.int 31)) (eV 1)) (eV 1))) (eC (.int 1))))
  (sRet (eOp oMod (eOp oMod (eOp oMul (eOp oMod (eOp oMul (eV 4) (eC (.int 48271))) (eC (.int 999983))) (eC (.int 7919))) (eC (.int 524287))) (eV 2))))))
theorem log2_le {a : Nat} {n : Nat} (h : a < 2 ^ n) (hn : 0 < n) : a.log2 < n := by
  by_cases h0 : a = 0
  · subst h0
    simpa using hn
  · exact (Nat.log2_lt h0).mpr h
theorem log2_i {a : Int} {n : Nat} (h1 : -(2 ^ n : Int) < a) (h2 : a < 2 ^ n) (hn : 0 < n) : a.natAbs.log2 < n := by
  refine log2_le ?_ hn
  have : (a.natAbs : Int) < (2 ^ n : Nat) := by
    push_cast
    omega
  exact_mod_cast this
def cellM (ns : List Int) (k : Int) : Int := if ns.length = 0 then 0 else ns.getD (k % ns.length).toNat 0
def drawM (ns : List Int) (k many : Int) : Int := if 0 < ns.length ∧ ns.getD 0 0 % 2 = 1 then cellM ns k / 2 ^ (20 * (k / ns.length) + 1).toNat % 1048576 % many
  else (cellM ns k % 1000003 + 31 * k * k + 1) * 48271 % 999983 * 7919 % 524287 % many
theorem drawM_lt {ns : List Int} {k many : Int} (h : 0 < many) : 0 ≤ drawM ns k many ∧ drawM ns k many < many := by
  unfold drawM
  split
  · exact ⟨Int.emod_nonneg _ (by omega), Int.emod_lt_of_pos _ h⟩
  · exact ⟨Int.emod_nonneg _ (by omega), Int.emod_lt_of_pos _ h⟩
theorem log_sm {a : Int} (h1 : -1000000000000000000 < a) (h2 : a < 1000000000000000000) : a.natAbs.log2 < 60 := log2_i (n := 60) (by omega) (by omega) (by omega)
theorem Ok_atI {ns : List Int} {i : Int} {M : Mem} {Q : W → Mem → Prop} (h1 : 0 ≤ i) (h2 : i < ns.length) : Ok (atW (ns.map .int) i M) Q ↔ Q (.int (ns.getD i.toNat 0)) M := by
  rw [Ok_at]
  have e : i = (i.toNat : Int) := (Int.toNat_of_nonneg h1).symm
  have hl : i.toNat < ns.length := by omega
  have e1 : ixW (ns.map W.int).length i = some i.toNat := by
    rw [List.length_map]
    conv => lhs; rw [e]
    exact ixW_nat hl
  have e2 : (ns.map W.int)[i.toNat]? = some (.int (ns.getD i.toNat 0)) := by
    rw [List.getElem?_map, List.getD_eq_getElem?_getD, List.getElem?_eq_getElem hl]
    rfl
  constructor
  · rintro ⟨n, w, h3, h4, q⟩
    rw [e1] at h3
    cases h3
    rw [e2] at h4
    cases h4
    exact q
  · exact fun q => ⟨_, _, e1, e2, q⟩
theorem draw_body (ns : List Int) (hl : ns.length ≤ 63) (k many : Int) (M : Mem) (hk : 0 ≤ k ∧ k ≤ 1000000) (hm : 0 < many) : body 5 bDraw [.scr ns, .int k, .int many] M = some (.ok (.int (drawM ns k many)), M) := by
  refine Ok.of_eq (Ok_body.mpr ?_)
  have hk2 : k * k ≤ 1000000 * 1000000 := Int.mul_le_mul hk.2 hk.2 hk.1 (by omega)
  have hk3 : 0 ≤ k * k := Int.mul_nonneg hk.1 hk.1
  have e31 : 31 * k * k = 31 * (k * k) := Int.mul_assoc _ _ _
  have l1 : Nat.log2 31 + k.natAbs.log2 < 1000000 := by
    have := log_sm (a := k) (by omega) (by omega)
    have : Nat.log2 31 = 4 := by decide
    omega
  have l2 : (31 * k).natAbs.log2 + k.natAbs.log2 < 1000000 := by
    have := log_sm (a := k) (by omega) (by omega)
    have := log_sm (a := 31 * k) (by omega) (by omega)
    omega
  have l3 : ∀ c : Int, (c % 1000003 + 31 * k * k + 1).natAbs.log2 + Nat.log2 48271 < 1000000 := fun c => by
    have h1 := Int.emod_nonneg c (show (1000003 : Int) ≠ 0 by omega)
    have h2 := Int.emod_lt_of_pos c (show (0 : Int) < 1000003 by omega)
    have := log_sm (a := c % 1000003 + 31 * k * k + 1) (by omega) (by omega)
    have : Nat.log2 48271 = 15 := by decide
    omega
  have l4 : ∀ c : Int, (c % 999983).natAbs.log2 + Nat.log2 7919 < 1000000 := fun c => by
    have h1 := Int.emod_nonneg c (show (999983 : Int) ≠ 0 by omega)
    have h2 := Int.emod_lt_of_pos c (show (0 : Int) < 999983 by omega)
    have := log_sm (a := c % 999983) (by omega) (by omega)
    have : Nat.log2 7919 = 12 := by decide
    omega
  by_cases h : 0 < ns.length
  · have hn : (0 : Int) < ns.length := by omega
    have m1 := Int.emod_nonneg k (show (ns.length : Int) ≠ 0 by omega)
    have m2 := Int.emod_lt_of_pos k hn
    have d1 : 0 ≤ k / ns.length := Int.ediv_nonneg hk.1 (by omega)
    have d2 : k / ns.length ≤ k := Int.ediv_le_self _ hk.1
    have l5 : Nat.log2 20 + (k / ns.length).natAbs.log2 < 1000000 := by
      have := log_sm (a := k / ns.length) (by omega) (by omega)
      have : Nat.log2 20 = 4 := by decide
      omega
    have l6 : ns.length.log2 < 9000 := by
      have := log2_le (a := ns.length) (n := 60) (by omega) (by omega)
      omega
    simp [bDraw, start, h, hn, Ok_atI m1 m2, Ok_atI (Int.le_refl 0) hn, l1, l2, l3, l4, l5, l6, hm]
    have h5 : 0 ≤ 20 * (k / (ns.length : Int)) + 1 := by omega
    by_cases h2 : ns[0] % 2 = 1
    · simp [h2, drawM, h, cellM, (show ns.length ≠ 0 by omega), h5]
    · simp [h2, drawM, h, cellM, (show ns.length ≠ 0 by omega)]
  · have h0 : ns.length = 0 := by omega
    have l3' := l3 0
    have l4' := l4 ((31 * k * k + 1) * 48271)
    simp at l3'
    simp [bDraw, start, h0, l1, l2, l3', l4', hm, drawM, cellM]
end Sw

set_option autoImplicit false
set_option linter.all false
/-! Loops. -/
namespace Sw
theorem many_iff {n : Nat} : many n = true ↔ n ≤ 1000000 := by simp [many]
theorem forL_nil {g : Option (Nat × O)} {p : Pat} {b : SM} {s : Sl} {M : Mem} (h : still g M = true) : forL g p b [] s M = ok (.nx s) M := by unfold forL; rw [if_pos h]
theorem forL_cons {g : Option (Nat × O)} {p : Pat} {b : SM} {s s' : Sl} {M : Mem} {w : W} {ws : List W} (h : still g M = true) (e : bindP p w s = some s') : forL g p b (w :: ws) s M = bnd (b s' M) fun fl M => match fl with
    | .nx s'' => forL g p b ws s'' M
    | .rt r => ok (.rt r) M := by
  rw [forL, if_pos h, e]
  first | done | rfl
/-- a loop by an invariant over what is still to come -/
theorem Ok_for {g : Option (Nat × O)} {p : Pat} {b : SM} {QF : Fl → Mem → Prop} (I : List W → Sl → Mem → Prop) (hst : ∀ ws s M, I ws s M → still g M = true)
    (turn : ∀ w ws s M, I (w :: ws) s M → ∃ s', bindP p w s = some s' ∧ Ok (b s' M) fun fl M' => match fl with
      | .nx s'' => I ws s'' M'
      | .rt r => QF (.rt r) M')
    (fin : ∀ s M, I [] s M → QF (.nx s) M) : ∀ (ws : List W) (s : Sl) (M : Mem), I ws s M → Ok (forL g p b ws s M) QF
  | [], s, M, h => by
    rw [forL_nil (hst _ _ _ h), Ok_ok]
    exact fin s M h
  | w :: ws, s, M, h => by
    obtain ⟨s', e, q⟩ := turn w ws s M h
    rw [forL_cons (hst _ _ _ h) e, Ok_bnd]
    refine q.mono fun fl M' q => ?_
    cases fl with
    | nx s'' => exact Ok_for I hst turn fin ws s'' M' q
    | rt r => exact (Ok_ok _).mpr q
theorem lcL_nil' {g : Option (Nat × O)} {p : Pat} {c e : EM} {s : Sl} {acc : List W} {M : Mem} (h : still g M = true) (hm : acc.length ≤ 1000000) : lcL g p c e s [] acc M = ok acc M := by
  unfold lcL
  rw [h, many_iff.mpr hm]
  rfl
theorem Ok_noX {α β : Type} {o : Out α} {f : α → Mem → Out β} {Q : β → Mem → Prop} (h : Ok o fun a M => Ok (f a M) Q) : Ok (bnd (noX o) f) Q := by
  obtain ⟨a, M, rfl, q⟩ := h
  exact q
/-- a comprehension by an invariant over what is still to come and what is made -/
theorem Ok_lc {g : Option (Nat × O)} {p : Pat} {c e : EM} {s : Sl} {QL : List W → Mem → Prop} (I : List W → List W → Mem → Prop) (hst : ∀ ws acc M, I ws acc M → still g M = true ∧ acc.length ≤ 1000000)
    (turn : ∀ w ws acc M, I (w :: ws) acc M → ∃ s', bindP p w s = some s' ∧ Ok (c s' M) fun b M1 => Br b (Ok (e s' M1) fun y M2 => I ws (acc ++ [y]) M2) (I ws acc M1))
    (fin : ∀ acc M, I [] acc M → QL acc M) : ∀ (ws acc : List W) (M : Mem), I ws acc M → Ok (lcL g p c e s ws acc M) QL
  | [], acc, M, h => by
    rw [lcL_nil' (hst _ _ _ h).1 (hst _ _ _ h).2, Ok_ok]
    exact fin acc M h
  | w :: ws, acc, M, h => by
    obtain ⟨s', eb, q⟩ := turn w ws acc M h
    have e1 : lcL g p c e s (w :: ws) acc M = bnd (noX (c s' M)) fun b M => match b with
      | .bl true => bnd (noX (e s' M)) fun y M => lcL g p c e s ws (acc ++ [y]) M
      | .bl false => lcL g p c e s ws acc M
      | _ => none := by
      rw [lcL, (hst _ _ _ h).1, many_iff.mpr (hst _ _ _ h).2]
      simp only [Bool.and_self, if_true, eb]
      first | done | rfl
    rw [e1]
    refine Ok_noX (q.mono fun b M1 q => ?_)
    cases b with
    | bl k =>
      cases k with
      | true => exact Ok_noX (Ok.mono q fun y M2 q => Ok_lc I hst turn fin ws _ M2 q)
      | false => exact Ok_lc I hst turn fin ws _ M1 q
    | _ => exact q.elim
/-- the plain case: each item gives one, no test -/
theorem Ok_map {g : Option (Nat × O)} {p : Pat} {e : EM} {s : Sl} {QL : List W → Mem → Prop} (f : W → W) (I : Mem → Prop) (hst : ∀ M, I M → still g M = true) {ws : List W} {M : Mem} (h0 : I M) (hl : ws.length ≤ 1000000)
    (turn : ∀ w ∈ ws, ∀ M, I M → ∃ s', bindP p w s = some s' ∧ Ok (e s' M) fun y M2 => y = f w ∧ I M2) (fin : ∀ M, I M → QL (ws.map f) M) : Ok (lcL g p (eC (.bl true)) e s ws [] M) QL := by
  refine Ok_lc (fun rest acc M => I M ∧ ∃ pre, ws = pre ++ rest ∧ acc = pre.map f) (fun rest acc M ⟨i, pre, e1, e2⟩ => ⟨hst M i, ?_⟩) (fun w rest acc M ⟨i, pre, e1, e2⟩ => ?_) (fun acc M ⟨i, pre, e1, e2⟩ => ?_) ws [] M ⟨h0, [], rfl, rfl⟩
  · rw [e2, List.length_map]
    rw [e1, List.length_append] at hl
    omega
  · obtain ⟨s', e3, q⟩ := turn w (by rw [e1]; simp) M i
    refine ⟨s', e3, ?_⟩
    simp only [Ok_eC, Br_t]
    refine q.mono fun y M2 ⟨e4, i2⟩ => ⟨i2, pre ++ [w], by rw [e1]; simp, by rw [e2, e4]; simp⟩
  · rw [List.append_nil] at e1
    rw [e2, ← e1]
    exact fin M i
/-- while, by a measure -/
theorem Ok_wh {t : EM} {b : SM} {QF : Fl → Mem → Prop} (I : Nat → Sl → Mem → Prop)
    (turn : ∀ n s M, I n s M → Ok (t s M) fun x M1 => Br x (Ok (b s M1) fun fl M' => match fl with
      | .nx s'' => ∃ m, m < n ∧ I m s'' M'
      | .rt r => QF (.rt r) M') (QF (.nx s) M1)) : ∀ (g n : Nat) (s : Sl) (M : Mem), n < g → I n s M → Ok (whL t b g s M) QF
  | 0, n, s, M, h, _ => absurd h (Nat.not_lt_zero _)
  | g + 1, n, s, M, h, i => by
    unfold whL
    rw [Ok_bnd]
    refine (turn n s M i).mono fun x M1 q => ?_
    cases x with
    | bl k =>
      cases k with
      | true =>
        have q : Ok (b s M1) _ := q
        dsimp only
        rw [Ok_bnd]
        refine q.mono fun fl M' q => ?_
        cases fl with
        | nx s'' =>
          obtain ⟨m, hm, i⟩ := q
          exact Ok_wh I turn g m s'' M' (by omega) i
        | rt r => exact (Ok_ok _).mpr q
      | false => exact (Ok_ok _).mpr q
    | _ => exact q.elim
/-! the store -/
theorem get_app {M X : Mem} {i : Nat} {o : O} (h : M[i]? = some o) : (M ++ X)[i]? = some o := by
  rw [List.getElem?_append_left (List.getElem?_eq_some_iff.mp h).1]
  exact h
theorem get_new {M : Mem} {o : O} : (M ++ [o])[M.length]? = some o := by simp
theorem get_set {M : Mem} {i : Nat} {o o' : O} (h : M[i]? = some o) : (M.set i o')[i]? = some o' := List.getElem?_set_self (List.getElem?_eq_some_iff.mp h).1
theorem get_ne {M : Mem} {i j : Nat} {o : O} (h : i ≠ j) : (M.set i o)[j]? = M[j]? := List.getElem?_set_ne h
theorem get_lt {M : Mem} {i : Nat} {o : O} (h : M[i]? = some o) : i < M.length := (List.getElem?_eq_some_iff.mp h).1
theorem still_some {M : Mem} {i : Nat} {o : O} (h : M[i]? = some o) : still (some (i, o)) M = true := decide_eq_true h
/-! equality of data without truths -/
mutual
theorem nrm_K : ∀ {w : W}, isK w = true → nrm w = w
  | .non, h => by simp [isK] at h
  | .bl _, h => by simp [isK] at h
  | .int _, _ => rfl
  | .str _, _ => rfl
  | .tup ws, h => by unfold nrm; rw [nrms_K h]
  | .ref _, h => by simp [isK] at h
  | .scr _, h => by simp [isK] at h
theorem nrms_K : ∀ {ws : List W}, isKs ws = true → nrms ws = ws
  | [], _ => rfl
  | w :: ws, h => by
    unfold isKs at h
    rw [Bool.and_eq_true] at h
    unfold nrms
    rw [nrm_K h.1, nrms_K h.2]
end
mutual
theorem D_K : ∀ {w : W}, isK w = true → isD w = true
  | .non, h => by simp [isK] at h
  | .bl _, h => by simp [isK] at h
  | .int _, _ => rfl
  | .str _, _ => rfl
  | .tup ws, h => by unfold isD; exact Ds_K h
  | .ref _, h => by simp [isK] at h
  | .scr _, h => by simp [isK] at h
theorem Ds_K : ∀ {ws : List W}, isKs ws = true → isDs ws = true
  | [], _ => rfl
  | w :: ws, h => by
    unfold isKs at h
    rw [Bool.and_eq_true] at h
    unfold isDs
    rw [D_K h.1, Ds_K h.2]
    rfl
end
theorem eqD_K {a b : W} (ha : isK a = true) (hb : isK b = true) : eqD a b = decide (a = b) := by unfold eqD; rw [nrm_K ha, nrm_K hb]
theorem isKs_mem : ∀ {ws : List W}, isKs ws = true ↔ ∀ w ∈ ws, isK w = true
  | [] => by simp [isKs]
  | w :: ws => by simp [isKs, isKs_mem (ws := ws)]
theorem isDs_mem : ∀ {ws : List W}, isDs ws = true ↔ ∀ w ∈ ws, isD w = true
  | [] => by simp [isDs]
  | w :: ws => by simp [isDs, isDs_mem (ws := ws)]
theorem deps_le {n : Nat} : ∀ {ws : List W}, (∀ w ∈ ws, dep w ≤ n) → deps ws ≤ n
  | [], _ => Nat.zero_le _
  | w :: ws, h => by
    unfold deps
    exact Nat.max_le.mpr ⟨h w List.mem_cons_self, deps_le fun z hz => h z (List.mem_cons_of_mem _ hz)⟩
theorem isKs_app {xs ys : List W} (h : isKs xs = true) (k : isKs ys = true) : isKs (xs ++ ys) = true := isKs_mem.mpr fun w hw => (List.mem_append.mp hw).elim (isKs_mem.mp h w) (isKs_mem.mp k w)
section
variable {Q : W → Mem → Prop} {M : Mem}
theorem any_K {x : W} (hx : isK x = true) {ws : List W} (h : isKs ws = true) : (ws.any fun z => eqD z x) = decide (x ∈ ws) := by
  rw [Bool.eq_iff_iff, List.any_eq_true, decide_eq_true_eq]
  constructor
  · rintro ⟨z, hz, e⟩
    rw [eqD_K (isKs_mem.mp h z hz) hx, decide_eq_true_eq] at e
    rw [← e]
    exact hz
  · exact fun hm => ⟨x, hm, by rw [eqD_K hx hx, decide_eq_true_eq]⟩
/-- x in a list of keys -/
theorem Ok_inL {x : W} {j : Nat} {ws : List W} (hj : M[j]? = some (.lst ws)) (hx : isK x = true) (h : isKs ws = true) (dx : dep x ≤ 50) (dw : ∀ w ∈ ws, dep w ≤ 50) : Ok (oIn x (.ref j) M) Q ↔ Q (.bl (decide (x ∈ ws))) M := by
  unfold oIn inW
  simp only [hj, D_K hx, Ds_K h, Bool.true_and, decide_eq_true (show dep x ≤ 60 by omega), decide_eq_true (show deps ws ≤ 59 from Nat.le_trans (deps_le dw) (by omega)), if_true, any_K hx h, eqOut, Ok_ok]
theorem Ok_niL {x : W} {j : Nat} {ws : List W} (hj : M[j]? = some (.lst ws)) (hx : isK x = true) (h : isKs ws = true) (dx : dep x ≤ 50) (dw : ∀ w ∈ ws, dep w ≤ 50) : Ok (oNi x (.ref j) M) Q ↔ Q (.bl (!decide (x ∈ ws))) M := by
  unfold oNi inW
  simp only [hj, D_K hx, Ds_K h, Bool.true_and, decide_eq_true (show dep x ≤ 60 by omega), decide_eq_true (show deps ws ≤ 59 from Nat.le_trans (deps_le dw) (by omega)), if_true, any_K hx h, Option.map_some, eqOut, Ok_ok]
theorem Ok_inT {x : W} {ws : List W} (hx : isK x = true) (h : isKs ws = true) (dx : dep x ≤ 50) (dw : ∀ w ∈ ws, dep w ≤ 50) : Ok (oIn x (.tup ws) M) Q ↔ Q (.bl (decide (x ∈ ws))) M := by
  unfold oIn inW
  simp only [D_K hx, Ds_K h, Bool.true_and, decide_eq_true (show dep x ≤ 60 by omega), decide_eq_true (show deps ws ≤ 59 from Nat.le_trans (deps_le dw) (by omega)), if_true, any_K hx h, eqOut, Ok_ok]
theorem Ok_app {j : Nat} {v : W} {ws : List W} (hj : M[j]? = some (.lst ws)) (hl : ws.length < 1000000) : Ok (fAppend (.ref j) [v] M) Q ↔ Q .non (M.set j (.lst (ws ++ [v]))) := by
  unfold fAppend onL
  simp only [hj, many_iff.mpr (show ws.length + 1 ≤ 1000000 by omega), if_true, Ok_ok]
end
/-! more of the store -/
theorem set_app {M X : Mem} {j : Nat} {o : O} : (M ++ X).set (M.length + j) o = M ++ X.set j o := by
  rw [List.set_append_right _ _ (by omega), Nat.add_sub_cancel_left]
theorem get_app_r {M X : Mem} {j : Nat} : (M ++ X)[M.length + j]? = X[j]? := by
  rw [List.getElem?_append_right (by omega), Nat.add_sub_cancel_left]
theorem flats_D {f : W → Option W} : ∀ {ws : List W}, (∀ w ∈ ws, f w = some w) → flats f ws = some ws
  | [], _ => rfl
  | w :: ws, h => by
    unfold flats
    rw [h w List.mem_cons_self, flats_D fun z hz => h z (List.mem_cons_of_mem _ hz)]
theorem flatF_L {M : Mem} {n j : Nat} {ws : List W} (h : M[j]? = some (.lst ws)) (hd : isDs ws = true) : flatF (n + 1) M (.ref j) = some (.tup (.scr [] :: ws)) := by
  unfold flatF
  rw [if_neg (by simp [isD])]
  simp only [h]
  rw [flats_D fun w hw => flatF_D (isDs_mem.mp hd w hw)]
  rfl
theorem eqW_L {M : Mem} {i j : Nat} {xs ys : List W} (hi : M[i]? = some (.lst xs)) (hj : M[j]? = some (.lst ys)) (dx : isDs xs = true) (dy : isDs ys = true) (px : ∀ w ∈ xs, dep w ≤ 50) (py : ∀ w ∈ ys, dep w ≤ 50) : eqW M (.ref i) (.ref j) = some (decide (nrms xs = nrms ys)) := by
  unfold eqW
  rw [flatF_L hi dx, flatF_L hj dy]
  have p1 := deps_le px
  have p2 := deps_le py
  have q1 : dep (.tup (.scr [] :: xs)) ≤ 60 := by simp only [dep, deps]; omega
  have q2 : dep (.tup (.scr [] :: ys)) ≤ 60 := by simp only [dep, deps]; omega
  simp only [q1, q2, and_self, if_true]
  simp [eqD, nrm, nrms]
section
variable {Q : W → Mem → Prop} {M : Mem}
theorem Ok_eqL {i j : Nat} {xs ys : List W} (hi : M[i]? = some (.lst xs)) (hj : M[j]? = some (.lst ys)) (dx : isDs xs = true) (dy : isDs ys = true) (px : ∀ w ∈ xs, dep w ≤ 50) (py : ∀ w ∈ ys, dep w ≤ 50) : Ok (oEq (.ref i) (.ref j) M) Q ↔ Q (.bl (decide (nrms xs = nrms ys))) M := by
  unfold oEq
  rw [eqW_L hi hj dx dy px py]
  simp [eqOut]
theorem Ok_neL {i j : Nat} {xs ys : List W} (hi : M[i]? = some (.lst xs)) (hj : M[j]? = some (.lst ys)) (dx : isDs xs = true) (dy : isDs ys = true) (px : ∀ w ∈ xs, dep w ≤ 50) (py : ∀ w ∈ ys, dep w ≤ 50) : Ok (oNe (.ref i) (.ref j) M) Q ↔ Q (.bl (!decide (nrms xs = nrms ys))) M := by
  unfold oNe
  rw [eqW_L hi hj dx dy px py]
  simp [eqOut]
theorem Ok_neD {a b : W} (ha : isD a = true) (hb : isD b = true) (da : dep a ≤ 60) (db : dep b ≤ 60) : Ok (oNe a b M) Q ↔ Q (.bl (!eqD a b)) M := by
  unfold oNe
  rw [eqW_D ha hb da db]
  simp [eqOut]
theorem Ok_eqDD {a b : W} (ha : isD a = true) (hb : isD b = true) (da : dep a ≤ 60) (db : dep b ≤ 60) : Ok (oEq a b M) Q ↔ Q (.bl (eqD a b)) M := by
  unfold oEq
  rw [eqW_D ha hb da db]
  simp [eqOut]
theorem kindW_L {j : Nat} {ws : List W} (h : M[j]? = some (.lst ws)) : kindW (.ref j) M = 2 := by unfold kindW; simp only [h]
theorem items_L {j : Nat} {ws : List W} (h : M[j]? = some (.lst ws)) : items (.ref j) M = some ws := by simp [items, h]
theorem Ok_lstOf {m : EM} {s : Sl} {QL : List W → Mem → Prop} {j : Nat} {ws : List W} (h : Ok (m s M) fun w M' => ∃ j ws, w = .ref j ∧ M'[j]? = some (.lst ws) ∧ QL ws M') : Ok (lstOf m s M) QL := by
  unfold lstOf
  rw [Ok_bnd]
  refine h.mono fun w M' ⟨j, ws, e, hj, q⟩ => ?_
  subst e
  dsimp only
  rw [items_L hj]
  exact (Ok_ok _).mpr q
theorem Ok_atLast {ws : List W} {w : W} (h : ws.getLast? = some w) : Ok (atW ws (-1) M) Q ↔ Q w M := by
  have hl : 0 < ws.length := by
    cases ws with
    | nil => cases h
    | cons _ _ => simp
  rw [Ok_at, ixW_last hl]
  rw [List.getLast?_eq_getElem?] at h
  constructor
  · rintro ⟨n, w', h1, h2, q⟩
    cases h1
    rw [h] at h2
    cases h2
    exact q
  · exact fun q => ⟨_, w, rfl, h, q⟩
end
theorem Ok_addL {Q : W → Mem → Prop} {M : Mem} {i j : Nat} {xs ys : List W} (hi : M[i]? = some (.lst xs)) (hj : M[j]? = some (.lst ys)) (hl : xs.length + ys.length ≤ 1000000) : Ok (oAdd (.ref i) (.ref j) M) Q ↔ Q (.ref M.length) (M ++ [.lst (xs ++ ys)]) := by
  unfold oAdd
  simp only [hi, hj, catL, many_iff.mpr hl, if_true, Sw.alloc, Ok_ok]
/-! dicts -/
section
variable {Q : W → Mem → Prop} {M : Mem}
theorem Ok_lLock {α : Type} {md : EM} {b : Sl → Mem → Out α} {s : Sl} {Q : α → Mem → Prop} {j : Nat} {kvs : List (W × W)} (h1 : md s M = some (.ok (.ref j), M)) (h2 : M[j]? = some (.dic kvs))
    (h : Ok (b s (M.set j (.dlk kvs))) fun a M' => M'[j]? = some (.dlk kvs) ∧ Q a (M'.set j (.dic kvs))) : Ok (lLock md b s M) Q := by
  have e : lockAt md s M = some (j, kvs) := by unfold lockAt; rw [h1]; simp [h2]
  unfold lLock
  rw [e]
  dsimp only
  obtain ⟨a, M', e1, h3, q⟩ := h
  rw [e1]
  dsimp only
  rw [if_pos h3]
  exact ⟨_, _, rfl, q⟩
theorem eV_eq {i : Nat} {s : Sl} {w : W} (h : s[i]? = some (some w)) : eV i s M = some (.ok w, M) := by unfold eV; rw [h]; rfl
theorem Ok_keys {m : EM} {s : Sl} {QI : Wd → Mem → Prop} (h : Ok (m s M) fun w M' => ∃ j kvs, w = .ref j ∧ M'[j]? = some (.dlk kvs) ∧ QI (kvs.map (·.1), some (j, .dlk kvs)) M') : Ok (iKeysD m s M) QI := by
  unfold iKeysD
  rw [Ok_bnd]
  refine h.mono fun w M' ⟨j, kvs, e, hj, q⟩ => ?_
  subst e
  dsimp only
  rw [hj]
  exact (Ok_ok _).mpr q
theorem Ok_ixD {j : Nat} {kvs : List (W × W)} {k w : W} (h : dicO M[j]? = some kvs) (hk : okKey kvs k = true) (hg : dget kvs k = some w) : Ok (oIx (.ref j) k M) Q ↔ Q w M := by
  cases k with
  | int i => simp [oIx, h, hk, hg]
  | _ => simp [oIx, h, hk, hg]
theorem putW_D {j : Nat} {kvs : List (W × W)} {k v : W} (h : M[j]? = some (.dic kvs)) (hk : okKey kvs k = true) (hl : kvs.length < 1000000) : putW (.ref j) k v M = some (M.set j (.dic (dput kvs k v))) := by
  unfold putW
  simp only [h]
  rw [hk, many_iff.mpr (show kvs.length + 1 ≤ 1000000 by omega)]
  rfl
theorem dput_mem2 {k v : W} {p : W × W} : ∀ {kvs : List (W × W)}, p ∈ dput kvs k v → p ∈ kvs ∨ p.2 = v ∧ p.1 = k
  | [], h => by
    simp [dput] at h
    subst h
    exact .inr ⟨rfl, rfl⟩
  | (k', v') :: r, h => by
    unfold dput at h
    split at h
    · rename_i e
      rcases List.mem_cons.mp h with rfl | h
      · exact .inr ⟨rfl, e⟩
      · exact .inl (List.mem_cons_of_mem _ h)
    · rcases List.mem_cons.mp h with rfl | h
      · exact .inl List.mem_cons_self
      · rcases dput_mem2 h with h | h
        · exact .inl (List.mem_cons_of_mem _ h)
        · exact .inr h
theorem dput_len2 {k v : W} : ∀ {kvs : List (W × W)}, (dput kvs k v).length ≤ kvs.length + 1
  | [] => by simp [dput]
  | (k', v') :: r => by
    unfold dput
    split
    · simp
    · have := dput_len2 (k := k) (v := v) (kvs := r)
      simp; omega
theorem dget_some2 {k : W} : ∀ {kvs : List (W × W)}, k ∈ kvs.map (·.1) → ∃ v, dget kvs k = some v ∧ (k, v) ∈ kvs
  | [], h => by simp at h
  | (k', v') :: r, h => by
    unfold dget
    by_cases e : k' = k
    · subst e
      exact ⟨v', by simp, List.mem_cons_self⟩
    · rw [if_neg e]
      have h : k ∈ r.map (·.1) := by
        rw [List.map_cons] at h
        exact (List.mem_cons.mp h).resolve_left fun z => e z.symm
      obtain ⟨v, h1, h2⟩ := dget_some2 h
      exact ⟨v, h1, List.mem_cons_of_mem _ h2⟩
end
theorem Ok_iRange1 {Q : Wd → Mem → Prop} {M : Mem} {s : Sl} {b : EM} : Ok (iRange (eC (.int 0)) b s M) Q ↔ Ok (b s M) fun y M => Ok (rngW (.int 0) y M) Q := by simp
theorem range_mem {lo : Int} {n : Nat} {x : W} (h : x ∈ rangeW lo n) : ∃ i : Int, x = .int i ∧ lo ≤ i ∧ i < lo + n := by
  unfold rangeW at h
  obtain ⟨i, hi, e⟩ := List.mem_map.mp h
  have := List.mem_range.mp hi
  exact ⟨lo + i, e.symm, by omega, by omega⟩
theorem range_len {lo : Int} {n : Nat} : (rangeW lo n).length = n := by simp [rangeW]
theorem get_app_at {M X : Mem} {j k : Nat} {o : O} (hk : k = M.length + j) (h : X[j]? = some o) : (M ++ X)[k]? = some o := by rw [hk, get_app_r]; exact h
theorem set_app_at {M X : Mem} {j k : Nat} {o : O} (hk : k = M.length + j) : (M ++ X).set k o = M ++ X.set j o := by rw [hk, set_app]
end Sw

set_option autoImplicit false
set_option linter.all false
/-! Terms, atoms, wishes, as values. -/
namespace Sw
abbrev cName : Tx := [110, 97, 109, 101]
abbrev cCall : Tx := [99, 97, 108, 108]
abbrev cFlag : Tx := [102, 108, 97, 103]
abbrev cLike : Tx := [108, 105, 107, 101]
abbrev cMost : Tx := [109, 111, 115, 116]
abbrev cNot : Tx := [110, 111, 116]
abbrev cBoth : Tx := [98, 111, 116, 104]
abbrev cEith : Tx := [101, 105, 116, 104, 101, 114]
inductive Tm : W → Prop
  | name (s : Tx) : Tm (.tup [.str cName, .str s])
  | call (f : Tx) (ts : List W) : (∀ t ∈ ts, Tm t) → Tm (.tup [.str cCall, .str f, .tup ts])
inductive Mo : W → Prop
  | mk (t : W) (n d : Int) : Tm t → Mo (.tup [t, .tup [.int n, .int d]])
inductive At : W → Prop
  | flag (s : Tx) : At (.tup [.str cFlag, .str s])
  | like (a b : W) : Tm a → Tm b → At (.tup [.str cLike, a, b])
  | most (ps : List W) (n d : Int) : (∀ p ∈ ps, Mo p) → At (.tup [.str cMost, .tup ps, .tup [.int n, .int d]])
inductive Wi : W → Prop
  | at_ (w : W) : At w → Wi w
  | no (w : W) : Wi w → Wi (.tup [.str cNot, w])
  | both (ws : List W) : (∀ w ∈ ws, Wi w) → Wi (.tup [.str cBoth, .tup ws])
  | eith (ws : List W) : (∀ w ∈ ws, Wi w) → Wi (.tup [.str cEith, .tup ws])
/-! keys -/
theorem isK_tup {ws : List W} : isK (.tup ws) = true ↔ ∀ w ∈ ws, isK w = true := by
  show isKs ws = true ↔ _
  exact isKs_mem
theorem Tm.K {w : W} (h : Tm w) : isK w = true := by
  induction h with
  | name s => rfl
  | call f ts _ ih =>
    rw [isK_tup]
    intro w hw
    simp only [List.mem_cons, List.not_mem_nil, or_false] at hw
    rcases hw with rfl | rfl | rfl
    · rfl
    · rfl
    · exact isK_tup.mpr ih
theorem Mo.K {w : W} (h : Mo w) : isK w = true := by
  cases h with
  | mk t n d h => simp [isK, isKs, h.K]
theorem At.K {w : W} (h : At w) : isK w = true := by
  cases h with
  | flag s => rfl
  | like a b ha hb => simp [isK, isKs, ha.K, hb.K]
  | most ps n d h =>
    have : isKs ps = true := isKs_mem.mpr fun p hp => (h p hp).K
    simp [isK, isKs, this]
theorem Wi.K {w : W} (h : Wi w) : isK w = true := by
  induction h with
  | at_ w h => exact h.K
  | no w _ ih => simp [isK, isKs, ih]
  | both ws _ ih =>
    have : isKs ws = true := isKs_mem.mpr ih
    simp [isK, isKs, this]
  | eith ws _ ih =>
    have : isKs ws = true := isKs_mem.mpr ih
    simp [isK, isKs, this]
/-! < -/
def LtT (a b : W) : Prop := ∃ c, ltD a b = some c
def LtL (as bs : List W) : Prop := ∃ c, ltDs as bs = some c
theorem LtL.nil (bs : List W) : LtL [] bs := ⟨_, rfl⟩
theorem LtL.nil' (a : W) (as : List W) : LtL (a :: as) [] := ⟨_, rfl⟩
theorem LtL.cons {a b : W} {as bs : List W} (ka : isK a = true) (kb : isK b = true) (h : LtT a b) (k : a = b → LtL as bs) : LtL (a :: as) (b :: bs) := by
  unfold LtL ltDs
  by_cases e : a = b
  · rw [if_pos e]
    exact k e
  · rw [if_neg e, eqD_K ka kb, if_neg (by simpa using e)]
    exact h
theorem LtT.tup {as bs : List W} (h : LtL as bs) : LtT (.tup as) (.tup bs) := by
  obtain ⟨c, h⟩ := h
  exact ⟨c, by simpa [ltD] using h⟩
theorem LtT.str (s t : Tx) : LtT (.str s) (.str t) := ⟨_, rfl⟩
theorem LtT.int (s t : Int) : LtT (.int s) (.int t) := ⟨_, rfl⟩
theorem LtL.of {as : List W} : ∀ {bs : List W}, (∀ a ∈ as, isK a = true) → (∀ b ∈ bs, isK b = true) → (∀ a ∈ as, ∀ b ∈ bs, LtT a b) → LtL as bs := by
  induction as with
  | nil => intro bs _ _ _; exact LtL.nil bs
  | cons a as ih =>
    intro bs ka kb h
    cases bs with
    | nil => exact LtL.nil' a as
    | cons b bs =>
      exact LtL.cons (ka a List.mem_cons_self) (kb b List.mem_cons_self) (h a List.mem_cons_self b List.mem_cons_self) fun _ =>
        ih (fun x hx => ka x (List.mem_cons_of_mem _ hx)) (fun x hx => kb x (List.mem_cons_of_mem _ hx)) fun x hx y hy => h x (List.mem_cons_of_mem _ hx) y (List.mem_cons_of_mem _ hy)
/-- tags that differ -/
theorem LtT.tags {s t : Tx} {as bs : List W} (h : s ≠ t) : LtT (.tup (.str s :: as)) (.tup (.str t :: bs)) := LtT.tup (LtL.cons rfl rfl (LtT.str s t) fun e => absurd (by injection e) h)
theorem LtT.same {s : Tx} {as bs : List W} (h : LtL as bs) : LtT (.tup (.str s :: as)) (.tup (.str s :: bs)) := LtT.tup (LtL.cons rfl rfl (LtT.str s s) fun _ => h)
theorem Tm.lt {a : W} (h : Tm a) : ∀ {b : W}, Tm b → LtT a b := by
  induction h with
  | name s =>
    intro b hb
    cases hb with
    | name t => exact LtT.same (LtL.cons rfl rfl (LtT.str s t) fun _ => LtL.nil _)
    | call f ts h => exact LtT.tags (by decide)
  | call f ts hts ih =>
    intro b hb
    cases hb with
    | name t => exact LtT.tags (by decide)
    | call g us h =>
      exact LtT.same (LtL.cons rfl rfl (LtT.str f g) fun _ => LtL.cons (isK_tup.mpr fun t ht => (hts t ht).K) (isK_tup.mpr fun t ht => (h t ht).K)
        (LtT.tup (LtL.of (fun t ht => (hts t ht).K) (fun t ht => (h t ht).K) fun t ht u hu => ih t ht (h u hu))) fun _ => LtL.nil _)
theorem LtT.pair (n d n' d' : Int) : LtT (.tup [.int n, .int d]) (.tup [.int n', .int d']) := LtT.tup (LtL.cons rfl rfl (LtT.int n n') fun _ => LtL.cons rfl rfl (LtT.int d d') fun _ => LtL.nil _)
theorem Mo.lt {a b : W} (ha : Mo a) (hb : Mo b) : LtT a b := by
  cases ha with
  | mk t n d h =>
    cases hb with
    | mk t' n' d' h' => exact LtT.tup (LtL.cons h.K h'.K (h.lt h') fun _ => LtL.cons rfl rfl (LtT.pair n d n' d') fun _ => LtL.nil _)
theorem At.lt {a b : W} (ha : At a) (hb : At b) : LtT a b := by
  cases ha with
  | flag s =>
    cases hb with
    | flag t => exact LtT.same (LtL.cons rfl rfl (LtT.str s t) fun _ => LtL.nil _)
    | like _ _ _ _ => exact LtT.tags (by decide)
    | most _ _ _ _ => exact LtT.tags (by decide)
  | like x y hx hy =>
    cases hb with
    | flag t => exact LtT.tags (by decide)
    | like x' y' hx' hy' => exact LtT.same (LtL.cons hx.K hx'.K (hx.lt hx') fun _ => LtL.cons hy.K hy'.K (hy.lt hy') fun _ => LtL.nil _)
    | most _ _ _ _ => exact LtT.tags (by decide)
  | most ps n d hp =>
    cases hb with
    | flag t => exact LtT.tags (by decide)
    | like _ _ _ _ => exact LtT.tags (by decide)
    | most qs n' d' hq =>
      exact LtT.same (LtL.cons (isK_tup.mpr fun t ht => (hp t ht).K) (isK_tup.mpr fun t ht => (hq t ht).K) (LtT.tup (LtL.of (fun t ht => (hp t ht).K) (fun t ht => (hq t ht).K) fun t ht u hu => (hp t ht).lt (hq u hu)))
        fun _ => LtL.cons rfl rfl (LtT.pair n d n' d') fun _ => LtL.nil _)
theorem Wi.lt {a : W} (ha : Wi a) : ∀ {b : W}, Wi b → LtT a b := by
  have atTag : ∀ {w : W} {t : Tx} {r : List W}, At w → t = cNot ∨ t = cBoth ∨ t = cEith → LtT w (.tup (.str t :: r)) ∧ LtT (.tup (.str t :: r)) w := by
    intro w t r h ht
    have : ∃ s q, w = .tup (.str s :: q) ∧ (s = cFlag ∨ s = cLike ∨ s = cMost) := by
      cases h with
      | flag s => exact ⟨_, _, rfl, .inl rfl⟩
      | like _ _ _ _ => exact ⟨_, _, rfl, .inr (.inl rfl)⟩
      | most _ _ _ _ => exact ⟨_, _, rfl, .inr (.inr rfl)⟩
    obtain ⟨s, q, rfl, hs⟩ := this
    have hne : s ≠ t := by rcases hs with rfl | rfl | rfl <;> rcases ht with rfl | rfl | rfl <;> decide
    exact ⟨LtT.tags hne, LtT.tags hne.symm⟩
  induction ha with
  | at_ w h =>
    intro b hb
    cases hb with
    | at_ _ h' => exact h.lt h'
    | no _ _ => exact (atTag h (.inl rfl)).1
    | both _ _ => exact (atTag h (.inr (.inl rfl))).1
    | eith _ _ => exact (atTag h (.inr (.inr rfl))).1
  | no w hw ih =>
    intro b hb
    cases hb with
    | at_ _ h' => exact (atTag h' (.inl rfl)).2
    | no w' hw' => exact LtT.same (LtL.cons hw.K hw'.K (ih hw') fun _ => LtL.nil _)
    | both _ _ => exact LtT.tags (by decide)
    | eith _ _ => exact LtT.tags (by decide)
  | both ws hws ih =>
    intro b hb
    cases hb with
    | at_ _ h' => exact (atTag h' (.inr (.inl rfl))).2
    | no _ _ => exact LtT.tags (by decide)
    | both us hus => exact LtT.same (LtL.cons (isK_tup.mpr fun t ht => (hws t ht).K) (isK_tup.mpr fun t ht => (hus t ht).K) (LtT.tup (LtL.of (fun t ht => (hws t ht).K) (fun t ht => (hus t ht).K) fun t ht u hu => ih t ht (hus u hu))) fun _ => LtL.nil _)
    | eith _ _ => exact LtT.tags (by decide)
  | eith ws hws ih =>
    intro b hb
    cases hb with
    | at_ _ h' => exact (atTag h' (.inr (.inr rfl))).2
    | no _ _ => exact LtT.tags (by decide)
    | both _ _ => exact LtT.tags (by decide)
    | eith us hus => exact LtT.same (LtL.cons (isK_tup.mpr fun t ht => (hws t ht).K) (isK_tup.mpr fun t ht => (hus t ht).K) (LtT.tup (LtL.of (fun t ht => (hws t ht).K) (fun t ht => (hus t ht).K) fun t ht u hu => ih t ht (hus u hu))) fun _ => LtL.nil _)
/-! what < tells is enough to sort -/
theorem Ltp_irr {u v : List Int} (h : Ltp u v) (k : Ltp v u) : False := by
  have h1 := h.lt
  have h2 := ltI_asym _ _ k.lt
  rw [h1] at h2
  cases h2
theorem cmp2_of {a b : W} (h : LtT a b) (k : LtT b a) : cmp2 a b = true := by
  obtain ⟨x, hx⟩ := h
  obtain ⟨y, hy⟩ := k
  unfold cmp2
  rw [hx, hy]
  dsimp only
  split
  · rfl
  · rename_i ne
    obtain ⟨h1, h2⟩ := ltD_tok a b x hx
    obtain ⟨k1, k2⟩ := ltD_tok b a y hy
    cases x <;> cases y <;> first | rfl | exfalso
    · rcases h2 rfl with e | e
      · exact ne e
      · rcases k2 rfl with e' | e'
        · exact ne e'.symm
        · exact Ltp_irr e e'
    · exact Ltp_irr (h1 rfl) (k1 rfl)
theorem cmpAll_of {ws : List W} (hd : ∀ w ∈ ws, isD w = true ∧ dep w ≤ 58) (h : ∀ a ∈ ws, ∀ b ∈ ws, LtT a b) : cmpAll ws = true := by
  unfold cmpAll
  rw [List.all_eq_true]
  intro a ha
  rw [Bool.and_eq_true, Bool.and_eq_true]
  refine ⟨⟨(hd a ha).1, decide_eq_true (hd a ha).2⟩, ?_⟩
  rw [List.all_eq_true]
  exact fun b hb => cmp2_of (h a ha b hb) (h b hb a ha)
/-- a literal: a wish and a truth -/
theorem LtT.lit {a b : W} (ha : Wi a) (hb : Wi b) (x y : Bool) : LtT (.tup [a, .bl x]) (.tup [b, .bl y]) := by
  refine LtT.tup ?_
  unfold LtL ltDs
  by_cases e : a = b
  · rw [if_pos e]
    unfold ltDs
    by_cases e2 : (W.bl x) = W.bl y
    · rw [if_pos e2]
      exact ⟨_, rfl⟩
    · rw [if_neg e2]
      have : eqD (.bl x) (.bl y) = false := by
        have : x ≠ y := fun z => e2 (by rw [z])
        cases x <;> cases y <;> first | exact absurd rfl this | rfl
      rw [this]
      exact ⟨_, rfl⟩
  · rw [if_neg e, eqD_K ha.K hb.K, if_neg (by simpa using e)]
    exact ha.lt hb
end Sw

set_option autoImplicit false
set_option linter.all false
set_option maxRecDepth 10000
/-! The text that repr makes of plain data. -/
namespace Sw
open PySem
def plC (c : Nat) : Bool := decide (97 ≤ c) && decide (c ≤ 122)
mutual
def plW : W → Bool
  | .int i => decide (-100000 ≤ i) && decide (i ≤ 100000)
  | .str s => decide (s.length ≤ 8) && s.all plC
  | .tup ws => plWs ws
  | _ => false
def plWs : List W → Bool
  | [] => true
  | w :: ws => plW w && plWs ws
end
theorem plWs_mem : ∀ {ws : List W}, plWs ws = true ↔ ∀ w ∈ ws, plW w = true
  | [] => by simp [plWs]
  | w :: ws => by simp [plWs, plWs_mem (ws := ws)]
mutual
def sz : W → Nat
  | .tup ws => szs ws + 1
  | _ => 1
def szs : List W → Nat
  | [] => 0
  | w :: ws => sz w + szs ws
end
def dec (i : Int) : Tx := (toString i).toList.map Char.toNat
mutual
def rc : W → Tx
  | .int i => dec i
  | .str s => 39 :: (s ++ [39])
  | .tup ws => 40 :: (rcs ws ++ (if ws.length = 1 then [44, 41] else [41]))
  | _ => []
def rcs : List W → Tx
  | [] => []
  | w :: ws => rc w ++ (match ws with
    | [] => []
    | _ => 44 :: 32 :: rcs ws)
end
theorem str_app (a b : Str) : (a ++ b).cps.toList = a.cps.toList ++ b.cps.toList := by
  show (a.cps ++ b.cps).toList = _
  simp
theorem join_cps : ∀ xs : List Str, (Str.join ", " xs).cps.toList = (match xs with
    | [] => []
    | x :: xs => x.cps.toList ++ (xs.map fun y => 44 :: 32 :: y.cps.toList).flatten)
  | [] => rfl
  | [x] => by simp [Str.join]
  | x :: y :: xs => by
    have ih := join_cps (y :: xs)
    show (x ++ (", " : Str) ++ Str.join ", " (y :: xs)).cps.toList = _
    rw [str_app, str_app, ih]
    have : (", " : Str).cps.toList = [44, 32] := by decide
    rw [this]
    simp
theorem rcs_eq : ∀ ws : List W, rcs ws = (match ws with
    | [] => []
    | w :: ws => rc w ++ (ws.map fun y => 44 :: 32 :: rc y).flatten)
  | [] => rfl
  | [w] => by simp [rcs]
  | w :: v :: ws => by
    have ih := rcs_eq (v :: ws)
    show rc w ++ (44 :: 32 :: rcs (v :: ws)) = _
    rw [ih]
    simp
theorem quote_pl {s : Tx} (h : s.all plC = true) : reprQuote (tx s) = 39 := by
  unfold reprQuote
  have : (tx s).cps.contains 39 = false := by
    show s.toArray.contains 39 = false
    rw [List.contains_toArray]
    cases e : s.contains 39 with
    | false => rfl
    | true =>
      have := List.all_eq_true.mp h 39 (by simpa using e)
      simp [plC] at this
  rw [this]
  rfl
theorem char_pl : ∀ c : Nat, c < 123 → 97 ≤ c → Builtin.Str.reprChar 39 c = [c] := by decide +kernel
theorem text_pl {s : Tx} (h : s.all plC = true) : (reprText (tx s)).cps.toList = 39 :: (s ++ [39]) := by
  unfold reprText
  rw [quote_pl h]
  have go : ∀ (l : List Nat) (acc : Array Nat), l.all plC = true → (l.foldl (fun out c => out ++ (Builtin.Str.reprChar 39 c).toArray) acc).toList = acc.toList ++ l := by
    intro l
    induction l with
    | nil => intro acc _; simp
    | cons c l ih =>
      intro acc hl
      rw [List.all_cons, Bool.and_eq_true] at hl
      have hc := hl.1
      simp [plC] at hc
      rw [List.foldl_cons, ih _ hl.2, char_pl c (by omega) hc.1]
      simp
  simp only [Array.toList_push]
  rw [← Array.foldl_toList, go _ _ (by simpa using h)]
  simp
theorem int_text (i : Int) : (PyData.shown (.int i)).cps.toList = dec i := by
  rw [PyData.shown_int]
  show (Str.ofString (toString i)).cps.toList = _
  rw [Str.ofString_eq_toList]
  rfl
theorem toDs_ln : ∀ ws : List W, (toDs ws).length = ws.length
  | [] => rfl
  | w :: ws => by rw [toDs, List.length_cons, List.length_cons, toDs_ln ws]
mutual
theorem rep_rc : ∀ w : W, plW w = true → (PyData.shown (toD w)).cps.toList = rc w
  | .int i, _ => int_text i
  | .str s, h => by
    simp only [plW, Bool.and_eq_true] at h
    show (PyData.shown (.str (tx s))).cps.toList = _
    rw [PyData.shown_str, text_pl h.2]
    rfl
  | .tup ws, h => by
    have h : plWs ws = true := h
    have hm : hasM ws = false := by
      cases ws with
      | nil => rfl
      | cons w ws => cases w <;> first | rfl | (simp [plWs, plW] at h)
    rw [toD_tup hm, PyData.shown_tuple, str_app, str_app, join_cps]
    have hl : (toDs ws).length = ws.length := toDs_ln ws
    have e1 : ("(" : Str).cps.toList = [40] := by decide
    have e2 : ∀ b : Bool, ((if b = true then ",)" else ")" : String) : Str).cps.toList = if b = true then [44, 41] else [41] := by decide
    rw [e1, e2, hl]
    have hs := reps_rc ws h
    unfold rc
    rw [rcs_eq]
    cases ws with
    | nil => rfl
    | cons w ws =>
      simp only [toDs, PyData.shownAll, List.map_cons, List.cons.injEq] at hs
      simp only [toDs, PyData.shownAll]
      rw [hs.1]
      have e3 : ((PyData.shownAll (toDs ws)).map fun y => 44 :: 32 :: y.cps.toList) = ws.map fun y => 44 :: 32 :: rc y := by
        have := congrArg (List.map fun z : Tx => 44 :: 32 :: z) hs.2
        rw [List.map_map, List.map_map] at this
        exact this
      rw [e3]
      simp
  | .non, h => by simp [plW] at h
  | .bl _, h => by simp [plW] at h
  | .ref _, h => by simp [plW] at h
  | .scr _, h => by simp [plW] at h
theorem reps_rc : ∀ ws : List W, plWs ws = true → (PyData.shownAll (toDs ws)).map (fun x => x.cps.toList) = ws.map rc
  | [], _ => rfl
  | w :: ws, h => by
    unfold plWs at h
    rw [Bool.and_eq_true] at h
    simp only [toDs, PyData.shownAll, List.map_cons]
    rw [rep_rc w h.1, reps_rc ws h.2]
end
/-! ### how long -/
theorem dec_len {i : Int} (h : -100000 ≤ i ∧ i ≤ 100000) : (dec i).length ≤ 13 := by
  rw [← int_text]
  have := PyData.shown_int_le (i := i) (by omega)
  exact this
mutual
theorem rc_len : ∀ w : W, plW w = true → (rc w).length + 2 ≤ 16 * sz w
  | .int i, h => by
    simp only [plW, Bool.and_eq_true, decide_eq_true_eq] at h
    have := dec_len h
    simp only [rc, sz]
    omega
  | .str s, h => by
    simp only [plW, Bool.and_eq_true, decide_eq_true_eq] at h
    simp [rc, sz]
    omega
  | .tup ws, h => by
    have := rcs_len ws h
    simp only [rc, sz]
    split <;> simp <;> omega
  | .non, h => by simp [plW] at h
  | .bl _, h => by simp [plW] at h
  | .ref _, h => by simp [plW] at h
  | .scr _, h => by simp [plW] at h
theorem rcs_len : ∀ ws : List W, plWs ws = true → (rcs ws).length ≤ 16 * szs ws
  | [], _ => by simp [rcs]
  | w :: ws, h => by
    unfold plWs at h
    rw [Bool.and_eq_true] at h
    have h1 := rc_len w h.1
    have h2 := rcs_len ws h.2
    unfold rcs szs
    cases ws with
    | nil => simp; omega
    | cons v vs => simp at h2 ⊢; omega
end
mutual
theorem showable_pl : ∀ w : W, plW w = true → PyData.showable (toD w) = true
  | .int i, h => by
    simp only [plW, Bool.and_eq_true, decide_eq_true_eq] at h
    show decide (i.natAbs.log2 < 1920) = true
    have := log_sm (a := i) (by omega) (by omega)
    exact decide_eq_true (by omega)
  | .str s, h => rfl
  | .tup ws, h => by
    have h : plWs ws = true := h
    have hm : hasM ws = false := by
      cases ws with
      | nil => rfl
      | cons w ws => cases w <;> first | rfl | (simp [plWs, plW] at h)
    rw [toD_tup hm]
    exact showables_pl ws h
  | .non, h => by simp [plW] at h
  | .bl _, h => by simp [plW] at h
  | .ref _, h => by simp [plW] at h
  | .scr _, h => by simp [plW] at h
theorem showables_pl : ∀ ws : List W, plWs ws = true → PyData.showableAll (toDs ws) = true
  | [], _ => rfl
  | w :: ws, h => by
    unfold plWs at h
    rw [Bool.and_eq_true] at h
    simp only [toDs, PyData.showableAll, Bool.and_eq_true]
    exact ⟨showable_pl w h.1, showables_pl ws h.2⟩
end
/-! ### the text tells what it is of -/
def Stop (r : Tx) : Prop := ∃ c t, r = c :: t ∧ (c = 44 ∨ c = 41)
def Endt (t : Tx) : Prop := (∃ u, t = 41 :: u) ∨ ∃ u, t = 44 :: 41 :: u
theorem split_at {P : Nat → Prop} : ∀ (a b r r' : Tx), (∀ c ∈ a, ¬ P c) → (∀ c ∈ b, ¬ P c) → (∃ c t, r = c :: t ∧ P c) → (∃ c t, r' = c :: t ∧ P c) → a ++ r = b ++ r' → a = b ∧ r = r'
  | [], [], r, r', _, _, _, _, h => ⟨rfl, h⟩
  | [], c :: b, r, r', _, hb, ⟨x, t, e, p⟩, _, h => by
    subst e
    simp at h
    exact absurd (h.1 ▸ p) (hb c List.mem_cons_self)
  | c :: a, [], r, r', ha, _, _, ⟨x, t, e, p⟩, h => by
    subst e
    simp at h
    exact absurd (h.1.symm ▸ p) (ha c List.mem_cons_self)
  | c :: a, d :: b, r, r', ha, hb, hr, hr', h => by
    simp only [List.cons_append, List.cons.injEq] at h
    obtain ⟨e1, e2⟩ := split_at a b r r' (fun z hz => ha z (List.mem_cons_of_mem _ hz)) (fun z hz => hb z (List.mem_cons_of_mem _ hz)) hr hr' h.2
    exact ⟨by rw [h.1, e1], e2⟩
theorem nat_chars (m : Nat) : ∀ c ∈ m.repr.toList.map Char.toNat, 48 ≤ c ∧ c ≤ 57 := by
  intro c hc
  obtain ⟨d, hd, rfl⟩ := List.mem_map.mp hc
  have : m.repr.toList = Nat.toDigits 10 m := by simp [Nat.repr]
  rw [this] at hd
  have := Nat.isDigit_of_mem_toDigits (by decide) (by decide) hd
  simp only [Char.isDigit, Bool.and_eq_true, decide_eq_true_eq, ge_iff_le] at this
  exact ⟨by have := this.1; exact this, by have := this.2; exact this⟩
theorem nat_ne (m : Nat) : m.repr.toList.map Char.toNat ≠ [] := by
  intro e
  have e1 : m.repr.toList = Nat.toDigits 10 m := by simp [Nat.repr]
  rw [e1] at e
  exact Nat.toDigits_ne_nil (List.map_eq_nil_iff.mp e)
theorem dec_chars (i : Int) : (∀ c ∈ dec i, c = 45 ∨ 48 ≤ c ∧ c ≤ 57) ∧ dec i ≠ [] := by
  unfold dec
  rw [Int.toString_eq_repr, Int.repr_eq_if]
  split
  · exact ⟨fun c hc => .inr (nat_chars _ c hc), nat_ne _⟩
  · rw [String.toList_append, List.map_append]
    have : ("-" : String).toList.map Char.toNat = [45] := by decide
    rw [this]
    refine ⟨fun c hc => ?_, by simp⟩
    rcases List.mem_append.mp hc with hc | hc
    · exact .inl (List.mem_singleton.mp hc)
    · exact .inr (nat_chars _ c hc)
theorem dec_inj {i j : Int} (h : dec i = dec j) : i = j := by
  unfold dec at h
  have : (toString i).toList = (toString j).toList := by
    have inj : ∀ (a b : List Char), a.map Char.toNat = b.map Char.toNat → a = b := by
      intro a
      induction a with
      | nil => intro b h; cases b <;> simp_all
      | cons x a ih =>
        intro b h
        cases b with
        | nil => simp at h
        | cons y b =>
          simp only [List.map_cons, List.cons.injEq] at h
          rw [Char.toNat_inj.mp h.1, ih b h.2]
    exact inj _ _ h
  have e := String.toList_inj.mp this
  rw [Int.toString_eq_repr, Int.toString_eq_repr] at e
  exact Int.repr_injective e
def tlw : List W → Tx
  | [] => []
  | v :: vs => 44 :: 32 :: rcs (v :: vs)
theorem rcs_cons (w : W) (ws : List W) : rcs (w :: ws) = rc w ++ tlw ws := by cases ws <;> rfl
theorem rcs_nil : rcs [] = [] := rfl
/-- how a text begins -/
theorem rc_head : ∀ w : W, plW w = true → ∃ c t, rc w = c :: t ∧ c ≠ 41 ∧ c ≠ 44
  | .int i, _ => by
    obtain ⟨h1, h2⟩ := dec_chars i
    unfold rc
    cases e : dec i with
    | nil => exact absurd e h2
    | cons c t =>
      have := h1 c (by rw [e]; exact List.mem_cons_self)
      exact ⟨c, t, rfl, by omega, by omega⟩
  | .str s, _ => ⟨39, _, rfl, by decide, by decide⟩
  | .tup ws, _ => ⟨40, _, rfl, by decide, by decide⟩
  | .non, h => by simp [plW] at h
  | .bl _, h => by simp [plW] at h
  | .ref _, h => by simp [plW] at h
  | .scr _, h => by simp [plW] at h
theorem int_head {i : Int} {r u : Tx} {x : Nat} (hr : Stop r) (hx : x = 39 ∨ x = 40) (h : dec i ++ r = x :: u) : False := by
  obtain ⟨c, t, e, hc⟩ := hr
  cases e1 : dec i with
  | nil => exact (dec_chars i).2 e1
  | cons d ds =>
    rw [e1] at h
    simp only [List.cons_append, List.cons.injEq] at h
    have := (dec_chars i).1 d (by rw [e1]; exact List.mem_cons_self)
    omega
mutual
theorem rc_inj : ∀ (w w' : W) (r r' : Tx), plW w = true → plW w' = true → Stop r → Stop r' → rc w ++ r = rc w' ++ r' → w = w' ∧ r = r'
  | .int i, w', r, r', h, h', hr, hr', e => by
    cases w' with
    | int j =>
      have g : ∀ k : Int, ∀ c ∈ dec k, ¬ (c = 44 ∨ c = 41) := fun k c hc => by
        have := (dec_chars k).1 c hc
        omega
      obtain ⟨e1, e2⟩ := split_at (P := fun c => c = 44 ∨ c = 41) (dec i) (dec j) r r' (g i) (g j) hr hr' e
      exact ⟨by rw [dec_inj e1], e2⟩
    | str s => exact (int_head hr (.inl rfl) e).elim
    | tup ws => exact (int_head hr (.inr rfl) e).elim
    | _ => simp [plW] at h'
  | .str s, w', r, r', h, h', hr, hr', e => by
    cases w' with
    | int j => exact (int_head hr' (.inl rfl) e.symm).elim
    | str s' =>
      simp only [plW, Bool.and_eq_true] at h h'
      have g : ∀ {s : Tx}, s.all plC = true → ∀ c ∈ s, ¬ c = 39 := fun hs c hc => by
        have := List.all_eq_true.mp hs c hc
        simp [plC] at this
        omega
      simp only [rc, List.cons_append, List.cons.injEq, true_and, List.append_assoc, List.nil_append] at e
      obtain ⟨e1, e2⟩ := split_at (P := fun c => c = 39) s s' (39 :: r) (39 :: r') (g h.2) (g h'.2) ⟨39, r, rfl, rfl⟩ ⟨39, r', rfl, rfl⟩ e
      simp only [List.cons.injEq, true_and] at e2
      exact ⟨by rw [e1], e2⟩
    | tup ws => simp [rc] at e
    | _ => simp [plW] at h'
  | .tup ws, w', r, r', h, h', hr, hr', e => by
    cases w' with
    | int j => exact (int_head hr' (.inr rfl) e.symm).elim
    | str s' => simp [rc] at e
    | tup ws' =>
      simp only [rc, List.cons_append, List.cons.injEq, true_and, List.append_assoc] at e
      have en : ∀ {n : Nat} {r : Tx}, Endt ((if n = 1 then [44, 41] else [41]) ++ r) := fun {n r} => by
        split
        · exact .inr ⟨r, rfl⟩
        · exact .inl ⟨r, rfl⟩
      obtain ⟨e1, e2⟩ := rcs_inj ws ws' _ _ h h' en en e
      subst e1
      exact ⟨rfl, List.append_cancel_left e2⟩
    | _ => simp [plW] at h'
  | .non, _, _, _, h, _, _, _, _ => by simp [plW] at h
  | .bl _, _, _, _, h, _, _, _, _ => by simp [plW] at h
  | .ref _, _, _, _, h, _, _, _, _ => by simp [plW] at h
  | .scr _, _, _, _, h, _, _, _, _ => by simp [plW] at h
theorem rcs_inj : ∀ (ws ws' : List W) (t t' : Tx), plWs ws = true → plWs ws' = true → Endt t → Endt t' → rcs ws ++ t = rcs ws' ++ t' → ws = ws' ∧ t = t'
  | [], [], t, t', _, _, _, _, e => ⟨rfl, e⟩
  | [], w :: ws, t, t', _, h', ht, _, e => by
    simp only [plWs, Bool.and_eq_true] at h'
    obtain ⟨c, u, e1, n1, n2⟩ := rc_head w h'.1
    rw [rcs_nil, rcs_cons, e1] at e
    rcases ht with ⟨u', rfl⟩ | ⟨u', rfl⟩
    · simp at e; exact absurd e.1.symm n1
    · simp at e; exact absurd e.1.symm n2
  | w :: ws, [], t, t', h, _, _, ht, e => by
    simp only [plWs, Bool.and_eq_true] at h
    obtain ⟨c, u, e1, n1, n2⟩ := rc_head w h.1
    rw [rcs_nil, rcs_cons, e1] at e
    rcases ht with ⟨u', rfl⟩ | ⟨u', rfl⟩
    · simp at e; exact absurd e.1 n1
    · simp at e; exact absurd e.1 n2
  | w :: ws, w' :: ws', t, t', h, h', ht, ht', e => by
    simp only [plWs, Bool.and_eq_true] at h h'
    have st : ∀ {ws : List W} {t : Tx}, Endt t → Stop (tlw ws ++ t) := fun {ws t} ht => by
      cases ws with
      | nil =>
        rcases ht with ⟨u, rfl⟩ | ⟨u, rfl⟩
        · exact ⟨41, u, rfl, .inr rfl⟩
        · exact ⟨44, 41 :: u, rfl, .inl rfl⟩
      | cons v vs => exact ⟨44, _, rfl, .inl rfl⟩
    rw [rcs_cons, rcs_cons, List.append_assoc, List.append_assoc] at e
    obtain ⟨e1, e2⟩ := rc_inj w w' _ _ h.1 h'.1 (st ht) (st ht') e
    subst e1
    cases ws with
    | nil =>
      cases ws' with
      | nil => exact ⟨rfl, e2⟩
      | cons v vs =>
        exfalso
        rcases ht with ⟨u, rfl⟩ | ⟨u, rfl⟩ <;> simp [tlw] at e2
    | cons v vs =>
      cases ws' with
      | nil =>
        exfalso
        rcases ht' with ⟨u, rfl⟩ | ⟨u, rfl⟩ <;> simp [tlw] at e2
      | cons v' vs' =>
        simp only [tlw, List.cons_append, List.cons.injEq, true_and] at e2
        obtain ⟨e3, e4⟩ := rcs_inj (v :: vs) (v' :: vs') t t' h.2 h'.2 ht ht' e2
        exact ⟨by rw [e3], e4⟩
end
theorem rep_inj {w w' : W} (h : plW w = true) (h' : plW w' = true) (e : rep w = rep w') : w = w' := by
  have e : rc w = rc w' := by rw [← rep_rc w h, ← rep_rc w' h']; exact e
  exact (rc_inj w w' [41] [41] h h' ⟨41, [], rfl, .inr rfl⟩ ⟨41, [], rfl, .inr rfl⟩ (by rw [e])).1
theorem rep_len {w : W} (h : plW w = true) : (rep w).length ≤ 16 * sz w := by
  have e : rep w = rc w := rep_rc w h
  have := rc_len w h
  rw [e]
  omega
/-- repr of plain data -/
theorem Ok_repr {ws : List W} {M : Mem} {Q : W → Mem → Prop} (h : plW (.tup ws) = true) (hd : dep (.tup ws) ≤ 58) (hs : sz (.tup ws) ≤ 60000) (hD : isD (.tup ws) = true) : Ok (uRepr (.tup ws) M) Q ↔ Q (.str (rep (.tup ws))) M := by
  have h1 := showable_pl _ h
  have h2 := rep_len h
  unfold uRepr
  have hD : isDs ws = true := hD
  simp only [hD, hd, h1, many_iff.mpr (show (rep (.tup ws)).length ≤ 1000000 by omega), decide_true, Bool.and_self, if_true, Ok_ok]
end Sw

set_option autoImplicit false
set_option linter.all false
/-! The pure bodies. -/
namespace Sw.smallword_k77_opening_steps
open Sw
/-- put_once(found, things); slots 0 found, 1 things, 2 thing -/
def b0 (orc : Orc) : SM :=
  (sFor (.one 2) (iSeq (eV 1)) (sIf (eOp oNi (eV 2) (eV 0)) (sExp (eM 2 fAppend (eV 0) [(eV 2)])) sPass))
/-- lit(wish, truth); slots 0 wish, 1 truth -/
def b1 (orc : Orc) : SM :=
  (sSeq (sWhile 100000 (eOp oEq (eOp oIx (eV 0) (eC (.int 0))) (eC (.str [110, 111, 116]))) (sSeq (sAsg (.one 0) (eOp oIx (eV 0) (eC (.int 1))))
  (sAsg (.one 1) (eUn uNot (eV 1)))))
  (sRet (eTup [(eV 0), (eV 1)])))
/-- row_of(literals); slots 0 literals, 1 found, 2 literal -/
def b2 (orc : Orc) : SM :=
  (sSeq (sAsg (.one 1) (eNew (eAs [])))
  (sSeq (sFor (.one 2) (iNew (lSorted (lstOf (eV 0)))) (sIf (eOr (eOp oEq (eV 1) (eNew (eAs []))) (eOp oNe (eV 2) (eOp oIx (eV 1) (eUn uNeg (eC (.int 1)))))) (sExp (eM 2 fAppend (eV 1) [(eV 2)])) sPass))
  (sRet (eTuple (lOf (eV 1))))))
/-- openings(thing); slots 0 thing, 1 truth, 2 found, 3 wish -/
def b3 (orc : Orc) : SM :=
  (sSeq (sIf (eAnd (eOp oNe (eOp oIx (eV 0) (eC (.int 0))) (eC (.str [98, 111, 116, 104]))) (eOp oNe (eOp oIx (eV 0) (eC (.int 0))) (eC (.str [101, 105, 116, 104, 101, 114])))) (sRet (eNew (eAs []))) sPass)
  (sSeq (sAsg (.one 1) (eOp oEq (eOp oIx (eV 0) (eC (.int 0))) (eC (.str [98, 111, 116, 104]))))
  (sSeq (sAsg (.one 2) (eNew (lComp (iSeq (eOp oIx (eV 0) (eC (.int 1)))) (.one 3) (eC (.bl true)) (eCall orc 2 [(eNew (eAs [(eTup [(eV 0), (eUn uNot (eV 1))]), (eCall orc 1 [(eV 3), (eV 1)])]))]))))
  (sSeq (sExp (eM 2 fAppend (eV 2) [(eCall orc 2 [(eOp oAdd (eNew (eAs [(eTup [(eV 0), (eV 1)])])) (eNew (lComp (iSeq (eOp oIx (eV 0) (eC (.int 1)))) (.one 3) (eC (.bl true)) (eCall orc 1 [(eV 3), (eUn uNot (eV 1))]))))])]))
  (sRet (eV 2))))))
/-- right_within(wish); slots 0 wish -/
def b4 (orc : Orc) : SM :=
  (sSeq (sIf (eOp oEq (eOp oIx (eV 0) (eC (.int 0))) (eC (.str [110, 111, 116]))) (sRet (eTup [(eOp oIx (eV 0) (eC (.int 1)))])) sPass)
  (sSeq (sIf (eOr (eOp oEq (eOp oIx (eV 0) (eC (.int 0))) (eC (.str [98, 111, 116, 104]))) (eOp oEq (eOp oIx (eV 0) (eC (.int 0))) (eC (.str [101, 105, 116, 104, 101, 114])))) (sRet (eOp oIx (eV 0) (eC (.int 1)))) sPass)
  (sRet (eTup []))))
/-- parts_of(wish); slots 0 wish, 1 found, 2 one -/
def b5 (orc : Orc) : SM :=
  (sSeq (sAsg (.one 1) (eNew (eAs [])))
  (sSeq (sFor (.one 2) (iSeq (eCall orc 4 [(eV 0)])) (sExp (eCall orc 0 [(eV 1), (eCall orc 5 [(eV 2)])])))
  (sSeq (sExp (eCall orc 0 [(eV 1), (eNew (eAs [(eV 0)]))]))
  (sRet (eV 1)))))
/-- opened(wishes); slots 0 wishes, 1 steps, 2 seen, 3 wish, 4 thing, 5 k -/
def b6 (orc : Orc) : SM :=
  (sSeq (sAsg (.one 1) (eNew (lComp (iRange1 (eUn uLen (eV 0))) (.one 5) (eC (.bl true)) (eTup [(eC (.str [119, 105, 115, 104])), (eV 5)]))))
  (sSeq (sAsg (.one 2) eDic)
  (sSeq (sFor (.one 3) (iSeq (eV 0)) (sFor (.one 4) (iSeq (eCall orc 5 [(eV 3)])) (sIf (eAnd (eOp oIn (eOp oIx (eV 4) (eC (.int 0))) (eTup [(eC (.str [98, 111, 116, 104])), (eC (.str [101, 105, 116, 104, 101, 114]))])) (eOp oNi (eUn uRepr (eV 4)) (eV 2))) (sSeq (sPut (eV 2) (eUn uRepr (eV 4)) (eC (.bl true)))
  (sFor (.one 5) (iRange1 (eUn uLen (eCall orc 3 [(eV 4)]))) (sExp (eM 2 fAppend (eV 1) [(eTup [(eC (.str [111, 112, 101, 110])), (eV 4), (eV 5)])])))) sPass)))
  (sRet (eV 1)))))
/-- _law_draw(script, k, many); slots 0 script, 1 k, 2 many, 3 cell, 4 seed -/
def b7 (orc : Orc) : SM :=
  (sSeq (sAsg (.one 3) (eIf (eOp oGt (eUn uLen (eV 0)) (eC (.int 0))) (eOp oIx (eV 0) (eOp oMod (eV 1) (eUn uLen (eV 0)))) (eC (.int 0))))
  (sSeq (sIf (eAnd (eOp oGt (eUn uLen (eV 0)) (eC (.int 0))) (eOp oEq (eOp oMod (eOp oIx (eV 0) (eC (.int 0))) (eC (.int 2))) (eC (.int 1)))) (sRet (eOp oMod (eOp oMod (eOp oShr (eV 3) (eOp oAdd (eOp oMul (eC (.int 20)) (eOp oDiv (eV 1) (eUn uLen (eV 0)))) (eC (.int 1)))) (eC (.int 1048576))) (eV 2))) sPass)
  (sSeq (sAsg (.one 4) (eOp oAdd (eOp oAdd (eOp oMod (eV 3) (eC (.int 1000003))) (eOp oMul (eOp oMul (eC (.int 31)) (eV 1)) (eV 1))) (eC (.int 1))))
  (sRet (eOp oMod (eOp oMod (eOp oMul (eOp oMod (eOp oMul (eV 4) (eC (.int 48271))) (eC (.int 999983))) (eC (.int 7919))) (eC (.int 524287))) (eV 2))))))
/-- _law_term(script, k); slots 0 script, 1 k, 2 names, 3 one, 4 way -/
def b8 (orc : Orc) : SM :=
  (sSeq (sAsg (.one 2) (eNew (eAs [(eTup [(eC (.str [110, 97, 109, 101])), (eC (.str [97]))]), (eTup [(eC (.str [110, 97, 109, 101])), (eC (.str [98]))]), (eTup [(eC (.str [110, 97, 109, 101])), (eC (.str [97, 98]))]), (eTup [(eC (.str [110, 97, 109, 101])), (eC (.str [102]))])])))
  (sSeq (sAsg (.one 3) (eOp oIx (eV 2) (eCall orc 7 [(eV 0), (eV 1), (eC (.int 4))])))
  (sSeq (sAsg (.one 4) (eCall orc 7 [(eV 0), (eOp oAdd (eV 1) (eC (.int 1))), (eC (.int 6))]))
  (sSeq (sIf (eOp oLt (eV 4) (eC (.int 3))) (sRet (eV 3)) sPass)
  (sSeq (sIf (eOp oEq (eV 4) (eC (.int 3))) (sRet (eTup [(eC (.str [99, 97, 108, 108])), (eC (.str [97])), (eTup [(eV 3), (eOp oIx (eV 2) (eC (.int 0)))])])) sPass)
  (sSeq (sIf (eOp oEq (eV 4) (eC (.int 4))) (sRet (eTup [(eC (.str [99, 97, 108, 108])), (eC (.str [102])), (eTup [(eTup [(eC (.str [99, 97, 108, 108])), (eC (.str [102])), (eTup [(eV 3)])])])])) sPass)
  (sRet (eTup [(eC (.str [99, 97, 108, 108])), (eC (.str [102])), (eTup [(eV 3)])]))))))))
/-- _law_share(script, k); slots 0 script, 1 k, 2 some -/
def b9 (orc : Orc) : SM :=
  (sSeq (sAsg (.one 2) (eNew (eAs [(eTup [(eC (.int 1)), (eC (.int 1))]), (eTup [(eUn uNeg (eC (.int 1))), (eC (.int 1))]), (eTup [(eC (.int 2)), (eC (.int 1))]), (eTup [(eUn uNeg (eC (.int 1))), (eC (.int 2))]), (eTup [(eC (.int 3)), (eC (.int 1))]), (eTup [(eUn uNeg (eC (.int 2))), (eC (.int 3))]), (eTup [(eC (.int 1)), (eC (.int 1))]), (eTup [(eUn uNeg (eC (.int 1))), (eC (.int 1))])])))
  (sSeq (sIf (eOp oEq (eCall orc 7 [(eV 0), (eOp oAdd (eV 1) (eC (.int 1))), (eC (.int 16))]) (eC (.int 0))) (sRet (eTup [(eC (.int 9999)), (eC (.int 9998))])) sPass)
  (sRet (eOp oIx (eV 2) (eCall orc 7 [(eV 0), (eV 1), (eC (.int 8))])))))
/-- _law_atom(script, k); slots 0 script, 1 k, 2 way, 3 pool, 4 shares, 5 n, 6 bound, 7 term -/
def b10 (orc : Orc) : SM :=
  (sSeq (sAsg (.one 2) (eCall orc 7 [(eV 0), (eV 1), (eC (.int 5))]))
  (sSeq (sIf (eOp oEq (eV 2) (eC (.int 0))) (sRet (eTup [(eC (.str [102, 108, 97, 103])), (eOp oIx (eNew (eAs [(eC (.str [112])), (eC (.str [113])), (eC (.str [97]))])) (eCall orc 7 [(eV 0), (eOp oAdd (eV 1) (eC (.int 1))), (eC (.int 3))]))])) sPass)
  (sSeq (sIf (eOp oLt (eV 2) (eC (.int 3))) (sRet (eTup [(eC (.str [108, 105, 107, 101])), (eCall orc 8 [(eV 0), (eOp oAdd (eV 1) (eC (.int 2)))]), (eCall orc 8 [(eV 0), (eOp oAdd (eV 1) (eC (.int 4)))])])) sPass)
  (sSeq (sAsg (.one 3) (eNew (eAs [(eTup [(eC (.str [110, 97, 109, 101])), (eC (.str [97]))]), (eTup [(eC (.str [110, 97, 109, 101])), (eC (.str [98]))]), (eTup [(eC (.str [110, 97, 109, 101])), (eC (.str [97, 98]))])])))
  (sSeq (sAsg (.one 3) (eOp oAdd (eV 3) (eNew (eAs [(eTup [(eC (.str [99, 97, 108, 108])), (eC (.str [102])), (eTup [(eOp oIx (eV 3) (eC (.int 0)))])]), (eTup [(eC (.str [99, 97, 108, 108])), (eC (.str [102])), (eTup [(eOp oIx (eV 3) (eC (.int 1)))])])]))))
  (sSeq (sAsg (.one 4) eDic)
  (sSeq (sFor (.one 5) (iRange1 (eOp oAdd (eC (.int 1)) (eCall orc 7 [(eV 0), (eOp oAdd (eV 1) (eC (.int 6))), (eC (.int 3))]))) (sPut (eV 4) (eOp oIx (eV 3) (eCall orc 7 [(eV 0), (eOp oAdd (eOp oAdd (eV 1) (eC (.int 7))) (eV 5)), (eC (.int 5))])) (eCall orc 9 [(eV 0), (eOp oAdd (eOp oAdd (eV 1) (eC (.int 10))) (eOp oMul (eC (.int 2)) (eV 5)))])))
  (sSeq (sAsg (.one 6) (eOp oIx (eNew (eAs [(eTup [(eC (.int 0)), (eC (.int 1))]), (eTup [(eC (.int 1)), (eC (.int 1))]), (eTup [(eUn uNeg (eC (.int 1))), (eC (.int 1))]), (eTup [(eC (.int 1)), (eC (.int 2))]), (eTup [(eUn uNeg (eC (.int 3))), (eC (.int 1))]), (eTup [(eC (.int 5)), (eC (.int 1))])])) (eCall orc 7 [(eV 0), (eOp oAdd (eV 1) (eC (.int 16))), (eC (.int 6))])))
  (sRet (eTup [(eC (.str [109, 111, 115, 116])), (eTuple (lSorted (lLock (eV 4) (lComp (iKeysD (eV 4)) (.one 7) (eC (.bl true)) (eTup [(eV 7), (eOp oIx (eV 4) (eV 7))]))))), (eV 6)]))))))))))
/-- _law_wish(script, k, deep, atoms); slots 0 script, 1 k, 2 deep, 3 atoms, 4 way, 5 some, 6 n -/
def b11 (orc : Orc) : SM :=
  (sSeq (sAsg (.one 4) (eCall orc 7 [(eV 0), (eV 1), (eC (.int 7))]))
  (sSeq (sIf (eOr (eOp oEq (eV 2) (eC (.int 0))) (eOp oLt (eV 4) (eC (.int 3)))) (sRet (eOp oIx (eV 3) (eCall orc 7 [(eV 0), (eOp oAdd (eV 1) (eC (.int 1))), (eUn uLen (eV 3))]))) sPass)
  (sSeq (sIf (eOp oEq (eV 4) (eC (.int 3))) (sRet (eTup [(eC (.str [110, 111, 116])), (eCall orc 11 [(eV 0), (eOp oAdd (eV 1) (eC (.int 3))), (eOp oSub (eV 2) (eC (.int 1))), (eV 3)])])) sPass)
  (sSeq (sAsg (.one 5) (eNew (lComp (iRange1 (eCall orc 7 [(eV 0), (eOp oAdd (eV 1) (eC (.int 2))), (eC (.int 4))])) (.one 6) (eC (.bl true)) (eCall orc 11 [(eV 0), (eOp oAdd (eOp oAdd (eV 1) (eC (.int 3))) (eOp oMul (eC (.int 20)) (eV 6))), (eOp oSub (eV 2) (eC (.int 1))), (eV 3)]))))
  (sRet (eTup [(eOp oIx (eNew (eAs [(eC (.str [98, 111, 116, 104])), (eC (.str [101, 105, 116, 104, 101, 114]))])) (eOp oMod (eV 4) (eC (.int 2)))), (eTuple (lOf (eV 5)))]))))))
/-- _law_wishes(script, base); slots 0 script, 1 base, 2 atoms, 3 many, 4 n -/
def b12 (orc : Orc) : SM :=
  (sSeq (sAsg (.one 2) (eNew (lComp (iRange1 (eOp oAdd (eC (.int 2)) (eCall orc 7 [(eV 0), (eC (.int 2)), (eC (.int 6))]))) (.one 4) (eC (.bl true)) (eCall orc 10 [(eV 0), (eOp oAdd (eV 1) (eOp oMul (eC (.int 20)) (eV 4)))]))))
  (sSeq (sAsg (.one 3) (eCall orc 7 [(eV 0), (eC (.int 3)), (eC (.int 6))]))
  (sRet (eNew (lComp (iRange1 (eV 3)) (.one 4) (eC (.bl true)) (eCall orc 11 [(eV 0), (eOp oAdd (eOp oAdd (eV 1) (eC (.int 200))) (eOp oMul (eC (.int 70)) (eV 4))), (eC (.int 2)), (eV 2)]))))))
/-- _law_parts(wish); slots 0 wish, 1 found, 2 inner, 3 one, 4 part -/
def b13 (orc : Orc) : SM :=
  (sSeq (sAsg (.one 1) (eNew (eAs [])))
  (sSeq (sAsg (.one 2) (eTup []))
  (sSeq (sIf (eOp oEq (eOp oIx (eV 0) (eC (.int 0))) (eC (.str [110, 111, 116]))) (sAsg (.one 2) (eTup [(eOp oIx (eV 0) (eC (.int 1)))])) sPass)
  (sSeq (sIf (eOp oIn (eOp oIx (eV 0) (eC (.int 0))) (eTup [(eC (.str [98, 111, 116, 104])), (eC (.str [101, 105, 116, 104, 101, 114]))])) (sAsg (.one 2) (eOp oIx (eV 0) (eC (.int 1)))) sPass)
  (sSeq (sFor (.one 3) (iSeq (eV 2)) (sFor (.one 4) (iSeq (eCall orc 13 [(eV 3)])) (sIf (eOp oNi (eV 4) (eV 1)) (sExp (eM 2 fAppend (eV 1) [(eV 4)])) sPass)))
  (sRet (eIf (eOp oIn (eV 0) (eV 1)) (eV 1) (eOp oAdd (eV 1) (eNew (eAs [(eV 0)]))))))))))
/-- law(script); slots 0 script, 1 wishes, 2 due, 3 seen, 4 wish, 5 handed, 6 k, 7 part, 8 found, 9 step -/
def b14 (orc : Orc) : SM :=
  (sSeq (sAsg (.one 1) (eCall orc 12 [(eV 0), (eC (.int 400))]))
  (sSeq (sAsg (.one 2) (eNew (lComp (iRange1 (eUn uLen (eV 1))) (.one 6) (eC (.bl true)) (eTup [(eC (.str [119, 105, 115, 104])), (eV 6)]))))
  (sSeq (sAsg (.one 3) (eNew (eAs [])))
  (sSeq (sFor (.one 4) (iSeq (eV 1)) (sFor (.one 7) (iSeq (eCall orc 13 [(eV 4)])) (sIf (eAnd (eOp oIn (eOp oIx (eV 7) (eC (.int 0))) (eTup [(eC (.str [98, 111, 116, 104])), (eC (.str [101, 105, 116, 104, 101, 114]))])) (eOp oNi (eV 7) (eV 3))) (sSeq (sExp (eM 2 fAppend (eV 3) [(eV 7)]))
  (sAsg (.one 2) (eOp oAdd (eV 2) (eNew (lComp (iRange1 (eOp oAdd (eUn uLen (eOp oIx (eV 7) (eC (.int 1)))) (eC (.int 1)))) (.one 6) (eC (.bl true)) (eTup [(eC (.str [111, 112, 101, 110])), (eV 7), (eV 6)])))))) sPass)))
  (sSeq (sAsg (.one 5) (eNew (lList (lOf (eV 1)))))
  (sSeq (sFor (.one 6) (iRange1 (eC (.int 2))) (sSeq (sAsg (.one 8) (eCall orc 6 [(eV 5)]))
  (sSeq (sIf (eOr (eUn uNot (eUn (uIsA "list") (eV 8))) (eOr (eOp oNe (eV 8) (eV 2)) (eOp oNe (eV 5) (eV 1)))) (sRet (eC (.bl false))) sPass)
  (sSeq (sFor (.one 9) (iSeq (eV 8)) (sIf (eOr (eUn uNot (eUn (uIsA "tuple") (eV 9))) (eUn (uIsA "bool") (eOp oIx (eV 9) (eUn uNeg (eC (.int 1)))))) (sRet (eC (.bl false))) sPass))
  (sExp (eM 2 fAppend (eV 8) [(eC .non)]))))))
  (sRet (eC (.bl true)))))))))
def T (orc : Orc) : Nat → Nat × SM
  | 0 => (3, b0 orc)
  | 1 => (2, b1 orc)
  | 2 => (3, b2 orc)
  | 3 => (4, b3 orc)
  | 4 => (1, b4 orc)
  | 5 => (3, b5 orc)
  | 6 => (6, b6 orc)
  | 7 => (5, b7 orc)
  | 8 => (5, b8 orc)
  | 9 => (3, b9 orc)
  | 10 => (8, b10 orc)
  | 11 => (7, b11 orc)
  | 12 => (5, b12 orc)
  | 13 => (5, b13 orc)
  | 14 => (10, b14 orc)
  | _ => (0, sPass)
end Sw.smallword_k77_opening_steps

set_option autoImplicit false
set_option linter.all false
set_option maxRecDepth 10000
namespace Sw.smallword_k77_opening_steps
open Sw
theorem gc_pure {M X : Mem} {w : W} {Q : W → Mem → Prop} (h : isD w = true) (q : Q w M) : Q (gc M w (M ++ X)).1 (gc M w (M ++ X)).2 := by rw [gc_data h]; exact q
theorem gc_nil {M : Mem} {w : W} (h : isD w = true) : gc M w M = (w, M) := by
  have := gc_data (M := M) (X := []) h
  rwa [List.append_nil] at this
/-- a def that makes data -/
theorem run_data {d f n : Nat} {b : SM} {args : List W} {M : Mem} {w : W} (e : runT T (d + 1) f args M = gcO M (body n b args M)) (hd : isD w = true) (h : Ok (b (start n args) M) fun fl M' => fl = .rt w ∧ ∃ X, M' = M ++ X) : runT T (d + 1) f args M = some (.ok w, M) := by
  rw [e]
  refine Ok.of_eq (Ok_gcO (Ok_body.mpr (h.mono fun fl M' ⟨e1, X, e2⟩ => ?_)))
  subst e1 e2
  dsimp only
  rw [gc_data hd]
  exact ⟨rfl, rfl⟩
/-! draws -/
theorem draw {d : Nat} {ns : List Int} (hl : ns.length ≤ 63) {k many : Int} {M : Mem} (hk : 0 ≤ k ∧ k ≤ 1000000) (hm : 0 < many) : runT T (d + 1) 7 [.scr ns, .int k, .int many] M = some (.ok (.int (drawM ns k many)), M) := by
  show gcO M (body 5 bDraw [.scr ns, .int k, .int many] M) = _
  rw [draw_body ns hl k many M hk hm]
  show some (Except.ok (gc M (.int (drawM ns k many)) M).1, (gc M (.int (drawM ns k many)) M).2) = _
  rw [gc_nil rfl]
/-! lit -/
theorem Wi.tag {w : W} (h : Wi w) : ∃ t r, w = .tup (.str t :: r) ∧ ((t = cNot ∧ ∃ x, r = [x] ∧ Wi x) ∨ t ≠ cNot) := by
  cases h with
  | at_ w h =>
    cases h with
    | flag s => exact ⟨_, _, rfl, .inr (by decide)⟩
    | like _ _ _ _ => exact ⟨_, _, rfl, .inr (by decide)⟩
    | most _ _ _ _ => exact ⟨_, _, rfl, .inr (by decide)⟩
  | no x hx => exact ⟨_, _, rfl, .inl ⟨rfl, x, rfl, hx⟩⟩
  | both _ _ => exact ⟨_, _, rfl, .inr (by decide)⟩
  | eith _ _ => exact ⟨_, _, rfl, .inr (by decide)⟩
theorem Ok_at0 {a : W} {r : List W} {M : Mem} {Q : W → Mem → Prop} : Ok (atW (a :: r) 0 M) Q ↔ Q a M := by
  rw [Ok_at]
  have e : ixW (a :: r).length 0 = some 0 := by simp [ixW]
  constructor
  · rintro ⟨n, w, h1, h2, q⟩
    rw [e] at h1
    cases h1
    cases h2
    exact q
  · exact fun q => ⟨0, a, e, rfl, q⟩
theorem Ok_at1 {a b : W} {r : List W} {M : Mem} {Q : W → Mem → Prop} : Ok (atW (a :: b :: r) 1 M) Q ↔ Q b M := by
  rw [Ok_at]
  have e : ixW (a :: b :: r).length 1 = some 1 := by
    have := ixW_nat (n := (a :: b :: r).length) (k := 1) (by simp)
    exact this
  constructor
  · rintro ⟨n, w, h1, h2, q⟩
    rw [e] at h1
    cases h1
    cases h2
    exact q
  · exact fun q => ⟨1, b, e, rfl, q⟩
theorem dep_tup {ws : List W} : dep (.tup ws) = deps ws + 1 := rfl
theorem run_ok {d f n : Nat} {b : SM} {args : List W} {M : Mem} {P : W → Prop} (e : runT T (d + 1) f args M = gcO M (body n b args M)) (h : Ok (b (start n args) M) fun fl M' => ∃ r, fl = .rt r ∧ isD r = true ∧ P r ∧ ∃ X, M' = M ++ X) : Ok (runT T (d + 1) f args M) fun r M' => M' = M ∧ P r := by
  rw [e]
  refine Ok_gcO (Ok_body.mpr (h.mono fun fl M' ⟨r, e1, hd, p, X, e2⟩ => ?_))
  subst e1 e2
  dsimp only
  rw [gc_data hd]
  exact ⟨rfl, p⟩
theorem lit {d : Nat} {w : W} (hw : Wi w) (hdep : dep w ≤ 1000) (t : Bool) (M : Mem) : Ok (runT T (d + 1) 1 [w, .bl t] M) fun r M' => M' = M ∧ ∃ w' t', r = .tup [w', .bl t'] ∧ Wi w' ∧ dep w' ≤ dep w := by
  refine run_ok (n := 2) (b := b1 (runT T d)) rfl ?_
  unfold b1
  rw [Ok_sSeq]
  show Ok (whL _ _ 100000 _ _) _
  refine Ok_wh (fun n s M' => M' = M ∧ ∃ w' t', s = [some w', some (.bl t')] ∧ n = dep w' ∧ Wi w' ∧ dep w' ≤ dep w) (fun n s M' ⟨eM, w', t', es, en, hw', hd'⟩ => ?_) 100000 (dep w) _ M (by omega) ⟨rfl, w, t, rfl, rfl, hw, Nat.le_refl _⟩
  subst eM es en
  obtain ⟨c, r, e, h⟩ := Wi.tag hw'
  subst e
  simp only [Ok_eOp, Ok_eV, Ok_eC, List.getElem?_cons_zero, Option.some.injEq, exists_eq_left', Ok_ixTup, Ok_at0, Ok_eqs]
  rcases h with ⟨rfl, x, rfl, hx⟩ | hne
  · simp only [decide_true, Br_t, Ok_sSeq, Ok_sAsg, Ok_eOp, Ok_eV, Ok_eC, List.getElem?_cons_zero, Option.some.injEq, exists_eq_left', Ok_ixTup, Ok_at1, List.set_cons_zero, Ok_eUn, List.getElem?_cons_succ, Ok_uNot, List.set_cons_succ]
    refine ⟨dep x, ?_, trivial, x, !t', rfl, rfl, hx, ?_⟩
    · simp [dep, deps]
    · simp [dep, deps] at hd' ⊢
      omega
  · rw [decide_eq_false hne]
    simp only [Br_f, Ok_sRet, Ok_eTup, Ok_eAs1, Ok_eAs0, Ok_eV, List.getElem?_cons_zero, Option.some.injEq, exists_eq_left', List.getElem?_cons_succ]
    refine ⟨_, rfl, ?_, ⟨_, t', rfl, hw', hd'⟩, [], (List.append_nil _).symm⟩
    have h2 := D_K hw'.K
    simp [isD, isDs] at h2 ⊢
    exact h2
/-! row_of -/
def Lit (x : W) : Prop := ∃ w t, x = .tup [w, .bl t] ∧ Wi w ∧ dep w ≤ 40
theorem Lit.D {x : W} (h : Lit x) : isD x = true ∧ dep x ≤ 41 := by
  obtain ⟨w, t, rfl, hw, hd⟩ := h
  simp [isD, isDs, D_K hw.K, dep, deps, hd]
theorem Lit.sort {lits : List W} (h : ∀ x ∈ lits, Lit x) (hl : lits.length ≤ 1000) : sortW lits = some (srt lits) := by
  unfold sortW
  have h1 : homog lits = true := by
    unfold homog
    have : allK firstK 3 lits = true := by
      unfold allK
      rw [List.all_eq_true]
      intro x hx
      obtain ⟨w, t, rfl, hw, _⟩ := h x hx
      obtain ⟨c, r, rfl, _⟩ := Wi.tag hw
      rfl
    rw [this]
    simp
  have h2 : cmpAll lits = true := cmpAll_of (fun x hx => ⟨(h x hx).D.1, by have := (h x hx).D.2; omega⟩) fun a ha b hb => by
    obtain ⟨w, t, rfl, hw, _⟩ := h a ha
    obtain ⟨w', t', rfl, hw', _⟩ := h b hb
    exact LtT.lit hw hw' t t'
  rw [h1, h2, many_iff.mpr (by omega)]
  rfl
theorem row_of {d j : Nat} {lits : List W} {M : Mem} (hj : M[j]? = some (.lst lits)) (h : ∀ x ∈ lits, Lit x) (hl : lits.length ≤ 1000) : Ok (runT T (d + 1) 2 [.ref j] M) fun r M' => M' = M ∧ ∃ ws, r = .tup ws ∧ isDs ws = true ∧ deps ws ≤ 41 := by
  refine run_ok (n := 3) (b := b2 (runT T d)) rfl ?_
  unfold b2
  simp only [Ok_sSeq, Ok_sAsg, Ok_eNew, Ok_eAs0, Ok_sFor, Ok_iNew, Ok_lSorted, start, List.map_cons, List.map_nil, List.length_cons, List.length_nil, Nat.zero_add, Nat.reduceSub, List.replicate_succ, List.replicate_zero, List.cons_append, List.nil_append, List.set_cons_succ, List.set_cons_zero]
  refine Ok_lstOf (j := j) (ws := lits) ?_
  simp only [Ok_eV, List.getElem?_cons_zero, Option.some.injEq, exists_eq_left']
  refine ⟨j, lits, rfl, get_app hj, srt lits, Lit.sort h hl, ?_⟩
  refine Ok_for (fun rest s M' => ∃ X f v, M' = M ++ X ∧ X[0]? = some (.lst f) ∧ s = [some (.ref j), some (.ref M.length), v] ∧ (∀ x ∈ f, Lit x) ∧ (∀ x ∈ rest, Lit x) ∧ f.length + rest.length ≤ 1000)
    (fun _ _ _ _ => rfl) (fun x rest s M' ⟨X, f, v, e1, e2, e3, e4, e5, e6⟩ => ?_) (fun s M' ⟨X, f, v, e1, e2, e3, e4, e5, e6⟩ => ?_) (srt lits) _ _ ⟨[.lst []], [], none, rfl, rfl, rfl, by simp, fun x hx => h x ((srt_perm lits).mem_iff.mp hx), by rw [(srt_perm lits).length_eq]; simpa using hl⟩
  · subst e1 e3
    refine ⟨_, rfl, ?_⟩
    have hx := e5 x List.mem_cons_self
    have fl : ∀ {Y : Mem}, (M ++ (X ++ Y))[M.length]? = some (.lst f) := by
      intro Y
      have : (X ++ Y)[0]? = some (.lst f) := get_app e2
      rw [← this]
      exact get_app_r (j := 0)
    have fd : isDs f = true := isDs_mem.mpr fun z hz => (e4 z hz).D.1
    simp only [Ok_sIf, Ok_eOr, Ok_eOp, Ok_eV, setS, List.set_cons_succ, List.set_cons_zero, List.getElem?_cons_succ, List.getElem?_cons_zero, Option.some.injEq, exists_eq_left', Ok_eNew, Ok_eAs0, List.append_assoc]
    have ln : (M ++ (X ++ [O.lst []]))[(M ++ X).length]? = some (.lst []) := by rw [← List.append_assoc]; exact get_new
    rw [Ok_eqL (xs := f) (ys := []) fl ln fd rfl (fun w hw => by have := (e4 w hw).D.2; omega) (by simp)]
    have app : Ok (sExp (eM 2 fAppend (eV 1) [eV 2]) [some (W.ref j), some (W.ref M.length), some x] (M ++ (X ++ [O.lst []]))) fun fl M' => match fl with
        | .nx s'' => ∃ X f v, M' = M ++ X ∧ X[0]? = some (.lst f) ∧ s'' = [some (.ref j), some (.ref M.length), v] ∧ (∀ x ∈ f, Lit x) ∧ (∀ x ∈ rest, Lit x) ∧ f.length + rest.length ≤ 1000
        | .rt r => ∃ r', Fl.rt r = .rt r' ∧ isD r' = true ∧ (∃ ws, r' = .tup ws ∧ isDs ws = true ∧ deps ws ≤ 41) ∧ ∃ X, M' = M ++ X := by
      simp only [Ok_sExp, Ok_eM, Ok_eV, List.getElem?_cons_succ, List.getElem?_cons_zero, Option.some.injEq, exists_eq_left', Ok_eAs1, Ok_eAs0]
      refine ⟨kindW_L fl, ?_⟩
      rw [Ok_app fl (by simp at e6; omega)]
      refine ⟨(X ++ [O.lst []]).set 0 (.lst (f ++ [x])), f ++ [x], some x, ?_, ?_, rfl, ?_, fun z hz => e5 z (List.mem_cons_of_mem _ hz), ?_⟩
      · exact set_app (j := 0)
      · exact get_set (get_app e2)
      · intro z hz
        rcases List.mem_append.mp hz with hz | hz
        · exact e4 z hz
        · rw [List.mem_singleton.mp hz]; exact hx
      · simp at e6 ⊢
        omega
    cases f with
    | nil =>
      simp only [nrms, decide_true, Br_t]
      exact app
    | cons y ys =>
      have : decide (nrms (y :: ys) = nrms []) = false := by simp [nrms]
      rw [this]
      simp only [Br_f, Ok_eUn, Ok_eC, Ok_neg, Ok_ixRef fl]
      obtain ⟨z, hz, hm⟩ : ∃ z, (y :: ys).getLast? = some z ∧ z ∈ y :: ys := ⟨_, List.getLast?_eq_some_getLast (by simp), List.getLast_mem (by simp)⟩
      have hzl := (e4 z hm).D
      rw [Ok_atLast hz, Ok_neD hx.D.1 hzl.1 (by have := hx.D.2; omega) (by omega), Br_b]
      refine ⟨fun _ => app, fun _ => ?_⟩
      rw [Ok_sPass]
      exact ⟨X ++ [O.lst []], y :: ys, some x, rfl, get_app e2, rfl, e4, fun z hz => e5 z (List.mem_cons_of_mem _ hz), by simp at e6 ⊢; omega⟩
  · subst e1 e3
    simp only [Ok_sRet, Ok_eTuple, Ok_lOf, Ok_eV, List.getElem?_cons_succ, List.getElem?_cons_zero, Option.some.injEq, exists_eq_left']
    have fl : (M ++ X)[M.length]? = some (.lst f) := by rw [← e2]; exact get_app_r (j := 0)
    refine ⟨f, items_L fl, _, rfl, ?_, ⟨f, rfl, isDs_mem.mpr fun z hz => (e4 z hz).D.1, deps_le fun z hz => (e4 z hz).D.2⟩, X, rfl⟩
    exact isDs_mem.mpr fun z hz => (e4 z hz).D.1
theorem run_list {d f n : Nat} {b : SM} {args : List W} {M : Mem} {P : List W → Prop} (e : runT T (d + 1) f args M = gcO M (body n b args M)) (h : Ok (b (start n args) M) fun fl M' => ∃ ws X j, fl = .rt (.ref (M.length + j)) ∧ M' = M ++ X ∧ X[j]? = some (.lst ws) ∧ isDs ws = true ∧ P ws) :
    Ok (runT T (d + 1) f args M) fun r M' => ∃ ws, r = .ref M.length ∧ M' = M ++ [.lst ws] ∧ isDs ws = true ∧ P ws := by
  rw [e]
  refine Ok_gcO (Ok_body.mpr (h.mono fun fl M' ⟨ws, X, j, e1, e2, e3, hd, p⟩ => ?_))
  subst e1 e2
  dsimp only
  rw [gc_list e3 hd]
  exact ⟨ws, rfl, rfl, hd, p⟩
/-! openings -/
theorem dep_mem' {ws : List W} {w : W} (h : w ∈ ws) : dep w ≤ deps ws := by
  induction ws with
  | nil => cases h
  | cons x xs ih =>
    unfold deps
    rcases List.mem_cons.mp h with rfl | h
    · exact Nat.le_max_left _ _
    · exact Nat.le_trans (ih h) (Nat.le_max_right _ _)
theorem openings {d : Nat} {c : Tx} {ws : List W} {M : Mem} (hc : c = cBoth ∨ c = cEith) (hw : Wi (.tup [.str c, .tup ws])) (hws : ∀ w ∈ ws, Wi w) (hdep : dep (.tup [.str c, .tup ws]) ≤ 39) (hl : ws.length ≤ 900) :
    Ok (runT T (d + 2) 3 [.tup [.str c, .tup ws]] M) fun r M' => ∃ rows, r = .ref M.length ∧ M' = M ++ [.lst rows] ∧ isDs rows = true ∧ rows.length = ws.length + 1 := by
  refine run_list (n := 4) (b := b3 (runT T (d + 1))) rfl ?_
  have hdw : ∀ w ∈ ws, dep w ≤ 39 := fun w h => by
    have := dep_mem' h
    simp [dep, deps] at hdep
    omega
  generalize ht : (decide (c = cBoth)) = t
  have hne : (!decide (c = cBoth) && !decide (c = cEith)) = false := by rcases hc with rfl | rfl <;> decide
  unfold b3
  have hD : isD (.tup [.str c, .tup ws]) = true := D_K hw.K
  -- a row of a wish
  have row2 : ∀ (w : W) (s : Sl) (M : Mem) (Q : W → Mem → Prop), Wi w → dep w ≤ 39 → s[0]? = some (some (.tup [.str c, .tup ws])) → s[1]? = some (some (.bl t)) → s[3]? = some (some w) →
      (∀ row X, isDs row = true → Q (.tup row) (M ++ X)) → Ok (eCall (runT T (d + 1)) 2 [eNew (eAs [eTup [eV 0, eUn uNot (eV 1)], eCall (runT T (d + 1)) 1 [eV 3, eV 1]])] s M) Q := by
    intro w s M Q hw1 hd1 h0 h1 h3 hQ
    simp only [Ok_eCall, Ok_eAs1, Ok_eAs0, Ok_eNew, Ok_eTup, Ok_eUn, Ok_eV, h0, h1, h3, Option.some.injEq, exists_eq_left', Ok_uNot]
    refine (lit hw1 (by omega) t M).mono fun r M' ⟨e, w', t', er, hw', hd'⟩ => ?_
    subst e er
    refine (row_of get_new (lits := [.tup [.tup [.str c, .tup ws], .bl (!t)], .tup [w', .bl t']]) ?_ (by simp)).mono fun r M2 ⟨e, row, er, hr, _⟩ => ?_
    · intro x hx
      simp only [List.mem_cons, List.not_mem_nil, or_false] at hx
      rcases hx with rfl | rfl
      · exact ⟨_, _, rfl, hw, by omega⟩
      · exact ⟨_, _, rfl, hw', by omega⟩
    · subst e er
      exact hQ row _ hr
  simp only [Ok_sSeq, Ok_sIf, Ok_eAnd, Ok_eOp, Ok_eV, Ok_eC, start, List.map_cons, List.map_nil, List.length_cons, List.length_nil, Nat.zero_add, Nat.reduceSub, List.replicate_succ, List.replicate_zero, List.cons_append, List.nil_append, List.getElem?_cons_zero, Option.some.injEq, exists_eq_left', Ok_ixTup, Ok_at0, Ok_nes]
  have brs : ∀ {A B : Prop}, B → Br (.bl (!decide (c = cBoth))) (Br (.bl (!decide (c = cEith))) A B) B := fun {A B} hB => by
    rcases hc with rfl | rfl
    · exact hB
    · exact hB
  refine brs ?_
  simp only [Ok_sPass, Ok_sAsg, Ok_eOp, Ok_eV, Ok_eC, List.getElem?_cons_zero, Option.some.injEq, exists_eq_left', Ok_ixTup, Ok_at0, Ok_eqs, List.set_cons_zero, List.set_cons_succ, ht, Ok_eNew, Ok_lComp, Ok_iSeq, Ok_at1, Ok_seqTup]
  refine Ok_lc (fun rest acc M' => (∃ X, M' = M ++ X) ∧ isDs acc = true ∧ acc.length + rest.length = ws.length ∧ ∀ w ∈ rest, w ∈ ws) (fun rest acc M' h => ⟨rfl, by have := h.2.2.1; omega⟩) (fun w rest acc M' ⟨⟨X, e⟩, ha, hn, hr⟩ => ?_) (fun acc M' ⟨⟨X, e⟩, ha, hn, hr⟩ => ?_) ws [] M ⟨⟨[], by simp⟩, rfl, by simp, fun _ h => h⟩
  · refine ⟨_, rfl, ?_⟩
    simp only [Ok_eC, Br_t]
    have hm := hr w List.mem_cons_self
    refine row2 w _ M' _ (hws w hm) (hdw w hm) rfl rfl rfl fun row Y hrow => ?_
    subst e
    refine ⟨⟨X ++ Y, by simp⟩, ?_, by simp at hn ⊢; omega, fun z hz => hr z (List.mem_cons_of_mem _ hz)⟩
    refine isDs_mem.mpr fun z hz => ?_
    rcases List.mem_append.mp hz with hz | hz
    · exact isDs_mem.mp ha z hz
    · rw [List.mem_singleton.mp hz]; exact hrow
  · subst e
    simp only [Ok_sExp, Ok_eM, Ok_eV, Ok_eCall, Ok_eAs1, Ok_eAs0, Ok_eOp, Ok_eNew, Ok_eTup, Ok_lComp, Ok_iSeq, Ok_eC, Ok_ixTup, Ok_at1, Ok_seqTup, List.getElem?_cons_succ, List.getElem?_cons_zero, Option.some.injEq, exists_eq_left']
    refine ⟨kindW_L get_new, ?_⟩
    generalize hN : M ++ X ++ [O.lst acc] ++ [O.lst [W.tup [.tup [.str c, .tup ws], .bl t]]] = N
    have hfound : ∀ {Y : Mem}, (N ++ Y)[(M ++ X).length]? = some (.lst acc) := by
      intro Y
      subst hN
      exact get_app (get_app get_new)
    have hfirst : ∀ {Y : Mem}, (N ++ Y)[(M ++ X ++ [O.lst acc]).length]? = some (.lst [W.tup [.tup [.str c, .tup ws], .bl t]]) := by
      intro Y
      subst hN
      exact get_app get_new
    refine Ok_lc (fun rest ls M' => (∃ Y, M' = N ++ Y) ∧ (∀ x ∈ ls, Lit x) ∧ ls.length + rest.length = ws.length ∧ ∀ w ∈ rest, w ∈ ws) (fun rest acc M' h => ⟨rfl, by have := h.2.2.1; omega⟩) (fun w rest ls M' ⟨⟨Y, e⟩, h1, h2, h3⟩ => ?_) (fun ls M' ⟨⟨Y, e⟩, h1, h2, h3⟩ => ?_) ws [] N ⟨⟨[], by simp⟩, by simp, by simp, fun _ h => h⟩
    · refine ⟨_, rfl, ?_⟩
      have hm := h3 w List.mem_cons_self
      simp only [Ok_eC, Br_t, Ok_eCall, Ok_eAs1, Ok_eAs0, Ok_eV, Ok_eUn, setS, List.set_cons_succ, List.set_cons_zero, List.getElem?_cons_succ, List.getElem?_cons_zero, Option.some.injEq, exists_eq_left', Ok_uNot]
      refine (lit (hws w hm) (by have := hdw w hm; omega) (!t) M').mono fun r M2 ⟨e2, w', t', er, hw', hd'⟩ => ?_
      subst e2 er
      refine ⟨⟨Y, e⟩, ?_, by simp at h2 ⊢; omega, fun z hz => h3 z (List.mem_cons_of_mem _ hz)⟩
      intro z hz
      rcases List.mem_append.mp hz with hz | hz
      · exact h1 z hz
      · rw [List.mem_singleton.mp hz]
        exact ⟨w', t', rfl, hw', by have := hdw w hm; omega⟩
    · subst e
      have g1 : (N ++ Y ++ [O.lst ls])[(M ++ X ++ [O.lst acc]).length]? = some (.lst [W.tup [.tup [.str c, .tup ws], .bl t]]) := by rw [List.append_assoc]; exact hfirst
      rw [Ok_addL g1 get_new (by simp at h2 ⊢; omega)]
      refine (row_of get_new (fun x hx => ?_) (by simp at h2 ⊢; omega)).mono fun r M2 ⟨e2, row, er, hrow, _⟩ => ?_
      · rcases List.mem_append.mp hx with hx | hx
        · rw [List.mem_singleton.mp hx]
          exact ⟨_, _, rfl, hw, by omega⟩
        · exact h1 x hx
      · subst e2 er
        have g2 : (N ++ Y ++ [O.lst ls] ++ [O.lst ([W.tup [.tup [.str c, .tup ws], .bl t]] ++ ls)])[(M ++ X).length]? = some (.lst acc) := by
          rw [List.append_assoc, List.append_assoc]; exact hfound
        rw [Ok_app g2 (by simp at hn; omega)]
        simp only [Ok_sRet, Ok_eV, List.getElem?_cons_succ, List.getElem?_cons_zero, Option.some.injEq, exists_eq_left']
        refine ⟨acc ++ [.tup row], (X ++ [O.lst acc] ++ [O.lst [W.tup [.tup [.str c, .tup ws], .bl t]]] ++ Y ++ [O.lst ls] ++ [O.lst ([W.tup [.tup [.str c, .tup ws], .bl t]] ++ ls)]).set X.length (.lst (acc ++ [.tup row])), X.length, by simp, ?_, ?_, ?_, by simp at hn ⊢; omega⟩
        · rw [← set_app]
          subst hN
          simp only [List.append_assoc, List.length_append]
        · refine get_set (o := .lst acc) ?_
          simp only [List.append_assoc]
          rw [List.getElem?_append_right (Nat.le_refl _)]
          simp
        · refine isDs_mem.mpr fun z hz => ?_
          rcases List.mem_append.mp hz with hz | hz
          · exact isDs_mem.mp ha z hz
          · rw [List.mem_singleton.mp hz]; exact hrow
end Sw.smallword_k77_opening_steps

set_option autoImplicit false
set_option linter.all false
set_option maxRecDepth 10000
namespace Sw
/-- what is not there yet is put behind -/
def addAll (f : List W) (xs : List W) : List W := xs.foldl (fun f x => if x ∈ f then f else f ++ [x]) f
theorem addAll_cons {f : List W} {x : W} {xs : List W} : addAll f (x :: xs) = addAll (if x ∈ f then f else f ++ [x]) xs := rfl
theorem addAll_mem {y : W} : ∀ {xs f : List W}, y ∈ addAll f xs → y ∈ f ∨ y ∈ xs
  | [], f, h => .inl h
  | x :: xs, f, h => by
    rw [addAll_cons] at h
    rcases addAll_mem h with h | h
    · split at h
      · exact .inl h
      · rcases List.mem_append.mp h with h | h
        · exact .inl h
        · exact .inr (by rw [List.mem_singleton.mp h]; exact List.mem_cons_self)
    · exact .inr (List.mem_cons_of_mem _ h)
theorem addAll_len : ∀ {xs f : List W}, (addAll f xs).length ≤ f.length + xs.length
  | [], f => by simp [addAll]
  | x :: xs, f => by
    rw [addAll_cons]
    refine Nat.le_trans addAll_len ?_
    split <;> simp <;> omega
def innerW : W → List W
  | .tup [.str c, x] => if c = cNot then [x] else if c = cBoth ∨ c = cEith then (match x with
    | .tup ws => ws
    | _ => []) else []
  | _ => []
def pt : Nat → W → List W
  | 0, _ => []
  | n + 1, w => addAll ((innerW w).foldl (fun f x => addAll f (pt n x)) []) [w]
theorem Wi.inner {w : W} (h : Wi w) : ∀ x ∈ innerW w, Wi x ∧ dep x < dep w := by
  cases h with
  | at_ w h =>
    cases h with
    | flag s => intro x hx; simp [innerW] at hx
    | like _ _ _ _ => intro x hx; simp [innerW] at hx
    | most _ _ _ _ => intro x hx; simp [innerW] at hx
  | no x hx =>
    intro y hy
    simp [innerW] at hy
    subst hy
    exact ⟨hx, by simp [dep, deps]⟩
  | both ws hws =>
    intro y hy
    simp [innerW] at hy
    refine ⟨hws y hy, ?_⟩
    have := smallword_k77_opening_steps.dep_mem' hy
    simp [dep, deps]
    omega
  | eith ws hws =>
    intro y hy
    simp [innerW] at hy
    refine ⟨hws y hy, ?_⟩
    have := smallword_k77_opening_steps.dep_mem' hy
    simp [dep, deps]
    omega
theorem szs_one {x : W} : szs [x] = sz x := by simp [szs]
theorem Wi.inner_sz {w : W} (h : Wi w) : szs (innerW w) + 1 ≤ sz w := by
  cases h with
  | at_ w h =>
    cases h with
    | flag s => simp [innerW, szs, sz]
    | like _ _ _ _ => simp [innerW, szs, sz]
    | most _ _ _ _ => simp [innerW, szs, sz]
  | no x hx => simp [innerW, szs, sz]
  | both ws hws => simp [innerW, szs, sz]; omega
  | eith ws hws => simp [innerW, szs, sz]; omega
/-- the parts: whence they are, how many -/
theorem pt_ok : ∀ (n : Nat) (w : W), Wi w → (∀ x ∈ pt n w, Wi x ∧ dep x ≤ dep w) ∧ (pt n w).length ≤ sz w
  | 0, w, h => ⟨by simp [pt], by simp [pt]⟩
  | n + 1, w, h => by
    have hin := h.inner
    have go : ∀ (xs f : List W), (∀ x ∈ xs, Wi x ∧ dep x < dep w) → (∀ x ∈ f, Wi x ∧ dep x ≤ dep w) → (∀ x ∈ xs.foldl (fun f x => addAll f (pt n x)) f, Wi x ∧ dep x ≤ dep w) ∧ (xs.foldl (fun f x => addAll f (pt n x)) f).length ≤ f.length + szs xs := by
      intro xs
      induction xs with
      | nil => intro f _ hf; exact ⟨hf, by simp [szs]⟩
      | cons x xs ih =>
        intro f hx hf
        obtain ⟨p1, p2⟩ := pt_ok n x (hx x List.mem_cons_self).1
        obtain ⟨q1, q2⟩ := ih (addAll f (pt n x)) (fun z hz => hx z (List.mem_cons_of_mem _ hz)) fun z hz => by
          rcases addAll_mem hz with hz | hz
          · exact hf z hz
          · have := p1 z hz
            have := (hx x List.mem_cons_self).2
            exact ⟨(p1 z hz).1, by omega⟩
        refine ⟨q1, Nat.le_trans q2 ?_⟩
        have := addAll_len (f := f) (xs := pt n x)
        simp only [szs]
        omega
    obtain ⟨q1, q2⟩ := go (innerW w) [] hin (by simp)
    unfold pt
    refine ⟨fun x hx => ?_, ?_⟩
    · rcases addAll_mem hx with hx | hx
      · exact q1 x hx
      · rw [List.mem_singleton.mp hx]
        exact ⟨h, Nat.le_refl _⟩
    · refine Nat.le_trans addAll_len ?_
      have := h.inner_sz
      simp at q2 ⊢
      omega
theorem okBase_set {M : Mem} {j : Nat} {ws : List W} (h : isDs ws = true) : okBase M.length M (M.set j (.lst ws)) = true := by
  unfold okBase
  rw [List.all_eq_true]
  intro p hp
  obtain ⟨i, hi⟩ := List.mem_iff_getElem?.mp hp
  rw [List.getElem?_zip_eq_some] at hi
  by_cases hij : j = i
  · subst hij
    have hl : j < M.length := get_lt hi.2
    rw [List.getElem?_set_self hl] at hi
    have e := Option.some.inj hi.1
    rw [← e]
    simp [refsO, refss_D h]
  · rw [List.getElem?_set_ne hij] at hi
    have : p.1 = p.2 := Option.some.inj (hi.1.symm.trans hi.2)
    simp [this]
theorem gc_set {M : Mem} {j : Nat} {ws : List W} {w : W} (h : isDs ws = true) (hw : isD w = true) : gc M w (M.set j (.lst ws)) = (w, M.set j (.lst ws)) := by
  have e : gcF M.length w = [] := by unfold gcF; rw [refs_D hw]; rfl
  unfold gc
  dsimp only
  rw [e]
  simp only [getAll, List.mapM_nil]
  have e2 : (M.set j (.lst ws)).take M.length = M.set j (.lst ws) := List.take_of_length_le (by simp)
  rw [e2]
  simp only [pure, okBase_set h, List.all_nil, List.length_set, Nat.le_refl, and_self, if_true, ren_D hw, List.append_nil]
namespace smallword_k77_opening_steps
theorem put_once {d i j : Nat} {f ts : List W} {M : Mem} (hj : M[j]? = some (.lst f)) (hi : M[i]? = some (.lst ts)) (hne : i ≠ j) (kf : ∀ x ∈ f, isK x = true ∧ dep x ≤ 50) (kt : ∀ x ∈ ts, isK x = true ∧ dep x ≤ 50) (hl : f.length + ts.length < 1000000) :
    runT T (d + 1) 0 [.ref j, .ref i] M = some (.ok .non, M.set j (.lst (addAll f ts))) := by
  have hall : isDs (addAll f ts) = true := isDs_mem.mpr fun x hx => by
    rcases addAll_mem hx with hx | hx
    · exact D_K (kf x hx).1
    · exact D_K (kt x hx).1
  show gcO M (body 3 (b0 (runT T d)) [.ref j, .ref i] M) = _
  refine Ok.of_eq (Ok_gcO (Ok_body.mpr ?_))
  unfold b0
  simp only [Ok_sFor, Ok_iSeq, Ok_eV, start, List.map_cons, List.map_nil, List.length_cons, List.length_nil, Nat.zero_add, Nat.reduceSub, List.replicate_succ, List.replicate_zero, List.cons_append, List.nil_append, List.getElem?_cons_zero, List.getElem?_cons_succ, Option.some.injEq, exists_eq_left', Ok_seqRef hi]
  refine Ok_for (fun rest s M' => ∃ g v, M' = M.set j (.lst g) ∧ s = [some (.ref j), some (.ref i), v] ∧ addAll g rest = addAll f ts ∧ (∀ x ∈ g, isK x = true ∧ dep x ≤ 50) ∧ (∀ x ∈ rest, isK x = true ∧ dep x ≤ 50) ∧ g.length + rest.length < 1000000)
    (fun rest s M' ⟨g, v, e, _⟩ => still_some (by rw [e, get_ne (Ne.symm hne)]; exact hi)) (fun x rest s M' ⟨g, v, e1, e2, e3, e4, e5, e6⟩ => ?_) (fun s M' ⟨g, v, e1, e2, e3, e4, e5, e6⟩ => ?_) ts _ M ⟨f, none, ?_, rfl, rfl, kf, kt, hl⟩
  · subst e1 e2
    refine ⟨_, rfl, ?_⟩
    have gj : (M.set j (.lst g))[j]? = some (.lst g) := get_set hj
    have kx := e5 x List.mem_cons_self
    simp only [Ok_sIf, Ok_eOp, Ok_eV, setS, List.set_cons_succ, List.set_cons_zero, List.getElem?_cons_succ, List.getElem?_cons_zero, Option.some.injEq, exists_eq_left']
    rw [Ok_niL gj kx.1 (isKs_mem.mpr fun z hz => (e4 z hz).1) kx.2 fun z hz => (e4 z hz).2, Br_b]
    refine ⟨fun hm => ?_, fun hm => ?_⟩
    · have hm : x ∉ g := by simpa using hm
      simp only [Ok_sExp, Ok_eM, Ok_eV, Ok_eAs1, Ok_eAs0, List.getElem?_cons_succ, List.getElem?_cons_zero, Option.some.injEq, exists_eq_left']
      refine ⟨kindW_L gj, ?_⟩
      rw [Ok_app gj (by simp at e6; omega)]
      refine ⟨g ++ [x], some x, by rw [List.set_set], rfl, ?_, ?_, fun z hz => e5 z (List.mem_cons_of_mem _ hz), by simp at e6 ⊢; omega⟩
      · rw [addAll_cons, if_neg hm] at e3
        exact e3
      · intro z hz
        rcases List.mem_append.mp hz with hz | hz
        · exact e4 z hz
        · rw [List.mem_singleton.mp hz]; exact kx
    · have hm : x ∈ g := by simpa using hm
      rw [Ok_sPass]
      rw [addAll_cons, if_pos hm] at e3
      exact ⟨g, some x, rfl, rfl, e3, e4, fun z hz => e5 z (List.mem_cons_of_mem _ hz), by simp at e6 ⊢; omega⟩
  · refine (List.ext_getElem? fun k => ?_)
    by_cases hk : j = k
    · subst hk; rw [get_set hj, hj]
    · rw [get_ne hk]
  · subst e1 e2
    have e3 : g = addAll f ts := e3
    subst e3
    rw [gc_set hall rfl]
    exact ⟨rfl, rfl⟩
theorem right_within {d : Nat} {w : W} (hw : Wi w) (hd : dep w ≤ 50) (M : Mem) : runT T (d + 1) 4 [w] M = some (.ok (.tup (innerW w)), M) := by
  have hD : isD (.tup (innerW w)) = true := isDs_mem.mpr fun x hx => D_K (hw.inner x hx).1.K
  refine run_data (n := 1) (b := b4 (runT T d)) rfl hD ?_
  unfold b4
  have tag : ∃ c r, w = .tup (.str c :: r) := let ⟨c, r, e, _⟩ := Wi.tag hw; ⟨c, r, e⟩
  obtain ⟨c, r, e⟩ := tag
  simp only [Ok_sSeq, Ok_sIf, Ok_eOr, Ok_eOp, Ok_eV, Ok_eC, start, List.map_cons, List.map_nil, List.length_cons, List.length_nil, Nat.zero_add, Nat.reduceSub, List.replicate_succ, List.replicate_zero, List.cons_append, List.nil_append, List.getElem?_cons_zero, Option.some.injEq, exists_eq_left', Ok_sPass, Ok_sRet, Ok_eTup, Ok_eAs1, Ok_eAs0, Nat.sub_self, List.append_nil]
  cases hw with
  | at_ w h =>
    cases h with
    | flag s => simp [Ok_ixTup, Ok_at0, Ok_at1, innerW]
    | like _ _ _ _ => simp [Ok_ixTup, Ok_at0, Ok_at1, innerW]
    | most _ _ _ _ => simp [Ok_ixTup, Ok_at0, Ok_at1, innerW]
  | no x hx => simp [Ok_ixTup, Ok_at0, Ok_at1, innerW]
  | both ws hws => simp [Ok_ixTup, Ok_at0, Ok_at1, innerW]
  | eith ws hws => simp [Ok_ixTup, Ok_at0, Ok_at1, innerW]
end smallword_k77_opening_steps
end Sw

set_option autoImplicit false
set_option linter.all false
set_option maxRecDepth 10000
namespace Sw.smallword_k77_opening_steps
theorem pt_K {n : Nat} {w : W} (h : Wi w) (hd : dep w ≤ 40) : ∀ x ∈ pt n w, isK x = true ∧ dep x ≤ 50 := fun x hx => by
  obtain ⟨h1, h2⟩ := (pt_ok n w h).1 x hx
  exact ⟨h1.K, by omega⟩
/-- the found list of the parts, while the inner ones are gone through -/
abbrev fol (n : Nat) (f : List W) (xs : List W) : List W := xs.foldl (fun f x => addAll f (pt n x)) f
theorem fol_cons {n : Nat} {f : List W} {x : W} {xs : List W} : fol n f (x :: xs) = fol n (addAll f (pt n x)) xs := rfl
theorem addAll_K {f xs : List W} (h1 : ∀ x ∈ f, isK x = true ∧ dep x ≤ 50) (h2 : ∀ x ∈ xs, isK x = true ∧ dep x ≤ 50) : ∀ x ∈ addAll f xs, isK x = true ∧ dep x ≤ 50 := fun x hx => (addAll_mem hx).elim (h1 x) (h2 x)
theorem sz_mem {x : W} : ∀ {ws : List W}, x ∈ ws → sz x ≤ szs ws
  | [], h => by cases h
  | y :: ys, h => by
    simp only [szs]
    rcases List.mem_cons.mp h with rfl | h
    · omega
    · have := sz_mem h
      omega
theorem parts_of : ∀ (n d : Nat) (w : W) (M : Mem), Wi w → dep w < n → n ≤ d → dep w ≤ 40 → sz w ≤ 100000 → runT T (d + 1) 5 [w] M = some (.ok (.ref M.length), M ++ [.lst (pt n w)])
  | 0, d, w, M, hw, h, _, _, _ => absurd h (Nat.not_lt_zero _)
  | n + 1, 0, w, M, hw, h, hd, _, _ => absurd hd (by omega)
  | n + 1, d + 1, w, M, hw, h, hd, h40, hs => by
    have key : Ok (runT T (d + 1 + 1) 5 [w] M) fun r M' => ∃ ws, r = .ref M.length ∧ M' = M ++ [.lst ws] ∧ isDs ws = true ∧ ws = pt (n + 1) w := by
      refine run_list (n := 3) (b := b5 (runT T (d + 1))) rfl ?_
      unfold b5
      simp only [Ok_sSeq, Ok_sAsg, Ok_eNew, Ok_eAs0, Ok_sFor, Ok_iSeq, Ok_eCall, Ok_eAs1, Ok_eV, start, List.map_cons, List.map_nil, List.length_cons, List.length_nil, Nat.zero_add, Nat.reduceSub, List.replicate_succ, List.replicate_zero, List.cons_append, List.nil_append, List.getElem?_cons_zero, Option.some.injEq, exists_eq_left', List.set_cons_succ, List.set_cons_zero]
      refine Ok.eq (right_within hw (by omega) _) ?_
      rw [Ok_seqTup]
      have hin := hw.inner
      have hsz := hw.inner_sz
      refine Ok_for (fun rest s M' => ∃ X f v, M' = M ++ X ∧ X[0]? = some (.lst f) ∧ s = [some w, some (.ref M.length), v] ∧ fol n f rest = fol n [] (innerW w) ∧ (∀ x ∈ f, isK x = true ∧ dep x ≤ 50) ∧ (∀ x ∈ rest, x ∈ innerW w) ∧ f.length + szs rest ≤ szs (innerW w))
        (fun _ _ _ _ => rfl) (fun x rest s M' ⟨X, f, v, e1, e2, e3, e4, e5, e6, e7⟩ => ?_) (fun s M' ⟨X, f, v, e1, e2, e3, e4, e5, e6, e7⟩ => ?_) (innerW w) _ _ ⟨[.lst []], [], none, rfl, rfl, rfl, rfl, by simp, fun _ h => h, by simp⟩
      · subst e1 e3
        refine ⟨_, rfl, ?_⟩
        have hx := hin x (e6 x List.mem_cons_self)
        have hxs := sz_mem (e6 x List.mem_cons_self)
        simp only [Ok_sExp, Ok_eCall, Ok_eAs1, Ok_eAs0, Ok_eV, setS, List.set_cons_succ, List.set_cons_zero, List.getElem?_cons_succ, List.getElem?_cons_zero, Option.some.injEq, exists_eq_left']
        refine Ok.eq (parts_of n d x (M ++ X) hx.1 (by omega) (by omega) (by omega) (by omega)) ?_
        have g0 : (M ++ X ++ [O.lst (pt n x)])[M.length]? = some (.lst f) := by rw [List.append_assoc]; have := get_app_r (M := M) (X := X ++ [O.lst (pt n x)]) (j := 0); rw [Nat.add_zero] at this; rw [this]; exact get_app e2
        have hp := pt_ok n x hx.1
        refine Ok.eq (put_once g0 get_new (by have := get_lt e2; simp; intro z; rw [z] at this; simp at this) e5 (pt_K hx.1 (by omega)) (by simp only [szs] at e7; omega)) ?_
        refine ⟨(X ++ [O.lst (pt n x)]).set 0 (.lst (addAll f (pt n x))), addAll f (pt n x), some x, ?_, get_set (get_app e2), rfl, ?_, addAll_K e5 (pt_K hx.1 (by omega)), fun z hz => e6 z (List.mem_cons_of_mem _ hz), ?_⟩
        · rw [List.append_assoc]
          exact set_app (j := 0)
        · rw [fol_cons] at e4
          exact e4
        · have := addAll_len (f := f) (xs := pt n x)
          simp only [szs] at e7
          omega
      · subst e1 e3
        have e4 : f = fol n [] (innerW w) := e4
        simp only [Ok_sExp, Ok_eCall, Ok_eAs1, Ok_eAs0, Ok_eV, Ok_eNew, Ok_sRet, List.getElem?_cons_succ, List.getElem?_cons_zero, Option.some.injEq, exists_eq_left']
        have g0 : (M ++ X ++ [O.lst [w]])[M.length]? = some (.lst f) := by rw [List.append_assoc]; have := get_app_r (M := M) (X := X ++ [O.lst [w]]) (j := 0); rw [Nat.add_zero] at this; rw [this]; exact get_app e2
        refine Ok.eq (put_once g0 get_new (by have := get_lt e2; simp; intro z; rw [z] at this; simp at this) e5 (by simp [hw.K]; omega) (by simp only [szs] at e7; simp; omega)) ?_
        refine ⟨addAll f [w], (X ++ [O.lst [w]]).set 0 (.lst (addAll f [w])), 0, rfl, ?_, get_set (get_app e2), ?_, by rw [e4]; rfl⟩
        · rw [List.append_assoc]
          exact set_app (j := 0)
        · exact isDs_mem.mpr fun z hz => D_K (addAll_K e5 (by simp [hw.K]; omega) z hz).1
    obtain ⟨r, M', e, ws, e1, e2, _, e3⟩ := key
    rw [e, e1, e2, e3]
theorem law_parts : ∀ (n d : Nat) (w : W) (M : Mem), Wi w → dep w < n → n ≤ d → dep w ≤ 40 → sz w ≤ 100000 → runT T d 13 [w] M = some (.ok (.ref M.length), M ++ [.lst (pt n w)])
  | 0, d, w, M, hw, h, _, _, _ => absurd h (Nat.not_lt_zero _)
  | n + 1, 0, w, M, hw, h, hd, _, _ => absurd hd (by omega)
  | n + 1, d + 1, w, M, hw, h, hd, h40, hs => by
    have key : Ok (runT T (d + 1) 13 [w] M) fun r M' => ∃ ws, r = .ref M.length ∧ M' = M ++ [.lst ws] ∧ isDs ws = true ∧ ws = pt (n + 1) w := by
      refine run_list (n := 5) (b := b13 (runT T d)) rfl ?_
      unfold b13
      have hin := hw.inner
      have hsz := hw.inner_sz
      have tagK : ∀ c : Tx, isK (.str c) = true := fun _ => rfl
      -- the inner ones
      have inn : ∀ (s : Sl) (M' : Mem) (QF : Fl → Mem → Prop) (a : Option W) (x3 x4 : Option W), s = [some w, a, some (.tup []), x3, x4] → QF (.nx [some w, a, some (.tup (innerW w)), x3, x4]) M' →
          Ok (sSeq (sIf (eOp oEq (eOp oIx (eV 0) (eC (.int 0))) (eC (.str [110, 111, 116]))) (sAsg (.one 2) (eTup [(eOp oIx (eV 0) (eC (.int 1)))])) sPass) (sIf (eOp oIn (eOp oIx (eV 0) (eC (.int 0))) (eTup [(eC (.str [98, 111, 116, 104])), (eC (.str [101, 105, 116, 104, 101, 114]))])) (sAsg (.one 2) (eOp oIx (eV 0) (eC (.int 1)))) sPass) s M') QF := by
        intro s M' QF a x3 x4 es hq
        subst es
        have inT : ∀ {c : Tx} {N : Mem} {Q : W → Mem → Prop}, Ok (oIn (.str c) (.tup [.str [98, 111, 116, 104], .str [101, 105, 116, 104, 101, 114]]) N) Q ↔ Q (.bl (decide (W.str c ∈ [W.str [98, 111, 116, 104], W.str [101, 105, 116, 104, 101, 114]]))) N := fun {c N Q} =>
          Ok_inT rfl rfl (by simp [dep]) (by simp [dep])
        cases hw with
        | at_ w h =>
          cases h with
          | flag s => simp [Ok_ixTup, Ok_at0, Ok_at1, inT, innerW] at hq ⊢; exact hq
          | like _ _ _ _ => simp [Ok_ixTup, Ok_at0, Ok_at1, inT, innerW] at hq ⊢; exact hq
          | most _ _ _ _ => simp [Ok_ixTup, Ok_at0, Ok_at1, inT, innerW] at hq ⊢; exact hq
        | no x hx => simp [Ok_ixTup, Ok_at0, Ok_at1, inT, innerW] at hq ⊢; exact hq
        | both ws hws => simp [Ok_ixTup, Ok_at0, Ok_at1, inT, innerW] at hq ⊢; exact hq
        | eith ws hws => simp [Ok_ixTup, Ok_at0, Ok_at1, inT, innerW] at hq ⊢; exact hq
      have assoc : ∀ (A B D : SM) (s : Sl) (M' : Mem) (QF : Fl → Mem → Prop), Ok (sSeq (sSeq A B) D s M') QF → Ok (sSeq A (sSeq B D) s M') QF := by
        intro A B D s M' QF h
        simp only [Ok_sSeq] at h ⊢
        refine h.mono fun fl N h => ?_
        cases fl with
        | nx s' => exact h
        | rt r => exact h
      rw [Ok_sSeq, Ok_sAsg, Ok_eNew, Ok_eAs0]
      dsimp only
      rw [Ok_sSeq, Ok_sAsg, Ok_eTup, Ok_eAs0]
      dsimp only
      refine assoc _ _ _ _ _ _ ?_
      rw [Ok_sSeq]
      refine inn _ _ _ (some (.ref M.length)) none none rfl ?_
      dsimp only
      simp only [Ok_sSeq, Ok_sFor, Ok_iSeq, Ok_eV, List.getElem?_cons_succ, List.getElem?_cons_zero, Option.some.injEq, exists_eq_left', Ok_seqTup]
      refine Ok_for (fun rest s M' => ∃ X f v3 v4, M' = M ++ X ∧ X[0]? = some (.lst f) ∧ s = [some w, some (.ref M.length), some (.tup (innerW w)), v3, v4] ∧ fol n f rest = fol n [] (innerW w) ∧ (∀ x ∈ f, isK x = true ∧ dep x ≤ 50) ∧ (∀ x ∈ rest, x ∈ innerW w) ∧ f.length + szs rest ≤ szs (innerW w))
        (fun _ _ _ _ => rfl) (fun x rest s M' ⟨X, f, v3, v4, e1, e2, e3, e4, e5, e6, e7⟩ => ?_) (fun s M' ⟨X, f, v3, v4, e1, e2, e3, e4, e5, e6, e7⟩ => ?_) (innerW w) _ _ ⟨[.lst []], [], none, none, rfl, rfl, rfl, rfl, by simp, fun _ h => h, by simp⟩
      · subst e1 e3
        refine ⟨_, rfl, ?_⟩
        have hx := hin x (e6 x List.mem_cons_self)
        have hxs := sz_mem (e6 x List.mem_cons_self)
        have hp := pt_ok n x hx.1
        simp only [Ok_sFor, Ok_iSeq, Ok_eCall, Ok_eAs1, Ok_eAs0, Ok_eV, setS, List.set_cons_succ, List.set_cons_zero, List.getElem?_cons_succ, List.getElem?_cons_zero, Option.some.injEq, exists_eq_left']
        refine Ok.eq (law_parts n d x (M ++ X) hx.1 (by omega) (by omega) (by omega) (by omega)) ?_
        rw [Ok_seqRef get_new]
        refine Ok_for (fun rs s M' => ∃ Y g v4, M' = M ++ Y ∧ Y[0]? = some (.lst g) ∧ Y[X.length]? = some (.lst (pt n x)) ∧ s = [some w, some (.ref M.length), some (.tup (innerW w)), some x, v4] ∧ addAll g rs = addAll f (pt n x) ∧ (∀ x ∈ g, isK x = true ∧ dep x ≤ 50) ∧ (∀ z ∈ rs, z ∈ pt n x) ∧ g.length + rs.length ≤ f.length + (pt n x).length)
          (fun rs s M' ⟨Y, g, v4, k1, k2, k3, _⟩ => still_some (by rw [k1, List.length_append]; rw [get_app_r]; exact k3)) (fun z rs s M' ⟨Y, g, v4, k1, k2, k3, k4, k5, k6, k7, k8⟩ => ?_) (fun s M' ⟨Y, g, v4, k1, k2, k3, k4, k5, k6, k7, k8⟩ => ?_) (pt n x) _ _ ⟨X ++ [.lst (pt n x)], f, v4, by simp, get_app e2, get_new, rfl, rfl, e5, fun _ h => h, Nat.le_refl _⟩
        · subst k1 k4
          refine ⟨_, rfl, ?_⟩
          have gj : (M ++ Y)[M.length]? = some (.lst g) := by have := get_app_r (M := M) (X := Y) (j := 0); rw [Nat.add_zero] at this; rw [this]; exact k2
          have kz := pt_K hx.1 (by omega) z (k7 z List.mem_cons_self)
          have hX0 : 0 < X.length := get_lt e2
          simp only [Ok_sIf, Ok_eOp, Ok_eV, setS, List.set_cons_succ, List.set_cons_zero, List.getElem?_cons_succ, List.getElem?_cons_zero, Option.some.injEq, exists_eq_left']
          rw [Ok_niL gj kz.1 (isKs_mem.mpr fun y hy => (k6 y hy).1) kz.2 fun y hy => (k6 y hy).2, Br_b]
          refine ⟨fun hm => ?_, fun hm => ?_⟩
          · have hm : z ∉ g := by simpa using hm
            simp only [Ok_sExp, Ok_eM, Ok_eV, Ok_eAs1, Ok_eAs0, List.getElem?_cons_succ, List.getElem?_cons_zero, Option.some.injEq, exists_eq_left']
            refine ⟨kindW_L gj, ?_⟩
            rw [Ok_app gj (by simp only [szs] at e7; simp at k8; omega)]
            refine ⟨Y.set 0 (.lst (g ++ [z])), g ++ [z], some z, set_app (j := 0), get_set k2, by rw [get_ne (by omega)]; exact k3, rfl, ?_, ?_, fun y hy => k7 y (List.mem_cons_of_mem _ hy), by simp at k8 ⊢; omega⟩
            · rw [addAll_cons, if_neg hm] at k5
              exact k5
            · intro y hy
              rcases List.mem_append.mp hy with hy | hy
              · exact k6 y hy
              · rw [List.mem_singleton.mp hy]; exact kz
          · have hm : z ∈ g := by simpa using hm
            rw [Ok_sPass]
            rw [addAll_cons, if_pos hm] at k5
            exact ⟨Y, g, some z, rfl, k2, k3, rfl, k5, k6, fun y hy => k7 y (List.mem_cons_of_mem _ hy), by simp at k8 ⊢; omega⟩
        · subst k1 k4
          have k5 : g = addAll f (pt n x) := k5
          refine ⟨Y, g, some x, v4, rfl, k2, rfl, ?_, k6, fun z hz => e6 z (List.mem_cons_of_mem _ hz), ?_⟩
          · rw [fol_cons] at e4
            rw [k5]
            exact e4
          · have := addAll_len (f := f) (xs := pt n x)
            simp only [szs] at e7
            rw [k5]
            omega
      · subst e1 e3
        have e4 : f = fol n [] (innerW w) := e4
        have gj : (M ++ X)[M.length]? = some (.lst f) := by have := get_app_r (M := M) (X := X) (j := 0); rw [Nat.add_zero] at this; rw [this]; exact e2
        have fd : isDs f = true := isDs_mem.mpr fun z hz => D_K (e5 z hz).1
        simp only [Ok_sRet, Ok_eIf, Ok_eOp, Ok_eV, List.getElem?_cons_succ, List.getElem?_cons_zero, Option.some.injEq, exists_eq_left']
        rw [Ok_inL gj hw.K (isKs_mem.mpr fun y hy => (e5 y hy).1) (by omega) fun y hy => (e5 y hy).2, Br_b]
        refine ⟨fun hm => ?_, fun hm => ?_⟩
        · have hm : w ∈ f := by simpa using hm
          refine ⟨f, X, 0, rfl, rfl, e2, fd, ?_⟩
          unfold pt
          show f = addAll (fol n [] (innerW w)) [w]
          rw [← e4]
          simp [addAll, hm]
        · have hm : w ∉ f := by simpa using hm
          simp only [Ok_eNew, Ok_eAs1, Ok_eAs0, Ok_eV, List.getElem?_cons_zero, Option.some.injEq, exists_eq_left']
          rw [Ok_addL (get_app gj) get_new (by simp; omega)]
          refine ⟨f ++ [w], X ++ [.lst [w]] ++ [.lst (f ++ [w])], X.length + 1, by simp [Nat.add_assoc], by simp, ?_, ?_, ?_⟩
          · rw [List.getElem?_append_right (by simp)]
            simp
          · exact isDs_mem.mpr fun z hz => by
              rcases List.mem_append.mp hz with hz | hz
              · exact isDs_mem.mp fd z hz
              · rw [List.mem_singleton.mp hz]; exact D_K hw.K
          · unfold pt
            show f ++ [w] = addAll (fol n [] (innerW w)) [w]
            rw [← e4]
            simp [addAll, hm]
    obtain ⟨r, M', e, ws, e1, e2, _, e3⟩ := key
    rw [e, e1, e2, e3]
end Sw.smallword_k77_opening_steps

set_option autoImplicit false
set_option linter.all false
set_option maxRecDepth 10000
namespace Sw
theorem Ok_at_mem {ws : List W} {i : Int} {M : Mem} {Q : W → Mem → Prop} (h1 : 0 ≤ i) (h2 : i < ws.length) (h : ∀ w ∈ ws, Q w M) : Ok (atW ws i M) Q := by
  rw [Ok_at]
  have hl : i.toNat < ws.length := by omega
  refine ⟨i.toNat, ws[i.toNat], ?_, List.getElem?_eq_getElem hl, h _ (List.getElem_mem hl)⟩
  have := ixW_nat hl
  rwa [Int.toNat_of_nonneg h1] at this
structure TmG (w : W) : Prop where
  tm : Tm w
  dep : dep w ≤ 5
  sz : sz w ≤ 11
  pl : plW w = true
namespace smallword_k77_opening_steps
def names : List W := [.tup [.str [110, 97, 109, 101], .str [97]], .tup [.str [110, 97, 109, 101], .str [98]], .tup [.str [110, 97, 109, 101], .str [97, 98]], .tup [.str [110, 97, 109, 101], .str [102]]]
theorem names_ok : ∀ w ∈ names, Tm w ∧ Sw.dep w ≤ 1 ∧ Sw.sz w ≤ 3 ∧ plW w = true := by
  intro w hw
  simp only [names, List.mem_cons, List.not_mem_nil, or_false] at hw
  rcases hw with rfl | rfl | rfl | rfl
  · exact ⟨.name _, by decide, by decide, by decide⟩
  · exact ⟨.name _, by decide, by decide, by decide⟩
  · exact ⟨.name _, by decide, by decide, by decide⟩
  · exact ⟨.name _, by decide, by decide, by decide⟩
section
variable {ns : List Int} (hl : ns.length ≤ 63)
include hl
theorem term {d : Nat} {k : Int} {M : Mem} (hk : 0 ≤ k ∧ k ≤ 900000) : Ok (runT T (d + 2) 8 [.scr ns, .int k] M) fun r M' => M' = M ∧ TmG r := by
  refine run_ok (n := 5) (b := b8 (runT T (d + 1))) rfl ?_
  unfold b8
  have g4 : ∀ {k : Int}, 0 ≤ drawM ns k 4 ∧ drawM ns k 4 < 4 := drawM_lt (by decide)
  have g6 : ∀ {k : Int}, 0 ≤ drawM ns k 6 ∧ drawM ns k 6 < 6 := drawM_lt (by decide)
  simp only [Ok_sSeq, Ok_sAsg, Ok_eNew, Ok_eAs1, Ok_eAs0, Ok_eTup, Ok_eC, start, List.map_cons, List.map_nil, List.length_cons, List.length_nil, Nat.zero_add, Nat.reduceSub, List.replicate_succ, List.replicate_zero, List.cons_append, List.nil_append, List.set_cons_succ, List.set_cons_zero, Ok_eOp, Ok_eV, Ok_eCall, List.getElem?_cons_succ, List.getElem?_cons_zero, Option.some.injEq, exists_eq_left']
  refine Ok.eq (draw hl (by omega) (by decide)) ?_
  refine (Ok_ixRef (ws := names) get_new).mpr ?_
  refine Ok_at_mem g4.1 g4.2 fun one hone => ?_
  obtain ⟨o1, o2, o3, o4⟩ := names_ok one hone
  simp only [Ok_add, Ok_sSeq, Ok_sAsg, Ok_eOp, Ok_eV, Ok_eC, Ok_eCall, Ok_eAs1, Ok_eAs0, List.set_cons_succ, List.set_cons_zero, List.getElem?_cons_succ, List.getElem?_cons_zero, Option.some.injEq, exists_eq_left']
  refine Ok.eq (draw hl (by omega) (by decide)) ?_
  have hw := g6 (k := k + 1)
  generalize drawM ns (k + 1) 6 = way at hw
  have done : ∀ {r : W} {X : Mem}, TmG r → ∃ r', Fl.rt r = .rt r' ∧ isD r' = true ∧ TmG r' ∧ ∃ Y, M ++ X = M ++ Y := fun {r X} h => ⟨r, rfl, D_K h.tm.K, h, X, rfl⟩
  simp only [Ok_sIf, Ok_eOp, Ok_eV, Ok_eC, Ok_lt, Ok_eqi, List.getElem?_cons_succ, List.getElem?_cons_zero, Option.some.injEq, exists_eq_left', Ok_sRet, Ok_sPass, Br_b, Ok_eTup, Ok_eAs1, Ok_eAs0, Ok_sSeq]
  have hone0 : ∀ w ∈ [one], Tm w := by simpa using o1
  refine ⟨fun _ => done ⟨o1, by omega, by omega, o4⟩, fun _ => ⟨fun _ => ?_, fun _ => ⟨fun _ => done ?_, fun _ => done ?_⟩⟩⟩
  · refine (Ok_ixRef (ws := names) get_new).mpr ?_
    refine Ok_at_mem (by decide) (by decide) fun n0 hn0 => done ?_
    obtain ⟨p1, p2, p3, p4⟩ := names_ok n0 hn0
    refine ⟨.call _ _ (by simp [o1, p1]), ?_, ?_, ?_⟩
    · simp [Sw.dep, deps]; omega
    · simp [Sw.sz, szs]; omega
    · simp [plW, plWs, o4, p4]; decide
  · refine ⟨.call _ _ (by simp; exact .call _ _ (by simp [o1])), ?_, ?_, ?_⟩
    · simp [Sw.dep, deps]; omega
    · simp [Sw.sz, szs]; omega
    · simp [plW, plWs, o4]; decide
  · refine ⟨.call _ _ (by simp [o1]), ?_, ?_, ?_⟩
    · simp [Sw.dep, deps]; omega
    · simp [Sw.sz, szs]; omega
    · simp [plW, plWs, o4]; decide
def Pr (w : W) : Prop := ∃ n m : Int, w = .tup [.int n, .int m] ∧ (-10000 ≤ n ∧ n ≤ 10000) ∧ -10000 ≤ m ∧ m ≤ 10000
omit hl in
theorem Pr.D {w : W} (h : Pr w) : isD w = true ∧ Sw.dep w ≤ 1 ∧ Sw.sz w ≤ 3 ∧ plW w = true := by
  obtain ⟨n, m, rfl, h1, h2⟩ := h
  refine ⟨rfl, by simp [Sw.dep, deps], by simp [Sw.sz, szs], ?_⟩
  simp [plW, plWs]
  omega
def shares : List W := [.tup [.int 1, .int 1], .tup [.int (-1), .int 1], .tup [.int 2, .int 1], .tup [.int (-1), .int 2], .tup [.int 3, .int 1], .tup [.int (-2), .int 3], .tup [.int 1, .int 1], .tup [.int (-1), .int 1]]
omit hl in
theorem shares_ok : ∀ w ∈ shares, Pr w := by
  intro w hw
  simp only [shares, List.mem_cons, List.not_mem_nil, or_false] at hw
  rcases hw with rfl | rfl | rfl | rfl | rfl | rfl | rfl | rfl <;> exact ⟨_, _, rfl, by omega, by omega⟩
theorem share {d : Nat} {k : Int} {M : Mem} (hk : 0 ≤ k ∧ k ≤ 900000) : Ok (runT T (d + 2) 9 [.scr ns, .int k] M) fun r M' => M' = M ∧ Pr r := by
  refine run_ok (n := 3) (b := b9 (runT T (d + 1))) rfl ?_
  unfold b9
  have g8 : 0 ≤ drawM ns k 8 ∧ drawM ns k 8 < 8 := drawM_lt (by decide)
  simp only [Ok_sSeq, Ok_sAsg, Ok_eNew, Ok_eAs1, Ok_eAs0, Ok_eTup, Ok_eC, Ok_eUn, Ok_neg, start, List.map_cons, List.map_nil, List.length_cons, List.length_nil, Nat.zero_add, Nat.reduceSub, List.replicate_succ, List.replicate_zero, List.cons_append, List.nil_append, List.set_cons_succ, List.set_cons_zero, Ok_eOp, Ok_eV, Ok_eCall, Ok_sIf, Ok_add, List.getElem?_cons_succ, List.getElem?_cons_zero, Option.some.injEq, exists_eq_left']
  refine Ok.eq (draw hl (by omega) (by decide)) ?_
  simp only [Ok_eqi, Br_b, Ok_sRet, Ok_eTup, Ok_eAs1, Ok_eAs0, Ok_eC, Ok_sPass, Ok_eOp, Ok_eV, Ok_eCall, List.getElem?_cons_succ, List.getElem?_cons_zero, Option.some.injEq, exists_eq_left']
  refine ⟨fun _ => ?_, fun _ => ?_⟩
  · exact ⟨_, rfl, rfl, ⟨_, _, rfl, by omega, by omega⟩, _, rfl⟩
  · refine Ok.eq (draw hl (by omega) (by decide)) ?_
    refine (Ok_ixRef (ws := shares) get_new).mpr ?_
    refine Ok_at_mem g8.1 g8.2 fun w hw => ?_
    have := shares_ok w hw
    exact ⟨w, rfl, this.D.1, this, _, rfl⟩
/-- a good atom -/
structure AtG (w : W) : Prop where
  at_ : At w
  dep : dep w ≤ 8
  sz : sz w ≤ 80
  pl : plW w = true
def flags : List W := [.str [112], .str [113], .str [97]]
def pool0 : List W := [.tup [.str [110, 97, 109, 101], .str [97]], .tup [.str [110, 97, 109, 101], .str [98]], .tup [.str [110, 97, 109, 101], .str [97, 98]]]
def pool : List W := pool0 ++ [.tup [.str [99, 97, 108, 108], .str [102], .tup [.tup [.str [110, 97, 109, 101], .str [97]]]], .tup [.str [99, 97, 108, 108], .str [102], .tup [.tup [.str [110, 97, 109, 101], .str [98]]]]]
omit hl in
theorem pool_ok : ∀ w ∈ pool, TmG w ∧ Sw.dep w ≤ 3 ∧ Sw.sz w ≤ 7 := by
  intro w hw
  simp only [pool, pool0, List.mem_append, List.mem_cons, List.not_mem_nil, or_false] at hw
  rcases hw with (rfl | rfl | rfl) | rfl | rfl
  · exact ⟨⟨.name _, by decide, by decide, by decide⟩, by decide, by decide⟩
  · exact ⟨⟨.name _, by decide, by decide, by decide⟩, by decide, by decide⟩
  · exact ⟨⟨.name _, by decide, by decide, by decide⟩, by decide, by decide⟩
  · exact ⟨⟨.call _ _ (by simp; exact .name _), by decide, by decide, by decide⟩, by decide, by decide⟩
  · exact ⟨⟨.call _ _ (by simp; exact .name _), by decide, by decide, by decide⟩, by decide, by decide⟩
def bounds : List W := [.tup [.int 0, .int 1], .tup [.int 1, .int 1], .tup [.int (-1), .int 1], .tup [.int 1, .int 2], .tup [.int (-3), .int 1], .tup [.int 5, .int 1]]
omit hl in
theorem bounds_ok : ∀ w ∈ bounds, Pr w := by
  intro w hw
  simp only [bounds, List.mem_cons, List.not_mem_nil, or_false] at hw
  rcases hw with rfl | rfl | rfl | rfl | rfl | rfl <;> exact ⟨_, _, rfl, by omega, by omega⟩
omit hl in
theorem szs_perm {a b : List W} (h : a.Perm b) : szs a = szs b := by
  induction h with
  | nil => rfl
  | cons x _ ih => simp [szs, ih]
  | swap x y l => simp [szs]; omega
  | trans _ _ h1 h2 => exact h1.trans h2
omit hl in
theorem szs_le {n : Nat} : ∀ {ws : List W}, (∀ w ∈ ws, Sw.sz w ≤ n) → szs ws ≤ n * ws.length
  | [], _ => by simp [szs]
  | w :: ws, h => by
    have h1 := h w List.mem_cons_self
    have h2 := szs_le fun z hz => h z (List.mem_cons_of_mem _ hz)
    simp only [szs, List.length_cons, Nat.mul_add, Nat.mul_one]
    omega
omit hl in
theorem tmG_T {w : W} (h : Tm w) : isT w = true := by cases h <;> rfl
theorem atom {d : Nat} {k : Int} {M : Mem} (hk : 0 ≤ k ∧ k ≤ 800000) : Ok (runT T (d + 3) 10 [.scr ns, .int k] M) fun r M' => M' = M ∧ AtG r := by
  refine run_ok (n := 8) (b := b10 (runT T (d + 2))) rfl ?_
  unfold b10
  have g : ∀ {k m : Int}, 0 < m → 0 ≤ drawM ns k m ∧ drawM ns k m < m := drawM_lt
  have done : ∀ {r : W} {X : Mem}, AtG r → ∃ r', Fl.rt r = .rt r' ∧ isD r' = true ∧ AtG r' ∧ ∃ Y, M ++ X = M ++ Y := fun {r X} h => ⟨r, rfl, D_K h.at_.K, h, X, rfl⟩
  simp only [Ok_sSeq, Ok_sAsg, Ok_eNew, Ok_eAs1, Ok_eAs0, Ok_eTup, Ok_eC, Ok_eUn, Ok_neg, start, List.map_cons, List.map_nil, List.length_cons, List.length_nil, Nat.zero_add, Nat.reduceSub, List.replicate_succ, List.replicate_zero, List.cons_append, List.nil_append, List.set_cons_succ, List.set_cons_zero, Ok_eOp, Ok_eV, Ok_eCall, Ok_sIf, List.getElem?_cons_succ, List.getElem?_cons_zero, Option.some.injEq, exists_eq_left']
  refine Ok.eq (draw hl (by omega) (by decide)) ?_
  generalize drawM ns k 5 = way
  simp only [Ok_eqi, Ok_lt, Br_b, Ok_sRet, Ok_eTup, Ok_eAs1, Ok_eAs0, Ok_eC, Ok_sPass, Ok_eOp, Ok_eV, Ok_eCall, Ok_eNew, Ok_add, List.getElem?_cons_succ, List.getElem?_cons_zero, Option.some.injEq, exists_eq_left']
  refine ⟨fun _ => ?_, fun _ => ⟨fun _ => ?_, fun _ => ?_⟩⟩
  · refine Ok.eq (draw hl (by omega) (by decide)) ?_
    refine (Ok_ixRef (ws := flags) get_new).mpr ?_
    refine Ok_at_mem (g (by decide)).1 (g (by decide)).2 fun w hw => ?_
    simp only [flags, List.mem_cons, List.not_mem_nil, or_false] at hw
    rcases hw with rfl | rfl | rfl <;> exact done ⟨.flag _, by decide, by decide, by decide⟩
  · refine (term hl (by omega)).mono fun a M1 ⟨e1, ha⟩ => ?_
    subst e1
    refine (term hl (by omega)).mono fun b M2 ⟨e2, hb⟩ => ?_
    subst e2
    have := ha.dep
    have := hb.dep
    have := ha.sz
    have := hb.sz
    refine ⟨_, rfl, ?_, ⟨.like _ _ ha.tm hb.tm, ?_, ?_, ?_⟩, [], by simp⟩
    · simp [isD, isDs, D_K ha.tm.K, D_K hb.tm.K]
    · simp [Sw.dep, deps]; omega
    · simp [Sw.sz, szs]; omega
    · simp [plW, plWs, ha.pl, hb.pl]; decide
  · simp only [List.set_cons_succ, List.set_cons_zero, List.getElem?_cons_succ, List.getElem?_cons_zero, Option.some.injEq, exists_eq_left']
    refine (Ok_ixRef (ws := pool0) get_new).mpr (Ok_at0.mpr ((Ok_ixRef (ws := pool0) get_new).mpr (Ok_at1.mpr ?_)))
    refine (Ok_addL (xs := pool0) (get_app get_new) get_new (by decide)).mpr ?_
    rw [Ok_eDic]
    generalize hT : M ++ [O.lst pool0] ++ [O.lst [W.tup [W.str [99, 97, 108, 108], W.str [102], W.tup [.tup [.str [110, 97, 109, 101], .str [97]]]], W.tup [W.str [99, 97, 108, 108], W.str [102], W.tup [.tup [.str [110, 97, 109, 101], .str [98]]]]]] = T0
    generalize hN : T0 ++ [O.lst (pool0 ++ [W.tup [W.str [99, 97, 108, 108], W.str [102], W.tup [.tup [.str [110, 97, 109, 101], .str [97]]]], W.tup [W.str [99, 97, 108, 108], W.str [102], W.tup [.tup [.str [110, 97, 109, 101], .str [98]]]]])] = N
    have hP : ∀ {Y : Mem}, (N ++ Y)[T0.length]? = some (.lst pool) := by
      intro Y
      subst hN
      exact get_app get_new
    have hNM : ∃ Z, N = M ++ Z := ⟨_, by rw [← hN, ← hT, List.append_assoc, List.append_assoc]⟩
    obtain ⟨Z, hZ⟩ := hNM
    have fin : ∀ {r : W} {X : Mem}, AtG r → ∃ r', Fl.rt r = .rt r' ∧ isD r' = true ∧ AtG r' ∧ ∃ Y, N ++ X = M ++ Y := fun {r X} h => ⟨r, rfl, D_K h.at_.K, h, Z ++ X, by rw [hZ, List.append_assoc]⟩
    rw [Ok_sFor]
    refine Ok_iRange1.mpr ?_
    simp only [Ok_eOp, Ok_eC, Ok_eCall, Ok_eAs1, Ok_eAs0, Ok_eV, Ok_add, List.getElem?_cons_succ, List.getElem?_cons_zero, Option.some.injEq, exists_eq_left']
    refine Ok.eq (draw hl (by omega) (by decide)) ?_
    have g3 := g (k := k + 6) (m := 3) (by decide)
    generalize drawM ns (k + 6) 3 = cnt at g3
    rw [Ok_add, Ok_rngW]
    refine ⟨by omega, ?_⟩
    refine Ok_for (fun rest s M' => ∃ X kvs v5, M' = N ++ X ∧ X[0]? = some (.dic kvs) ∧ s = [some (.scr ns), some (.int k), some (.int way), some (.ref T0.length), some (.ref N.length), v5, none, none] ∧
        (∀ p ∈ kvs, p.1 ∈ pool ∧ Pr p.2) ∧ (∀ x ∈ rest, ∃ i : Int, x = .int i ∧ 0 ≤ i ∧ i < 5) ∧ kvs.length + rest.length ≤ 3)
      (fun _ _ _ _ => rfl) (fun x rest s M' ⟨X, kvs, v5, e1, e2, e3, e4, e5, e6⟩ => ?_) (fun s M' ⟨X, kvs, v5, e1, e2, e3, e4, e5, e6⟩ => ?_) _ _ _
      ⟨[.dic []], [], none, rfl, rfl, rfl, by simp, fun x hx => by obtain ⟨i, e, h1, h2⟩ := range_mem hx; exact ⟨i, e, h1, by omega⟩, by rw [range_len]; simp; omega⟩
    · subst e1 e3
      refine ⟨_, rfl, ?_⟩
      obtain ⟨i, rfl, hi1, hi2⟩ := e5 x List.mem_cons_self
      simp only [Ok_sPut, Ok_eCall, Ok_eAs1, Ok_eAs0, Ok_eOp, Ok_eC, Ok_eV, Ok_add, Ok_mul, setS, List.set_cons_succ, List.set_cons_zero, List.getElem?_cons_succ, List.getElem?_cons_zero, Option.some.injEq, exists_eq_left']
      refine ⟨?_, ?_⟩
      · have := log_sm (a := 2) (by omega) (by omega)
        have := log_sm (a := i) (by omega) (by omega)
        omega
      refine (share hl (by omega)).mono fun sh M1 ⟨e, hsh⟩ => ?_
      subst e
      refine Ok.eq (draw hl (by omega) (by decide)) ?_
      refine (Ok_ixRef hP).mpr ?_
      refine Ok_at_mem (g (by decide)).1 (g (by decide)).2 fun key hkey => ?_
      have hk1 := pool_ok key hkey
      have hd : (N ++ X)[N.length]? = some (.dic kvs) := get_app_at rfl e2
      have hok : okKey kvs key = true := by
        unfold okKey
        rw [hk1.1.tm.K]
        have : dep key ≤ 8 := by have := hk1.2.1; omega
        simp only [this, decide_true, Bool.true_and]
        cases kvs with
        | nil => rfl
        | cons p ps =>
          have := (pool_ok p.1 (e4 p List.mem_cons_self).1).1.tm
          simp [tmG_T this, tmG_T hk1.1.tm]
      refine ⟨_, putW_D hd hok (by simp at e6; omega), X.set 0 (.dic (dput kvs key sh)), dput kvs key sh, some (.int i), set_app_at rfl, get_set e2, rfl, ?_, fun z hz => e5 z (List.mem_cons_of_mem _ hz), ?_⟩
      · intro p hp
        rcases dput_mem2 hp with hp | ⟨h1, h2⟩
        · exact e4 p hp
        · exact ⟨by rw [h2]; exact hkey, by rw [h1]; exact hsh⟩
      · have := dput_len2 (kvs := kvs) (k := key) (v := sh)
        simp at e6 ⊢
        omega
    · subst e1 e3
      simp only [List.getElem?_cons_succ, List.getElem?_cons_zero, Option.some.injEq, exists_eq_left', Ok_add, List.set_cons_succ, List.set_cons_zero]
      refine Ok.eq (draw hl (by omega) (by decide)) ?_
      refine (Ok_ixRef (ws := bounds) get_new).mpr ?_
      refine Ok_at_mem (g (by decide)).1 (g (by decide)).2 fun bd hbd => ?_
      have hbd := bounds_ok bd hbd
      rw [Ok_eTuple, Ok_lSorted]
      have hd : ∀ {Y : Mem}, (N ++ X ++ Y)[N.length]? = some (.dic kvs) := fun {Y} => get_app (get_app_at rfl e2)
      refine Ok_lLock (eV_eq rfl) hd ?_
      rw [Ok_lComp]
      refine Ok_keys ?_
      rw [Ok_eV]
      refine ⟨_, rfl, N.length, kvs, rfl, get_set hd, ?_⟩
      have hdl : ∀ M', M' = (N ++ X ++ [O.lst bounds]).set N.length (.dlk kvs) → M'[N.length]? = some (.dlk kvs) := fun M' e => by rw [e]; exact get_set hd
      refine Ok_map (fun w => .tup [w, (dget kvs w).getD .non]) (fun M' => M' = (N ++ X ++ [O.lst bounds]).set N.length (.dlk kvs)) (fun M' e => still_some (hdl M' e)) rfl (by simp; simp at e6; omega) (fun key hkey M' e => ?_) (fun M' e => ?_)
      · subst e
        refine ⟨_, rfl, ?_⟩
        have hd2 := hdl _ rfl
        obtain ⟨v, hv, hm⟩ := dget_some2 hkey
        have hk1 := pool_ok key (e4 _ hm).1
        have hok : okKey kvs key = true := by
          unfold okKey
          rw [hk1.1.tm.K]
          have : dep key ≤ 8 := by have := hk1.2.1; omega
          simp only [this, decide_true, Bool.true_and]
          cases kvs with
          | nil => rfl
          | cons p ps =>
            have := (pool_ok p.1 (e4 p List.mem_cons_self).1).1.tm
            simp [tmG_T this, tmG_T hk1.1.tm]
        simp only [Ok_eTup, Ok_eAs1, Ok_eAs0, Ok_eV, Ok_eOp, setS, List.set_cons_succ, List.set_cons_zero, List.getElem?_cons_succ, List.getElem?_cons_zero, Option.some.injEq, exists_eq_left']
        rw [Ok_ixD (kvs := kvs) (w := v) (by rw [hd2]; rfl) hok hv]
        exact ⟨by rw [hv]; rfl, rfl⟩
      · subst e
        refine ⟨hdl _ rfl, ?_⟩
        generalize hps : (kvs.map (·.1)).map (fun w => W.tup [w, (dget kvs w).getD .non]) = ps
        have hmo : ∀ p ∈ ps, Mo p ∧ dep p ≤ 4 ∧ sz p ≤ 11 ∧ plW p = true ∧ firstK p = 3 := by
          intro p hp
          rw [← hps] at hp
          obtain ⟨key, hkey, rfl⟩ := List.mem_map.mp hp
          obtain ⟨v, hv, hm⟩ := dget_some2 hkey
          obtain ⟨hk1, hk2, hk3⟩ := pool_ok key (e4 _ hm).1
          obtain ⟨n, m, ev, h1, h2⟩ := (e4 _ hm).2
          dsimp only at ev
          subst ev
          rw [hv]
          have := hk1.pl
          refine ⟨.mk _ _ _ hk1.tm, ?_, ?_, ?_, ?_⟩
          · simp [dep, deps]; omega
          · simp [sz, szs]; omega
          · simp [plW, plWs, this]; omega
          · cases hk1.tm <;> rfl
        have hlen : ps.length ≤ 3 := by rw [← hps]; simp; simp at e6; omega
        refine ⟨srt ps, ?_, ?_⟩
        · unfold sortW
          have h1 : homog ps = true := by
            unfold homog
            have : allK firstK 3 ps = true := by
              unfold allK
              rw [List.all_eq_true]
              intro x hx
              simp [(hmo x hx).2.2.2.2]
            rw [this]
            simp
          have h2 : cmpAll ps = true := cmpAll_of (fun x hx => ⟨D_K (hmo x hx).1.K, by have := (hmo x hx).2.1; omega⟩) fun a ha b hb => (hmo a ha).1.lt (hmo b hb).1
          rw [h1, h2, many_iff.mpr (by omega)]
          rfl
        · obtain ⟨n, m, eb, hb1, hb2⟩ := hbd
          subst eb
          have hq : ∀ p ∈ srt ps, Mo p ∧ dep p ≤ 4 ∧ sz p ≤ 11 ∧ plW p = true ∧ firstK p = 3 := fun p hp => hmo p ((srt_perm ps).mem_iff.mp hp)
          have hlen2 : (srt ps).length ≤ 3 := by rw [(srt_perm ps).length_eq]; exact hlen
          have hat : AtG (.tup [.str [109, 111, 115, 116], .tup (srt ps), .tup [.int n, .int m]]) := by
            refine ⟨.most _ _ _ fun p hp => (hq p hp).1, ?_, ?_, ?_⟩
            · have := deps_le fun p hp => (hq p hp).2.1
              simp [dep, deps]; omega
            · have := szs_le fun p hp => (hq p hp).2.2.1
              simp [sz, szs]; omega
            · have : plWs (srt ps) = true := plWs_mem.mpr fun p hp => (hq p hp).2.2.2.1
              simp [plW, plWs, this]
              exact ⟨by decide, by omega⟩
          refine ⟨_, rfl, D_K hat.at_.K, hat, Z ++ (X ++ [O.lst bounds]), ?_⟩
          rw [List.set_set]
          have e0 : (N ++ X ++ [O.lst bounds]).set N.length (.dic kvs) = N ++ X ++ [O.lst bounds] := by
            refine List.ext_getElem? fun i => ?_
            by_cases hi : N.length = i
            · subst hi
              rw [get_set hd, hd]
            · rw [get_ne hi]
          rw [e0, hZ]
          simp
end
end smallword_k77_opening_steps
end Sw

set_option autoImplicit false
set_option linter.all false
set_option maxRecDepth 10000
namespace Sw.smallword_k77_opening_steps
def Bd : Nat → Nat
  | 0 => 80
  | n + 1 => 3 * Bd n + 3
structure WiG (n : Nat) (w : W) : Prop where
  wi : Wi w
  dep : dep w ≤ 8 + 2 * n
  sz : sz w ≤ Bd n
  pl : plW w = true
theorem Bd_pos : ∀ n, 80 ≤ Bd n
  | 0 => Nat.le_refl _
  | n + 1 => by have := Bd_pos n; simp only [Bd]; omega
section
variable {ns : List Int} (hl : ns.length ≤ 63)
include hl
theorem wish : ∀ (n d : Nat) (k : Int) (j : Nat) (atoms : List W) (M : Mem), 0 ≤ k ∧ k ≤ 700000 - 200 * n → n ≤ 1000 → M[j]? = some (.lst atoms) → (∀ a ∈ atoms, AtG a) → 0 < atoms.length → atoms.length ≤ 100 →
    Ok (runT T (d + n + 2) 11 [.scr ns, .int k, .int n, .ref j] M) fun r M' => M' = M ∧ WiG n r
  | n, d, k, j, atoms, M, hk, hn, hj, ha, hp, hq => by
    refine run_ok (n := 7) (b := b11 (runT T (d + n + 1))) (P := WiG n) rfl ?_
    unfold b11
    have g : ∀ {k m : Int}, 0 < m → 0 ≤ drawM ns k m ∧ drawM ns k m < m := drawM_lt
    have e1 : d + n + 1 = (d + n) + 1 := rfl
    simp only [Ok_sSeq, Ok_sAsg, Ok_eAs1, Ok_eAs0, Ok_eC, start, List.map_cons, List.map_nil, List.length_cons, List.length_nil, Nat.zero_add, Nat.reduceSub, List.replicate_succ, List.replicate_zero, List.cons_append, List.nil_append, List.set_cons_succ, List.set_cons_zero, Ok_eV, Ok_eCall, List.getElem?_cons_succ, List.getElem?_cons_zero, Option.some.injEq, exists_eq_left']
    refine Ok.eq (draw hl (by omega) (by decide)) ?_
    have gw := g (k := k) (m := 7) (by decide)
    generalize drawM ns k 7 = way at gw
    simp only [Ok_sIf, Ok_eOr, Ok_eOp, Ok_eV, Ok_eC, Ok_eqi, Ok_lt, Ok_sRet, Ok_sPass, Ok_eCall, Ok_eAs1, Ok_eAs0, Ok_add, Ok_eUn, List.getElem?_cons_succ, List.getElem?_cons_zero, Option.some.injEq, exists_eq_left']
    have A : Ok (uLen (.ref j) M) fun w_4 M_5 => Ok (runT T (d + n + 1) 7 [.scr ns, .int (k + 1), w_4] M_5) fun y M_6 => Ok (oIx (.ref j) y M_6) fun w M_7 => ∃ r, Fl.rt w = Fl.rt r ∧ isD r = true ∧ WiG n r ∧ ∃ X, M_7 = M ++ X := by
      refine (Ok_lenRef hj).mpr ?_
      refine Ok.eq (draw hl (by omega) (by omega)) ?_
      refine (Ok_ixRef hj).mpr ?_
      refine Ok_at_mem (g (by omega)).1 (g (by omega)).2 fun a hm => ?_
      have h := ha a hm
      have := Bd_pos n
      exact ⟨a, rfl, D_K h.at_.K, ⟨.at_ _ h.at_, by have := h.dep; omega, by have := h.sz; omega, h.pl⟩, [], (List.append_nil _).symm⟩
    rw [Br_b]
    refine ⟨fun _ => A, fun h0 => ?_⟩
    have hn0 : n ≠ 0 := by
      intro z
      subst z
      simp at h0
    obtain ⟨n, rfl⟩ : ∃ m, n = m + 1 := ⟨n - 1, by omega⟩
    have en : ((n + 1 : Nat) : Int) - 1 = (n : Int) := by omega
    rw [Br_b]
    refine ⟨fun _ => A, fun _ => ?_⟩
    simp only [Ok_sSeq, Ok_sIf, Ok_eOp, Ok_eV, Ok_eC, Ok_eqi, Ok_sRet, Ok_sPass, Ok_eTup, Ok_eAs1, Ok_eAs0, Ok_eCall, Ok_add, Ok_sub, Br_b, Ok_sAsg, Ok_eNew, Ok_lComp, Ok_iRange1, List.getElem?_cons_succ, List.getElem?_cons_zero, Option.some.injEq, exists_eq_left', en]
    refine ⟨fun _ => ?_, fun _ => ?_⟩
    · refine (wish n (d) (k + 3) j atoms M (by omega) (by omega) hj ha hp hq).mono fun r M' ⟨e, hr⟩ => ?_
      subst e
      have := hr.dep
      have := hr.sz
      refine ⟨_, rfl, ?_, ⟨.no _ hr.wi, ?_, ?_, ?_⟩, [], (List.append_nil _).symm⟩
      · simp [isD, isDs, D_K hr.wi.K]
      · simp [Sw.dep, deps]; omega
      · simp [Sw.sz, szs, Bd]; omega
      · simp [plW, plWs, hr.pl]; decide
    · refine Ok_iRange1.mpr ?_
      simp only [Ok_eOp, Ok_eV, Ok_eC, Ok_eCall, Ok_eAs1, Ok_eAs0, Ok_add, List.getElem?_cons_succ, List.getElem?_cons_zero, Option.some.injEq, exists_eq_left']
      refine Ok.eq (draw hl (by omega) (by decide)) ?_
      have g4 := g (k := k + 2) (m := 4) (by decide)
      generalize drawM ns (k + 2) 4 = cnt at g4
      rw [Ok_rngW]
      refine ⟨by omega, ?_⟩
      refine Ok_lc (fun rest acc M' => M' = M ∧ (∀ x ∈ acc, WiG n x) ∧ (∀ x ∈ rest, ∃ i : Int, x = .int i ∧ 0 ≤ i ∧ i < 4) ∧ acc.length + rest.length ≤ 3) (fun rest acc M' h => ⟨rfl, by have := h.2.2.2; omega⟩) (fun x rest acc M' ⟨e, h1, h2, h3⟩ => ?_) (fun acc M' ⟨e, h1, h2, h3⟩ => ?_) _ _ _
        ⟨rfl, by simp, fun x hx => by obtain ⟨i, e, h1, h2⟩ := range_mem hx; exact ⟨i, e, h1, by omega⟩, by rw [range_len]; simp; omega⟩
      · subst e
        refine ⟨_, rfl, ?_⟩
        obtain ⟨i, rfl, hi1, hi2⟩ := h2 x List.mem_cons_self
        simp only [Ok_eC, Br_t, Ok_eCall, Ok_eAs1, Ok_eAs0, Ok_eOp, Ok_eV, Ok_add, Ok_mul, Ok_sub, setS, List.set_cons_succ, List.set_cons_zero, List.getElem?_cons_succ, List.getElem?_cons_zero, Option.some.injEq, exists_eq_left', en]
        refine ⟨?_, ?_⟩
        · have := log_sm (a := 20) (by omega) (by omega)
          have := log_sm (a := i) (by omega) (by omega)
          omega
        refine (wish n d (k + 3 + 20 * i) j atoms _ (by omega) (by omega) hj ha hp hq).mono fun r M' ⟨e, hr⟩ => ?_
        refine ⟨e, ?_, fun z hz => h2 z (List.mem_cons_of_mem _ hz), by simp at h3 ⊢; omega⟩
        intro z hz
        rcases List.mem_append.mp hz with hz | hz
        · exact h1 z hz
        · rw [List.mem_singleton.mp hz]; exact hr
      · subst e
        simp only [Ok_mod, Ok_eTuple, Ok_lOf, Ok_eV, List.set_cons_succ, List.set_cons_zero, List.getElem?_cons_succ, List.getElem?_cons_zero, Option.some.injEq, exists_eq_left']
        refine ⟨by decide, ?_⟩
        have gm1 := Int.emod_nonneg way (show (2 : Int) ≠ 0 by decide)
        have gm2 := Int.emod_lt_of_pos way (show (0 : Int) < 2 by decide)
        refine (Ok_ixRef (ws := [W.str [98, 111, 116, 104], W.str [101, 105, 116, 104, 101, 114]]) get_new).mpr ?_
        refine Ok_at_mem gm1 gm2 fun c hc => ?_
        refine ⟨acc, items_L (get_app get_new), ?_⟩
        have hd := deps_le fun x hx => (h1 x hx).dep
        have hs := szs_le fun x hx => (h1 x hx).sz
        have hp2 : plWs acc = true := plWs_mem.mpr fun x hx => (h1 x hx).pl
        have hs2 : Bd n * acc.length ≤ Bd n * 3 := Nat.mul_le_mul_left _ (by simpa using h3)
        simp only [List.mem_cons, List.not_mem_nil, or_false] at hc
        have fin : ∀ w, w = W.tup [c, .tup acc] → Wi w → WiG (n + 1) w := by
          intro w ew hw
          subst ew
          refine ⟨hw, ?_, ?_, ?_⟩
          · rcases hc with rfl | rfl <;> simp [Sw.dep, deps] <;> omega
          · rcases hc with rfl | rfl <;> simp [Sw.sz, szs, Bd] <;> omega
          · rcases hc with rfl | rfl <;> simp [plW, plWs, hp2] <;> decide
        have hw : Wi (W.tup [c, .tup acc]) := by
          rcases hc with rfl | rfl
          · exact .both _ fun x hx => (h1 x hx).wi
          · exact .eith _ fun x hx => (h1 x hx).wi
        exact ⟨_, rfl, D_K hw.K, fin _ rfl hw, _, List.append_assoc _ _ _⟩
  termination_by n => n
theorem wishes {d : Nat} : Ok (runT T (d + 5) 12 [.scr ns, .int 400] []) fun r M' => ∃ ws, r = .ref 0 ∧ M' = [.lst ws] ∧ isDs ws = true ∧ (∀ w ∈ ws, WiG 2 w) ∧ ws.length ≤ 5 := by
  refine run_list (n := 5) (b := b12 (runT T (d + 4))) (M := []) (P := fun ws => (∀ w ∈ ws, WiG 2 w) ∧ ws.length ≤ 5) rfl ?_
  unfold b12
  have g : ∀ {k m : Int}, 0 < m → 0 ≤ drawM ns k m ∧ drawM ns k m < m := drawM_lt
  simp only [Ok_sSeq, Ok_sAsg, Ok_eNew, Ok_lComp, start, List.map_cons, List.map_nil, List.length_cons, List.length_nil, Nat.zero_add, Nat.reduceSub, List.replicate_succ, List.replicate_zero, List.cons_append, List.nil_append, List.set_cons_succ, List.set_cons_zero]
  refine Ok_iRange1.mpr ?_
  simp only [Ok_eOp, Ok_eV, Ok_eC, Ok_eCall, Ok_eAs1, Ok_eAs0, Ok_add, List.getElem?_cons_succ, List.getElem?_cons_zero, Option.some.injEq, exists_eq_left']
  refine Ok.eq (draw hl (by omega) (by decide)) ?_
  have g2 := g (k := 2) (m := 6) (by decide)
  generalize drawM ns 2 6 = cnt at g2
  rw [Ok_add, Ok_rngW]
  refine ⟨by omega, ?_⟩
  refine Ok_lc (fun rest acc M' => M' = [] ∧ (∀ x ∈ acc, AtG x) ∧ (∀ x ∈ rest, ∃ i : Int, x = .int i ∧ 0 ≤ i ∧ i < 8) ∧ acc.length + rest.length ≤ 7 ∧ 2 ≤ acc.length + rest.length) (fun rest acc M' h => ⟨rfl, by have := h.2.2.2.1; omega⟩) (fun x rest acc M' ⟨e, h1, h2, h3, h4⟩ => ?_) (fun acc M' ⟨e, h1, h2, h3, h4⟩ => ?_) _ _ _
    ⟨rfl, by simp, fun x hx => by obtain ⟨i, e, h1, h2⟩ := range_mem hx; exact ⟨i, e, h1, by omega⟩, by rw [range_len]; simp; omega, by rw [range_len]; simp; omega⟩
  · subst e
    refine ⟨_, rfl, ?_⟩
    obtain ⟨i, rfl, hi1, hi2⟩ := h2 x List.mem_cons_self
    simp only [Ok_eC, Br_t, Ok_eCall, Ok_eAs1, Ok_eAs0, Ok_eOp, Ok_eV, Ok_add, Ok_mul, setS, List.set_cons_succ, List.set_cons_zero, List.getElem?_cons_succ, List.getElem?_cons_zero, Option.some.injEq, exists_eq_left']
    refine ⟨?_, ?_⟩
    · have := log_sm (a := 20) (by omega) (by omega)
      have := log_sm (a := i) (by omega) (by omega)
      omega
    refine (atom hl (d := d + 1) (k := 400 + 20 * i) (by omega)).mono fun r M' ⟨e, hr⟩ => ?_
    refine ⟨e, ?_, fun z hz => h2 z (List.mem_cons_of_mem _ hz), by simp at h3 ⊢; omega, by simp at h4 ⊢; omega⟩
    intro z hz
    rcases List.mem_append.mp hz with hz | hz
    · exact h1 z hz
    · rw [List.mem_singleton.mp hz]; exact hr
  · subst e
    simp only [Ok_eV, Ok_eC, Ok_eCall, Ok_eAs1, Ok_eAs0, Ok_sRet, Ok_eNew, Ok_lComp, List.getElem?_cons_succ, List.getElem?_cons_zero, Option.some.injEq, exists_eq_left', List.set_cons_succ, List.set_cons_zero]
    refine Ok.eq (draw hl (by omega) (by decide)) ?_
    have g3 := g (k := 3) (m := 6) (by decide)
    generalize drawM ns 3 6 = many at g3
    refine Ok_iRange1.mpr ?_
    simp only [Ok_eV, List.getElem?_cons_succ, List.getElem?_cons_zero, Option.some.injEq, exists_eq_left']
    rw [Ok_rngW]
    refine ⟨by omega, ?_⟩
    refine Ok_lc (fun rest ws M' => M' = ([] ++ [O.lst acc] : Mem) ∧ (∀ x ∈ ws, WiG 2 x) ∧ (∀ x ∈ rest, ∃ i : Int, x = .int i ∧ 0 ≤ i ∧ i < 6) ∧ ws.length + rest.length ≤ 5) (fun rest acc M' h => ⟨rfl, by have := h.2.2.2; omega⟩) (fun x rest ws M' ⟨e, k1, k2, k3⟩ => ?_) (fun ws M' ⟨e, k1, k2, k3⟩ => ?_) _ _ _
      ⟨rfl, by simp, fun x hx => by obtain ⟨i, e, h1, h2⟩ := range_mem hx; exact ⟨i, e, h1, by omega⟩, by rw [range_len]; simp; omega⟩
    · subst e
      refine ⟨_, rfl, ?_⟩
      obtain ⟨i, rfl, hi1, hi2⟩ := k2 x List.mem_cons_self
      simp only [Ok_eC, Br_t, Ok_eCall, Ok_eAs1, Ok_eAs0, Ok_eOp, Ok_eV, Ok_add, Ok_mul, setS, List.set_cons_succ, List.set_cons_zero, List.getElem?_cons_succ, List.getElem?_cons_zero, Option.some.injEq, exists_eq_left']
      refine ⟨?_, ?_⟩
      · have := log_sm (a := 70) (by omega) (by omega)
        have := log_sm (a := i) (by omega) (by omega)
        omega
      refine (wish hl 2 d (400 + 200 + 70 * i) 0 acc _ (by omega) (by omega) rfl h1 (by simp at h4; omega) (by simp at h3; omega)).mono fun r M' ⟨e, hr⟩ => ?_
      refine ⟨e, ?_, fun z hz => k2 z (List.mem_cons_of_mem _ hz), by simp at k3 ⊢; omega⟩
      intro z hz
      rcases List.mem_append.mp hz with hz | hz
      · exact k1 z hz
      · rw [List.mem_singleton.mp hz]; exact hr
    · subst e
      refine ⟨ws, [O.lst acc] ++ [O.lst ws], 1, rfl, rfl, rfl, isDs_mem.mpr fun z hz => D_K (k1 z hz).wi.K, k1, by simpa using k3⟩
end
end Sw.smallword_k77_opening_steps

set_option autoImplicit false
set_option linter.all false
set_option maxRecDepth 10000
namespace Sw
theorem Ok_niD {Q : W → Mem → Prop} {M : Mem} {j : Nat} {kvs : List (W × W)} {k : W} (h : dicO M[j]? = some kvs) (hk : okKey kvs k = true) : Ok (oNi k (.ref j) M) Q ↔ Q (.bl (!(dget kvs k).isSome)) M := by
  have hl : ∀ ws, M[j]? ≠ some (.lst ws) := fun ws e => by rw [e] at h; cases h
  unfold oNi inW
  cases e : M[j]? with
  | none => rw [e] at h; cases h
  | some o =>
    rw [e] at h
    cases o with
    | lst ws => cases h
    | dic us => cases h; simp [hk, dicO, eqOut, e]
    | dlk us => cases h; simp [hk, dicO, eqOut, e]
    | ins _ _ => cases h
namespace smallword_k77_opening_steps
def isBoth : W → Bool
  | .tup (.str c :: _) => decide (c = cBoth) || decide (c = cEith)
  | _ => false
def opens (w : W) : List W := (rangeW 0 ((innerW w).length + 1)).map fun k => .tup [.str [111, 112, 101, 110], w, k]
def stp (a : List W × List W) (w : W) : List W × List W := if isBoth w = true ∧ w ∉ a.2 then (a.1 ++ opens w, a.2 ++ [w]) else a
def steps0 (n : Nat) : List W := (rangeW 0 n).map fun k => .tup [.str [119, 105, 115, 104], k]
def total (ws : List W) : List W := ((ws.flatMap (pt 20)).foldl stp (steps0 ws.length, [])).1
def tot : List W → Nat
  | [] => 0
  | w :: ws => (innerW w).length + 1 + tot ws
theorem tot_app : ∀ {a b : List W}, tot (a ++ b) = tot a + tot b
  | [], b => by simp [tot]
  | x :: a, b => by simp only [List.cons_append, tot, tot_app (a := a)]; omega
theorem tot_addAll : ∀ {xs f : List W}, tot (addAll f xs) ≤ tot f + tot xs
  | [], f => by simp [addAll, tot]
  | x :: xs, f => by
    rw [addAll_cons]
    refine Nat.le_trans tot_addAll ?_
    split
    · simp only [tot]; omega
    · rw [tot_app]; simp only [tot]; omega
theorem tot_pt : ∀ (n : Nat) (w : W), Wi w → tot (pt n w) + 1 ≤ 2 * sz w
  | 0, w, h => by
    have := h.inner_sz
    simp [pt, tot]
    omega
  | n + 1, w, h => by
    have hin := h.inner
    have go : ∀ (xs f : List W), (∀ x ∈ xs, Wi x) → tot (xs.foldl (fun f x => addAll f (pt n x)) f) + xs.length ≤ tot f + 2 * szs xs := by
      intro xs
      induction xs with
      | nil => intro f _; simp [szs]
      | cons x xs ih =>
        intro f hx
        have h1 := tot_pt n x (hx x List.mem_cons_self)
        have h2 := ih (addAll f (pt n x)) fun z hz => hx z (List.mem_cons_of_mem _ hz)
        have h3 := tot_addAll (f := f) (xs := pt n x)
        simp only [List.foldl_cons, List.length_cons, szs]
        omega
    have h1 := go (innerW w) [] fun x hx => (hin x hx).1
    have h2 := h.inner_sz
    unfold pt
    have h3 := tot_addAll (f := (innerW w).foldl (fun f x => addAll f (pt n x)) []) (xs := [w])
    simp only [tot] at h1 h3
    omega
theorem bothish {w : W} (h : Wi w) (hb : isBoth w = true) : ∃ c ws, w = .tup [.str c, .tup ws] ∧ (c = cBoth ∨ c = cEith) ∧ (∀ x ∈ ws, Wi x) ∧ innerW w = ws := by
  cases h with
  | at_ w h =>
    cases h with
    | flag s => simp [isBoth] at hb
    | like _ _ _ _ => simp [isBoth] at hb
    | most _ _ _ _ => simp [isBoth] at hb
  | no x hx => simp [isBoth] at hb
  | both ws hws => exact ⟨_, ws, rfl, .inl rfl, hws, by simp [innerW]⟩
  | eith ws hws => exact ⟨_, ws, rfl, .inr rfl, hws, by simp [innerW]⟩
/-- what is known of a part -/
structure PaG (w : W) : Prop where
  wi : Wi w
  dep : dep w ≤ 12
  sz : sz w ≤ 800
  pl : plW w = true
theorem pl_inner {w : W} (h : Wi w) (hp : plW w = true) : ∀ x ∈ innerW w, plW x = true := by
  cases h with
  | at_ w h =>
    cases h with
    | flag s => intro x hx; simp [innerW] at hx
    | like _ _ _ _ => intro x hx; simp [innerW] at hx
    | most _ _ _ _ => intro x hx; simp [innerW] at hx
  | no x hx =>
    intro y hy
    simp [innerW] at hy
    subst hy
    simp [plW, plWs] at hp
    exact hp.2
  | both ws hws =>
    intro y hy
    simp [innerW] at hy
    simp [plW, plWs] at hp
    exact plWs_mem.mp hp.2 y hy
  | eith ws hws =>
    intro y hy
    simp [innerW] at hy
    simp [plW, plWs] at hp
    exact plWs_mem.mp hp.2 y hy
theorem PaG.inner {w : W} (h : PaG w) : ∀ x ∈ innerW w, PaG x := fun x hx => by
  have h1 := h.wi.inner x hx
  have h2 := h.wi.inner_sz
  have h3 := sz_mem hx
  have := h.dep
  have := h.sz
  exact ⟨h1.1, by omega, by omega, pl_inner h.wi h.pl x hx⟩
theorem pt_PaG : ∀ (n : Nat) (w : W), PaG w → ∀ x ∈ pt n w, PaG x
  | 0, w, h => by simp [pt]
  | n + 1, w, h => by
    have hin := h.inner
    have go : ∀ (xs f : List W), (∀ x ∈ xs, PaG x) → (∀ x ∈ f, PaG x) → ∀ x ∈ xs.foldl (fun f x => addAll f (pt n x)) f, PaG x := by
      intro xs
      induction xs with
      | nil => intro f _ hf; exact hf
      | cons x xs ih =>
        intro f hx hf
        refine ih _ (fun z hz => hx z (List.mem_cons_of_mem _ hz)) fun z hz => ?_
        rcases addAll_mem hz with hz | hz
        · exact hf z hz
        · exact pt_PaG n x (hx x List.mem_cons_self) z hz
    intro x hx
    unfold pt at hx
    rcases addAll_mem hx with hx | hx
    · exact go _ [] hin (by simp) x hx
    · rw [List.mem_singleton.mp hx]; exact h
theorem PaG.of {w : W} (h : WiG 2 w) : PaG w := ⟨h.wi, by have := h.dep; omega, by have := h.sz; simp [Bd] at this; omega, h.pl⟩
theorem fold_len {a : List W × List W} : ∀ {l : List W}, (l.foldl stp a).1.length ≤ a.1.length + tot l
  | [] => by simp [tot]
  | w :: l => by
    rw [List.foldl_cons]
    refine Nat.le_trans fold_len ?_
    unfold stp
    simp only [tot]
    split
    · simp [opens, range_len]; omega
    · omega
/-- a step -/
def StG (x : W) : Prop := isD x = true ∧ dep x ≤ 20 ∧ ∃ c r, x = .tup (.str c :: r) ∧ ∃ k : Int, (W.str c :: r).getLast? = some (.int k)
theorem steps0_ok {n : Nat} : ∀ x ∈ steps0 n, StG x := by
  intro x hx
  obtain ⟨k, hk, rfl⟩ := List.mem_map.mp hx
  obtain ⟨i, rfl, _⟩ := range_mem hk
  exact ⟨rfl, by simp [dep, deps], _, _, rfl, i, rfl⟩
theorem opens_ok {w : W} (h : PaG w) : ∀ x ∈ opens w, StG x := by
  intro x hx
  obtain ⟨k, hk, rfl⟩ := List.mem_map.mp hx
  obtain ⟨i, rfl, _⟩ := range_mem hk
  have := h.dep
  exact ⟨by simp [isD, isDs, D_K h.wi.K], by simp [dep, deps]; omega, _, _, rfl, i, rfl⟩
end smallword_k77_opening_steps
end Sw

set_option autoImplicit false
set_option linter.all false
set_option maxRecDepth 10000
namespace Sw.smallword_k77_opening_steps
/-- both, either or not, of a part -/
theorem tagIn {w : W} (h : Wi w) {M : Mem} {Q : W → Mem → Prop} : Ok (oIx w (.int 0) M) (fun x M => Ok (oIn x (.tup [.str [98, 111, 116, 104], .str [101, 105, 116, 104, 101, 114]]) M) Q) ↔ Q (.bl (isBoth w)) M := by
  obtain ⟨c, r, e, _⟩ := Wi.tag h
  subst e
  rw [Ok_ixTup, Ok_at0, Ok_inT rfl rfl (by simp [dep]) (by simp [dep])]
  have : decide (W.str c ∈ [W.str [98, 111, 116, 104], W.str [101, 105, 116, 104, 101, 114]]) = isBoth (.tup (.str c :: r)) := by
    simp only [isBoth, List.mem_cons, List.not_mem_nil, or_false, W.str.injEq, Bool.decide_or]
  rw [this]
theorem seen_get {seen : List W} {kvs : List (W × W)} {w : W} (hk : kvs.map (·.1) = seen.map fun w => W.str (rep w)) (hs : ∀ x ∈ seen, plW x = true) (hw : plW w = true) : (dget kvs (.str (rep w))).isSome = decide (w ∈ seen) := by
  rw [Bool.eq_iff_iff, decide_eq_true_eq]
  constructor
  · intro h
    have hm : W.str (rep w) ∈ kvs.map (·.1) := by
      clear hk
      induction kvs with
      | nil => simp [dget] at h
      | cons p r ih =>
        obtain ⟨k', v'⟩ := p
        unfold dget at h
        split at h
        · rename_i e; rw [← e]; exact List.mem_cons_self
        · exact List.mem_cons_of_mem _ (ih h)
    rw [hk] at hm
    obtain ⟨x, hx, e⟩ := List.mem_map.mp hm
    have := rep_inj (hs x hx) hw (by injection e)
    rw [← this]
    exact hx
  · intro h
    have hm : W.str (rep w) ∈ kvs.map (·.1) := by rw [hk]; exact List.mem_map.mpr ⟨w, h, rfl⟩
    obtain ⟨v, e, _⟩ := dget_some2 hm
    rw [e]
    rfl
theorem dput_fresh {k v : W} : ∀ {kvs : List (W × W)}, dget kvs k = none → (dput kvs k v).map (·.1) = kvs.map (·.1) ++ [k] ∧ (dput kvs k v).length = kvs.length + 1
  | [], _ => ⟨rfl, rfl⟩
  | (k', v') :: r, h => by
    unfold dget at h
    split at h
    · cases h
    · rename_i e
      obtain ⟨h1, h2⟩ := dput_fresh (v := v) h
      unfold dput
      rw [if_neg e]
      simp [h1, h2]
theorem keyOk {seen : List W} {kvs : List (W × W)} {t : Tx} (hk : kvs.map (·.1) = seen.map fun w => W.str (rep w)) : okKey kvs (.str t) = true := by
  unfold okKey
  cases kvs with
  | nil => rfl
  | cons p ps =>
    cases seen with
    | nil => simp at hk
    | cons x xs =>
      simp at hk
      have h1 := hk.1
      simp [isK, dep, h1, isT]
theorem opened {d j : Nat} {ws : List W} {M : Mem} (hd : 25 ≤ d) (hj : M[j]? = some (.lst ws)) (hw : ∀ w ∈ ws, PaG w) (hl : ws.length ≤ 5) : runT T (d + 1) 6 [.ref j] M = some (.ok (.ref M.length), M ++ [.lst (total ws)]) := by
  have key : Ok (runT T (d + 1) 6 [.ref j] M) fun r M' => ∃ us, r = .ref M.length ∧ M' = M ++ [.lst us] ∧ isDs us = true ∧ us = total ws := by
    refine run_list (n := 6) (b := b6 (runT T d)) rfl ?_
    unfold b6
    simp only [Ok_sSeq, Ok_sAsg, Ok_eNew, Ok_lComp, start, List.map_cons, List.map_nil, List.length_cons, List.length_nil, Nat.zero_add, Nat.reduceSub, List.replicate_succ, List.replicate_zero, List.cons_append, List.nil_append, List.set_cons_succ, List.set_cons_zero]
    refine Ok_iRange1.mpr ?_
    simp only [Ok_eUn, Ok_eV, List.getElem?_cons_succ, List.getElem?_cons_zero, Option.some.injEq, exists_eq_left']
    refine (Ok_lenRef hj).mpr ?_
    rw [Ok_rngW]
    refine ⟨by omega, ?_⟩
    refine Ok_map (fun k => .tup [.str [119, 105, 115, 104], k]) (fun M' => M' = M) (fun _ _ => rfl) rfl (by rw [range_len]; omega) (fun x hx M' e => ?_) (fun M' e => ?_)
    · subst e
      refine ⟨_, rfl, ?_⟩
      simp only [Ok_eTup, Ok_eAs1, Ok_eAs0, Ok_eC, Ok_eV, setS, List.set_cons_succ, List.set_cons_zero, List.getElem?_cons_succ, List.getElem?_cons_zero, Option.some.injEq, exists_eq_left']
      first | exact ⟨rfl, rfl⟩ | exact ⟨rfl, trivial⟩ | exact ⟨trivial, rfl⟩ | simp
    have e' := e.symm
    clear e
    subst e'
    have e0 : (rangeW 0 ((ws.length : Int) - 0).toNat).map (fun k => W.tup [.str [119, 105, 115, 104], k]) = steps0 ws.length := by simp [steps0]
    rw [e0, Ok_eDic]
    simp only [Ok_sSeq, Ok_sFor, Ok_iSeq, Ok_eV, List.set_cons_succ, List.set_cons_zero, List.getElem?_cons_succ, List.getElem?_cons_zero, Option.some.injEq, exists_eq_left']
    refine (Ok_seqRef (get_app (get_app hj))).mpr ?_
    have szw : ∀ w ∈ ws, sz w ≤ 1000 := fun w h => by have := (hw w h).sz; omega
    refine Ok_for (fun rest s M' => ∃ X st kvs seen v3 v4 v5, M' = M ++ X ∧ X[0]? = some (.lst st) ∧ X[1]? = some (.dic kvs) ∧ s = [some (.ref j), some (.ref M.length), some (.ref (M.length + 1)), v3, v4, v5] ∧ kvs.map (·.1) = seen.map (fun w => W.str (rep w)) ∧
        (∀ x ∈ seen, plW x = true) ∧ (∀ x ∈ st, StG x) ∧ ((rest.flatMap (pt 20)).foldl stp (st, seen)).1 = total ws ∧ (∀ w ∈ rest, PaG w) ∧ kvs.length + 3000 * rest.length ≤ 20000 ∧ st.length + 3000 * rest.length ≤ 20000)
      (fun rest s M' ⟨X, st, kvs, seen, v3, v4, v5, e, _⟩ => still_some (by rw [e]; exact get_app hj)) (fun w rest s M' ⟨X, st, kvs, seen, v3, v4, v5, e1, e2, e3, e4, e5, e6, e7, e8, e9, e10, e11⟩ => ?_) (fun s M' ⟨X, st, kvs, seen, v3, v4, v5, e1, e2, e3, e4, e5, e6, e7, e8, e9, e10, e11⟩ => ?_) ws _ _
      ⟨[.lst (steps0 ws.length)] ++ [.dic []], steps0 ws.length, [], [], none, none, none, by simp, rfl, rfl, by simp, rfl, by simp, steps0_ok, rfl, hw, by simp; omega, by simp [steps0, range_len]; omega⟩
    · subst e1 e4
      refine ⟨_, rfl, ?_⟩
      have hpw := e9 w List.mem_cons_self
      have p1 := hpw.dep
      have p2 := hpw.sz
      simp only [Ok_sFor, Ok_iSeq, Ok_eCall, Ok_eAs1, Ok_eAs0, Ok_eV, setS, List.set_cons_succ, List.set_cons_zero, List.getElem?_cons_succ, List.getElem?_cons_zero, Option.some.injEq, exists_eq_left']
      obtain ⟨d, rfl⟩ : ∃ e, d = e + 1 := ⟨d - 1, by omega⟩
      refine Ok.eq (parts_of 20 d w (M ++ X) hpw.wi (by omega) (by omega) (by omega) (by omega)) ?_
      rw [Ok_seqRef get_new]
      have hpp := pt_PaG 20 w hpw
      have hpl := (pt_ok 20 w hpw.wi).2
      have htp := tot_pt 20 w hpw.wi
      refine Ok_for (fun rs s M' => ∃ Y st kvs seen v4 v5, M' = M ++ Y ∧ Y[0]? = some (.lst st) ∧ Y[1]? = some (.dic kvs) ∧ Y[X.length]? = some (.lst (pt 20 w)) ∧ s = [some (.ref j), some (.ref M.length), some (.ref (M.length + 1)), some w, v4, v5] ∧ kvs.map (·.1) = seen.map (fun w => W.str (rep w)) ∧
          (∀ x ∈ seen, plW x = true) ∧ (∀ x ∈ st, StG x) ∧ ((rs ++ rest.flatMap (pt 20)).foldl stp (st, seen)).1 = total ws ∧ (∀ w ∈ rs, PaG w) ∧ kvs.length + rs.length + 3000 * rest.length ≤ 19500 ∧ st.length + tot rs + 3000 * rest.length ≤ 19500)
        (fun rs s M' ⟨Y, st, kvs, seen, v4, v5, k1, k2, k3, k4, _⟩ => still_some (by rw [k1]; exact get_app_at (by simp) k4)) (fun z rs s M' ⟨Y, st, kvs, seen, v4, v5, k1, k2, k3, k4, k5, k6, k7, k8, k9, k10, k11, k12⟩ => ?_) (fun s M' ⟨Y, st, kvs, seen, v4, v5, k1, k2, k3, k4, k5, k6, k7, k8, k9, k10, k11, k12⟩ => ?_) (pt 20 w) _ _
        ⟨X ++ [.lst (pt 20 w)], st, kvs, seen, v4, v5, by simp, get_app e2, get_app e3, get_new, rfl, e5, e6, e7, by simpa using e8, hpp, by simp at e10; omega, by simp at e11; omega⟩
      · subst k1 k5
        refine ⟨_, rfl, ?_⟩
        have hz := k10 z List.mem_cons_self
        have z1 := hz.dep
        have z2 := hz.sz
        have hX : 1 < X.length := get_lt e3
        have hdic : ∀ {U : Mem}, (M ++ Y ++ U)[M.length + 1]? = some (.dic kvs) := fun {U} => get_app (get_app_at rfl k3)
        have hst : (M ++ Y)[M.length]? = some (.lst st) := get_app_at rfl k2
        have hrep : ∀ {N : Mem} {Q : W → Mem → Prop}, Ok (uRepr z N) Q ↔ Q (.str (rep z)) N := by
          obtain ⟨c, r, e, _⟩ := Wi.tag hz.wi
          subst e
          intro N Q
          exact Ok_repr hz.pl (by omega) (by omega) (D_K hz.wi.K)
        have hDz : isD z = true := D_K hz.wi.K
        simp only [Ok_sIf, Ok_eAnd, Ok_eOp, Ok_eTup, Ok_eAs1, Ok_eAs0, Ok_eC, Ok_eV, setS, List.set_cons_succ, List.set_cons_zero, List.getElem?_cons_succ, List.getElem?_cons_zero, Option.some.injEq, exists_eq_left', Ok_eUn, hrep]
        rw [tagIn hz.wi]
        have skip : (isBoth z = true → z ∈ seen) → ∃ Y' st' kvs' seen' v4' v5', M ++ Y = M ++ Y' ∧ Y'[0]? = some (.lst st') ∧ Y'[1]? = some (.dic kvs') ∧ Y'[X.length]? = some (.lst (pt 20 w)) ∧ [some (W.ref j), some (.ref M.length), some (.ref (M.length + 1)), some w, some z, v5] = [some (.ref j), some (.ref M.length), some (.ref (M.length + 1)), some w, v4', v5'] ∧ kvs'.map (·.1) = seen'.map (fun w => W.str (rep w)) ∧
          (∀ x ∈ seen', plW x = true) ∧ (∀ x ∈ st', StG x) ∧ ((rs ++ rest.flatMap (pt 20)).foldl stp (st', seen')).1 = total ws ∧ (∀ w ∈ rs, PaG w) ∧ kvs'.length + rs.length + 3000 * rest.length ≤ 19500 ∧ st'.length + tot rs + 3000 * rest.length ≤ 19500 := by
          intro h
          refine ⟨Y, st, kvs, seen, some z, v5, rfl, k2, k3, k4, rfl, k6, k7, k8, ?_, fun y hy => k10 y (List.mem_cons_of_mem _ hy), by simp at k11; omega, by simp only [tot] at k12; omega⟩
          rw [List.cons_append, List.foldl_cons] at k9
          have : stp (st, seen) z = (st, seen) := by
            unfold stp
            rw [if_neg]
            rintro ⟨h1, h2⟩
            exact h2 (h h1)
          rw [this] at k9
          exact k9
        rw [Br_b]
        refine ⟨fun hb => ?_, fun hb => ?_⟩
        · rw [Ok_niD (by rw [show (M ++ Y)[M.length + 1]? = some (.dic kvs) from get_app_at rfl k3]; rfl) (keyOk k6), seen_get k6 k7 hz.pl, Br_b]
          refine ⟨fun hn => ?_, fun hn => ?_⟩
          · have hn : z ∉ seen := by simpa using hn
            obtain ⟨c, us, ez, hc, hus, hin⟩ := bothish hz.wi hb
            have hnone : dget kvs (.str (rep z)) = none := by
              have := seen_get k6 k7 hz.pl
              rw [decide_eq_false hn] at this
              cases e : dget kvs (.str (rep z)) with
              | none => rfl
              | some _ => rw [e] at this; simp at this
            obtain ⟨f1, f2⟩ := dput_fresh (v := .bl true) hnone
            simp only [Ok_sSeq, Ok_sPut, Ok_eC, Ok_eV, Ok_eUn, hrep, List.getElem?_cons_succ, List.getElem?_cons_zero, Option.some.injEq, exists_eq_left']
            refine ⟨_, putW_D (get_app_at rfl k3) (keyOk k6) (by simp at k11; omega), ?_⟩
            rw [set_app_at (X := Y) (j := 1) rfl, Ok_sFor]
            refine Ok_iRange1.mpr ?_
            simp only [Ok_eUn, Ok_eCall, Ok_eAs1, Ok_eAs0, Ok_eV, List.getElem?_cons_succ, List.getElem?_cons_zero, Option.some.injEq, exists_eq_left']
            obtain ⟨d', rfl⟩ : ∃ e, d = e + 1 := ⟨d - 1, by omega⟩
            have hlen : us.length + 1 ≤ 801 := by
              have h1 := hz.wi.inner_sz
              rw [hin] at h1
              have h3 : us.length ≤ szs us := by
                clear h1 hin hus ez
                induction us with
                | nil => simp
                | cons u us ih =>
                  have : 1 ≤ sz u := by cases u <;> simp [sz]
                  simp only [List.length_cons, szs]
                  omega
              omega
            have hop := openings (d := d') (M := M ++ Y.set 1 (.dic (dput kvs (.str (rep z)) (.bl true)))) hc (by rw [← ez]; exact hz.wi) hus (by rw [← ez]; omega) (by omega)
            rw [← ez] at hop
            refine hop.mono fun r M2 ⟨rows, er, eM, _, hr⟩ => ?_
            subst er eM
            refine (Ok_lenRef get_new).mpr ?_
            rw [Ok_rngW]
            refine ⟨by omega, ?_⟩
            have hrr : ((rows.length : Int) - 0).toNat = us.length + 1 := by omega
            rw [hrr]
            have eo : opens z = (rangeW 0 (us.length + 1)).map fun k => .tup [.str [111, 112, 101, 110], z, k] := by unfold opens; rw [hin]
            refine Ok_for (fun ks s M' => ∃ U st' v5, M' = M ++ U ∧ U[0]? = some (.lst st') ∧ U[1]? = some (.dic (dput kvs (.str (rep z)) (.bl true))) ∧ U[X.length]? = some (.lst (pt 20 w)) ∧ s = [some (.ref j), some (.ref M.length), some (.ref (M.length + 1)), some w, some z, v5] ∧
                st' ++ ks.map (fun k => W.tup [.str [111, 112, 101, 110], z, k]) = st ++ opens z ∧ st'.length + ks.length ≤ 30000)
              (fun _ _ _ _ => rfl) (fun k ks s M' ⟨U, st', v5, u1, u2, u3, u4, u5, u6, u7⟩ => ?_) (fun s M' ⟨U, st', v5, u1, u2, u3, u4, u5, u6, u7⟩ => ?_) _ _ _
              ⟨Y.set 1 (.dic (dput kvs (.str (rep z)) (.bl true))) ++ [.lst rows], st, v5, by simp, get_app (by rw [get_ne (by decide)]; exact k2), get_app (get_set k3), get_app (by rw [get_ne (by omega)]; exact k4), rfl, by rw [eo], by rw [range_len]; simp only [tot] at k12; omega⟩
            · subst u1 u5
              refine ⟨_, rfl, ?_⟩
              have hs : (M ++ U)[M.length]? = some (.lst st') := get_app_at rfl u2
              simp only [Ok_sExp, Ok_eM, Ok_eV, Ok_eTup, Ok_eAs1, Ok_eAs0, Ok_eC, setS, List.set_cons_succ, List.set_cons_zero, List.getElem?_cons_succ, List.getElem?_cons_zero, Option.some.injEq, exists_eq_left']
              refine ⟨kindW_L hs, ?_⟩
              rw [Ok_app hs (by simp at u7; omega)]
              refine ⟨U.set 0 (.lst (st' ++ [.tup [.str [111, 112, 101, 110], z, k]])), _, some k, set_app (j := 0), get_set u2, by rw [get_ne (by decide)]; exact u3, by rw [get_ne (by omega)]; exact u4, rfl, ?_, by simp at u7 ⊢; omega⟩
              rw [← u6]
              simp
            · subst u1 u5
              have u6 : st' = st ++ opens z := by simpa using u6
              subst u6
              refine ⟨U, st ++ opens z, dput kvs (.str (rep z)) (.bl true), seen ++ [z], some z, v5, rfl, u2, u3, u4, rfl, ?_, ?_, ?_, ?_, fun y hy => k10 y (List.mem_cons_of_mem _ hy), ?_, ?_⟩
              · rw [f1, k6]; simp
              · intro x hx
                rcases List.mem_append.mp hx with hx | hx
                · exact k7 x hx
                · rw [List.mem_singleton.mp hx]; exact hz.pl
              · intro x hx
                rcases List.mem_append.mp hx with hx | hx
                · exact k8 x hx
                · exact opens_ok hz x hx
              · rw [List.cons_append, List.foldl_cons] at k9
                have : stp (st, seen) z = (st ++ opens z, seen ++ [z]) := by
                  unfold stp
                  rw [if_pos ⟨hb, hn⟩]
                rw [this] at k9
                exact k9
              · rw [f2]; simp at k11; omega
              · simp only [tot] at k12
                rw [List.length_append, eo, List.length_map, range_len]
                rw [hin] at k12
                omega
          · have hn : z ∈ seen := by simpa using hn
            rw [Ok_sPass]
            exact skip fun _ => hn
        · rw [Br_f, Ok_sPass]
          exact skip fun h => by rw [hb] at h; cases h
      · subst k1 k5
        exact ⟨Y, st, kvs, seen, some w, v4, v5, rfl, k2, k3, rfl, k6, k7, k8, by simpa using k9, fun y hy => e9 y (List.mem_cons_of_mem _ hy), by simp at k11; omega, by simp only [tot] at k12; omega⟩
    · subst e1 e4
      have e8 : st = total ws := e8
      simp only [Ok_sRet, Ok_eV, List.getElem?_cons_succ, List.getElem?_cons_zero, Option.some.injEq, exists_eq_left']
      exact ⟨st, X, 0, rfl, rfl, e2, isDs_mem.mpr fun x hx => (e7 x hx).1, e8⟩
  obtain ⟨r, M', e, us, e1, e2, _, e3⟩ := key
  rw [e, e1, e2, e3]
end Sw.smallword_k77_opening_steps

set_option autoImplicit false
set_option linter.all false
set_option maxRecDepth 10000
namespace Sw.smallword_k77_opening_steps
theorem Ok_isL {M : Mem} {Q : W → Mem → Prop} {j : Nat} {ws : List W} (h : M[j]? = some (.lst ws)) : Ok (uIsA "list" (.ref j) M) Q ↔ Q (.bl true) M := by
  unfold uIsA tyN
  simp only [h]
  exact Ok_ok _
theorem Ok_isT {M : Mem} {Q : W → Mem → Prop} {ws : List W} : Ok (uIsA "tuple" (.tup ws) M) Q ↔ Q (.bl true) M := Ok_ok _
theorem Ok_isB {M : Mem} {Q : W → Mem → Prop} {k : Int} : Ok (uIsA "bool" (.int k) M) Q ↔ Q (.bl false) M := Ok_ok _
theorem total_ok {ws : List W} (hw : ∀ w ∈ ws, PaG w) : ∀ x ∈ total ws, StG x := by
  have go : ∀ (l : List W) (a : List W × List W), (∀ x ∈ l, PaG x) → (∀ x ∈ a.1, StG x) → ∀ x ∈ (l.foldl stp a).1, StG x := by
    intro l
    induction l with
    | nil => intro a _ h; exact h
    | cons w l ih =>
      intro a hl h
      refine ih _ (fun x hx => hl x (List.mem_cons_of_mem _ hx)) fun x hx => ?_
      unfold stp at hx
      split at hx
      · rcases List.mem_append.mp hx with hx | hx
        · exact h x hx
        · exact opens_ok (hl w List.mem_cons_self) x hx
      · exact h x hx
  refine go _ _ (fun x hx => ?_) steps0_ok
  obtain ⟨w, h1, h2⟩ := List.mem_flatMap.mp hx
  exact pt_PaG 20 w (hw w h1) x h2
theorem total_len {ws : List W} (hw : ∀ w ∈ ws, PaG w) (hl : ws.length ≤ 5) : (total ws).length ≤ 20000 := by
  have h1 := fold_len (l := ws.flatMap (pt 20)) (a := (steps0 ws.length, []))
  have h2 : tot (ws.flatMap (pt 20)) ≤ 1600 * ws.length := by
    clear h1 hl
    induction ws with
    | nil => simp [tot]
    | cons w ws ih =>
      have := ih fun z hz => hw z (List.mem_cons_of_mem _ hz)
      have h3 := tot_pt 20 w (hw w List.mem_cons_self).wi
      have h4 := (hw w List.mem_cons_self).sz
      rw [List.flatMap_cons, tot_app, List.length_cons]
      omega
  unfold total
  have h3 : (steps0 ws.length).length = ws.length := by simp [steps0, range_len]
  simp only [h3] at h1
  omega
theorem law_true (ns : List Int) (hl : ns.length ≤ 63) (hb : ∀ z ∈ ns, PySem.Builtin.Int.intBits z ≤ 1048576) : ∃ M', runT T 40 14 [.scr ns] [] = some (.ok (.bl true), M') := by
  have key : Ok (runT T 40 14 [.scr ns] []) fun r M' => M' = [] ∧ r = .bl true := by
    refine run_ok (n := 10) (b := b14 (runT T 39)) (M := []) (P := fun r => r = .bl true) rfl ?_
    have fin : ∀ {M' : Mem}, ∃ r, Fl.rt (.bl true) = .rt r ∧ isD r = true ∧ r = .bl true ∧ ∃ X, M' = [] ++ X := fun {M'} => ⟨_, rfl, rfl, rfl, M', rfl⟩
    unfold b14
    simp only [Ok_sSeq, Ok_sAsg, Ok_eCall, Ok_eAs1, Ok_eAs0, Ok_eV, Ok_eC, start, List.map_cons, List.map_nil, List.length_cons, List.length_nil, Nat.zero_add, Nat.reduceSub, List.replicate_succ, List.replicate_zero, List.cons_append, List.nil_append, List.set_cons_succ, List.set_cons_zero, List.getElem?_cons_succ, List.getElem?_cons_zero, Option.some.injEq, exists_eq_left']
    refine (wishes hl (d := 34)).mono fun r M1 ⟨ws, er, eM, hD, hwi, hlen⟩ => ?_
    subst er eM
    have hw : ∀ w ∈ ws, PaG w := fun w h => PaG.of (hwi w h)
    simp only [Ok_eNew, Ok_lComp]
    refine Ok_iRange1.mpr ?_
    simp only [Ok_eUn, Ok_eV, List.getElem?_cons_succ, List.getElem?_cons_zero, Option.some.injEq, exists_eq_left']
    refine (Ok_lenRef (j := 0) (ws := ws) rfl).mpr ?_
    rw [Ok_rngW]
    refine ⟨by omega, ?_⟩
    refine Ok_map (fun k => .tup [.str [119, 105, 115, 104], k]) (fun M' => M' = [O.lst ws]) (fun _ _ => rfl) rfl (by rw [range_len]; omega) (fun x hx M' e => ?_) (fun M' e => ?_)
    · subst e
      refine ⟨_, rfl, ?_⟩
      simp only [Ok_eTup, Ok_eAs1, Ok_eAs0, Ok_eC, Ok_eV, setS, List.set_cons_succ, List.set_cons_zero, List.getElem?_cons_succ, List.getElem?_cons_zero, Option.some.injEq, exists_eq_left']
      first | exact ⟨rfl, rfl⟩ | exact ⟨rfl, trivial⟩ | exact ⟨trivial, rfl⟩ | simp
    subst e
    have e0 : (rangeW 0 ((ws.length : Int) - 0).toNat).map (fun k => W.tup [.str [119, 105, 115, 104], k]) = steps0 ws.length := by simp [steps0]
    rw [e0]
    simp only [Ok_sFor, Ok_iSeq, Ok_eV, Ok_eAs0, List.set_cons_succ, List.set_cons_zero, List.getElem?_cons_succ, List.getElem?_cons_zero, Option.some.injEq, exists_eq_left']
    refine (Ok_seqRef (j := 0) (ws := ws) rfl).mpr ?_
    refine Ok_for (fun rest s M' => ∃ u due seen v4 v6 v7, M'[0]? = some (.lst ws) ∧ M'[u]? = some (.lst due) ∧ M'[2]? = some (.lst seen) ∧ u ≠ 2 ∧ s = [some (.scr ns), some (.ref 0), some (.ref u), some (.ref 2), v4, none, v6, v7, none, none] ∧
        (∀ x ∈ seen, PaG x) ∧ (∀ x ∈ due, StG x) ∧ ((rest.flatMap (pt 20)).foldl stp (due, seen)).1 = total ws ∧ (∀ w ∈ rest, PaG w) ∧ seen.length + 3000 * rest.length ≤ 20000 ∧ due.length + 3000 * rest.length ≤ 20000)
      (fun rest s M' ⟨u, due, seen, v4, v6, v7, e, _⟩ => still_some e) (fun w rest s M' ⟨u, due, seen, v4, v6, v7, e1, e2, e3, eu, e4, e5, e6, e7, e8, e9, e10⟩ => ?_) (fun s M' ⟨u, due, seen, v4, v6, v7, e1, e2, e3, eu, e4, e5, e6, e7, e8, e9, e10⟩ => ?_) ws _ _
      ⟨1, steps0 ws.length, [], none, none, none, rfl, rfl, rfl, by decide, rfl, by simp, steps0_ok, rfl, hw, by simp; omega, by simp [steps0, range_len]; omega⟩
    · subst e4
      refine ⟨_, rfl, ?_⟩
      have hpw := e8 w List.mem_cons_self
      have p1 := hpw.dep
      have p2 := hpw.sz
      simp only [Ok_sFor, Ok_iSeq, Ok_eCall, Ok_eAs1, Ok_eAs0, Ok_eV, setS, List.set_cons_succ, List.set_cons_zero, List.getElem?_cons_succ, List.getElem?_cons_zero, Option.some.injEq, exists_eq_left']
      refine Ok.eq (law_parts 20 39 w M' hpw.wi (by omega) (by omega) (by omega) (by omega)) ?_
      rw [Ok_seqRef get_new]
      have hpp := pt_PaG 20 w hpw
      have hpl := (pt_ok 20 w hpw.wi).2
      have htp := tot_pt 20 w hpw.wi
      have l2 : 2 < M'.length := get_lt e3
      refine Ok_for (fun rs s N => ∃ u due seen v6 v7, N[0]? = some (.lst ws) ∧ N[u]? = some (.lst due) ∧ N[2]? = some (.lst seen) ∧ N[M'.length]? = some (.lst (pt 20 w)) ∧ u ≠ 2 ∧ s = [some (.scr ns), some (.ref 0), some (.ref u), some (.ref 2), some w, none, v6, v7, none, none] ∧
          (∀ x ∈ seen, PaG x) ∧ (∀ x ∈ due, StG x) ∧ ((rs ++ rest.flatMap (pt 20)).foldl stp (due, seen)).1 = total ws ∧ (∀ w ∈ rs, PaG w) ∧ seen.length + rs.length + 3000 * rest.length ≤ 19500 ∧ due.length + tot rs + 3000 * rest.length ≤ 19500)
        (fun rs s N ⟨u, due, seen, v6, v7, k1, k2, k3, k4, _⟩ => still_some k4) (fun z rs s N ⟨u, due, seen, v6, v7, k1, k2, k3, k4, ku, k5, k6, k7, k8, k9, k10, k11⟩ => ?_) (fun s N ⟨u, due, seen, v6, v7, k1, k2, k3, k4, ku, k5, k6, k7, k8, k9, k10, k11⟩ => ?_) (pt 20 w) _ _
        ⟨u, due, seen, v6, v7, get_app e1, get_app e2, get_app e3, get_new, eu, rfl, e5, e6, by simpa using e7, hpp, by simp at e9; omega, by simp at e10; omega⟩
      · subst k5
        refine ⟨_, rfl, ?_⟩
        have hz := k9 z List.mem_cons_self
        have z1 := hz.dep
        have z2 := hz.sz
        simp only [Ok_sIf, Ok_eAnd, Ok_eOp, Ok_eTup, Ok_eAs1, Ok_eAs0, Ok_eC, Ok_eV, setS, List.set_cons_succ, List.set_cons_zero, List.getElem?_cons_succ, List.getElem?_cons_zero, Option.some.injEq, exists_eq_left']
        rw [tagIn hz.wi]
        have skip : (isBoth z = true → z ∈ seen) → ∃ u' due' seen' v6' v7', N[0]? = some (.lst ws) ∧ N[u']? = some (.lst due') ∧ N[2]? = some (.lst seen') ∧ N[M'.length]? = some (.lst (pt 20 w)) ∧ u' ≠ 2 ∧ [some (.scr ns), some (W.ref 0), some (.ref u), some (.ref 2), some w, none, v6, some z, none, none] = [some (.scr ns), some (.ref 0), some (.ref u'), some (.ref 2), some w, none, v6', v7', none, none] ∧
          (∀ x ∈ seen', PaG x) ∧ (∀ x ∈ due', StG x) ∧ ((rs ++ rest.flatMap (pt 20)).foldl stp (due', seen')).1 = total ws ∧ (∀ w ∈ rs, PaG w) ∧ seen'.length + rs.length + 3000 * rest.length ≤ 19500 ∧ due'.length + tot rs + 3000 * rest.length ≤ 19500 := by
          intro h
          refine ⟨u, due, seen, v6, some z, k1, k2, k3, k4, ku, rfl, k6, k7, ?_, fun y hy => k9 y (List.mem_cons_of_mem _ hy), by simp at k10; omega, by simp only [tot] at k11; omega⟩
          rw [List.cons_append, List.foldl_cons] at k8
          have : stp (due, seen) z = (due, seen) := by
            unfold stp
            rw [if_neg]
            rintro ⟨h1, h2⟩
            exact h2 (h h1)
          rw [this] at k8
          exact k8
        rw [Br_b]
        refine ⟨fun hb => ?_, fun hb => ?_⟩
        · rw [Ok_niL k3 hz.wi.K (isKs_mem.mpr fun x hx => (k6 x hx).wi.K) (by omega) (fun x hx => by have := (k6 x hx).dep; omega), Br_b]
          refine ⟨fun hn => ?_, fun hn => ?_⟩
          · have hn : z ∉ seen := by simpa using hn
            obtain ⟨c, us, ez, hc, hus, hin⟩ := bothish hz.wi hb
            have hus2 : us.length ≤ 800 := by
              have h1 := hz.wi.inner_sz
              rw [hin] at h1
              have h3 : us.length ≤ szs us := by
                clear h1 hin hus ez
                induction us with
                | nil => simp
                | cons u us ih =>
                  have : 1 ≤ sz u := by cases u <;> simp [sz]
                  simp only [List.length_cons, szs]
                  omega
              omega
            simp only [Ok_sSeq, Ok_sExp, Ok_eM, Ok_eAs1, Ok_eAs0, Ok_eV, List.getElem?_cons_succ, List.getElem?_cons_zero, Option.some.injEq, exists_eq_left']
            refine ⟨kindW_L k3, ?_⟩
            rw [Ok_app k3 (by simp at k10; omega)]
            simp only [Ok_sAsg, Ok_eOp, Ok_eV, Ok_eNew, Ok_lComp, List.getElem?_cons_succ, List.getElem?_cons_zero, Option.some.injEq, exists_eq_left']
            refine Ok_iRange1.mpr ?_
            simp only [Ok_eOp, Ok_eUn, Ok_eV, Ok_eC, List.getElem?_cons_succ, List.getElem?_cons_zero, Option.some.injEq, exists_eq_left']
            rw [ez, Ok_ixTup, Ok_at1, Ok_lenTup, Ok_add, Ok_rngW, ← ez]
            refine ⟨by omega, ?_⟩
            have hrr : ((us.length : Int) + 1 - 0).toNat = us.length + 1 := by omega
            rw [hrr]
            have eo : opens z = (rangeW 0 (us.length + 1)).map fun k => .tup [.str [111, 112, 101, 110], z, k] := by unfold opens; rw [hin]
            refine Ok_map (fun k => .tup [.str [111, 112, 101, 110], z, k]) (fun M2 => M2 = N.set 2 (.lst (seen ++ [z]))) (fun _ _ => rfl) rfl (by rw [range_len]; omega) (fun x hx M2 e => ?_) (fun M2 e => ?_)
            · subst e
              refine ⟨_, rfl, ?_⟩
              simp only [Ok_eTup, Ok_eAs1, Ok_eAs0, Ok_eC, Ok_eV, setS, List.set_cons_succ, List.set_cons_zero, List.getElem?_cons_succ, List.getElem?_cons_zero, Option.some.injEq, exists_eq_left']
              first | exact ⟨rfl, rfl⟩ | exact ⟨rfl, trivial⟩ | exact ⟨trivial, rfl⟩ | simp
            · subst e
              rw [← eo]
              have g2 : (N.set 2 (.lst (seen ++ [z])))[u]? = some (.lst due) := by rw [get_ne (Ne.symm ku)]; exact k2
              have ol : (opens z).length = us.length + 1 := by rw [eo, List.length_map, range_len]
              simp only [tot] at k11
              rw [hin] at k11
              rw [Ok_addL (get_app g2) get_new (by omega)]
              have lN : M'.length < N.length := get_lt k4
              refine ⟨_, due ++ opens z, seen ++ [z], v6, some z, get_app (get_app (by rw [get_ne (by decide)]; exact k1)), get_new, get_app (get_app (get_set k3)), get_app (get_app (by rw [get_ne (by omega)]; exact k4)), ?_, rfl, ?_, ?_, ?_, fun y hy => k9 y (List.mem_cons_of_mem _ hy), by simp at k10 ⊢; omega, by rw [List.length_append, ol]; omega⟩
              · simp; omega
              · intro x hx
                rcases List.mem_append.mp hx with hx | hx
                · exact k6 x hx
                · rw [List.mem_singleton.mp hx]; exact hz
              · intro x hx
                rcases List.mem_append.mp hx with hx | hx
                · exact k7 x hx
                · exact opens_ok hz x hx
              · rw [List.cons_append, List.foldl_cons] at k8
                have : stp (due, seen) z = (due ++ opens z, seen ++ [z]) := by
                  unfold stp
                  rw [if_pos ⟨hb, hn⟩]
                rw [this] at k8
                exact k8
          · have hn : z ∈ seen := by simpa using hn
            rw [Ok_sPass]
            exact skip fun _ => hn
        · rw [Br_f, Ok_sPass]
          exact skip fun h => by rw [hb] at h; cases h
      · subst k5
        exact ⟨u, due, seen, some w, v6, v7, k1, k2, k3, ku, rfl, k6, k7, by simpa using k8, fun y hy => e8 y (List.mem_cons_of_mem _ hy), by simp at k10; omega, by simp only [tot] at k11; omega⟩
    · subst e4
      have e7 : due = total ws := e7
      subst e7
      have hst := total_ok hw
      have htl := total_len hw hlen
      simp only [Ok_eNew, Ok_eV, List.getElem?_cons_succ, List.getElem?_cons_zero, Option.some.injEq, exists_eq_left']
      have lst1 : ∀ {s : Sl} {M : Mem} {Q : List W → Mem → Prop}, s[1]? = some (some (.ref 0)) → M[0]? = some (.lst ws) → Q ws M → Ok (lList (lOf (eV 1)) s M) Q := by
        intro s M Q h1 h2 hq
        unfold lList
        rw [Ok_bnd, Ok_lOf, Ok_eV]
        refine ⟨_, h1, ws, items_L h2, ?_⟩
        rw [if_pos (many_iff.mpr (by omega)), Ok_ok]
        exact hq
      refine lst1 rfl e1 ?_
      simp only [List.set_cons_succ, List.set_cons_zero]
      refine Ok_iRange1.mpr ?_
      rw [Ok_eC, Ok_rngW]
      refine ⟨by decide, ?_⟩
      generalize hM2 : M' ++ [O.lst ws] = M2
      have f1 : M2[0]? = some (.lst ws) := by rw [← hM2]; exact get_app e1
      have f2 : M2[u]? = some (.lst (total ws)) := by rw [← hM2]; exact get_app e2
      have f3 : M2[M'.length]? = some (.lst ws) := by rw [← hM2]; exact get_new
      have dT : isDs (total ws) = true := isDs_mem.mpr fun x hx => (hst x hx).1
      refine Ok_for (fun rest s N => ∃ v6 v8 v9, N[0]? = some (.lst ws) ∧ N[u]? = some (.lst (total ws)) ∧ N[M'.length]? = some (.lst ws) ∧ s = [some (.scr ns), some (.ref 0), some (.ref u), some (.ref 2), v4, some (.ref M'.length), v6, v7, v8, v9])
        (fun _ _ _ _ => rfl) (fun x rest s N ⟨v6, v8, v9, k1, k2, k3, k4⟩ => ?_) (fun s N ⟨v6, v8, v9, k1, k2, k3, k4⟩ => ?_) _ _ _ ⟨v6, none, none, f1, f2, f3, rfl⟩
      · subst k4
        refine ⟨_, rfl, ?_⟩
        simp only [Ok_sSeq, Ok_sAsg, Ok_eCall, Ok_eAs1, Ok_eAs0, Ok_eV, setS, List.set_cons_succ, List.set_cons_zero, List.getElem?_cons_succ, List.getElem?_cons_zero, Option.some.injEq, exists_eq_left']
        refine Ok.eq (opened (d := 38) (by decide) k3 hw hlen) ?_
        have g0 : (N ++ [O.lst (total ws)])[N.length]? = some (.lst (total ws)) := get_new
        simp only [Ok_sIf, Ok_eOr, Ok_eUn, Ok_eV, Ok_eOp, List.getElem?_cons_succ, List.getElem?_cons_zero, Option.some.injEq, exists_eq_left']
        rw [Ok_isL g0, Ok_uNot]
        simp only [Bool.not_true, Br_f]
        rw [Ok_neL g0 (get_app k2) dT dT (fun x hx => by have := (hst x hx).2.1; omega) (fun x hx => by have := (hst x hx).2.1; omega)]
        simp only [decide_true, Bool.not_true, Br_f]
        rw [Ok_neL (get_app k3) (get_app k1) hD hD (fun x hx => by have := (hw x hx).dep; omega) (fun x hx => by have := (hw x hx).dep; omega)]
        simp only [decide_true, Bool.not_true, Br_f, Ok_sPass, Ok_sSeq, Ok_sFor, Ok_iSeq, Ok_eV, List.getElem?_cons_succ, List.getElem?_cons_zero, Option.some.injEq, exists_eq_left']
        refine (Ok_seqRef g0).mpr ?_
        refine Ok_for (fun rs s M3 => M3 = N ++ [O.lst (total ws)] ∧ (∀ y ∈ rs, StG y) ∧ ∃ v9, s = [some (.scr ns), some (.ref 0), some (.ref u), some (.ref 2), v4, some (.ref M'.length), some x, v7, some (.ref N.length), v9])
          (fun rs s M3 h => still_some (by rw [h.1]; exact g0)) (fun y rs s M3 ⟨m1, m2, v9, m3⟩ => ?_) (fun s M3 ⟨m1, m2, v9, m3⟩ => ?_) (total ws) _ _ ⟨rfl, hst, v9, rfl⟩
        · subst m1 m3
          refine ⟨_, rfl, ?_⟩
          obtain ⟨y1, y2, c, r, ey, kk, hk⟩ := m2 y List.mem_cons_self
          subst ey
          simp only [Ok_sIf, Ok_eOr, Ok_eUn, Ok_eV, Ok_eOp, Ok_eC, Ok_neg, setS, List.set_cons_succ, List.set_cons_zero, List.getElem?_cons_succ, List.getElem?_cons_zero, Option.some.injEq, exists_eq_left', Ok_isT, Ok_uNot, Bool.not_true, Br_f, Ok_ixTup]
          rw [Ok_atLast hk, Ok_isB, Br_f, Ok_sPass]
          exact ⟨rfl, fun z hz => m2 z (List.mem_cons_of_mem _ hz), _, rfl⟩
        · subst m1 m3
          simp only [Ok_sExp, Ok_eM, Ok_eAs1, Ok_eAs0, Ok_eV, Ok_eC, List.getElem?_cons_succ, List.getElem?_cons_zero, Option.some.injEq, exists_eq_left']
          refine ⟨kindW_L g0, ?_⟩
          rw [Ok_app g0 (by omega)]
          have n0 : 0 < N.length := get_lt k1
          have nu : u < N.length := get_lt k2
          have nm : M'.length < N.length := get_lt k3
          exact ⟨some x, some (.ref N.length), v9, by rw [get_ne (by omega)]; exact get_app k1, by rw [get_ne (by omega)]; exact get_app k2, by rw [get_ne (by omega)]; exact get_app k3, rfl⟩
      · subst k4
        dsimp only
        rw [Ok_sRet, Ok_eC]
        exact ⟨_, rfl, rfl, rfl, _, rfl⟩
  obtain ⟨r, M', e, _, er⟩ := key
  exact ⟨M', by rw [e, er]⟩
end Sw.smallword_k77_opening_steps

set_option autoImplicit false
set_option Elab.async false
set_option linter.all false
set_option maxRecDepth 100000
set_option maxHeartbeats 0
/-! The derivations. -/
namespace Sw.smallword_k77_opening_steps
open PySem PySem.Spec L2 Sw
open PyProof.Rows (AllBare envOfC)
def top (i : Nat) : Stmt := PySem.Challenge.pw_smallword_k77_opening_steps.main.body.getD i (.Pass ⟨0, 0, 0, 0⟩)
abbrev st_0 : Stmt := top 1
abbrev N_put_once : List Str := ["found", "things", "thing"]
abbrev P_put_once : List Str := ["found", "things"]
theorem sc_put_once : FnScope N_put_once P_put_once (defScope st_0) := ⟨rfl, rfl, rfl, by decide +kernel, rfl, by decide +kernel, by decide +kernel⟩
theorem nd_put_once : N_put_once.Nodup := sc_put_once.nd
abbrev st_1 : Stmt := top 3
abbrev N_lit : List Str := ["wish", "truth"]
abbrev P_lit : List Str := ["wish", "truth"]
theorem sc_lit : FnScope N_lit P_lit (defScope st_1) := ⟨rfl, rfl, rfl, by decide +kernel, rfl, by decide +kernel, by decide +kernel⟩
theorem nd_lit : N_lit.Nodup := sc_lit.nd
abbrev st_2 : Stmt := top 4
abbrev N_row_of : List Str := ["literals", "found", "literal"]
abbrev P_row_of : List Str := ["literals"]
theorem sc_row_of : FnScope N_row_of P_row_of (defScope st_2) := ⟨rfl, rfl, rfl, by decide +kernel, rfl, by decide +kernel, by decide +kernel⟩
theorem nd_row_of : N_row_of.Nodup := sc_row_of.nd
abbrev st_3 : Stmt := top 5
abbrev N_openings : List Str := ["thing", "truth", "found", "wish"]
abbrev P_openings : List Str := ["thing"]
theorem sc_openings : FnScope N_openings P_openings (defScope st_3) := ⟨rfl, rfl, rfl, by decide +kernel, rfl, by decide +kernel, by decide +kernel⟩
theorem nd_openings : N_openings.Nodup := sc_openings.nd
abbrev st_4 : Stmt := top 7
abbrev N_right_within : List Str := ["wish"]
abbrev P_right_within : List Str := ["wish"]
theorem sc_right_within : FnScope N_right_within P_right_within (defScope st_4) := ⟨rfl, rfl, rfl, by decide +kernel, rfl, by decide +kernel, by decide +kernel⟩
theorem nd_right_within : N_right_within.Nodup := sc_right_within.nd
abbrev st_5 : Stmt := top 8
abbrev N_parts_of : List Str := ["wish", "found", "one"]
abbrev P_parts_of : List Str := ["wish"]
theorem sc_parts_of : FnScope N_parts_of P_parts_of (defScope st_5) := ⟨rfl, rfl, rfl, by decide +kernel, rfl, by decide +kernel, by decide +kernel⟩
theorem nd_parts_of : N_parts_of.Nodup := sc_parts_of.nd
abbrev st_6 : Stmt := top 10
abbrev N_opened : List Str := ["wishes", "steps", "seen", "wish", "thing", "k"]
abbrev P_opened : List Str := ["wishes"]
theorem sc_opened : FnScope N_opened P_opened (defScope st_6) := ⟨rfl, rfl, rfl, by decide +kernel, rfl, by decide +kernel, by decide +kernel⟩
theorem nd_opened : N_opened.Nodup := sc_opened.nd
abbrev st_7 : Stmt := top 12
abbrev N__law_draw : List Str := ["script", "k", "many", "cell", "seed"]
abbrev P__law_draw : List Str := ["script", "k", "many"]
theorem sc__law_draw : FnScope N__law_draw P__law_draw (defScope st_7) := ⟨rfl, rfl, rfl, by decide +kernel, rfl, by decide +kernel, by decide +kernel⟩
theorem nd__law_draw : N__law_draw.Nodup := sc__law_draw.nd
abbrev st_8 : Stmt := top 13
abbrev N__law_term : List Str := ["script", "k", "names", "one", "way"]
abbrev P__law_term : List Str := ["script", "k"]
theorem sc__law_term : FnScope N__law_term P__law_term (defScope st_8) := ⟨rfl, rfl, rfl, by decide +kernel, rfl, by decide +kernel, by decide +kernel⟩
theorem nd__law_term : N__law_term.Nodup := sc__law_term.nd
abbrev st_9 : Stmt := top 14
abbrev N__law_share : List Str := ["script", "k", "some"]
abbrev P__law_share : List Str := ["script", "k"]
theorem sc__law_share : FnScope N__law_share P__law_share (defScope st_9) := ⟨rfl, rfl, rfl, by decide +kernel, rfl, by decide +kernel, by decide +kernel⟩
theorem nd__law_share : N__law_share.Nodup := sc__law_share.nd
abbrev st_10 : Stmt := top 15
abbrev N__law_atom : List Str := ["script", "k", "way", "pool", "shares", "n", "bound", "term"]
abbrev P__law_atom : List Str := ["script", "k"]
theorem sc__law_atom : FnScope N__law_atom P__law_atom (defScope st_10) := ⟨rfl, rfl, rfl, by decide +kernel, rfl, by decide +kernel, by decide +kernel⟩
theorem nd__law_atom : N__law_atom.Nodup := sc__law_atom.nd
abbrev st_11 : Stmt := top 16
abbrev N__law_wish : List Str := ["script", "k", "deep", "atoms", "way", "some", "n"]
abbrev P__law_wish : List Str := ["script", "k", "deep", "atoms"]
theorem sc__law_wish : FnScope N__law_wish P__law_wish (defScope st_11) := ⟨rfl, rfl, rfl, by decide +kernel, rfl, by decide +kernel, by decide +kernel⟩
theorem nd__law_wish : N__law_wish.Nodup := sc__law_wish.nd
abbrev st_12 : Stmt := top 17
abbrev N__law_wishes : List Str := ["script", "base", "atoms", "many", "n"]
abbrev P__law_wishes : List Str := ["script", "base"]
theorem sc__law_wishes : FnScope N__law_wishes P__law_wishes (defScope st_12) := ⟨rfl, rfl, rfl, by decide +kernel, rfl, by decide +kernel, by decide +kernel⟩
theorem nd__law_wishes : N__law_wishes.Nodup := sc__law_wishes.nd
abbrev st_13 : Stmt := top 18
abbrev N__law_parts : List Str := ["wish", "found", "inner", "one", "part"]
abbrev P__law_parts : List Str := ["wish"]
theorem sc__law_parts : FnScope N__law_parts P__law_parts (defScope st_13) := ⟨rfl, rfl, rfl, by decide +kernel, rfl, by decide +kernel, by decide +kernel⟩
theorem nd__law_parts : N__law_parts.Nodup := sc__law_parts.nd
abbrev st_14 : Stmt := top 19
abbrev N_law : List Str := ["script", "wishes", "due", "seen", "wish", "handed", "k", "part", "found", "step"]
abbrev P_law : List Str := ["script"]
theorem sc_law : FnScope N_law P_law (defScope st_14) := ⟨rfl, rfl, rfl, by decide +kernel, rfl, by decide +kernel, by decide +kernel⟩
theorem nd_law : N_law.Nodup := sc_law.nd
def PS : Nat → List Str
  | 0 => P_put_once
  | 1 => P_lit
  | 2 => P_row_of
  | 3 => P_openings
  | 4 => P_right_within
  | 5 => P_parts_of
  | 6 => P_opened
  | 7 => P__law_draw
  | 8 => P__law_term
  | 9 => P__law_share
  | 10 => P__law_atom
  | 11 => P__law_wish
  | 12 => P__law_wishes
  | 13 => P__law_parts
  | 14 => P_law
  | _ => []
abbrev FnP (K : PySem.W.Frag) (x : Str) (st : Stmt) (f : Addr) (fd : FuncData) : Prop := FunD K x x (defArgs st) (defBody st) (defScope st) [] [] f fd
structure Fx (K : PySem.W.Frag) (mg : Str → Option Value) (a : Nat → Addr) (fd : Nat → FuncData) : Prop where
  D0 : FnP K "put_once" st_0 (a 0) (fd 0)
  g0 : mg "put_once" = some (.ref (a 0))
  D1 : FnP K "lit" st_1 (a 1) (fd 1)
  g1 : mg "lit" = some (.ref (a 1))
  D2 : FnP K "row_of" st_2 (a 2) (fd 2)
  g2 : mg "row_of" = some (.ref (a 2))
  D3 : FnP K "openings" st_3 (a 3) (fd 3)
  g3 : mg "openings" = some (.ref (a 3))
  D4 : FnP K "right_within" st_4 (a 4) (fd 4)
  g4 : mg "right_within" = some (.ref (a 4))
  D5 : FnP K "parts_of" st_5 (a 5) (fd 5)
  g5 : mg "parts_of" = some (.ref (a 5))
  D6 : FnP K "opened" st_6 (a 6) (fd 6)
  g6 : mg "opened" = some (.ref (a 6))
  D7 : FnP K "_law_draw" st_7 (a 7) (fd 7)
  g7 : mg "_law_draw" = some (.ref (a 7))
  D8 : FnP K "_law_term" st_8 (a 8) (fd 8)
  g8 : mg "_law_term" = some (.ref (a 8))
  D9 : FnP K "_law_share" st_9 (a 9) (fd 9)
  g9 : mg "_law_share" = some (.ref (a 9))
  D10 : FnP K "_law_atom" st_10 (a 10) (fd 10)
  g10 : mg "_law_atom" = some (.ref (a 10))
  D11 : FnP K "_law_wish" st_11 (a 11) (fd 11)
  g11 : mg "_law_wish" = some (.ref (a 11))
  D12 : FnP K "_law_wishes" st_12 (a 12) (fd 12)
  g12 : mg "_law_wishes" = some (.ref (a 12))
  D13 : FnP K "_law_parts" st_13 (a 13) (fd 13)
  g13 : mg "_law_parts" = some (.ref (a 13))
  D14 : FnP K "law" st_14 (a 14) (fd 14)
  g14 : mg "law" = some (.ref (a 14))
  b_bool : mg "bool" = none
  b_isinstance : mg "isinstance" = none
  b_len : mg "len" = none
  b_list : mg "list" = none
  b_range : mg "range" = none
  b_repr : mg "repr" = none
  b_sorted : mg "sorted" = none
  b_tuple : mg "tuple" = none
section
variable {P : Program} {w : World} {K : PySem.W.Frag} {mg : Str → Option Value} {base : Heap} {a : Nat → Addr} {fd : Nat → FuncData}
theorem bd0 {f : Addr} {fd : FuncData} (F : FnP K "put_once" st_0 f fd) : Binds K fd P_put_once [] := F.bindsN fun _ _ _ _ _ _ us hl => match us, hl with | [_, _], _ => rfl
theorem bd1 {f : Addr} {fd : FuncData} (F : FnP K "lit" st_1 f fd) : Binds K fd P_lit [] := F.bindsN fun _ _ _ _ _ _ us hl => match us, hl with | [_, _], _ => rfl
theorem bd2 {f : Addr} {fd : FuncData} (F : FnP K "row_of" st_2 f fd) : Binds K fd P_row_of [] := F.bindsN fun _ _ _ _ _ _ us hl => match us, hl with | [_], _ => rfl
theorem bd3 {f : Addr} {fd : FuncData} (F : FnP K "openings" st_3 f fd) : Binds K fd P_openings [] := F.bindsN fun _ _ _ _ _ _ us hl => match us, hl with | [_], _ => rfl
theorem bd4 {f : Addr} {fd : FuncData} (F : FnP K "right_within" st_4 f fd) : Binds K fd P_right_within [] := F.bindsN fun _ _ _ _ _ _ us hl => match us, hl with | [_], _ => rfl
theorem bd5 {f : Addr} {fd : FuncData} (F : FnP K "parts_of" st_5 f fd) : Binds K fd P_parts_of [] := F.bindsN fun _ _ _ _ _ _ us hl => match us, hl with | [_], _ => rfl
theorem bd6 {f : Addr} {fd : FuncData} (F : FnP K "opened" st_6 f fd) : Binds K fd P_opened [] := F.bindsN fun _ _ _ _ _ _ us hl => match us, hl with | [_], _ => rfl
theorem bd7 {f : Addr} {fd : FuncData} (F : FnP K "_law_draw" st_7 f fd) : Binds K fd P__law_draw [] := F.bindsN fun _ _ _ _ _ _ us hl => match us, hl with | [_, _, _], _ => rfl
theorem bd8 {f : Addr} {fd : FuncData} (F : FnP K "_law_term" st_8 f fd) : Binds K fd P__law_term [] := F.bindsN fun _ _ _ _ _ _ us hl => match us, hl with | [_, _], _ => rfl
theorem bd9 {f : Addr} {fd : FuncData} (F : FnP K "_law_share" st_9 f fd) : Binds K fd P__law_share [] := F.bindsN fun _ _ _ _ _ _ us hl => match us, hl with | [_, _], _ => rfl
theorem bd10 {f : Addr} {fd : FuncData} (F : FnP K "_law_atom" st_10 f fd) : Binds K fd P__law_atom [] := F.bindsN fun _ _ _ _ _ _ us hl => match us, hl with | [_, _], _ => rfl
theorem bd11 {f : Addr} {fd : FuncData} (F : FnP K "_law_wish" st_11 f fd) : Binds K fd P__law_wish [] := F.bindsN fun _ _ _ _ _ _ us hl => match us, hl with | [_, _, _, _], _ => rfl
theorem bd12 {f : Addr} {fd : FuncData} (F : FnP K "_law_wishes" st_12 f fd) : Binds K fd P__law_wishes [] := F.bindsN fun _ _ _ _ _ _ us hl => match us, hl with | [_, _], _ => rfl
theorem bd13 {f : Addr} {fd : FuncData} (F : FnP K "_law_parts" st_13 f fd) : Binds K fd P__law_parts [] := F.bindsN fun _ _ _ _ _ _ us hl => match us, hl with | [_], _ => rfl
theorem bd14 {f : Addr} {fd : FuncData} (F : FnP K "law" st_14 f fd) : Binds K fd P_law [] := F.bindsN fun _ _ _ _ _ _ us hl => match us, hl with | [_], _ => rfl
abbrev Good (P : Program) (w : World) (K : PySem.W.Frag) (mg : Str → Option Value) (base : Heap) (a : Nat → Addr) (fd : Nat → FuncData) (d i : Nat) : Prop := FnG P w K mg base CX0 d (a i) (fd i) (PS i) (spF ⟨K, w, fun _ => 0⟩ (runT T d i) (PS i).length)
theorem q0_1 (d : Nat) : runT T (d + 1) 0 = fun ws M => gcO M (Sw.body 3 (b0 (runT T d)) ws M) := rfl
theorem q0_2 : PS 0 = P_put_once := rfl
theorem q0_3 : N_put_once.length = 3 := rfl
theorem q0_4 : (PS 0).length = 2 := rfl
theorem ok0 {d : Nat} (Z : Fx K mg a fd) (IH : ∀ i, i < 15 → Good P w K mg base a fd d i) : Good P w K mg base a fd (d + 1) 0 := by
  refine FnG.like (i_defn 3 2 (b0 (runT T d)) Z.D0 sc_put_once q0_3 rfl fun cdv A outer s H E gd hr => PSs.nox ?_) q0_2 (q0_1 d) q0_4
  unfold b0
  exact (i_sone (i_for PassesOwn.never rfl (i_seq rfl (i_v 1)) (i_g 2 nd_put_once) (i_sone (i_sif (i_tcmp (o_ni rfl rfl hr.units) (i_v 2) (i_v 0)) (i_sone (i_expr (i_append rfl rfl (i_v 0) (i_v 2)))) i_snil))))
theorem q1_1 (d : Nat) : runT T (d + 1) 1 = fun ws M => gcO M (Sw.body 2 (b1 (runT T d)) ws M) := rfl
theorem q1_2 : PS 1 = P_lit := rfl
theorem q1_3 : N_lit.length = 2 := rfl
theorem q1_4 : (PS 1).length = 2 := rfl
theorem ok1 {d : Nat} (Z : Fx K mg a fd) (IH : ∀ i, i < 15 → Good P w K mg base a fd d i) : Good P w K mg base a fd (d + 1) 1 := by
  refine FnG.like (i_defn 2 2 (b1 (runT T d)) Z.D1 sc_lit q1_3 rfl fun cdv A outer s H E gd hr => PSs.nox ?_) q1_2 (q1_1 d) q1_4
  unfold b1
  exact (i_scons (i_while PassesOwn.never (i_tcmp (o_eq rfl hr.units) (i_ix (o_ix rfl rfl hr.units) (i_v 0) i_int) i_str) (i_scons (i_st 0 nd_lit (i_ix (o_ix rfl rfl hr.units) (i_v 0) i_int))
    (i_sone (i_st 1 nd_lit (i_not (i_v 1))))))
    (i_sone (i_ret (i_tup (i_cons (i_v 0) (i_cons (i_v 1) i_nil))))))
theorem q2_1 (d : Nat) : runT T (d + 1) 2 = fun ws M => gcO M (Sw.body 3 (b2 (runT T d)) ws M) := rfl
theorem q2_2 : PS 2 = P_row_of := rfl
theorem q2_3 : N_row_of.length = 3 := rfl
theorem q2_4 : (PS 2).length = 1 := rfl
theorem ok2 {d : Nat} (Z : Fx K mg a fd) (IH : ∀ i, i < 15 → Good P w K mg base a fd d i) : Good P w K mg base a fd (d + 1) 2 := by
  refine FnG.like (i_defn 3 1 (b2 (runT T d)) Z.D2 sc_row_of q2_3 rfl fun cdv A outer s H E gd hr => PSs.nox ?_) q2_2 (q2_1 d) q2_4
  unfold b2
  exact (i_scons (i_st 1 nd_row_of (i_new (i_lstF i_nil)))
    (i_scons (i_for PassesOwn.never rfl (i_iNew rfl (i_sorted rfl hr.units rfl Z.b_sorted PyB.b_sorted (i_qOf (i_v 0)))) (i_g 2 nd_row_of) (i_sone (i_sif (PW.pt (i_tor (i_tcmp (o_eq rfl hr.units) (i_v 1) (i_new (i_lstF i_nil))) (i_tor1 (i_tcmp (o_ne rfl hr.units) (i_v 2) (i_ix (o_ix rfl rfl hr.units) (i_v 1) (i_un u_neg i_int)))))) (i_sone (i_expr (i_append rfl rfl (i_v 1) (i_v 2)))) i_snil)))
    (i_sone (i_ret (i_tuple rfl rfl Z.b_tuple (i_lOf (i_v 1)))))))
theorem q3_1 (d : Nat) : runT T (d + 1) 3 = fun ws M => gcO M (Sw.body 4 (b3 (runT T d)) ws M) := rfl
theorem q3_2 : PS 3 = P_openings := rfl
theorem q3_3 : N_openings.length = 4 := rfl
theorem q3_4 : (PS 3).length = 1 := rfl
theorem ok3 {d : Nat} (Z : Fx K mg a fd) (IH : ∀ i, i < 15 → Good P w K mg base a fd d i) : Good P w K mg base a fd (d + 1) 3 := by
  refine FnG.like (i_defn 4 1 (b3 (runT T d)) Z.D3 sc_openings q3_3 rfl fun cdv A outer s H E gd hr => PSs.nox ?_) q3_2 (q3_1 d) q3_4
  unfold b3
  exact (i_scons (i_sif (PW.pt (i_tand (i_tcmp (o_ne rfl hr.units) (i_ix (o_ix rfl rfl hr.units) (i_v 0) i_int) i_str) (i_tand1 (i_tcmp (o_ne rfl hr.units) (i_ix (o_ix rfl rfl hr.units) (i_v 0) i_int) i_str)))) (i_sone (i_ret (i_new (i_lstF i_nil)))) i_snil)
    (i_scons (i_st 1 nd_openings (i_cmp (o_eq rfl hr.units) (i_ix (o_ix rfl rfl hr.units) (i_v 0) i_int) i_str))
    (i_scons (i_stLc 2 (own := [("wish", 3)]) rfl nd_openings (i_seq rfl (i_ix (o_ix rfl rfl hr.units) (i_v 0) i_int)) (blkOk_by (N := N_openings) (sc := defScope st_3) (by decide +kernel)) (fun _ _ _ _ _ => (i_g 3 nd_openings)) (fun _ _ _ _ _ => i_ts0) (fun _ _ _ _ _ => (i_call (IH 2 (by decide)) gd hr rfl Z.g2 Z.D2.kp (bd2 Z.D2) pass0 (i_cons (i_new (i_lstF (i_cons (i_tup (i_cons (i_v 0) (i_cons (i_not (i_v 1)) i_nil))) (i_cons (i_call (IH 1 (by decide)) gd hr rfl Z.g1 Z.D1.kp (bd1 Z.D1) pass0 (i_cons (i_v 3) (i_cons (i_v 1) i_nil)) rfl) i_nil)))) i_nil) rfl)) (by decide) (by decide) (sw_true rfl rfl rfl (by decide +kernel)))
    (i_scons (i_expr (i_append rfl rfl (i_v 2) (i_call (IH 2 (by decide)) gd hr rfl Z.g2 Z.D2.kp (bd2 Z.D2) pass0 (i_cons (i_op (o_add rfl) (i_new (i_lstF (i_cons (i_tup (i_cons (i_v 0) (i_cons (i_v 1) i_nil))) i_nil))) (i_new (i_lc (own := [("wish", 3)]) rfl nd_openings (i_seq rfl (i_ix (o_ix rfl rfl hr.units) (i_v 0) i_int)) (blkOk_by (N := N_openings) (sc := defScope st_3) (by decide +kernel)) (fun _ _ _ _ _ => (i_g 3 nd_openings)) (fun _ _ _ _ _ => i_ts0) (fun _ _ _ _ _ => (i_call (IH 1 (by decide)) gd hr rfl Z.g1 Z.D1.kp (bd1 Z.D1) pass0 (i_cons (i_v 3) (i_cons (i_not (i_v 1)) i_nil)) rfl)) (by decide) (by decide)))) i_nil) rfl)))
    (i_sone (i_ret (i_v 2)))))))
theorem q4_1 (d : Nat) : runT T (d + 1) 4 = fun ws M => gcO M (Sw.body 1 (b4 (runT T d)) ws M) := rfl
theorem q4_2 : PS 4 = P_right_within := rfl
theorem q4_3 : N_right_within.length = 1 := rfl
theorem q4_4 : (PS 4).length = 1 := rfl
theorem ok4 {d : Nat} (Z : Fx K mg a fd) (IH : ∀ i, i < 15 → Good P w K mg base a fd d i) : Good P w K mg base a fd (d + 1) 4 := by
  refine FnG.like (i_defn 1 1 (b4 (runT T d)) Z.D4 sc_right_within q4_3 rfl fun cdv A outer s H E gd hr => PSs.nox ?_) q4_2 (q4_1 d) q4_4
  unfold b4
  exact (i_scons (i_sif (i_tcmp (o_eq rfl hr.units) (i_ix (o_ix rfl rfl hr.units) (i_v 0) i_int) i_str) (i_sone (i_ret (i_tup (i_cons (i_ix (o_ix rfl rfl hr.units) (i_v 0) i_int) i_nil)))) i_snil)
    (i_scons (i_sif (PW.pt (i_tor (i_tcmp (o_eq rfl hr.units) (i_ix (o_ix rfl rfl hr.units) (i_v 0) i_int) i_str) (i_tor1 (i_tcmp (o_eq rfl hr.units) (i_ix (o_ix rfl rfl hr.units) (i_v 0) i_int) i_str)))) (i_sone (i_ret (i_ix (o_ix rfl rfl hr.units) (i_v 0) i_int))) i_snil)
    (i_sone (i_ret (i_tup i_nil)))))
theorem q5_1 (d : Nat) : runT T (d + 1) 5 = fun ws M => gcO M (Sw.body 3 (b5 (runT T d)) ws M) := rfl
theorem q5_2 : PS 5 = P_parts_of := rfl
theorem q5_3 : N_parts_of.length = 3 := rfl
theorem q5_4 : (PS 5).length = 1 := rfl
theorem ok5 {d : Nat} (Z : Fx K mg a fd) (IH : ∀ i, i < 15 → Good P w K mg base a fd d i) : Good P w K mg base a fd (d + 1) 5 := by
  refine FnG.like (i_defn 3 1 (b5 (runT T d)) Z.D5 sc_parts_of q5_3 rfl fun cdv A outer s H E gd hr => PSs.nox ?_) q5_2 (q5_1 d) q5_4
  unfold b5
  exact (i_scons (i_st 1 nd_parts_of (i_new (i_lstF i_nil)))
    (i_scons (i_for PassesOwn.never rfl (i_seq rfl (i_call (IH 4 (by decide)) gd hr rfl Z.g4 Z.D4.kp (bd4 Z.D4) pass0 (i_cons (i_v 0) i_nil) rfl)) (i_g 2 nd_parts_of) (i_sone (i_expr (i_call (IH 0 (by decide)) gd hr rfl Z.g0 Z.D0.kp (bd0 Z.D0) pass0 (i_cons (i_v 1) (i_cons (i_call (IH 5 (by decide)) gd hr rfl Z.g5 Z.D5.kp (bd5 Z.D5) pass0 (i_cons (i_v 2) i_nil) rfl) i_nil)) rfl))))
    (i_scons (i_expr (i_call (IH 0 (by decide)) gd hr rfl Z.g0 Z.D0.kp (bd0 Z.D0) pass0 (i_cons (i_v 1) (i_cons (i_new (i_lstF (i_cons (i_v 0) i_nil))) i_nil)) rfl))
    (i_sone (i_ret (i_v 1))))))
theorem q6_1 (d : Nat) : runT T (d + 1) 6 = fun ws M => gcO M (Sw.body 6 (b6 (runT T d)) ws M) := rfl
theorem q6_2 : PS 6 = P_opened := rfl
theorem q6_3 : N_opened.length = 6 := rfl
theorem q6_4 : (PS 6).length = 1 := rfl
theorem ok6 {d : Nat} (Z : Fx K mg a fd) (IH : ∀ i, i < 15 → Good P w K mg base a fd d i) : Good P w K mg base a fd (d + 1) 6 := by
  refine FnG.like (i_defn 6 1 (b6 (runT T d)) Z.D6 sc_opened q6_3 rfl fun cdv A outer s H E gd hr => PSs.nox ?_) q6_2 (q6_1 d) q6_4
  unfold b6
  exact (i_scons (i_stLc 1 (own := [("k", 5)]) rfl nd_opened (i_range1 rfl Z.b_range (i_c1 rfl (c_len rfl rfl) rfl Z.b_len PyB.b_len (i_v 0))) (blkOk_by (N := N_opened) (sc := defScope st_6) (by decide +kernel)) (fun _ _ _ _ _ => (i_g 5 nd_opened)) (fun _ _ _ _ _ => i_ts0) (fun _ _ _ _ _ => (i_tup (i_cons i_str (i_cons (i_v 5) i_nil)))) (by decide) (by decide) (sw_true rfl rfl rfl (by decide +kernel)))
    (i_scons (i_st 2 nd_opened i_dic)
    (i_scons (i_for PassesOwn.never rfl (i_seq rfl (i_v 0)) (i_g 3 nd_opened) (i_sone (i_for PassesOwn.never rfl (i_seq rfl (i_call (IH 5 (by decide)) gd hr rfl Z.g5 Z.D5.kp (bd5 Z.D5) pass0 (i_cons (i_v 3) i_nil) rfl)) (i_g 4 nd_opened) (i_sone (i_sif (PW.pt (i_tand (i_tcmp (o_in rfl rfl hr.units) (i_ix (o_ix rfl rfl hr.units) (i_v 4) i_int) (i_tup (i_cons i_str (i_cons i_str i_nil)))) (i_tand1 (i_tcmp (o_ni rfl rfl hr.units) (i_repr rfl hr.units gd rfl Z.b_repr PyB.b_repr (i_v 4)) (i_v 2))))) (i_scons (i_put rfl rfl hr.units (i_v 2) (i_repr rfl hr.units gd rfl Z.b_repr PyB.b_repr (i_v 4)) i_bl)
    (i_sone (i_for PassesOwn.never rfl (i_range1 rfl Z.b_range (i_c1 rfl (c_len rfl rfl) rfl Z.b_len PyB.b_len (i_call (IH 3 (by decide)) gd hr rfl Z.g3 Z.D3.kp (bd3 Z.D3) pass0 (i_cons (i_v 4) i_nil) rfl))) (i_g 5 nd_opened) (i_sone (i_expr (i_append rfl rfl (i_v 1) (i_tup (i_cons i_str (i_cons (i_v 4) (i_cons (i_v 5) i_nil)))))))))) i_snil)))))
    (i_sone (i_ret (i_v 1))))))
theorem q7_1 (d : Nat) : runT T (d + 1) 7 = fun ws M => gcO M (Sw.body 5 (b7 (runT T d)) ws M) := rfl
theorem q7_2 : PS 7 = P__law_draw := rfl
theorem q7_3 : N__law_draw.length = 5 := rfl
theorem q7_4 : (PS 7).length = 3 := rfl
theorem ok7 {d : Nat} (Z : Fx K mg a fd) (IH : ∀ i, i < 15 → Good P w K mg base a fd d i) : Good P w K mg base a fd (d + 1) 7 := by
  refine FnG.like (i_defn 5 3 (b7 (runT T d)) Z.D7 sc__law_draw q7_3 rfl fun cdv A outer s H E gd hr => PSs.nox ?_) q7_2 (q7_1 d) q7_4
  unfold b7
  exact (i_scons (i_st 3 nd__law_draw (i_if (i_tcmp o_gt (i_c1 rfl (c_len rfl rfl) rfl Z.b_len PyB.b_len (i_v 0)) i_int) (i_ix (o_ix rfl rfl hr.units) (i_v 0) (i_op (o_mod) (i_v 1) (i_c1 rfl (c_len rfl rfl) rfl Z.b_len PyB.b_len (i_v 0)))) i_int))
    (i_scons (i_sif (PW.pt (i_tand (i_tcmp o_gt (i_c1 rfl (c_len rfl rfl) rfl Z.b_len PyB.b_len (i_v 0)) i_int) (i_tand1 (i_tcmp (o_eq rfl hr.units) (i_op (o_mod) (i_ix (o_ix rfl rfl hr.units) (i_v 0) i_int) i_int) i_int)))) (i_sone (i_ret (i_op (o_mod) (i_op (o_mod) (i_op (o_shr) (i_v 3) (i_op (o_add rfl) (i_op (o_mul) i_int (i_op (o_div) (i_v 1) (i_c1 rfl (c_len rfl rfl) rfl Z.b_len PyB.b_len (i_v 0)))) i_int)) i_int) (i_v 2)))) i_snil)
    (i_scons (i_st 4 nd__law_draw (i_op (o_add rfl) (i_op (o_add rfl) (i_op (o_mod) (i_v 3) i_int) (i_op (o_mul) (i_op (o_mul) i_int (i_v 1)) (i_v 1))) i_int))
    (i_sone (i_ret (i_op (o_mod) (i_op (o_mod) (i_op (o_mul) (i_op (o_mod) (i_op (o_mul) (i_v 4) i_int) i_int) i_int) i_int) (i_v 2)))))))
theorem q8_1 (d : Nat) : runT T (d + 1) 8 = fun ws M => gcO M (Sw.body 5 (b8 (runT T d)) ws M) := rfl
theorem q8_2 : PS 8 = P__law_term := rfl
theorem q8_3 : N__law_term.length = 5 := rfl
theorem q8_4 : (PS 8).length = 2 := rfl
theorem ok8 {d : Nat} (Z : Fx K mg a fd) (IH : ∀ i, i < 15 → Good P w K mg base a fd d i) : Good P w K mg base a fd (d + 1) 8 := by
  refine FnG.like (i_defn 5 2 (b8 (runT T d)) Z.D8 sc__law_term q8_3 rfl fun cdv A outer s H E gd hr => PSs.nox ?_) q8_2 (q8_1 d) q8_4
  unfold b8
  exact (i_scons (i_st 2 nd__law_term (i_new (i_lstF (i_cons (i_tup (i_cons i_str (i_cons i_str i_nil))) (i_cons (i_tup (i_cons i_str (i_cons i_str i_nil))) (i_cons (i_tup (i_cons i_str (i_cons i_str i_nil))) (i_cons (i_tup (i_cons i_str (i_cons i_str i_nil))) i_nil)))))))
    (i_scons (i_st 3 nd__law_term (i_ix (o_ix rfl rfl hr.units) (i_v 2) (i_call (IH 7 (by decide)) gd hr rfl Z.g7 Z.D7.kp (bd7 Z.D7) pass0 (i_cons (i_v 0) (i_cons (i_v 1) (i_cons i_int i_nil))) rfl)))
    (i_scons (i_st 4 nd__law_term (i_call (IH 7 (by decide)) gd hr rfl Z.g7 Z.D7.kp (bd7 Z.D7) pass0 (i_cons (i_v 0) (i_cons (i_op (o_add rfl) (i_v 1) i_int) (i_cons i_int i_nil))) rfl))
    (i_scons (i_sif (i_tcmp (o_lt rfl hr.units) (i_v 4) i_int) (i_sone (i_ret (i_v 3))) i_snil)
    (i_scons (i_sif (i_tcmp (o_eq rfl hr.units) (i_v 4) i_int) (i_sone (i_ret (i_tup (i_cons i_str (i_cons i_str (i_cons (i_tup (i_cons (i_v 3) (i_cons (i_ix (o_ix rfl rfl hr.units) (i_v 2) i_int) i_nil))) i_nil)))))) i_snil)
    (i_scons (i_sif (i_tcmp (o_eq rfl hr.units) (i_v 4) i_int) (i_sone (i_ret (i_tup (i_cons i_str (i_cons i_str (i_cons (i_tup (i_cons (i_tup (i_cons i_str (i_cons i_str (i_cons (i_tup (i_cons (i_v 3) i_nil)) i_nil)))) i_nil)) i_nil)))))) i_snil)
    (i_sone (i_ret (i_tup (i_cons i_str (i_cons i_str (i_cons (i_tup (i_cons (i_v 3) i_nil)) i_nil))))))))))))
theorem q9_1 (d : Nat) : runT T (d + 1) 9 = fun ws M => gcO M (Sw.body 3 (b9 (runT T d)) ws M) := rfl
theorem q9_2 : PS 9 = P__law_share := rfl
theorem q9_3 : N__law_share.length = 3 := rfl
theorem q9_4 : (PS 9).length = 2 := rfl
theorem ok9 {d : Nat} (Z : Fx K mg a fd) (IH : ∀ i, i < 15 → Good P w K mg base a fd d i) : Good P w K mg base a fd (d + 1) 9 := by
  refine FnG.like (i_defn 3 2 (b9 (runT T d)) Z.D9 sc__law_share q9_3 rfl fun cdv A outer s H E gd hr => PSs.nox ?_) q9_2 (q9_1 d) q9_4
  unfold b9
  exact (i_scons (i_st 2 nd__law_share (i_new (i_lstF (i_cons (i_tup (i_cons i_int (i_cons i_int i_nil))) (i_cons (i_tup (i_cons (i_un u_neg i_int) (i_cons i_int i_nil))) (i_cons (i_tup (i_cons i_int (i_cons i_int i_nil))) (i_cons (i_tup (i_cons (i_un u_neg i_int) (i_cons i_int i_nil))) (i_cons (i_tup (i_cons i_int (i_cons i_int i_nil))) (i_cons (i_tup (i_cons (i_un u_neg i_int) (i_cons i_int i_nil))) (i_cons (i_tup (i_cons i_int (i_cons i_int i_nil))) (i_cons (i_tup (i_cons (i_un u_neg i_int) (i_cons i_int i_nil))) i_nil)))))))))))
    (i_scons (i_sif (i_tcmp (o_eq rfl hr.units) (i_call (IH 7 (by decide)) gd hr rfl Z.g7 Z.D7.kp (bd7 Z.D7) pass0 (i_cons (i_v 0) (i_cons (i_op (o_add rfl) (i_v 1) i_int) (i_cons i_int i_nil))) rfl) i_int) (i_sone (i_ret (i_tup (i_cons i_int (i_cons i_int i_nil))))) i_snil)
    (i_sone (i_ret (i_ix (o_ix rfl rfl hr.units) (i_v 2) (i_call (IH 7 (by decide)) gd hr rfl Z.g7 Z.D7.kp (bd7 Z.D7) pass0 (i_cons (i_v 0) (i_cons (i_v 1) (i_cons i_int i_nil))) rfl))))))
theorem q10_1 (d : Nat) : runT T (d + 1) 10 = fun ws M => gcO M (Sw.body 8 (b10 (runT T d)) ws M) := rfl
theorem q10_2 : PS 10 = P__law_atom := rfl
theorem q10_3 : N__law_atom.length = 8 := rfl
theorem q10_4 : (PS 10).length = 2 := rfl
theorem ok10 {d : Nat} (Z : Fx K mg a fd) (IH : ∀ i, i < 15 → Good P w K mg base a fd d i) : Good P w K mg base a fd (d + 1) 10 := by
  refine FnG.like (i_defn 8 2 (b10 (runT T d)) Z.D10 sc__law_atom q10_3 rfl fun cdv A outer s H E gd hr => PSs.nox ?_) q10_2 (q10_1 d) q10_4
  unfold b10
  exact (i_scons (i_st 2 nd__law_atom (i_call (IH 7 (by decide)) gd hr rfl Z.g7 Z.D7.kp (bd7 Z.D7) pass0 (i_cons (i_v 0) (i_cons (i_v 1) (i_cons i_int i_nil))) rfl))
    (i_scons (i_sif (i_tcmp (o_eq rfl hr.units) (i_v 2) i_int) (i_sone (i_ret (i_tup (i_cons i_str (i_cons (i_ix (o_ix rfl rfl hr.units) (i_new (i_lstF (i_cons i_str (i_cons i_str (i_cons i_str i_nil))))) (i_call (IH 7 (by decide)) gd hr rfl Z.g7 Z.D7.kp (bd7 Z.D7) pass0 (i_cons (i_v 0) (i_cons (i_op (o_add rfl) (i_v 1) i_int) (i_cons i_int i_nil))) rfl)) i_nil))))) i_snil)
    (i_scons (i_sif (i_tcmp (o_lt rfl hr.units) (i_v 2) i_int) (i_sone (i_ret (i_tup (i_cons i_str (i_cons (i_call (IH 8 (by decide)) gd hr rfl Z.g8 Z.D8.kp (bd8 Z.D8) pass0 (i_cons (i_v 0) (i_cons (i_op (o_add rfl) (i_v 1) i_int) i_nil)) rfl) (i_cons (i_call (IH 8 (by decide)) gd hr rfl Z.g8 Z.D8.kp (bd8 Z.D8) pass0 (i_cons (i_v 0) (i_cons (i_op (o_add rfl) (i_v 1) i_int) i_nil)) rfl) i_nil)))))) i_snil)
    (i_scons (i_st 3 nd__law_atom (i_new (i_lstF (i_cons (i_tup (i_cons i_str (i_cons i_str i_nil))) (i_cons (i_tup (i_cons i_str (i_cons i_str i_nil))) (i_cons (i_tup (i_cons i_str (i_cons i_str i_nil))) i_nil))))))
    (i_scons (i_st 3 nd__law_atom (i_op (o_add rfl) (i_v 3) (i_new (i_lstF (i_cons (i_tup (i_cons i_str (i_cons i_str (i_cons (i_tup (i_cons (i_ix (o_ix rfl rfl hr.units) (i_v 3) i_int) i_nil)) i_nil)))) (i_cons (i_tup (i_cons i_str (i_cons i_str (i_cons (i_tup (i_cons (i_ix (o_ix rfl rfl hr.units) (i_v 3) i_int) i_nil)) i_nil)))) i_nil))))))
    (i_scons (i_st 4 nd__law_atom i_dic)
    (i_scons (i_for PassesOwn.never rfl (i_range1 rfl Z.b_range (i_op (o_add rfl) i_int (i_call (IH 7 (by decide)) gd hr rfl Z.g7 Z.D7.kp (bd7 Z.D7) pass0 (i_cons (i_v 0) (i_cons (i_op (o_add rfl) (i_v 1) i_int) (i_cons i_int i_nil))) rfl))) (i_g 5 nd__law_atom) (i_sone (i_put rfl rfl hr.units (i_v 4) (i_ix (o_ix rfl rfl hr.units) (i_v 3) (i_call (IH 7 (by decide)) gd hr rfl Z.g7 Z.D7.kp (bd7 Z.D7) pass0 (i_cons (i_v 0) (i_cons (i_op (o_add rfl) (i_op (o_add rfl) (i_v 1) i_int) (i_v 5)) (i_cons i_int i_nil))) rfl)) (i_call (IH 9 (by decide)) gd hr rfl Z.g9 Z.D9.kp (bd9 Z.D9) pass0 (i_cons (i_v 0) (i_cons (i_op (o_add rfl) (i_op (o_add rfl) (i_v 1) i_int) (i_op (o_mul) i_int (i_v 5))) i_nil)) rfl))))
    (i_scons (i_st 6 nd__law_atom (i_ix (o_ix rfl rfl hr.units) (i_new (i_lstF (i_cons (i_tup (i_cons i_int (i_cons i_int i_nil))) (i_cons (i_tup (i_cons i_int (i_cons i_int i_nil))) (i_cons (i_tup (i_cons (i_un u_neg i_int) (i_cons i_int i_nil))) (i_cons (i_tup (i_cons i_int (i_cons i_int i_nil))) (i_cons (i_tup (i_cons (i_un u_neg i_int) (i_cons i_int i_nil))) (i_cons (i_tup (i_cons i_int (i_cons i_int i_nil))) i_nil)))))))) (i_call (IH 7 (by decide)) gd hr rfl Z.g7 Z.D7.kp (bd7 Z.D7) pass0 (i_cons (i_v 0) (i_cons (i_op (o_add rfl) (i_v 1) i_int) (i_cons i_int i_nil))) rfl)))
    (i_sone (i_ret (i_tup (i_cons i_str (i_cons (i_tuple rfl rfl Z.b_tuple (i_ofF (i_sorted rfl hr.units rfl Z.b_sorted PyB.b_sorted (i_qF (i_lockF (i_lc (own := [("term", 7)]) rfl nd__law_atom (i_keys rfl (i_v 4)) (blkOk_by (N := N__law_atom) (sc := defScope st_10) (by decide +kernel)) (fun _ _ _ _ _ => (i_g 7 nd__law_atom)) (fun _ _ _ _ _ => i_ts0) (fun _ _ _ _ _ => (i_tup (i_cons (i_v 7) (i_cons (i_ix (o_ix rfl rfl hr.units) (i_v 4) (i_v 7)) i_nil)))) (by decide) (by decide))))))) (i_cons (i_v 6) i_nil))))))))))))))
theorem q11_1 (d : Nat) : runT T (d + 1) 11 = fun ws M => gcO M (Sw.body 7 (b11 (runT T d)) ws M) := rfl
theorem q11_2 : PS 11 = P__law_wish := rfl
theorem q11_3 : N__law_wish.length = 7 := rfl
theorem q11_4 : (PS 11).length = 4 := rfl
theorem ok11 {d : Nat} (Z : Fx K mg a fd) (IH : ∀ i, i < 15 → Good P w K mg base a fd d i) : Good P w K mg base a fd (d + 1) 11 := by
  refine FnG.like (i_defn 7 4 (b11 (runT T d)) Z.D11 sc__law_wish q11_3 rfl fun cdv A outer s H E gd hr => PSs.nox ?_) q11_2 (q11_1 d) q11_4
  unfold b11
  exact (i_scons (i_st 4 nd__law_wish (i_call (IH 7 (by decide)) gd hr rfl Z.g7 Z.D7.kp (bd7 Z.D7) pass0 (i_cons (i_v 0) (i_cons (i_v 1) (i_cons i_int i_nil))) rfl))
    (i_scons (i_sif (PW.pt (i_tor (i_tcmp (o_eq rfl hr.units) (i_v 2) i_int) (i_tor1 (i_tcmp (o_lt rfl hr.units) (i_v 4) i_int)))) (i_sone (i_ret (i_ix (o_ix rfl rfl hr.units) (i_v 3) (i_call (IH 7 (by decide)) gd hr rfl Z.g7 Z.D7.kp (bd7 Z.D7) pass0 (i_cons (i_v 0) (i_cons (i_op (o_add rfl) (i_v 1) i_int) (i_cons (i_c1 rfl (c_len rfl rfl) rfl Z.b_len PyB.b_len (i_v 3)) i_nil))) rfl)))) i_snil)
    (i_scons (i_sif (i_tcmp (o_eq rfl hr.units) (i_v 4) i_int) (i_sone (i_ret (i_tup (i_cons i_str (i_cons (i_call (IH 11 (by decide)) gd hr rfl Z.g11 Z.D11.kp (bd11 Z.D11) pass0 (i_cons (i_v 0) (i_cons (i_op (o_add rfl) (i_v 1) i_int) (i_cons (i_op (o_sub) (i_v 2) i_int) (i_cons (i_v 3) i_nil)))) rfl) i_nil))))) i_snil)
    (i_scons (i_stLc 5 (own := [("n", 6)]) rfl nd__law_wish (i_range1 rfl Z.b_range (i_call (IH 7 (by decide)) gd hr rfl Z.g7 Z.D7.kp (bd7 Z.D7) pass0 (i_cons (i_v 0) (i_cons (i_op (o_add rfl) (i_v 1) i_int) (i_cons i_int i_nil))) rfl)) (blkOk_by (N := N__law_wish) (sc := defScope st_11) (by decide +kernel)) (fun _ _ _ _ _ => (i_g 6 nd__law_wish)) (fun _ _ _ _ _ => i_ts0) (fun _ _ _ _ _ => (i_call (IH 11 (by decide)) gd hr rfl Z.g11 Z.D11.kp (bd11 Z.D11) pass0 (i_cons (i_v 0) (i_cons (i_op (o_add rfl) (i_op (o_add rfl) (i_v 1) i_int) (i_op (o_mul) i_int (i_v 6))) (i_cons (i_op (o_sub) (i_v 2) i_int) (i_cons (i_v 3) i_nil)))) rfl)) (by decide) (by decide) (sw_true rfl rfl rfl (by decide +kernel)))
    (i_sone (i_ret (i_tup (i_cons (i_ix (o_ix rfl rfl hr.units) (i_new (i_lstF (i_cons i_str (i_cons i_str i_nil)))) (i_op (o_mod) (i_v 4) i_int)) (i_cons (i_tuple rfl rfl Z.b_tuple (i_lOf (i_v 5))) i_nil)))))))))
theorem q12_1 (d : Nat) : runT T (d + 1) 12 = fun ws M => gcO M (Sw.body 5 (b12 (runT T d)) ws M) := rfl
theorem q12_2 : PS 12 = P__law_wishes := rfl
theorem q12_3 : N__law_wishes.length = 5 := rfl
theorem q12_4 : (PS 12).length = 2 := rfl
theorem ok12 {d : Nat} (Z : Fx K mg a fd) (IH : ∀ i, i < 15 → Good P w K mg base a fd d i) : Good P w K mg base a fd (d + 1) 12 := by
  refine FnG.like (i_defn 5 2 (b12 (runT T d)) Z.D12 sc__law_wishes q12_3 rfl fun cdv A outer s H E gd hr => PSs.nox ?_) q12_2 (q12_1 d) q12_4
  unfold b12
  exact (i_scons (i_st 2 nd__law_wishes (i_new (i_lc (own := [("n", 4)]) rfl nd__law_wishes (i_range1 rfl Z.b_range (i_op (o_add rfl) i_int (i_call (IH 7 (by decide)) gd hr rfl Z.g7 Z.D7.kp (bd7 Z.D7) pass0 (i_cons (i_v 0) (i_cons i_int (i_cons i_int i_nil))) rfl))) (blkOk_by (N := N__law_wishes) (sc := defScope st_12) (by decide +kernel)) (fun _ _ _ _ _ => (i_g 4 nd__law_wishes)) (fun _ _ _ _ _ => i_ts0) (fun _ _ _ _ _ => (i_call (IH 10 (by decide)) gd hr rfl Z.g10 Z.D10.kp (bd10 Z.D10) pass0 (i_cons (i_v 0) (i_cons (i_op (o_add rfl) (i_v 1) (i_op (o_mul) i_int (i_v 4))) i_nil)) rfl)) (by decide) (by decide))))
    (i_scons (i_st 3 nd__law_wishes (i_call (IH 7 (by decide)) gd hr rfl Z.g7 Z.D7.kp (bd7 Z.D7) pass0 (i_cons (i_v 0) (i_cons i_int (i_cons i_int i_nil))) rfl))
    (i_sone (i_ret (i_new (i_lc (own := [("n", 4)]) rfl nd__law_wishes (i_range1 rfl Z.b_range (i_v 3)) (blkOk_by (N := N__law_wishes) (sc := defScope st_12) (by decide +kernel)) (fun _ _ _ _ _ => (i_g 4 nd__law_wishes)) (fun _ _ _ _ _ => i_ts0) (fun _ _ _ _ _ => (i_call (IH 11 (by decide)) gd hr rfl Z.g11 Z.D11.kp (bd11 Z.D11) pass0 (i_cons (i_v 0) (i_cons (i_op (o_add rfl) (i_op (o_add rfl) (i_v 1) i_int) (i_op (o_mul) i_int (i_v 4))) (i_cons i_int (i_cons (i_v 2) i_nil)))) rfl)) (by decide) (by decide)))))))
theorem q13_1 (d : Nat) : runT T (d + 1) 13 = fun ws M => gcO M (Sw.body 5 (b13 (runT T d)) ws M) := rfl
theorem q13_2 : PS 13 = P__law_parts := rfl
theorem q13_3 : N__law_parts.length = 5 := rfl
theorem q13_4 : (PS 13).length = 1 := rfl
theorem ok13 {d : Nat} (Z : Fx K mg a fd) (IH : ∀ i, i < 15 → Good P w K mg base a fd d i) : Good P w K mg base a fd (d + 1) 13 := by
  refine FnG.like (i_defn 5 1 (b13 (runT T d)) Z.D13 sc__law_parts q13_3 rfl fun cdv A outer s H E gd hr => PSs.nox ?_) q13_2 (q13_1 d) q13_4
  unfold b13
  exact (i_scons (i_st 1 nd__law_parts (i_new (i_lstF i_nil)))
    (i_scons (i_st 2 nd__law_parts (i_tup i_nil))
    (i_scons (i_sif (i_tcmp (o_eq rfl hr.units) (i_ix (o_ix rfl rfl hr.units) (i_v 0) i_int) i_str) (i_sone (i_st 2 nd__law_parts (i_tup (i_cons (i_ix (o_ix rfl rfl hr.units) (i_v 0) i_int) i_nil)))) i_snil)
    (i_scons (i_sif (i_tcmp (o_in rfl rfl hr.units) (i_ix (o_ix rfl rfl hr.units) (i_v 0) i_int) (i_tup (i_cons i_str (i_cons i_str i_nil)))) (i_sone (i_st 2 nd__law_parts (i_ix (o_ix rfl rfl hr.units) (i_v 0) i_int))) i_snil)
    (i_scons (i_for PassesOwn.never rfl (i_seq rfl (i_v 2)) (i_g 3 nd__law_parts) (i_sone (i_for PassesOwn.never rfl (i_seq rfl (i_call (IH 13 (by decide)) gd hr rfl Z.g13 Z.D13.kp (bd13 Z.D13) pass0 (i_cons (i_v 3) i_nil) rfl)) (i_g 4 nd__law_parts) (i_sone (i_sif (i_tcmp (o_ni rfl rfl hr.units) (i_v 4) (i_v 1)) (i_sone (i_expr (i_append rfl rfl (i_v 1) (i_v 4)))) i_snil)))))
    (i_sone (i_ret (i_if (i_tcmp (o_in rfl rfl hr.units) (i_v 0) (i_v 1)) (i_v 1) (i_op (o_add rfl) (i_v 1) (i_new (i_lstF (i_cons (i_v 0) i_nil))))))))))))
theorem q14_1 (d : Nat) : runT T (d + 1) 14 = fun ws M => gcO M (Sw.body 10 (b14 (runT T d)) ws M) := rfl
theorem q14_2 : PS 14 = P_law := rfl
theorem q14_3 : N_law.length = 10 := rfl
theorem q14_4 : (PS 14).length = 1 := rfl
theorem ok14 {d : Nat} (Z : Fx K mg a fd) (IH : ∀ i, i < 15 → Good P w K mg base a fd d i) : Good P w K mg base a fd (d + 1) 14 := by
  refine FnG.like (i_defn 10 1 (b14 (runT T d)) Z.D14 sc_law q14_3 rfl fun cdv A outer s H E gd hr => PSs.nox ?_) q14_2 (q14_1 d) q14_4
  unfold b14
  exact (i_scons (i_st 1 nd_law (i_call (IH 12 (by decide)) gd hr rfl Z.g12 Z.D12.kp (bd12 Z.D12) pass0 (i_cons (i_v 0) (i_cons i_int i_nil)) rfl))
    (i_scons (i_stLc 2 (own := [("k", 6)]) rfl nd_law (i_range1 rfl Z.b_range (i_c1 rfl (c_len rfl rfl) rfl Z.b_len PyB.b_len (i_v 1))) (blkOk_by (N := N_law) (sc := defScope st_14) (by decide +kernel)) (fun _ _ _ _ _ => (i_g 6 nd_law)) (fun _ _ _ _ _ => i_ts0) (fun _ _ _ _ _ => (i_tup (i_cons i_str (i_cons (i_v 6) i_nil)))) (by decide) (by decide) (sw_true rfl rfl rfl (by decide +kernel)))
    (i_scons (i_st 3 nd_law (i_new (i_lstF i_nil)))
    (i_scons (i_for PassesOwn.never rfl (i_seq rfl (i_v 1)) (i_g 4 nd_law) (i_sone (i_for PassesOwn.never rfl (i_seq rfl (i_call (IH 13 (by decide)) gd hr rfl Z.g13 Z.D13.kp (bd13 Z.D13) pass0 (i_cons (i_v 4) i_nil) rfl)) (i_g 7 nd_law) (i_sone (i_sif (PW.pt (i_tand (i_tcmp (o_in rfl rfl hr.units) (i_ix (o_ix rfl rfl hr.units) (i_v 7) i_int) (i_tup (i_cons i_str (i_cons i_str i_nil)))) (i_tand1 (i_tcmp (o_ni rfl rfl hr.units) (i_v 7) (i_v 3))))) (i_scons (i_expr (i_append rfl rfl (i_v 3) (i_v 7)))
    (i_sone (i_st 2 nd_law (i_op (o_add rfl) (i_v 2) (i_new (i_lc (own := [("k", 6)]) rfl nd_law (i_range1 rfl Z.b_range (i_op (o_add rfl) (i_c1 rfl (c_len rfl rfl) rfl Z.b_len PyB.b_len (i_ix (o_ix rfl rfl hr.units) (i_v 7) i_int)) i_int)) (blkOk_by (N := N_law) (sc := defScope st_14) (by decide +kernel)) (fun _ _ _ _ _ => (i_g 6 nd_law)) (fun _ _ _ _ _ => i_ts0) (fun _ _ _ _ _ => (i_tup (i_cons i_str (i_cons (i_v 7) (i_cons (i_v 6) i_nil))))) (by decide) (by decide))))))) i_snil)))))
    (i_scons (i_st 5 nd_law (i_new (i_list rfl rfl Z.b_list (i_lOf (i_v 1)))))
    (i_scons (i_for PassesOwn.never rfl (i_range1 rfl Z.b_range i_int) (i_g 6 nd_law) (i_scons (i_st 8 nd_law (i_call (IH 6 (by decide)) gd hr rfl Z.g6 Z.D6.kp (bd6 Z.D6) pass0 (i_cons (i_v 5) i_nil) rfl))
    (i_scons (i_sif (PW.pt (i_tor (i_tnot (i_t (i_isA rfl rfl Z.b_isinstance rfl Z.b_list PyB.b_list kits_list (i_v 8)))) (i_tor (i_tcmp (o_ne rfl hr.units) (i_v 8) (i_v 2)) (i_tor1 (i_tcmp (o_ne rfl hr.units) (i_v 5) (i_v 1)))))) (i_sone (i_ret i_bl)) i_snil)
    (i_scons (i_for PassesOwn.never rfl (i_seq rfl (i_v 8)) (i_g 9 nd_law) (i_sone (i_sif (PW.pt (i_tor (i_tnot (i_t (i_isA rfl rfl Z.b_isinstance rfl Z.b_tuple PyB.b_tuple kits_tuple (i_v 9)))) (i_tor1 (i_t (i_isA rfl rfl Z.b_isinstance rfl Z.b_bool PyB.b_bool kits_bool (i_ix (o_ix rfl rfl hr.units) (i_v 9) (i_un u_neg i_int))))))) (i_sone (i_ret i_bl)) i_snil)))
    (i_sone (i_expr (i_append rfl rfl (i_v 8) i_non)))))))
    (i_sone (i_ret i_bl))))))))
theorem all_ok (Z : Fx K mg a fd) : ∀ (d i : Nat), i < 15 → Good P w K mg base a fd d i
  | 0, i, _ => fn_zero
  | d + 1, i, h => by
    have IH : ∀ i, i < 15 → Good P w K mg base a fd d i := all_ok Z d
    match i, h with
    | 0, _ => exact ok0 Z IH
    | 1, _ => exact ok1 Z IH
    | 2, _ => exact ok2 Z IH
    | 3, _ => exact ok3 Z IH
    | 4, _ => exact ok4 Z IH
    | 5, _ => exact ok5 Z IH
    | 6, _ => exact ok6 Z IH
    | 7, _ => exact ok7 Z IH
    | 8, _ => exact ok8 Z IH
    | 9, _ => exact ok9 Z IH
    | 10, _ => exact ok10 Z IH
    | 11, _ => exact ok11 Z IH
    | 12, _ => exact ok12 Z IH
    | 13, _ => exact ok13 Z IH
    | 14, _ => exact ok14 Z IH
    | n + 15, h => exact absurd h (by omega)
end
end Sw.smallword_k77_opening_steps

set_option autoImplicit false
set_option Elab.async false
set_option linter.all false
set_option maxRecDepth 100000
set_option maxHeartbeats 0
/-! The head. -/
namespace Sw.smallword_k77_opening_steps
open PySem PySem.Spec PyProof.Rows L2
def dd0 : He.DefD := ⟨("put_once", none), "put_once", "put_once", defArgs st_0, defBody st_0, defScope st_0, [], []⟩
def dd1 : He.DefD := ⟨("lit", none), "lit", "lit", defArgs st_1, defBody st_1, defScope st_1, [], []⟩
def dd2 : He.DefD := ⟨("row_of", none), "row_of", "row_of", defArgs st_2, defBody st_2, defScope st_2, [], []⟩
def dd3 : He.DefD := ⟨("openings", none), "openings", "openings", defArgs st_3, defBody st_3, defScope st_3, [], []⟩
def dd4 : He.DefD := ⟨("right_within", none), "right_within", "right_within", defArgs st_4, defBody st_4, defScope st_4, [], []⟩
def dd5 : He.DefD := ⟨("parts_of", none), "parts_of", "parts_of", defArgs st_5, defBody st_5, defScope st_5, [], []⟩
def dd6 : He.DefD := ⟨("opened", none), "opened", "opened", defArgs st_6, defBody st_6, defScope st_6, [], []⟩
def dd7 : He.DefD := ⟨("_law_draw", none), "_law_draw", "_law_draw", defArgs st_7, defBody st_7, defScope st_7, [], []⟩
def dd8 : He.DefD := ⟨("_law_term", none), "_law_term", "_law_term", defArgs st_8, defBody st_8, defScope st_8, [], []⟩
def dd9 : He.DefD := ⟨("_law_share", none), "_law_share", "_law_share", defArgs st_9, defBody st_9, defScope st_9, [], []⟩
def dd10 : He.DefD := ⟨("_law_atom", none), "_law_atom", "_law_atom", defArgs st_10, defBody st_10, defScope st_10, [], []⟩
def dd11 : He.DefD := ⟨("_law_wish", none), "_law_wish", "_law_wish", defArgs st_11, defBody st_11, defScope st_11, [], []⟩
def dd12 : He.DefD := ⟨("_law_wishes", none), "_law_wishes", "_law_wishes", defArgs st_12, defBody st_12, defScope st_12, [], []⟩
def dd13 : He.DefD := ⟨("_law_parts", none), "_law_parts", "_law_parts", defArgs st_13, defBody st_13, defScope st_13, [], []⟩
def dd14 : He.DefD := ⟨("law", none), "law", "law", defArgs st_14, defBody st_14, defScope st_14, [], []⟩
def fn : List He.DefD := [dd0, dd1, dd2, dd3, dd4, dd5, dd6, dd7, dd8, dd9, dd10, dd11, dd12, dd13, dd14]
def fa : List He.Fa := [.glo "put_once", .glo "lit", .glo "row_of", .glo "openings", .glo "right_within", .glo "parts_of", .glo "opened", .glo "_law_draw", .glo "_law_term", .glo "_law_share", .glo "_law_atom", .glo "_law_wish", .glo "_law_wishes", .glo "_law_parts", .glo "law", .free "bool", .free "isinstance", .free "len", .free "list", .free "range", .free "repr", .free "sorted", .free "tuple"]
abbrev R : PySem.W.OpenRow := PySem.W.OpenLaw.row PySem.Challenge.rw_smallword_k77_opening_steps
abbrev hk : PySem.W.Hook := He.hookD 4 fa fn
def ob (s : PySem.W.SharedT) : He.AlD := He.obsDG 4 fa fn (HandSHeadRun.getT s)
theorem ob_eq (s : PySem.W.SharedT) : ob s = hk.obs s.abs := He.obsDG_eq (HandSHeadRun.getT_eq s)
abbrev loose : List Str := ["put_once", "lit", "row_of", "openings", "right_within", "parts_of", "opened", "_law_draw", "_law_term", "_law_share", "_law_atom", "_law_wish", "_law_wishes", "_law_parts"]
theorem run (w : PySem.World) : HandSHeadRun.RunEq R (PySem.W.view R.prog [19]) hk ob 700 loose w := by
  intro os
  kernel_rfl
def nm (i : Nat) : Str := (["put_once", "lit", "row_of", "openings", "right_within", "parts_of", "opened", "_law_draw", "_law_term", "_law_share", "_law_atom", "_law_wish", "_law_wishes", "_law_parts", "law"] : List Str).getD i ""
theorem facts {K : PySem.W.Frag} {h : Heap} {mg : Str → Option Value} (X : K.In h) (G : h.Ns mainGlobals mg) (c : He.SaysD fa fn K) : ∃ fd : Nat → FuncData, Fx K mg (fun i => He.ga K (nm i)) fd := by
  obtain ⟨fd0, F0⟩ := c.def_ 0 (d := dd0) rfl
  obtain ⟨fd1, F1⟩ := c.def_ 1 (d := dd1) rfl
  obtain ⟨fd2, F2⟩ := c.def_ 2 (d := dd2) rfl
  obtain ⟨fd3, F3⟩ := c.def_ 3 (d := dd3) rfl
  obtain ⟨fd4, F4⟩ := c.def_ 4 (d := dd4) rfl
  obtain ⟨fd5, F5⟩ := c.def_ 5 (d := dd5) rfl
  obtain ⟨fd6, F6⟩ := c.def_ 6 (d := dd6) rfl
  obtain ⟨fd7, F7⟩ := c.def_ 7 (d := dd7) rfl
  obtain ⟨fd8, F8⟩ := c.def_ 8 (d := dd8) rfl
  obtain ⟨fd9, F9⟩ := c.def_ 9 (d := dd9) rfl
  obtain ⟨fd10, F10⟩ := c.def_ 10 (d := dd10) rfl
  obtain ⟨fd11, F11⟩ := c.def_ 11 (d := dd11) rfl
  obtain ⟨fd12, F12⟩ := c.def_ 12 (d := dd12) rfl
  obtain ⟨fd13, F13⟩ := c.def_ 13 (d := dd13) rfl
  obtain ⟨fd14, F14⟩ := c.def_ 14 (d := dd14) rfl
  refine ⟨fun i => ([fd0, fd1, fd2, fd3, fd4, fd5, fd6, fd7, fd8, fd9, fd10, fd11, fd12, fd13, fd14] : List FuncData).getD i fd0, ?_⟩
  exact ⟨F0, He.glo_ok X G (c.fact 0 (f := .glo "put_once") rfl), F1, He.glo_ok X G (c.fact 1 (f := .glo "lit") rfl), F2, He.glo_ok X G (c.fact 2 (f := .glo "row_of") rfl), F3, He.glo_ok X G (c.fact 3 (f := .glo "openings") rfl), F4, He.glo_ok X G (c.fact 4 (f := .glo "right_within") rfl), F5, He.glo_ok X G (c.fact 5 (f := .glo "parts_of") rfl), F6, He.glo_ok X G (c.fact 6 (f := .glo "opened") rfl), F7, He.glo_ok X G (c.fact 7 (f := .glo "_law_draw") rfl), F8, He.glo_ok X G (c.fact 8 (f := .glo "_law_term") rfl), F9, He.glo_ok X G (c.fact 9 (f := .glo "_law_share") rfl), F10, He.glo_ok X G (c.fact 10 (f := .glo "_law_atom") rfl), F11, He.glo_ok X G (c.fact 11 (f := .glo "_law_wish") rfl), F12, He.glo_ok X G (c.fact 12 (f := .glo "_law_wishes") rfl), F13, He.glo_ok X G (c.fact 13 (f := .glo "_law_parts") rfl), F14, He.glo_ok X G (c.fact 14 (f := .glo "law") rfl), He.free_ok X G (c.fact 15 (f := .free "bool") rfl), He.free_ok X G (c.fact 16 (f := .free "isinstance") rfl), He.free_ok X G (c.fact 17 (f := .free "len") rfl), He.free_ok X G (c.fact 18 (f := .free "list") rfl), He.free_ok X G (c.fact 19 (f := .free "range") rfl), He.free_ok X G (c.fact 20 (f := .free "repr") rfl), He.free_ok X G (c.fact 21 (f := .free "sorted") rfl), He.free_ok X G (c.fact 22 (f := .free "tuple") rfl)⟩
end Sw.smallword_k77_opening_steps

set_option autoImplicit false
set_option Elab.async false
set_option linter.all false
set_option maxRecDepth 100000
set_option maxHeartbeats 0
open PySem PySem.W PySem.Calls PyProof.Rows
theorem PySem.Challenge.cw_smallword_k77_opening_steps_holds : PySem.Challenge.rw_smallword_k77_opening_steps.Holds := by
  w_on; o_law
  refine HandSHeadRun.head_any (r := OpenLaw.row PySem.Challenge.rw_smallword_k77_opening_steps) (q := view (OpenLaw.row PySem.Challenge.rw_smallword_k77_opening_steps).prog [19]) (H := Sw.smallword_k77_opening_steps.hk) (ob := Sw.smallword_k77_opening_steps.ob) (M := 700) (loose := Sw.smallword_k77_opening_steps.loose) (d := HandSHeadRun.topDef (OpenLaw.row PySem.Challenge.rw_smallword_k77_opening_steps).prog 19) (kwd := []) Sw.smallword_k77_opening_steps.ob_eq
    (by kernel_rfl) (fun s => by kernel_rfl) Sw.smallword_k77_opening_steps.run (by kernel_rfl) (by kernel_rfl) (by kernel_rfl) (by rfl) (by first | assumption | decide +kernel) (by decide +kernel) ⟨rfl, rfl, rfl, rfl, rfl, by decide +kernel⟩ ?hw ?hc
  case hw => w_witness2
  case hc =>
    refine Sw.walkG (l := PySem.Challenge.rw_smallword_k77_opening_steps) (n := 63) (k := 40) (x := "script") (CX := L2.CX0) rfl (by decide) (by kernel_rfl) ⟨rfl, by decide, by decide⟩ ?F (fun _ _ _ _ z => z)
    intro w mg fa h Y G hmg0
    obtain ⟨K, KX, c⟩ := Y
    have hmg : mg ("law" : PySem.Str) = some (.ref fa) := by
      have e : (HandSHeadRun.topDef (OpenLaw.row PySem.Challenge.rw_smallword_k77_opening_steps).prog 19).name = ("law" : PySem.Str) := by kernel_rfl
      rw [← e]
      exact hmg0
    obtain ⟨fd, Z⟩ := Sw.smallword_k77_opening_steps.facts KX G c
    have e := hmg.symm.trans Z.g14
    cases e
    have b := L2.FunD.bindsA (ps := ["script"]) Z.D14 fun _ _ _ _ _ _ us hl => match us, hl with | [_], _ => rfl
    refine ⟨K, fd 14, Sw.spF ⟨K, w, fun _ => 0⟩ (Sw.runT Sw.smallword_k77_opening_steps.T 40 14) 1, KX, fun s v => b s [v] rfl, fun H a ns hl hb hO hS => ?_, fun base kb nb => Sw.smallword_k77_opening_steps.all_ok Z 40 14 (by decide)⟩
    obtain ⟨M', e⟩ := Sw.smallword_k77_opening_steps.law_true ns hl hb
    refine ⟨rfl, [], [], [.scr ns], ⟨rfl, fun i a o h1 h2 => ?_, List.nodup_nil⟩, ⟨_, _, rfl, ⟨a, rfl, hl, hS⟩, rfl⟩, ?_⟩
    · simp at h1
    · rw [e]
      exact fun v H' r' x m q => q
