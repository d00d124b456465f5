import PyProof.Rows.All
import Wide.All
import OpenK.AllK
import Wide.FinOn
import HandS.ForMost
import HandS.Deep
import HandS.TupAny
import HandS.Wide
import HandS.Exc
import KE.KDictKeyed
import KE.DataEq
import HandS.SortOrd
import HandS.Ends
import HandS.HeadEnd
import HandS.Defaults
import HandS.Codes
import HandS.EndBits
import HandS.IsInst
import HandS.Conv
import KE.SortData
import KE.LtData
import PyProof.ReprRoads
import HandS.Iter
import HandS.Words
import HandS.Text
import HandS.TryOnly
import HandS.ExcOwn
import HandS.ExcIs
import KE.KStateDown
import HandS.Head0
import HandS.Head1
import HandS.Head2
import HandS.HeadHook1
import HandS.HeadHook2
import HandS.More
import HandS.ExcInit
import HandS.ClsMeth
import HandS.ExcField
import HandS.DictEq
import KE.KEqNest
import PyProof.NeKinds
import Lean
import KE.KIntText
import KE.IntTextLaws
import PySem.Challenge.RW_smallword_k85_lines_refused
set_option autoImplicit false
/-! The pure side: values, a store, results, the words of which the defs' bodies are made. -/
namespace Sw
/-- a text is its codes -/
abbrev Tx := List Nat
/-- a value: data, or a place in the store -/
inductive W where
  | non | bl (b : Bool) | int (i : Int) | str (s : Tx) | tup (ws : List W) | ref (n : Nat)
  /-- the script: a list that is read, never written -/
  | scr (ns : List Int)
  deriving Inhabited

mutual
def W.beq : W → W → Bool
  | .non, .non => true
  | .bl a, .bl b => a == b
  | .int a, .int b => a == b
  | .str a, .str b => a == b
  | .tup a, .tup b => W.beqs a b
  | .ref a, .ref b => a == b
  | .scr a, .scr b => a == b
  | _, _ => false
def W.beqs : List W → List W → Bool
  | [], [] => true
  | a :: as, b :: bs => W.beq a b && W.beqs as bs
  | _, _ => false
end
mutual
theorem W.beq_rfl : ∀ a : W, W.beq a a = true
  | .non => rfl
  | .bl a => by simp [W.beq]
  | .int a => by simp [W.beq]
  | .str a => by simp [W.beq]
  | .tup a => by rw [W.beq]; exact W.beqs_rfl a
  | .ref a => by simp [W.beq]
  | .scr a => by simp [W.beq]
theorem W.beqs_rfl : ∀ a : List W, W.beqs a a = true
  | [] => rfl
  | a :: as => by rw [W.beqs, W.beq_rfl a, W.beqs_rfl as]; rfl
end
mutual
theorem W.of_beq : ∀ a b : W, W.beq a b = true → a = b
  | .non, b, h => by cases b <;> simp_all [W.beq]
  | .bl a, b, h => by cases b <;> simp_all [W.beq]
  | .int a, b, h => by cases b <;> simp_all [W.beq]
  | .str a, b, h => by cases b <;> simp_all [W.beq]
  | .tup a, b, h => by
    cases b with
    | tup b => rw [W.beq] at h; rw [W.of_beqs a b h]
    | _ => simp [W.beq] at h
  | .ref a, b, h => by cases b <;> simp_all [W.beq]
  | .scr a, b, h => by cases b <;> simp_all [W.beq]
theorem W.of_beqs : ∀ a b : List W, W.beqs a b = true → a = b
  | [], b, h => by cases b <;> simp_all [W.beqs]
  | a :: as, b, h => by
    cases b with
    | nil => simp [W.beqs] at h
    | cons b bs =>
      rw [W.beqs, Bool.and_eq_true] at h
      rw [W.of_beq a b h.1, W.of_beqs as bs h.2]
end
instance : DecidableEq W := fun a b => if h : W.beq a b = true then .isTrue (W.of_beq a b h) else .isFalse fun e => h (e ▸ W.beq_rfl a)

/-- what stands in the store -/
inductive O where
  | lst (ws : List W)
  | dic (kvs : List (W × W))
  /-- a dict that is walked just now -/
  | dlk (kvs : List (W × W))
  | ins (c : Nat) (fs : List (Tx × W))
  /-- an exception that was caught: its class, what it was made with -/
  | exc (c : Nat) (w : W)
  deriving DecidableEq
abbrev Mem := List O
/-- an exception: its class, what it was made with -/
structure Xn where
  cls : Nat
  arg : W
abbrev Out (α : Type) := Option (Except Xn α × Mem)
abbrev Sl := List (Option W)
def ok {α : Type} (a : α) (M : Mem) : Out α := some (.ok a, M)
def bnd {α β : Type} (m : Out α) (f : α → Mem → Out β) : Out β := match m with
  | none => none
  | some (.error x, M) => some (.error x, M)
  | some (.ok a, M) => f a M
theorem bnd_ok {α β : Type} (a : α) (M : Mem) (f : α → Mem → Out β) : bnd (ok a M) f = f a M := rfl
theorem bnd_some {α β : Type} (a : α) (M : Mem) (f : α → Mem → Out β) : bnd (some (.ok a, M)) f = f a M := rfl
theorem bnd_none {α β : Type} (f : α → Mem → Out β) : bnd (none : Out α) f = none := rfl
theorem bnd_err {α β : Type} (x : Xn) (M : Mem) (f : α → Mem → Out β) : bnd (some (.error x, M) : Out α) f = some (.error x, M) := rfl
abbrev EM := Sl → Mem → Out W
abbrev LM := Sl → Mem → Out (List W)
inductive Fl where
  | nx (s : Sl) | rt (w : W)
abbrev SM := Sl → Mem → Out Fl

/-! ### data -/
mutual
def isD : W → Bool
  | .tup ws => isDs ws
  | .ref _ => false
  | .scr _ => false
  | _ => true
def isDs : List W → Bool
  | [] => true
  | w :: ws => isD w && isDs ws
end
/-! data without truths: what may be a key -/
mutual
def isK : W → Bool
  | .tup ws => isKs ws
  | .ref _ => false
  | .bl _ => false
  | .non => false
  | .scr _ => false
  | _ => true
def isKs : List W → Bool
  | [] => true
  | w :: ws => isK w && isKs ws
end
mutual
def dep : W → Nat
  | .tup ws => deps ws + 1
  | _ => 0
def deps : List W → Nat
  | [] => 0
  | w :: ws => max (dep w) (deps ws)
end
/-! Python's == takes True for 1 -/
mutual
def nrm : W → W
  | .bl b => .int (if b then 1 else 0)
  | .tup ws => .tup (nrms ws)
  | w => w
def nrms : List W → List W
  | [] => []
  | w :: ws => nrm w :: nrms ws
end
def eqD (a b : W) : Bool := decide (nrm a = nrm b)
/-! the refs in a value -/
mutual
def refsW : W → List Nat
  | .tup ws => refsWs ws
  | .ref n => [n]
  | _ => []
def refsWs : List W → List Nat
  | [] => []
  | w :: ws => refsW w ++ refsWs ws
end
/-- a dict that may be asked -/
def dicO : Option O → Option (List (W × W))
  | some (.dic kvs) => some kvs
  | some (.dlk kvs) => some kvs
  | _ => none
def refsO : O → List Nat
  | .lst ws => refsWs ws
  | .dic kvs => refsWs (kvs.map (·.2))
  | .dlk kvs => refsWs (kvs.map (·.2))
  | .ins _ fs => refsWs (fs.map (·.2))
  | .exc _ w => refsW w

def many (n : Nat) : Bool := decide (n ≤ 1000000)
/-! ### == -/
/-- a value with the lists that it holds written out: a list is a tuple with a mark ahead -/
def flats (f : W → Option W) : List W → Option (List W)
  | [] => some []
  | w :: ws => (match f w, flats f ws with
    | some a, some b => some (a :: b)
    | _, _ => none)
def flatF : Nat → Mem → W → Option W
  | 0, _, w => if isD w then some w else none
  | n + 1, M, w => if isD w then some w else match w with
    | .tup ws => (flats (flatF n M) ws).map .tup
    | .ref i => (match M[i]? with
      | some (.lst ws) => (flats (flatF n M) ws).map fun r => .tup (.scr [] :: r)
      | _ => none)
    | _ => none
def eqW (M : Mem) (a b : W) : Option Bool := match flatF 4 M a, flatF 4 M b with
  | some x, some y => if dep x ≤ 60 ∧ dep y ≤ 60 then some (eqD x y) else none
  | _, _ => none

/-! ### < -/
mutual
def ltD : W → W → Option Bool
  | .int a, .int b => some (decide (a < b))
  | .bl a, .bl b => some (!a && b)
  | .str a, .str b => some (decide (a < b))
  | .tup xs, .tup ys => ltDs xs ys
  | _, _ => none
def ltDs : List W → List W → Option Bool
  | [], ys => some (!ys.isEmpty)
  | _ :: _, [] => some false
  | x :: xs, y :: ys => if x = y then ltDs xs ys else if eqD x y then none else ltD x y
end
/-- sorts of values, as sorting asks -/
def topK : W → Nat
  | .int _ => 1
  | .str _ => 2
  | .tup _ => 3
  | _ => 0
def firstK : W → Nat
  | .tup (x :: _) => topK x
  | _ => 0
def allK (f : W → Nat) (k : Nat) (ws : List W) : Bool := ws.all fun w => f w == k
def homog (ws : List W) : Bool := allK topK 1 ws || allK topK 2 ws || (allK firstK 1 ws || allK firstK 2 ws || allK firstK 3 ws)
/-- any two can be told apart by < -/
def cmp2 (a b : W) : Bool := match ltD a b, ltD b a with
  | some x, some y => if a = b then true else x != y
  | _, _ => false
def cmpAll (ws : List W) : Bool := ws.all fun a => isD a && decide (dep a ≤ 58) && ws.all fun b => cmp2 a b
def lt1 (a b : W) : Bool := ltD a b == some true
def ins1 (a : W) : List W → List W
  | [] => [a]
  | b :: bs => if lt1 b a then b :: ins1 a bs else a :: b :: bs
def srt (ws : List W) : List W := ws.foldr ins1 []
def sortW (ws : List W) : Option (List W) := if homog ws && cmpAll ws && many ws.length then some (srt ws) else none

/-! ### dicts -/
def dget : List (W × W) → W → Option W
  | [], _ => none
  | (k', v) :: r, k => if k' = k then some v else dget r k
def dput (kvs : List (W × W)) (k v : W) : List (W × W) := match kvs with
  | [] => [(k, v)]
  | (k', v') :: r => if k' = k then (k', v) :: r else (k', v') :: dput r k v

def isT : W → Bool
  | .tup _ => true
  | _ => false
/-- keys of a dict are of one sort: tuples, or intsOf and texts -/
def okKey (kvs : List (W × W)) (k : W) : Bool := isK k && decide (dep k ≤ 8) && (match kvs with
  | [] => true
  | p :: _ => isT p.1 == isT k)

/-! ### sizes -/
def szLine : Nat := 16777216

/-! ### garbage -/
def okBase (n : Nat) (M B : Mem) : Bool := (B.zip M).all fun p => decide (p.1 = p.2) || (refsO p.1).all fun r => decide (r < n)
def dd (l : List Nat) : List Nat := l.foldr (fun a r => if a ∈ r then r else a :: r) []
mutual
def ren (n : Nat) (fs : List Nat) : W → W
  | .ref j => if j < n then .ref j else .ref (n + fs.idxOf j)
  | .tup ws => .tup (rens n fs ws)
  | w => w
def rens (n : Nat) (fs : List Nat) : List W → List W
  | [] => []
  | w :: ws => ren n fs w :: rens n fs ws
end
def gcF (n : Nat) (w : W) : List Nat := (dd (refsW w)).filter fun j => decide (n ≤ j)
def getAll (M : Mem) (fs : List Nat) : Option Mem := fs.mapM fun j => M[j]?
/-- what a call leaves: what nobody can reach any more is left out -/
def gc (M : Mem) (w : W) (M' : Mem) : W × Mem :=
  let n := M.length
  let B := M'.take n
  match getAll M' (gcF n w) with
  | some G => if n ≤ M'.length ∧ okBase n M B = true ∧ (G.all fun o => (refsO o).all fun r => decide (r < n)) = true then (ren n (gcF n w) w, B ++ G) else (w, M')
  | none => (w, M')
def gcO (M : Mem) (r : Out W) : Out W := match r with
  | none => none
  | some (.ok w, M') => some (.ok (gc M w M').1, (gc M w M').2)
  | some (.error x, M') => some (.error ⟨x.cls, (gc M x.arg M').1⟩, (gc M x.arg M').2)

/-! ### expressions -/
def eV (i : Nat) : EM := fun s M => match s[i]? with
  | some (some w) => ok w M
  | _ => none
def eC (w : W) : EM := fun _ M => ok w M
def eAs : List EM → LM
  | [] => fun _ M => ok [] M
  | m :: ms => fun s M => bnd (m s M) fun w M => bnd (eAs ms s M) fun ws M => ok (w :: ws) M
def alloc (o : O) (M : Mem) : Out W := ok (.ref M.length) (M ++ [o])
def eTup (ms : List EM) : EM := fun s M => bnd (eAs ms s M) fun ws M => ok (.tup ws) M
/-- a new list -/
def eNew (l : LM) : EM := fun s M => bnd (l s M) fun ws M => alloc (.lst ws) M
def eDic : EM := fun _ M => alloc (.dic []) M
/-- the items of a list, a tuple -/
def items (w : W) (M : Mem) : Option (List W) := match w with
  | .tup ws => some ws
  | .ref i => (match M[i]? with
    | some (.lst ws) => some ws
    | _ => none)
  | .scr ns => some (ns.map .int)
  | _ => none
def lOf (m : EM) : LM := fun s M => bnd (m s M) fun w M => match items w M with
  | some ws => ok ws M
  | none => none
abbrev Op2 := W → W → Mem → Out W
def eOp (f : Op2) (a b : EM) : EM := fun s M => bnd (a s M) fun x M => bnd (b s M) fun y M => f x y M
abbrev Op1 := W → Mem → Out W
def eUn (f : Op1) (a : EM) : EM := fun s M => bnd (a s M) fun x M => f x M
def catL (xs ys : List W) (M : Mem) : Out W := if many (xs.length + ys.length) then alloc (.lst (xs ++ ys)) M else none
def oAdd : Op2 := fun x y M => match x, y with
  | .int a, .int b => ok (.int (a + b)) M
  | .str a, .str b => if many (a.length + b.length) then ok (.str (a ++ b)) M else none
  | .tup a, .tup b => if many (a.length + b.length) then ok (.tup (a ++ b)) M else none
  | .ref i, .ref j => (match M[i]?, M[j]? with
    | some (.lst xs), some (.lst ys) => catL xs ys M
    | _, _ => none)
  | _, _ => none
def oSub : Op2 := fun x y M => match x, y with
  | .int a, .int b => ok (.int (a - b)) M
  | _, _ => none
def oMul : Op2 := fun x y M => match x, y with
  | .int a, .int b => if a.natAbs.log2 + b.natAbs.log2 < 1000000 then ok (.int (a * b)) M else none
  | _, _ => none
def oDiv : Op2 := fun x y M => match x, y with
  | .int a, .int b => if 0 < b ∧ b.natAbs.log2 < 9000 then ok (.int (a / b)) M else none
  | _, _ => none
def oMod : Op2 := fun x y M => match x, y with
  | .int a, .int b => if 0 < b then ok (.int (a % b)) M else none
  | _, _ => none
def oShr : Op2 := fun x y M => match x, y with
  | .int a, .int b => if 0 ≤ b then ok (.int (a / 2 ^ b.toNat)) M else none
  | _, _ => none
def oShl : Op2 := fun x y M => match x, y with
  | .int a, .int b => if 0 ≤ b ∧ b ≤ 1000 ∧ a.natAbs < 2 ^ 64 then ok (.int (a * 2 ^ b.toNat)) M else none
  | _, _ => none
def uNeg : Op1 := fun x M => match x with
  | .int a => ok (.int (-a)) M
  | _ => none
def eqOut (M : Mem) (r : Option Bool) : Out W := match r with
  | some b => ok (.bl b) M
  | none => none
def oEq : Op2 := fun x y M => eqOut M (eqW M x y)
def oNe : Op2 := fun x y M => eqOut M ((eqW M x y).map (!·))
def oLt : Op2 := fun x y M => eqOut M (if isD x && isD y && decide (dep x ≤ 60) && decide (dep y ≤ 60) then ltD x y else none)
def oGt : Op2 := fun x y M => match x, y with
  | .int a, .int b => ok (.bl (decide (b < a))) M
  | _, _ => none
def oLe : Op2 := fun x y M => match x, y with
  | .int a, .int b => ok (.bl (decide (a ≤ b))) M
  | _, _ => none
def oGe : Op2 := fun x y M => match x, y with
  | .int a, .int b => ok (.bl (decide (b ≤ a))) M
  | _, _ => none
/-- x in y: data in a list or tuple of data, a key in a dict -/
def inW (x y : W) (M : Mem) : Option Bool := match y with
  | .tup ws => if isD x && isDs ws && decide (dep x ≤ 60) && decide (deps ws ≤ 59) then some (ws.any fun z => eqD z x) else none
  | .ref i => (match M[i]? with
    | some (.lst ws) => if isD x && isDs ws && decide (dep x ≤ 60) && decide (deps ws ≤ 59) then some (ws.any fun z => eqD z x) else none
    | o => (match dicO o with
      | some kvs => if okKey kvs x then some (dget kvs x).isSome else none
      | none => none))
  | .str z => (match x with
    | .str [c] => some (decide (c ∈ z))
    | _ => none)
  | _ => none
def oIn : Op2 := fun x y M => eqOut M (inW x y M)
def oNi : Op2 := fun x y M => eqOut M ((inW x y M).map (!·))
def uIsN : Op1 := fun x M => ok (.bl (decide (x = .non))) M
def uNoN : Op1 := fun x M => ok (.bl (!decide (x = .non))) M
def uNot : Op1 := fun x M => match x with
  | .bl b => ok (.bl (!b)) M
  | _ => none
def eAnd (a b : EM) : EM := fun s M => bnd (a s M) fun x M => match x with
  | .bl true => b s M
  | .bl false => ok (.bl false) M
  | _ => none
def eOr (a b : EM) : EM := fun s M => bnd (a s M) fun x M => match x with
  | .bl true => ok (.bl true) M
  | .bl false => b s M
  | _ => none
def eIf (t a b : EM) : EM := fun s M => bnd (t s M) fun x M => match x with
  | .bl true => a s M
  | .bl false => b s M
  | _ => none
/-- an index as Python takes it -/
def ixW (n : Nat) (i : Int) : Option Nat := if 0 ≤ i then (if i < n then some i.toNat else none) else if 0 ≤ i + n then some (i + n).toNat else none
def atW (ws : List W) (i : Int) (M : Mem) : Out W := match (ixW ws.length i).bind (ws[·]?) with
  | some w => ok w M
  | none => none
def oIx : Op2 := fun x y M => match y with
  | .int i => (match x with
    | .str z => if many z.length then (match (ixW z.length i).bind (z[·]?) with
      | some c => ok (.str [c]) M
      | none => none) else none
    | .ref j => (match dicO M[j]? with
      | some kvs => if okKey kvs y then (match dget kvs y with
        | some w => ok w M
        | none => none) else none
      | none => (match items x M with
        | some ws => atW ws i M
        | none => none))
    | _ => (match items x M with
      | some ws => atW ws i M
      | none => none))
  | _ => (match x with
    | .ref j => (match dicO M[j]? with
      | some kvs => if okKey kvs y then (match dget kvs y with
        | some w => ok w M
        | none => none) else none
      | none => none)
    | _ => none)
/-- the slice from lo to hi -/
def clampW (n : Nat) (i : Int) : Nat := if 0 ≤ i then min i.toNat n else (i + n).toNat
def cutL {α : Type} (xs : List α) (lo hi : Option Int) : List α :=
  let a := match lo with
    | none => 0
    | some i => clampW xs.length i
  let b := match hi with
    | none => xs.length
    | some i => clampW xs.length i
  (xs.take b).drop a
/-- repr, str.join and what else the model reckons: told by the rules -/
def eCall (orc : Nat → List W → Mem → Out W) (f : Nat) (ms : List EM) : EM := fun s M => bnd (eAs ms s M) fun ws M => orc f ws M

/-! ### builtins over sequences -/
def eTuple (l : LM) : EM := fun s M => bnd (l s M) fun ws M => ok (.tup ws) M
def lSorted (l : LM) : LM := fun s M => bnd (l s M) fun ws M => match sortW ws with
  | some r => ok r M
  | none => none
def lSame (l : LM) : LM := l
def bools : List W → Option (List Bool)
  | [] => some []
  | .bl b :: ws => (bools ws).map (b :: ·)
  | _ => none
def intsOf : List W → Option (List Int)
  | [] => some []
  | .int b :: ws => (intsOf ws).map (b :: ·)
  | _ => none
def eAll (l : LM) : EM := fun s M => bnd (l s M) fun ws M => match bools ws with
  | some bs => ok (.bl (bs.all id)) M
  | none => none
def eAny (l : LM) : EM := fun s M => bnd (l s M) fun ws M => match bools ws with
  | some bs => ok (.bl (bs.any id)) M
  | none => none
def eSum (l : LM) : EM := fun s M => bnd (l s M) fun ws M => match intsOf ws with
  | some bs => ok (.int bs.sum) M
  | none => none
/-- len of a text, a tuple, a list, a dict -/
def lenW (x : W) (M : Mem) : Option Nat := match x with
  | .str z => if many z.length then some z.length else none
  | .ref i => (match dicO M[i]? with
    | some kvs => some kvs.length
    | none => (items x M).map (·.length))
  | _ => (items x M).map (·.length)
def uLen : Op1 := fun x M => match lenW x M with
  | some n => ok (.int n) M
  | none => none

/-! ### what is walked: the items; the list or dict that has to stand still -/
abbrev Wd := List W × Option (Nat × O)
abbrev IM := Sl → Mem → Out Wd
def still (g : Option (Nat × O)) (M : Mem) : Bool := match g with
  | none => true
  | some (i, o) => decide (M[i]? = some o)
def iSeq (m : EM) : IM := fun s M => bnd (m s M) fun w M => match w with
  | .tup ws => ok (ws, none) M
  | .str z => ok (z.map fun c => .str [c], none) M
  | .scr ns => ok (ns.map .int, none) M
  | .ref i => (match M[i]? with
    | some (.lst ws) => ok (ws, some (i, .lst ws)) M
    | _ => none)
  | _ => none
def iNew (l : LM) : IM := fun s M => bnd (l s M) fun ws M => ok (ws, none) M
def rangeW (lo : Int) (n : Nat) : List W := (List.range n).map fun (i : Nat) => .int (lo + (i : Int))
def iRange (lo hi : EM) : IM := fun s M => bnd (lo s M) fun a M => bnd (hi s M) fun b M => match a, b with
  | .int a, .int b => if -1000000 ≤ a ∧ a ≤ 1000000 ∧ -1000000 ≤ b ∧ b ≤ 1000000 then ok (rangeW a (b - a).toNat, none) M else none
  | _, _ => none
def iEnum (m : EM) : IM := fun s M => bnd (iSeq m s M) fun p M => ok (p.1.mapIdx fun i w => .tup [.int i, w], p.2) M
inductive Pat where
  | one (i : Nat)
  | some_ (is : List Nat)
def setS (s : Sl) (i : Nat) (w : W) : Sl := s.set i (some w)
def setMany : List Nat → List W → Sl → Option Sl
  | [], [], s => some s
  | i :: is, w :: ws, s => setMany is ws (setS s i w)
  | _, _, _ => none
def bindP (p : Pat) (w : W) (s : Sl) : Option Sl := match p with
  | .one i => some (setS s i w)
  | .some_ is => (match w with
    | .tup ws => setMany is ws s
    | _ => none)

/-- the keys of a locked dict -/
def iKeysD (m : EM) : IM := fun s M => bnd (m s M) fun w M => match w with
  | .ref j => (match M[j]? with
    | some (.dlk kvs) => ok (kvs.map (·.1), some (j, .dlk kvs)) M
    | _ => none)
  | _ => none
/-- the dict that is locked -/
def lockAt (md : EM) (s : Sl) (M : Mem) : Option (Nat × List (W × W)) := match md s M with
  | some (.ok (.ref j), M') => if M' = M then (match M[j]? with
    | some (.dic kvs) => some (j, kvs)
    | _ => none) else none
  | _ => none
def lLock {α : Type} (md : EM) (b : Sl → Mem → Out α) : Sl → Mem → Out α := fun s M => match lockAt md s M with
  | some (j, kvs) => (match b s (M.set j (.dlk kvs)) with
    | some (.ok a, M') => if M'[j]? = some (.dlk kvs) then some (.ok a, M'.set j (.dic kvs)) else none
    | _ => none)
  | none => b s M
/-! ### comprehensions -/
/-- what is raised in a comprehension is no way -/
def noX {α : Type} (o : Out α) : Out α := match o with
  | some (.ok a, M) => some (.ok a, M)
  | _ => none
def lcL (g : Option (Nat × O)) (p : Pat) (c e : EM) (s : Sl) : List W → List W → Mem → Out (List W)
  | [], acc, M => if still g M && many acc.length then ok acc M else none
  | w :: ws, acc, M => if still g M && many acc.length then (match bindP p w s with
    | none => none
    | some s' => bnd (noX (c s' M)) fun b M => match b with
      | .bl true => bnd (noX (e s' M)) fun y M => lcL g p c e s ws (acc ++ [y]) M
      | .bl false => lcL g p c e s ws acc M
      | _ => none) else none
def lComp (it : IM) (p : Pat) (c e : EM) : LM := fun s M => bnd (it s M) fun q M => lcL q.2 p c e s q.1 [] M

/-- a list at hand -/
def lstOf (m : EM) : LM := fun s M => bnd (m s M) fun w M => match w with
  | .tup _ => none
  | _ => (match items w M with
    | some ws => ok ws M
    | none => none)
/-- list(x): a list that nobody holds -/
def lList (l : LM) : LM := fun s M => bnd (l s M) fun ws M => if many ws.length then ok ws M else none
def fAll (ws : List W) (M : Mem) : Out W := match bools ws with
  | some bs => ok (.bl (bs.all id)) M
  | none => none
def fAny (ws : List W) (M : Mem) : Out W := match bools ws with
  | some bs => ok (.bl (bs.any id)) M
  | none => none
def eL (f : List W → Mem → Out W) (l : LM) : EM := fun s M => bnd (l s M) fun ws M => f ws M
/-! ### statements -/
def sAsg (p : Pat) (e : EM) : SM := fun s M => bnd (e s M) fun w M => match bindP p w s with
  | some s' => ok (.nx s') M
  | none => none
def sExp (e : EM) : SM := fun s M => bnd (e s M) fun _ M => ok (.nx s) M
def sRet (e : EM) : SM := fun s M => bnd (e s M) fun w M => ok (.rt w) M
def sPass : SM := fun s M => ok (.nx s) M
def sSeq (a b : SM) : SM := fun s M => bnd (a s M) fun fl M => match fl with
  | .nx s' => b s' M
  | .rt w => ok (.rt w) M
def sIf (t : EM) (a b : SM) : SM := fun s M => bnd (t s M) fun x M => match x with
  | .bl true => a s M
  | .bl false => b s M
  | _ => none
def forL (g : Option (Nat × O)) (p : Pat) (b : SM) : List W → Sl → Mem → Out Fl
  | [], s, M => if still g M then ok (.nx s) M else none
  | w :: ws, s, M => if still g M then (match bindP p w s with
    | none => none
    | some s' => bnd (b s' M) fun fl M => match fl with
      | .nx s'' => forL g p b ws s'' M
      | .rt r => ok (.rt r) M) else none
def sFor (p : Pat) (it : IM) (b : SM) : SM := fun s M => bnd (it s M) fun q M => forL q.2 p b q.1 s M
def whL (t : EM) (b : SM) : Nat → Sl → Mem → Out Fl
  | 0, _, _ => none
  | g + 1, s, M => bnd (t s M) fun x M => match x with
    | .bl true => bnd (b s M) fun fl M => (match fl with
      | .nx s' => whL t b g s' M
      | .rt r => ok (.rt r) M)
    | .bl false => ok (.nx s) M
    | _ => none
def sWhile (g : Nat) (t : EM) (b : SM) : SM := fun s M => whL t b g s M
/-- d[k] = v, xs[i] = v -/
def putW (o k v : W) (M : Mem) : Option Mem := match o with
  | .ref j => (match M[j]? with
    | some (.dic kvs) => if okKey kvs k && many (kvs.length + 1) then some (M.set j (.dic (dput kvs k v))) else none
    | some (.lst ws) => (match k with
      | .int i => (ixW ws.length i).map fun n => M.set j (.lst (ws.set n v))
      | _ => none)
    | _ => none)
  | _ => none
def sPut (o k e : EM) : SM := fun s M => bnd (e s M) fun v M => bnd (o s M) fun o M => bnd (k s M) fun k M => match putW o k v M with
  | some M' => ok (.nx s) M'
  | none => none
/-! methods -/
/-- the sort of thing that has methods -/
def kindW (x : W) (M : Mem) : Nat := match x with
  | .str _ => 1
  | .ref j => (match M[j]? with
    | some (.lst _) => 2
    | some (.dic _) => 3
    | some (.dlk _) => 3
    | _ => 0)
  | _ => 0
abbrev Mth := W → List W → Mem → Out W
def eM (k : Nat) (f : Mth) (o : EM) (es : List EM) : EM := fun s M => bnd (o s M) fun x M => if kindW x M = k then bnd (eAs es s M) fun vs M => f x vs M else none
/-- a list at hand, changed -/
def onL (x : W) (M : Mem) (g : Nat → List W → Out W) : Out W := match x with
  | .ref j => (match M[j]? with
    | some (.lst ws) => g j ws
    | _ => none)
  | _ => none
def fAppend : Mth := fun x vs M => onL x M fun j ws => match vs with
  | [v] => if many (ws.length + 1) then ok .non (M.set j (.lst (ws ++ [v]))) else none
  | _ => none
def fExtend : Mth := fun x vs M => onL x M fun j ws => match vs with
  | [.ref i] => (match M[i]? with
    | some (.lst us) => if many (ws.length + us.length) then ok .non (M.set j (.lst (ws ++ us))) else none
    | _ => none)
  | _ => none
def fPop : Mth := fun x vs M => onL x M fun j ws => match vs with
  | [] => (match ws.getLast? with
    | some w => ok w (M.set j (.lst ws.dropLast))
    | none => none)
  | [.int i] => (match ixW ws.length i with
    | some n => (match ws[n]? with
      | some w => ok w (M.set j (.lst (ws.eraseIdx n)))
      | none => none)
    | none => none)
  | _ => none
def fReverse : Mth := fun x vs M => onL x M fun j ws => match vs with
  | [] => ok .non (M.set j (.lst ws.reverse))
  | _ => none
def fClear : Mth := fun x vs M => onL x M fun j ws => match vs with
  | [] => ok .non (M.set j (.lst []))
  | _ => none
/-! isinstance by the built-in types -/
def tyN : W → Mem → Option String
  | .non, _ => some "NoneType"
  | .bl _, _ => some "bool"
  | .int _, _ => some "int"
  | .str _, _ => some "str"
  | .tup _, _ => some "tuple"
  | .scr _, _ => some "list"
  | .ref j, M => (match M[j]? with
    | some (.lst _) => some "list"
    | some (.dic kvs) => if kvs.any (fun p => isT p.1) then none else some "dict"
    | _ => none)
def uIsA (T : String) : Op1 := fun x M => match tyN x M with
  | some t => ok (.bl (t == T || t == "bool" && T == "int")) M
  | none => none

/-! ### a def's body: parameters first, the other slots empty; then the result -/
def start (n : Nat) (ws : List W) : Sl := ws.map some ++ List.replicate (n - ws.length) none
def body (n : Nat) (b : SM) (ws : List W) (M : Mem) : Out W := bnd (b (start n ws) M) fun fl M => match fl with
  | .nx _ => ok .non M
  | .rt w => ok w M
end Sw

set_option autoImplicit false
set_option Elab.async false
set_option linter.all false
set_option maxRecDepth 100000
/-! The pure side told of the model: what stands for what; the readings of the rules. -/
namespace Sw
open PySem PySem.Spec L2

abbrev tx (s : Tx) : Str := ⟨s.toArray⟩
theorem tx_inj {a b : Tx} (h : tx a = tx b) : a = b := by
  have h1 : a.toArray = b.toArray := congrArg Str.cps h
  exact Array.toList_inj.mpr h1 |> fun e => by simpa using e
/-- the written part, where the classes stand, the world -/
structure Rc where
  K : PySem.W.Frag
  w : World
  cls : Nat → Addr

/-! ### keys -/
mutual
def keyN : W → NestedKey
  | .int i => .num i
  | .str s => .text (tx s)
  | .tup ws => .tup (keyNs ws)
  | _ => .none
def keyNs : List W → List NestedKey
  | [] => []
  | w :: ws => keyN w :: keyNs ws
end
def keyA : W → Key
  | .int i => .inl i
  | .str s => .inr (tx s)
  | _ => .inl 0

/-! ### what stands for what -/
def frzH : HO → Bool
  | .frz _ _ => true
  | _ => false
/-- a dict that is walked is locked -/
def LK (lk : Bool) (H : Hp) (a : Addr) (u : HO) : Prop := match lk with
  | false => H a = some u
  | true => ∃ o, H a = some (.frz o u)
theorem LK.rd {lk : Bool} {H : Hp} {a : Addr} {u : HO} (h : LK lk H a u) : Rd H a u := by
  cases lk with
  | false => exact .inl h
  | true => exact .inr h
theorem LK.eq {lk : Bool} {H H' : Hp} {a : Addr} {u : HO} (e : H' a = H a) (h : LK lk H a u) : LK lk H' a u := by
  cases lk with
  | false => exact e.trans h
  | true => obtain ⟨o, h⟩ := h; exact ⟨o, e.trans h⟩

/-- the script: locked as an object, or an object of the module -/
def ScrAt (C : Rc) (H : Hp) (a : Addr) (ns : List Int) : Prop := (∃ o, H a = some (.frz o (.lst (ns.map V.int)))) ∨
  ∃ (o : Obj) (its : Array Value) (n : Nat), C.K.lookup a = some o ∧ o.cls = .type "list" ∧ o.dict = none ∧ o.data = .seq its n ∧ its.size ≤ sizeLine ∧ Vals (ns.map V.int) its.toList
theorem ScrAt.seq {C : Rc} {H : Hp} {a : Addr} {ns : List Int} (h : ScrAt C H a ns) : SqL C.K H a (ns.map V.int) := by
  rcases h with h | h
  · exact .inl (.inr h)
  · exact .inr h
section
variable (C : Rc) (H : Hp) (r : List Addr)
mutual
def RepW : W → V → Prop
  | .non, v => v = .non
  | .bl b, v => v = .bl b
  | .int i, v => v = .int i
  | .str s, v => v = .str (tx s)
  | .tup ws, v => ∃ a vs, v = .ref a ∧ SqT C.K H a vs ∧ RepWs ws vs
  | .ref n, v => ∃ a, v = .ref a ∧ r[n]? = some a
  | .scr ns, v => ∃ a, v = .ref a ∧ ns.length ≤ 63 ∧ ScrAt C H a ns
def RepWs : List W → List V → Prop
  | [], vs => vs = []
  | w :: ws, vs => ∃ v vr, vs = v :: vr ∧ RepW w v ∧ RepWs ws vr
end
/-- the raw entries of a dict whose keys are tuples -/
def RawT (a : Addr) (xs : List (NestedKey × Addr × Value)) : Heap → Prop := fun h => ∃ o es ep, h.get? a = some o ∧ o.ExactDict ∧ o.data = .dict es ep ∧
  es.toList = xs.map fun x => (⟨x.1.hash C.w, .ref x.2.1, x.2.2⟩ : DictEntry)
/-- the pairs of a dict by tuples -/
def PrT (kvs : List (W × W)) (xs : List (NestedKey × Addr × Value)) : Prop := Paired (fun (p : W × W) (x : NestedKey × Addr × Value) =>
  keyN p.1 = x.1 ∧ RepW C H r p.1 (.ref x.2.1) ∧ ∃ v, RepW C H r p.2 v ∧ RelV v x.2.2) kvs xs
/-- the pairs of a dict by ints and texts -/
def PrA (kvs : List (W × W)) (xs : List (Key × V)) : Prop := Paired (fun (p : W × W) (x : Key × V) => keyA p.1 = x.1 ∧ RepW C H r p.2 x.2) kvs xs
structure DicAt (lk : Bool) (kvs : List (W × W)) (a : Addr) : Prop where
  few : kvs.length ≤ 1000000
  nd : (kvs.map (·.1)).Nodup
  key : ∀ p ∈ kvs, isK p.1 = true ∧ dep p.1 ≤ 8
  obj : ((∀ p ∈ kvs, isT p.1 = false) ∧ ∃ xs, LK lk H a (.dK xs) ∧ PrA C H r kvs xs) ∨
    ((kvs ≠ [] ∧ ∀ p ∈ kvs, isT p.1 = true) ∧ (a == sysModules) = false ∧ ∃ xs, LK lk H a (.ext (RawT C a xs)) ∧ PrT C H r kvs xs)
/-- a caught exception at a: its class, its dict -/
def ExT (cls : Value) (d : Option Addr) (a : Addr) : HO := .ext fun h => ∃ (oe : Obj) (vs : Array Value), h.get? a = some oe ∧ L2.Zc cls d oe ∧ oe.data = .fields vs
def RepO : O → Addr → Prop
  | .lst ws, a => ∃ vs, H a = some (.lst vs) ∧ RepWs C H r ws vs
  | .dic kvs, a => DicAt C H r false kvs a
  | .dlk kvs, a => DicAt C H r true kvs a
  | .ins c fs, a => ∃ dx vs, H a = some (.ins (C.cls c) dx ((fs.map fun p => tx p.1).zip vs)) ∧ RepWs C H r (fs.map (·.2)) vs
  | .exc c w, a => ∃ d, H a = some (ExT (.ref (C.cls c)) d a) ∧ ((w = .non ∧ d = none) ∨ w ≠ .non ∧ ∃ b f v y, w = .tup [.str f, y] ∧ d = some b ∧ H b = some (.xd [(tx f, v)]) ∧ RepW C H r y v)
structure RepM (M : Mem) : Prop where
  len : r.length = M.length
  obj : ∀ (i : Nat) (a : Addr) (o : O), r[i]? = some a → M[i]? = some o → RepO C H r o a
  nd : r.Nodup
def RepS (s : Sl) (σ : L2.St) : Prop := s.length = σ.length ∧ ∀ (i : Nat) (w : W), s[i]? = some (some w) → ∃ v, σ[i]? = some (some v) ∧ RepW C H r w v
end

section
variable {C : Rc} {H H' : Hp} {r r' : List Addr} {M M' : Mem}
/-- how a heap and its places go on: nothing else that was tracked is touched, the new places are new -/
structure Mono (r r' : List Addr) (H H' : Hp) : Prop where
  pre : ∃ t, r' = r ++ t ∧ ∀ a ∈ t, H a = none
  keep : ∀ a o, H a = some o → (a ∉ r ∨ frzH o = true) → H' a = some o
theorem Mono.refl (r : List Addr) (H : Hp) : Mono r r H H := ⟨⟨[], by simp, by simp⟩, fun _ _ h _ => h⟩
theorem RepO.some {o : O} {a : Addr} (h : RepO C H r o a) : ∃ u, H a = Option.some u ∧ (∀ xs, u ≠ .tup xs) ∧ ∀ b x, u = .frz b x → (∃ xs, x = .dK xs) ∨ ∃ P, x = .ext P := by
  have dic : ∀ lk kvs, DicAt C H r lk kvs a → ∃ u, H a = Option.some u ∧ (∀ xs, u ≠ .tup xs) ∧ ∀ b x, u = .frz b x → (∃ xs, x = .dK xs) ∨ ∃ P, x = .ext P := fun lk kvs d => by
    rcases d.obj with ⟨_, xs, e, _⟩ | ⟨_, _, xs, e, _⟩ <;> cases lk
    · exact ⟨_, e, by simp, by simp⟩
    · obtain ⟨o, e⟩ := e
      exact ⟨_, e, by simp, fun b x z => by cases z; exact .inl ⟨_, rfl⟩⟩
    · exact ⟨_, e, by simp, by simp⟩
    · obtain ⟨o, e⟩ := e
      exact ⟨_, e, by simp, fun b x z => by cases z; exact .inr ⟨_, rfl⟩⟩
  cases o with
  | lst ws => obtain ⟨vs, e, _⟩ := h; exact ⟨_, e, by simp, by simp⟩
  | dic kvs => exact dic false kvs h
  | dlk kvs => exact dic true kvs h
  | ins c fs => obtain ⟨dx, vs, e, _⟩ := h; exact ⟨_, e, by simp, by simp⟩
  | exc c w => obtain ⟨d, e, _⟩ := h; exact ⟨_, e, by simp [ExT], by simp [ExT]⟩
theorem RepO.noxd {o : O} {a : Addr} {fs : List (Str × V)} (h : RepO C H r o a) : H a ≠ Option.some (.xd fs) := by
  have dic : ∀ lk kvs, DicAt C H r lk kvs a → H a ≠ Option.some (.xd fs) := fun lk kvs d => by
    rcases d.obj with ⟨_, xs, e, _⟩ | ⟨_, _, xs, e, _⟩ <;> cases lk
    · have e : H a = _ := e; rw [e]; simp
    · obtain ⟨o, e⟩ := e; rw [e]; simp
    · have e : H a = _ := e; rw [e]; simp
    · obtain ⟨o, e⟩ := e; rw [e]; simp
  cases o with
  | lst ws => obtain ⟨vs, e, _⟩ := h; rw [e]; simp
  | dic kvs => exact dic false kvs h
  | dlk kvs => exact dic true kvs h
  | ins c fs => obtain ⟨dx, vs, e, _⟩ := h; rw [e]; simp
  | exc c w => obtain ⟨d, e, _⟩ := h; rw [e]; simp [ExT]
theorem RepM.at (m : RepM C H r M) {a : Addr} (h : a ∈ r) : ∃ (i : Nat) (o : O), r[i]? = some a ∧ M[i]? = some o ∧ RepO C H r o a := by
  obtain ⟨i, hi⟩ := List.mem_iff_getElem?.mp h
  have hl : i < M.length := by rw [← m.len]; exact (List.getElem?_eq_some_iff.mp hi).1
  exact ⟨i, M[i], hi, List.getElem?_eq_getElem hl, m.obj i a _ hi (List.getElem?_eq_getElem hl)⟩
theorem RepM.has (m : RepM C H r M) {a : Addr} (h : a ∈ r) : ∃ u, H a = some u ∧ (∀ xs, u ≠ .tup xs) ∧ ∀ b x, u = .frz b x → (∃ xs, x = .dK xs) ∨ ∃ P, x = .ext P := by
  obtain ⟨i, o, _, _, q⟩ := m.at h
  exact q.some
theorem RepM.noxd (m : RepM C H r M) {a : Addr} {fs : List (Str × V)} (h : H a = some (.xd fs)) : a ∉ r := fun hm => by
  obtain ⟨i, o, _, _, q⟩ := m.at hm
  exact q.noxd h
theorem RepM.notup (m : RepM C H r M) {a : Addr} {xs : List V} (h : H a = some (.tup xs)) : a ∉ r := fun hm => by
  obtain ⟨u, e, n, _⟩ := m.has hm
  rw [h] at e
  exact n xs (Option.some.inj e).symm
theorem RepM.nofrz (m : RepM C H r M) {a : Addr} {b : Obj} {x : HO} (h : H a = some (.frz b x)) (n1 : ∀ xs, x ≠ .dK xs) (n2 : ∀ P, x ≠ .ext P) : a ∉ r := fun hm => by
  obtain ⟨u, e, _, n⟩ := m.has hm
  rw [h] at e
  rcases n b x (Option.some.inj e).symm with ⟨_, z⟩ | ⟨_, z⟩
  · exact n1 _ z
  · exact n2 _ z
theorem RepM.new (m : RepM C H r M) {a : Addr} (h : H a = none) : a ∉ r := fun hm => by
  obtain ⟨u, e, _⟩ := m.has hm
  rw [h] at e
  cases e
theorem Mono.trans {r2 : List Addr} {H2 : Hp} (a : Mono r r' H H') (m : RepM C H' r' M') (b : Mono r' r2 H' H2) : Mono r r2 H H2 := by
  obtain ⟨t, e, ht⟩ := a.pre
  obtain ⟨u, f, hu⟩ := b.pre
  have back : ∀ c, H' c = none → c ∉ r' := fun c hc => m.new hc
  refine ⟨⟨t ++ u, by rw [f, e, List.append_assoc], fun c hc => ?_⟩, fun c o h hr => ?_⟩
  · rcases List.mem_append.mp hc with hc | hc
    · exact ht c hc
    · have hn := hu c hc
      cases q : H c with
      | none => rfl
      | some o =>
        by_cases hr : c ∈ r
        · exact absurd (show c ∈ r' by rw [e]; exact List.mem_append_left _ hr) (back c hn)
        · rw [a.keep c o q (.inl hr)] at hn
          cases hn
  · rcases hr with hr | hr
    · have hr' : c ∉ r' := fun hm => by
        rw [e] at hm
        rcases List.mem_append.mp hm with z | z
        · exact hr z
        · rw [ht c z] at h
          cases h
      exact b.keep c o (a.keep c o h (.inl hr)) (.inl hr')
    · exact b.keep c o (a.keep c o h (.inr hr)) (.inr hr)
theorem Mono.ix {i : Nat} {a : Addr} (x : Mono r r' H H') (h : r[i]? = some a) : r'[i]? = some a := by
  obtain ⟨t, e, _⟩ := x.pre
  rw [e, List.getElem?_append_left (List.getElem?_eq_some_iff.mp h).1]
  exact h
theorem Mono.tup {a : Addr} {xs : List V} (x : Mono r r' H H') (m : RepM C H r M) (h : SqT C.K H a xs) : SqT C.K H' a xs := by
  rcases h with (h | ⟨o, h⟩) | h
  · exact .inl (.inl (x.keep _ _ h (.inl (m.notup h))))
  · exact .inl (.inr ⟨o, x.keep _ _ h (.inr rfl)⟩)
  · exact .inr h
theorem Mono.scr {a : Addr} {ns : List Int} (x : Mono r r' H H') (m : RepM C H r M) (h : ScrAt C H a ns) : ScrAt C H' a ns := by
  rcases h with ⟨o, h⟩ | h
  · exact .inl ⟨o, x.keep _ _ h (.inr rfl)⟩
  · exact .inr h
mutual
theorem RepW.go (x : Mono r r' H H') (m : RepM C H r M) : ∀ (w : W) (v : V), RepW C H r w v → RepW C H' r' w v
  | .non, v, h => h
  | .bl _, v, h => h
  | .int _, v, h => h
  | .str _, v, h => h
  | .tup ws, v, h => by
    obtain ⟨a, vs, e, s, q⟩ := h
    exact ⟨a, vs, e, x.tup m s, RepWs.go x m ws vs q⟩
  | .ref n, v, h => by
    obtain ⟨a, e, q⟩ := h
    exact ⟨a, e, x.ix q⟩
  | .scr ns, v, h => by
    obtain ⟨a, e, l, q⟩ := h
    exact ⟨a, e, l, x.scr m q⟩
theorem RepWs.go (x : Mono r r' H H') (m : RepM C H r M) : ∀ (ws : List W) (vs : List V), RepWs C H r ws vs → RepWs C H' r' ws vs
  | [], vs, h => h
  | w :: ws, vs, h => by
    obtain ⟨v, vr, e, p, q⟩ := h
    exact ⟨v, vr, e, RepW.go x m w v p, RepWs.go x m ws vr q⟩
end
theorem RepWs.length : ∀ {ws : List W} {vs : List V}, RepWs C H r ws vs → vs.length = ws.length
  | [], vs, h => by rw [show vs = [] from h]; rfl
  | w :: ws, vs, h => by
    obtain ⟨v, vr, e, _, q⟩ := h
    rw [e, List.length_cons, List.length_cons, RepWs.length q]
theorem RepWs.get : ∀ {ws : List W} {vs : List V} {i : Nat} {w : W}, RepWs C H r ws vs → ws[i]? = some w → ∃ v, vs[i]? = some v ∧ RepW C H r w v
  | [], _, _, _, _, e => by simp at e
  | w :: ws, vs, 0, w', h, e => by
    obtain ⟨v, vr, rfl, p, _⟩ := h
    simp at e
    subst e
    exact ⟨v, rfl, p⟩
  | w :: ws, vs, i + 1, w', h, e => by
    obtain ⟨v, vr, rfl, _, q⟩ := h
    obtain ⟨v', e', p'⟩ := RepWs.get (i := i) q (by simpa using e)
    exact ⟨v', by simpa using e', p'⟩
theorem RepWs.app : ∀ {ws : List W} {vs : List V} {xs : List W} {us : List V}, RepWs C H r ws vs → RepWs C H r xs us → RepWs C H r (ws ++ xs) (vs ++ us)
  | [], vs, _, _, h, k => by rw [show vs = [] from h]; exact k
  | w :: ws, vs, _, _, h, k => by
    obtain ⟨v, vr, rfl, p, q⟩ := h
    exact ⟨v, vr ++ _, rfl, p, RepWs.app q k⟩
theorem RepWs.one {w : W} {v : V} (h : RepW C H r w v) : RepWs C H r [w] [v] := ⟨v, [], rfl, h, rfl⟩
theorem RepWs.cons {w : W} {v : V} {ws : List W} {vs : List V} (h : RepW C H r w v) (k : RepWs C H r ws vs) : RepWs C H r (w :: ws) (v :: vs) := ⟨v, vs, rfl, h, k⟩
theorem RepWs.set : ∀ {ws : List W} {vs : List V} (i : Nat) {w : W} {v : V}, RepWs C H r ws vs → RepW C H r w v → RepWs C H r (ws.set i w) (vs.set i v)
  | [], vs, _, _, _, h, _ => by rw [show vs = [] from h]; rfl
  | x :: ws, vs, 0, w, v, h, k => by
    obtain ⟨u, vr, rfl, p, q⟩ := h
    exact ⟨v, vr, rfl, k, q⟩
  | x :: ws, vs, i + 1, w, v, h, k => by
    obtain ⟨u, vr, rfl, p, q⟩ := h
    exact ⟨u, vr.set i v, rfl, p, RepWs.set i q k⟩
theorem RepWs.take : ∀ {ws : List W} {vs : List V} (i : Nat), RepWs C H r ws vs → RepWs C H r (ws.take i) (vs.take i)
  | [], vs, i, h => by rw [show vs = [] from h]; simp [RepWs]
  | w :: ws, vs, 0, h => by simp [RepWs]
  | w :: ws, vs, i + 1, h => by
    obtain ⟨v, vr, rfl, p, q⟩ := h
    exact ⟨v, vr.take i, rfl, p, RepWs.take i q⟩
theorem RepWs.drop : ∀ {ws : List W} {vs : List V} (i : Nat), RepWs C H r ws vs → RepWs C H r (ws.drop i) (vs.drop i)
  | [], vs, i, h => by rw [show vs = [] from h]; simp [RepWs]
  | w :: ws, vs, 0, h => by simpa using h
  | w :: ws, vs, i + 1, h => by
    obtain ⟨v, vr, rfl, p, q⟩ := h
    simpa using RepWs.drop i q
theorem RepS.go {s : Sl} {σ : L2.St} (x : Mono r r' H H') (m : RepM C H r M) (h : RepS C H r s σ) : RepS C H' r' s σ :=
  ⟨h.1, fun i w e => let ⟨v, e', p⟩ := h.2 i w e; ⟨v, e', RepW.go x m w v p⟩⟩
theorem RepS.put {s : Sl} {σ : L2.St} {i : Nat} {w : W} {v : V} (h : RepS C H r s σ) (k : RepW C H r w v) : RepS C H r (setS s i w) (σ.set i (some v)) := by
  refine ⟨by simp [setS, h.1], fun j x e => ?_⟩
  unfold setS at e
  by_cases hj : i = j
  · subst hj
    have hi : i < s.length := by
      by_cases hl : i < s.length
      · exact hl
      · rw [List.getElem?_eq_none (by simpa using hl)] at e
        cases e
    rw [List.getElem?_set_self hi] at e
    cases e
    exact ⟨v, List.getElem?_set_self (by rw [← h.1]; exact hi), k⟩
  · rw [List.getElem?_set_ne hj] at e
    obtain ⟨u, e', p⟩ := h.2 j x e
    exact ⟨u, by rw [List.getElem?_set_ne hj]; exact e', p⟩

/-! ### the store goes on -/
/-- a new object that is not of the store -/
theorem Mono.temp {p : Addr} {o : HO} (hp : H p = none) : Mono r r H (upd H p o) :=
  ⟨⟨[], by simp, by simp⟩, fun a u h _ => by rw [upd_ne (ne_of_none h hp)]; exact h⟩
theorem PrT.go {kvs : List (W × W)} {xs : List (NestedKey × Addr × Value)} (x : Mono r r' H H') (m : RepM C H r M) (h : PrT C H r kvs xs) : PrT C H' r' kvs xs :=
  Paired.mapP h fun p y ⟨a, b, v, c, d⟩ => ⟨a, RepW.go x m _ _ b, v, RepW.go x m _ _ c, d⟩
theorem PrA.go {kvs : List (W × W)} {xs : List (Key × V)} (x : Mono r r' H H') (m : RepM C H r M) (h : PrA C H r kvs xs) : PrA C H' r' kvs xs :=
  Paired.mapP h fun p y ⟨a, b⟩ => ⟨a, RepW.go x m _ _ b⟩
theorem DicAt.go {lk : Bool} {kvs : List (W × W)} {a : Addr} (x : Mono r r' H H') (m : RepM C H r M) (h : DicAt C H r lk kvs a) (e : H' a = H a) : DicAt C H' r' lk kvs a := by
  refine DicAt.mk h.few h.nd h.key ?_
  rcases h.obj with ⟨n, xs, e1, q⟩ | ⟨n, n2, xs, e1, q⟩
  · exact .inl ⟨n, xs, e1.eq e, PrA.go x m q⟩
  · exact .inr ⟨n, n2, xs, e1.eq e, PrT.go x m q⟩
/-- an object of the store that is not touched -/
theorem RepO.go {o : O} {a : Addr} (x : Mono r r' H H') (m : RepM C H r M) (h : RepO C H r o a) (e : H' a = H a) : RepO C H' r' o a := by
  cases o with
  | lst ws => obtain ⟨vs, e1, q⟩ := h; exact ⟨vs, e.trans e1, RepWs.go x m _ _ q⟩
  | dic kvs =>
    exact DicAt.go x m h e
  | dlk kvs => exact DicAt.go x m h e
  | ins c fs => obtain ⟨dx, vs, e1, q⟩ := h; exact ⟨dx, vs, e.trans e1, RepWs.go x m _ _ q⟩
  | exc c w =>
    obtain ⟨d, e1, q⟩ := h
    refine ⟨d, e.trans e1, q.imp id fun ⟨n, b, f, v, y, ew, e2, e3, q⟩ => ⟨n, b, f, v, y, ew, e2, x.keep b _ e3 (.inl (m.noxd e3)), RepW.go x m _ _ q⟩⟩
theorem RepM.temp {p : Addr} {o : HO} (m : RepM C H r M) (hp : H p = none) : RepM C (upd H p o) r M :=
  ⟨m.len, fun i a o' h1 h2 => RepO.go (Mono.temp hp) m (m.obj i a o' h1 h2) (upd_ne fun e => m.new hp (by rw [← e]; exact List.mem_of_getElem? h1)), m.nd⟩
/-- a new object of the store -/
theorem Mono.alloc {p : Addr} {o : HO} (hp : H p = none) : Mono r (r ++ [p]) H (upd H p o) :=
  ⟨⟨[p], rfl, fun a ha => by rw [List.mem_singleton.mp ha]; exact hp⟩, fun a u h _ => by rw [upd_ne (ne_of_none h hp)]; exact h⟩
theorem RepM.alloc {p : Addr} {u : HO} {o : O} (m : RepM C H r M) (hp : H p = none) (h : RepO C (upd H p u) (r ++ [p]) o p) : RepM C (upd H p u) (r ++ [p]) (M ++ [o]) := by
  refine ⟨by simp [m.len], fun i a o' h1 h2 => ?_, ?_⟩
  · by_cases hi : i < r.length
    · rw [List.getElem?_append_left hi] at h1
      rw [List.getElem?_append_left (by rw [← m.len]; exact hi)] at h2
      exact RepO.go (Mono.alloc hp) m (m.obj i a o' h1 h2) (upd_ne fun e => m.new hp (by rw [← e]; exact List.mem_of_getElem? h1))
    · have hl : i < (r ++ [p]).length := (List.getElem?_eq_some_iff.mp h1).1
      have e : i = r.length := by simp at hl; omega
      subst e
      rw [List.getElem?_append_right (Nat.le_refl _)] at h1
      rw [m.len, List.getElem?_append_right (Nat.le_refl _)] at h2
      simp at h1 h2
      subst h1 h2
      exact h
  · refine List.nodup_append.mpr ⟨m.nd, by simp, fun a ha b hb e => ?_⟩
    rw [List.mem_singleton.mp hb] at e
    exact m.new hp (e ▸ ha)
/-- an object of the store is changed -/
theorem Mono.write {p : Addr} {u : HO} (hp : p ∈ r) (hf : ∀ o, H p = some o → frzH o = false) : Mono r r H (upd H p u) :=
  ⟨⟨[], by simp, by simp⟩, fun a o h hr => by
    rw [upd_ne fun e => ?_]
    · exact h
    · subst e
      rcases hr with hr | hr
      · exact hr hp
      · rw [hf o h] at hr
        cases hr⟩
theorem RepM.write {i : Nat} {p : Addr} {u : HO} {o : O} (m : RepM C H r M) (hp : r[i]? = some p) (hf : ∀ o, H p = some o → frzH o = false) (h : RepO C (upd H p u) r o p) : RepM C (upd H p u) r (M.set i o) := by
  refine ⟨by simp [m.len], fun j a o' h1 h2 => ?_, m.nd⟩
  have hi : i < r.length := (List.getElem?_eq_some_iff.mp hp).1
  by_cases hj : i = j
  · subst hj
    rw [hp] at h1
    cases h1
    rw [List.getElem?_set_self (by rw [← m.len]; exact hi)] at h2
    cases h2
    exact h
  · rw [List.getElem?_set_ne hj] at h2
    refine RepO.go (Mono.write (List.mem_of_getElem? hp) hf) m (m.obj j a o' h1 h2) (upd_ne fun e => hj ?_)
    subst e
    exact (List.getElem?_inj hi m.nd).mp (hp.trans h1.symm)
end
/-! ### more places -/
section
variable {C : Rc} {H : Hp} {r t : List Addr}
theorem ix_pre {i : Nat} {a : Addr} (h : r[i]? = some a) : (r ++ t)[i]? = some a := by
  rw [List.getElem?_append_left (List.getElem?_eq_some_iff.mp h).1]
  exact h
mutual
theorem RepW_pre : ∀ {w : W} {v : V}, RepW C H r w v → RepW C H (r ++ t) w v
  | .non, v, h => h
  | .bl _, v, h => h
  | .int _, v, h => h
  | .str _, v, h => h
  | .tup ws, v, h => by
    obtain ⟨a, vs, e, s, q⟩ := h
    exact ⟨a, vs, e, s, RepWs_pre q⟩
  | .ref n, v, h => by
    obtain ⟨a, e, q⟩ := h
    exact ⟨a, e, ix_pre q⟩
  | .scr ns, v, h => h
theorem RepWs_pre : ∀ {ws : List W} {vs : List V}, RepWs C H r ws vs → RepWs C H (r ++ t) ws vs
  | [], vs, h => h
  | w :: ws, vs, h => by
    obtain ⟨v, vr, e, p, q⟩ := h
    exact ⟨v, vr, e, RepW_pre p, RepWs_pre q⟩
end
theorem DicAt_pre {lk : Bool} {kvs : List (W × W)} {a : Addr} (h : DicAt C H r lk kvs a) : DicAt C H (r ++ t) lk kvs a := by
  refine DicAt.mk h.few h.nd h.key ?_
  rcases h.obj with ⟨n, xs, e, q⟩ | ⟨n, n2, xs, e, q⟩
  · exact .inl ⟨n, xs, e, Paired.mapP q fun p y ⟨a, b⟩ => ⟨a, RepW_pre b⟩⟩
  · exact .inr ⟨n, n2, xs, e, Paired.mapP q fun p y ⟨a, b, v, c, d⟩ => ⟨a, RepW_pre b, v, RepW_pre c, d⟩⟩
theorem RepO_pre {o : O} {a : Addr} (h : RepO C H r o a) : RepO C H (r ++ t) o a := by
  cases o with
  | lst ws => obtain ⟨vs, e, q⟩ := h; exact ⟨vs, e, RepWs_pre q⟩
  | dic kvs =>
    exact DicAt_pre h
  | dlk kvs => exact DicAt_pre h
  | ins c fs => obtain ⟨dx, vs, e, q⟩ := h; exact ⟨dx, vs, e, RepWs_pre q⟩
  | exc c w => obtain ⟨d, e1, q⟩ := h; exact ⟨d, e1, q.imp id fun ⟨n, b, f, v, y, ew, e2, e3, q⟩ => ⟨n, b, f, v, y, ew, e2, e3, RepW_pre q⟩⟩
end
end Sw

set_option autoImplicit false
set_option Elab.async false
set_option linter.all false
set_option maxRecDepth 100000
/-! The readings: what a pure result promises of the model. -/
namespace Sw
open PySem PySem.Spec L2
section
variable (C : Rc) (E : XK)
/-- how an exception lies in the model -/
def RepX (H : Hp) (r : List Addr) (x : Xn) (c : Value) (d : Option Addr) : Prop := c = .ref (C.cls x.cls) ∧ ((x.arg = .non ∧ d = none) ∨ x.arg ≠ .non ∧ ∃ b f v y, x.arg = .tup [.str f, y] ∧ isD y = true ∧ d = some b ∧ H b = some (.xd [(tx f, v)]) ∧ RepW C H r y v)
/-- what is wanted of a result: at these places, in this heap -/
abbrev KT (α : Type) := List Addr → Hp → α → Mem → Prop
def PG {α : Type} (r : List Addr) (H : Hp) (o : Out α) (K : α → Mem → Prop) : Prop := match o with
  | none => False
  | some (.ok a, M') => K a M'
  | some (.error x, M') => ∀ c d H' r', Mono r r' H H' → RepM C H' r' M' → RepX C H' r' x c d → E c d H'
def Kv (Q : VK) : KT W := fun r H w M => ∀ v H' r', Mono r r' H H' → RepM C H' r' M → RepW C H' r' w v → Q v H'
def Kl (Q : List V → Hp → Prop) : KT (List W) := fun r H ws M => ∀ vs H' r', Mono r r' H H' → RepM C H' r' M → RepWs C H' r' ws vs → Q vs H'
def Kb (Q : Bool → Hp → Prop) : KT W := fun r H w M => ∃ b, w = .bl b ∧ ∀ H' r', Mono r r' H H' → RepM C H' r' M → Q b H'
/-- a new list that is not of the store -/
def Kf (Q : VK) : KT (List W) := fun r H ws M => ∀ p vs H' r', Mono r r' H H' → RepM C H' r' M → RepWs C H' r' ws vs → H' p = some (.lst vs) → p ∉ r' → H p = none → ws.length ≤ 1000000 → Q (.ref p) H'
/-- any list or tuple that may be read -/
def Kr (Q : VK) : KT (List W) := fun r H ws M => ∀ p vs H' r', Mono r r' H H' → RepM C H' r' M → RepWs C H' r' ws vs → (SqL C.K H' p vs ∨ SqT C.K H' p vs) → Q (.ref p) H'
def Ks (D : Ends) : KT Fl := fun r H fl M => match fl with
  | .nx s => ∀ σ' H' r', Mono r r' H H' → RepM C H' r' M → RepS C H' r' s σ' → D.nx σ' H'
  | .rt w => ∀ v H' r', Mono r r' H H' → RepM C H' r' M → RepW C H' r' w v → D.rt v H'
/-- the readings -/
def tE (m : EM) : TE := fun σ H Q => ∃ s M r, RepS C H r s σ ∧ RepM C H r M ∧ PG C E r H (m s M) (Kv C Q r H)
def tT (m : EM) : TT := fun σ H Q => ∃ s M r, RepS C H r s σ ∧ RepM C H r M ∧ PG C E r H (m s M) (Kb C Q r H)
def tA (m : LM) : TA := fun σ H Q => ∃ s M r, RepS C H r s σ ∧ RepM C H r M ∧ PG C E r H (m s M) (Kl C Q r H)
def tF (m : LM) : TE := fun σ H Q => ∃ s M r, RepS C H r s σ ∧ RepM C H r M ∧ PG C E r H (m s M) (Kf C Q r H)
def tR (m : LM) : TE := fun σ H Q => ∃ s M r, RepS C H r s σ ∧ RepM C H r M ∧ PG C E r H (m s M) (Kr C Q r H)
def tS (m : SM) : TS := fun D σ H => ∃ s M r, RepS C H r s σ ∧ RepM C H r M ∧ PG C E r H (m s M) (Ks C D r H)
/-- an operation by values -/
def r2 (f : Op2) : R2 := fun x y H Q => ∃ r M a b, RepM C H r M ∧ RepW C H r a x ∧ RepW C H r b y ∧ PG C E r H (f a b M) (Kv C Q r H)
def r1 (f : Op1) : V → Hp → VK → Prop := fun x H Q => ∃ r M a, RepM C H r M ∧ RepW C H r a x ∧ PG C E r H (f a M) (Kv C Q r H)
def rn (f : List W → Mem → Out W) : List V → Hp → VK → Prop := fun xs H Q => ∃ r M ws, RepM C H r M ∧ RepWs C H r ws xs ∧ PG C E r H (f ws M) (Kv C Q r H)
/-- what is wanted still is when one has gone on -/
def Cl {α : Type} (K : KT α) : Prop := ∀ (r r' : List Addr) (H H' : Hp) (M' : Mem) (a : α) (M : Mem), Mono r r' H H' → RepM C H' r' M' → K r H a M → K r' H' a M
end
section
variable {C : Rc} {E : XK} {H H' : Hp} {r r' : List Addr} {M M' : Mem}
theorem Mono.none_back (x : Mono r r' H H') (m' : RepM C H' r' M') {p : Addr} (h : H' p = none) : H p = none := by
  cases q : H p with
  | none => rfl
  | some o =>
    by_cases hr : p ∈ r
    · obtain ⟨t, e, _⟩ := x.pre
      exact absurd h (fun z => m'.new z (by rw [e]; exact List.mem_append_left _ hr))
    · rw [x.keep _ _ q (.inl hr)] at h
      cases h
theorem Kv_cl {Q : VK} : Cl C (Kv C Q) := fun r r' H H' M' a M x m h v H2 r2 y m2 q => h v H2 r2 (x.trans m y) m2 q
theorem Kl_cl {Q : List V → Hp → Prop} : Cl C (Kl C Q) := fun r r' H H' M' a M x m h v H2 r2 y m2 q => h v H2 r2 (x.trans m y) m2 q
theorem Kb_cl {Q : Bool → Hp → Prop} : Cl C (Kb C Q) := fun r r' H H' M' a M x m ⟨b, e, h⟩ => ⟨b, e, fun H2 r2 y m2 => h H2 r2 (x.trans m y) m2⟩
theorem Kf_cl {Q : VK} : Cl C (Kf C Q) := fun r r' H H' M' a M x m h p vs H2 r2 y m2 q hp hn h0 hl => h p vs H2 r2 (x.trans m y) m2 q hp hn (x.none_back m h0) hl
theorem Kr_cl {Q : VK} : Cl C (Kr C Q) := fun r r' H H' M' a M x m h p vs H2 r2 y m2 q hp => h p vs H2 r2 (x.trans m y) m2 q hp
theorem Ks_cl {D : Ends} : Cl C (Ks C D) := fun r r' H H' M' a M x m h => by
  cases a with
  | nx s => exact fun v H2 r2 y m2 q => h v H2 r2 (x.trans m y) m2 q
  | rt s => exact fun v H2 r2 y m2 q => h v H2 r2 (x.trans m y) m2 q
theorem PG.go {α : Type} {K : KT α} {o : Out α} (cl : Cl C K) (x : Mono r r' H H') (m : RepM C H' r' M') (h : PG C E r H o (K r H)) : PG C E r' H' o (K r' H') := by
  unfold PG at h ⊢
  split at h
  · exact h
  · exact cl _ _ _ _ _ _ _ x m h
  · exact fun c d H2 r2 y m2 q => h c d H2 r2 (x.trans m y) m2 q
theorem PG.imp {α : Type} {K K' : α → Mem → Prop} {o : Out α} (h : PG C E r H o K) (f : ∀ a M, o = some (.ok a, M) → K a M → K' a M) : PG C E r H o K' := by
  unfold PG at h ⊢
  split at h
  · exact h
  · exact f _ _ rfl h
  · exact h
/-- one after the other -/
theorem PG.fst {α β : Type} {K : KT β} {o : Out α} {f : α → Mem → Out β} (cl : Cl C K) (h : PG C E r H (bnd o f) (K r H)) :
    PG C E r H o fun a M1 => ∀ r1 H1, Mono r r1 H H1 → RepM C H1 r1 M1 → PG C E r1 H1 (f a M1) (K r1 H1) := by
  cases o with
  | none => exact h
  | some p =>
    obtain ⟨e, M1⟩ := p
    cases e with
    | error x => exact h
    | ok w => exact fun r1 H1 x m => PG.go cl x m h
/-- a value's reading, and on -/
theorem tE_on {β : Type} {m : EM} {f : W → Mem → Out β} {K : KT β} {Q : VK} {σ : L2.St} {s : Sl} (cl : Cl C K) (hs : RepS C H r s σ) (hm : RepM C H r M) (h : PG C E r H (bnd (m s M) f) (K r H))
    (k : ∀ v H1 r1 M1 w, Mono r r1 H H1 → RepM C H1 r1 M1 → RepW C H1 r1 w v → RepS C H1 r1 s σ → PG C E r1 H1 (f w M1) (K r1 H1) → Q v H1) : tE C E m σ H Q :=
  ⟨s, M, r, hs, hm, (h.fst cl).imp fun a M1 _ q v H1 r1 x m1 p => k v H1 r1 M1 a x m1 p (hs.go x hm) (q r1 H1 x m1)⟩
theorem tA_on {β : Type} {m : LM} {f : List W → Mem → Out β} {K : KT β} {Q : List V → Hp → Prop} {σ : L2.St} {s : Sl} (cl : Cl C K) (hs : RepS C H r s σ) (hm : RepM C H r M) (h : PG C E r H (bnd (m s M) f) (K r H))
    (k : ∀ vs H1 r1 M1 ws, m s M = some (.ok ws, M1) → Mono r r1 H H1 → RepM C H1 r1 M1 → RepWs C H1 r1 ws vs → RepS C H1 r1 s σ → PG C E r1 H1 (f ws M1) (K r1 H1) → Q vs H1) : tA C E m σ H Q :=
  ⟨s, M, r, hs, hm, (h.fst cl).imp fun a M1 e q v H1 r1 x m1 p => k v H1 r1 M1 a e x m1 p (hs.go x hm) (q r1 H1 x m1)⟩
theorem tT_on {β : Type} {m : EM} {f : W → Mem → Out β} {K : KT β} {Q : Bool → Hp → Prop} {σ : L2.St} {s : Sl} (cl : Cl C K) (hs : RepS C H r s σ) (hm : RepM C H r M) (h : PG C E r H (bnd (m s M) f) (K r H))
    (hb : ∀ w M1, (∀ b, w ≠ .bl b) → f w M1 = none)
    (k : ∀ b H1 r1 M1, Mono r r1 H H1 → RepM C H1 r1 M1 → RepS C H1 r1 s σ → PG C E r1 H1 (f (.bl b) M1) (K r1 H1) → Q b H1) : tT C E m σ H Q := by
  have h2 := h.fst cl
  refine ⟨s, M, r, hs, hm, ?_⟩
  revert h2
  cases e : m s M with
  | none => intro h2; exact h2
  | some o =>
    obtain ⟨o, M1⟩ := o
    cases o with
    | error x => intro h2; exact h2
    | ok w =>
      intro h2
      by_cases hw : ∃ b, w = .bl b
      · obtain ⟨b, rfl⟩ := hw
        exact ⟨b, rfl, fun H1 r1 x m1 => k b H1 r1 M1 x m1 (hs.go x hm) (h2 r1 H1 x m1)⟩
      · rw [e] at h
        have h : PG C E r H (f w M1) (K r H) := h
        rw [hb w M1 fun b e => hw ⟨b, e⟩] at h
        exact h.elim
theorem tF_on {β : Type} {m : LM} {f : List W → Mem → Out β} {K : KT β} {Q : VK} {σ : L2.St} {s : Sl} (cl : Cl C K) (hs : RepS C H r s σ) (hm : RepM C H r M) (h : PG C E r H (bnd (m s M) f) (K r H))
    (k : ∀ p vs H1 r1 M1 ws, Mono r r1 H H1 → RepM C H1 r1 M1 → RepWs C H1 r1 ws vs → H1 p = some (.lst vs) → p ∉ r1 → H p = none → ws.length ≤ 1000000 → RepS C H1 r1 s σ → PG C E r1 H1 (f ws M1) (K r1 H1) → Q (.ref p) H1) : tF C E m σ H Q :=
  ⟨s, M, r, hs, hm, (h.fst cl).imp fun a M1 _ q p v H1 r1 x m1 y h1 h2 h3 h4 => k p v H1 r1 M1 a x m1 y h1 h2 h3 h4 (hs.go x hm) (q r1 H1 x m1)⟩
theorem tR_on {β : Type} {m : LM} {f : List W → Mem → Out β} {K : KT β} {Q : VK} {σ : L2.St} {s : Sl} (cl : Cl C K) (hs : RepS C H r s σ) (hm : RepM C H r M) (h : PG C E r H (bnd (m s M) f) (K r H))
    (k : ∀ p vs H1 r1 M1 ws, Mono r r1 H H1 → RepM C H1 r1 M1 → RepWs C H1 r1 ws vs → (SqL C.K H1 p vs ∨ SqT C.K H1 p vs) → RepS C H1 r1 s σ → PG C E r1 H1 (f ws M1) (K r1 H1) → Q (.ref p) H1) : tR C E m σ H Q :=
  ⟨s, M, r, hs, hm, (h.fst cl).imp fun a M1 _ q p v H1 r1 x m1 y h1 => k p v H1 r1 M1 a x m1 y h1 (hs.go x hm) (q r1 H1 x m1)⟩
/-- of a reading, what is implied -/
theorem PE.imp {X : Cx} {e : Expr} {t t' : TE} (h : PE X e t) (f : ∀ σ H Q, t' σ H Q → t σ H Q) : PE X e t' := ⟨fun pins s σ H Q I q => h.run pins s σ H Q I (f σ H Q q)⟩
theorem PT.imp {X : Cx} {e : Expr} {t t' : TT} (h : PT X e t) (f : ∀ σ H Q, t' σ H Q → t σ H Q) : PT X e t' := ⟨fun pins s σ H Q I q => h.run pins s σ H Q I (f σ H Q q)⟩
theorem PA.imp {X : Cx} {e : List Expr} {t t' : TA} (h : PA X e t) (f : ∀ σ H Q, t' σ H Q → t σ H Q) : PA X e t' := ⟨fun pos pins s σ H Q I q => h.run pos pins s σ H Q I (f σ H Q q)⟩
theorem PS.imp {X : Cx} {e : Stmt} {t t' : TS} (h : PS X e t) (f : ∀ D σ H, t' D σ H → t D σ H) : PS X e t' := ⟨fun pins s σ H D I q => h.run pins s σ H D I (f D σ H q)⟩
theorem PSs.imp {X : Cx} {e : List Stmt} {t t' : TS} (h : PSs X e t) (f : ∀ D σ H, t' D σ H → t D σ H) : PSs X e t' := ⟨fun pins s σ H D I q => h.run pins s σ H D I (f D σ H q)⟩
end
end Sw

set_option autoImplicit false
set_option Elab.async false
set_option linter.all false
set_option maxRecDepth 100000
/-! Rules: expressions. -/
namespace Sw
open PySem PySem.Spec L2
theorem bnd_inv {α β : Type} {o : Out α} {f : α → Mem → Out β} {b : β} {M : Mem} (h : bnd o f = some (.ok b, M)) : ∃ a M1, o = some (.ok a, M1) ∧ f a M1 = some (.ok b, M) := by
  cases o with
  | none => simp [bnd] at h
  | some p =>
    obtain ⟨e, M1⟩ := p
    cases e with
    | error x => simp [bnd] at h
    | ok a => exact ⟨a, M1, rfl, h⟩
theorem ok_inv {α : Type} {a b : α} {M M' : Mem} (h : ok a M = some (.ok b, M')) : a = b ∧ M = M' := by
  simp only [ok, Option.some.injEq, Prod.mk.injEq, Except.ok.injEq] at h
  exact h
theorem eAs_len : ∀ {ms : List EM} {s : Sl} {M : Mem} {ws : List W} {M' : Mem}, eAs ms s M = some (.ok ws, M') → ws.length = ms.length
  | [], s, M, ws, M', e => by rw [← (ok_inv e).1]; rfl
  | m :: ms, s, M, ws, M', e => by
    obtain ⟨w, M1, _, e⟩ := bnd_inv e
    obtain ⟨us, M2, e2, e⟩ := bnd_inv e
    rw [← (ok_inv e).1, List.length_cons, List.length_cons, eAs_len e2]
section
variable {C : Rc} {E : XK} {X : Cx}
/-! ### arguments, displays -/
theorem i_nil : PA X [] (tA C E (eAs [])) := PA.imp pa_nil fun σ H Q ⟨s, M, r, hs, hm, p⟩ => p [] H r (Mono.refl _ _) hm rfl
theorem i_cons {e : Expr} {es : List Expr} {m : EM} {ms : List EM} (ha : PE X e (tE C E m)) (hr : PA X es (tA C E (eAs ms))) (hs : starEach (e :: es) X.env = (false, eval e X.env) :: starEach es X.env := by rfl) : PA X (e :: es) (tA C E (eAs (m :: ms))) :=
  PA.imp (pa_cons ha hr hs) fun _ _ _ ⟨_, _, _, hs, hm, p⟩ => tE_on Kl_cl hs hm p fun v H1 r1 M1 w x1 m1 q1 s1 p1 =>
    tA_on Kl_cl s1 m1 p1 fun vs H2 r2 M2 ws _ x2 m2 q2 s2 p2 => p2 (v :: vs) H2 r2 (Mono.refl _ _) m2 ⟨v, vs, rfl, RepW.go x2 m1 _ _ q1, q2⟩
theorem i_tup {es : List Expr} {ms : List EM} {x1 : _} {pos : Pos} (h : PA X es (tA C E (eAs ms))) (hl : ms.length ≤ 1000 := by exact Nat.le_of_ble_eq_true rfl) : PE X (.Tuple es x1 pos) (tE C E (eTup ms)) :=
  PE.imp (pe_tup h) fun _ _ _ ⟨_, _, _, hs, hm, p⟩ => tA_on Kv_cl hs hm p fun vs H1 r1 M1 ws e x1 m1 q1 s1 p1 =>
    ⟨by rw [q1.length, eAs_len e]; exact Nat.le_trans hl (by decide), fun a ha => p1 (.ref a) _ r1 (Mono.temp ha) (m1.temp ha) ⟨a, vs, rfl, .inl (.inl upd_same), RepWs.go (Mono.temp ha) m1 _ _ q1⟩⟩
/-- a list that nobody holds yet -/
theorem i_lstF {es : List Expr} {ms : List EM} {pos : Pos} (h : PA X es (tA C E (eAs ms))) (hl : ms.length ≤ 1000 := by exact Nat.le_of_ble_eq_true rfl) : PE X (.List es pos) (tF C E (eAs ms)) :=
  PE.imp (pe_lst h) fun _ _ _ ⟨s, M, r, hs, hm, p⟩ => ⟨s, M, r, hs, hm, p.imp fun ws M1 e k vs H1 r1 x1 m1 q1 =>
    ⟨by rw [q1.length, eAs_len e]; exact Nat.le_trans hl (by decide), fun a ha => k a vs _ r1 (x1.trans m1 (Mono.temp ha)) (m1.temp ha) (RepWs.go (Mono.temp ha) m1 _ _ q1) upd_same (m1.new ha) (x1.none_back m1 ha)
      (by rw [eAs_len e]; exact Nat.le_trans hl (by decide))⟩⟩
/-- a list laid already comes into the store -/
theorem RepM.take {H : Hp} {r : List Addr} {M : Mem} {a : Addr} {ws : List W} {vs : List V} (m : RepM C H r M) (h : H a = some (.lst vs)) (q : RepWs C H r ws vs) (n : a ∉ r) : RepM C H (r ++ [a]) (M ++ [O.lst ws]) := by
  refine ⟨by simp [m.len], fun i b o' h1 h2 => ?_, List.nodup_append.mpr ⟨m.nd, by simp, fun b hb c hc e => n (by rw [← List.mem_singleton.mp hc, ← e]; exact hb)⟩⟩
  by_cases hi : i < r.length
  · rw [List.getElem?_append_left hi] at h1
    rw [List.getElem?_append_left (by rw [← m.len]; exact hi)] at h2
    exact RepO_pre (m.obj i b o' h1 h2)
  · have hl : i < (r ++ [a]).length := (List.getElem?_eq_some_iff.mp h1).1
    have e : i = r.length := by simp at hl; omega
    subst e
    rw [List.getElem?_append_right (Nat.le_refl _)] at h1
    rw [m.len, List.getElem?_append_right (Nat.le_refl _)] at h2
    simp at h1 h2
    subst h1 h2
    exact ⟨vs, h, RepWs_pre q⟩
theorem Mono.take {H H1 : Hp} {r r1 : List Addr} {a : Addr} (x : Mono r r1 H H1) (h0 : H a = none) : Mono r (r1 ++ [a]) H H1 := by
  obtain ⟨t, e1, ht⟩ := x.pre
  exact ⟨⟨t ++ [a], by rw [e1, List.append_assoc], fun b hb => (List.mem_append.mp hb).elim (ht b) fun hb => by rw [List.mem_singleton.mp hb]; exact h0⟩, x.keep⟩
/-- .. taken into the store -/
theorem i_new {e : Expr} {l : LM} (h : PE X e (tF C E l)) : PE X e (tE C E (eNew l)) :=
  PE.imp h fun σ H Q ⟨s, M, r, hs, hm, p⟩ => by
    have p : PG C E r H (bnd (l s M) fun ws M => alloc (.lst ws) M) (Kv C Q r H) := p
    cases e : l s M with
    | none => rw [e] at p; exact p.elim
    | some o =>
      obtain ⟨o, M1⟩ := o
      rw [e] at p
      refine ⟨s, M, r, hs, hm, ?_⟩
      rw [e]
      cases o with
      | error x => exact p
      | ok ws => exact fun a vs H1 r1 x1 m1 q1 ha hn h0 _ => p (.ref a) H1 (r1 ++ [a]) (x1.take h0) (m1.take ha q1 hn) ⟨a, rfl, by rw [← m1.len, List.getElem?_append_right (Nat.le_refl _)]; simp⟩
/-- a list that is not of the store may be read -/
theorem i_ofF {e : Expr} {l : LM} (h : PE X e (tF C E l)) : PE X e (tR C E l) :=
  PE.imp h fun _ _ _ ⟨s, M, r, hs, hm, p⟩ => ⟨s, M, r, hs, hm, p.imp fun ws M1 e k a vs H1 r1 x1 m1 q1 ha hn h0 _ => k a vs H1 r1 x1 m1 q1 (.inl (.inl (.inl ha)))⟩
theorem Kr_of {H : Hp} {r : List Addr} {M : Mem} {w : W} {v : V} {ws : List W} (m : RepM C H r M) (q : RepW C H r w v) (h : items w M = some ws) : ∃ p vs, v = .ref p ∧ (SqL C.K H p vs ∨ SqT C.K H p vs) ∧ RepWs C H r ws vs := by
  cases w with
  | tup xs =>
    obtain ⟨a, vs, e, s, q⟩ := q
    simp only [items, Option.some.injEq] at h
    subst h
    exact ⟨a, vs, e, .inr s, q⟩
  | ref n =>
    obtain ⟨a, e, hn⟩ := q
    unfold items at h
    simp only at h
    split at h
    · rename_i xs hx
      simp only [Option.some.injEq] at h
      subst h
      obtain ⟨vs, h1, q⟩ := m.obj n a _ hn hx
      exact ⟨a, vs, e, .inl (.inl (.inl h1)), q⟩
    · cases h
  | scr ns =>
    obtain ⟨a, e, hl, hs⟩ := q
    simp only [items, Option.some.injEq] at h
    subst h
    refine ⟨a, _, e, .inl hs.seq, ?_⟩
    clear hs hl
    induction ns with
    | nil => rfl
    | cons n ns ih => exact ⟨.int n, ns.map V.int, rfl, rfl, ih⟩
  | _ => simp [items] at h
/-- any list or tuple that is at hand -/
theorem i_lOf {e : Expr} {m : EM} (h : PE X e (tE C E m)) : PE X e (tR C E (lOf m)) :=
  PE.imp h fun _ _ _ ⟨_, _, _, hs, hm, p⟩ => tE_on Kr_cl hs hm p fun v H1 r1 M1 w x1 m1 q1 s1 p1 => by
    cases e : items w M1 with
    | none => rw [e] at p1; exact p1.elim
    | some ws =>
      rw [e] at p1
      obtain ⟨a, vs, ev, sq, q⟩ := Kr_of m1 q1 e
      subst ev
      exact p1 a vs H1 r1 (Mono.refl _ _) m1 q sq
/-! ### names, constants -/
theorem i_V {i : Nat} {x : Str} {pos : Pos} (hN : X.N[i]? = some x) (hv : Vis X.env.scope x) (hd : (x == ("__debug__" : Str)) = false := by decide) (hcd : (x == ("__classdict__" : Str)) = false := by decide) : PE X (.Name x pos) (tE C E (eV i)) :=
  PE.imp (pe_var hN hv hd hcd) fun σ H Q ⟨s, M, r, hs, hm, p⟩ => by
    unfold eV at p
    split at p
    · rename_i w hw
      obtain ⟨v, e, q⟩ := hs.2 i w hw
      exact ⟨v, e, p v H r (Mono.refl _ _) hm q⟩
    · exact p.elim
theorem i_C {e : Expr} {v : V} {w : W} (h : PE X e (tC v)) (q : ∀ H r, RepW C H r w v) : PE X e (tE C E (eC w)) :=
  PE.imp h fun σ H Q ⟨s, M, r, hs, hm, p⟩ => p v H r (Mono.refl _ _) hm (q H r)
theorem i_int {i : Int} {j : Nat} {pos : Pos} : PE X (.Constant (.int i) j pos) (tE C E (eC (.int i))) := i_C pe_int fun _ _ => rfl
theorem i_bl {b : Bool} {j : Nat} {pos : Pos} : PE X (.Constant (.bool b) j pos) (tE C E (eC (.bl b))) := i_C pe_bl fun _ _ => rfl
theorem i_non {j : Nat} {pos : Pos} : PE X (.Constant .none j pos) (tE C E (eC .non)) := i_C pe_non fun _ _ => rfl
theorem tx_cps (x : Str) : tx x.cps.toList = x := by cases x; rfl
theorem i_str {x : Str} {z : Tx} {j : Nat} {pos : Pos} (hz : x = tx z := by rfl) : PE X (.Constant (.str x) j pos) (tE C E (eC (.str z))) := i_C pe_str fun _ _ => by subst hz; rfl
/-! ### operators -/
theorem i_op {op : Operator} {f : Op2} {a b : Expr} {ma mb : EM} {pos : Pos} (ho : OpR X (binaryOp op) (r2 C E f)) (ha : PE X a (tE C E ma)) (hb : PE X b (tE C E mb)) : PE X (.BinOp a op b pos) (tE C E (eOp f ma mb)) :=
  PE.imp (pe_op ho ha hb) fun _ _ _ ⟨_, _, _, hs, hm, p⟩ => tE_on Kv_cl hs hm p fun v H1 r1 M1 w x1 m1 q1 s1 p1 =>
    tE_on Kv_cl s1 m1 p1 fun u H2 r2 M2 z x2 m2 q2 s2 p2 => ⟨r2, M2, w, z, m2, RepW.go x2 m1 _ _ q1, q2, p2⟩
theorem i_cmp {op : CmpOp} {f : Op2} {a b : Expr} {ma mb : EM} {pos : Pos} (ho : OpR X (compareOp op) (r2 C E f)) (ha : PE X a (tE C E ma)) (hb : PE X b (tE C E mb)) (hm : behindInMarks op b = false := by rfl) : PE X (.Compare a [op] [b] pos) (tE C E (eOp f ma mb)) :=
  PE.imp (pe_cmpR ho ha hb hm) fun _ _ _ ⟨_, _, _, hs, hm, p⟩ => tE_on Kv_cl hs hm p fun v H1 r1 M1 w x1 m1 q1 s1 p1 =>
    tE_on Kv_cl s1 m1 p1 fun u H2 r2 M2 z x2 m2 q2 s2 p2 => ⟨r2, M2, w, z, m2, RepW.go x2 m1 _ _ q1, q2, p2⟩
theorem i_un {op : UnaryOp} {f : Op1} {a : Expr} {ma : EM} {pos : Pos} (ho : UnR X (unaryOp op) (r1 C E f)) (ha : PE X a (tE C E ma)) : PE X (.UnaryOp op a pos) (tE C E (eUn f ma)) :=
  PE.imp (pe_un ho ha) fun _ _ _ ⟨_, _, _, hs, hm, p⟩ => tE_on Kv_cl hs hm p fun v H1 r1 M1 w x1 m1 q1 s1 p1 => ⟨r1, M1, w, m1, q1, p1⟩
theorem i_ix {a b : Expr} {ma mb : EM} {pos : Pos} {f : Op2} (ho : IxR X (r2 C E f)) (ha : PE X a (tE C E ma)) (hb : PE X b (tE C E mb)) (hs : PlainIx b := by intro _ _; rfl) : PE X (.Subscript a b pos) (tE C E (eOp f ma mb)) :=
  PE.imp (pe_ix ho ha hb hs) fun _ _ _ ⟨_, _, _, hs, hm, p⟩ => tE_on Kv_cl hs hm p fun v H1 r1 M1 w x1 m1 q1 s1 p1 =>
    tE_on Kv_cl s1 m1 p1 fun u H2 r2 M2 z x2 m2 q2 s2 p2 => ⟨r2, M2, w, z, m2, RepW.go x2 m1 _ _ q1, q2, p2⟩
/-! ### tests -/
theorem i_t {e : Expr} {m : EM} (h : PE X e (tE C E m)) (he : ∀ whole, isTrue e X.env whole = (do let v ← whole; standAt e.pos; holding [v] (truthy v)) := by intro _; rfl) : PT X e (tT C E m) :=
  PT.imp (pt_val h he) fun _ _ _ ⟨s, M, r, hs, hm, p⟩ => ⟨s, M, r, hs, hm, p.imp fun w M1 _ ⟨b, e, k⟩ v H1 r1 x1 m1 q1 => by
    subst e
    exact ⟨b, q1, k H1 r1 x1 m1⟩⟩
theorem i_tcmp {op : CmpOp} {f : Op2} {a b : Expr} {ma mb : EM} {pos : Pos} (ho : OpR X (compareOp op) (r2 C E f)) (ha : PE X a (tE C E ma)) (hb : PE X b (tE C E mb)) (hm : behindInMarks op b = false := by rfl) : PT X (.Compare a [op] [b] pos) (tT C E (eOp f ma mb)) :=
  PT.imp (pt_cmpR ho ha hb hm) fun σ H Q ⟨s, M, r, hs, hm, p⟩ => by
    have g : tE C E (eOp f ma mb) σ H (fun z H3 => ∃ k, z = .bl k ∧ Q k H3) := ⟨s, M, r, hs, hm, p.imp fun w M1 _ ⟨b, e, k⟩ v H1 r1 x1 m1 q1 => by
      subst e
      exact ⟨b, q1, k H1 r1 x1 m1⟩⟩
    obtain ⟨s, M, r, hs, hm, p⟩ := g
    exact tE_on Kv_cl hs hm p fun v H1 r1 M1 w x1 m1 q1 s1 p1 => tE_on Kv_cl s1 m1 p1 fun u H2 r2 M2 z x2 m2 q2 s2 p2 => ⟨r2, M2, w, z, m2, RepW.go x2 m1 _ _ q1, q2, p2⟩
theorem i_tnot {a : Expr} {m : EM} {pos : Pos} (ha : PT X a (tT C E m)) : PT X (.UnaryOp .Not a pos) (tT C E (eUn uNot m)) :=
  PT.imp (pt_not ha) fun _ _ _ ⟨_, _, _, hs, hm, p⟩ => tT_on Kb_cl hs hm p (fun w M1 h => by cases w <;> first | rfl | exact absurd rfl (h _)) fun b H1 r1 M1 x1 m1 s1 p1 => by
    obtain ⟨c, e, k⟩ := p1
    cases e
    exact k H1 r1 (Mono.refl _ _) m1
theorem i_tand1 {a : Expr} {m : EM} {pos : Pos} (ha : PT X a (tT C E m)) : PW X (.BoolOp .And [a] pos) (tT C E m) := pw_and1 ha
theorem i_tor1 {a : Expr} {m : EM} {pos : Pos} (ha : PT X a (tT C E m)) : PW X (.BoolOp .Or [a] pos) (tT C E m) := pw_or1 ha
theorem PW.imp {e : Expr} {t t' : TT} (h : PW X e t) (f : ∀ σ H Q, t' σ H Q → t σ H Q) : PW X e t' := ⟨fun wh pins s σ H Q I q => h.run wh pins s σ H Q I (f σ H Q q)⟩
theorem i_tand {a b : Expr} {rest : List Expr} {ma mb : EM} {pos : Pos} (ha : PT X a (tT C E ma)) (hb : PW X (.BoolOp .And (b :: rest) pos) (tT C E mb)) : PW X (.BoolOp .And (a :: b :: rest) pos) (tT C E (eAnd ma mb)) :=
  PW.imp (pw_and ha hb) fun _ _ _ ⟨_, _, _, hs, hm, p⟩ => tT_on Kb_cl hs hm p (fun w M1 h => by cases w <;> first | rfl | exact absurd rfl (h _)) fun b H1 r1 M1 x1 m1 s1 p1 => by
    cases b with
    | true => exact iteT ⟨_, _, _, s1, m1, p1⟩
    | false =>
      refine iteF ?_
      obtain ⟨c, e, k⟩ := p1
      cases e
      exact k H1 r1 (Mono.refl _ _) m1
theorem i_tor {a b : Expr} {rest : List Expr} {ma mb : EM} {pos : Pos} (ha : PT X a (tT C E ma)) (hb : PW X (.BoolOp .Or (b :: rest) pos) (tT C E mb)) : PW X (.BoolOp .Or (a :: b :: rest) pos) (tT C E (eOr ma mb)) :=
  PW.imp (pw_or ha hb) fun _ _ _ ⟨_, _, _, hs, hm, p⟩ => tT_on Kb_cl hs hm p (fun w M1 h => by cases w <;> first | rfl | exact absurd rfl (h _)) fun b H1 r1 M1 x1 m1 s1 p1 => by
    cases b with
    | false => exact iteF ⟨_, _, _, s1, m1, p1⟩
    | true =>
      refine iteT ?_
      obtain ⟨c, e, k⟩ := p1
      cases e
      exact k H1 r1 (Mono.refl _ _) m1
/-! ### and, or, not, if as values -/
theorem i_one {op : BoolOp} {a : Expr} {m : EM} {pos : Pos} (ha : PE X a (tE C E m)) : PE X (.BoolOp op [a] pos) (tE C E m) := pe_one ha
theorem bl_of {H : Hp} {r : List Addr} {w : W} {v : V} (q : RepW C H r w v) : ∀ b, w = .bl b → v = .bl b := fun b e => by subst e; exact q
theorem i_and {a b : Expr} {rest : List Expr} {ma mb : EM} {pos : Pos} (ha : PE X a (tE C E ma)) (hb : PE X (.BoolOp .And (b :: rest) pos) (tE C E mb)) : PE X (.BoolOp .And (a :: b :: rest) pos) (tE C E (eAnd ma mb)) :=
  PE.imp (pe_and ha hb) fun _ _ _ ⟨_, _, _, hs, hm, p⟩ => tE_on Kv_cl hs hm p fun v H1 r1 M1 w x1 m1 q1 s1 p1 => by
    cases w with
    | bl c =>
      refine ⟨c, q1, ?_⟩
      cases c with
      | true => exact iteT ⟨_, _, _, s1, m1, p1⟩
      | false => exact iteF (p1 (.bl false) H1 r1 (Mono.refl _ _) m1 rfl)
    | _ => exact p1.elim
theorem i_or {a b : Expr} {rest : List Expr} {ma mb : EM} {pos : Pos} (ha : PE X a (tE C E ma)) (hb : PE X (.BoolOp .Or (b :: rest) pos) (tE C E mb)) : PE X (.BoolOp .Or (a :: b :: rest) pos) (tE C E (eOr ma mb)) :=
  PE.imp (pe_or ha hb) fun _ _ _ ⟨_, _, _, hs, hm, p⟩ => tE_on Kv_cl hs hm p fun v H1 r1 M1 w x1 m1 q1 s1 p1 => by
    cases w with
    | bl c =>
      refine ⟨c, q1, ?_⟩
      cases c with
      | false => exact iteF ⟨_, _, _, s1, m1, p1⟩
      | true => exact iteT (p1 (.bl true) H1 r1 (Mono.refl _ _) m1 rfl)
    | _ => exact p1.elim
theorem i_not {a : Expr} {m : EM} {pos : Pos} (ha : PE X a (tE C E m)) : PE X (.UnaryOp .Not a pos) (tE C E (eUn uNot m)) :=
  PE.imp (pe_not ha) fun _ _ _ ⟨_, _, _, hs, hm, p⟩ => tE_on Kv_cl hs hm p fun v H1 r1 M1 w x1 m1 q1 s1 p1 => by
    cases w with
    | bl c => exact ⟨c, q1, p1 (.bl (!c)) H1 r1 (Mono.refl _ _) m1 rfl⟩
    | _ => exact p1.elim
theorem i_if {c a b : Expr} {mc ma mb : EM} {pos : Pos} (hc : PT X c (tT C E mc)) (ha : PE X a (tE C E ma)) (hb : PE X b (tE C E mb)) : PE X (.IfExp c a b pos) (tE C E (eIf mc ma mb)) :=
  PE.imp (pe_ifExp hc ha hb) fun _ _ _ ⟨_, _, _, hs, hm, p⟩ => tT_on Kv_cl hs hm p (fun w M1 h => by cases w <;> first | rfl | exact absurd rfl (h _)) fun b H1 r1 M1 x1 m1 s1 p1 => by
    cases b with
    | true => exact iteT ⟨_, _, _, s1, m1, p1⟩
    | false => exact iteF ⟨_, _, _, s1, m1, p1⟩
/-! ### statements -/
theorem i_expr {e : Expr} {m : EM} {pos : Pos} (h : PE X e (tE C E m)) (hs : swapsWith e none pos.line X.env = pure false := by rfl) : PS X (.Expr e pos) (tS C E (sExp m)) :=
  PS.imp (ps_expr h hs) fun _ _ _ ⟨_, _, _, hs, hm, p⟩ => tE_on Ks_cl hs hm p fun v H1 r1 M1 w x1 m1 q1 s1 p1 => p1 _ H1 r1 (Mono.refl _ _) m1 s1
theorem i_ret {e : Expr} {m : EM} {pos : Pos} (h : PE X e (tE C E m)) : PS X (.Return (some e) pos) (tS C E (sRet m)) :=
  PS.imp (ps_ret h) fun _ _ _ ⟨_, _, _, hs, hm, p⟩ => tE_on Ks_cl hs hm p fun v H1 r1 M1 w x1 m1 q1 s1 p1 => p1 v H1 r1 (Mono.refl _ _) m1 q1
theorem i_pass {pos : Pos} : PS X (.Pass pos) (tS C E sPass) := PS.imp ps_pass fun D σ H ⟨s, M, r, hs, hm, p⟩ => p σ H r (Mono.refl _ _) hm hs
theorem i_sif {c : Expr} {a b : List Stmt} {mc : EM} {ma mb : SM} {pos : Pos} (hc : PT X c (tT C E mc)) (ha : PSs X a (tS C E ma)) (hb : PSs X b (tS C E mb)) : PS X (.If c a b pos) (tS C E (sIf mc ma mb)) :=
  PS.imp (ps_if hc ha hb) fun _ _ _ ⟨_, _, _, hs, hm, p⟩ => tT_on Ks_cl hs hm p (fun w M1 h => by cases w <;> first | rfl | exact absurd rfl (h _)) fun b H1 r1 M1 x1 m1 s1 p1 => by
    cases b with
    | true => exact iteT ⟨_, _, _, s1, m1, p1⟩
    | false => exact iteF ⟨_, _, _, s1, m1, p1⟩
theorem i_snil : PSs X [] (tS C E sPass) := PSs.imp pss_nil fun D σ H ⟨s, M, r, hs, hm, p⟩ => p σ H r (Mono.refl _ _) hm hs
theorem i_sone {st : Stmt} {m : SM} (h : PS X st (tS C E m)) : PSs X [st] (tS C E m) := pss_one h
theorem tS_on {m : SM} {f : Sl → SM} {D D1 : Ends} {σ : L2.St} {H : Hp} {r : List Addr} {M : Mem} {s : Sl} (hs : RepS C H r s σ) (hm : RepM C H r M)
    (h : PG C E r H (bnd (m s M) fun fl M => match fl with
      | .nx s' => f s' s' M
      | .rt w => ok (.rt w) M) (Ks C D r H))
    (hrt : ∀ v H', D.rt v H' → D1.rt v H')
    (k : ∀ s' σ' H1 r1 M1, Mono r r1 H H1 → RepM C H1 r1 M1 → RepS C H1 r1 s' σ' → PG C E r1 H1 (f s' s' M1) (Ks C D r1 H1) → D1.nx σ' H1) : tS C E m D1 σ H := by
  refine ⟨s, M, r, hs, hm, (h.fst Ks_cl).imp fun fl M1 e q => ?_⟩
  cases fl with
  | nx s' => exact fun σ' H1 r1 x m1 s1 => k s' σ' H1 r1 M1 x m1 s1 (q r1 H1 x m1)
  | rt w => exact fun v H1 r1 x m1 qv => hrt v H1 (q r1 H1 x m1 v H1 r1 (Mono.refl _ _) m1 qv)
theorem i_scons {st : Stmt} {rest : List Stmt} {m u : SM} (h : PS X st (tS C E m)) (k : PSs X rest (tS C E u)) : PSs X (st :: rest) (tS C E (sSeq m u)) :=
  PSs.imp (pss_cons h k) fun D σ H ⟨s, M, r, hs, hm, p⟩ => tS_on (f := fun s => u) (D := D) hs hm p (fun _ _ q => q) fun s' σ' H1 r1 M1 x m1 s1 p1 => ⟨s', M1, r1, s1, m1, p1⟩
end
end Sw

set_option autoImplicit false
set_option Elab.async false
set_option linter.all false
set_option maxRecDepth 100000
/-! Data: == and in, told of the model. -/
namespace Sw
open PySem PySem.Spec L2
def hasM : List W → Bool
  | .scr _ :: _ => true
  | _ => false
mutual
/-- a value with its lists written out, as the library's data -/
def toD : W → PyData
  | .non => .none
  | .bl b => .bool b
  | .int i => .int i
  | .str s => .str (tx s)
  | .tup ws => if hasM ws then .list (toDs ws).tail else .tuple (toDs ws)
  | .ref _ => .none
  | .scr _ => .none
def toDs : List W → List PyData
  | [] => []
  | w :: ws => toD w :: toDs ws
end
/-! written out well: marks stand at the head of tuples alone -/
mutual
def isF : W → Bool
  | .tup ws => isFt ws
  | .ref _ => false
  | .scr _ => false
  | _ => true
def isFs : List W → Bool
  | [] => true
  | w :: ws => isF w && isFs ws
def isFt : List W → Bool
  | [] => true
  | .scr [] :: ws => isFs ws
  | w :: ws => isF w && isFs ws
end
mutual
theorem isF_of_D : ∀ w : W, isD w = true → isF w = true
  | .non, _ => rfl
  | .bl _, _ => rfl
  | .int _, _ => rfl
  | .str _, _ => rfl
  | .tup ws, h => by
    have h : isDs ws = true := h
    cases ws with
    | nil => rfl
    | cons w ws =>
      have hh := isFs_of_D (w :: ws) h
      cases w <;> first | exact hh | (simp [isDs, isD] at h)
  | .ref _, h => by simp [isD] at h
  | .scr _, h => by simp [isD] at h
theorem isFs_of_D : ∀ ws : List W, isDs ws = true → isFs ws = true
  | [], _ => rfl
  | w :: ws, h => by
    rw [isDs, Bool.and_eq_true] at h
    rw [isFs, isF_of_D w h.1, isFs_of_D ws h.2]
    rfl
end
theorem hasM_of_D {ws : List W} (h : isDs ws = true) : hasM ws = false := by
  cases ws with
  | nil => rfl
  | cons w ws => cases w <;> first | rfl | (simp [isDs, isD] at h)
theorem hasM_of_F {ws : List W} (h : isFs ws = true) : hasM ws = false := by
  cases ws with
  | nil => rfl
  | cons w ws => cases w <;> first | rfl | (simp [isFs, isF] at h)
/-- a row's head: a mark, or none -/
theorem isFt_cases {ws : List W} (h : isFt ws = true) : (∃ r, ws = .scr [] :: r ∧ isFs r = true) ∨ (isFs ws = true ∧ hasM ws = false) := by
  cases ws with
  | nil => exact .inr ⟨rfl, rfl⟩
  | cons w ws =>
    cases w with
    | scr ns =>
      cases ns with
      | nil => exact .inl ⟨ws, rfl, h⟩
      | cons n ns => simp [isFt, isF] at h
    | _ => exact .inr ⟨h, rfl⟩
theorem toD_lst {ws : List W} : toD (.tup (.scr [] :: ws)) = .list (toDs ws) := by simp [toD, hasM, toDs]
theorem toD_tup {ws : List W} (h : hasM ws = false) : toD (.tup ws) = .tuple (toDs ws) := by simp [toD, h]
mutual
theorem toD_plain : ∀ w : W, PyData.plain (toD w) = true
  | .non => rfl
  | .bl _ => rfl
  | .int _ => rfl
  | .str _ => rfl
  | .tup ws => by
    have h := toDs_plain ws
    rw [toD]
    split
    · rw [PyData.plain]
      cases ws with
      | nil => rfl
      | cons w ws =>
        rw [toDs, PyData.plainAll, Bool.and_eq_true] at h
        exact h.2
    · rw [PyData.plain]
      exact h
  | .ref _ => rfl
  | .scr _ => rfl
theorem toDs_plain : ∀ ws : List W, PyData.plainAll (toDs ws) = true
  | [] => rfl
  | w :: ws => by
    rw [toDs, PyData.plainAll, toD_plain w, toDs_plain ws]
    rfl
end
mutual
theorem toD_depth : ∀ w : W, (toD w).depth ≤ dep w
  | .non => Nat.le_refl _
  | .bl _ => Nat.le_refl _
  | .int _ => Nat.le_refl _
  | .str _ => Nat.le_refl _
  | .tup ws => by
    have h := toDs_depth ws
    rw [toD, dep]
    split
    · rw [PyData.depth]
      cases ws with
      | nil => exact Nat.succ_le_succ (Nat.zero_le _)
      | cons w ws =>
        refine Nat.succ_le_succ (Nat.le_trans ?_ h)
        rw [toDs, PyData.depthAll]
        exact Nat.le_max_right _ _
    · rw [PyData.depth]
      exact Nat.succ_le_succ h
  | .ref _ => Nat.le_refl _
  | .scr _ => Nat.le_refl _
theorem toDs_depth : ∀ ws : List W, PyData.depthAll (toDs ws) ≤ deps ws
  | [] => Nat.le_refl _
  | w :: ws => by
    rw [toDs, PyData.depthAll, deps]
    have h1 := toD_depth w
    have h2 := toDs_depth ws
    omega
end
theorem eqD_tup (xs ys : List W) : eqD (.tup xs) (.tup ys) = decide (nrms xs = nrms ys) := by
  unfold eqD
  exact decide_eq_decide.mpr (by rw [nrm, nrm]; exact ⟨fun h => W.tup.inj h, fun h => by rw [h]⟩)
theorem eqDs_cons (x y : W) (xs ys : List W) : decide (nrms (x :: xs) = nrms (y :: ys)) = (eqD x y && decide (nrms xs = nrms ys)) := by
  unfold eqD
  rw [nrms, nrms, ← Bool.decide_and]
  exact decide_eq_decide.mpr List.cons_eq_cons
theorem nrms_len : ∀ xs : List W, (nrms xs).length = xs.length
  | [] => rfl
  | x :: xs => by rw [nrms, List.length_cons, List.length_cons, nrms_len xs]
theorem str_tx (a b : Tx) : (tx a == tx b) = decide (a = b) := by
  by_cases h : a = b
  · subst h
    simp
  · rw [decide_eq_false h]
    exact beq_eq_false_iff_ne.mpr fun e => h (tx_inj e)
mutual
theorem eqv_D : ∀ (x y : W), isF x = true → isF y = true → PyData.eqv (toD x) (toD y) = eqD x y
  | .non, y, _, hy => by
    cases y with
    | tup ys => rw [toD, toD]; split <;> simp [PyData.eqv, eqD, nrm]
    | ref _ => simp [isF] at hy
    | scr _ => simp [isF] at hy
    | _ => simp [toD, PyData.eqv, eqD, nrm]
  | .bl a, y, _, hy => by
    cases y with
    | tup ys => rw [toD, toD]; split <;> simp [PyData.eqv, eqD, nrm]
    | ref _ => simp [isF] at hy
    | scr _ => simp [isF] at hy
    | bl b => cases a <;> cases b <;> rfl
    | int i => simp only [toD, PyData.eqv, eqD, nrm]; rw [Bool.eq_iff_iff]; simp
    | _ => simp [toD, PyData.eqv, eqD, nrm]
  | .int a, y, _, hy => by
    cases y with
    | tup ys => rw [toD, toD]; split <;> simp [PyData.eqv, eqD, nrm]
    | ref _ => simp [isF] at hy
    | scr _ => simp [isF] at hy
    | bl b => simp only [toD, PyData.eqv, eqD, nrm]; rw [Bool.eq_iff_iff]; simp
    | int i => simp only [toD, PyData.eqv, eqD, nrm]; rw [Bool.eq_iff_iff]; simp
    | _ => simp [toD, PyData.eqv, eqD, nrm]
  | .str a, y, _, hy => by
    cases y with
    | tup ys => rw [toD, toD]; split <;> simp [PyData.eqv, eqD, nrm]
    | ref _ => simp [isF] at hy
    | scr _ => simp [isF] at hy
    | str b => simp only [toD, PyData.eqv, eqD, nrm, str_tx]; exact decide_eq_decide.mpr ⟨fun h => by rw [h], fun h => W.str.inj h⟩
    | _ => simp [toD, PyData.eqv, eqD, nrm]
  | .tup xs, y, hx, hy => by
    cases y with
    | tup ys =>
      rw [eqD_tup]
      rcases isFt_cases (ws := xs) hx with ⟨r, e, hr⟩ | ⟨hr, hm⟩
      · subst e
        rw [toD_lst]
        rcases isFt_cases (ws := ys) hy with ⟨q, e, hq⟩ | ⟨hq, hn⟩
        · subst e
          rw [toD_lst, PyData.eqv, eqDs_cons, eqvs_D r q hr hq]
          rfl
        · rw [toD_tup hn]
          cases ys with
          | nil => simp [PyData.eqv, nrms, toDs]
          | cons y ys =>
            rw [eqDs_cons]
            have : eqD (.scr []) y = false := by
              unfold eqD
              cases y <;> first | (simp [isFs, isF] at hq; done) | simp [nrm]
            rw [this]
            simp [PyData.eqv]
      · rw [toD_tup hm]
        rcases isFt_cases (ws := ys) hy with ⟨q, e, hq⟩ | ⟨hq, hn⟩
        · subst e
          rw [toD_lst]
          cases xs with
          | nil => simp [PyData.eqv, nrms, toDs]
          | cons x xs =>
            rw [eqDs_cons]
            have : eqD x (.scr []) = false := by
              unfold eqD
              cases x <;> first | (simp [isFs, isF] at hr; done) | simp [nrm]
            rw [this]
            simp [PyData.eqv]
        · rw [toD_tup hn, PyData.eqv, eqvs_D xs ys hr hq]
    | ref _ => simp [isF] at hy
    | scr _ => simp [isF] at hy
    | _ => rw [toD, toD]; split <;> simp [PyData.eqv, eqD, nrm]
  | .ref _, _, hx, _ => by simp [isF] at hx
  | .scr _, _, hx, _ => by simp [isF] at hx
theorem eqvs_D : ∀ (xs ys : List W), isFs xs = true → isFs ys = true → PyData.eqvAll (toDs xs) (toDs ys) = decide (nrms xs = nrms ys)
  | [], [], _, _ => by simp [toDs, PyData.eqvAll]
  | [], y :: ys, _, _ => by simp [toDs, PyData.eqvAll, nrms]
  | x :: xs, [], _, _ => by simp [toDs, PyData.eqvAll, nrms]
  | x :: xs, y :: ys, hx, hy => by
    rw [isFs, Bool.and_eq_true] at hx hy
    rw [toDs, toDs, PyData.eqvAll, eqDs_cons, eqv_D x y hx.1 hy.1, eqvs_D xs ys hx.2 hy.2]
end
section
variable {C : Rc} {H : Hp} {r : List Addr} {M : Mem}
mutual
theorem RepW.dp : ∀ (w : W) (v : V), isD w = true → RepW C H r w v → Dp C.K H v (toD w)
  | .non, v, _, h => by rw [show v = .non from h]; exact .non
  | .bl b, v, _, h => by rw [show v = .bl b from h]; exact .bl b
  | .int i, v, _, h => by rw [show v = .int i from h]; exact .int i
  | .str s, v, _, h => by rw [show v = .str (tx s) from h]; exact .str _
  | .tup ws, v, hd, h => by
    obtain ⟨a, vs, rfl, s, q⟩ := h
    have hd : isDs ws = true := hd
    rw [toD_tup (hasM_of_D hd)]
    exact .tup s (RepWs.dp ws vs hd q)
  | .ref _, _, hd, _ => by simp [isD] at hd
  | .scr _, _, hd, _ => by simp [isD] at hd
theorem RepWs.dp : ∀ (ws : List W) (vs : List V), isDs ws = true → RepWs C H r ws vs → DpAll C.K H vs (toDs ws)
  | [], vs, _, h => by rw [show vs = [] from h]; exact .nil
  | w :: ws, vs, hd, h => by
    obtain ⟨v, vr, rfl, p, q⟩ := h
    rw [isDs, Bool.and_eq_true] at hd
    exact .cons (RepW.dp w v hd.1 p) (RepWs.dp ws vr hd.2 q)
end
theorem flats_F {f : W → Option W} (hf : ∀ (w x : W), f w = some x → isF x = true) : ∀ {ws xs : List W}, flats f ws = some xs → isFs xs = true
  | [], xs, h => by simp [flats] at h; subst h; rfl
  | w :: ws, xs, h => by
    unfold flats at h
    split at h
    · rename_i a b ha hb
      simp only [Option.some.injEq] at h
      subst h
      rw [isFs, hf w a ha, flats_F hf hb]
      rfl
    · cases h
theorem isFt_of_Fs {ws : List W} (h : isFs ws = true) : isFt ws = true := by
  cases ws with
  | nil => rfl
  | cons w ws => cases w <;> first | exact h | (simp [isFs, isF] at h)
theorem flatF_F : ∀ (n : Nat) (w x : W), flatF n M w = some x → isF x = true
  | 0, w, x, h => by
    unfold flatF at h
    split at h
    · rename_i hd
      simp only [Option.some.injEq] at h
      subst h
      exact isF_of_D _ hd
    · cases h
  | n + 1, w, x, h => by
    unfold flatF at h
    split at h
    · rename_i hd
      simp only [Option.some.injEq] at h
      subst h
      exact isF_of_D _ hd
    · split at h
      · rename_i ws _
        cases e : flats (flatF n M) ws with
        | none => rw [e] at h; cases h
        | some xs =>
          rw [e] at h
          simp only [Option.map_some, Option.some.injEq] at h
          subst h
          exact isFt_of_Fs (flats_F (fun w x => flatF_F n w x) e)
      · split at h
        · rename_i ws _
          cases e : flats (flatF n M) ws with
          | none => rw [e] at h; cases h
          | some xs =>
            rw [e] at h
            simp only [Option.map_some, Option.some.injEq] at h
            subst h
            exact flats_F (fun w x => flatF_F n w x) e
        · cases h
      · cases h
theorem flats_dp {f : W → Option W} (hf : ∀ (w x : W) (v : V), f w = some x → RepW C H r w v → Dp C.K H v (toD x)) : ∀ {ws xs : List W} {vs : List V}, flats f ws = some xs → RepWs C H r ws vs → DpAll C.K H vs (toDs xs)
  | [], xs, vs, h, q => by simp [flats] at h; subst h; rw [show vs = [] from q]; exact .nil
  | w :: ws, xs, vs, h, q => by
    obtain ⟨v, vr, rfl, p, q⟩ := q
    unfold flats at h
    split at h
    · rename_i a b ha hb
      simp only [Option.some.injEq] at h
      subst h
      exact .cons (hf w a v ha p) (flats_dp hf hb q)
    · cases h
theorem flatF_dp (m : RepM C H r M) : ∀ (n : Nat) (w x : W) (v : V), flatF n M w = some x → RepW C H r w v → Dp C.K H v (toD x)
  | 0, w, x, v, h, q => by
    unfold flatF at h
    split at h
    · rename_i hd
      simp only [Option.some.injEq] at h
      subst h
      exact RepW.dp _ _ hd q
    · cases h
  | n + 1, w, x, v, h, q => by
    unfold flatF at h
    split at h
    · rename_i hd
      simp only [Option.some.injEq] at h
      subst h
      exact RepW.dp _ _ hd q
    · split at h
      · rename_i ws _
        cases e : flats (flatF n M) ws with
        | none => rw [e] at h; cases h
        | some xs =>
          rw [e] at h
          simp only [Option.map_some, Option.some.injEq] at h
          subst h
          obtain ⟨a, vs, rfl, s, q⟩ := q
          rw [toD_tup (hasM_of_F (flats_F (fun w x => flatF_F n w x) e))]
          exact .tup s (flats_dp (fun w x v => flatF_dp m n w x v) e q)
      · split at h
        · rename_i i _ _ ws hi
          cases e : flats (flatF n M) ws with
          | none => rw [e] at h; cases h
          | some xs =>
            rw [e] at h
            simp only [Option.map_some, Option.some.injEq] at h
            subst h
            obtain ⟨a, rfl, ha⟩ := q
            obtain ⟨vs, h1, q⟩ := m.obj i a _ ha hi
            rw [toD_lst]
            exact .lst (.inl (.inl h1)) (flats_dp (fun w x v => flatF_dp m n w x v) e q)
        · cases h
      · cases h
end
/-! ### the operators -/
section
variable {C : Rc} {E : XK} {X : Cx}
theorem eqOut_go {H : Hp} {r : List Addr} {M : Mem} {o : Option Bool} {Q : VK} {b : Bool} (m : RepM C H r M) (e : o = some b) (p : PG C E r H (eqOut M o) (Kv C Q r H)) : Q (.bl b) H := by
  subst e
  exact p (.bl b) H r (Mono.refl _ _) m rfl
theorem room64 {X : Cx} {a b n : Nat} (hu : X.A.units + 64 < cLine) (h : a ≤ n) (hn : n ≤ 61) : X.A.units + min a b < cLine := by
  have : min a b ≤ a := Nat.min_le_left _ _
  omega
theorem o_eq (hK : C.K = X.K) (hu : X.A.units + 64 < cLine) : OpR X (compareOp .Eq) (r2 C E oEq) := by
  intro pins s σ H x y v u Q I rx ry ⟨r, M, a, b, m, qa, qb, p⟩
  have p : PG C E r H (eqOut M (eqW M a b)) (Kv C Q r H) := p
  unfold eqW at p
  split at p
  · rename_i fa fb ha hb
    split at p
    · rename_i hd
      have da := flatF_dp m 4 a fa x ha qa
      have db := flatF_dp m 4 b fb y hb qb
      rw [hK] at da db
      obtain ⟨as, ra⟩ := Dp.reads I _ _ _ da rx
      obtain ⟨bs, rb⟩ := Dp.reads I _ _ _ db ry
      refine PySem.SeqAt.eq_plain ra rb (toD_plain _) (toD_plain _) (room64 hu (Nat.le_trans (toD_depth _) hd.1) (by decide)) ⟨.bl _, H, I, rfl, ?_⟩
      rw [eqv_D _ _ (flatF_F 4 a fa ha) (flatF_F 4 b fb hb)]
      exact eqOut_go m rfl p
    · exact p.elim
  · exact p.elim
theorem o_ne (hK : C.K = X.K) (hu : X.A.units + 64 < cLine) : OpR X (compareOp .NotEq) (r2 C E oNe) := by
  intro pins s σ H x y v u Q I rx ry ⟨r, M, a, b, m, qa, qb, p⟩
  have p : PG C E r H (eqOut M ((eqW M a b).map (!·))) (Kv C Q r H) := p
  unfold eqW at p
  split at p
  · rename_i fa fb ha hb
    split at p
    · rename_i hd
      have da := flatF_dp m 4 a fa x ha qa
      have db := flatF_dp m 4 b fb y hb qb
      rw [hK] at da db
      obtain ⟨as, ra⟩ := Dp.reads I _ _ _ da rx
      obtain ⟨bs, rb⟩ := Dp.reads I _ _ _ db ry
      refine PySem.SeqAt.ne_plain ra rb (toD_plain _) (toD_plain _) (room64 hu (Nat.le_trans (toD_depth _) hd.1) (by decide)) ⟨.bl _, H, I, rfl, ?_⟩
      rw [eqv_D _ _ (flatF_F 4 a fa ha) (flatF_F 4 b fb hb)]
      exact eqOut_go m rfl p
    · exact p.elim
  · exact p.elim
end
end Sw

set_option autoImplicit false
set_option Elab.async false
set_option linter.all false
set_option maxRecDepth 100000
/-! Operators on numbers, texts, tuples, lists. -/
namespace Sw
open PySem PySem.Spec L2
theorem tx_app (a b : Tx) : tx a ++ tx b = tx (a ++ b) := by
  show (⟨a.toArray ++ b.toArray⟩ : Str) = ⟨(a ++ b).toArray⟩
  simp
theorem tx_len (a : Tx) : (tx a).length = a.length := by
  show a.toArray.size = a.length
  simp
theorem many_le {n : Nat} (h : many n = true) : n ≤ sizeLine := Nat.le_trans (of_decide_eq_true h) (by decide)
theorem many_lt {n : Nat} (h : many (n + 1) = true) : n < sizeLine := many_le h |> fun h => Nat.lt_of_lt_of_le (Nat.lt_succ_self n) h
section
variable {C : Rc} {E : XK} {X : Cx}
/-- a result that changes nothing -/
theorem Kv_now {H : Hp} {r : List Addr} {M : Mem} {w : W} {v : V} {Q : VK} (m : RepM C H r M) (p : Kv C Q r H w M) (q : RepW C H r w v) : Q v H := p v H r (Mono.refl _ _) m q
/-- a new tuple -/
theorem Kv_tup {H : Hp} {r : List Addr} {M : Mem} {ws : List W} {vs : List V} {Q : VK} (m : RepM C H r M) (p : Kv C Q r H (.tup ws) M) (q : RepWs C H r ws vs) : ∀ a, H a = none → Q (.ref a) (upd H a (.tup vs)) := fun a ha =>
  p (.ref a) _ r (Mono.temp ha) (m.temp ha) ⟨a, vs, rfl, .inl (.inl upd_same), RepWs.go (Mono.temp ha) m _ _ q⟩
/-- a new list of the store -/
theorem Kv_lst {H : Hp} {r : List Addr} {M : Mem} {ws : List W} {vs : List V} {Q : VK} (m : RepM C H r M) (p : Kv C Q r H (.ref M.length) (M ++ [O.lst ws])) (q : RepWs C H r ws vs) : ∀ a, H a = none → Q (.ref a) (upd H a (.lst vs)) := fun a ha =>
  p (.ref a) _ (r ++ [a]) (Mono.alloc ha) (m.alloc ha ⟨vs, upd_same, RepWs.go (Mono.alloc ha) m _ _ q⟩) ⟨a, rfl, by rw [← m.len, List.getElem?_append_right (Nat.le_refl _)]; simp⟩
theorem lst_at {H : Hp} {r : List Addr} {M : Mem} {i : Nat} {v : V} {ws : List W} (m : RepM C H r M) (q : RepW C H r (.ref i) v) (h : M[i]? = some (O.lst ws)) : ∃ a vs, v = .ref a ∧ r[i]? = some a ∧ H a = some (.lst vs) ∧ RepWs C H r ws vs := by
  obtain ⟨a, e, ha⟩ := q
  obtain ⟨vs, h1, h2⟩ := m.obj i a _ ha h
  exact ⟨a, vs, e, ha, h1, h2⟩
theorem o_add (hK : C.K = X.K) : OpR X (binaryOp .Add) (r2 C E oAdd) := by
  intro pins s σ H x y v u Q I rx ry ⟨r, M, a, b, m, qa, qb, p⟩
  have p : PG C E r H (oAdd a b M) (Kv C Q r H) := p
  cases a with
  | int i =>
    cases b with
    | int j => exact op_add pins s σ H x y v u Q I rx ry ⟨i, j, qa, qb, Kv_now m p rfl⟩
    | _ => exact p.elim
  | str z =>
    cases b with
    | str z2 =>
      simp only [oAdd] at p
      split at p
      · rename_i hz
        exact op_add_str pins s σ H x y v u Q I rx ry ⟨_, _, qa, qb, by rw [tx_len, tx_len]; exact many_le hz, by rw [tx_app]; exact Kv_now m p rfl⟩
      · exact p.elim
    | _ => exact p.elim
  | tup xs =>
    cases b with
    | tup ys =>
      simp only [oAdd] at p
      split at p
      · rename_i hz
        obtain ⟨c, vs, e1, s1, q1⟩ := id qa
        obtain ⟨d, us, e2, s2, q2⟩ := id qb
        refine op_catA pins s σ H x y v u Q I rx ry ⟨c, d, vs, us, e1, e2, by rw [← hK]; exact s1, by rw [← hK]; exact s2, by rw [q1.length, q2.length]; exact many_le hz, fun e => ?_, fun _ e => ?_, fun _ _ => ?_⟩
        · have ex : xs = [] := List.eq_nil_of_length_eq_zero (by rw [← q1.length, e]; rfl)
          subst ex
          exact Kv_now m p ⟨d, us, rfl, s2, q2⟩
        · have ey : ys = [] := List.eq_nil_of_length_eq_zero (by rw [← q2.length, e]; rfl)
          subst ey
          refine Kv_now m p ?_
          rw [List.append_nil]
          exact ⟨c, vs, rfl, s1, q1⟩
        · exact Kv_tup m p (q1.app q2)
      · exact p.elim
    | _ => exact p.elim
  | ref i =>
    cases b with
    | ref j =>
      simp only [oAdd] at p
      split at p
      · rename_i xs ys hi hj
        unfold catL at p
        split at p
        · rename_i hz
          obtain ⟨c, vs, e1, _, h1, q1⟩ := lst_at m qa hi
          obtain ⟨d, us, e2, _, h2, q2⟩ := lst_at m qb hj
          exact op_cat pins s σ H x y v u Q I rx ry ⟨c, d, vs, us, e1, e2, h1, h2, by rw [q1.length, q2.length]; exact many_le hz, Kv_lst m p (q1.app q2)⟩
        · exact p.elim
      · exact p.elim
    | _ => exact p.elim
  | _ => exact p.elim
theorem o_sub : OpR X (binaryOp .Sub) (r2 C E oSub) := by
  intro pins s σ H x y v u Q I rx ry ⟨r, M, a, b, m, qa, qb, p⟩
  have p : PG C E r H (oSub a b M) (Kv C Q r H) := p
  cases a with
  | int i =>
    cases b with
    | int j => exact op_sub pins s σ H x y v u Q I rx ry ⟨i, j, qa, qb, Kv_now m p rfl⟩
    | _ => exact p.elim
  | _ => exact p.elim
theorem o_mul : OpR X (binaryOp .Mult) (r2 C E oMul) := by
  intro pins s σ H x y v u Q I rx ry ⟨r, M, a, b, m, qa, qb, p⟩
  have p : PG C E r H (oMul a b M) (Kv C Q r H) := p
  cases a with
  | int i =>
    cases b with
    | int j =>
      simp only [oMul] at p
      split at p
      · rename_i hz
        exact op_mulW pins s σ H x y v u Q I rx ry ⟨i, j, qa, qb, hz, Kv_now m p rfl⟩
      · exact p.elim
    | _ => exact p.elim
  | _ => exact p.elim
theorem o_div : OpR X (binaryOp .FloorDiv) (r2 C E oDiv) := by
  intro pins s σ H x y v u Q I rx ry ⟨r, M, a, b, m, qa, qb, p⟩
  have p : PG C E r H (oDiv a b M) (Kv C Q r H) := p
  cases a with
  | int i =>
    cases b with
    | int j =>
      simp only [oDiv] at p
      split at p
      · rename_i hz
        exact op_fdivW pins s σ H x y v u Q I rx ry ⟨i, j, qa, qb, hz, Kv_now m p rfl⟩
      · exact p.elim
    | _ => exact p.elim
  | _ => exact p.elim
theorem o_mod : OpR X (binaryOp .Mod) (r2 C E oMod) := by
  intro pins s σ H x y v u Q I rx ry ⟨r, M, a, b, m, qa, qb, p⟩
  have p : PG C E r H (oMod a b M) (Kv C Q r H) := p
  cases a with
  | int i =>
    cases b with
    | int j =>
      simp only [oMod] at p
      split at p
      · rename_i hz
        exact op_mod pins s σ H x y v u Q I rx ry ⟨i, j, qa, qb, hz, Kv_now m p rfl⟩
      · exact p.elim
    | _ => exact p.elim
  | _ => exact p.elim
theorem o_shr : OpR X (binaryOp .RShift) (r2 C E oShr) := by
  intro pins s σ H x y v u Q I rx ry ⟨r, M, a, b, m, qa, qb, p⟩
  have p : PG C E r H (oShr a b M) (Kv C Q r H) := p
  cases a with
  | int i =>
    cases b with
    | int j =>
      simp only [oShr] at p
      split at p
      · rename_i hz
        exact op_shr pins s σ H x y v u Q I rx ry ⟨i, j, qa, qb, hz, Kv_now m p rfl⟩
      · exact p.elim
    | _ => exact p.elim
  | _ => exact p.elim
theorem o_shl : OpR X (binaryOp .LShift) (r2 C E oShl) := by
  intro pins s σ H x y v u Q I rx ry ⟨r, M, a, b, m, qa, qb, p⟩
  have p : PG C E r H (oShl a b M) (Kv C Q r H) := p
  cases a with
  | int i =>
    cases b with
    | int j =>
      simp only [oShl] at p
      split at p
      · rename_i hz
        exact op_shl pins s σ H x y v u Q I rx ry ⟨i, j, qa, qb, ⟨hz.1, Int.le_trans hz.2.1 (by decide), hz.2.2⟩, Kv_now m p rfl⟩
      · exact p.elim
    | _ => exact p.elim
  | _ => exact p.elim
theorem u_neg : UnR X (unaryOp .USub) (r1 C E uNeg) := by
  intro pins s σ H x v Q I rx ⟨r, M, a, m, qa, p⟩
  have p : PG C E r H (uNeg a M) (Kv C Q r H) := p
  cases a with
  | int i => exact un_neg pins s σ H x v Q I rx ⟨i, qa, Kv_now m p rfl⟩
  | _ => exact p.elim
theorem o_gt : OpR X (compareOp .Gt) (r2 C E oGt) := by
  intro pins s σ H x y v u Q I rx ry ⟨r, M, a, b, m, qa, qb, p⟩
  have p : PG C E r H (oGt a b M) (Kv C Q r H) := p
  cases a with
  | int i =>
    cases b with
    | int j => exact op_gt pins s σ H x y v u Q I rx ry ⟨i, j, qa, qb, Kv_now m p rfl⟩
    | _ => exact p.elim
  | _ => exact p.elim
theorem o_le : OpR X (compareOp .LtE) (r2 C E oLe) := by
  intro pins s σ H x y v u Q I rx ry ⟨r, M, a, b, m, qa, qb, p⟩
  have p : PG C E r H (oLe a b M) (Kv C Q r H) := p
  cases a with
  | int i =>
    cases b with
    | int j => exact op_le pins s σ H x y v u Q I rx ry ⟨i, j, qa, qb, Kv_now m p rfl⟩
    | _ => exact p.elim
  | _ => exact p.elim
theorem o_ge : OpR X (compareOp .GtE) (r2 C E oGe) := by
  intro pins s σ H x y v u Q I rx ry ⟨r, M, a, b, m, qa, qb, p⟩
  have p : PG C E r H (oGe a b M) (Kv C Q r H) := p
  cases a with
  | int i =>
    cases b with
    | int j => exact op_ge pins s σ H x y v u Q I rx ry ⟨i, j, qa, qb, Kv_now m p rfl⟩
    | _ => exact p.elim
  | _ => exact p.elim
/-! is None -/
theorem non_iff {H : Hp} {r : List Addr} {w : W} {v : V} (q : RepW C H r w v) : decide (v = .non) = decide (w = .non) := by
  refine decide_eq_decide.mpr ?_
  cases w with
  | non => rw [show v = .non from q]; simp
  | tup ws => obtain ⟨a, vs, e, _⟩ := q; rw [e]; simp
  | ref n => obtain ⟨a, e, _⟩ := q; rw [e]; simp
  | scr n => obtain ⟨a, e, _⟩ := q; rw [e]; simp
  | bl b => rw [show v = .bl b from q]; simp
  | int b => rw [show v = .int b from q]; simp
  | str b => rw [show v = .str (tx b) from q]; simp
theorem i_isN {a : Expr} {m : EM} {j : Nat} {pos pos' : Pos} (ha : PE X a (tE C E m)) : PE X (.Compare a [.Is] [.Constant .none j pos'] pos) (tE C E (eUn uIsN m)) :=
  PE.imp (pe_cmp (pc_isN ha) rfl) fun _ _ _ ⟨_, _, _, hs, hm, p⟩ => tE_on Kv_cl hs hm p fun v H1 r1 M1 w x1 m1 q1 s1 p1 => by
    rw [non_iff q1]
    exact Kv_now m1 p1 rfl
theorem i_noN {a : Expr} {m : EM} {j : Nat} {pos pos' : Pos} (ha : PE X a (tE C E m)) : PE X (.Compare a [.IsNot] [.Constant .none j pos'] pos) (tE C E (eUn uNoN m)) :=
  PE.imp (pe_cmp (pc_notN ha) rfl) fun _ _ _ ⟨_, _, _, hs, hm, p⟩ => tE_on Kv_cl hs hm p fun v H1 r1 M1 w x1 m1 q1 s1 p1 => by
    rw [non_iff q1]
    exact Kv_now m1 p1 rfl
end
end Sw

set_option autoImplicit false
set_option Elab.async false
set_option linter.all false
set_option maxRecDepth 100000
/-! Dicts. -/
namespace Sw
open PySem PySem.Spec L2
mutual
theorem keyN_inj : ∀ (a b : W), isK a = true → isK b = true → keyN a = keyN b → a = b
  | .int i, b, _, hb, h => by cases b <;> simp_all [keyN, isK]
  | .str i, b, _, hb, h => by
    cases b with
    | str j =>
      simp only [keyN, NestedKey.text.injEq] at h
      rw [tx_inj h]
    | _ => simp_all [keyN, isK]
  | .tup xs, b, ha, hb, h => by
    cases b with
    | tup ys =>
      simp only [keyN, NestedKey.tup.injEq] at h
      rw [keyNs_inj xs ys ha hb h]
    | _ => simp_all [keyN, isK]
  | .non, _, ha, _, _ => by simp [isK] at ha
  | .bl _, _, ha, _, _ => by simp [isK] at ha
  | .ref _, _, ha, _, _ => by simp [isK] at ha
  | .scr _, _, ha, _, _ => by simp [isK] at ha
theorem keyNs_inj : ∀ (a b : List W), isKs a = true → isKs b = true → keyNs a = keyNs b → a = b
  | [], [], _, _, _ => rfl
  | [], _ :: _, _, _, h => by simp [keyNs] at h
  | _ :: _, [], _, _, h => by simp [keyNs] at h
  | a :: as, b :: bs, ha, hb, h => by
    simp only [keyNs, List.cons.injEq] at h
    rw [isKs, Bool.and_eq_true] at ha hb
    rw [keyN_inj a b ha.1 hb.1 h.1, keyNs_inj as bs ha.2 hb.2 h.2]
end
theorem keyA_inj {a b : W} (ha : isK a = true) (hb : isK b = true) (ta : isT a = false) (tb : isT b = false) (h : keyA a = keyA b) : a = b := by
  cases a <;> first | (simp [isK] at ha; done) | (simp [isT] at ta; done) | skip
  · cases b <;> first | (simp [isK] at hb; done) | (simp [isT] at tb; done) | skip
    · simp only [keyA, Sum.inl.injEq] at h
      rw [h]
    · simp [keyA] at h
  · cases b <;> first | (simp [isK] at hb; done) | (simp [isT] at tb; done) | skip
    · simp [keyA] at h
    · simp only [keyA, Sum.inr.injEq] at h
      rw [tx_inj h]
mutual
theorem keyN_depth : ∀ w : W, (keyN w).depth ≤ dep w
  | .tup ws => by
    rw [keyN, NestedKey.depth, dep]
    exact Nat.succ_le_succ (keyNs_depth ws)
  | .non => Nat.le_refl _
  | .bl _ => Nat.le_refl _
  | .int _ => Nat.le_refl _
  | .str _ => Nat.le_refl _
  | .ref _ => Nat.le_refl _
  | .scr _ => Nat.le_refl _
theorem keyNs_depth : ∀ ws : List W, NestedKey.depthAll (keyNs ws) ≤ deps ws
  | [] => Nat.le_refl _
  | w :: ws => by
    rw [keyNs, NestedKey.depthAll, deps]
    have h1 := keyN_depth w
    have h2 := keyNs_depth ws
    omega
end
section
variable {C : Rc} {X : Cx} {pins : List (Addr × Obj)} {σ : L2.St} {H : Hp} {s : Shared} {r : List Addr} {M : Mem}
mutual
theorem RepW.nested (hK : C.K = X.K) (I : Inv X pins σ H s) : ∀ (w : W) (v : V) (u : Value), isK w = true → RepW C H r w v → L2.RelV v u → NestedIs s.heap (keyN w) u
  | .int i, v, u, _, h, q => by
    rw [show v = .int i from h] at q
    obtain ⟨t, rfl⟩ := q
    exact .int i t
  | .str z, v, u, _, h, q => by
    rw [show v = .str (tx z) from h] at q
    obtain ⟨t, rfl⟩ := q
    exact .text _ t
  | .tup ws, v, u, hk, h, q => by
    obtain ⟨a, vs, rfl, sq, qs⟩ := h
    obtain rfl : u = Value.ref a := q
    rw [hK] at sq
    obtain ⟨its, rv, ⟨o, ho, hc, n, hd⟩, hz⟩ := I.tuple sq
    exact .tup ho hc hd (by simpa using RepWs.nested hK I ws vs its hk qs rv)
  | .non, _, _, hk, _, _ => by simp [isK] at hk
  | .bl _, _, _, hk, _, _ => by simp [isK] at hk
  | .ref _, _, _, hk, _, _ => by simp [isK] at hk
  | .scr _, _, _, hk, _, _ => by simp [isK] at hk
theorem RepWs.nested (hK : C.K = X.K) (I : Inv X pins σ H s) : ∀ (ws : List W) (vs : List V) (us : List Value), isKs ws = true → RepWs C H r ws vs → L2.Vals vs us → NestedAll s.heap (keyNs ws) us
  | [], vs, us, _, h, q => by
    rw [show vs = [] from h] at q
    cases q
    exact .nil
  | w :: ws, vs, us, hk, h, q => by
    obtain ⟨v, vr, rfl, p, ps⟩ := h
    rw [isKs, Bool.and_eq_true] at hk
    cases q with
    | cons q1 q2 => exact .cons (RepW.nested hK I w v _ hk.1 p q1) (RepWs.nested hK I ws vr _ hk.2 ps q2)
end
theorem okKey_iff {kvs : List (W × W)} {k : W} (h : okKey kvs k = true) : isK k = true ∧ dep k ≤ 8 ∧ (kvs = [] ∨ ∃ p rest, kvs = p :: rest ∧ isT p.1 = isT k) := by
  unfold okKey at h
  rw [Bool.and_eq_true, Bool.and_eq_true, decide_eq_true_eq] at h
  refine ⟨h.1.1, h.1.2, ?_⟩
  cases kvs with
  | nil => exact .inl rfl
  | cons p rest => exact .inr ⟨p, rest, rfl, by simpa using h.2⟩
/-- a dict asked by an int or a text -/
theorem DicAt.atom {lk : Bool} {kvs : List (W × W)} {a : Addr} {k : W} (d : DicAt C H r lk kvs a) (h : okKey kvs k = true) (t : isT k = false) : (∀ p ∈ kvs, isT p.1 = false) ∧ ∃ xs, LK lk H a (.dK xs) ∧ PrA C H r kvs xs := by
  rcases d.obj with z | ⟨⟨hne, hT⟩, _, _⟩
  · exact z
  · rcases (okKey_iff h).2.2 with e | ⟨p, rest, e, q⟩
    · exact absurd e hne
    · rw [e] at hT
      rw [hT p List.mem_cons_self, t] at q
      cases q
theorem PrA.val {kvs : List (W × W)} {xs : List (Key × V)} (q : PrA C H r kvs xs) (hk : ∀ p ∈ kvs, isK p.1 = true) (ht : ∀ p ∈ kvs, isT p.1 = false) {k : W} (h : isK k = true) (t : isT k = false) :
    (∀ w, dget kvs k = some w → ∃ v, valV xs (keyA k) = some v ∧ RepW C H r w v) ∧ (dget kvs k = none → valV xs (keyA k) = none) := by
  induction q with
  | nil => exact ⟨fun w e => by simp [dget] at e, fun _ => rfl⟩
  | @cons p x ps rest e q ih =>
    obtain ⟨e1, e2⟩ := e
    obtain ⟨k', w'⟩ := p
    obtain ⟨i1, i2⟩ := ih (fun p hp => hk p (List.mem_cons_of_mem _ hp)) (fun p hp => ht p (List.mem_cons_of_mem _ hp))
    by_cases hkk : k' = k
    · subst hkk
      refine ⟨fun w e => ?_, fun e => ?_⟩
      · simp only [dget, if_true, Option.some.injEq] at e
        subst e
        exact ⟨x.2, valV_pos e1.symm, e2⟩
      · simp [dget] at e
    · have hx : ¬ x.1 = keyA k := fun e => hkk (keyA_inj (hk _ List.mem_cons_self) h (ht _ List.mem_cons_self) t (e1.trans e))
      refine ⟨fun w e => ?_, fun e => ?_⟩
      · simp only [dget, if_neg hkk] at e
        rw [valV_neg hx]
        exact i1 w e
      · simp only [dget, if_neg hkk] at e
        rw [valV_neg hx]
        exact i2 e
theorem kV_of {k : W} {v : V} (h : isK k = true) (t : isT k = false) (q : RepW C H r k v) : v = kV (keyA k) := by
  cases k <;> first | (simp [isK] at h; done) | (simp [isT] at t; done) | exact q
theorem PrT.mem {kvs : List (W × W)} {xs : List (NestedKey × Addr × Value)} (q : PrT C H r kvs xs) : ∀ x ∈ xs, ∃ p ∈ kvs, keyN p.1 = x.1 ∧ RepW C H r p.1 (.ref x.2.1) := by
  induction q with
  | nil => intro x hx; cases hx
  | @cons p y ps rest e q ih =>
    intro x hx
    rcases List.mem_cons.mp hx with hx | hx
    · subst hx
      exact ⟨p, List.mem_cons_self, e.1, e.2.1⟩
    · obtain ⟨p', h1, h2⟩ := ih x hx
      exact ⟨p', List.mem_cons_of_mem _ h1, h2⟩
theorem PrT.keys {kvs : List (W × W)} {xs : List (NestedKey × Addr × Value)} (q : PrT C H r kvs xs) : xs.map (·.1) = kvs.map fun p => keyN p.1 := by
  induction q with
  | nil => rfl
  | @cons p y ps rest e q ih => rw [List.map_cons, List.map_cons, ih, e.1]
theorem PrA.keys {kvs : List (W × W)} {xs : List (Key × V)} (q : PrA C H r kvs xs) : xs.map (·.1) = kvs.map fun p => keyA p.1 := by
  induction q with
  | nil => rfl
  | @cons p y ps rest e q ih => rw [List.map_cons, List.map_cons, ih, e.1]
theorem nodup_keyN {kvs : List (W × W)} (hk : ∀ p ∈ kvs, isK p.1 = true) (nd : (kvs.map (·.1)).Nodup) : (kvs.map fun p => keyN p.1).Nodup := by
  induction kvs with
  | nil => exact List.nodup_nil
  | cons p ps ih =>
    rw [List.map_cons, List.nodup_cons] at nd ⊢
    refine ⟨fun hm => nd.1 ?_, ih (fun p hp => hk p (List.mem_cons_of_mem _ hp)) nd.2⟩
    obtain ⟨p', hp, e⟩ := List.mem_map.mp hm
    have e' := keyN_inj _ _ (hk p' (List.mem_cons_of_mem _ hp)) (hk p List.mem_cons_self) e
    exact List.mem_map.mpr ⟨p', hp, e'⟩
/-- a dict asked by a tuple -/
theorem DicAt.tups (hK : C.K = X.K) (hw : C.w = X.w) (I : Inv X pins σ H s) {lk : Bool} {kvs : List (W × W)} {a : Addr} {k : W} (d : DicAt C H r lk kvs a) (h : okKey kvs k = true) (t : isT k = true) :
    (a == sysModules) = false ∧ (lk = false → Mut (H a) ∧ ∀ o, H a = some o → frzH o = false) ∧ ∃ xs, s.heap.DictOfH (nestedKind X.prog X.w) a xs ∧ PrT C H r kvs xs := by
  rcases (okKey_iff h).2.2 with e | ⟨p, rest, e, q⟩
  · subst e
    rcases d.obj with ⟨_, xs, e1, q⟩ | ⟨⟨hne, _⟩, _, _⟩
    · cases q
      obtain ⟨_, hd, vs, rel, o, es, ep, h1, h2, h3, h4, h5, _⟩ := dk_rd I.hok e1.rd
      cases rel
      refine ⟨hd, fun el => by subst el; have e1 : H a = some _ := e1; rw [e1]; exact ⟨True.intro, fun o z => by cases z; rfl⟩, [], ⟨o, es, ep, h1, h2, h3, ?_, by simp, by simp⟩, .nil⟩
      have h5 : PySem.Pairs _ es.toList [] := h5
      cases e : es.toList with
      | nil => rfl
      | cons x y => rw [e] at h5; cases h5
    · exact absurd rfl hne
  · rcases d.obj with ⟨ht, _⟩ | ⟨_, hd, xs, e1, qs⟩
    · rw [e] at ht
      rw [ht p List.mem_cons_self, t] at q
      cases q
    · obtain ⟨⟨o, es, ep, h1, h2, h3, h4⟩, _, _⟩ := e1.rd.ok I.hok
      refine ⟨hd, fun el => by subst el; have e1 : H a = some _ := e1; rw [e1]; exact ⟨True.intro, fun o z => by cases z; rfl⟩, xs, ⟨o, es, ep, h1, h2, h3, ?_, ?_, ?_⟩, qs⟩
      · rw [h4, hw]
        rfl
      · intro x hx
        obtain ⟨p, hp, e2, e3⟩ := qs.mem x hx
        have hkp := d.key p hp
        have n := RepW.nested hK I p.1 _ _ hkp.1 e3 rfl
        rw [e2] at n
        exact ⟨n, by rw [← e2]; exact Nat.le_trans (keyN_depth _) hkp.2⟩
      · rw [qs.keys]
        exact nodup_keyN (fun p hp => (d.key p hp).1) d.nd
theorem PrT.val {kvs : List (W × W)} {xs : List (NestedKey × Addr × Value)} (q : PrT C H r kvs xs) (hk : ∀ p ∈ kvs, isK p.1 = true) {k : W} (h : isK k = true) :
    (∀ w, dget kvs k = some w → ∃ p v, atKey xs (keyN k) = some p ∧ RepW C H r w v ∧ L2.RelV v p.2) ∧ (dget kvs k = none → atKey xs (keyN k) = none) := by
  induction q with
  | nil => exact ⟨fun w e => by simp [dget] at e, fun _ => rfl⟩
  | @cons p x ps rest e q ih =>
    obtain ⟨e1, e2, v, e3, e4⟩ := e
    obtain ⟨k', w'⟩ := p
    obtain ⟨i1, i2⟩ := ih (fun p hp => hk p (List.mem_cons_of_mem _ hp))
    by_cases hkk : k' = k
    · subst hkk
      refine ⟨fun w e => ?_, fun e => ?_⟩
      · simp only [dget, if_true, Option.some.injEq] at e
        subst e
        exact ⟨x.2, v, by simp only [atKey, List.find?_cons, ← e1, decide_true, Option.map_some], e3, e4⟩
      · simp [dget] at e
    · have hx : ¬ x.1 = keyN k := fun e => hkk (keyN_inj _ _ (hk _ List.mem_cons_self) h (e1.trans e))
      have hf : atKey (x :: rest) (keyN k) = atKey rest (keyN k) := by simp only [atKey, List.find?_cons, decide_eq_false hx]
      refine ⟨fun w e => ?_, fun e => ?_⟩
      · simp only [dget, if_neg hkk] at e
        rw [hf]
        exact i1 w e
      · simp only [dget, if_neg hkk] at e
        rw [hf]
        exact i2 e
/-- the room that keys want -/
theorem key_room {A : Around} (hu : A.units + 64 < cLine) : (nestedKind X.prog X.w).room A.in1 := by
  show A.units + 1 + 8 < cLine
  omega
theorem tup_ref {k : W} {v : V} (t : isT k = true) (q : RepW C H r k v) : ∃ b, v = .ref b := by
  cases k <;> first | (simp [isT] at t; done) | skip
  obtain ⟨a, vs, e, _⟩ := q
  exact ⟨a, e⟩
theorem tup_is (hK : C.K = X.K) (I : Inv X pins σ H s) {k : W} {b : Addr} (h : isK k = true) (hd : dep k ≤ 8) (q : RepW C H r k (.ref b)) : (nestedKind X.prog X.w).is s.heap (keyN k) b :=
  ⟨RepW.nested hK I k _ _ h q rfl, Nat.le_trans (keyN_depth _) hd⟩
theorem dget_k {a : Addr} {kvs : List (Key × V)} {k : Key} (e : Rd H a (.dK kvs)) : DGet H a (kV k) (valV kvs k) := .inl ⟨kvs, k, e, rfl, rfl⟩
/-- d[k] -/
theorem dic_get {A : Around} {E : Value → Shared → Prop} {Q : Value → Shared → Prop} (hK : C.K = X.K) (hw : C.w = X.w) (hu : A.units + 64 < cLine) (I : Inv X pins σ H s) (m : RepM C H r M) {lk : Bool} {kvs : List (W × W)} {a : Addr} {k w : W} {v : V} {u : Value}
    (d : DicAt C H r lk kvs a) (h : okKey kvs k = true) (qk : RepW C H r k v) (ru : L2.RelV v u) (hg : dget kvs k = some w) (hq : ∀ z z' s', Inv X pins σ H s' → RepW C H r w z → L2.RelV z z' → Q z' s') : wpAny (model X.prog X.w) A (getItem (.ref a) u) Q E s := by
  obtain ⟨hk, hd, _⟩ := okKey_iff h
  cases t : isT k with
  | false =>
    obtain ⟨ht, xs, e1, q⟩ := d.atom h t
    obtain ⟨z, e2, q2⟩ := (q.val (fun p hp => (d.key p hp).1) ht hk t).1 w hg
    have ev := kV_of hk t qk
    subst ev
    exact d_getItem (v := z) (by omega) I (by rw [← e2]; exact dget_k e1.rd) ru fun w' s' I' r' => hq z w' s' I' q2 r'
  | true =>
    obtain ⟨hsm, _, xs, dd, q⟩ := d.tups hK hw I h t
    obtain ⟨p, z, e2, q2, r2⟩ := (q.val (fun p hp => (d.key p hp).1) hk).1 w hg
    obtain ⟨b, ev⟩ := tup_ref t qk
    subst ev
    obtain rfl : u = Value.ref b := ru
    exact wpAny_getItem_heap (key_room hu) (tup_is hK I hk hd qk) dd e2 (hq z _ _ (I.tok _) q2 r2)
theorem dic_in {A : Around} {E : Value → Shared → Prop} {Q : Value → Shared → Prop} (hK : C.K = X.K) (hw : C.w = X.w) (hu : A.units + 64 < cLine) (I : Inv X pins σ H s) (m : RepM C H r M) {lk : Bool} {kvs : List (W × W)} {a : Addr} {k : W} {v : V} {u : Value}
    (d : DicAt C H r lk kvs a) (h : okKey kvs k = true) (qk : RepW C H r k v) (ru : L2.RelV v u) (hq : ∀ s', Inv X pins σ H s' → Q (.bool (dget kvs k).isSome) s') : wpAny (model X.prog X.w) A (compareOp .In u (.ref a)) Q E s := by
  obtain ⟨hk, hd, _⟩ := okKey_iff h
  cases t : isT k with
  | false =>
    obtain ⟨ht, xs, e1, q⟩ := d.atom h t
    have qv := q.val (fun p hp => (d.key p hp).1) ht hk t
    have ev := kV_of hk t qk
    subst ev
    refine d_in (by omega) I (dget_k e1.rd) ru fun s' I' => ?_
    have : (valV xs (keyA k)).isSome = (dget kvs k).isSome := by
      cases e : dget kvs k with
      | none => rw [qv.2 e]; rfl
      | some w => obtain ⟨z, e2, _⟩ := qv.1 w e; rw [e2]; rfl
    rw [this]
    exact hq s' I'
  | true =>
    obtain ⟨hsm, _, xs, dd, q⟩ := d.tups hK hw I h t
    have qv := q.val (fun p hp => (d.key p hp).1) hk
    obtain ⟨b, ev⟩ := tup_ref t qk
    subst ev
    obtain rfl : u = Value.ref b := ru
    refine wpAny_in_heap (key_room hu) (tup_is hK I hk hd qk) hsm dd ?_
    have : (atKey xs (keyN k)).isSome = (dget kvs k).isSome := by
      cases e : dget kvs k with
      | none => rw [qv.2 e]; rfl
      | some w => obtain ⟨p, z, e2, _⟩ := qv.1 w e; rw [e2]; rfl
    rw [this]
    exact hq _ (I.tok _)
theorem dic_notIn {A : Around} {E : Value → Shared → Prop} {Q : Value → Shared → Prop} (hK : C.K = X.K) (hw : C.w = X.w) (hu : A.units + 64 < cLine) (I : Inv X pins σ H s) (m : RepM C H r M) {lk : Bool} {kvs : List (W × W)} {a : Addr} {k : W} {v : V} {u : Value}
    (d : DicAt C H r lk kvs a) (h : okKey kvs k = true) (qk : RepW C H r k v) (ru : L2.RelV v u) (hq : ∀ s', Inv X pins σ H s' → Q (.bool (!(dget kvs k).isSome)) s') : wpAny (model X.prog X.w) A (compareOp .NotIn u (.ref a)) Q E s := by
  obtain ⟨hk, hd, _⟩ := okKey_iff h
  cases t : isT k with
  | false =>
    obtain ⟨ht, xs, e1, q⟩ := d.atom h t
    have qv := q.val (fun p hp => (d.key p hp).1) ht hk t
    have ev := kV_of hk t qk
    subst ev
    refine d_notIn (by omega) I (dget_k e1.rd) ru fun s' I' => ?_
    have : (valV xs (keyA k)).isSome = (dget kvs k).isSome := by
      cases e : dget kvs k with
      | none => rw [qv.2 e]; rfl
      | some w => obtain ⟨z, e2, _⟩ := qv.1 w e; rw [e2]; rfl
    rw [this]
    exact hq s' I'
  | true =>
    obtain ⟨hsm, _, xs, dd, q⟩ := d.tups hK hw I h t
    have qv := q.val (fun p hp => (d.key p hp).1) hk
    obtain ⟨b, ev⟩ := tup_ref t qk
    subst ev
    obtain rfl : u = Value.ref b := ru
    refine PyProof.Rows.wpAny_notIn_heap (key_room hu) (tup_is hK I hk hd qk) hsm dd ?_
    have : (atKey xs (keyN k)).isSome = (dget kvs k).isSome := by
      cases e : dget kvs k with
      | none => rw [qv.2 e]; rfl
      | some w => obtain ⟨p, z, e2, _⟩ := qv.1 w e; rw [e2]; rfl
    rw [this]
    exact hq _ (I.tok _)
/-! ### d[k] = v -/
theorem dput_keys : ∀ (kvs : List (W × W)) (k v : W), (dput kvs k v).map (·.1) = if k ∈ kvs.map (·.1) then kvs.map (·.1) else kvs.map (·.1) ++ [k]
  | [], k, v => by simp [dput]
  | (k', v') :: rest, k, v => by
    have ih := dput_keys rest k v
    by_cases h : k' = k
    · subst h
      simp [dput]
    · simp only [dput, if_neg h, List.map_cons, ih, List.mem_cons]
      by_cases hm : k ∈ rest.map (·.1)
      · rw [if_pos hm, if_pos (.inr hm)]
      · rw [if_neg hm, if_neg (fun z => z.elim (fun e => h e.symm) hm)]
        rfl
theorem dput_mem {kvs : List (W × W)} {k v : W} : ∀ p ∈ dput kvs k v, p.1 = k ∨ ∃ q ∈ kvs, q.1 = p.1 := by
  intro p hp
  have h : p.1 ∈ (dput kvs k v).map (·.1) := List.mem_map.mpr ⟨p, hp, rfl⟩
  rw [dput_keys] at h
  split at h
  · obtain ⟨q, hq, e⟩ := List.mem_map.mp h
    exact .inr ⟨q, hq, e⟩
  · rcases List.mem_append.mp h with h | h
    · obtain ⟨q, hq, e⟩ := List.mem_map.mp h
      exact .inr ⟨q, hq, e⟩
    · exact .inl (List.mem_singleton.mp h)
theorem dput_len (kvs : List (W × W)) (k v : W) : (dput kvs k v).length ≤ kvs.length + 1 := by
  have h := congrArg List.length (dput_keys kvs k v)
  rw [List.length_map] at h
  rw [h]
  split <;> simp
theorem dput_nd {kvs : List (W × W)} {k v : W} (nd : (kvs.map (·.1)).Nodup) : ((dput kvs k v).map (·.1)).Nodup := by
  rw [dput_keys]
  split
  · exact nd
  · rename_i h
    refine List.nodup_append.mpr ⟨nd, by simp, fun a ha b hb e => h ?_⟩
    rw [List.mem_singleton.mp hb] at e
    rw [← e]
    exact ha
theorem dput_new : ∀ {kvs : List (W × W)} {k v : W}, k ∉ kvs.map (·.1) → dput kvs k v = kvs ++ [(k, v)]
  | [], _, _, _ => rfl
  | (k', v') :: rest, k, v, h => by
    rw [List.map_cons, List.mem_cons, not_or] at h
    simp only [dput, if_neg (fun e : k' = k => h.1 e.symm), dput_new h.2, List.cons_append]
theorem dput_old : ∀ {kvs : List (W × W)} {k v : W}, (kvs.map (·.1)).Nodup → k ∈ kvs.map (·.1) → dput kvs k v = kvs.map fun p => if p.1 = k then (p.1, v) else p
  | [], _, _, _, h => by simp at h
  | (k', v') :: rest, k, v, nd, h => by
    rw [List.map_cons, List.nodup_cons] at nd
    by_cases e : k' = k
    · subst e
      have : rest.map (fun p => if p.1 = k' then (p.1, v) else p) = rest := by
        refine (List.map_congr_left (g := fun p => p) fun p hp => if_neg fun e => ?_).trans (List.map_id' rest)
        exact nd.1 (by rw [← e]; exact List.mem_map.mpr ⟨p, hp, rfl⟩)
      simp [dput, this]
    · rw [List.map_cons, List.mem_cons] at h
      simp only [dput, if_neg e, List.map_cons]
      rw [dput_old nd.2 (h.resolve_left fun z => e z.symm)]
theorem PrA.put {kvs : List (W × W)} {xs : List (Key × V)} (q : PrA C H r kvs xs) (nd : (kvs.map (·.1)).Nodup) (hk : ∀ p ∈ kvs, isK p.1 = true) (ht : ∀ p ∈ kvs, isT p.1 = false) {k w : W} {v : V} (h : isK k = true) (t : isT k = false) (hw : RepW C H r w v) :
    PrA C H r (dput kvs k w) (putK xs (keyA k) v) := by
  have hany : (xs.any fun kv => decide (kv.1 = keyA k)) = decide (k ∈ kvs.map (·.1)) := by
    clear nd
    induction q with
    | nil => rfl
    | @cons p x ps rest e q ih =>
      rw [List.any_cons, ih (fun p hp => hk p (List.mem_cons_of_mem _ hp)) (fun p hp => ht p (List.mem_cons_of_mem _ hp))]
      have : decide (x.1 = keyA k) = decide (k = p.1) := decide_eq_decide.mpr ⟨fun z => (keyA_inj (hk _ List.mem_cons_self) h (ht _ List.mem_cons_self) t (e.1.trans z)).symm, fun z => by rw [← e.1, z]⟩
      rw [this, List.map_cons, ← Bool.decide_or]
      exact decide_eq_decide.mpr List.mem_cons.symm
  unfold putK
  rw [hany]
  by_cases hm : k ∈ kvs.map (·.1)
  · rw [if_pos (decide_eq_true hm), dput_old nd hm]
    clear hm nd hany
    induction q with
    | nil => exact .nil
    | @cons p x ps rest e q ih =>
      rw [List.map_cons, List.map_cons]
      refine .cons ?_ (ih (fun p hp => hk p (List.mem_cons_of_mem _ hp)) (fun p hp => ht p (List.mem_cons_of_mem _ hp)))
      by_cases hx : p.1 = k
      · rw [if_pos hx, if_pos (by rw [← e.1, hx])]
        exact ⟨e.1, hw⟩
      · rw [if_neg hx, if_neg fun z => hx (keyA_inj (hk _ List.mem_cons_self) h (ht _ List.mem_cons_self) t (e.1.trans z))]
        exact e
  · rw [if_neg (by simpa using hm), dput_new hm]
    clear hm nd hany hk ht
    induction q with
    | nil => exact .cons ⟨rfl, hw⟩ .nil
    | @cons p x ps rest e q ih => exact .cons e ih
theorem PrT.put {kvs : List (W × W)} {xs : List (NestedKey × Addr × Value)} (q : PrT C H r kvs xs) (nd : (kvs.map (·.1)).Nodup) (hk : ∀ p ∈ kvs, isK p.1 = true) {k w : W} {b : Addr} {v : V} {u : Value} (h : isK k = true) (qk : RepW C H r k (.ref b)) (hw : RepW C H r w v) (ru : L2.RelV v u) :
    PrT C H r (dput kvs k w) (storedH xs (keyN k) b u) := by
  by_cases hm : k ∈ kvs.map (·.1)
  · have hs : ∃ p, atKey xs (keyN k) = some p := by
      obtain ⟨p, hp, e⟩ := List.mem_map.mp hm
      cases hg : dget kvs k with
      | some z => obtain ⟨p, _, e2, _⟩ := (q.val hk h).1 z hg; exact ⟨p, e2⟩
      | none =>
        exfalso
        clear q nd hm
        induction kvs with
        | nil => cases hp
        | cons y ys ih =>
          simp only [dget] at hg
          split at hg
          · cases hg
          · rename_i hne
            rcases List.mem_cons.mp hp with hp | hp
            · exact hne (by rw [← hp, e])
            · exact ih (fun p hp => hk p (List.mem_cons_of_mem _ hp)) hp hg
    obtain ⟨pp, hs⟩ := hs
    rw [storedH_old hs, dput_old nd hm]
    clear hm nd hs
    induction q with
    | nil => exact .nil
    | @cons p x ps rest e q ih =>
      rw [List.map_cons, List.map_cons]
      refine .cons ?_ (ih (fun p hp => hk p (List.mem_cons_of_mem _ hp)))
      by_cases hx : p.1 = k
      · rw [if_pos hx]
        unfold putAt
        rw [if_pos (by rw [← e.1, hx])]
        exact ⟨e.1, e.2.1, v, hw, ru⟩
      · rw [if_neg hx]
        unfold putAt
        rw [if_neg fun z => hx (keyN_inj _ _ (hk _ List.mem_cons_self) h (e.1.trans z))]
        exact e
  · have hn : atKey xs (keyN k) = none := by
      refine (q.val hk h).2 ?_
      clear q nd
      induction kvs with
      | nil => rfl
      | cons y ys ih =>
        rw [List.map_cons, List.mem_cons, not_or] at hm
        obtain ⟨y1, y2⟩ := y
        simp only [dget, if_neg (fun e : y1 = k => hm.1 e.symm)]
        exact ih (fun p hp => hk p (List.mem_cons_of_mem _ hp)) hm.2
    rw [storedH_new hn, dput_new hm]
    clear hm nd hn hk
    induction q with
    | nil => exact .cons ⟨rfl, qk, v, hw, ru⟩ .nil
    | @cons p x ps rest e q ih => exact .cons e ih
end
end Sw

set_option autoImplicit false
set_option Elab.async false
set_option linter.all false
set_option maxRecDepth 100000
/-! Stores to dicts and lists; indices; in; len. -/
namespace Sw
open PySem PySem.Spec L2
section
variable {C : Rc} {X : Cx} {pins : List (Addr × Obj)} {σ : L2.St} {H : Hp} {s : Shared} {r : List Addr} {M : Mem}
theorem RawT.ok {P : Program} {w : World} {C : Rc} {H' : Hp} {h : Heap} {a : Addr} {xs : List (NestedKey × Addr × Value)} (x : RawT C a xs h) : ObjOk P w H' h a (.ext (RawT C a xs)) := by
  obtain ⟨o, es, ep, h1, h2⟩ := id x
  refine ⟨x, ⟨o, h1⟩, fun g1 g2 ⟨o, es, ep, k1, k2⟩ q => ⟨o, es, ep, q o k1, k2⟩⟩
theorem DicAt.put_side {lk : Bool} {kvs : List (W × W)} {a : Addr} {k w : W} (d : DicAt C H r lk kvs a) (h : okKey kvs k = true) (hl : many (kvs.length + 1) = true) :
    (dput kvs k w).length ≤ 1000000 ∧ ((dput kvs k w).map (·.1)).Nodup ∧ (∀ p ∈ dput kvs k w, isK p.1 = true ∧ dep p.1 ≤ 8) ∧ ∀ p ∈ dput kvs k w, isT p.1 = isT k := by
  obtain ⟨hk, hd, hh⟩ := okKey_iff h
  refine ⟨Nat.le_trans (dput_len kvs k w) (of_decide_eq_true hl), dput_nd d.nd, fun p hp => ?_, fun p hp => ?_⟩
  · rcases dput_mem p hp with e | ⟨q, hq, e⟩
    · rw [e]; exact ⟨hk, hd⟩
    · rw [← e]; exact d.key q hq
  · rcases dput_mem p hp with e | ⟨q, hq, e⟩
    · rw [e]
    · rw [← e]
      rcases hh with e2 | ⟨p0, rest, e2, e3⟩
      · rw [e2] at hq; cases hq
      · rcases d.obj with ⟨z, _⟩ | ⟨⟨_, z⟩, _⟩
        · rw [z q hq, ← e3, z p0 (by rw [e2]; exact List.mem_cons_self)]
        · rw [z q hq, ← e3, z p0 (by rw [e2]; exact List.mem_cons_self)]
theorem dic_set {A : Around} {E : Value → Shared → Prop} {Q : Unit → Shared → Prop} (hK : C.K = X.K) (hw : C.w = X.w) (hu : A.units + 64 < cLine) (I : Inv X pins σ H s) (m : RepM C H r M) {kvs : List (W × W)} {a : Addr} {j : Nat} {k w : W} {v z : V} {u uz : Value}
    (ha : r[j]? = some a) (hM : M[j]? = some (O.dic kvs)) (h : okKey kvs k = true) (hl : many (kvs.length + 1) = true) (qk : RepW C H r k v) (ru : L2.RelV v u) (qz : RepW C H r w z) (rz : L2.RelV z uz)
    (hq : ∀ H' s', Inv X pins σ H' s' → Mono r r H H' → RepM C H' r (M.set j (O.dic (dput kvs k w))) → Q () s') : wpAny (model X.prog X.w) A (setItem (.ref a) u uz) Q E s := by
  have d : DicAt C H r false kvs a := m.obj j a _ ha hM
  obtain ⟨hk, hd, _⟩ := okKey_iff h
  obtain ⟨f1, f2, f3, f4⟩ := d.put_side (w := w) h hl
  have few := of_decide_eq_true hl
  cases t : isT k with
  | false =>
    obtain ⟨ht, xs, e1, q⟩ := d.atom h t
    have e1 : H a = some (.dK xs) := e1
    have nf : ∀ o, H a = some o → frzH o = false := fun o z => by rw [e1] at z; cases z; rfl
    have ev := kV_of hk t qk
    subst ev
    have hx : xs.length < sizeLine := by
      have hle : kvs.length = xs.length := Paired.length q
      have : (1000001 : Nat) ≤ sizeLine := by decide
      omega
    refine d_setItem (by omega) I (DPut.k e1 hx) ru rz fun s' I' => hq _ s' I' (Mono.write (List.mem_of_getElem? ha) nf) (m.write ha nf ?_)
    refine DicAt.mk f1 f2 f3 (.inl ⟨fun p hp => (f4 p hp).trans t, _, upd_same, ?_⟩)
    exact (q.put d.nd (fun p hp => (d.key p hp).1) ht hk t qz).go (Mono.write (List.mem_of_getElem? ha) nf) m
  | true =>
    obtain ⟨hsm, hmn, xs, dd, q⟩ := d.tups hK hw I h t
    obtain ⟨hmu, nf⟩ := hmn rfl
    obtain ⟨b, ev⟩ := tup_ref t qk
    subst ev
    obtain rfl : u = Value.ref b := ru
    have hz : xs.length ≤ sizeLine := by
      have hle : kvs.length = xs.length := Paired.length q
      have : (1000001 : Nat) ≤ sizeLine := by decide
      omega
    refine wpAny_setItem_heap (hsz := hz) (key_room hu) (tup_is hK I hk hd qk) dd fun h' dd' hs => ?_
    obtain ⟨o, es, ep, h1, h2, h3, h4, _, _⟩ := dd'
    have raw : RawT C a (storedH xs (keyN k) b uz) h' := ⟨o, es, ep, h1, h2, h3, by rw [h4, hw]; rfl⟩
    refine hq (upd H a (.ext (RawT C a (storedH xs (keyN k) b uz)))) _ (d_write I hmu hs ⟨o, h1⟩ raw.ok) (Mono.write (List.mem_of_getElem? ha) nf) (m.write ha nf ?_)
    have hne : dput kvs k w ≠ [] := fun e => by
      have := congrArg (fun l => List.map Prod.fst l) e
      simp only [dput_keys] at this
      split at this
      · rename_i hm
        rw [show kvs.map (·.1) = [] from this] at hm
        cases hm
      · simp at this
    refine DicAt.mk f1 f2 f3 (.inr ⟨⟨hne, fun p hp => (f4 p hp).trans t⟩, hsm, _, upd_same, ?_⟩)
    exact (q.put d.nd (fun p hp => (d.key p hp).1) hk qk qz rz).go (Mono.write (List.mem_of_getElem? ha) nf) m
theorem dic_of {j : Nat} {a : Addr} {kvs : List (W × W)} (m : RepM C H r M) (ha : r[j]? = some a) (h : dicO M[j]? = some kvs) : ∃ lk, DicAt C H r lk kvs a := by
  cases e : M[j]? with
  | none => rw [e] at h; cases h
  | some o =>
    rw [e] at h
    cases o with
    | dic us => cases h; exact ⟨false, m.obj j a _ ha e⟩
    | dlk us => cases h; exact ⟨true, m.obj j a _ ha e⟩
    | _ => cases h
theorem dic_type (hK : C.K = X.K) (hw : C.w = X.w) (I : Inv X pins σ H s) {lk : Bool} {kvs : List (W × W)} {a : Addr} (d : DicAt C H r lk kvs a) : s.TypeIs (.ref a) "dict" := by
  rcases d.obj with ⟨_, xs, e1, _⟩ | ⟨_, _, xs, e1, _⟩
  · obtain ⟨_, _, vs, _, dd⟩ := dk_rd I.hok e1.rd
    exact dd.typeIs
  · obtain ⟨⟨o, es, ep, h1, h2, h3, _⟩, _, _⟩ := e1.rd.ok I.hok
    exact ⟨o, h1, h2.1⟩
theorem dic_nodict (I : Inv X pins σ H s) {lk : Bool} {kvs : List (W × W)} {a : Addr} (d : DicAt C H r lk kvs a) : ∃ ob, s.heap.get? a = some ob ∧ ob.dict = none := by
  rcases d.obj with ⟨_, xs, e1, _⟩ | ⟨_, _, xs, e1, _⟩
  · obtain ⟨_, _, vs, _, ob, _, _, h1, h2, _⟩ := dk_rd I.hok e1.rd
    exact ⟨ob, h1, h2.2.1⟩
  · obtain ⟨⟨o, es, ep, h1, h2, h3, _⟩, _, _⟩ := e1.rd.ok I.hok
    exact ⟨o, h1, h2.2.1⟩
end
/-! ### indices -/
theorem ixW_eq (n : Nat) (i : Int) : ixW n i = L2.ixN n i := by
  unfold ixW L2.ixN
  by_cases h0 : 0 ≤ i
  · rw [if_pos h0, if_pos h0]
  · rw [if_neg h0, if_neg h0]
    by_cases h1 : 0 ≤ i + n
    · rw [if_pos h1, if_pos (by omega)]
    · rw [if_neg h1, if_neg (by omega)]
section
variable {C : Rc} {E : XK} {X : Cx}
theorem atW_go {H : Hp} {r : List Addr} {M : Mem} {ws : List W} {vs : List V} {i : Int} {Q : VK} (m : RepM C H r M) (q : RepWs C H r ws vs) (p : PG C E r H (atW ws i M) (Kv C Q r H)) : ∃ v, atI vs i = some v ∧ Q v H := by
  unfold atW at p
  split at p
  · rename_i w hw
    obtain ⟨n, h1, h2⟩ := Option.bind_eq_some_iff.mp hw
    obtain ⟨v, h3, h4⟩ := q.get h2
    refine ⟨v, ?_, Kv_now m p h4⟩
    unfold atI
    rw [q.length, ← ixW_eq, h1]
    exact h3
  · exact p.elim
theorem seq_ix {H : Hp} {r : List Addr} {M : Mem} {w : W} {x : V} {ws : List W} {i : Int} {Q : VK} (hK : C.K = X.K) (m : RepM C H r M) (qa : RepW C H r w x) (h : items w M = some ws) (p : PG C E r H (atW ws i M) (Kv C Q r H)) : rIx X.K x (.int i) H Q := by
  obtain ⟨a, vs, e, sq, q⟩ := Kr_of m qa h
  obtain ⟨v, h1, h2⟩ := atW_go m q p
  rw [hK] at sq
  rcases sq with sq | sq
  · exact .inl ⟨a, vs, i, v, e, rfl, sq, h1, h2⟩
  · exact .inr (.inl ⟨a, vs, i, v, e, rfl, sq, h1, h2⟩)
end
theorem sub_any {prog : Program} {w : World} {A : Around} {E : Value → Shared → Prop} {s : Shared} {value slice : Expr} {o i : Value} {T id : String} {Q : Value → Shared → Prop} (hT : s.TypeIs o T) (hl : typeLookup (.type T) "__getitem__" = pure (some (.builtin id)))
    (h : wpAny (model prog w) A (getItem o i) Q E s) (hs : subscripted slice false o i = operate [o, i] (getItem o i)) : wpAny (model prog w) A (PyProof.Rows.subscriptTail value slice o i) Q E s := by
  have last : wpAny (model prog w) A (subscripted slice false o i) (fun r s3 => wpAny (model prog w) A (letTemporaryGo value o r >>= fun _ => pure r) Q E s3) E s := by
    rw [hs]
    exact wpAny_operating (wpAny_mono h (fun _ _ z => wpAny_bind (wpAny_letTemporaryGo (wpAny_pure z))) fun _ _ z => z)
  unfold PyProof.Rows.subscriptTail
  apply wpAny_bind
  rw [getitemInPython_of_ne hT.not_modules]
  apply wpAny_bind
  apply wpAny_specialOf hT hl
  first
    | exact wpAny_pure (wpAny_bind last)
    | exact wpAny_bind (wpAny_pure (wpAny_bind last))
    | exact wpAny_bind last
section
variable {C : Rc} {E : XK} {X : Cx}
theorem tx_get (z : Tx) (n : Nat) : (tx z).cps.toList[n]? = z[n]? := by simp
theorem o_ix (hK : C.K = X.K) (hw : C.w = X.w) (hu : X.A.units + 64 < cLine) : IxR X (r2 C E oIx) := by
  intro value slice pins s σ H x y v u Q I rx ry ⟨r, M, a, b, m, qa, qb, p⟩ hs
  change PG C E r H (oIx a b M) (Kv C Q r H) at p
  have seq : ∀ ws i, items a M = some ws → b = .int i → PG C E r H (atW ws i M) (Kv C Q r H) → EP X pins σ Q = EP X pins σ Q → rIx X.K x y H Q := fun ws i h e p1 _ => by
    clear p
    subst e
    have ey : y = .int i := qb
    subst ey
    exact seq_ix hK m qa h p1
  have dic : ∀ j kvs, a = .ref j → dicO M[j]? = some kvs → okKey kvs b = true → PG C E r H (match dget kvs b with
      | some w => ok w M
      | none => none) (Kv C Q r H) → wpAny (model X.prog X.w) X.A (PyProof.Rows.subscriptTail value slice v u) (EP X pins σ Q) X.xe s := fun j kvs e hM hk p1 => by
    clear p
    subst e
    cases hg : dget kvs b with
    | none => rw [hg] at p1; exact p1.elim
    | some w =>
      rw [hg] at p1
      obtain ⟨c, ec, hc⟩ := qa
      subst ec
      obtain rfl : v = Value.ref c := rx
      obtain ⟨lk, d⟩ := dic_of m hc hM
      exact sub_any (dic_type hK hw I d) PySem.F.slot_dict_getitem.lookup (dic_get hK hw hu I m d hk qb ry hg fun z z' s' I' q' r' => ⟨z, H, I', r', Kv_now m p1 q'⟩) hs
  unfold oIx at p
  split at p
  · rename_i i
    split at p
    · rename_i z
      split at p
      · rename_i hzl
        split at p
        · rename_i c hc
          obtain ⟨n, h1, h2⟩ := Option.bind_eq_some_iff.mp hc
          refine ix_str value slice pins s σ H x y v u Q I rx ry ⟨tx z, i, c, qa, qb, by rw [tx_len]; exact many_le hzl, ?_, Kv_now m p rfl⟩ hs
          unfold atI
          rw [← ixW_eq]
          have e : (tx z).cps.toList = z := by simp
          rw [e, h1]
          exact h2
        · exact p.elim
      · exact p.elim
    · rename_i j
      split at p
      · rename_i kvs hM
        split at p
        · rename_i hk
          exact dic j kvs rfl hM hk p
        · exact p.elim
      · split at p
        · rename_i ws h
          exact ix_seq value slice pins s σ H x y v u Q I rx ry (seq ws i h rfl p rfl) hs
        · exact p.elim
    · split at p
      · rename_i ws h
        exact ix_seq value slice pins s σ H x y v u Q I rx ry (seq ws i h rfl p rfl) hs
      · exact p.elim
  · split at p
    · rename_i j
      split at p
      · rename_i kvs hM
        split at p
        · rename_i hk
          exact dic j kvs rfl hM hk p
        · exact p.elim
      · exact p.elim
    · exact p.elim
end
end Sw

set_option autoImplicit false
set_option Elab.async false
set_option linter.all false
set_option maxRecDepth 100000
/-! in, len. -/
namespace Sw
open PySem PySem.Spec L2
theorem any_eqv {x : W} (hx : isD x = true) : ∀ {ws : List W}, isDs ws = true → ((toDs ws).any fun z => PyData.eqv z (toD x)) = ws.any fun z => eqD z x
  | [], _ => rfl
  | w :: ws, h => by
    rw [isDs, Bool.and_eq_true] at h
    rw [toDs, List.any_cons, List.any_cons, eqv_D w x (isF_of_D _ h.1) (isF_of_D _ hx), any_eqv hx h.2]
section
variable {C : Rc} {E : XK} {X : Cx}
theorem room65 {X : Cx} {a b : Nat} (hu : X.A.units + 64 < cLine) (h : a ≤ 59) : X.A.units + 1 + min a b < cLine := by
  have : min a b ≤ a := Nat.min_le_left _ _
  omega
theorem Reads.tup_of {h : Heap} {v : Value} {ds : List PyData} {as : List Addr} (x : Reads h v (.tuple ds) as) : Reads h v (.tuple ds) as := x
/-- the four ways of in -/
theorem in_ways (hK : C.K = X.K) (hw : C.w = X.w) (hu : X.A.units + 64 < cLine) {pins : List (Addr × Obj)} {s : Shared} {σ : L2.St} {H : Hp} {x y : V} {v u : Value} {r : List Addr} {M : Mem} {a b : W} {k : Bool} {Q Q' : Value → Shared → Prop}
    (I : Inv X pins σ H s) (rx : L2.RelV x v) (ry : L2.RelV y u) (m : RepM C H r M) (qa : RepW C H r a x) (qb : RepW C H r b y) (h : inW a b M = some k) (hq : ∀ s', Inv X pins σ H s' → Q (.bool k) s') (hq' : ∀ s', Inv X pins σ H s' → Q' (.bool (!k)) s') :
    wpAny (model X.prog X.w) X.A (compareOp .In v u) Q X.xe s ∧ wpAny (model X.prog X.w) X.A (compareOp .NotIn v u) Q' X.xe s := by
  unfold inW at h
  have seq : ∀ ws, isD a = true → isDs ws = true → deps ws ≤ 59 → k = (ws.any fun z => eqD z a) → (Dp X.K H y (.list (toDs ws)) ∨ Dp X.K H y (.tuple (toDs ws))) →
      wpAny (model X.prog X.w) X.A (compareOp .In v u) Q X.xe s ∧ wpAny (model X.prog X.w) X.A (compareOp .NotIn v u) Q' X.xe s := fun ws h1 h2 h3 e dy => by
    subst e
    have dx := RepW.dp a x h1 qa
    rw [hK] at dx
    obtain ⟨as, ra⟩ := Dp.reads I _ _ _ dx rx
    have hr := room65 (X := X) (b := (toD a).depth) hu (Nat.le_trans (toDs_depth ws) h3)
    rcases dy with dy | dy
    · obtain ⟨bs, rb⟩ := Dp.reads I _ _ _ dy ry
      exact ⟨PySem.SeqAt.in_list_data rb ra (toDs_plain ws) (toD_plain a) hr (by rw [any_eqv h1 h2]; exact hq _ I), PySem.SeqAt.notIn_list_data rb ra (toDs_plain ws) (toD_plain a) hr (by rw [any_eqv h1 h2]; exact hq' _ I)⟩
    · obtain ⟨bs, rb⟩ := Dp.reads I _ _ _ dy ry
      exact ⟨PySem.SeqAt.in_tuple_data rb ra (toDs_plain ws) (toD_plain a) hr (by rw [any_eqv h1 h2]; exact hq _ I), PySem.SeqAt.notIn_tuple_data rb ra (toDs_plain ws) (toD_plain a) hr (by rw [any_eqv h1 h2]; exact hq' _ I)⟩
  split at h
  · rename_i ws
    split at h
    · rename_i hc
      simp only [Bool.and_eq_true, decide_eq_true_eq] at hc
      have dy := RepW.dp (.tup ws) y hc.1.1.2 qb
      rw [toD_tup (hasM_of_D hc.1.1.2), hK] at dy
      exact seq ws hc.1.1.1 hc.1.1.2 hc.2 (Option.some.inj h).symm (.inr dy)
    · cases h
  · rename_i i
    split at h
    · rename_i ws hi
      split at h
      · rename_i hc
        simp only [Bool.and_eq_true, decide_eq_true_eq] at hc
        obtain ⟨c, vs, e1, _, h1, q1⟩ := lst_at m qb hi
        have dy : Dp C.K H y (.list (toDs ws)) := by
          rw [e1]
          exact .lst (.inl (.inl h1)) (RepWs.dp ws vs hc.1.1.2 q1)
        rw [hK] at dy
        exact seq ws hc.1.1.1 hc.1.1.2 hc.2 (Option.some.inj h).symm (.inl dy)
      · cases h
    · split at h
      · rename_i kvs hi
        split at h
        · rename_i hk
          obtain ⟨c, ec, hc⟩ := qb
          subst ec
          obtain rfl : u = Value.ref c := ry
          obtain ⟨lk, d⟩ := dic_of m hc hi
          have e := (Option.some.inj h).symm
          subst e
          exact ⟨dic_in hK hw hu I m d hk qa rx hq, dic_notIn hK hw hu I m d hk qa rx hq'⟩
        · cases h
      · cases h
  · rename_i z
    split at h
    · rename_i c
      have e := (Option.some.inj h).symm
      subst e
      have ez : (tx z).cps.toList = z := by simp
      have g1 : wpAny (model X.prog X.w) X.A (compareOp .In v u) (EP X pins σ fun w H' => H' = H ∧ w = .bl (decide (c ∈ z))) X.xe s := op_in_sign pins s σ H x y v u _ I rx ry ⟨c, tx z, qa, qb, rfl, by rw [ez]⟩
      have g2 : wpAny (model X.prog X.w) X.A (compareOp .NotIn v u) (EP X pins σ fun w H' => H' = H ∧ w = .bl (!decide (c ∈ z))) X.xe s := op_notIn_sign pins s σ H x y v u _ I rx ry ⟨c, tx z, qa, qb, rfl, by rw [ez]⟩
      refine ⟨thn g1 fun w s1 ⟨w', H1, I1, r1, e1, e2⟩ => ?_, thn g2 fun w s1 ⟨w', H1, I1, r1, e1, e2⟩ => ?_⟩
      · subst e1 e2
        obtain rfl : w = Value.bool _ := r1
        exact hq _ I1
      · subst e1 e2
        obtain rfl : w = Value.bool _ := r1
        exact hq' _ I1
    · cases h
  · cases h
theorem o_in (hK : C.K = X.K) (hw : C.w = X.w) (hu : X.A.units + 64 < cLine) : OpR X (compareOp .In) (r2 C E oIn) := by
  intro pins s σ H x y v u Q I rx ry ⟨r, M, a, b, m, qa, qb, p⟩
  change PG C E r H (eqOut M (inW a b M)) (Kv C Q r H) at p
  cases e : inW a b M with
  | none => rw [e] at p; exact p.elim
  | some k =>
    rw [e] at p
    exact (in_ways hK hw hu (Q' := fun _ _ => True) I rx ry m qa qb e (fun s' I' => ⟨.bl k, H, I', rfl, eqOut_go m rfl p⟩) fun _ _ => trivial).1
theorem o_ni (hK : C.K = X.K) (hw : C.w = X.w) (hu : X.A.units + 64 < cLine) : OpR X (compareOp .NotIn) (r2 C E oNi) := by
  intro pins s σ H x y v u Q I rx ry ⟨r, M, a, b, m, qa, qb, p⟩
  change PG C E r H (eqOut M ((inW a b M).map (!·))) (Kv C Q r H) at p
  cases e : inW a b M with
  | none => rw [e] at p; exact p.elim
  | some k =>
    rw [e] at p
    exact (in_ways hK hw hu (Q := fun _ _ => True) I rx ry m qa qb e (fun _ _ => trivial) fun s' I' => ⟨.bl (!k), H, I', rfl, eqOut_go m rfl p⟩).2
/-! ### calls of built-ins by values -/
theorem i_c1 {f : Op1} {v : Value} {id : String} {x : Str} {e : Expr} {m : EM} {p pos : Pos} (hv0 : v = .builtin id) (hc : CallR X (.builtin id) (fun xs H Q => ∃ a, xs = [a] ∧ r1 C E f a H Q)) (hg : Gl X x) (hm : X.mg x = none) (hv : bootBuiltins x = some (.builtin id)) (ha : PE X e (tE C E m))
    (hn : x ≠ "__name__" := by decide) (hdb : (x == ("__debug__" : Str)) = false := by decide) (hs : starEach [e] X.env = (false, eval e X.env) :: starEach [] X.env := by rfl) : PE X (.Call (.Name x p) [e] [] pos) (tE C E (eUn f m)) :=
  PE.imp (pe_callB hc hg hm hv (pa_cons ha pa_nil hs) hn hdb hs rfl) fun _ _ _ ⟨_, _, _, hs, hm, p⟩ => tE_on Kv_cl hs hm p fun v H1 r1 M1 w x1 m1 q1 s1 p1 => ⟨v, rfl, r1, M1, w, m1, q1, p1⟩
theorem i_c1t {f : Op1} {T : String} {x : Str} {e : Expr} {m : EM} {p pos : Pos} (hc : CallR X (.type T) (fun xs H Q => ∃ a, xs = [a] ∧ r1 C E f a H Q)) (hg : Gl X x) (hm : X.mg x = none) (hv : bootBuiltins x = some (.type T)) (ha : PE X e (tE C E m))
    (hn : x ≠ "__name__" := by decide) (hdb : (x == ("__debug__" : Str)) = false := by decide) (hs : starEach [e] X.env = (false, eval e X.env) :: starEach [] X.env := by rfl) : PE X (.Call (.Name x p) [e] [] pos) (tE C E (eUn f m)) :=
  PE.imp (pe_callTy hc hg hm hv (pa_cons ha pa_nil hs) hn hdb hs rfl) fun _ _ _ ⟨_, _, _, hs, hm, p⟩ => tE_on Kv_cl hs hm p fun v H1 r1 M1 w x1 m1 q1 s1 p1 => ⟨v, rfl, r1, M1, w, m1, q1, p1⟩
/-- a built-in over a list or tuple -/
def rL (C : Rc) (E : XK) (f : List W → Mem → Out W) : V → Hp → VK → Prop := fun x H Q => ∃ r M a vs ws, x = .ref a ∧ (SqL C.K H a vs ∨ SqT C.K H a vs) ∧ RepM C H r M ∧ RepWs C H r ws vs ∧ PG C E r H (f ws M) (Kv C Q r H)
theorem i_cL {f : List W → Mem → Out W} {id : String} {x : Str} {e : Expr} {l : LM} {p pos : Pos} (hc : CallR X (.builtin id) (fun xs H Q => ∃ a, xs = [a] ∧ rL C E f a H Q)) (hg : Gl X x) (hm : X.mg x = none) (hv : bootBuiltins x = some (.builtin id)) (ha : PE X e (tR C E l))
    (hn : x ≠ "__name__" := by decide) (hdb : (x == ("__debug__" : Str)) = false := by decide) (hs : starEach [e] X.env = (false, eval e X.env) :: starEach [] X.env := by rfl) : PE X (.Call (.Name x p) [e] [] pos) (tE C E (eL f l)) :=
  PE.imp (pe_callB hc hg hm hv (pa_cons ha pa_nil hs) hn hdb hs rfl) fun _ _ _ ⟨_, _, _, hs, hm, p⟩ => tR_on Kv_cl hs hm p fun a vs H1 r1 M1 ws x1 m1 q1 sq s1 p1 => ⟨.ref a, rfl, r1, M1, a, vs, ws, rfl, sq, m1, q1, p1⟩
theorem i_cLt {f : List W → Mem → Out W} {T : String} {x : Str} {e : Expr} {l : LM} {p pos : Pos} (hc : CallR X (.type T) (fun xs H Q => ∃ a, xs = [a] ∧ rL C E f a H Q)) (hg : Gl X x) (hm : X.mg x = none) (hv : bootBuiltins x = some (.type T)) (ha : PE X e (tR C E l))
    (hn : x ≠ "__name__" := by decide) (hdb : (x == ("__debug__" : Str)) = false := by decide) (hs : starEach [e] X.env = (false, eval e X.env) :: starEach [] X.env := by rfl) : PE X (.Call (.Name x p) [e] [] pos) (tE C E (eL f l)) :=
  PE.imp (pe_callTy hc hg hm hv (pa_cons ha pa_nil hs) hn hdb hs rfl) fun _ _ _ ⟨_, _, _, hs, hm, p⟩ => tR_on Kv_cl hs hm p fun a vs H1 r1 M1 ws x1 m1 q1 sq s1 p1 => ⟨.ref a, rfl, r1, M1, a, vs, ws, rfl, sq, m1, q1, p1⟩
/-- len -/
theorem lenW_go {H : Hp} {r : List Addr} {M : Mem} {w : W} {x : V} {ws : List W} (m : RepM C H r M) (q : RepW C H r w x) (h : items w M = some ws) : ∃ p vs, x = .ref p ∧ (SqL C.K H p vs ∨ SqT C.K H p vs) ∧ vs.length = ws.length := by
  obtain ⟨p, vs, e, sq, q⟩ := Kr_of m q h
  exact ⟨p, vs, e, sq, q.length⟩
theorem c_len (hK : C.K = X.K) (hw : C.w = X.w) : CallR X (.builtin "len") (fun xs H Q => ∃ a, xs = [a] ∧ r1 C E uLen a H Q) := by
  intro pins s σ H xs us Q I rv ⟨a, e, r, M, w, m, q, p⟩
  subst e
  have seq : ∀ ws, items w M = some ws → (∀ n : Nat, n = ws.length → Q (.int n) H) → wpAny (model X.prog X.w) X.A (call (.builtin "len") us) (EP X pins σ Q) X.xe s := fun ws h hq => by
    obtain ⟨c, vs, ec, sq, hl⟩ := lenW_go m q h
    rw [hK] at sq
    subst ec
    exact call_len_seq pins s σ H [.ref c] us Q I rv ⟨c, vs, rfl, sq, hq _ hl⟩
  change PG C E r H (match lenW w M with
    | some n => ok (.int n) M
    | none => none) (Kv C Q r H) at p
  cases e : lenW w M with
  | none => rw [e] at p; exact p.elim
  | some n =>
    rw [e] at p
    have go : ∀ k : Nat, k = n → Q (.int k) H := fun k ek => by subst ek; exact Kv_now m p rfl
    unfold lenW at e
    split at e
    · rename_i z
      split at e
      · rename_i hz
        exact call_len_str pins s σ H [a] us Q I rv ⟨tx z, by rw [show a = .str (tx z) from q], by rw [tx_len]; exact many_le hz, by rw [tx_len]; exact go _ (Option.some.inj e)⟩
      · cases e
    · rename_i i
      split at e
      · rename_i kvs hi
        obtain ⟨c, ec, hc⟩ := q
        subst ec
        obtain ⟨lk, d⟩ := dic_of m hc hi
        cases rv with
        | cons r1 r2 =>
          cases r2
          obtain rfl := r1
          rcases d.obj with ⟨_, xs, e1, qs⟩ | ⟨_, hsm, xs, e1, qs⟩
          · refine d_len I e1.rd fun t s' I' => ⟨.int xs.length, H, I', ⟨t, rfl⟩, go _ ?_⟩
            rw [← Paired.length qs]
            exact Option.some.inj e
          · obtain ⟨⟨o, es, ep, h1, h2, h3, h4⟩, _, _⟩ := e1.rd.ok I.hok
            have hs : es.size = xs.length := by
              rw [← Array.length_toList, h4, List.length_map]
            have hlen : kvs.length = xs.length := Paired.length qs
            have hfew := d.few
            have hdr : s.heap.DictRaw c es ep := ⟨o, h1, h2, h3⟩
            refine PyProof.Rows.call_len_slot (n := (es.size : Int)) hdr.typeIs PySem.F.slot_dict_len (fun Q' hq => call_len_raw hsm hdr hq) (by omega) (by omega) ⟨.int es.size, H, I.tok _, ⟨_, rfl⟩, go _ ?_⟩
            rw [hs, ← hlen]
            exact Option.some.inj e
      · cases hi : items (.ref i) M with
        | none => rw [hi] at e; cases e
        | some ws =>
          rw [hi] at e
          exact seq ws hi fun k ek => go k (ek.trans (Option.some.inj e))
    · cases hi : items w M with
      | none => rw [hi] at e; cases e
      | some ws =>
        rw [hi] at e
        exact seq ws hi fun k ek => go k (ek.trans (Option.some.inj e))
end
end Sw

set_option autoImplicit false
set_option Elab.async false
set_option linter.all false
set_option maxRecDepth 100000
/-! Walks, targets, loops. -/
namespace Sw
open PySem PySem.Spec L2
section
variable (C : Rc) (E : XK)
/-- a walk of the model goes through these items, as long as the list that it walks stands still -/
def Wk (J : L2.It) (q : Wd) (r0 : List Addr) (H0 : Hp) : Prop := ∀ r H M, Mono r0 r H0 H → RepM C H r M → still q.2 M = true →
  (∀ (i : Nat) (w : W), q.1[i]? = some w → J.go i H ∧ ∀ x H', J.yld i H x H' → Mono r r H H' ∧ RepM C H' r M ∧ RepW C H' r w x) ∧ J.stop q.1.length H
def Ki (R : L2.It → Hp → Prop) : KT Wd := fun r H q M => ∀ J H' r', Mono r r' H H' → RepM C H' r' M → Wk C J q r' H' → R J H'
def tI (m : IM) : TI := fun σ H R => ∃ s M r, RepS C H r s σ ∧ RepM C H r M ∧ PG C E r H (m s M) (Ki C R r H)
def ownP : Pat → List Nat
  | .one i => [i]
  | .some_ is => is
/-- a target -/
def gP (p : Pat) : TG := fun v σ H Q => ∃ s M r w s', RepS C H r s σ ∧ RepM C H r M ∧ RepW C H r w v ∧ bindP p w s = some s' ∧ ∀ σ', RepS C H r s' σ' → (∀ j, j ∉ ownP p → σ'[j]? = σ[j]?) → Q σ' H
end
section
variable {C : Rc} {E : XK} {X : Cx}
theorem Ki_cl {R : L2.It → Hp → Prop} : Cl C (Ki C R) := fun r r' H H' M' a M x m h J H2 r2 y m2 q => h J H2 r2 (x.trans m y) m2 q
theorem tI_on {β : Type} {m : IM} {f : Wd → Mem → Out β} {K : KT β} {R : L2.It → Hp → Prop} {σ : L2.St} {s : Sl} {H : Hp} {r : List Addr} {M : Mem} (cl : Cl C K) (hs : RepS C H r s σ) (hm : RepM C H r M) (h : PG C E r H (bnd (m s M) f) (K r H))
    (k : ∀ J H1 r1 M1 q, Mono r r1 H H1 → RepM C H1 r1 M1 → Wk C J q r1 H1 → RepS C H1 r1 s σ → PG C E r1 H1 (f q M1) (K r1 H1) → R J H1) : tI C E m σ H R :=
  ⟨s, M, r, hs, hm, (h.fst cl).imp fun a M1 _ q J H1 r1 x m1 p => k J H1 r1 M1 a x m1 p (hs.go x hm) (q r1 H1 x m1)⟩
theorem PI.imp {tg e : Expr} {t t' : TI} (h : PI X tg e t) (f : ∀ σ H Q, t' σ H Q → t σ H Q) : PI X tg e t' := ⟨fun pins s σ H Q I q => h.run pins s σ H Q I (f σ H Q q)⟩
theorem LPG.imp {tg : Expr} {t t' : TG} (h : L2.PG X tg t) (f : ∀ v σ H Q, t' v σ H Q → t v σ H Q) : L2.PG X tg t' := ⟨fun pins s σ H v u Q I ru q => h.run pins s σ H v u Q I ru (f v σ H Q q)⟩
/-! ### targets -/
theorem i_gn {i : Nat} {x : Str} {pos : Pos} (hN : X.N.Nodup) (hi : X.N[i]? = some x) (hx : Loc X.env.scope x) (hf : X.fn x = true ∨ X.env.scope.names.lookup x = some .local := by first | exact .inl rfl | exact .inr rfl | assumption) : L2.PG X (.Name x pos) (gP C (.one i)) :=
  LPG.imp (pg_name hN hi hx hf) fun v σ H Q ⟨s, M, r, w, s', hs, hm, hw, hb, k⟩ => by
    simp only [bindP, Option.some.injEq] at hb
    subst hb
    exact k _ (hs.put hw) fun j hj => List.getElem?_set_ne fun e => hj (by rw [← e]; exact List.mem_singleton.mpr rfl)
def gPs (C : Rc) (is : List Nat) : TGs := fun vs σ H Q => ∃ s M r ws s', RepS C H r s σ ∧ RepM C H r M ∧ RepWs C H r ws vs ∧ setMany is ws s = some s' ∧ ∀ σ', RepS C H r s' σ' → (∀ j, j ∉ is → σ'[j]? = σ[j]?) → Q σ' H
theorem LPGs.imp {tg : List Expr} {t t' : TGs} (h : L2.PGs X tg t) (f : ∀ v σ H Q, t' v σ H Q → t v σ H Q) : L2.PGs X tg t' := ⟨fun pins s σ H v u Q I ru q => h.run pins s σ H v u Q I ru (f v σ H Q q)⟩
theorem i_gnil : L2.PGs X [] (gPs C []) :=
  LPGs.imp pgs_nil fun vs σ H Q ⟨s, M, r, ws, s', hs, hm, hw, hb, k⟩ => by
    cases ws with
    | nil =>
      simp only [setMany, Option.some.injEq] at hb
      subst hb
      exact ⟨hw, k σ hs fun _ _ => rfl⟩
    | cons w ws => simp [setMany] at hb
theorem i_gcons {i : Nat} {x : Str} {pos : Pos} {es : List Expr} {is : List Nat} (hN : X.N.Nodup) (hi : X.N[i]? = some x) (hx : Loc X.env.scope x) (h2 : L2.PGs X es (gPs C is)) (hf : X.fn x = true ∨ X.env.scope.names.lookup x = some .local := by first | exact .inl rfl | exact .inr rfl | assumption)
    (hs : (assignEach (.Name x pos :: es) X.env).map (·.2) = assign (.Name x pos) X.env :: (assignEach es X.env).map (·.2) := by rfl) : L2.PGs X (.Name x pos :: es) (gPs C (i :: is)) :=
  LPGs.imp (pgs_cons (i_gn (C := C) hN hi hx hf) h2 hs) fun vs σ H Q ⟨s, M, r, ws, s', hs, hm, hw, hb, k⟩ => by
    cases ws with
    | nil => simp [setMany] at hb
    | cons w ws =>
      obtain ⟨v, vr, rfl, p, q⟩ := hw
      exact ⟨v, vr, rfl, s, M, r, w, setS s i w, hs, hm, p, rfl, fun σ' h' n' => ⟨setS s i w, M, r, ws, s', h', hm, q, hb, fun σ2 h2 n2 => k σ2 h2 fun j hj => (n2 j fun z => hj (List.mem_cons_of_mem _ z)).trans (n' j fun z => hj (by rw [List.mem_singleton.mp z]; exact List.mem_cons_self))⟩⟩
theorem setMany_len : ∀ {is : List Nat} {ws : List W} {s s' : Sl}, setMany is ws s = some s' → ws.length = is.length
  | [], [], _, _, _ => rfl
  | [], _ :: _, _, _, h => by simp [setMany] at h
  | _ :: _, [], _, _, h => by simp [setMany] at h
  | i :: is, w :: ws, s, s', h => by
    rw [List.length_cons, List.length_cons, setMany_len (is := is) (ws := ws) h]
theorem i_gt {es : List Expr} {kk : Nat} {pos : Pos} {is : List Nat} (hK : C.K = X.K) (hc : X.calm = true) (h : L2.PGs X es (gPs C is)) (hn : (assignEach es X.env).length = is.length := by rfl) (hst : (assignEach es X.env).findIdx? (·.1) = none := by rfl) : L2.PG X (.Tuple es kk pos) (gP C (.some_ is)) :=
  LPG.imp (pg_tup hc h hn hst) fun v σ H Q ⟨s, M, r, w, s', hs, hm, hw, hb, k⟩ => by
    cases w with
    | tup ws =>
      obtain ⟨a, vs, e, sq, q⟩ := hw
      rw [hK] at sq
      exact ⟨a, vs, e, sq, by rw [q.length, setMany_len hb], s, M, r, ws, s', hs, hm, q, hb, k⟩
    | _ => simp [bindP] at hb
theorem i_asg {tg e : Expr} {m : EM} {p : Pat} {pos : Pos} (he : PE X e (tE C E m)) (hg : L2.PG X tg (gP C p)) (hs : swapsWithSole [tg] e pos.line X.env = pure false := by rfl) (hw : swappedStores [tg] e X.env = pure none := by rfl)
    (h1 : (assignEach [tg] X.env).map (·.2) = [assign tg X.env] := by rfl) : PS X (.Assign [tg] e pos) (tS C E (sAsg p m)) :=
  PS.imp (ps_asg he hg hs hw h1) fun D σ H ⟨s, M, r, hs, hm, p⟩ => tE_on Ks_cl hs hm p fun v H1 r1 M1 w x1 m1 q1 s1 p1 => by
    cases e : bindP ‹Pat› w s with
    | none => rw [e] at p1; exact p1.elim
    | some s' =>
      rw [e] at p1
      exact ⟨s, M1, r1, w, s', s1, m1, q1, e, fun σ' h' _ => p1 σ' H1 r1 (Mono.refl _ _) m1 h'⟩
theorem i_set {i : Nat} {x : Str} {e : Expr} {m : EM} {pos pos' : Pos} (hN : X.N.Nodup) (hi : X.N[i]? = some x) (hx : Loc X.env.scope x) (he : PE X e (tE C E m)) (hs : swapsWith e (some (.Name x pos')) pos.line X.env = pure false := by rfl)
    (hf : X.fn x = true ∨ X.env.scope.names.lookup x = some .local := by first | exact .inl rfl | exact .inr rfl | assumption) : PS X (.Assign [.Name x pos'] e pos) (tS C E (sAsg (.one i) m)) :=
  PS.imp (ps_set hN hi hx he hs hf) fun D σ H ⟨s, M, r, hs, hm, p⟩ => tE_on Ks_cl hs hm p fun v H1 r1 M1 w x1 m1 q1 s1 p1 => p1 _ H1 r1 (Mono.refl _ _) m1 (s1.put q1)
/-! ### for -/
theorem i_for {tg iter : Expr} {bd : List Stmt} {m : IM} {p : Pat} {b : SM} {pos : Pos} (hp : PassesOwn (model X.prog X.w) X.A X.env X.xe) (hc : X.calm = true) (hi : PI X tg iter (tI C E m)) (hg : L2.PG X tg (gP C p)) (hb : PSs X bd (tS C E b))
    (hf : ∀ x, foldedSetIterable iter X.env x = pure x := by intro _; rfl) : PS X (.For tg iter bd [] pos) (tS C E (sFor p m b)) :=
  PS.imp (ps_for hp hc hi hg hb hf) fun D σ H ⟨s, M, r, hs, hm, pp⟩ => tI_on Ks_cl hs hm pp fun J H1 r1 M1 q x1 m1 wk s1 p1 => by
    obtain ⟨ws, g⟩ := q
    refine ⟨fun i n σ' H' => n = ws.length - i ∧ i ≤ ws.length ∧ ∃ s' M' r', Mono r1 r' H1 H' ∧ RepS C H' r' s' σ' ∧ RepM C H' r' M' ∧ PG C E r' H' (forL g p b (ws.drop i) s' M') (Ks C D r' H'), ⟨ws.length, rfl, Nat.zero_le _, s, M1, r1, Mono.refl _ _, s1, m1, p1⟩, ?_⟩
    rintro i n σ' H' ⟨rfl, hi, s', M', r', x', s1', m1', p1'⟩
    by_cases hst : still g M' = true
    · obtain ⟨items_, stop⟩ := wk r' H' M' x' m1' hst
      by_cases hlt : i < ws.length
      · refine .inr ⟨(items_ i ws[i] (List.getElem?_eq_getElem hlt)).1, fun σ2 H2 => ∃ s2 M2 r2, Mono r1 r2 H1 H2 ∧ RepS C H2 r2 s2 σ2 ∧ RepM C H2 r2 M2 ∧ PG C E r2 H2 (forL g p b (ws.drop (i + 1)) s2 M2) (Ks C D r2 H2),
          fun σ2 H2 h2 => ⟨ws.length - (i + 1), by omega, rfl, hlt, h2⟩, fun x H2 y => ?_⟩
        obtain ⟨y1, y2, y3⟩ := (items_ i ws[i] (List.getElem?_eq_getElem hlt)).2 x H2 y
        rw [List.drop_eq_getElem_cons hlt] at p1'
        unfold forL at p1'
        rw [if_pos hst] at p1'
        have p2 := PG.go Ks_cl y1 y2 p1'
        cases eb : bindP p ws[i] s' with
        | none => rw [eb] at p2; exact p2.elim
        | some s2 =>
          rw [eb] at p2
          refine ⟨s', M', r', ws[i], s2, s1'.go y1 m1', y2, y3, eb, fun σ2 h2 _ => ?_⟩
          refine ⟨s2, M', r', h2, y2, (p2.fst Ks_cl).imp fun fl M3 e3 q3 => ?_⟩
          cases fl with
          | nx s3 => exact fun σ3 H3 r3 x3 m3 h3 => ⟨s3, M3, r3, (x'.trans m1' y1).trans y2 x3, h3, m3, q3 r3 H3 x3 m3⟩
          | rt w => exact fun v H3 r3 x3 m3 qv => q3 r3 H3 x3 m3 v H3 r3 (Mono.refl _ _) m3 qv
      · have e : i = ws.length := by omega
        subst e
        rw [List.drop_length] at p1'
        unfold forL at p1'
        rw [if_pos hst] at p1'
        exact .inl ⟨stop, p1' σ' H' r' (Mono.refl _ _) m1' s1'⟩
    · exfalso
      cases e : ws.drop i with
      | nil => rw [e] at p1'; unfold forL at p1'; rw [if_neg hst] at p1'; exact p1'
      | cons w rest => rw [e] at p1'; unfold forL at p1'; rw [if_neg hst] at p1'; exact p1'
/-! ### while -/
theorem i_while {c : Expr} {bd : List Stmt} {t : EM} {b : SM} {g : Nat} {pos : Pos} (hp : PassesOwn (model X.prog X.w) X.A X.env X.xe) (hc : PT X c (tT C E t)) (hb : PSs X bd (tS C E b)) : PS X (.While c bd [] pos) (tS C E (sWhile g t b)) :=
  PS.imp (ps_while hp hc hb) fun D σ H ⟨s, M, r, hs, hm, pp⟩ => by
    refine ⟨fun n σ' H' => ∃ s' M' r', RepS C H' r' s' σ' ∧ RepM C H' r' M' ∧ PG C E r' H' (whL t b n s' M') (Ks C D r' H'), ⟨g, s, M, r, hs, hm, pp⟩, ?_⟩
    rintro n σ' H' ⟨s', M', r', s1', m1', p1'⟩
    cases n with
    | zero => exact p1'.elim
    | succ n =>
      refine tT_on Ks_cl s1' m1' p1' (fun w M1 h => by cases w <;> first | rfl | exact absurd rfl (h _)) fun k H1 r1 M1 x1 m1 s1 p1 => ?_
      cases k with
      | false => exact iteF (p1 σ' H1 r1 (Mono.refl _ _) m1 s1)
      | true =>
        refine iteT ⟨fun σ2 H2 => ∃ s2 M2 r2, RepS C H2 r2 s2 σ2 ∧ RepM C H2 r2 M2 ∧ PG C E r2 H2 (whL t b n s2 M2) (Ks C D r2 H2), fun σ2 H2 h2 => ⟨n, Nat.lt_succ_self n, h2⟩, ?_⟩
        refine ⟨s', M1, r1, s1, m1, (p1.fst Ks_cl).imp fun fl M3 e3 q3 => ?_⟩
        cases fl with
        | nx s3 => exact fun σ3 H3 r3 x3 m3 h3 => ⟨s3, M3, r3, h3, m3, q3 r3 H3 x3 m3⟩
        | rt w => exact fun v H3 r3 x3 m3 qv => q3 r3 H3 x3 m3 v H3 r3 (Mono.refl _ _) m3 qv
end
end Sw

set_option autoImplicit false
set_option Elab.async false
set_option linter.all false
set_option maxRecDepth 100000
/-! What is walked; comprehensions. -/
namespace Sw
open PySem PySem.Spec L2
section
variable {C : Rc} {E : XK} {X : Cx}
/-- a list or tuple that stays, at each later state -/
theorem wk_seqT {H0 : Hp} {r0 : List Addr} {a : Addr} {ws : List W} {g : Option (Nat × O)} (h : ∀ r H M, Mono r0 r H0 H → RepM C H r M → still g M = true → ∃ vs, SqT C.K H a vs ∧ RepWs C H r ws vs) : Wk C (Itt C.K a) (ws, g) r0 H0 := by
  intro r H M x m hst
  obtain ⟨vs, sq', q'⟩ := h r H M x m hst
  refine ⟨fun i w hi => ?_, vs, sq', by rw [q'.length]; exact Nat.le_refl _⟩
  obtain ⟨v, hv, qv⟩ := q'.get hi
  refine ⟨⟨vs, v, sq', hv⟩, fun y H' ⟨e, k⟩ => ?_⟩
  subst e
  have := k vs sq'
  rw [hv] at this
  cases this
  exact ⟨Mono.refl _ _, m, qv⟩
theorem wk_seqL {H0 : Hp} {r0 : List Addr} {a : Addr} {ws : List W} {g : Option (Nat × O)} (h : ∀ r H M, Mono r0 r H0 H → RepM C H r M → still g M = true → ∃ vs, SqL C.K H a vs ∧ RepWs C H r ws vs) : Wk C (Itl C.K a) (ws, g) r0 H0 := by
  intro r H M x m hst
  obtain ⟨vs, sq', q'⟩ := h r H M x m hst
  refine ⟨fun i w hi => ?_, vs, sq', by rw [q'.length]; exact Nat.le_refl _⟩
  obtain ⟨v, hv, qv⟩ := q'.get hi
  refine ⟨⟨vs, v, sq', hv⟩, fun y H' ⟨e, k⟩ => ?_⟩
  subst e
  have := k vs sq'
  rw [hv] at this
  cases this
  exact ⟨Mono.refl _ _, m, qv⟩
theorem scr_reps {H : Hp} {r : List Addr} : ∀ ns : List Int, RepWs C H r (ns.map W.int) (ns.map V.int)
  | [] => rfl
  | n :: ns => ⟨.int n, ns.map V.int, rfl, rfl, scr_reps ns⟩
theorem still_iff {i : Nat} {o : O} {M : Mem} (h : still (some (i, o)) M = true) : M[i]? = some o := of_decide_eq_true h
theorem wk_str {H0 : Hp} {r0 : List Addr} {z : Tx} {g : Option (Nat × O)} : Wk C (Its (tx z)) (z.map fun c => W.str [c], g) r0 H0 := by
  intro r H M x m hst
  have sz : (tx z).cps.size = z.length := by simp
  refine ⟨fun i w hi => ?_, by show (tx z).cps.size ≤ (z.map fun c => W.str [c]).length; rw [sz, List.length_map]; exact Nat.le_refl _⟩
  rw [List.getElem?_map] at hi
  cases e : z[i]? with
  | none => rw [e] at hi; cases hi
  | some c =>
    rw [e] at hi
    simp only [Option.map_some, Option.some.injEq] at hi
    subst hi
    have hl : i < z.length := (List.getElem?_eq_some_iff.mp e).1
    refine ⟨by show i < (tx z).cps.size; rw [sz]; exact hl, fun y H' ⟨e1, c', e2, e3⟩ => ?_⟩
    subst e1 e3
    have e4 : (tx z).cps[i]? = z[i]? := by simp
    rw [e4, e] at e2
    cases e2
    exact ⟨Mono.refl _ _, m, rfl⟩
theorem i_seq {tg e : Expr} {m : EM} (hK : C.K = X.K) (h : PE X e (tE C E m)) : PI X tg e (tI C E (iSeq m)) := by
  refine ⟨fun pins s σ H R I ⟨s0, M, r, hs, hm, p⟩ => ?_⟩
  have rd : tE C E m σ H (fun x H1 => (∃ a xs, x = .ref a ∧ SqL X.K H1 a xs ∧ R (Itl X.K a) H1) ∨ (∃ a xs, x = .ref a ∧ SqT X.K H1 a xs ∧ R (Itt X.K a) H1) ∨ ∃ z, x = .str z ∧ R (Its z) H1) :=
    tE_on Ki_cl hs hm p fun v H1 r1 M1 w x1 m1 q1 s1 p1 => by
      cases w with
      | tup ws =>
        obtain ⟨a, vs, e, sq, q⟩ := q1
        refine .inr (.inl ⟨a, vs, e, by rw [← hK]; exact sq, ?_⟩)
        rw [← hK]
        exact p1 _ H1 r1 (Mono.refl _ _) m1 (wk_seqT fun r H M x m _ => ⟨vs, x.tup m1 sq, RepWs.go x m1 _ _ q⟩)
      | str z => exact .inr (.inr ⟨tx z, q1, p1 _ H1 r1 (Mono.refl _ _) m1 wk_str⟩)
      | scr ns =>
        obtain ⟨a, e, hl, hs⟩ := q1
        refine .inl ⟨a, _, e, by rw [← hK]; exact hs.seq, ?_⟩
        rw [← hK]
        exact p1 _ H1 r1 (Mono.refl _ _) m1 (wk_seqL fun r H M x m _ => ⟨_, (x.scr m1 hs).seq, scr_reps ns⟩)
      | ref i =>
        dsimp only at p1
        split at p1
        · rename_i ws hi
          obtain ⟨a, vs, e, ha, h1, q⟩ := lst_at m1 q1 hi
          refine .inl ⟨a, vs, e, .inl (.inl h1), ?_⟩
          rw [← hK]
          refine p1 _ H1 r1 (Mono.refl _ _) m1 (wk_seqL fun r H M x m hst => ?_)
          obtain ⟨vs', h1', q'⟩ := m.obj i a _ (x.ix ha) (still_iff hst)
          exact ⟨vs', .inl (.inl h1'), q'⟩
        · exact p1.elim
      | _ => exact p1.elim
  refine thn (h.run pins s σ H _ I rd) fun v s1 ⟨x, H1, I1, r1, q1⟩ => ?_
  rcases q1 with ⟨a, xs, e, hq, q⟩ | ⟨a, xs, e, hq, q⟩ | ⟨z, e, q⟩
  · subst e
    obtain rfl : v = Value.ref a := r1
    obtain ⟨its, rv, pl, hz⟩ := I1.list hq
    exact wpAny_pyIter_list pl.isList (pi_one (tk := s1.toks) I1 _ (turn_list a _) ⟨_, Heap.get?_push_size _ rfl, rfl, rfl⟩ q)
  · subst e
    obtain rfl : v = Value.ref a := r1
    obtain ⟨its, rv, pl, hz⟩ := I1.tuple hq
    exact wpAny_pyIter_tuple (show s1.heap.IsTuple a its.toArray from pl) (pi_one (tk := s1.toks) I1 _ (turn_tuple a _) ⟨_, Heap.get?_push_size _ rfl, rfl, rfl⟩ q)
  · subst e
    obtain ⟨t, rfl⟩ := r1
    cases ha : z.cps.all (· < 128)
    · exact wpAny_pyIter_wide ha (pi_one (tk := s1.toks) I1 _ (turn_str _ z t "str_iterator" (.inr rfl)) ⟨_, Heap.get?_push_size _ rfl, rfl, rfl⟩ q)
    · exact wpAny_pyIter_ascii ha (pi_one (tk := s1.toks) I1 _ (turn_str _ z t "str_ascii_iterator" (.inl rfl)) ⟨_, Heap.get?_push_size _ rfl, rfl, rfl⟩ q)
/-- a list that nobody else holds -/
theorem i_iNew {tg e : Expr} {l : LM} (hK : C.K = X.K) (h : PE X e (tF C E l)) : PI X tg e (tI C E (iNew l)) :=
  PI.imp (pi_list h) fun σ H R ⟨s0, M, r, hs, hm, p⟩ => tF_on Ki_cl hs hm p fun a vs H1 r1 M1 ws x1 m1 q1 ha hn h0 hl s1 p1 => by
    refine ⟨a, rfl, ⟨vs, .inl (.inl ha)⟩, ?_⟩
    rw [← hK]
    exact p1 _ H1 r1 (Mono.refl _ _) m1 (wk_seqL fun r H M x m _ => ⟨vs, .inl (.inl (x.keep a _ ha (.inl hn))), RepWs.go x m1 _ _ q1⟩)
theorem wk_range {H0 : Hp} {r0 : List Addr} {lo : Int} {n : Nat} : Wk C (Itr lo n) (rangeW lo n, none) r0 H0 := by
  intro r H M x m hst
  refine ⟨fun i w hi => ?_, by show n ≤ (rangeW lo n).length; simp [rangeW]⟩
  unfold rangeW at hi
  rw [List.getElem?_map] at hi
  cases e : (List.range n)[i]? with
  | none => rw [e] at hi; cases hi
  | some c =>
    rw [e] at hi
    simp only [Option.map_some, Option.some.injEq] at hi
    subst hi
    have hl : i < n := by
      have := (List.getElem?_eq_some_iff.mp e).1
      simpa using this
    have hc : c = i := by
      rw [List.getElem?_range hl] at e
      exact (Option.some.inj e).symm
    subst hc
    refine ⟨hl, fun y H' ⟨e1, e2⟩ => ?_⟩
    subst e1 e2
    exact ⟨Mono.refl _ _, m, rfl⟩
def iRange1 (hi : EM) : IM := iRange (eC (.int 0)) hi
theorem i_range1 {tg a : Expr} {ma : EM} {p pos : Pos} (hg : Gl X "range") (hm : X.mg "range" = none) (ha : PE X a (tE C E ma)) (hs : starEach [a] X.env = [(false, eval a X.env)] := by rfl) (hs1 : starEach [a] X.env = (false, eval a X.env) :: starEach [] X.env := by rfl) : PI X tg (.Call (.Name "range" p) [a] [] pos) (tI C E (iRange1 ma)) :=
  PI.imp (pi_range1 hg hm (pa_cons ha pa_nil hs1) hs) fun σ H R ⟨s0, M, r, hs, hm, p⟩ => by
    have p : PG C E r H (bnd (ma s0 M) fun b M => match W.int 0, b with
      | .int a, .int b => if -1000000 ≤ a ∧ a ≤ 1000000 ∧ -1000000 ≤ b ∧ b ≤ 1000000 then ok (rangeW a (b - a).toNat, none) M else none
      | _, _ => none) (Ki C R r H) := p
    exact tE_on Ki_cl hs hm p fun v H1 r1 M1 w x1 m1 q1 s1 p1 => by
      cases w with
      | int j =>
        simp only at p1
        split at p1
        · rename_i hj
          refine ⟨j, by rw [show v = .int j from q1], by omega, by omega, ?_⟩
          have := p1 (Itr 0 (j - 0).toNat) H1 r1 (Mono.refl _ _) m1 wk_range
          rw [Int.sub_zero] at this
          exact this
        · exact p1.elim
      | _ => exact p1.elim
theorem i_range2 {tg a b : Expr} {ma mb : EM} {p pos : Pos} (hg : Gl X "range") (hm : X.mg "range" = none) (ha : PE X a (tE C E ma)) (hb : PE X b (tE C E mb)) (hs : starEach [a, b] X.env = [(false, eval a X.env), (false, eval b X.env)] := by rfl) (hs2 : starEach [a, b] X.env = (false, eval a X.env) :: starEach [b] X.env := by rfl) (hs3 : starEach [b] X.env = (false, eval b X.env) :: starEach [] X.env := by rfl) (hs4 : starEach [b] X.env = [(false, eval b X.env)] := by rfl) :
    PI X tg (.Call (.Name "range" p) [a, b] [] pos) (tI C E (iRange ma mb)) :=
  PI.imp (pi_range2 hg hm (pa_cons ha (pa_cons hb pa_nil hs3) hs2) hs hs4) fun σ H R ⟨s0, M, r, hs, hm, p⟩ =>
    tE_on Ki_cl hs hm p fun v H1 r1 M1 w x1 m1 q1 s1 p1 => tE_on Ki_cl s1 m1 p1 fun v2 H2 r2 M2 w2 x2 m2 q2 s2 p2 => by
      cases w with
      | int i =>
        cases w2 with
        | int j =>
          simp only at p2
          split at p2
          · rename_i hj
            exact ⟨i, j, by rw [show v = .int i from q1, show v2 = .int j from q2], ⟨by omega, by omega, by omega, by omega⟩, p2 (Itr i (j - i).toNat) H2 r2 (Mono.refl _ _) m2 wk_range⟩
          · exact p2.elim
        | _ => exact p2.elim
      | _ => exact p2.elim
/-! ### comprehensions -/
theorem setMany_agree : ∀ {is : List Nat} {ws : List W} {s t s' : Sl}, s.length = t.length → (∀ j, j ∉ is → s[j]? = t[j]?) → setMany is ws s = some s' → setMany is ws t = some s'
  | [], [], s, t, s', hl, h, e => by
    simp only [setMany, Option.some.injEq] at e ⊢
    subst e
    exact (List.ext_getElem? fun j => h j (by simp)).symm
  | [], _ :: _, _, _, _, _, _, h => by simp [setMany] at h
  | _ :: _, [], _, _, _, _, _, h => by simp [setMany] at h
  | i :: is, w :: ws, s, t, s', hl, h, e => by
    refine setMany_agree (is := is) (s := setS s i w) (t := setS t i w) (by simp [setS, hl]) (fun j hj => ?_) e
    unfold setS
    by_cases hij : i = j
    · subst hij
      rw [List.getElem?_set, List.getElem?_set]
      simp [hl]
    · rw [List.getElem?_set_ne hij, List.getElem?_set_ne hij]
      exact h j fun z => (List.mem_cons.mp z).elim (fun e => hij e.symm) hj
theorem bindP_agree {p : Pat} {w : W} {s t s' : Sl} (hl : s.length = t.length) (h : ∀ j, j ∉ ownP p → s[j]? = t[j]?) (e : bindP p w s = some s') : bindP p w t = some s' := by
  cases p with
  | one i =>
    have : setMany [i] [w] s = some s' := e
    exact setMany_agree (is := [i]) hl h this
  | some_ is =>
    cases w with
    | tup ws => exact setMany_agree hl h e
    | _ => cases e
theorem wipe_get {σ : L2.St} {i : Nat} : ∀ {vs : List Nat}, i ∉ vs → (wipe σ vs)[i]? = σ[i]?
  | [], _ => rfl
  | v :: vs, h => by
    rw [List.mem_cons, not_or] at h
    unfold wipe
    rw [List.getElem?_set_ne (Ne.symm h.1), wipe_get h.2]
theorem wipe_in {i : Nat} : ∀ (vs : List Nat) (σ : L2.St), i ∈ vs → (wipe σ vs)[i]? = if i < σ.length then some none else none := by
  intro vs
  induction vs with
  | nil => intro σ h; cases h
  | cons v vs ih =>
    intro σ h
    unfold wipe
    by_cases hv : v = i
    · subst hv
      rw [List.getElem?_set]
      simp [wipe_length]
    · rw [List.getElem?_set_ne hv]
      exact ih σ ((List.mem_cons.mp h).resolve_left fun e => hv e.symm)
theorem wipe_eq {σ σ' : L2.St} {vs : List Nat} (hl : σ'.length = σ.length) (h : ∀ i, i ∉ vs → σ'[i]? = σ[i]?) : wipe σ' vs = wipe σ vs := by
  apply List.ext_getElem?
  intro i
  by_cases hi : i ∈ vs
  · rw [wipe_in vs σ' hi, wipe_in vs σ hi, hl]
  · rw [wipe_get hi, wipe_get hi, h i hi]
/-- the own slots forgotten: the names of a comprehension are not asked ahead of it -/
def wipeS (s : Sl) : List Nat → Sl
  | [] => s
  | v :: vs => (wipeS s vs).set v none
theorem wipeS_len (s : Sl) : ∀ vs : List Nat, (wipeS s vs).length = s.length
  | [] => rfl
  | v :: vs => by unfold wipeS; rw [List.length_set, wipeS_len s vs]
theorem wipeS_get {s : Sl} {i : Nat} : ∀ {vs : List Nat}, i ∉ vs → (wipeS s vs)[i]? = s[i]?
  | [], _ => rfl
  | v :: vs, h => by
    rw [List.mem_cons, not_or] at h
    unfold wipeS
    rw [List.getElem?_set_ne (Ne.symm h.1), wipeS_get h.2]
theorem wipeS_in {i : Nat} : ∀ (vs : List Nat) (s : Sl), i ∈ vs → ∀ w, (wipeS s vs)[i]? ≠ some (some w) := by
  intro vs
  induction vs with
  | nil => intro s h; cases h
  | cons v vs ih =>
    intro s h w
    unfold wipeS
    by_cases hv : v = i
    · subst hv
      rw [List.getElem?_set]
      split
      · split <;> simp
      · rename_i z; exact absurd rfl z
    · rw [List.getElem?_set_ne hv]
      exact ih s ((List.mem_cons.mp h).resolve_left fun e => hv e.symm) w
theorem RepS.wiped {H : Hp} {r : List Addr} {s : Sl} {σ : L2.St} (h : RepS C H r s σ) (vs : List Nat) : RepS C H r (wipeS s vs) (wipe σ vs) := by
  refine ⟨by rw [wipeS_len, wipe_length, h.1], fun i w e => ?_⟩
  by_cases hi : i ∈ vs
  · exact absurd e (wipeS_in vs s hi w)
  · rw [wipeS_get hi] at e
    rw [wipe_get hi]
    exact h.2 i w e
/-! a list that is not of the store is changed -/
mutual
theorem RepW.out {H : Hp} {r : List Addr} {D : Addr} {xs : List V} {u : HO} (hD : H D = some (.lst xs)) : ∀ (w : W) (v : V), RepW C H r w v → RepW C (upd H D u) r w v
  | .non, v, h => h
  | .bl _, v, h => h
  | .int _, v, h => h
  | .str _, v, h => h
  | .tup ws, v, h => by
    obtain ⟨a, vs, e, s, q⟩ := h
    refine ⟨a, vs, e, ?_, RepWs.out hD ws vs q⟩
    rcases s with (s | ⟨o, s⟩) | s
    · exact .inl (.inl (by rw [upd_ne fun e => by rw [e, hD] at s; cases s]; exact s))
    · exact .inl (.inr ⟨o, by rw [upd_ne fun e => by rw [e, hD] at s; cases s]; exact s⟩)
    · exact .inr s
  | .ref n, v, h => h
  | .scr ns, v, h => by
    obtain ⟨a, e, l, s⟩ := h
    refine ⟨a, e, l, ?_⟩
    rcases s with ⟨o, s⟩ | s
    · exact .inl ⟨o, by rw [upd_ne fun e => by rw [e, hD] at s; cases s]; exact s⟩
    · exact .inr s
theorem RepWs.out {H : Hp} {r : List Addr} {D : Addr} {xs : List V} {u : HO} (hD : H D = some (.lst xs)) : ∀ (ws : List W) (vs : List V), RepWs C H r ws vs → RepWs C (upd H D u) r ws vs
  | [], vs, h => h
  | w :: ws, vs, h => by
    obtain ⟨v, vr, e, p, q⟩ := h
    exact ⟨v, vr, e, RepW.out hD w v p, RepWs.out hD ws vr q⟩
end
theorem DicAt.out {H : Hp} {r : List Addr} {D : Addr} {xs : List V} {u : HO} (hD : H D = Option.some (.lst xs)) {lk : Bool} {kvs : List (W × W)} {a : Addr} (ne : a ≠ D) (h : DicAt C H r lk kvs a) : DicAt C (upd H D u) r lk kvs a := by
  have eq := upd_ne (H := H) (o := u) ne
  refine DicAt.mk h.few h.nd h.key ?_
  rcases h.obj with ⟨n, xs, e, q⟩ | ⟨n, n2, xs, e, q⟩
  · exact .inl ⟨n, xs, e.eq eq, Paired.mapP q fun p y ⟨a, b⟩ => ⟨a, RepW.out hD _ _ b⟩⟩
  · exact .inr ⟨n, n2, xs, e.eq eq, Paired.mapP q fun p y ⟨a, b, v, c, d⟩ => ⟨a, RepW.out hD _ _ b, v, RepW.out hD _ _ c, d⟩⟩
theorem RepO.out {H : Hp} {r : List Addr} {D : Addr} {xs : List V} {u : HO} (hD : H D = Option.some (.lst xs)) {o : O} {a : Addr} (ne : a ≠ D) (h : RepO C H r o a) : RepO C (upd H D u) r o a := by
  have eq := upd_ne (H := H) (o := u) ne
  cases o with
  | lst ws => obtain ⟨vs, e, q⟩ := h; exact ⟨vs, eq.trans e, RepWs.out hD _ _ q⟩
  | dic kvs =>
    exact DicAt.out hD ne h
  | dlk kvs => exact DicAt.out hD ne h
  | ins c fs => obtain ⟨dx, vs, e, q⟩ := h; exact ⟨dx, vs, eq.trans e, RepWs.out hD _ _ q⟩
  | exc c w => obtain ⟨d, e, q⟩ := h; exact ⟨d, eq.trans e, q.imp id fun ⟨n, b, f, v, y, ew, e2, e3, q⟩ => ⟨n, b, f, v, y, ew, e2, by rw [upd_ne fun z => by rw [z, hD] at e3; cases e3]; exact e3, RepW.out hD _ _ q⟩⟩
theorem RepM.out {H : Hp} {r : List Addr} {M : Mem} {D : Addr} {xs : List V} {u : HO} (hD : H D = some (.lst xs)) (hn : D ∉ r) (m : RepM C H r M) : RepM C (upd H D u) r M :=
  ⟨m.len, fun i a o h1 h2 => RepO.out hD (fun e => hn (by rw [← e]; exact List.mem_of_getElem? h1)) (m.obj i a o h1 h2), m.nd⟩
theorem RepS.out {H : Hp} {r : List Addr} {s : Sl} {σ : L2.St} {D : Addr} {xs : List V} {u : HO} (hD : H D = some (.lst xs)) (h : RepS C H r s σ) : RepS C (upd H D u) r s σ :=
  ⟨h.1, fun i w e => let ⟨v, e', p⟩ := h.2 i w e; ⟨v, e', RepW.out hD w v p⟩⟩
theorem Mono.out {H0 H : Hp} {r0 r : List Addr} {D : Addr} {u : HO} (h0 : H0 D = none) (x : Mono r0 r H0 H) : Mono r0 r H0 (upd H D u) :=
  ⟨x.pre, fun a o h hr => by rw [upd_ne fun e => by rw [e, h0] at h; cases h]; exact x.keep a o h hr⟩
theorem Mono.notin {H H' : Hp} {r r' : List Addr} {D : Addr} {o : HO} (x : Mono r r' H H') (hD : H D = some o) (hn : D ∉ r) : D ∉ r' := fun hm => by
  obtain ⟨t, e, ht⟩ := x.pre
  rw [e] at hm
  rcases List.mem_append.mp hm with h | h
  · exact hn h
  · rw [ht D h] at hD
    cases hD
theorem noX_inv {α : Type} {o : Out α} {a : α} {M : Mem} (h : noX o = some (.ok a, M)) : o = some (.ok a, M) := by
  unfold noX at h
  split at h
  · exact h
  · cases h
/-- how a comprehension's turn comes out -/
theorem lcL_cons {g : Option (Nat × O)} {p : Pat} {c e : EM} {s : Sl} {w : W} {ws acc R : List W} {M Mf : Mem} (h : lcL g p c e s (w :: ws) acc M = some (.ok R, Mf)) : still g M = true ∧ acc.length ≤ 1000000 ∧ ∃ s' b M1, bindP p w s = some s' ∧ c s' M = some (.ok b, M1) ∧
    ((b = .bl true ∧ ∃ y M2, e s' M1 = some (.ok y, M2) ∧ lcL g p c e s ws (acc ++ [y]) M2 = some (.ok R, Mf)) ∨ (b = .bl false ∧ lcL g p c e s ws acc M1 = some (.ok R, Mf))) := by
  unfold lcL at h
  split at h
  · rename_i hc
    rw [Bool.and_eq_true] at hc
    refine ⟨hc.1, of_decide_eq_true hc.2, ?_⟩
    split at h
    · cases h
    · rename_i s' hs
      obtain ⟨b, M1, h1, h2⟩ := bnd_inv h
      refine ⟨s', b, M1, hs, noX_inv h1, ?_⟩
      split at h2
      · obtain ⟨y, M2, h3, h4⟩ := bnd_inv h2
        exact .inl ⟨rfl, y, M2, noX_inv h3, h4⟩
      · exact .inr ⟨rfl, h2⟩
      · cases h2
  · cases h
theorem lcL_nil {g : Option (Nat × O)} {p : Pat} {c e : EM} {s : Sl} {acc R : List W} {M Mf : Mem} (h : lcL g p c e s [] acc M = some (.ok R, Mf)) : still g M = true ∧ acc.length ≤ 1000000 ∧ R = acc ∧ Mf = M := by
  unfold lcL at h
  split at h
  · rename_i hc
    rw [Bool.and_eq_true] at hc
    obtain ⟨a, b⟩ := ok_inv h
    exact ⟨hc.1, of_decide_eq_true hc.2, a.symm, b.symm⟩
  · cases h
theorem noX_err {α β : Type} {o : Out α} {f : α → Mem → Out β} {x : Xn} {M : Mem} (h : bnd (noX o) f = some (.error x, M)) : ∃ a M1, o = some (.ok a, M1) ∧ f a M1 = some (.error x, M) := by
  unfold noX at h
  split at h
  · exact ⟨_, _, rfl, h⟩
  · cases h
theorem lcL_err {g : Option (Nat × O)} {p : Pat} {c e : EM} {s : Sl} : ∀ {ws acc : List W} {M Mf : Mem} {x : Xn}, lcL g p c e s ws acc M ≠ some (.error x, Mf)
  | [], acc, M, Mf, x => by unfold lcL; split <;> simp [ok]
  | w :: ws, acc, M, Mf, x => by
    intro h
    unfold lcL at h
    split at h
    · split at h
      · cases h
      · obtain ⟨b, M1, h1, h2⟩ := noX_err h
        split at h2
        · obtain ⟨y, M2, h3, h4⟩ := noX_err h2
          exact lcL_err h4
        · exact lcL_err h2
        · cases h2
    · cases h
theorem i_ts0 {Y : Cx} : PTs Y [] (tT C E (eC (.bl true))) := ⟨fun pins s σ H Q I h => pts_nil.run pins s σ H Q I (by
  obtain ⟨s0, M, r, hs, hm, b, e, k⟩ := h
  cases e
  exact k H r (Mono.refl _ _) hm)⟩
theorem i_ts1 {Y : Cx} {c : Expr} {m : EM} (h : PT Y c (tT C E m)) : PTs Y [c] (tT C E m) := pts_one h
/-- what a comprehension's reading asks for -/
theorem lc_pure {mi : IM} {p : Pat} {c e : EM} {vs : List Nat} (hv : ∀ v ∈ vs, v ∈ ownP p) {σ : L2.St} {H : Hp} {Q : VK} (hp : ∀ v ∈ ownP p, v ∈ vs)
    (h : tF C E (lComp mi p c e) σ H Q) : tLc (tI C E mi) (gP C p) (tT C E0 c) (tE C E0 e) vs σ H Q := by
  obtain ⟨s, M, r, hs, hm, pp⟩ := h
  refine tI_on Kf_cl hs hm pp fun J H1 r1 M1 q x1 m1 wk s1 p1 => ?_
  obtain ⟨ws, g⟩ := q
  intro D hD
  have nD : D ∉ r1 := m1.new hD
  cases eR : lcL g p c e s ws [] M1 with
  | none => dsimp only at p1; rw [eR] at p1; exact p1.elim
  | some o =>
    obtain ⟨o, Mf⟩ := o
    cases o with
    | error x => exact absurd eR lcL_err
    | ok R =>
      dsimp only at p1
      rw [eR] at p1
      have p1 : Kf C Q r1 H1 R Mf := p1
      refine ⟨fun i n H' => n = ws.length - i ∧ i ≤ ws.length ∧ ∃ acc vs r' M', H' D = some (.lst vs) ∧ D ∉ r' ∧ RepWs C H' r' acc vs ∧ Mono r1 r' H1 H' ∧ RepM C H' r' M' ∧ lcL g p c e s (ws.drop i) acc M' = some (.ok R, Mf),
        ⟨ws.length, rfl, Nat.zero_le _, [], [], r1, M1, upd_same, nD, rfl, Mono.temp hD, m1.temp hD, eR⟩, ?_⟩
      rintro i n H' ⟨rfl, hi, acc, vs', r', M', hD', nD', qa, x', m', e'⟩
      by_cases hlt : i < ws.length
      · rw [List.drop_eq_getElem_cons hlt] at e'
        obtain ⟨hst, hmany, s', b, M2, eb, ec, rest⟩ := lcL_cons e'
        obtain ⟨items_, stop⟩ := wk r' H' M' x' m' hst
        refine .inr ⟨(items_ i ws[i] (List.getElem?_eq_getElem hlt)).1, fun H2 => ∃ acc vs r' M', H2 D = some (.lst vs) ∧ D ∉ r' ∧ RepWs C H2 r' acc vs ∧ Mono r1 r' H1 H2 ∧ RepM C H2 r' M' ∧ lcL g p c e s (ws.drop (i + 1)) acc M' = some (.ok R, Mf),
          fun H2 h2 => ⟨ws.length - (i + 1), by omega, rfl, hlt, h2⟩, fun x H2 y => ?_⟩
        obtain ⟨y1, y2, y3⟩ := (items_ i ws[i] (List.getElem?_eq_getElem hlt)).2 x H2 y
        have sw : RepS C H2 r' (wipeS s vs) (wipe σ vs) := ((s1.go x' m1).go y1 m').wiped vs
        have ebw : bindP p ws[i] (wipeS s vs) = some s' := bindP_agree (wipeS_len s vs).symm (fun j hj => (wipeS_get fun z => hj (hv j z)).symm) eb
        refine ⟨wipeS s vs, M', r', ws[i], s', sw, y2, y3, ebw, fun σ2 h2 nn => ?_⟩
        refine ⟨?_, ?_⟩
        · have l2 : σ2.length = σ.length := by
            rw [← h2.1, ← s1.1]
            have : ∀ {is : List Nat} {us : List W} {a b : Sl}, setMany is us a = some b → b.length = a.length := by
              intro is
              induction is with
              | nil => intro us a b h; cases us with
                | nil => simp only [setMany, Option.some.injEq] at h; rw [h]
                | cons _ _ => simp [setMany] at h
              | cons i is ih => intro us a b h; cases us with
                | nil => simp [setMany] at h
                | cons u us => rw [ih (us := us) h]; simp [setS]
            cases p with
            | one i => rw [this (is := [i]) (us := [ws[_]]) eb]
            | some_ is =>
              unfold bindP at eb
              dsimp only at eb
              split at eb
              · exact this eb
              · cases eb
          refine wipe_eq l2 fun j hj => ?_
          rw [nn j fun z => hj (hp j z), wipe_get hj]
        · refine ⟨s', M', r', h2, y2, ?_⟩
          rw [ec]
          have hD2 : H2 D = some (.lst vs') := y1.keep D _ hD' (.inl nD')
          rcases rest with ⟨rfl, z, M3, ee, er⟩ | ⟨rfl, er⟩
          · refine ⟨true, rfl, fun H3 r3 x3 m3 => ?_⟩
            refine iteT ⟨s', M2, r3, h2.go x3 y2, m3, ?_⟩
            rw [ee]
            intro v H4 r4 x4 m4 qv
            have hD3 : H3 D = some (.lst vs') := x3.keep D _ hD2 (.inl nD')
            have nD3 : D ∉ r3 := x3.notin hD2 nD'
            have hD4 : H4 D = some (.lst vs') := x4.keep D _ hD3 (.inl nD3)
            have nD4 : D ∉ r4 := x4.notin hD3 nD3
            have qa4 : RepWs C H4 r4 acc vs' := RepWs.go x4 m3 _ _ (RepWs.go x3 y2 _ _ (RepWs.go y1 m' _ _ qa))
            refine ⟨vs', hD4, by rw [qa.length]; exact Nat.lt_of_le_of_lt hmany (by decide), acc ++ [z], vs' ++ [v], r4, M3, upd_same, nD4, RepWs.out hD4 _ _ (qa4.app (RepWs.one qv)), ?_, m4.out hD4 nD4, er⟩
            exact Mono.out hD (((x'.trans m' y1).trans y2 x3).trans m3 x4)
          · refine ⟨false, rfl, fun H3 r3 x3 m3 => iteF ?_⟩
            exact ⟨acc, vs', r3, M2, x3.keep D _ hD2 (.inl nD'), x3.notin hD2 nD', RepWs.go x3 y2 _ _ (RepWs.go y1 m' _ _ qa), (x'.trans m' y1).trans y2 x3, m3, er⟩
      · have e2 : i = ws.length := by omega
        subst e2
        rw [List.drop_length] at e'
        obtain ⟨hst, hmany, e3, e4⟩ := lcL_nil e'
        subst e3
        subst e4
        obtain ⟨items_, stop⟩ := wk r' H' _ x' m' hst
        exact .inl ⟨stop, p1 D vs' H' r' x' m' qa hD' nD' hD hmany⟩
end
end Sw

set_option autoImplicit false
set_option Elab.async false
set_option linter.all false
set_option maxRecDepth 100000
/-! What a call leaves: the garbage left out. -/
namespace Sw
open PySem PySem.Spec L2
section
variable {C : Rc} {H : Hp} {r r2 : List Addr}
theorem mem_dd {a : Nat} : ∀ {l : List Nat}, a ∈ dd l ↔ a ∈ l
  | [] => by simp [dd]
  | b :: l => by
    have ih := @mem_dd a l
    have e : dd (b :: l) = if b ∈ dd l then dd l else b :: dd l := rfl
    rw [e]
    split
    · rename_i h
      rw [ih, List.mem_cons]
      constructor
      · exact .inr
      · rintro (rfl | h2)
        · exact ih.mp h
        · exact h2
    · rw [List.mem_cons, List.mem_cons, ih]
theorem nodup_dd : ∀ l : List Nat, (dd l).Nodup
  | [] => List.nodup_nil
  | b :: l => by
    have e : dd (b :: l) = if b ∈ dd l then dd l else b :: dd l := rfl
    rw [e]
    split
    · exact nodup_dd l
    · rename_i h
      exact List.nodup_cons.mpr ⟨h, nodup_dd l⟩
theorem getAll_get {M G : Mem} : ∀ {fs : List Nat}, getAll M fs = some G → G.length = fs.length ∧ ∀ (i : Nat) (j : Nat), fs[i]? = some j → G[i]? = M[j]? ∧ M[j]?.isSome
  | [], h => by
    simp only [getAll, List.mapM_nil] at h
    cases h
    exact ⟨rfl, by simp⟩
  | f :: fs, h => by
    unfold getAll at h
    rw [List.mapM_cons] at h
    cases e1 : M[f]? with
    | none => rw [e1] at h; cases h
    | some o =>
      rw [e1] at h
      cases e2 : List.mapM (fun j => M[j]?) fs with
      | none => rw [e2] at h; cases h
      | some G' =>
        rw [e2] at h
        cases h
        obtain ⟨l, k⟩ := getAll_get (fs := fs) e2
        refine ⟨by rw [List.length_cons, List.length_cons, l], fun i j hi => ?_⟩
        cases i with
        | zero =>
          simp only [List.getElem?_cons_zero, Option.some.injEq] at hi
          subst hi
          rw [e1]
          exact ⟨rfl, rfl⟩
        | succ i =>
          simp only [List.getElem?_cons_succ] at hi ⊢
          exact k i j hi
/-! the refs of what is told are places -/
mutual
theorem RepW.lt : ∀ {w : W} {v : V}, RepW C H r w v → ∀ j ∈ refsW w, j < r.length
  | .non, v, h => by simp [refsW]
  | .bl _, v, h => by simp [refsW]
  | .int _, v, h => by simp [refsW]
  | .str _, v, h => by simp [refsW]
  | .tup ws, v, h => by
    obtain ⟨a, vs, e, s, q⟩ := h
    intro j hj
    exact RepWs.lt q j (by simpa [refsW] using hj)
  | .ref n, v, h => by
    obtain ⟨a, e, q⟩ := h
    intro j hj
    simp only [refsW, List.mem_singleton] at hj
    subst hj
    exact (List.getElem?_eq_some_iff.mp q).1
  | .scr ns, v, h => by simp [refsW]
theorem RepWs.lt : ∀ {ws : List W} {vs : List V}, RepWs C H r ws vs → ∀ j ∈ refsWs ws, j < r.length
  | [], vs, h => by simp [refsWs]
  | w :: ws, vs, h => by
    obtain ⟨v, vr, e, p, q⟩ := h
    intro j hj
    simp only [refsWs, List.mem_append] at hj
    rcases hj with hj | hj
    · exact RepW.lt p j hj
    · exact RepWs.lt q j hj
end
theorem PrA.vals {kvs : List (W × W)} {xs : List (Key × V)} (h : PrA C H r kvs xs) : RepWs C H r (kvs.map (·.2)) (xs.map (·.2)) := by
  induction h with
  | nil => rfl
  | cons p t ih => exact ⟨_, _, rfl, p.2, ih⟩
theorem PrT.vals {kvs : List (W × W)} {xs : List (NestedKey × Addr × Value)} (h : PrT C H r kvs xs) : ∃ vs, RepWs C H r (kvs.map (·.2)) vs := by
  induction h with
  | nil => exact ⟨[], rfl⟩
  | cons p t ih =>
    obtain ⟨_, _, v, hv, _⟩ := p
    obtain ⟨vs, ih⟩ := ih
    exact ⟨v :: vs, v, vs, rfl, hv, ih⟩
theorem DicAt.lt {lk : Bool} {kvs : List (W × W)} {a : Addr} (h : DicAt C H r lk kvs a) : ∀ j ∈ refsWs (kvs.map (·.2)), j < r.length := by
  rcases h.obj with ⟨n, xs, e, q⟩ | ⟨n, n2, xs, e, q⟩
  · exact RepWs.lt q.vals
  · obtain ⟨vs, q⟩ := q.vals
    exact RepWs.lt q
theorem RepO.lt {o : O} {a : Addr} (h : RepO C H r o a) : ∀ j ∈ refsO o, j < r.length := by
  cases o with
  | lst ws => obtain ⟨vs, e, q⟩ := h; exact RepWs.lt q
  | dic kvs =>
    exact DicAt.lt h
  | dlk kvs => exact DicAt.lt h
  | ins c fs => obtain ⟨dx, vs, e, q⟩ := h; exact RepWs.lt q
  | exc c w =>
    obtain ⟨d, e, q⟩ := h
    rcases q with ⟨q, _⟩ | ⟨_, b, f, v, y, ew, _, _, q⟩
    · subst q; intro j hj; simp [refsO, refsW] at hj
    · subst ew; intro j hj; exact RepW.lt q j (by simpa [refsO, refsW, refsWs] using hj)
theorem idx_get {j : Nat} : ∀ {fs : List Nat}, j ∈ fs → fs[fs.idxOf j]? = some j
  | [], h => by cases h
  | f :: fs, h => by
    by_cases e : f = j
    · subst e
      simp
    · rw [List.idxOf_cons]
      have : (f == j) = false := by simpa using e
      rw [this]
      simp only [cond_false, List.getElem?_cons_succ]
      exact idx_get ((List.mem_cons.mp h).resolve_left fun z => e z.symm)
/-! places renamed -/
mutual
theorem RepW.ren {n : Nat} {fs : List Nat} (hlo : ∀ j a, j < n → r[j]? = some a → r2[j]? = some a) (hhi : ∀ j a, n ≤ j → j ∈ fs → r[j]? = some a → r2[n + fs.idxOf j]? = some a) : ∀ {w : W} {v : V}, RepW C H r w v → (∀ j ∈ refsW w, n ≤ j → j ∈ fs) → RepW C H r2 (ren n fs w) v
  | .non, v, h, _ => h
  | .bl _, v, h, _ => h
  | .int _, v, h, _ => h
  | .str _, v, h, _ => h
  | .tup ws, v, h, hf => by
    obtain ⟨a, vs, e, s, q⟩ := h
    exact ⟨a, vs, e, s, RepWs.ren hlo hhi q fun j hj => hf j (by simpa [refsW] using hj)⟩
  | .ref i, v, h, hf => by
    obtain ⟨a, e, q⟩ := h
    unfold Sw.ren
    split
    · rename_i hi
      exact ⟨a, e, hlo i a hi q⟩
    · rename_i hi
      exact ⟨a, e, hhi i a (by omega) (hf i (by simp [refsW]) (by omega)) q⟩
  | .scr ns, v, h, _ => h
theorem RepWs.ren {n : Nat} {fs : List Nat} (hlo : ∀ j a, j < n → r[j]? = some a → r2[j]? = some a) (hhi : ∀ j a, n ≤ j → j ∈ fs → r[j]? = some a → r2[n + fs.idxOf j]? = some a) : ∀ {ws : List W} {vs : List V}, RepWs C H r ws vs → (∀ j ∈ refsWs ws, n ≤ j → j ∈ fs) → RepWs C H r2 (rens n fs ws) vs
  | [], vs, h, _ => h
  | w :: ws, vs, h, hf => by
    obtain ⟨v, vr, e, p, q⟩ := h
    exact ⟨v, vr, e, RepW.ren hlo hhi p fun j hj => hf j (by simp [refsWs, hj]), RepWs.ren hlo hhi q fun j hj => hf j (by simp [refsWs, hj])⟩
end
mutual
theorem ren_id {n : Nat} {fs : List Nat} : ∀ {w : W}, (∀ j ∈ refsW w, j < n) → ren n fs w = w
  | .non, _ => rfl
  | .bl _, _ => rfl
  | .int _, _ => rfl
  | .str _, _ => rfl
  | .tup ws, h => by unfold ren; rw [rens_id fun j hj => h j (by simpa [refsW] using hj)]
  | .ref i, h => by unfold ren; rw [if_pos (h i (by simp [refsW]))]
  | .scr _, _ => rfl
theorem rens_id {n : Nat} {fs : List Nat} : ∀ {ws : List W}, (∀ j ∈ refsWs ws, j < n) → rens n fs ws = ws
  | [], _ => rfl
  | w :: ws, h => by unfold rens; rw [ren_id fun j hj => h j (by simp [refsWs, hj]), rens_id fun j hj => h j (by simp [refsWs, hj])]
end
theorem RepW.low {n : Nat} (hlo : ∀ j a, j < n → r[j]? = some a → r2[j]? = some a) {w : W} {v : V} (h : RepW C H r w v) (hw : ∀ j ∈ refsW w, j < n) : RepW C H r2 w v := by
  have h2 := RepW.ren (r2 := r2) (fs := []) hlo (fun j a _ h => by cases h) h fun j hj h => absurd (hw j hj) (by omega)
  rw [ren_id hw] at h2
  exact h2
theorem RepWs.low {n : Nat} (hlo : ∀ j a, j < n → r[j]? = some a → r2[j]? = some a) {ws : List W} {vs : List V} (h : RepWs C H r ws vs) (hw : ∀ j ∈ refsWs ws, j < n) : RepWs C H r2 ws vs := by
  have h2 := RepWs.ren (r2 := r2) (fs := []) hlo (fun j a _ h => by cases h) h fun j hj h => absurd (hw j hj) (by omega)
  rw [rens_id hw] at h2
  exact h2
theorem PrA.low {n : Nat} (hlo : ∀ j a, j < n → r[j]? = some a → r2[j]? = some a) {kvs : List (W × W)} {xs : List (Key × V)} (h : PrA C H r kvs xs) (hw : ∀ j ∈ refsWs (kvs.map (·.2)), j < n) : PrA C H r2 kvs xs := by
  induction h with
  | nil => exact .nil
  | cons p t ih => exact .cons ⟨p.1, p.2.low hlo fun j hj => hw j (by simp [refsWs, hj])⟩ (ih fun j hj => hw j (by rw [List.map_cons, refsWs, List.mem_append]; exact .inr hj))
mutual
theorem refs_key : ∀ {w : W}, isK w = true → refsW w = []
  | .non, _ => rfl
  | .bl _, _ => rfl
  | .int _, _ => rfl
  | .str _, _ => rfl
  | .tup ws, h => by unfold refsW; exact refss_key (by simpa [isK] using h)
  | .ref _, h => by simp [isK] at h
  | .scr _, _ => rfl
theorem refss_key : ∀ {ws : List W}, isKs ws = true → refsWs ws = []
  | [], _ => rfl
  | w :: ws, h => by
    unfold isKs at h
    rw [Bool.and_eq_true] at h
    unfold refsWs
    rw [refs_key h.1, refss_key h.2]
    rfl
end
theorem PrT.low {n : Nat} (hlo : ∀ j a, j < n → r[j]? = some a → r2[j]? = some a) {kvs : List (W × W)} {xs : List (NestedKey × Addr × Value)} (h : PrT C H r kvs xs) (hk : ∀ p ∈ kvs, isK p.1 = true) (hw : ∀ j ∈ refsWs (kvs.map (·.2)), j < n) : PrT C H r2 kvs xs := by
  induction h with
  | nil => exact .nil
  | cons p t ih =>
    obtain ⟨p1, p2, v, p3, p4⟩ := p
    refine .cons ⟨p1, p2.low hlo fun j hj => ?_, v, p3.low hlo fun j hj => hw j (by simp [refsWs, hj]), p4⟩ (ih (fun q hq => hk q (List.mem_cons_of_mem _ hq)) fun j hj => hw j (by rw [List.map_cons, refsWs, List.mem_append]; exact .inr hj))
    rw [refs_key (hk _ List.mem_cons_self)] at hj
    cases hj
theorem DicAt.low {n : Nat} (hlo : ∀ j a, j < n → r[j]? = some a → r2[j]? = some a) {lk : Bool} {kvs : List (W × W)} {a : Addr} (h : DicAt C H r lk kvs a) (hw : ∀ j ∈ refsWs (kvs.map (·.2)), j < n) : DicAt C H r2 lk kvs a := by
  refine DicAt.mk h.few h.nd h.key ?_
  rcases h.obj with ⟨m, xs, e, q⟩ | ⟨m, n2, xs, e, q⟩
  · exact .inl ⟨m, xs, e, q.low hlo hw⟩
  · exact .inr ⟨m, n2, xs, e, q.low hlo (fun p hp => (h.key p hp).1) hw⟩
theorem RepO.low {n : Nat} (hlo : ∀ j a, j < n → r[j]? = Option.some a → r2[j]? = Option.some a) {o : O} {a : Addr} (h : RepO C H r o a) (hw : ∀ j ∈ refsO o, j < n) : RepO C H r2 o a := by
  cases o with
  | lst ws => obtain ⟨vs, e, q⟩ := h; exact ⟨vs, e, q.low hlo hw⟩
  | dic kvs =>
    exact DicAt.low hlo h hw
  | dlk kvs => exact DicAt.low hlo h hw
  | ins c fs => obtain ⟨dx, vs, e, q⟩ := h; exact ⟨dx, vs, e, q.low hlo hw⟩
  | exc c w => obtain ⟨d, e, q⟩ := h; exact ⟨d, e, q.imp id fun ⟨n, b, f, v, y, ew, e2, e3, q⟩ => ⟨n, b, f, v, y, ew, e2, e3, q.low hlo fun j hj => hw j (by subst ew; simpa [refsO, refsW, refsWs] using hj)⟩⟩
end
section
variable {C : Rc} {H H' : Hp} {r r' : List Addr} {M M' : Mem}
/-- what is told still is when the garbage is left out -/
theorem gc_rep (m : RepM C H r M) (x : Mono r r' H H') (m' : RepM C H' r' M') (w : W) : ∃ r2, Mono r r2 H H' ∧ RepM C H' r2 (gc M w M').2 ∧ ∀ v, RepW C H' r' w v → RepW C H' r2 (gc M w M').1 v := by
  have dflt : (gc M w M') = (w, M') → ∃ r2, Mono r r2 H H' ∧ RepM C H' r2 (gc M w M').2 ∧ ∀ v, RepW C H' r' w v → RepW C H' r2 (gc M w M').1 v := fun e => by
    rw [e]
    exact ⟨r', x, m', fun v h => h⟩
  cases eG : getAll M' (gcF M.length w) with
  | none => exact dflt (by unfold gc; simp only [eG])
  | some G =>
    by_cases hc : M.length ≤ M'.length ∧ okBase M.length M (M'.take M.length) = true ∧ (G.all fun o => (refsO o).all fun r => decide (r < M.length)) = true
    · have e : gc M w M' = (ren M.length (gcF M.length w) w, M'.take M.length ++ G) := by unfold gc; simp only [eG]; rw [if_pos hc]
      rw [e]
      obtain ⟨hle, hB, hG⟩ := hc
      obtain ⟨gl, gg⟩ := getAll_get eG
      generalize hfs : gcF M.length w = fs at *
      have hfn : ∀ j ∈ fs, M.length ≤ j := fun j hj => by
        rw [← hfs] at hj
        exact of_decide_eq_true (List.mem_filter.mp hj).2
      have hnd : fs.Nodup := by rw [← hfs]; exact (nodup_dd _).filter _
      have hfl : ∀ j ∈ fs, j < r'.length := fun j hj => by
        obtain ⟨i, hi⟩ := List.mem_iff_getElem?.mp hj
        rw [m'.len]
        exact (List.getElem?_eq_some_iff.mp (Option.eq_some_of_isSome (gg i j hi).2)).1
      obtain ⟨t, et, ht⟩ := x.pre
      have er : r'.take M.length = r := by rw [et, ← m.len, List.take_left']; rfl
      have hlo : ∀ j a, j < M.length → r'[j]? = some a → (r ++ fs.map fun j => r'.getD j 0)[j]? = some a := fun j a hj h => by
        rw [List.getElem?_append_left (by rw [m.len]; exact hj), ← er, List.getElem?_take_of_lt hj]
        exact h
      have hhi : ∀ j a, M.length ≤ j → j ∈ fs → r'[j]? = some a → (r ++ fs.map fun j => r'.getD j 0)[M.length + fs.idxOf j]? = some a := fun j a hj hm h => by
        rw [List.getElem?_append_right (by rw [m.len]; omega), m.len, Nat.add_sub_cancel_left, List.getElem?_map, show fs[fs.idxOf j]? = some j from idx_get hm]
        simp only [Option.map_some, Option.some.injEq]
        rw [List.getD_eq_getElem?_getD, h]
        rfl
      have at2 : ∀ i a, (r ++ fs.map fun j => r'.getD j 0)[i]? = some a → (i < M.length ∧ r'[i]? = some a) ∨ (M.length ≤ i ∧ ∃ j, fs[i - M.length]? = some j ∧ r'[j]? = some a) := fun i a h => by
        by_cases hi : i < M.length
        · refine .inl ⟨hi, ?_⟩
          rw [List.getElem?_append_left (by rw [m.len]; exact hi), ← er, List.getElem?_take_of_lt hi] at h
          exact h
        · refine .inr ⟨by omega, ?_⟩
          rw [List.getElem?_append_right (by rw [m.len]; omega), m.len, List.getElem?_map] at h
          cases ej : fs[i - M.length]? with
          | none => rw [ej] at h; cases h
          | some j =>
            rw [ej] at h
            simp only [Option.map_some, Option.some.injEq] at h
            have hl := hfl j (List.mem_of_getElem? ej)
            rw [List.getD_eq_getElem?_getD, List.getElem?_eq_getElem hl] at h
            refine ⟨j, rfl, ?_⟩
            rw [List.getElem?_eq_getElem hl, ← h]
            rfl
      refine ⟨r ++ fs.map fun j => r'.getD j 0, ⟨⟨_, rfl, fun a ha => ?_⟩, x.keep⟩, ⟨?_, fun i a o h1 h2 => ?_, ?_⟩, fun v hv => ?_⟩
      · obtain ⟨j, hj, e⟩ := List.mem_map.mp ha
        have hl := hfl j hj
        rw [List.getD_eq_getElem?_getD, List.getElem?_eq_getElem hl] at e
        refine ht a ?_
        have e2 : r'[j]? = some a := by rw [List.getElem?_eq_getElem hl, ← e]; rfl
        rw [et, List.getElem?_append_right (by rw [m.len]; exact hfn j hj)] at e2
        exact List.mem_of_getElem? e2
      · rw [List.length_append, List.length_map, List.length_append, gl, List.length_take, Nat.min_eq_left hle, m.len]
      · have hml : (M'.take M.length).length = M.length := by rw [List.length_take, Nat.min_eq_left hle]
        rcases at2 i a h1 with ⟨hi, e1⟩ | ⟨hi, j, ej, e1⟩
        · rw [List.getElem?_append_left (by rw [hml]; exact hi)] at h2
          have h3 : M'[i]? = some o := by rw [List.getElem?_take_of_lt hi] at h2; exact h2
          have q := m'.obj i a o e1 h3
          refine RepO.low hlo q fun j hj => ?_
          have hb : ∀ p ∈ (M'.take M.length).zip M, decide (p.1 = p.2) = true ∨ ((refsO p.1).all fun r => decide (r < M.length)) = true := fun p hp => by
            have := List.all_eq_true.mp hB p hp
            rwa [Bool.or_eq_true] at this
          have hMi : M[i]? = some M[i] := List.getElem?_eq_getElem hi
          have hz : ((M'.take M.length).zip M)[i]? = some (o, M[i]) := by rw [List.getElem?_zip_eq_some]; exact ⟨h2, hMi⟩
          rcases hb _ (List.mem_of_getElem? hz) with hb | hb
          · have hb : o = M[i] := of_decide_eq_true hb
            have hri : r[i]? = some a := by rw [← er, List.getElem?_take_of_lt hi]; exact e1
            have := (m.obj i a M[i] hri hMi).lt j (by rw [← hb]; exact hj)
            rwa [m.len] at this
          · exact of_decide_eq_true (List.all_eq_true.mp hb j hj)
        · rw [List.getElem?_append_right (by rw [hml]; exact hi), hml] at h2
          rw [(gg _ j ej).1] at h2
          have q := m'.obj j a o e1 h2
          refine RepO.low hlo q fun k hk => ?_
          have hoG : o ∈ G := List.mem_of_getElem? (i := i - M.length) (by rw [(gg _ j ej).1]; exact h2)
          exact of_decide_eq_true (List.all_eq_true.mp (List.all_eq_true.mp hG o hoG) k hk)
      · refine List.pairwise_iff_getElem.mpr fun i k hi hk hik => ?_
        intro eik
        have eik : (r ++ fs.map fun j => r'.getD j 0)[i]? = some (r ++ fs.map fun j => r'.getD j 0)[k] := by rw [List.getElem?_eq_getElem hi, eik]
        rcases at2 _ _ (List.getElem?_eq_getElem hk) with ⟨k1, k2⟩ | ⟨k1, j, k2, k3⟩ <;> rcases at2 _ _ eik with ⟨i1, i2⟩ | ⟨i1, j', i2, i3⟩
        · have := (List.getElem?_inj (by rw [m'.len]; omega) m'.nd).mp (i2.trans k2.symm); omega
        · omega
        · have := (List.getElem?_inj (by rw [m'.len]; omega) m'.nd).mp (i2.trans k3.symm)
          have := hfn j (List.mem_of_getElem? k2)
          omega
        · have e1 := (List.getElem?_inj (hfl j' (List.mem_of_getElem? i2)) m'.nd).mp (i3.trans k3.symm)
          subst e1
          have := (List.getElem?_inj (List.getElem?_eq_some_iff.mp i2).1 hnd).mp (i2.trans k2.symm)
          omega
      · refine hv.ren hlo hhi fun j hj hn => ?_
        rw [← hfs]
        exact List.mem_filter.mpr ⟨mem_dd.mpr hj, decide_eq_true hn⟩
    · exact dflt (by unfold gc; simp only [eG]; rw [if_neg hc])
end
end Sw

set_option autoImplicit false
set_option Elab.async false
set_option linter.all false
set_option maxRecDepth 100000
/-! Calls of defs, no guard being up. -/
namespace Sw
open PySem PySem.Spec L2
open PyProof.Rows (AllBare envOfC)
/-- what a def keeps where no guard is up -/
structure FnG (P : Program) (w : World) (K : PySem.W.Frag) (mg : Str → Option Value) (base : Heap)
    (CX : CXT) (k : Nat) (f : Addr) (fd : FuncData) (ps : List Str) (sp : Sp) : Prop where
  arity : ∀ vs H Q E, sp vs H Q E → vs.length = ps.length
  goes : ∀ (A : Around) (outer : List Env) (s : Shared) (H : Hp) (args : Args)
    (us : List Value) (vs : List V) (Q : VK) (E : XK), A.guards = some [] → Room k A →
    Env0 P w K mg base A outer s H → BindsTo s fd args (ps.zip us) → Vals vs us → sp vs H Q E →
    codeAny (model P w) A (.call (.ref f) args) (CR CX outer P w H s Q E) s
section
variable {P : Program} {w : World} {K : PySem.W.Frag} {mg : Str → Option Value} {base : Heap}
variable {CX : CXT} {k : Nat} {f : Addr} {fd : FuncData} {ps : List Str} {sp : Sp}
theorem FnG.more {j : Nat} (F : FnG P w K mg base CX j f fd ps sp) (h : j ≤ k) : FnG P w K mg base CX k f fd ps sp :=
  ⟨F.arity, fun A o s H a us vs Q E g r => F.goes A o s H a us vs Q E g (r.mono h)⟩
/-- a def by its body -/
theorem fnG {x qual : Str} {params : Arguments} {body : List Stmt} {sc : Scope} {dvs : List V} {kws : List (Str × V)} {N : List Str}
    (F : FunD K x qual params body sc dvs kws f fd) (S : FnScope N ps sc) (ar : ∀ vs H Q E, sp vs H Q E → vs.length = ps.length)
    (hb : ∀ (cdv : Value) (A : Around) (outer : List Env) (s : Shared) (H : Hp) (vs : List V) (Q : VK) (E : XK),
      A.guards = some [] → Room k (A.deeper (envOfC qual sc s.heap.objs.size f cdv)) → sp vs H Q E →
      ∃ t, PSs (cxOf CX P w K mg base N qual sc f cdv A outer s H E) body t ∧
        t { nx := fun _ H' => Q .non H', rt := Q } (L2.start N vs) H) : FnG P w K mg base CX (k + 1) f fd ps sp := by
  obtain ⟨oc, od, dV, kV, doc, pm, an, cdv, ct, osl, rfl, lk, hcd, _, _⟩ := F.ex
  refine ⟨ar, fun A outer s H args us vs Q E gd room e0 hbd hv hsp => ?_⟩
  have n0 := ar _ _ _ _ hsp
  have KX : K.In s.heap := PySem.W.Frag.In.keeps e0.mod.kin fun b o e => (e0.bs b o e).1
  have lim : s.heap.NoLimit := Heap.NoLimit.keeps e0.mod.nolimit fun b o e => (e0.bs b o e).1
  have kinds : ∀ y ∈ ps.zip us, sc.names.lookup y.1 = some .local ∨
      (sc.names.lookup y.1 = some .cell ∧ ((cellsFrom (s.heap.objs.size + 1) sc.names []).lookup y.1).isSome = true) := by
    rintro ⟨n, v⟩ hy
    have hn := (List.of_mem_zip hy).1
    exact (S.par n hn).imp id fun q => ⟨q, PySem.W.cellsFrom_some _ _ _ (.inl q)⟩
  refine codeAny_call_function room.depth (KX _ _ lk) rfl S.co S.gen rfl (PySem.W.codeRec_of KX hcd) (hbd _ _ _ _ ?_)
  refine wpAny_newFunctionEnv_cells S.kind kinds fun env he s1 x => ?_
  subst he
  refine ⟨lim.keeps x.toInCall.keep, codeAny_func ?_⟩
  obtain ⟨t, ht, hq⟩ := hb cdv A outer s H vs Q E gd (room.deeper _) hsp
  have I := inv_start (CX := CX) (P := P) (w := w) (E := E) (qual := qual) (f := f) (cd := cdv) S room.hd e0 n0 hv x
  refine wpAny_mono (ht.run [] s1 _ H _ I hq) (fun fl s' hs => ?_) fun e s' hs => hs
  cases fl with
  | next =>
    obtain ⟨σ', H', J, q⟩ := hs
    exact ⟨V.non, H', J.os, J.bare, J.base, J.hok, rfl, q⟩
  | ret u =>
    obtain ⟨v, σ', H', J, rv, q⟩ := hs
    exact ⟨v, H', J.os, J.bare, J.base, J.hok, rv, q⟩
  | brk =>
    obtain ⟨_, _, _, q⟩ := hs
    exact q.elim
  | cont =>
    obtain ⟨_, _, _, q⟩ := hs
    exact q.elim
end
section
variable {X : Cx} {CX : CXT} {k : Nat} {f C0 : Addr} {fd : FuncData} {ps : List Str} {sp : Sp} {dvs : List V} {ds : List Value} {E : XK}
theorem goG {pins : List (Addr × Obj)} {σ : L2.St} {H : Hp} {s : Shared} {Q : VK} {us : List Value} {vs : List V}
    (F : FnG X.prog X.w X.K X.mg X.base CX k f fd ps sp) (gd : X.A.guards = some []) (hr : Room k X.A) (hb : Binds X.K fd ps ds) (hd : Vals dvs ds)
    (hx : Passes CX X E) (I : Inv X pins σ H s) (r : Vals vs us) (h : sp (vs ++ dvs) H Q E) :
    wpAny (model X.prog X.w) X.A (call (.ref f) us) (EP X pins σ Q) X.xe s := by
  have rr := r.append hd
  have hl : (us ++ ds).length = ps.length := rr.length.symm.trans (F.arity _ _ _ _ h)
  refine wpAny_call (codeAny_mono (F.goes X.A X.stack s H ⟨us, []⟩ (us ++ ds) (vs ++ dvs) Q E gd hr I.env0 (hb s us I.kIn hl) rr h) ?_)
  intro r s' hq
  match r, hq with
  | .error e, hq => exact hx pins σ H s e s' I hq
  | .ok (.ret u), hq => exact I.after hq
  | .ok .next, hq => exact hq.elim
  | .ok .brk, hq => exact hq.elim
  | .ok .cont, hq => exact hq.elim
/-- f(e, ..) -/
theorem callG {x : Str} {p pos : Pos} {e : Expr} {es : List Expr} {t : TA} (F : FnG X.prog X.w X.K X.mg X.base CX k f fd ps sp)
    (gd : X.A.guards = some []) (hr : Room k X.A) (hg : Gl X x) (hm : X.mg x = some (.ref f)) (hk : PySem.W.keepIn X.K (.ref f) = true)
    (hb : Binds X.K fd ps ds) (hd : Vals dvs ds) (hx : Passes CX X E) (ha : PA X (e :: es) t) (hdb : (x == ("__debug__" : Str)) = false := by decide)
    (he : starEach (e :: es) X.env = (false, eval e X.env) :: starEach es X.env := by rfl)
    (hpl : (backTo pos (starEach es X.env)).any (·.1) = false := by rfl) : PE X (.Call (.Name x p) (e :: es) [] pos) (tCall sp dvs E t) :=
  ⟨fun pins s σ H Q I h => wpAny_Call_Name_kw (ld_glob I hg hm (PySem.W.callWith_K (h₀ := X.base) I.ok.mod.kin hk
    (thn (ha.run pos pins s σ H _ I h) fun us s1 ⟨vs, H1, I1, r, q⟩ => ⟨I1.kIn, goG F gd hr hb hd hx I1 r q⟩) he hpl) hdb)⟩
/-- f() -/
theorem callG0 {x : Str} {p pos : Pos} (F : FnG X.prog X.w X.K X.mg X.base CX k f fd ps sp) (gd : X.A.guards = some []) (hr : Room k X.A)
    (hg : Gl X x) (hm : X.mg x = some (.ref f)) (hk : PySem.W.keepIn X.K (.ref f) = true) (hb : Binds X.K fd ps ds) (hd : Vals dvs ds)
    (hx : Passes CX X E) (hdb : (x == ("__debug__" : Str)) = false := by decide) : PE X (.Call (.Name x p) [] [] pos) (tCall sp dvs E tNil) :=
  ⟨fun pins s σ H Q I h => wpAny_Call_Name_kw (ld_glob I hg hm (PySem.W.callWith_K0 I.kIn hk (goG (us := []) F gd hr hb hd hx I .nil h)) hdb)⟩
end

/-! ### the law -/
theorem lawG {P : Program} {w : World} {K : PySem.W.Frag} {mg mb : Str → Option Value} {CX : CXT} {k : Nat} {fa a : Addr} {fd : FuncData} {x : Str} {sp : Sp}
    {s₁ : Shared} {vs : List Value} {ns : List Int} (KX : K.In s₁.heap) (hns : s₁.heap.Ns mainGlobals mg) (hb : s₁.heap.Ns builtinsNs mb)
    (hbb : ∀ x : Str, x ≠ "__name__" → mb x = bootBuiltins x) (hlim : s₁.heap.NoLimit) (hg : s₁.gens = #[])
    (ha : s₁.heap.get? a = some { cls := .type "list", data := .seq vs.toArray }) (hi : PyProof.Rows.IntsAre vs ns) (hl : ns.length ≤ sizeLine) (hr : Room k callerA)
    (F : ∀ base : Heap, K.In base → base.Ns mainGlobals mg → FnG P w K mg base CX k fa fd [x] sp)
    (hbind : ∀ (s : Shared) (u : Value), BindsTo s fd ⟨[u], []⟩ [(x, u)])
    (hsp : ∀ H : Hp, Only H → ((∃ o, H a = some (.frz o (.lst (ns.map V.int)))) ∨ ∃ (o : Obj) (its : Array Value) (n : Nat), K.lookup a = some o ∧ o.cls = .type "list" ∧ o.dict = none ∧ o.data = .seq its n ∧ its.size ≤ sizeLine ∧ Vals (ns.map V.int) its.toList) →
      sp [.ref a] H (fun v _ => v = .bl true) fun _ _ _ => False)
    (hCX : ∀ H e s', CX [] H s₁ (fun _ _ _ => False) e s' → False) :
    codeAny (model P w) callerA (.call (.ref fa) ⟨[.ref a], []⟩)
      (fun r s' => r = .ok (.ret (.bool true)) ∧ OldK s₁.heap s'.heap ∧ s'.os = s₁.os ∧ AllBare s'.gens) s₁ := by
  have rv := vals_ints hi
  have lv := hi.length
  have core : ∀ H : Hp, Only H → ((∃ o, H a = some (.frz o (.lst (ns.map V.int)))) ∨ ∃ (o : Obj) (its : Array Value) (n : Nat), K.lookup a = some o ∧ o.cls = .type "list" ∧ o.dict = none ∧ o.data = .seq its n ∧ its.size ≤ sizeLine ∧ Vals (ns.map V.int) its.toList) →
      HOk P w H s₁.heap → (∀ b, H b ≠ none → b = a) → (H a ≠ none → K.lookup a = none) →
      codeAny (model P w) callerA (.call (.ref fa) ⟨[.ref a], []⟩)
        (fun r s' => r = .ok (.ret (.bool true)) ∧ OldK s₁.heap s'.heap ∧ s'.os = s₁.os ∧ AllBare s'.gens) s₁ := by
    intro H hO hS hok only hK
    have dicts : ∀ {b : Addr} {o : Obj} {es : Array DictEntry} {ep : Nat}, s₁.heap.get? b = some o → o.data = .dict es ep → H b = none := by
      intro b o es ep e d
      cases q : H b with
      | none => rfl
      | some u =>
        obtain rfl : b = a := only b fun z => by rw [q] at z; cases z
        rw [ha] at e
        cases e
        cases (show Data.seq vs.toArray _ = Data.dict es ep from d)
    have ns2 : ∀ {b : Addr} {m : Str → Option Value}, s₁.heap.Ns b m → (hidT s₁.heap H).Ns b m :=
      fun {b m} ⟨o, es, ep, e, d, r⟩ => ⟨o, es, ep, hidT_get e (dicts e d), d, r⟩
    have kin : K.In (hidT s₁.heap H) := by
      intro b o e
      refine hidT_get (KX b o e) ?_
      cases q : H b with
      | none => rfl
      | some u =>
        have z : H b ≠ none := fun z => by rw [q] at z; cases z
        obtain rfl : b = a := only b z
        rw [hK z] at e
        cases e
    have md : Mod K mg (hidT s₁.heap H) := by
      refine ⟨kin, ns2 hns, ⟨mb, ns2 hb, hbb⟩, ?_⟩
      obtain ⟨mc, h1, h2⟩ := hlim
      exact ⟨mc, ns2 h1, h2⟩
    have e0 : Env0 P w K mg (hidT s₁.heap H) callerA [] s₁ H := by
      refine ⟨rfl, md, fun b o e => of_hidT e, Nat.le_of_eq (hidT_size _ _), trivial, ?_, hok, .of_eq hg⟩
      intro b hb
      have hb : b ∈ ([] : List Addr) := hb
      cases hb
    refine codeAny_mono ((F _ kin (ns2 hns)).goes callerA [] s₁ H ⟨[.ref a], []⟩ [.ref a] [.ref a] _ _ rfl hr e0 (hbind s₁ (.ref a)) (.cons rfl .nil) (hsp H hO hS)) ?_
    intro r s' h
    match r, h with
    | .error e, h => exact (hCX H e s' h).elim
    | .ok .next, h => exact h.elim
    | .ok .brk, h => exact h.elim
    | .ok .cont, h => exact h.elim
    | .ok (.ret u), h =>
      obtain ⟨v, H', os, bare, un, hok', r', q⟩ := h
      obtain rfl : v = V.bl true := q
      obtain rfl : u = Value.bool true := r'
      refine ⟨rfl, .of_keep fun b o e => ?_, os, bare⟩
      rcases hO b with z | ⟨ob, xs, z⟩
      · exact un.keep b o e z (fun y => by have y : b ∈ ([] : List Addr) := y; cases y) (fun y => by cases y)
      · obtain ⟨e1, _⟩ := hok b _ z
        obtain ⟨e2, _⟩ := hok' b _ (un.frzs b ob _ z)
        rw [e] at e1
        cases e1
        exact e2
  cases hk : K.lookup a with
  | some o =>
    have e := KX a o hk
    rw [ha] at e
    cases e
    refine core (fun _ => none) (fun _ => .inl rfl) (.inr ⟨_, vs.toArray, _, hk, rfl, rfl, rfl, ?_, ?_⟩) (fun b u z => ?_) (fun b z => absurd rfl z) fun z => absurd rfl z
    · rw [List.size_toArray, lv]; exact hl
    · simpa using rv
    · cases (show (none : Option HO) = some u from z)
  | none =>
    have yes : (fun b => if b = a then some (HO.frz { cls := .type "list", data := .seq vs.toArray } (.lst (ns.map V.int))) else none) a = some (HO.frz { cls := .type "list", data := .seq vs.toArray } (.lst (ns.map V.int))) := if_pos rfl
    refine core (fun b => if b = a then some (.frz { cls := .type "list", data := .seq vs.toArray } (.lst (ns.map V.int))) else none) (fun b => ?_) (.inl ⟨_, yes⟩) (fun b u z => ?_) (fun b z => ?_) fun _ => hk
    · by_cases q : b = a
      · exact .inr ⟨_, _, if_pos q⟩
      · exact .inl (if_neg q)
    · by_cases q : b = a
      · subst q
        cases (if_pos rfl).symm.trans z
        exact ⟨ha, by rw [List.length_map]; exact hl, vs, _, rv, ha⟩
      · cases (if_neg q).symm.trans z
    · by_cases q : b = a
      · exact q
      · exact absurd (if_neg q) z
/-- the law's goal behind the head -/
theorem walkG {l : PySem.W.OpenLaw} {n k : Nat} {q : Program} {loose : List Str} {XP : (Str → Option Value) → Heap → Prop} {YP : World → Heap → Prop} {d : DefRec} {CX : World → CXT} {x : Str}
    (hn : l.most = some n) (hn2 : n ≤ sizeLine) (hdf : d.params.defaults = []) (hr : Room k callerA)
    (F : ∀ (w : World) (mg : Str → Option Value) (fa : Addr) (h : Heap), YP w h → h.Ns mainGlobals mg → mg d.name = some (.ref fa) →
      ∃ (K : PySem.W.Frag) (fd : FuncData) (sp : Sp), K.In h ∧ (∀ (s : Shared) (u : Value), BindsTo s fd ⟨[u], []⟩ [(x, u)]) ∧
        (∀ (H : Hp) (a : Addr) (ns : List Int), ns.length ≤ n → (∀ z ∈ ns, Builtin.Int.intBits z ≤ 1048576) → Only H →
          ((∃ o, H a = some (.frz o (.lst (ns.map V.int)))) ∨ ∃ (o : Obj) (its : Array Value) (n : Nat), K.lookup a = some o ∧ o.cls = .type "list" ∧ o.dict = none ∧ o.data = .seq its n ∧ its.size ≤ sizeLine ∧ Vals (ns.map V.int) its.toList) →
          sp [.ref a] H (fun v _ => v = .bl true) fun _ _ _ => False) ∧
        ∀ base : Heap, K.In base → base.Ns mainGlobals mg → FnG l.prog w K mg base (CX w) k fa fd [x] sp)
    (hCX : ∀ (w : World) (H : Hp) (s : Shared) (e : Value) (s' : Shared), CX w [] H s (fun _ _ _ => False) e s' → False) :
    PySem.W.WalkO q loose XP YP l.row.toRowW d [] (fun f vs => PySem.call f vs) :=
  Att.attach_callB hn hdf fun w s₀ s₁ mg mb fa o pm cd doc a vs ns G Y ho hd hcd hmg hobj hints hlen hbits hg => by
    obtain ⟨K, fd, sp, KX, hb, hsp, hF⟩ := F w mg fa _ Y G.T.g hmg
    exact lawG KX G.T.g G.T.b G.T.builtins G.T.nolimit hg hobj hints (Nat.le_trans hlen hn2) hr hF hb (fun H hO hS => hsp H a ns hlen hbits hO hS) fun H e s' => hCX w H s₁ e s'
end Sw

set_option autoImplicit false
set_option Elab.async false
set_option linter.all false
set_option maxRecDepth 100000
/-! Defs by a table. -/
namespace Sw
open PySem PySem.Spec L2
open PyProof.Rows (AllBare envOfC)
/-- what is known of the defs -/
abbrev Orc := Nat → List W → Mem → Out W
/-- the defs, called d deep at most -/
def runT (T : Orc → Nat → Nat × SM) : Nat → Orc
  | 0 => fun _ _ _ => none
  | d + 1 => fun f ws M => gcO M (body (T (runT T d) f).1 (T (runT T d) f).2 ws M)
/-- a def's promise by a pure function -/
def spF (C : Rc) (g : List W → Mem → Out W) (n : Nat) : Sp := fun vs H Q E => vs.length = n ∧ ∃ r M ws, RepM C H r M ∧ RepWs C H r ws vs ∧ PG C E r H (g ws M) (Kv C Q r H)
section
variable {C : Rc} {E : XK} {X : Cx}
theorem i_call {CX : CXT} {k n id : Nat} {f : Addr} {fd : FuncData} {ps : List Str} {orc : Orc} {x : Str} {p pos : Pos} {e : Expr} {es : List Expr} {ms : List EM}
    (F : FnG X.prog X.w X.K X.mg X.base CX k f fd ps (spF C (orc id) n)) (gd : X.A.guards = some []) (hr : Room k X.A) (hg : Gl X x) (hm : X.mg x = some (.ref f))
    (hk : PySem.W.keepIn X.K (.ref f) = true) (hb : Binds X.K fd ps []) (hx : Passes CX X E) (ha : PA X (e :: es) (tA C E (eAs ms))) (hn : ms.length = n) (hdb : (x == ("__debug__" : Str)) = false := by decide)
    (he : starEach (e :: es) X.env = (false, eval e X.env) :: starEach es X.env := by rfl) (hpl : (backTo pos (starEach es X.env)).any (·.1) = false := by rfl) :
    PE X (.Call (.Name x p) (e :: es) [] pos) (tE C E (eCall orc id ms)) :=
  PE.imp (callG F gd hr hg hm hk hb .nil hx ha hdb he hpl) fun σ H Q ⟨s, M, r, hs, hm, p⟩ => tA_on Kv_cl hs hm p fun vs H1 r1 M1 ws e x1 m1 q1 s1 p1 => by
    rw [List.append_nil]
    exact ⟨by rw [q1.length, eAs_len e, hn], r1, M1, ws, m1, q1, p1⟩
theorem i_call0 {CX : CXT} {k id : Nat} {f : Addr} {fd : FuncData} {ps : List Str} {orc : Orc} {x : Str} {p pos : Pos}
    (F : FnG X.prog X.w X.K X.mg X.base CX k f fd ps (spF C (orc id) 0)) (gd : X.A.guards = some []) (hr : Room k X.A) (hg : Gl X x) (hm : X.mg x = some (.ref f))
    (hk : PySem.W.keepIn X.K (.ref f) = true) (hb : Binds X.K fd ps []) (hx : Passes CX X E) (hdb : (x == ("__debug__" : Str)) = false := by decide) :
    PE X (.Call (.Name x p) [] [] pos) (tE C E (eCall orc id [])) :=
  PE.imp (callG0 F gd hr hg hm hk hb .nil hx hdb) fun σ H Q ⟨s, M, r, hs, hm, p⟩ => ⟨rfl, r, M, [], hm, rfl, p⟩
theorem gc_non {M M' : Mem} {w : W} : (gc M w M').1 = .non ↔ w = .non := by
  unfold gc
  dsimp only
  split
  · split
    · cases w <;> simp [ren]
      split <;> simp
    · rfl
  · rfl
theorem RepS_start {H : Hp} {r : List Addr} {N : List Str} {ws : List W} {vs : List V} (q : RepWs C H r ws vs) : RepS C H r (Sw.start N.length ws) (L2.start N vs) := by
  have hl := q.length
  refine ⟨by simp [Sw.start, L2.start, hl], fun i w e => ?_⟩
  unfold Sw.start at e
  by_cases hi : i < ws.length
  · rw [List.getElem?_append_left (by simpa using hi), List.getElem?_map] at e
    cases ew : ws[i]? with
    | none => rw [ew] at e; cases e
    | some u =>
      rw [ew] at e
      cases e
      obtain ⟨v, hv, qv⟩ := q.get ew
      refine ⟨v, ?_, qv⟩
      unfold L2.start
      rw [List.getElem?_append_left (by rw [List.length_map, hl]; exact hi), List.getElem?_map, hv]
      rfl
  · rw [List.getElem?_append_right (by simpa using Nat.le_of_not_lt hi)] at e
    have := List.mem_of_getElem? e
    rw [List.mem_replicate] at this
    cases this.2
mutual
theorem RepW_D {C : Rc} {H : Hp} {r r2 : List Addr} : ∀ {w : W} {v : V}, isD w = true → RepW C H r w v → RepW C H r2 w v
  | .non, _, _, q => q
  | .bl _, _, _, q => q
  | .int _, _, _, q => q
  | .str _, _, _, q => q
  | .scr _, _, _, q => q
  | .tup ws, _, h, ⟨a, vs, e, s, q⟩ => ⟨a, vs, e, s, RepWs_D (by unfold isD at h; exact h) q⟩
  | .ref _, _, h, _ => by simp [isD] at h
theorem RepWs_D {C : Rc} {H : Hp} {r r2 : List Addr} : ∀ {ws : List W} {vs : List V}, isDs ws = true → RepWs C H r ws vs → RepWs C H r2 ws vs
  | [], _, _, q => q
  | w :: ws, _, h, ⟨v, vr, e, p, q⟩ => by
    unfold isDs at h
    rw [Bool.and_eq_true] at h
    exact ⟨v, vr, e, RepW_D h.1 p, RepWs_D h.2 q⟩
end
mutual
theorem ren_data {n : Nat} {fs : List Nat} : ∀ {w : W}, isD w = true → ren n fs w = w
  | .non, _ => rfl
  | .bl _, _ => rfl
  | .int _, _ => rfl
  | .str _, _ => rfl
  | .scr _, _ => rfl
  | .tup ws, h => by
    unfold ren
    rw [rens_data (by unfold isD at h; exact h)]
  | .ref _, h => by simp [isD] at h
theorem rens_data {n : Nat} {fs : List Nat} : ∀ {ws : List W}, isDs ws = true → rens n fs ws = ws
  | [], _ => rfl
  | w :: ws, h => by
    unfold isDs at h
    rw [Bool.and_eq_true] at h
    unfold rens
    rw [ren_data h.1, rens_data h.2]
end
theorem gc_fst {M M' : Mem} {w : W} (h : isD w = true) : (gc M w M').1 = w := by
  unfold gc
  dsimp only
  split
  · split
    · exact ren_data h
    · rfl
  · rfl
/-- a def by its body's words -/
theorem i_def {P : Program} {w : World} {K : PySem.W.Frag} {mg : Str → Option Value} {base : Heap} {CX : CXT} {k : Nat} {f : Addr} {fd : FuncData} {N ps : List Str}
    {x qual : Str} {params : Arguments} {bd : List Stmt} {sc : Scope} {b : SM} (F : FunD K x qual params bd sc [] [] f fd) (S : FnScope N ps sc)
    (hb : ∀ (cdv : Value) (A : Around) (outer : List Env) (s : Shared) (H : Hp) (E : XK), A.guards = some [] → Room k (A.deeper (envOfC qual sc s.heap.objs.size f cdv)) →
      PSs (cxOf CX P w K mg base N qual sc f cdv A outer s H E) bd (tS C E b)) :
    FnG P w K mg base CX (k + 1) f fd ps (spF C (fun ws M => gcO M (Sw.body N.length b ws M)) ps.length) := by
  refine fnG F S (fun vs H Q E h => h.1) fun cdv A outer s H vs Q E gd room hsp => ⟨tS C E b, hb cdv A outer s H E gd room, ?_⟩
  obtain ⟨hl, r, M, ws, m, q, p⟩ := hsp
  refine ⟨Sw.start N.length ws, M, r, RepS_start q, m, ?_⟩
  unfold Sw.body at p
  dsimp only at p
  cases e : b (Sw.start N.length ws) M with
  | none => rw [e] at p; exact p.elim
  | some o =>
    obtain ⟨o, M'⟩ := o
    rw [e] at p
    cases o with
    | error x =>
      intro c d H' r' x' m' q'
      obtain ⟨r2, y1, y2, y3⟩ := gc_rep m x' m' x.arg
      refine p c d H' r2 y1 y2 ⟨q'.1, ?_⟩
      rcases q'.2 with ⟨h1, h2⟩ | ⟨h1, a, g, v, y, h2, h5, h3, h4, h6⟩
      · exact .inl ⟨gc_non.mpr h1, h2⟩
      · have ha : isD x.arg = true := by rw [h2]; simp [isD, isDs, h5]
        exact .inr ⟨fun z => h1 (gc_non.mp z), a, g, v, y, (gc_fst ha).trans h2, h5, h3, h4, RepW_D h5 h6⟩
    | ok fl =>
      cases fl with
      | nx s' =>
        intro σ' H' r' x' m' s1
        obtain ⟨r2, y1, y2, y3⟩ := gc_rep m x' m' .non
        exact p V.non H' r2 y1 y2 (y3 _ rfl)
      | rt u =>
        intro v H' r' x' m' qv
        obtain ⟨r2, y1, y2, y3⟩ := gc_rep m x' m' u
        exact p v H' r2 y1 y2 (y3 _ qv)
/-- at no depth nothing is told -/
theorem fn_zero {P : Program} {w : World} {K : PySem.W.Frag} {mg : Str → Option Value} {base : Heap} {CX : CXT} {k : Nat} {f : Addr} {fd : FuncData} {ps : List Str} : FnG P w K mg base CX k f fd ps (spF C (fun _ _ => none) ps.length) :=
  ⟨fun vs H Q E h => h.1, fun A o s H a us vs Q E g r e b v h => by
    obtain ⟨_, _, _, _, _, _, p⟩ := h
    exact p.elim⟩
end
end Sw
namespace Sw
open PySem PySem.Spec L2
open PyProof.Rows (AllBare envOfC)
/-- the same, the numbers told -/
theorem i_defn {C : Rc} {P : Program} {w : World} {K : PySem.W.Frag} {mg : Str → Option Value} {base : Heap} {CX : CXT} {k : Nat} {f : Addr} {fd : FuncData} {N ps : List Str}
    {x qual : Str} {params : Arguments} {bd : List Stmt} {sc : Scope} (n np : Nat) (b : SM) (F : FunD K x qual params bd sc [] [] f fd) (S : FnScope N ps sc) (hn : N.length = n) (hp : ps.length = np)
    (hb : ∀ (cdv : Value) (A : Around) (outer : List Env) (s : Shared) (H : Hp) (E : XK), A.guards = some [] → Room k (A.deeper (envOfC qual sc s.heap.objs.size f cdv)) →
      PSs (cxOf CX P w K mg base N qual sc f cdv A outer s H E) bd (tS C E b)) :
    FnG P w K mg base CX (k + 1) f fd ps (spF C (fun ws M => gcO M (Sw.body n b ws M)) np) := by
  subst hn hp
  exact i_def F S hb
theorem FnG.like {C : Rc} {P : Program} {w : World} {K : PySem.W.Frag} {mg : Str → Option Value} {base : Heap} {CX : CXT} {k : Nat} {f : Addr} {fd : FuncData} {ps ps' : List Str} {g g' : List W → Mem → Out W} {n n' : Nat}
    (h : FnG P w K mg base CX k f fd ps (spF C g n)) (e1 : ps' = ps) (e2 : g' = g) (e3 : n' = n) : FnG P w K mg base CX k f fd ps' (spF C g' n') := by
  subst e1 e2 e3
  exact h
end Sw

set_option autoImplicit false
set_option Elab.async false
set_option linter.all false
set_option maxRecDepth 100000
/-! Dict displays, stores, methods, isinstance, tuple, list, all, any. -/
namespace Sw
open PySem PySem.Spec L2
section
variable {C : Rc} {E : XK} {X : Cx}
theorem i_dic {pos : Pos} : PE X (.Dict [] [] pos) (tE C E eDic) :=
  PE.imp pe_dnewK fun σ H Q ⟨s, M, r, hs, hm, p⟩ => fun a ha => by
    have p : Kv C Q r H (.ref M.length) (M ++ [O.dic []]) := p
    refine p (.ref a) _ (r ++ [a]) (Mono.alloc ha) (hm.alloc ha ?_) ⟨a, rfl, by rw [← hm.len, List.getElem?_append_right (Nat.le_refl _)]; simp⟩
    exact DicAt.mk (Nat.zero_le _) (by simp) (by simp) (.inl ⟨by simp, [], upd_same, .nil⟩)
/-! ### o[k] = v -/
def tPut (C : Rc) (f : W → W → W → Mem → Option Mem) : TSet := fun o i v H Q => ∃ r M a b c M', RepM C H r M ∧ RepW C H r a o ∧ RepW C H r b i ∧ RepW C H r c v ∧ f a b c M = some M' ∧ ∀ H', Mono r r H H' → RepM C H' r M' → Q H'
theorem p_put (hK : C.K = X.K) (hw : C.w = X.w) (hu : X.A.units + 64 < cLine) : PSet X (tPut C putW) := by
  intro pins s σ H o i v ov iv u Q I ro ri rv ⟨r, M, a, b, c, M', m, qa, qb, qc, e, q⟩
  unfold putW at e
  cases a with
  | ref j =>
    dsimp only at e
    split at e
    · rename_i kvs hj
      split at e
      · rename_i hc
        rw [Bool.and_eq_true] at hc
        cases e
        obtain ⟨p, ep, hp⟩ := qa
        subst ep
        obtain rfl : ov = Value.ref p := ro
        exact dic_set hK hw hu I m hp hj hc.1 hc.2 qb ri qc rv fun H' s' I' x' m' => ⟨H', I', q H' x' m'⟩
      · cases e
    · rename_i ws hj
      split at e
      · rename_i k
        cases en : ixW ws.length k with
        | none => rw [en] at e; cases e
        | some n =>
          rw [en] at e
          cases e
          obtain ⟨p, vs, ep, hp, h1, qs⟩ := lst_at m qa hj
          subst ep
          have ei : i = .int k := qb
          subst ei
          have nf : ∀ o, H p = some o → frzH o = false := fun o z => by rw [h1] at z; cases z; rfl
          refine set_list pins s σ H _ _ v ov iv u Q I ro ri rv ⟨p, vs, k, n, rfl, rfl, h1, by rw [qs.length, ← ixW_eq]; exact en, q _ (Mono.write (List.mem_of_getElem? hp) nf) (m.write hp nf ⟨_, upd_same, ?_⟩)⟩
          exact RepWs.go (Mono.write (List.mem_of_getElem? hp) nf) m _ _ (qs.set n qc)
      · cases e
    · cases e
  | _ => cases e
theorem i_put {o k e : Expr} {mo mk me : EM} {pos pos' : Pos} (hK : C.K = X.K) (hw : C.w = X.w) (hu : X.A.units + 64 < cLine) (ho : PE X o (tE C E mo)) (hk : PE X k (tE C E mk)) (he : PE X e (tE C E me))
    (ha : ∀ v, assign (.Subscript o k pos') X.env v = (do
      let ov ← holding [v] (eval o X.env)
      let iv ← holding [v, ov] (eval k X.env)
      standAt pos'
      holding [v, ov, iv] (setItem ov iv v)
      release [v, ov, iv] []) := by intro _; rfl)
    (hs : swapsWithSole [.Subscript o k pos'] e pos.line X.env = pure false := by rfl) (hw' : swappedStores [.Subscript o k pos'] e X.env = pure none := by rfl)
    (h1 : (assignEach [.Subscript o k pos'] X.env).map (·.2) = [assign (.Subscript o k pos') X.env] := by rfl) : PS X (.Assign [.Subscript o k pos'] e pos) (tS C E (sPut mo mk me)) :=
  PS.imp (ps_asg he (pg_sub ho hk (p_put hK hw hu) ha) hs hw' h1) fun D σ H ⟨s, M, r, hs, hm, p⟩ => tE_on Ks_cl hs hm p fun v H1 r1 M1 c x1 m1 q1 s1 p1 =>
    tE_on Ks_cl s1 m1 p1 fun ov H2 r2 M2 a x2 m2 q2 s2 p2 => tE_on Ks_cl s2 m2 p2 fun iv H3 r3 M3 b x3 m3 q3 s3 p3 => by
      cases e : putW a b c M3 with
      | none => rw [e] at p3; exact p3.elim
      | some M' =>
        rw [e] at p3
        exact ⟨r3, M3, a, b, c, M', m3, RepW.go x3 m2 _ _ q2, q3, RepW.go x3 m2 _ _ (RepW.go x2 m1 _ _ q1), e, fun H' x' m' => p3 σ H' r3 x' m' (s3.go x' m3)⟩
/-! ### methods -/
def rM (C : Rc) (E : XK) (f : Mth) : V → List V → Hp → VK → Prop := fun x xs H Q => ∃ r M a ws, RepM C H r M ∧ RepW C H r a x ∧ RepWs C H r ws xs ∧ PG C E r H (f a ws M) (Kv C Q r H)
def tyK : Nat → String
  | 1 => "str"
  | 2 => "list"
  | 3 => "dict"
  | _ => ""
theorem kind_is (hK : C.K = X.K) (hw : C.w = X.w) {pins : List (Addr × Obj)} {σ : L2.St} {H : Hp} {s : Shared} {r : List Addr} {M : Mem} {w : W} {x : V} {v : Value} {k : Nat} (I : Inv X pins σ H s) (ro : RelV x v) (m : RepM C H r M) (q : RepW C H r w x)
    (h : kindW w M = k) (hk : k ≠ 0) : s.TypeIs v (tyK k) ∧ ∀ a, v = .ref a → ∃ ob, s.heap.get? a = some ob ∧ ob.dict = none := by
  unfold kindW at h
  split at h
  · subst h
    rename_i z
    obtain rfl : x = .str (tx z) := q
    obtain ⟨t, rfl⟩ := ro
    exact ⟨typeIs_str s _ t, fun _ e => nomatch e⟩
  · rename_i j
    split at h
    · rename_i ws hj
      subst h
      obtain ⟨p, vs, ep, hp, h1, qs⟩ := lst_at m q hj
      subst ep
      obtain rfl : v = Value.ref p := ro
      obtain ⟨its, n, _, e, _⟩ := I.lst h1
      exact ⟨⟨_, e, rfl⟩, fun a z => by cases z; exact ⟨_, e, rfl⟩⟩
    · rename_i kvs hj
      subst h
      obtain ⟨p, ep, hp⟩ := q
      subst ep
      obtain rfl : v = Value.ref p := ro
      have d : DicAt C H r false kvs p := m.obj j p _ hp hj
      exact ⟨dic_type hK hw I d, fun a z => by cases z; exact dic_nodict I d⟩
    · rename_i kvs hj
      subst h
      obtain ⟨p, ep, hp⟩ := q
      subst ep
      obtain rfl : v = Value.ref p := ro
      have d : DicAt C H r true kvs p := m.obj j p _ hp hj
      exact ⟨dic_type hK hw I d, fun a z => by cases z; exact dic_nodict I d⟩
    · exact absurd h.symm hk
  · exact absurd h.symm hk
theorem i_m {k : Nat} {id : String} {f : Mth} {o e : Expr} {es : List Expr} {mo : EM} {ms : List EM} {name : Str} {apos cpos : Pos} (hK : C.K = X.K) (hw : C.w = X.w) (hk : k ≠ 0) (pa : PlainAttrs (tyK k)) (slot : Slot (tyK k) name id) (hty : typeOf (.builtin id) = pure (.type "method_descriptor")) (hm : MtR X id (rM C E f))
    (ho : PE X o (tE C E mo)) (ha : PA X (e :: es) (tA C E (eAs ms))) (hbase : attributeBase o name X.env (eval o X.env) = eval o X.env := by rfl)
    (hfew : ((backTo cpos (starEach (e :: es) X.env)).all (fun x => !x.1) && (backToKw cpos (keywordEach [] X.env)).all (fun x => x.1.isSome)
      && decide ((e :: es).length + ([] : List Keyword).length + (if ([] : List Keyword).isEmpty then 0 else 1) < 30)) = true := by rfl)
    (hline : (apos.endLine == cpos.line) = true := by rfl) (hs : starEach (e :: es) X.env = (false, eval e X.env) :: starEach es X.env := by rfl) (hpl : (backTo cpos (starEach es X.env)).any (·.1) = false := by rfl) :
    PE X (.Call (.Attribute o name apos) (e :: es) [] cpos) (tE C E (eM k f mo ms)) := by
  refine ⟨fun pins s σ H Q I ⟨s0, M, r, hs0, hm0, p⟩ => ?_⟩
  have rd : tE C E mo σ H (fun x H1 => ∃ r1 M1 w, RepM C H1 r1 M1 ∧ RepW C H1 r1 w x ∧ kindW w M1 = k ∧ tA C E (eAs ms) σ H1 fun vs H2 => rM C E f x vs H2 Q) :=
    tE_on Kv_cl hs0 hm0 p fun v H1 r1 M1 w x1 m1 q1 s1 p1 => by
      split at p1
      · rename_i hkd
        exact ⟨r1, M1, w, m1, q1, hkd, tA_on Kv_cl s1 m1 p1 fun vs H2 r2 M2 ws _ x2 m2 q2 s2 p2 => ⟨r2, M2, w, ws, m2, RepW.go x2 m1 _ _ q1, q2, p2⟩⟩
      · exact p1.elim
  refine wpAny_Call_method_late hbase hfew hline rfl (thn (ho.run pins s σ H _ I rd) fun v s1 ⟨x, H1, I1, rx, r1, M1, w, m1, q1, hkd, q2⟩ => ?_)
  obtain ⟨h1, h2⟩ := kind_is hK hw I1 rx m1 q1 hkd hk
  refine ⟨tyK k, id, pa, slot, hty, h1, h2, ?_⟩
  have hA := ha.run cpos pins s1 σ H1 _ I1 q2
  rw [hs] at hA ⊢
  refine Calls.callWith_builtin (by show (false || (backTo cpos (starEach es X.env)).any (·.1)) = false; rw [hpl] <;> rfl) (Calls.evalArgs_plain ?_)
  exact thn hA fun us s2 ⟨vs, H2, I2, rvs, q3⟩ => hm pins s2 σ H2 x vs v us Q I2 rx rvs q3
theorem i_m0 {k : Nat} {id : String} {f : Mth} {o : Expr} {mo : EM} {name : Str} {apos cpos : Pos} (hK : C.K = X.K) (hw : C.w = X.w) (hk : k ≠ 0) (pa : PlainAttrs (tyK k)) (slot : Slot (tyK k) name id) (hty : typeOf (.builtin id) = pure (.type "method_descriptor")) (hm : MtR X id (rM C E f))
    (ho : PE X o (tE C E mo)) (hbase : attributeBase o name X.env (eval o X.env) = eval o X.env := by rfl) (hline : (apos.endLine == cpos.line) = true := by rfl) :
    PE X (.Call (.Attribute o name apos) [] [] cpos) (tE C E (eM k f mo [])) := by
  refine ⟨fun pins s σ H Q I ⟨s0, M, r, hs0, hm0, p⟩ => ?_⟩
  have rd : tE C E mo σ H (fun x H1 => ∃ r1 M1 w, RepM C H1 r1 M1 ∧ RepW C H1 r1 w x ∧ kindW w M1 = k ∧ rM C E f x [] H1 Q) :=
    tE_on Kv_cl hs0 hm0 p fun v H1 r1 M1 w x1 m1 q1 s1 p1 => by
      split at p1
      · rename_i hkd
        exact ⟨r1, M1, w, m1, q1, hkd, r1, M1, w, [], m1, q1, rfl, p1⟩
      · exact p1.elim
  refine wpAny_Call_method0_late hbase hline (thn (ho.run pins s σ H _ I rd) fun v s1 ⟨x, H1, I1, rx, r1, M1, w, m1, q1, hkd, q2⟩ => ?_)
  obtain ⟨h1, h2⟩ := kind_is hK hw I1 rx m1 q1 hkd hk
  exact ⟨tyK k, id, pa, slot, hty, h1, h2, Calls.callWith_builtin rfl (PySem.evalArgs_none (hm pins s1 σ H1 x [] v [] Q I1 rx .nil q2))⟩
theorem MtR.imp {id : String} {r r' : V → List V → Hp → VK → Prop} (h : MtR X id r) (f : ∀ x xs H Q, r' x xs H Q → r x xs H Q) : MtR X id r' := fun pins s σ H x xs v us Q I rx rv q => h pins s σ H x xs v us Q I rx rv (f x xs H Q q)
theorem onL_go {H : Hp} {r : List Addr} {M : Mem} {w : W} {x : V} {g : Nat → List W → Out W} {K : W → Mem → Prop} (m : RepM C H r M) (q : RepW C H r w x) (p : PG C E r H (onL w M g) K) : ∃ j ws a vs, x = .ref a ∧ r[j]? = some a ∧ M[j]? = some (.lst ws) ∧ H a = some (.lst vs) ∧ RepWs C H r ws vs ∧ PG C E r H (g j ws) K := by
  unfold onL at p
  split at p
  · split at p
    · rename_i j _ ws hj
      obtain ⟨a, vs, e, ha, h1, qs⟩ := lst_at m q hj
      exact ⟨j, ws, a, vs, e, ha, hj, h1, qs, p⟩
    · exact p.elim
  · exact p.elim
/-- a list of the store is changed -/
theorem wr_lst {H : Hp} {r : List Addr} {M : Mem} {j : Nat} {a : Addr} {ws : List W} {vs us : List V} (m : RepM C H r M) (ha : r[j]? = some a) (h1 : H a = some (.lst us)) (q : RepWs C H r ws vs) : Mono r r H (upd H a (.lst vs)) ∧ RepM C (upd H a (.lst vs)) r (M.set j (.lst ws)) :=
  have nf : ∀ o, H a = some o → frzH o = false := fun o z => by rw [h1] at z; cases z; rfl
  ⟨Mono.write (List.mem_of_getElem? ha) nf, m.write ha nf ⟨vs, upd_same, RepWs.go (Mono.write (List.mem_of_getElem? ha) nf) m _ _ q⟩⟩
theorem m_append : MtR X "list.append" (rM C E fAppend) := MtR.imp mt_append fun x xs H Q ⟨r, M, w, ws, m, q, qs, p⟩ => by
  obtain ⟨j, us, a, vs, e, ha, hj, h1, q1, p⟩ := onL_go m q p
  subst e
  split at p
  · rename_i v
    obtain ⟨y, yr, rfl, qy, hyr⟩ := qs
    obtain rfl := hyr
    split at p
    · rename_i hl
      obtain ⟨x', m'⟩ := wr_lst m ha h1 (q1.app (RepWs.one qy))
      refine ⟨a, vs, y, rfl, rfl, h1, ?_, p .non _ r x' m' rfl⟩
      have := of_decide_eq_true hl
      rw [q1.length]
      exact Nat.lt_of_lt_of_le (Nat.lt_of_succ_le this) (by decide)
    · exact p.elim
  · exact p.elim
theorem m_extend : MtR X "list.extend" (rM C E fExtend) := MtR.imp mt_extend fun x xs H Q ⟨r, M, w, ws, m, q, qs, p⟩ => by
  obtain ⟨j, us, a, vs, e, ha, hj, h1, q1, p⟩ := onL_go m q p
  subst e
  split at p
  · rename_i i
    obtain ⟨y, yr, rfl, qy, hyr⟩ := qs
    obtain rfl := hyr
    split at p
    · rename_i us2 hi
      split at p
      · rename_i hl
        obtain ⟨b, vs2, e, hb, h2, q2⟩ := lst_at m qy hi
        subst e
        obtain ⟨x', m'⟩ := wr_lst m ha h1 (q1.app q2)
        refine ⟨a, b, vs, vs2, rfl, rfl, h1, h2, ?_, p .non _ r x' m' rfl⟩
        have := of_decide_eq_true hl
        rw [q1.length, q2.length]
        exact Nat.le_trans this (by decide)
      · exact p.elim
    · exact p.elim
  · exact p.elim
theorem m_reverse : MtR X "list.reverse" (rM C E fReverse) := MtR.imp mt_reverse fun x xs H Q ⟨r, M, w, ws, m, q, qs, p⟩ => by
  obtain ⟨j, us, a, vs, e, ha, hj, h1, q1, p⟩ := onL_go m q p
  subst e
  split at p
  · obtain rfl := (show xs = [] from qs)
    have q2 : RepWs C H r us.reverse vs.reverse := by
      clear p h1 hj
      induction us generalizing vs with
      | nil => obtain rfl := (show vs = [] from q1); rfl
      | cons u us ih =>
        obtain ⟨v, vr, rfl, p1, p2⟩ := q1
        rw [List.reverse_cons, List.reverse_cons]
        exact (ih _ p2).app (RepWs.one p1)
    obtain ⟨x', m'⟩ := wr_lst m ha h1 q2
    exact ⟨a, vs, rfl, rfl, h1, p .non _ r x' m' rfl⟩
  · exact p.elim
theorem m_clear : MtR X "list.clear" (rM C E fClear) := MtR.imp mt_clear fun x xs H Q ⟨r, M, w, ws, m, q, qs, p⟩ => by
  obtain ⟨j, us, a, vs, e, ha, hj, h1, q1, p⟩ := onL_go m q p
  subst e
  split at p
  · obtain rfl := (show xs = [] from qs)
    obtain ⟨x', m'⟩ := wr_lst (ws := []) (vs := []) m ha h1 rfl
    exact ⟨a, vs, rfl, rfl, h1, p .non _ r x' m' rfl⟩
  · exact p.elim
theorem i_append {o e : Expr} {mo me : EM} {apos cpos : Pos} (hK : C.K = X.K) (hw : C.w = X.w) (ho : PE X o (tE C E mo)) (he : PE X e (tE C E me)) (hbase : attributeBase o "append" X.env (eval o X.env) = eval o X.env := by rfl)
    (hfew : ((backTo cpos (starEach [e] X.env)).all (fun x => !x.1) && (backToKw cpos (keywordEach [] X.env)).all (fun x => x.1.isSome)
      && decide ([e].length + ([] : List Keyword).length + (if ([] : List Keyword).isEmpty then 0 else 1) < 30)) = true := by rfl)
    (hline : (apos.endLine == cpos.line) = true := by rfl) (hs : starEach [e] X.env = (false, eval e X.env) :: starEach [] X.env := by rfl) :
    PE X (.Call (.Attribute o "append" apos) [e] [] cpos) (tE C E (eM 2 fAppend mo [me])) :=
  i_m (k := 2) hK hw (by decide) PySem.F.plainAttrs_list PySem.F.slot_list_append PySem.F.type_list_append m_append ho (i_cons he i_nil hs) hbase hfew hline hs rfl
/-! ### tuple, list, all, any -/
theorem i_tuple {x : Expr} {l : LM} {p pos : Pos} (hK : C.K = X.K) (hg : Gl X "tuple") (hm : X.mg "tuple" = none) (h : PE X x (tR C E l)) (na : starEach [x] X.env = (false, eval x X.env) :: starEach [] X.env := by rfl) :
    PE X (.Call (.Name "tuple" p) [x] [] pos) (tE C E (eTuple l)) :=
  PE.imp (pe_tupleOf hg hm h na) fun σ H Q ⟨s, M, r, hs, hm, p⟩ => tR_on Kv_cl hs hm p fun a vs H1 r1 M1 ws x1 m1 q1 sq s1 p1 => by
    rw [hK] at sq
    rcases sq with sq | sq
    · exact .inl ⟨a, vs, rfl, sq, fun b hb => p1 (.ref b) _ r1 (Mono.temp hb) (m1.temp hb) ⟨b, vs, rfl, .inl (.inl upd_same), RepWs.go (Mono.temp hb) m1 _ _ q1⟩⟩
    · exact .inr ⟨a, vs, rfl, sq, p1 (.ref a) H1 r1 (Mono.refl _ _) m1 ⟨a, vs, rfl, by rw [hK]; exact sq, q1⟩⟩
theorem i_list {x : Expr} {l : LM} {p pos : Pos} (hK : C.K = X.K) (hg : Gl X "list") (hm : X.mg "list" = none) (h : PE X x (tR C E l)) (na : starEach [x] X.env = (false, eval x X.env) :: starEach [] X.env := by rfl) :
    PE X (.Call (.Name "list" p) [x] [] pos) (tF C E (lList l)) :=
  PE.imp (pe_callTy call_list_of hg hm PyProof.Rows.boot_list (pa_cons h pa_nil na) (he := na) (hpl := rfl)) fun σ H Q ⟨s, M, r, hs, hm, p⟩ => by
    have p : PG C E r H (bnd (l s M) fun ws M => if many ws.length then ok ws M else none) (Kf C Q r H) := p
    have p2 := p.fst Kf_cl
    refine ⟨s, M, r, hs, hm, ?_⟩
    revert p2
    cases e : l s M with
    | none => intro p2; exact p2
    | some o =>
      obtain ⟨o, M1⟩ := o
      cases o with
      | error x => intro p2; exact p2
      | ok ws =>
        rw [e] at p
        have p : PG C E r H (if many ws.length then ok ws M1 else none) (Kf C Q r H) := p
        intro _
        intro a vs H1 r1 x1 m1 q1 sq
        split at p
        · rename_i hl
          rw [hK] at sq
          refine ⟨a, vs, rfl, sq, fun b hb => ?_⟩
          exact p b vs (upd H1 b (.lst vs)) r1 (x1.trans m1 (Mono.temp hb)) (m1.temp hb) (RepWs.go (Mono.temp hb) m1 _ _ q1) upd_same (m1.new hb) (x1.none_back m1 hb) (of_decide_eq_true hl)
        · exact p.elim
end
end Sw

set_option autoImplicit false
set_option Elab.async false
set_option linter.all false
set_option maxRecDepth 100000
/-! isinstance, all, any. -/
namespace Sw
open PySem PySem.Spec L2
section
variable {C : Rc} {E : XK} {X : Cx}
def kits : List String := ["NoneType", "bool", "int", "str", "tuple", "list", "dict"]
theorem tyN_in {w : W} {M : Mem} {t : String} (h : tyN w M = some t) : t ∈ kits := by
  unfold tyN at h
  split at h <;> (try (cases h; decide))
  split at h
  · cases h; decide
  · split at h
    · cases h
    · cases h; decide
  · cases h
theorem tyN_x (hK : C.K = X.K) {H : Hp} {r : List Addr} {M : Mem} {w : W} {x : V} {t : String} (m : RepM C H r M) (q : RepW C H r w x) (h : tyN w M = some t) : TyX X.K H x (.type t) := by
  cases w with
  | non => cases h; obtain rfl : x = .non := q; exact .base .non
  | bl b => cases h; obtain rfl : x = .bl b := q; exact .base (.bl b)
  | int i => cases h; obtain rfl : x = .int i := q; exact .base (.int i)
  | str z => cases h; obtain rfl : x = .str (tx z) := q; exact .base (.str _)
  | tup ws =>
    cases h
    obtain ⟨a, vs, e, s, _⟩ := q
    subst e
    rcases s with (s | ⟨o, s⟩) | ⟨o, its, n, s1, s2, _⟩
    · exact .base (.tup s)
    · exact .fTuple s
    · rw [hK] at s1
      exact .kTuple s1 s2
  | scr ns =>
    cases h
    obtain ⟨a, e, _, s⟩ := q
    subst e
    rcases s with ⟨o, s⟩ | ⟨o, its, n, s1, s2, _⟩
    · exact .base (.frz s)
    · rw [hK] at s1
      exact .kList s1 s2
  | ref j =>
    unfold tyN at h
    dsimp only at h
    split at h
    · rename_i ws hj
      cases h
      obtain ⟨a, vs, e, ha, h1, _⟩ := lst_at m q hj
      subst e
      exact .base (.lst h1)
    · rename_i kvs hj
      split at h
      · cases h
      · rename_i hn
        cases h
        obtain ⟨a, e, ha⟩ := q
        subst e
        have d : DicAt C H r false kvs a := m.obj j a _ ha hj
        rcases d.obj with ⟨_, xs, e1, _⟩ | ⟨⟨ne, z⟩, _⟩
        · exact .base (.dK e1)
        · exfalso
          apply hn
          cases kvs with
          | nil => exact absurd rfl ne
          | cons p ps => rw [List.any_cons, z p List.mem_cons_self]; rfl
    · cases h
theorem i_isA {T : Str} {Ts : String} {e : Expr} {m : EM} {p p2 pos : Pos} (hK : C.K = X.K) (hg : Gl X "isinstance") (hm : X.mg "isinstance" = none) (hgT : Gl X T) (hmT : X.mg T = none) (hvT : bootBuiltins T = some (.type Ts))
    (hkit : ∀ t ∈ kits, kitB t Ts = some (t == Ts || t == "bool" && Ts == "int")) (ha : PE X e (tE C E m)) (hnT : T ≠ "__name__" := by decide) (hdT : (T == ("__debug__" : Str)) = false := by decide)
    (hs : starEach [e, .Name T p2] X.env = (false, eval e X.env) :: starEach [.Name T p2] X.env := by rfl) (hs2 : starEach [.Name T p2] X.env = (false, eval (.Name T p2) X.env) :: starEach [] X.env := by rfl)
    (hpl : (backTo pos (starEach [.Name T p2] X.env)).any (·.1) = false := by rfl) :
    PE X (.Call (.Name "isinstance" p) [e, .Name T p2] [] pos) (tE C E (eUn (uIsA Ts) m)) :=
  PE.imp (pe_callB call_isi hg hm PyProof.Rows.boot_isinstance (pa_cons ha (pa_cons (pe_bltn (v := .ty Ts) hgT hmT hvT rfl hnT hdT) pa_nil hs2) hs) (he := hs) (hpl := hpl)) fun σ H Q ⟨s, M, r, hs, hm, p⟩ => tE_on Kv_cl hs hm p fun v H1 r1 M1 w x1 m1 q1 s1 p1 => by
    have p1 : PG C E r1 H1 (match tyN w M1 with
      | some t => ok (.bl (t == Ts || t == "bool" && Ts == "int")) M1
      | none => none) (Kv C Q r1 H1) := p1
    cases e : tyN w M1 with
    | none => rw [e] at p1; exact p1.elim
    | some t =>
      rw [e] at p1
      exact ⟨v, .ty Ts, .type t, .type Ts, _, rfl, .ty Ts, tyN_x hK m1 q1 e, kit_ty (hkit t (tyN_in e)), p1 _ H1 r1 (Mono.refl _ _) m1 rfl⟩
theorem kits_list : ∀ t ∈ kits, kitB t "list" = some (t == "list" || t == "bool" && "list" == "int") := by decide +kernel
theorem kits_tuple : ∀ t ∈ kits, kitB t "tuple" = some (t == "tuple" || t == "bool" && "tuple" == "int") := by decide +kernel
theorem kits_bool : ∀ t ∈ kits, kitB t "bool" = some (t == "bool" || t == "bool" && "bool" == "int") := by decide +kernel
theorem kits_int : ∀ t ∈ kits, kitB t "int" = some (t == "int" || t == "bool" && "int" == "int") := by decide +kernel
theorem kits_str : ∀ t ∈ kits, kitB t "str" = some (t == "str" || t == "bool" && "str" == "int") := by decide +kernel
theorem kits_dict : ∀ t ∈ kits, kitB t "dict" = some (t == "dict" || t == "bool" && "dict" == "int") := by decide +kernel
/-! all, any over lists of truths -/
theorem bools_vals {H : Hp} {r : List Addr} : ∀ {ws : List W} {vs : List V} {bs : List Bool}, bools ws = some bs → RepWs C H r ws vs → vs = bs.map V.bl
  | [], vs, bs, h, q => by cases h; exact q
  | w :: ws, vs, bs, h, q => by
    obtain ⟨v, vr, rfl, p, q⟩ := q
    cases w with
    | bl b =>
      unfold bools at h
      cases e : bools ws with
      | none => rw [e] at h; cases h
      | some bs' =>
        rw [e] at h
        cases h
        rw [bools_vals e q, show v = .bl b from p]
        rfl
    | _ => cases h
/-- over a list that nobody holds -/
theorem i_all {x : Expr} {l : LM} {p pos : Pos} (hK : C.K = X.K) (hc : X.calm = true) (hg : Gl X "all") (hm : X.mg "all" = none) (hv : bootBuiltins "all" = some (.builtin "all")) (h : PE X x (tF C E l)) (na : starEach [x] X.env = (false, eval x X.env) :: starEach [] X.env := by rfl) :
    PE X (.Call (.Name "all" p) [x] [] pos) (tE C E (eL fAll l)) :=
  PE.imp (pe_callB (cr_all hc) hg hm hv (pa_cons h pa_nil na) (he := na) (hpl := rfl)) fun σ H Q ⟨s, M, r, hs, hm, p⟩ => tF_on Kv_cl hs hm p fun a vs H1 r1 M1 ws x1 m1 q1 ha hn h0 hl s1 p1 => by
    unfold fAll at p1
    cases e : bools ws with
    | none => rw [e] at p1; exact p1.elim
    | some bs =>
      rw [e] at p1
      have hv := bools_vals e q1
      exact ⟨a, bs, rfl, .inl (.inl (by rw [← hv]; exact ha)), p1 _ H1 r1 (Mono.refl _ _) m1 rfl⟩
theorem i_any {x : Expr} {l : LM} {p pos : Pos} (hK : C.K = X.K) (hc : X.calm = true) (hg : Gl X "any") (hm : X.mg "any" = none) (hv : bootBuiltins "any" = some (.builtin "any")) (h : PE X x (tF C E l)) (na : starEach [x] X.env = (false, eval x X.env) :: starEach [] X.env := by rfl) :
    PE X (.Call (.Name "any" p) [x] [] pos) (tE C E (eL fAny l)) :=
  PE.imp (pe_callB (cr_any hc) hg hm hv (pa_cons h pa_nil na) (he := na) (hpl := rfl)) fun σ H Q ⟨s, M, r, hs, hm, p⟩ => tF_on Kv_cl hs hm p fun a vs H1 r1 M1 ws x1 m1 q1 ha hn h0 hl s1 p1 => by
    unfold fAny at p1
    cases e : bools ws with
    | none => rw [e] at p1; exact p1.elim
    | some bs =>
      rw [e] at p1
      have hv := bools_vals e q1
      exact ⟨a, bs, rfl, .inl (.inl (by rw [← hv]; exact ha)), p1 _ H1 r1 (Mono.refl _ _) m1 rfl⟩
end
end Sw

set_option autoImplicit false
set_option Elab.async false
set_option linter.all false
set_option maxRecDepth 100000
/-! sorted. -/
namespace Sw
open PySem PySem.Spec L2
/-! ### the order by signs -/
def ltI : List Int → List Int → Bool
  | _, [] => false
  | [], _ :: _ => true
  | a :: u, b :: v => if a < b then true else if b < a then false else ltI u v
mutual
def tok : W → List Int
  | .non => [0]
  | .bl b => [1, if b then 1 else 0]
  | .int i => [2, i]
  | .str s => 3 :: (s.map fun (c : Nat) => (c : Int) + 1) ++ [0]
  | .tup ws => 4 :: toks ws
  | .ref n => [5, n]
  | .scr _ => [6]
def toks : List W → List Int
  | [] => [-1]
  | w :: ws => tok w ++ toks ws
end
theorem ltI_asym : ∀ u v, ltI u v = true → ltI v u = false
  | [], [], h => by simp [ltI] at h
  | [], _ :: _, _ => by simp [ltI]
  | _ :: _, [], h => by simp [ltI] at h
  | a :: u, b :: v, h => by
    unfold ltI at h ⊢
    split at h
    · rename_i h1
      rw [if_neg (by omega), if_pos h1]
    · split at h
      · cases h
      · rw [if_neg (by assumption), if_neg (by assumption)]
        exact ltI_asym u v h
theorem ltI_tr : ∀ x y z, ltI y x = false → ltI z y = false → ltI z x = false
  | x, y, [], h1, h2 => by
    cases x with
    | nil => simp [ltI]
    | cons a u =>
      cases y with
      | nil => simp [ltI] at h1
      | cons b v => simp [ltI] at h2
  | [], y, _ :: _, _, _ => by simp [ltI]
  | a :: u, [], c :: w, h1, _ => by simp [ltI] at h1
  | a :: u, b :: v, c :: w, h1, h2 => by
    unfold ltI at h1 h2 ⊢
    split at h1
    · cases h1
    · split at h2
      · cases h2
      · rename_i n1 n2
        rw [if_neg (by omega)]
        split
        · rfl
        · rename_i n3
          have e1 : ¬ a < b := by omega
          have e2 : ¬ b < c := by omega
          rw [if_neg e1] at h1
          rw [if_neg e2] at h2
          exact ltI_tr u v w h1 h2
/-- the first place that differs decides -/
def Ltp (u v : List Int) : Prop := ∃ (p : List Int) (a b : Int) (u' v' : List Int), u = p ++ a :: u' ∧ v = p ++ b :: v' ∧ a < b
theorem Ltp.app {u v : List Int} (h : Ltp u v) (r r' : List Int) : Ltp (u ++ r) (v ++ r') := by
  obtain ⟨p, a, b, u', v', rfl, rfl, k⟩ := h
  exact ⟨p, a, b, u' ++ r, v' ++ r', by simp, by simp, k⟩
theorem Ltp.pre {u v : List Int} (h : Ltp u v) (p : List Int) : Ltp (p ++ u) (p ++ v) := by
  obtain ⟨q, a, b, u', v', rfl, rfl, k⟩ := h
  exact ⟨p ++ q, a, b, u', v', by simp, by simp, k⟩
theorem Ltp.lt {u v : List Int} (h : Ltp u v) : ltI u v = true := by
  obtain ⟨p, a, b, u', v', rfl, rfl, k⟩ := h
  induction p with
  | nil => simp [ltI, k]
  | cons c p ih => simp only [List.cons_append, ltI]; rw [if_neg (Int.lt_irrefl c), if_neg (Int.lt_irrefl c)]; exact ih
theorem str_ltp : ∀ s t : Tx, s < t → Ltp ((s.map fun (c : Nat) => (c : Int) + 1) ++ [0]) ((t.map fun (c : Nat) => (c : Int) + 1) ++ [0])
  | [], [], h => absurd h (by simp)
  | [], b :: t, _ => ⟨[], 0, b + 1, [], (t.map fun (c : Nat) => (c : Int) + 1) ++ [0], rfl, rfl, by omega⟩
  | _ :: _, [], h => absurd h (by simp)
  | a :: s, b :: t, h => by
    rw [List.cons_lt_cons_iff] at h
    rcases h with h | ⟨rfl, h⟩
    · exact ⟨[], (a : Int) + 1, (b : Int) + 1, (s.map fun (c : Nat) => (c : Int) + 1) ++ [0], (t.map fun (c : Nat) => (c : Int) + 1) ++ [0], rfl, rfl, by omega⟩
    · exact (str_ltp s t h).pre [(a : Int) + 1]
theorem str_tri : ∀ s t : Tx, s < t ∨ s = t ∨ t < s
  | [], [] => .inr (.inl rfl)
  | [], b :: t => .inl (List.nil_lt_cons b t)
  | a :: s, [] => .inr (.inr (List.nil_lt_cons a s))
  | a :: s, b :: t => by
    rw [List.cons_lt_cons_iff, List.cons_lt_cons_iff]
    rcases Nat.lt_trichotomy a b with h | h | h
    · exact .inl (.inl h)
    · subst h
      rcases str_tri s t with h | h | h
      · exact .inl (.inr ⟨rfl, h⟩)
      · exact .inr (.inl (by rw [h]))
      · exact .inr (.inr (.inr ⟨rfl, h⟩))
    · exact .inr (.inr (.inl h))
theorem tok_low : ∀ w : W, ∃ a r, tok w = a :: r ∧ 0 ≤ a
  | .non => ⟨0, [], rfl, by decide⟩
  | .bl b => ⟨1, _, rfl, by decide⟩
  | .int _ => ⟨2, _, rfl, by decide⟩
  | .str _ => ⟨3, _, rfl, by decide⟩
  | .tup _ => ⟨4, _, rfl, by decide⟩
  | .ref _ => ⟨5, _, rfl, by decide⟩
  | .scr _ => ⟨6, _, rfl, by decide⟩
mutual
theorem ltD_tok : ∀ (a b : W) (c : Bool), ltD a b = some c → (c = true → Ltp (tok a) (tok b)) ∧ (c = false → a = b ∨ Ltp (tok b) (tok a))
  | .int i, b, c, h => by
    cases b with
    | int j =>
      simp only [ltD, Option.some.injEq] at h
      subst h
      refine ⟨fun e => ⟨[2], i, j, [], [], rfl, rfl, of_decide_eq_true e⟩, fun e => ?_⟩
      have := of_decide_eq_false e
      by_cases q : i = j
      · exact .inl (by rw [q])
      · exact .inr ⟨[2], j, i, [], [], rfl, rfl, by omega⟩
    | _ => simp [ltD] at h
  | .bl i, b, c, h => by
    cases b with
    | bl j =>
      simp only [ltD, Option.some.injEq] at h
      subst h
      cases i <;> cases j <;> simp
      · exact ⟨[1], 0, 1, [], [], rfl, rfl, by decide⟩
      · exact ⟨[1], 0, 1, [], [], rfl, rfl, by decide⟩
    | _ => simp [ltD] at h
  | .str s, b, c, h => by
    cases b with
    | str t =>
      simp only [ltD, Option.some.injEq] at h
      subst h
      refine ⟨fun e => (str_ltp s t (of_decide_eq_true e)).pre [3], fun e => ?_⟩
      have h1 := of_decide_eq_false e
      by_cases q : s = t
      · exact .inl (by rw [q])
      · refine .inr ((str_ltp t s ?_).pre [3])
        exact ((str_tri s t).resolve_left h1).resolve_left q
    | _ => simp [ltD] at h
  | .tup xs, b, c, h => by
    cases b with
    | tup ys =>
      have h : ltDs xs ys = some c := by simpa [ltD] using h
      obtain ⟨h1, h2⟩ := ltDs_tok xs ys c h
      refine ⟨fun e => (h1 e).pre [4], fun e => ?_⟩
      rcases h2 e with q | q
      · exact .inl (by rw [q])
      · exact .inr (q.pre [4])
    | _ => simp [ltD] at h
  | .non, b, c, h => by simp [ltD] at h
  | .ref _, b, c, h => by simp [ltD] at h
  | .scr _, b, c, h => by simp [ltD] at h
theorem ltDs_tok : ∀ (xs ys : List W) (c : Bool), ltDs xs ys = some c → (c = true → Ltp (toks xs) (toks ys)) ∧ (c = false → xs = ys ∨ Ltp (toks ys) (toks xs))
  | [], [], c, h => by
    simp [ltDs] at h
    subst h
    exact ⟨fun e => (nomatch e), fun _ => .inl rfl⟩
  | [], y :: ys, c, h => by
    simp [ltDs] at h
    subst h
    obtain ⟨a, r, e, k⟩ := tok_low y
    exact ⟨fun _ => ⟨[], -1, a, [], r ++ toks ys, rfl, by simp [toks, e], by omega⟩, fun e => (nomatch e)⟩
  | x :: xs, [], c, h => by
    simp [ltDs] at h
    subst h
    obtain ⟨a, r, e, k⟩ := tok_low x
    exact ⟨fun e => (nomatch e), fun _ => .inr ⟨[], -1, a, [], r ++ toks xs, rfl, by simp [toks, e], by omega⟩⟩
  | x :: xs, y :: ys, c, h => by
    unfold ltDs at h
    split at h
    · rename_i e
      subst e
      obtain ⟨h1, h2⟩ := ltDs_tok xs ys c h
      refine ⟨fun e => (h1 e).pre (tok x), fun e => ?_⟩
      rcases h2 e with q | q
      · exact .inl (by rw [q])
      · exact .inr (q.pre (tok x))
    · split at h
      · cases h
      · rename_i n1 n2
        obtain ⟨h1, h2⟩ := ltD_tok x y c h
        refine ⟨fun e => (h1 e).app _ _, fun e => ?_⟩
        rcases h2 e with q | q
        · exact absurd q n1
        · exact .inr (q.app _ _)
end
theorem ltD_I {a b : W} {c : Bool} (h : ltD a b = some c) : ltI (tok a) (tok b) = c := by
  obtain ⟨h1, h2⟩ := ltD_tok a b c h
  cases c with
  | true => exact (h1 rfl).lt
  | false =>
    rcases h2 rfl with rfl | q
    · cases e : ltI (tok a) (tok a) with
      | false => rfl
      | true => exact absurd ((ltI_asym _ _ e).symm.trans e) (by simp)
    · exact ltI_asym _ _ q.lt
theorem cmp2_I {a b : W} (h : cmp2 a b = true) : ltD a b = some (ltI (tok a) (tok b)) ∧ (ltI (tok a) (tok b) = false → ltI (tok b) (tok a) = false → a = b) := by
  unfold cmp2 at h
  split at h
  · rename_i x y h1 h2
    refine ⟨by rw [ltD_I h1]; exact h1, fun e1 e2 => ?_⟩
    rw [ltD_I h1] at e1
    rw [ltD_I h2] at e2
    subst e1 e2
    split at h
    · assumption
    · simp at h
  · cases h
theorem ins1_perm (a : W) : ∀ bs : List W, (ins1 a bs).Perm (a :: bs)
  | [] => List.Perm.refl _
  | b :: bs => by
    unfold ins1
    split
    · exact ((ins1_perm a bs).cons b).trans (List.Perm.swap a b bs)
    · exact List.Perm.refl _
theorem srt_perm : ∀ ws : List W, (srt ws).Perm ws
  | [] => List.Perm.refl _
  | w :: ws => (ins1_perm w (srt ws)).trans ((srt_perm ws).cons w)
theorem ins1_sorted {a : W} : ∀ {bs : List W}, (∀ b ∈ bs, cmp2 a b = true ∧ cmp2 b a = true) → bs.Pairwise (fun x y => ltI (tok y) (tok x) = false) → (ins1 a bs).Pairwise (fun x y => ltI (tok y) (tok x) = false)
  | [], _, _ => List.pairwise_singleton _ _
  | b :: bs, hc, hs => by
    have hb := List.pairwise_cons.mp hs
    have e : lt1 b a = ltI (tok b) (tok a) := by
      unfold lt1
      rw [(cmp2_I (hc b List.mem_cons_self).2).1]
      cases ltI (tok b) (tok a) <;> rfl
    unfold ins1
    split
    · rename_i h
      rw [e] at h
      refine List.pairwise_cons.mpr ⟨fun z hz => ?_, ins1_sorted (fun z hz => hc z (List.mem_cons_of_mem _ hz)) hb.2⟩
      rcases List.mem_cons.mp ((ins1_perm a bs).mem_iff.mp hz) with rfl | hz
      · exact ltI_asym _ _ h
      · exact hb.1 z hz
    · rename_i h
      have h : ltI (tok b) (tok a) = false := by rw [← e]; exact Bool.eq_false_iff.mpr h
      refine List.pairwise_cons.mpr ⟨fun z hz => ?_, hs⟩
      rcases List.mem_cons.mp hz with rfl | hz
      · exact h
      · exact ltI_tr _ _ _ h (hb.1 z hz)
theorem srt_sorted : ∀ {ws : List W}, (∀ a ∈ ws, ∀ b ∈ ws, cmp2 a b = true) → (srt ws).Pairwise (fun x y => ltI (tok y) (tok x) = false)
  | [], _ => List.Pairwise.nil
  | w :: ws, h => ins1_sorted (fun b hb => by
      have hb := (srt_perm ws).mem_iff.mp hb
      exact ⟨h w List.mem_cons_self b (List.mem_cons_of_mem _ hb), h b (List.mem_cons_of_mem _ hb) w List.mem_cons_self⟩) (srt_sorted fun a ha b hb => h a (List.mem_cons_of_mem _ ha) b (List.mem_cons_of_mem _ hb))
/-- what is sorted is told -/
theorem srt_uniq {ws us : List W} (hc : ∀ a ∈ ws, ∀ b ∈ ws, cmp2 a b = true) (hp : us.Perm ws) (hs : us.Pairwise (fun x y => ltI (tok y) (tok x) = false)) : us = srt ws :=
  List.Perm.eq_of_pairwise (le := fun x y => ltI (tok y) (tok x) = false) (fun a b ha hb h1 h2 => (cmp2_I (hc a (hp.mem_iff.mp ha) b ((srt_perm ws).mem_iff.mp hb))).2 h2 h1) hs (srt_sorted hc) (hp.trans (srt_perm ws).symm)
end Sw

set_option autoImplicit false
set_option Elab.async false
set_option linter.all false
set_option maxRecDepth 100000
/-! sorted, of the model. -/
namespace Sw
open PySem PySem.Spec L2
open PySem.SeqAt
/-- the first pair that is not alike decides -/
def LexAt (A : Around) (s : Shared) (fin c : Bool) : List (Value × Value) → Prop
  | [] => fin = c
  | (p, q) :: r => ∃ e, EqAt A s p q e ∧ (e = true → LexAt A s fin c r) ∧ (e = false → RcLt A s p q c)
theorem tup_ltM (l b : Addr) (xs ys : Array Value) (n n2 : Nat) (dd dd2 : Option Addr) (sl sl2 : Array (Option Value)) (c : Bool) :
    Meets (Builtin.«tuple.__lt__» ⟨[.ref l, .ref b], []⟩) fun A R s =>
      s.heap.get? l = some { cls := .type "tuple", dict := dd, data := .seq xs n, slots := sl } ∧
      s.heap.get? b = some { cls := .type "tuple", dict := dd2, data := .seq ys n2, slots := sl2 } ∧
      LexAt A.in1 s (decide (xs.size < ys.size)) c (xs.toList.zip ys.toList) ∧ R (.ok (.ret (.bool c))) s := by
  refine .of_wp fun prog w A R s h => ?_
  obtain ⟨hp, g, d, tk, os⟩ := s
  obtain ⟨hl, hb, hx, hR⟩ := h
  have f2 := AutoSeq1.sub_tuple_tuple
  wp_walk using MeetsSeq.wpAny_loadPart' hl, MeetsSeq.wpAny_loadPart' hb,
    wpAny_forIn_list _ (fun rest b s' => b.1 = none ∧ s' = ⟨hp, g, d, tk, os⟩ ∧ LexAt A.in1 s' (decide (xs.size < ys.size)) c rest) _
  case turn =>
    rintro ⟨p, q⟩ rest b s' ⟨_, rfl, e, h1, h2, h3⟩
    refine wpAny_bind (h1 prog w _ _ ?_)
    cases e with
    | true =>
      wp_walk
      exact ⟨rfl, rfl, h2 rfl⟩
    | false =>
      simp only [Bool.not_false, if_true]
      exact wpAny_bind (wpAny_rule (wpAny_bind (h3 rfl prog w _ _ (wpAny_bind (wpAny_pure (wpAny_pure (wpAny_pure ⟨_, rfl, hR⟩)))))))
  case fin =>
    rintro ⟨b1, b2⟩ s' ⟨hb1, rfl, h1⟩
    dsimp only at hb1
    subst hb1
    wp_walk
    refine ⟨_, rfl, ?_⟩
    rw [show Builtin.Tuple.tupleCompareSizes CmpOp.Lt xs.size ys.size = .bool c from congrArg Value.bool h1]
    exact hR
  case h => exact ⟨rfl, rfl, hx⟩
theorem tup_lt {A : Around} {s : Shared} {l b : Addr} {xs ys : Array Value} {c : Bool} (hl : s.heap.IsTuple l xs) (hb : s.heap.IsTuple b ys) (hu : A.units < cLine) (hx : LexAt A.in1 s (decide (xs.size < ys.size)) c (xs.toList.zip ys.toList)) : RcLt A s (.ref l) (.ref b) c := by
  intro prog w E Q h
  obtain ⟨⟨cls, dd, data, sl⟩, ho, hc, n, hd⟩ := id hl
  obtain ⟨⟨cls2, dd2, data2, sl2⟩, ho2, hc2, n2, hd2⟩ := id hb
  simp only at hc hd hc2 hd2
  subst hc hd hc2 hd2
  exact richCompare_meets_room (op := .Lt) ⟨_, ho, rfl⟩ ⟨_, ho2, rfl⟩ F.slot_tuple_lt F.entry_tuple_lt (F.args_tuple_lt_2 _ _) (tup_ltM l b xs ys n n2 dd dd2 sl sl2 c)
    ⟨ho, ho2, hx, (show Value.bool c ≠ Value.notImplemented ∧ Q (.bool c) s from ⟨(fun x => nomatch x), h⟩)⟩ hu
/-! ### < of data -/
theorem toDs_len : ∀ ws : List W, (toDs ws).length = ws.length
  | [] => rfl
  | w :: ws => by rw [toDs, List.length_cons, List.length_cons, toDs_len ws]
theorem eqD_of {x y : W} (h : x = y) : eqD x y = true := by subst h; exact decide_eq_true rfl
mutual
theorem rl_D : ∀ (a b : W) (c : Bool) (A : Around) (s : Shared) (u v : Value) (as bs : List Addr), isD a = true → isD b = true → ltD a b = some c → Reads s.heap u (toD a) as → Reads s.heap v (toD b) bs → A.units + min (dep a) (dep b) < cLine → RcLt A s u v c
  | .int i, b, c, A, s, u, v, as, bs, da, db, h, ra, rb, hu => by
    cases b with
    | int j =>
      simp only [ltD, Option.some.injEq] at h
      subst h
      exact fun prog w E Q hq => PySem.W.rcLt_alike (.int i) (.int j) A s u v as bs ra rb rfl (by simp) (by simpa [PyData.depth, dep] using hu) prog w E Q (by rw [PySem.W.dataLt_int]; exact hq)
    | _ => simp [ltD] at h
  | .bl i, b, c, A, s, u, v, as, bs, da, db, h, ra, rb, hu => by
    cases b with
    | bl j =>
      simp only [ltD, Option.some.injEq] at h
      subst h
      exact fun prog w E Q hq => PySem.W.rcLt_alike (.bool i) (.bool j) A s u v as bs ra rb rfl (by simp) (by simpa [PyData.depth, dep] using hu) prog w E Q (by rw [PySem.W.dataLt_bool]; cases i <;> cases j <;> exact hq)
    | _ => simp [ltD] at h
  | .str x, b, c, A, s, u, v, as, bs, da, db, h, ra, rb, hu => by
    cases b with
    | str y =>
      simp only [ltD, Option.some.injEq] at h
      subst h
      exact fun prog w E Q hq => PySem.W.rcLt_alike (.str (tx x)) (.str (tx y)) A s u v as bs ra rb rfl (by simp) (by simpa [PyData.depth, dep] using hu) prog w E Q (by rw [PySem.W.dataLt_str]; simpa using hq)
    | _ => simp [ltD] at h
  | .tup xs, b, c, A, s, u, v, as, bs, da, db, h, ra, rb, hu => by
    cases b with
    | tup ys =>
      have h : ltDs xs ys = some c := by simpa [ltD] using h
      have da : isDs xs = true := da
      have db : isDs ys = true := db
      rw [toD_tup (hasM_of_D da)] at ra
      rw [toD_tup (hasM_of_D db)] at rb
      cases ra with
      | @tuple l o vs n _ as₁ h1 h2 h3 h4 =>
        cases rb with
        | @tuple l' o' vs' n' _ bs₁ k1 k2 k3 k4 =>
          simp only [dep] at hu
          refine tup_lt ⟨_, h1, h2, _, h3⟩ ⟨_, k1, k2, _, k3⟩ (by omega) ?_
          have e1 : vs.size = xs.length := by rw [← Array.length_toList, ReadsAll.length _ _ _ h4, toDs_len]
          have e2 : vs'.size = ys.length := by rw [← Array.length_toList, ReadsAll.length _ _ _ k4, toDs_len]
          rw [e1, e2]
          exact rl_Ds xs ys c A.in1 s vs.toList vs'.toList _ _ da db h h4 k4 (by show A.units + 1 + min (deps xs) (deps ys) < cLine; omega)
    | _ => simp [ltD] at h
  | .non, b, c, A, s, u, v, as, bs, da, db, h, ra, rb, hu => by simp [ltD] at h
  | .ref _, b, c, A, s, u, v, as, bs, da, db, h, ra, rb, hu => by simp [ltD] at h
  | .scr _, b, c, A, s, u, v, as, bs, da, db, h, ra, rb, hu => by simp [ltD] at h
theorem rl_Ds : ∀ (xs ys : List W) (c : Bool) (A : Around) (s : Shared) (vs us : List Value) (as bs : List Addr), isDs xs = true → isDs ys = true → ltDs xs ys = some c → ReadsAll s.heap vs (toDs xs) as → ReadsAll s.heap us (toDs ys) bs →
    A.units + min (deps xs) (deps ys) < cLine → LexAt A s (decide (xs.length < ys.length)) c (vs.zip us)
  | [], ys, c, A, s, vs, us, as, bs, da, db, h, ra, rb, hu => by
    cases ra
    simp only [ltDs, Option.some.injEq] at h
    subst h
    cases ys with
    | nil => cases rb; rfl
    | cons y ys => cases rb; simp [LexAt]
  | x :: xs, [], c, A, s, vs, us, as, bs, da, db, h, ra, rb, hu => by
    simp only [ltDs, Option.some.injEq] at h
    subst h
    cases ra
    cases rb
    simp [LexAt]
  | x :: xs, y :: ys, c, A, s, vs, us, as, bs, da, db, h, ra, rb, hu => by
    simp only [isDs, Bool.and_eq_true] at da db
    simp only [deps] at hu
    cases ra with
    | cons r rs =>
      cases rb with
      | cons r' rs' =>
        refine ⟨eqD x y, ?_, fun e => ?_, fun e => ?_⟩
        · rw [← eqv_D x y (isF_of_D _ da.1) (isF_of_D _ db.1)]
          refine eqAt_plain _ _ A s _ _ _ _ r r' (toD_plain _) (toD_plain _) ?_
          have := toD_depth x
          have := toD_depth y
          omega
        · unfold ltDs at h
          split at h
          · simp only [List.length_cons, Nat.add_lt_add_iff_right]
            exact rl_Ds xs ys c A s _ _ _ _ da.2 db.2 h rs rs' (by omega)
          · first
            | cases h
            | (rw [if_pos e] at h; cases h)
        · unfold ltDs at h
          split at h
          · rename_i exy
            rw [eqD_of exy] at e
            cases e
          · rw [if_neg (by rw [e]; exact Bool.false_ne_true)] at h
            exact rl_D x y c A s _ _ _ _ da.1 db.1 h r r' (by omega)
end
end Sw

set_option autoImplicit false
set_option Elab.async false
set_option linter.all false
set_option maxRecDepth 100000
/-! sorted: the rule. -/
namespace Sw
open PySem PySem.Spec L2
open PySem.SeqAt
open PyProof.Rows (oneType' tuples' keyLt' keyKind' oneLt' sortedAll sortedAll_at sortedAll_old)
mutual
theorem reads_det {h : Heap} : ∀ (w w' : W) (u : Value) (as bs : List Addr), isD w = true → isD w' = true → Reads h u (toD w) as → Reads h u (toD w') bs → w = w'
  | .non, w', u, as, bs, d, d', ra, rb => by
    cases ra
    cases w' with
    | tup ws => rw [toD_tup (hasM_of_D d')] at rb; cases rb
    | non => rfl
    | ref _ => simp [isD] at d'
    | scr _ => simp [isD] at d'
    | _ => cases rb
  | .bl b, w', u, as, bs, d, d', ra, rb => by
    cases ra
    cases w' with
    | tup ws => rw [toD_tup (hasM_of_D d')] at rb; cases rb
    | bl c => cases rb; rfl
    | _ => cases rb
  | .int i, w', u, as, bs, d, d', ra, rb => by
    cases ra
    cases w' with
    | tup ws => rw [toD_tup (hasM_of_D d')] at rb; cases rb
    | int c => cases rb; rfl
    | _ => cases rb
  | .str x, w', u, as, bs, d, d', ra, rb => by
    cases w' with
    | tup ws => rw [toD_tup (hasM_of_D d')] at rb; cases ra; cases rb
    | str y =>
      have e : tx x = tx y := by cases ra; cases rb; rfl
      rw [tx_inj e]
    | _ => cases ra; cases rb
  | .tup xs, w', u, as, bs, d, d', ra, rb => by
    rw [toD_tup (hasM_of_D d)] at ra
    cases w' with
    | tup ys =>
      rw [toD_tup (hasM_of_D d')] at rb
      cases ra with
      | @tuple l o vs n _ as₁ h1 h2 h3 h4 =>
        cases rb with
        | @tuple l' o' vs' n' _ bs₁ k1 k2 k3 k4 =>
          rw [h1] at k1
          cases k1
          rw [h3] at k3
          cases k3
          rw [reads_dets xs ys _ _ _ d d' h4 k4]
    | ref _ => simp [isD] at d'
    | scr _ => simp [isD] at d'
    | _ => cases ra; cases rb
  | .ref _, w', u, as, bs, d, d', ra, rb => by simp [isD] at d
  | .scr _, w', u, as, bs, d, d', ra, rb => by simp [isD] at d
theorem reads_dets {h : Heap} : ∀ (xs ys : List W) (us : List Value) (as bs : List Addr), isDs xs = true → isDs ys = true → ReadsAll h us (toDs xs) as → ReadsAll h us (toDs ys) bs → xs = ys
  | [], ys, us, as, bs, d, d', ra, rb => by
    cases ra
    cases ys with
    | nil => rfl
    | cons y ys => cases rb
  | x :: xs, ys, us, as, bs, d, d', ra, rb => by
    cases ra with
    | cons r rs =>
      cases ys with
      | nil => cases rb
      | cons y ys =>
        cases rb with
        | cons r' rs' =>
          simp only [isDs, Bool.and_eq_true] at d d'
          rw [reads_det x y _ _ _ d.1 d'.1 r r', reads_dets xs ys _ _ _ d.2 d'.2 rs rs']
end
/-- the data that a value is -/
def DW (h : Heap) (u : Value) (w : W) : Prop := isD w = true ∧ ∃ as, Reads h u (toD w) as
theorem DW.det {h : Heap} {u : Value} {w w' : W} (a : DW h u w) (b : DW h u w') : w = w' := by
  obtain ⟨d, as, r⟩ := a
  obtain ⟨d', bs, r'⟩ := b
  exact reads_det w w' u as bs d d' r r'
theorem DW.keeps {h h' : Heap} (k : ∀ b o, h.get? b = some o → h'.get? b = some o) {u : Value} {w : W} (a : DW h u w) : DW h' u w := ⟨a.1, let ⟨as, r⟩ := a.2; ⟨as, PyProof.Rows.Reads.keeps k r⟩⟩
open Classical in
noncomputable def dW (h : Heap) (u : Value) : W := if e : ∃ w, DW h u w then choose e else .non
theorem dW_eq {h : Heap} {u : Value} {w : W} (a : DW h u w) : dW h u = w := by
  have e : ∃ w, DW h u w := ⟨w, a⟩
  unfold dW
  rw [dif_pos e]
  exact (Classical.choose_spec e).det a
noncomputable def ltv (h : Heap) (u v : Value) : Bool := ltI (tok (dW h u)) (tok (dW h v))
theorem swo_v (h : Heap) : SrtO.Swo (ltv h) := ⟨fun x y k => ltI_asym _ _ k, fun x y z a b => ltI_tr _ _ _ a b⟩
def DWs (h : Heap) : List Value → List W → Prop
  | [], [] => True
  | u :: us, w :: ws => DW h u w ∧ DWs h us ws
  | _, _ => False
theorem DWs.map {h : Heap} : ∀ {us : List Value} {ws : List W}, DWs h us ws → us.map (dW h) = ws
  | [], [], _ => rfl
  | u :: us, w :: ws, k => by rw [List.map_cons, dW_eq k.1, DWs.map k.2]
  | [], _ :: _, k => k.elim
  | _ :: _, [], k => k.elim
theorem DWs.len {h : Heap} : ∀ {us : List Value} {ws : List W}, DWs h us ws → us.length = ws.length
  | [], [], _ => rfl
  | u :: us, w :: ws, k => by rw [List.length_cons, List.length_cons, DWs.len k.2]
  | [], _ :: _, k => k.elim
  | _ :: _, [], k => k.elim
theorem DWs.keeps {h h' : Heap} (kp : ∀ b o, h.get? b = some o → h'.get? b = some o) : ∀ {us : List Value} {ws : List W}, DWs h us ws → DWs h' us ws
  | [], [], _ => trivial
  | u :: us, w :: ws, k => ⟨k.1.keeps kp, DWs.keeps kp k.2⟩
  | [], _ :: _, k => k.elim
  | _ :: _, [], k => k.elim
theorem DWs.mem {h : Heap} {u : Value} : ∀ {us : List Value} {ws : List W}, DWs h us ws → u ∈ us → ∃ w ∈ ws, DW h u w
  | [], [], _, m => by cases m
  | v :: us, w :: ws, k, m => by
    rcases List.mem_cons.mp m with rfl | m
    · exact ⟨w, List.mem_cons_self, k.1⟩
    · obtain ⟨w', h1, h2⟩ := DWs.mem k.2 m
      exact ⟨w', List.mem_cons_of_mem _ h1, h2⟩
  | [], _ :: _, k, _ => k.elim
  | _ :: _, [], k, _ => k.elim
/-! ### as sorting compares -/
section
variable {prog : Program} {w : World} {A : Around} {E : Value → Shared → Prop} {s : Shared}
theorem one_D {f : Bool} {a b : W} {c : Bool} {u v : Value} {as bs : List Addr} {Q : Bool → Shared → Prop} (hf : f = true → topK a = 1 ∨ topK a = 2) (da : isD a = true) (db : isD b = true) (h : ltD a b = some c) (ra : Reads s.heap u (toD a) as) (rb : Reads s.heap v (toD b) bs)
    (hu : A.units + min (dep a) (dep b) < cLine) (hq : Q c s) : wpAny (model prog w) A (oneLt' f u v) Q E s := by
  cases f with
  | false =>
    refine PySem.W.kat_one _ _ ?_
    exact rl_D a b c A s u v as bs da db h ra rb hu prog w E _ (show PySem.W.BoolBack Q (.bool c) s from hq)
  | true =>
    have hf := hf rfl
    cases a with
    | int i =>
      cases b with
      | int j =>
        simp only [ltD, Option.some.injEq] at h
        subst h
        exact PySem.W.oneLt_alike (da := .int i) (db := .int j) (fun _ _ e => nomatch e) ra rb rfl (by simp) (by simpa [PyData.depth, dep] using hu) (by rw [PySem.W.dataLt_int]; exact hq)
      | _ => simp [ltD] at h
    | str x =>
      cases b with
      | str y =>
        simp only [ltD, Option.some.injEq] at h
        subst h
        exact PySem.W.oneLt_alike (da := .str (tx x)) (db := .str (tx y)) (fun _ _ e => nomatch e) ra rb rfl (by simp) (by simpa [PyData.depth, dep] using hu) (by rw [PySem.W.dataLt_str]; simpa using hq)
      | _ => simp [ltD] at h
    | _ => simp [topK] at hf
theorem kat_D {b : Bool} {Q : Bool → Shared → Prop} : ∀ (xs ys : List W) (c : Bool) (i : Nat) (vs us : List Value) (as bs : List Addr), isDs xs = true → isDs ys = true → ltDs xs ys = some c → ReadsAll s.heap vs (toDs xs) as → ReadsAll s.heap us (toDs ys) bs →
    A.units + min (deps xs) (deps ys) < cLine → (b = true → i = 0 → ∀ x r, xs = x :: r → topK x = 1 ∨ topK x = 2) → Q c s → PySem.W.KatLex prog w A b (decide (xs.length < ys.length)) Q (vs.zip us) i s
  | [], ys, c, i, vs, us, as, bs, da, db, h, ra, rb, hu, hb, hq => by
    cases ra
    simp only [ltDs, Option.some.injEq] at h
    subst h
    cases ys with
    | nil => cases rb; exact hq
    | cons y ys => cases rb; exact PySem.W.kat_nil (by simpa using hq)
  | x :: xs, [], c, i, vs, us, as, bs, da, db, h, ra, rb, hu, hb, hq => by
    simp only [ltDs, Option.some.injEq] at h
    subst h
    cases ra
    cases rb
    exact PySem.W.kat_nil (by simpa using hq)
  | x :: xs, y :: ys, c, i, vs, us, as, bs, da, db, h, ra, rb, hu, hb, hq => by
    simp only [isDs, Bool.and_eq_true] at da db
    simp only [deps] at hu
    cases ra with
    | cons r rs =>
      cases rb with
      | cons r' rs' =>
        refine PySem.W.kat_cons ?_
        have eq := eqAt_plain _ _ A s _ _ _ _ r r' (toD_plain x) (toD_plain y) (by
          have := toD_depth x
          have := toD_depth y
          omega)
        rw [eqv_D x y (isF_of_D _ da.1) (isF_of_D _ db.1)] at eq
        refine eq prog w _ _ (PySem.W.kat_go (fun e => PySem.W.kat_yes ?_) fun e => PySem.W.kat_no ?_)
        · unfold ltDs at h
          split at h
          · simp only [List.length_cons, Nat.add_lt_add_iff_right]
            exact kat_D xs ys c (i + 1) _ _ _ _ da.2 db.2 h rs rs' (by omega) (fun _ z => by omega) hq
          · first
            | cases h
            | (rw [if_pos e] at h; cases h)
        · unfold ltDs at h
          split at h
          · rename_i exy
            rw [eqD_of exy] at e
            cases e
          · rw [if_neg (by rw [e]; exact Bool.false_ne_true)] at h
            refine one_D (fun z => ?_) da.1 db.1 h r r' (by omega) hq
            rw [Bool.and_eq_true] at z
            exact hb z.1 (by simpa using z.2) x xs rfl
end
end Sw

set_option autoImplicit false
set_option Elab.async false
set_option linter.all false
set_option maxRecDepth 100000
namespace Sw
open PySem PySem.Spec L2
open PySem.SeqAt
open PyProof.Rows (oneType' tuples' keyLt' keyKind' oneLt' sortedAll sortedAll_at sortedAll_old)
section
variable {prog : Program} {w : World} {A : Around}
theorem dep_mem {x : W} : ∀ {xs : List W}, x ∈ xs → dep x ≤ deps xs
  | [], h => by cases h
  | y :: ys, h => by
    unfold deps
    rcases List.mem_cons.mp h with rfl | h
    · exact Nat.le_max_left _ _
    · exact Nat.le_trans (dep_mem h) (Nat.le_max_right _ _)
/-- the comparison of two items -/
theorem cmp_D {κ : PyProof.Rows.SortKind} {h : Heap} {s : Shared} {its : List Value} {ws : List W} (hk : ∀ b o, h.get? b = some o → s.heap.get? b = some o) (D : DWs h its ws) (hc : cmpAll ws = true) (hu : A.units + 58 < cLine)
    (hκ : (κ = oneType' ∧ ∀ w ∈ ws, topK w = 1 ∨ topK w = 2) ∨ ∃ b, κ = tuples' b ∧ (∀ w ∈ ws, firstK w ≠ 0) ∧ (b = true → ∀ w ∈ ws, firstK w = 1 ∨ firstK w = 2)) :
    SrtO.Cmp prog w A s κ (fun p => p.1 ∈ its) (SrtO.lt2 (ltv h)) := by
  intro p q hp hq
  obtain ⟨a, ha, da⟩ := D.mem hp
  obtain ⟨b, hb, db⟩ := D.mem hq
  have hca := List.all_eq_true.mp hc a ha
  rw [Bool.and_eq_true, Bool.and_eq_true] at hca
  have hdep := of_decide_eq_true hca.1.2
  have hab := List.all_eq_true.mp hca.2 b hb
  have e := (cmp2_I hab).1
  have ev : SrtO.lt2 (ltv h) p q = ltI (tok a) (tok b) := by
    show ltv h p.1 q.1 = _
    unfold ltv
    rw [dW_eq da, dW_eq db]
  rw [ev]
  obtain ⟨dA, as, ra⟩ := da.keeps hk
  obtain ⟨dB, bs, rb⟩ := db.keeps hk
  rcases hκ with ⟨rfl, ht⟩ | ⟨f, rfl, hf, hf2⟩
  · rw [PyProof.Rows.keyLt'_oneType]
    exact one_D (fun _ => ht a ha) dA dB e ra rb (by omega) ⟨rfl, rfl⟩
  · cases a with
    | tup xs =>
      cases b with
      | tup ys =>
        have e : ltDs xs ys = some (ltI (tok (.tup xs)) (tok (.tup ys))) := by simpa [ltD] using e
        have dA : isDs xs = true := dA
        have dB : isDs ys = true := dB
        rw [toD_tup (hasM_of_D dA)] at ra
        rw [toD_tup (hasM_of_D dB)] at rb
        revert ra rb
        generalize p.1 = u
        generalize q.1 = v
        intro ra rb
        cases ra with
        | @tuple l o vs n _ as₁ h1 h2 h3 h4 =>
          cases rb with
          | @tuple l' o' vs' n' _ bs₁ k1 k2 k3 k4 =>
            refine PySem.W.kat_lt h1 h3 k1 k3 ?_
            have e1 : vs.size = xs.length := by rw [← Array.length_toList, ReadsAll.length _ _ _ h4, toDs_len]
            have e2 : vs'.size = ys.length := by rw [← Array.length_toList, ReadsAll.length _ _ _ k4, toDs_len]
            rw [e1, e2]
            simp only [dep] at hdep
            refine kat_D xs ys _ 0 vs.toList vs'.toList _ _ dA dB e h4 k4 (by omega) (fun z _ x r ex => ?_) ⟨rfl, rfl⟩
            have := hf2 z _ ha
            rw [ex] at this
            exact this
      | _ => exact absurd rfl (hf _ hb)
    | _ => exact absurd rfl (hf _ ha)
theorem typ_int {M : Model} {h : Heap} {u : Value} {a : W} (d : DW h u a) (k : topK a = 1) : PySem.W.Looks M h (typeOf u) (.type "int") := by
  obtain ⟨_, as, r⟩ := d
  cases a with
  | int i => cases r; exact PySem.W.Looks.now
  | _ => simp [topK] at k
theorem typ_str {M : Model} {h : Heap} {u : Value} {a : W} (d : DW h u a) (k : topK a = 2) : PySem.W.Looks M h (typeOf u) (.type "str") := by
  obtain ⟨_, as, r⟩ := d
  cases a with
  | str i => cases r; exact PySem.W.Looks.now
  | _ => simp [topK] at k
theorem typ_tup {M : Model} {h : Heap} {u : Value} {a : W} (d : DW h u a) (k : topK a = 3) : PySem.W.Looks M h (typeOf u) (.type "tuple") := by
  obtain ⟨d, as, r⟩ := d
  cases a with
  | tup xs =>
    rw [toD_tup (hasM_of_D d)] at r
    cases r with
    | @tuple l o vs n _ as₁ h1 h2 h3 h4 => exact fun A Q E s k q => wpAny_typeOf_ref (k _ _ h1) (by rw [h2]; exact q)
  | _ => simp [topK] at k
/-- the first items -/
theorem firsts_D {h : Heap} {k : Nat} (hk : k ≠ 0) : ∀ {its : List Value} {ws : List W}, DWs h its ws → (∀ w ∈ ws, firstK w = k) → ∃ fs, PySem.W.KatTups h its fs ∧ fs.length = its.length ∧ ∀ f ∈ fs, ∃ x, DW h f x ∧ topK x = k
  | [], [], _, _ => ⟨[], trivial, rfl, by simp⟩
  | u :: us, w :: ws, D, hw => by
    obtain ⟨fs, h1, h2, h3⟩ := firsts_D hk D.2 fun z hz => hw z (List.mem_cons_of_mem _ hz)
    have hf := hw w List.mem_cons_self
    obtain ⟨d, as, r⟩ := D.1
    cases w with
    | tup xs =>
      cases xs with
      | nil => exact absurd hf.symm hk
      | cons x xs =>
        have d : isDs (x :: xs) = true := d
        rw [toD_tup (hasM_of_D d)] at r
        rw [isDs, Bool.and_eq_true] at d
        cases r with
        | @tuple l o vs n _ as₁ g1 g2 g3 g4 =>
          obtain ⟨vl⟩ := vs
          cases g4 with
          | @cons v0 vr _ _ a1 a2 r1 r2 =>
            refine ⟨v0 :: fs, .cons g1 g2 g3 (by simp) h1, by simp [h2], fun f hm => ?_⟩
            rcases List.mem_cons.mp hm with rfl | hm
            · exact ⟨x, ⟨d.1, _, r1⟩, hf⟩
            · exact h3 f hm
    | _ => exact absurd hf.symm hk
  | [], _ :: _, D, _ => D.elim
  | _ :: _, [], D, _ => D.elim
theorem all_of {f : W → Nat} {k : Nat} {ws : List W} (h : allK f k ws = true) : ∀ w ∈ ws, f w = k := fun w hw => by
  have := List.all_eq_true.mp h w hw
  simpa using this
theorem sortable_D {h : Heap} {s : Shared} {a : Addr} {its : List Value} {ws : List W} (D : DWs h its ws) (h2 : 2 ≤ its.length) (hh : homog ws = true) (hc : cmpAll ws = true) (hu : A.units + 58 < cLine)
    (hk : ∀ b o, h.get? b = some o → b ≠ a ∧ s.heap.get? b = some o) : SrtO.SortableO prog w A s a its (ltv h) := by
  intro h' keep
  have hk' : ∀ b o, h.get? b = some o → h'.get? b = some o := fun b o e => keep b o (hk b o e).1 (hk b o e).2
  have D' := D.keeps hk'
  have one : ∀ (T : Value) (k : Nat), k = 1 ∨ k = 2 → (T != Value.type "tuple") = true → (T == T) = true → (∀ {u : Value} {a : W}, DW h' u a → topK a = k → PySem.W.Looks (model prog w) h' (typeOf u) T) → (∀ w ∈ ws, topK w = k) → ∃ κ,
      (∀ (Q : PyProof.Rows.SortKind → Shared → Prop) (E : Value → Shared → Prop), Q κ { s with heap := h' } → wpAny (model prog w) A (keyKind' its.toArray) Q E { s with heap := h' }) ∧
      SrtO.Cmp prog w A { s with heap := h' } κ (fun p => p.1 ∈ its) (SrtO.lt2 (ltv h)) := by
    intro T k k12 t1 t2 ty hw
    refine ⟨oneType', fun Q E q => PySem.W.kas_kind h2 (fun v hv => ?_) t1 t2 q, cmp_D (s := { s with heap := h' }) hk' D hc hu (.inl ⟨rfl, fun w hm => by rw [hw w hm]; exact k12⟩)⟩
    obtain ⟨a, ha, da⟩ := D'.mem hv
    exact ty da (hw a ha)
  have two : ∀ (T : Value) (k : Nat), k ≠ 0 → (T == T) = true → ((T != Value.type "tuple") = true → k = 1 ∨ k = 2) → (∀ {u : Value} {a : W}, DW h' u a → topK a = k → PySem.W.Looks (model prog w) h' (typeOf u) T) → (∀ w ∈ ws, firstK w = k) → ∃ κ,
      (∀ (Q : PyProof.Rows.SortKind → Shared → Prop) (E : Value → Shared → Prop), Q κ { s with heap := h' } → wpAny (model prog w) A (keyKind' its.toArray) Q E { s with heap := h' }) ∧
      SrtO.Cmp prog w A { s with heap := h' } κ (fun p => p.1 ∈ its) (SrtO.lt2 (ltv h)) := by
    intro T k k0 t2 k12 ty hw
    obtain ⟨fs, f1, f2, f3⟩ := firsts_D k0 D' hw
    refine ⟨tuples' (T != Value.type "tuple"), fun Q E q => PySem.W.kat_kind f1 (by omega) (fun v hv => ?_) t2 q, cmp_D (s := { s with heap := h' }) hk' D hc hu (.inr ⟨_, rfl, fun w hm => by rw [hw w hm]; exact k0, fun z w hm => by rw [hw w hm]; exact k12 z⟩)⟩
    obtain ⟨x, dx, hx⟩ := f3 v hv
    exact ty dx hx
  unfold homog at hh
  simp only [Bool.or_eq_true] at hh
  rcases hh with (hh | hh) | (hh | hh) | hh
  · exact one (.type "int") 1 (.inl rfl) (by decide +kernel) (by rfl) typ_int (all_of hh)
  · exact one (.type "str") 2 (.inr rfl) (by decide +kernel) (by rfl) typ_str (all_of hh)
  · exact two (.type "int") 1 (by decide) (by rfl) (fun _ => .inl rfl) typ_int (all_of hh)
  · exact two (.type "str") 2 (by decide) (by rfl) (fun _ => .inr rfl) typ_str (all_of hh)
  · exact two (.type "tuple") 3 (by decide) (by rfl) (fun z => absurd z (by decide +kernel)) typ_tup (all_of hh)
end
section
variable {C : Rc} {E : XK} {X : Cx}
theorem Vals_DWs {pins : List (Addr × Obj)} {σ : L2.St} {H : Hp} {s : Shared} {r : List Addr} (hK : C.K = X.K) (I : Inv X pins σ H s) : ∀ {ws : List W} {vs : List V} {its : List Value}, (∀ w ∈ ws, isD w = true) → RepWs C H r ws vs → Vals vs its → DWs s.heap its ws ∧ ∀ u ∈ its, ∃ v, RelV v u ∧ RepW C H r (dW s.heap u) v
  | [], vs, its, _, q, rv => by
    obtain rfl := (show vs = [] from q)
    cases rv
    exact ⟨trivial, by simp⟩
  | w :: ws, vs, its, hd, q, rv => by
    obtain ⟨v, vr, rfl, p, q⟩ := q
    cases rv with
    | cons r1 r2 =>
      obtain ⟨h1, h2⟩ := Vals_DWs hK I (fun z hz => hd z (List.mem_cons_of_mem _ hz)) q r2
      have d := RepW.dp _ _ (hd w List.mem_cons_self) p
      rw [hK] at d
      obtain ⟨as, ra⟩ := Dp.reads I _ _ _ d r1
      have dw : DW s.heap _ w := ⟨hd w List.mem_cons_self, as, ra⟩
      refine ⟨⟨dw, h1⟩, fun u hu => ?_⟩
      rcases List.mem_cons.mp hu with rfl | hu
      · exact ⟨v, r1, by rw [dW_eq dw]; exact p⟩
      · exact h2 u hu
theorem out_vals {H : Hp} {r : List Addr} {f : Value → W} : ∀ {out : List Value}, (∀ u ∈ out, ∃ v, RelV v u ∧ RepW C H r (f u) v) → ∃ vs, Vals vs out ∧ RepWs C H r (out.map f) vs
  | [], _ => ⟨[], .nil, rfl⟩
  | u :: out, h => by
    obtain ⟨v, h1, h2⟩ := h u List.mem_cons_self
    obtain ⟨vs, h3, h4⟩ := out_vals fun z hz => h z (List.mem_cons_of_mem _ hz)
    exact ⟨v :: vs, .cons h1 h3, v, vs, rfl, h2, h4⟩
def rSort2 (C : Rc) (K : PySem.W.Frag) : List V → Hp → VK → Prop := fun xs H Q => ∃ a vs r M ws R, xs = [V.ref a] ∧ SqL K H a vs ∧ RepM C H r M ∧ RepWs C H r ws vs ∧ sortW ws = some R ∧ ∀ p vs', H p = none → RepWs C H r R vs' → Q (.ref p) (upd H p (.lst vs'))
theorem c_sorted (hK : C.K = X.K) (hu : X.A.units + 64 < cLine) : CallR X (.builtin "sorted") (rSort2 C X.K) := by
  intro pins s σ H xs us Q I rv ⟨a, vs, r, M, ws, R, e, sq, m, q, hs, hq⟩
  subst e
  obtain ⟨its, rv2, hl, hz⟩ := I.list sq
  obtain ⟨u, rfl, ru⟩ := vals1 rv
  obtain rfl : u = Value.ref a := ru
  unfold sortW at hs
  split at hs
  · rename_i hc
    rw [Bool.and_eq_true, Bool.and_eq_true] at hc
    obtain ⟨⟨hh, hc⟩, hmany⟩ := hc
    cases hs
    have hd : ∀ w ∈ ws, isD w = true := fun w hw => by
      have := List.all_eq_true.mp hc w hw
      rw [Bool.and_eq_true, Bool.and_eq_true] at this
      exact this.1.1
    have hc2 : ∀ a ∈ ws, ∀ b ∈ ws, cmp2 a b = true := fun a ha b hb => by
      have := List.all_eq_true.mp hc a ha
      rw [Bool.and_eq_true, Bool.and_eq_true] at this
      exact List.all_eq_true.mp this.2 b hb
    obtain ⟨D, hv⟩ := Vals_DWs hK I hd q rv2
    refine SrtO.sorted_ord (swo_v s.heap) hl.isList (by rw [← rv2.length]; exact hz) (fun h2 h₁ c hc' kk => ?_) fun out h1 h2 => ?_
    · exact sortable_D (s := { s with heap := h₁ }) D h2 hh hc (by show X.A.units + 1 + 1 + 58 < cLine; omega) kk
    · have hp : out.Perm its := h2.perm
      have e : out.map (dW s.heap) = srt ws := by
        refine srt_uniq hc2 ?_ ?_
        · rw [← D.map]
          exact hp.map _
        · rw [List.pairwise_map]
          exact h1
      obtain ⟨vs', g1, g2⟩ := out_vals (C := C) (H := H) (r := r) (f := dW s.heap) (out := out) fun u hu => hv u (hp.mem_iff.mp hu)
      rw [e] at g2
      obtain ⟨ep, he'⟩ := sortedAll_at s.heap its out.toArray
      have hlen : vs'.length ≤ sizeLine := by
        rw [g1.length, hp.length_eq, ← rv2.length]
        exact hz
      exact ⟨.ref _, upd H (s.heap.objs.size + 1) (.lst vs'), I.laid (t' := s.toks) (fun _ _ => sortedAll_old) (Nat.le_succ _) ⟨hlen, out, ep, g1, he'⟩, rfl, hq _ _ (I.hok.fresh (Nat.le_succ _)) g2⟩
  · cases hs
/-- a list that may be read -/
def Kq (C : Rc) (Q : VK) : KT (List W) := fun r H ws M => ∀ p vs H' r', Mono r r' H H' → RepM C H' r' M → RepWs C H' r' ws vs → SqL C.K H' p vs → Q (.ref p) H'
def tL (C : Rc) (E : XK) (m : LM) : TE := fun σ H Q => ∃ s M r, RepS C H r s σ ∧ RepM C H r M ∧ PG C E r H (m s M) (Kq C Q r H)
theorem Kq_cl {Q : VK} : Cl C (Kq C Q) := fun r r' H H' M' a M x m h p vs H2 r2 y m2 q hp => h p vs H2 r2 (x.trans m y) m2 q hp
theorem i_qF {e : Expr} {l : LM} (h : PE X e (tF C E l)) : PE X e (tL C E l) :=
  PE.imp h fun _ _ _ ⟨s, M, r, hs, hm, p⟩ => ⟨s, M, r, hs, hm, p.imp fun ws M1 e k a vs H1 r1 x1 m1 q1 ha hn h0 _ => k a vs H1 r1 x1 m1 q1 (.inl (.inl ha))⟩
theorem i_qOf {e : Expr} {m : EM} (h : PE X e (tE C E m)) : PE X e (tL C E (lstOf m)) :=
  PE.imp h fun _ _ _ ⟨_, _, _, hs, hm, p⟩ => tE_on Kq_cl hs hm p fun v H1 r1 M1 w x1 m1 q1 s1 p1 => by
    split at p1
    · exact p1.elim
    · rename_i nt
      cases e : items w M1 with
      | none => rw [e] at p1; exact p1.elim
      | some ws =>
        rw [e] at p1
        cases w with
        | tup ws => exact absurd rfl (nt _)
        | ref j =>
          unfold items at e
          dsimp only at e
          split at e
          · rename_i us hj
            cases e
            obtain ⟨a, vs, e, ha, h1, q⟩ := lst_at m1 q1 hj
            subst e
            exact p1 a vs H1 r1 (Mono.refl _ _) m1 q (.inl (.inl h1))
          · cases e
        | scr ns =>
          cases e
          obtain ⟨a, e, hl, hs⟩ := q1
          subst e
          exact p1 a _ H1 r1 (Mono.refl _ _) m1 (scr_reps ns) hs.seq
        | _ => cases e
theorem tL_on {β : Type} {m : LM} {f : List W → Mem → Out β} {K : KT β} {Q : VK} {σ : L2.St} {s : Sl} {H : Hp} {r : List Addr} {M : Mem} (cl : Cl C K) (hs : RepS C H r s σ) (hm : RepM C H r M) (h : PG C E r H (bnd (m s M) f) (K r H))
    (k : ∀ p vs H1 r1 M1 ws, Mono r r1 H H1 → RepM C H1 r1 M1 → RepWs C H1 r1 ws vs → SqL C.K H1 p vs → RepS C H1 r1 s σ → PG C E r1 H1 (f ws M1) (K r1 H1) → Q (.ref p) H1) : tL C E m σ H Q :=
  ⟨s, M, r, hs, hm, (h.fst cl).imp fun a M1 _ q p v H1 r1 x m1 y h1 => k p v H1 r1 M1 a x m1 y h1 (hs.go x hm) (q r1 H1 x m1)⟩
theorem i_sorted {x : Expr} {l : LM} {p pos : Pos} (hK : C.K = X.K) (hu : X.A.units + 64 < cLine) (hg : Gl X "sorted") (hm : X.mg "sorted" = none) (hv : bootBuiltins "sorted" = some (.builtin "sorted")) (h : PE X x (tL C E l)) (na : starEach [x] X.env = (false, eval x X.env) :: starEach [] X.env := by rfl) :
    PE X (.Call (.Name "sorted" p) [x] [] pos) (tF C E (lSorted l)) :=
  PE.imp (pe_callB (c_sorted hK hu) hg hm hv (pa_cons h pa_nil na) (he := na) (hpl := rfl)) fun σ H Q ⟨s, M, r, hs, hm, p⟩ => by
    have p2 := p.fst Kf_cl
    refine ⟨s, M, r, hs, hm, ?_⟩
    revert p2
    cases e : l s M with
    | none => intro p2; exact p2
    | some o =>
      obtain ⟨o, M1⟩ := o
      cases o with
      | error x => intro p2; exact p2
      | ok ws =>
        have p : PG C E r H (bnd (l s M) fun ws M => match sortW ws with
          | some r => ok r M
          | none => none) (Kf C Q r H) := p
        rw [e] at p
        have p : PG C E r H (match sortW ws with
          | some r => ok r M1
          | none => none) (Kf C Q r H) := p
        intro _
        intro a vs H1 r1 x1 m1 q1 sq
        cases eR : sortW ws with
        | none => rw [eR] at p; exact p.elim
        | some R =>
          rw [eR] at p
          rw [hK] at sq
          refine ⟨a, vs, r1, M1, ws, R, rfl, sq, m1, q1, eR, fun b vs' hb q' => ?_⟩
          refine p b vs' (upd H1 b (.lst vs')) r1 (x1.trans m1 (Mono.temp hb)) (m1.temp hb) (RepWs.go (Mono.temp hb) m1 _ _ q') upd_same (m1.new hb) (x1.none_back m1 hb) ?_
          unfold sortW at eR
          split at eR
          · rename_i hc
            rw [Bool.and_eq_true] at hc
            cases eR
            rw [(srt_perm ws).length_eq]
            exact of_decide_eq_true hc.2
          · cases eR
end
end Sw

set_option autoImplicit false
set_option Elab.async false
set_option linter.all false
set_option maxRecDepth 100000
/-! repr of tuples of data; its text tells the data. -/
namespace Sw
open PySem PySem.Spec L2
def rep (w : W) : Tx := (PyData.shown (toD w)).cps.toList
def uRepr : Op1 := fun x M => match x with
  | .tup ws => if isDs ws && decide (dep x ≤ 58) && PyData.showable (toD x) && many (rep x).length then ok (.str (rep x)) M else none
  | _ => none
mutual
theorem noDict : ∀ w : W, PyData.hasDict (toD w) = false
  | .non => rfl
  | .bl _ => rfl
  | .int _ => rfl
  | .str _ => rfl
  | .tup ws => by
    have h := noDicts ws
    unfold toD
    split
    · show PyData.hasDictAll (toDs ws).tail = false
      cases ws with
      | nil => rfl
      | cons w ws =>
        simp only [toDs, PyData.hasDictAll, Bool.or_eq_false_iff] at h
        exact h.2
    · exact h
  | .ref _ => rfl
  | .scr _ => rfl
theorem noDicts : ∀ ws : List W, PyData.hasDictAll (toDs ws) = false
  | [] => rfl
  | w :: ws => by
    simp only [toDs, PyData.hasDictAll, Bool.or_eq_false_iff]
    exact ⟨noDict w, noDicts ws⟩
end
section
variable {C : Rc} {E : XK} {X : Cx}
theorem c_repr (hK : C.K = X.K) (hu : X.A.units + 64 < cLine) (hg : X.A.guards = some []) : CallR X (.builtin "repr") (fun xs H Q => ∃ a, xs = [a] ∧ r1 C E uRepr a H Q) := by
  intro pins s σ H xs us Q I rv ⟨a, e, r, M, w, m, q, p⟩
  subst e
  obtain ⟨u, rfl, ru⟩ := vals1 rv
  cases w with
  | tup ws =>
    unfold uRepr at p
    dsimp only at p
    split at p
    · rename_i hc
      simp only [Bool.and_eq_true] at hc
      obtain ⟨⟨⟨hd, hdep⟩, hs⟩, hl⟩ := hc
      have hdep := of_decide_eq_true hdep
      have hl := of_decide_eq_true hl
      have dp := RepW.dp (.tup ws) a hd q
      rw [hK] at dp
      obtain ⟨as, ra⟩ := Dp.reads I _ _ _ dp ru
      obtain ⟨b, vs, ea, _, _⟩ := q
      subst ea
      obtain rfl : u = Value.ref b := ru
      have hz : (PyData.shown (toD (.tup ws))).length ≤ sizeLine := by
        have e : (PyData.shown (toD (.tup ws))).length = (rep (.tup ws)).length := (Array.length_toList (xs := (PyData.shown (toD (.tup ws))).cps)).symm
        rw [e]
        exact Nat.le_trans hl (by decide)
      refine repr_of_reads' ra hs (fun z => by rw [noDict] at z; cases z) hg ?_ (fun _ _ e => e) (fun h' t tk hk => ?_) hz
      · have := toD_depth (.tup ws)
        omega
      · exact ⟨.str (tx (rep (.tup ws))), H, I.kept (t' := tk) hk, ⟨t, by rw [show tx (rep (.tup ws)) = PyData.shown (toD (.tup ws)) from tx_cps _]⟩, p _ H r (Mono.refl _ _) m rfl⟩
    · exact p.elim
  | _ => exact p.elim
theorem i_repr {e : Expr} {m : EM} {p pos : Pos} (hK : C.K = X.K) (hu : X.A.units + 64 < cLine) (gd : X.A.guards = some []) (hg : Gl X "repr") (hm : X.mg "repr" = none) (hv : bootBuiltins "repr" = some (.builtin "repr")) (ha : PE X e (tE C E m))
    (hs : starEach [e] X.env = (false, eval e X.env) :: starEach [] X.env := by rfl) : PE X (.Call (.Name "repr" p) [e] [] pos) (tE C E (eUn uRepr m)) :=
  i_c1 (id := "repr") rfl (c_repr hK hu gd) hg hm hv ha (hs := hs)
end
end Sw

set_option autoImplicit false
set_option Elab.async false
set_option linter.all false
set_option maxRecDepth 100000
/-! Dicts locked while they are walked. -/
namespace Sw
open PySem PySem.Spec L2
section
variable {C : Rc} {E : XK} {X : Cx}
/-! ### a place that is no tuple, no script is changed -/
structure Oth (H : Hp) (d : Addr) : Prop where
  n1 : ∀ xs, H d ≠ some (.tup xs)
  n2 : ∀ b xs, H d ≠ some (.frz b (.tup xs))
  n3 : ∀ b xs, H d ≠ some (.frz b (.lst xs))
  n4 : ∀ fs, H d ≠ some (.xd fs)
mutual
theorem RepW.chg {H : Hp} {r : List Addr} {d : Addr} {u : HO} (h : Oth H d) : ∀ (w : W) (v : V), RepW C H r w v → RepW C (upd H d u) r w v
  | .non, v, q => q
  | .bl _, v, q => q
  | .int _, v, q => q
  | .str _, v, q => q
  | .tup ws, v, q => by
    obtain ⟨a, vs, e, s, q⟩ := q
    refine ⟨a, vs, e, ?_, RepWs.chg h ws vs q⟩
    rcases s with (s | ⟨o, s⟩) | s
    · exact .inl (.inl (by rw [upd_ne fun e => h.n1 _ (e ▸ s)]; exact s))
    · exact .inl (.inr ⟨o, by rw [upd_ne fun e => h.n2 _ _ (e ▸ s)]; exact s⟩)
    · exact .inr s
  | .ref n, v, q => q
  | .scr ns, v, q => by
    obtain ⟨a, e, l, s⟩ := q
    refine ⟨a, e, l, ?_⟩
    rcases s with ⟨o, s⟩ | s
    · exact .inl ⟨o, by rw [upd_ne fun e => h.n3 _ _ (e ▸ s)]; exact s⟩
    · exact .inr s
theorem RepWs.chg {H : Hp} {r : List Addr} {d : Addr} {u : HO} (h : Oth H d) : ∀ (ws : List W) (vs : List V), RepWs C H r ws vs → RepWs C (upd H d u) r ws vs
  | [], vs, q => q
  | w :: ws, vs, q => by
    obtain ⟨v, vr, e, p, q⟩ := q
    exact ⟨v, vr, e, RepW.chg h w v p, RepWs.chg h ws vr q⟩
end
theorem PrA.chg {H : Hp} {r : List Addr} {d : Addr} {u : HO} (h : Oth H d) {kvs : List (W × W)} {xs : List (Key × V)} (q : PrA C H r kvs xs) : PrA C (upd H d u) r kvs xs := Paired.mapP q fun p y ⟨a, b⟩ => ⟨a, RepW.chg h _ _ b⟩
theorem PrT.chg {H : Hp} {r : List Addr} {d : Addr} {u : HO} (h : Oth H d) {kvs : List (W × W)} {xs : List (NestedKey × Addr × Value)} (q : PrT C H r kvs xs) : PrT C (upd H d u) r kvs xs := Paired.mapP q fun p y ⟨a, b, v, c, e⟩ => ⟨a, RepW.chg h _ _ b, v, RepW.chg h _ _ c, e⟩
theorem DicAt.chg {H : Hp} {r : List Addr} {d : Addr} {u : HO} (h : Oth H d) {lk : Bool} {kvs : List (W × W)} {a : Addr} (ne : a ≠ d) (q : DicAt C H r lk kvs a) : DicAt C (upd H d u) r lk kvs a := by
  have eq := upd_ne (H := H) (o := u) ne
  refine DicAt.mk q.few q.nd q.key ?_
  rcases q.obj with ⟨n, xs, e, z⟩ | ⟨n, n2, xs, e, z⟩
  · exact .inl ⟨n, xs, e.eq eq, z.chg h⟩
  · exact .inr ⟨n, n2, xs, e.eq eq, z.chg h⟩
theorem RepO.chg {H : Hp} {r : List Addr} {d : Addr} {u : HO} (h : Oth H d) {o : O} {a : Addr} (ne : a ≠ d) (q : RepO C H r o a) : RepO C (upd H d u) r o a := by
  have eq := upd_ne (H := H) (o := u) ne
  cases o with
  | lst ws => obtain ⟨vs, e, z⟩ := q; exact ⟨vs, eq.trans e, RepWs.chg h _ _ z⟩
  | dic kvs => exact DicAt.chg h ne q
  | dlk kvs => exact DicAt.chg h ne q
  | ins c fs => obtain ⟨dx, vs, e, z⟩ := q; exact ⟨dx, vs, eq.trans e, RepWs.chg h _ _ z⟩
  | exc c w => obtain ⟨e0, e, z⟩ := q; exact ⟨e0, eq.trans e, z.imp id fun ⟨n, b, f, v, y0, ew, e2, e3, z⟩ => ⟨n, b, f, v, y0, ew, e2, by rw [upd_ne fun y => h.n4 _ (y ▸ e3)]; exact e3, RepW.chg h _ _ z⟩⟩
theorem RepS.chg {H : Hp} {r : List Addr} {s : Sl} {σ : L2.St} {d : Addr} {u : HO} (h : Oth H d) (q : RepS C H r s σ) : RepS C (upd H d u) r s σ :=
  ⟨q.1, fun i w e => let ⟨v, e', p⟩ := q.2 i w e; ⟨v, e', RepW.chg h w v p⟩⟩
/-- the object at a place of the store is changed, whatever it was -/
theorem RepM.chg {H : Hp} {r : List Addr} {M : Mem} {d : Addr} {u : HO} {j : Nat} {o : O} (h : Oth H d) (hj : r[j]? = some d) (m : RepM C H r M) (q : RepO C (upd H d u) r o d) : RepM C (upd H d u) r (M.set j o) := by
  refine ⟨by simp [m.len], fun i a o' h1 h2 => ?_, m.nd⟩
  have hi : j < r.length := (List.getElem?_eq_some_iff.mp hj).1
  by_cases hij : j = i
  · subst hij
    rw [hj] at h1
    cases h1
    rw [List.getElem?_set_self (by rw [← m.len]; exact hi)] at h2
    cases h2
    exact q
  · rw [List.getElem?_set_ne hij] at h2
    refine RepO.chg h (fun e => hij ?_) (m.obj i a o' h1 h2)
    subst e
    exact (List.getElem?_inj hi m.nd).mp (hj.trans h1.symm)
/-- the lock of a dict -/
theorem lock_in {H : Hp} {r : List Addr} {M : Mem} {s : Sl} {σ : L2.St} {j : Nat} {kvs : List (W × W)} (hs : RepS C H r s σ) (m : RepM C H r M) (hj : M[j]? = some (.dic kvs)) : ∃ d u, r[j]? = some d ∧ H d = some u ∧ Mut (some u) ∧ frzH u = false ∧ (∀ od, Oth (upd H d (.frz od u)) d) ∧
    ∀ od, RepS C (upd H d (.frz od u)) r s σ ∧ RepM C (upd H d (.frz od u)) r (M.set j (.dlk kvs)) := by
  have hl : j < r.length := by rw [m.len]; exact (List.getElem?_eq_some_iff.mp hj).1
  have hr : r[j]? = some r[j] := List.getElem?_eq_getElem hl
  have d : DicAt C H r false kvs r[j] := m.obj j _ _ hr hj
  rcases d.obj with ⟨n, xs, e, z⟩ | ⟨n, n2, xs, e, z⟩
  · have e : H r[j] = some (.dK xs) := e
    have o : Oth H r[j] := ⟨(fun _ z => by rw [e] at z; cases z), (fun _ _ z => by rw [e] at z; cases z), (fun _ _ z => by rw [e] at z; cases z), (fun _ z => by rw [e] at z; cases z)⟩
    refine ⟨r[j], _, hr, e, True.intro, rfl, fun od => ⟨fun _ z => ?_, fun _ _ z => ?_, fun _ _ z => ?_, fun _ z => ?_⟩, fun od => ⟨hs.chg o, m.chg o hr ?_⟩⟩
    · rw [upd_same] at z; cases z
    · rw [upd_same] at z; cases z
    · rw [upd_same] at z; cases z
    · rw [upd_same] at z; cases z
    · exact DicAt.mk d.few d.nd d.key (.inl ⟨n, xs, ⟨od, upd_same⟩, z.chg o⟩)
  · have e : H r[j] = some (.ext (RawT C r[j] xs)) := e
    have o : Oth H r[j] := ⟨(fun _ z => by rw [e] at z; cases z), (fun _ _ z => by rw [e] at z; cases z), (fun _ _ z => by rw [e] at z; cases z), (fun _ z => by rw [e] at z; cases z)⟩
    refine ⟨r[j], _, hr, e, True.intro, rfl, fun od => ⟨fun _ z => ?_, fun _ _ z => ?_, fun _ _ z => ?_, fun _ z => ?_⟩, fun od => ⟨hs.chg o, m.chg o hr ?_⟩⟩
    · rw [upd_same] at z; cases z
    · rw [upd_same] at z; cases z
    · rw [upd_same] at z; cases z
    · rw [upd_same] at z; cases z
    · exact DicAt.mk d.few d.nd d.key (.inr ⟨n, n2, xs, ⟨od, upd_same⟩, z.chg o⟩)
/-- .. and what is behind it -/
theorem lock_out {H H' : Hp} {r r' : List Addr} {M M' : Mem} {j : Nat} {kvs : List (W × W)} {d : Addr} {u : HO} {od : Obj} (m : RepM C H r M) (hj : M[j]? = some (.dic kvs)) (hr : r[j]? = some d) (hu : H d = some u) (nu : frzH u = false)
    (x : Mono r r' (upd H d (.frz od u)) H') (m' : RepM C H' r' M') (hM : M'[j]? = some (.dlk kvs)) :
    H' d = some (.frz od u) ∧ Oth H' d ∧ Mono r r' H (upd H' d u) ∧ RepM C (upd H' d u) r' (M'.set j (.dic kvs)) := by
  have e1 : H' d = some (.frz od u) := x.keep d _ upd_same (.inr rfl)
  have hr' := x.ix hr
  have d0 : DicAt C H r false kvs d := m.obj j d _ hr hj
  have d1 : DicAt C H' r' true kvs d := m'.obj j d _ hr' hM
  have nt : (∀ xs, u ≠ .tup xs) ∧ ∀ xs, u ≠ .lst xs := by
    rcases d0.obj with ⟨n, xs, e, z⟩ | ⟨n, n2, xs, e, z⟩
    · cases hu.symm.trans (show H d = some (.dK xs) from e); exact ⟨(fun _ z => nomatch z), (fun _ z => nomatch z)⟩
    · cases hu.symm.trans (show H d = some (.ext (RawT C d xs)) from e); exact ⟨(fun _ z => nomatch z), (fun _ z => nomatch z)⟩
  have nt0 : ∀ xs, H' d ≠ some (.tup xs) := fun xs z => by rw [e1] at z; cases z
  have nt1 : ∀ b xs, H' d ≠ some (.frz b (.tup xs)) := fun b xs z => by
    rw [e1] at z
    cases z
    exact nt.1 _ rfl
  have nt2 : ∀ b xs, H' d ≠ some (.frz b (.lst xs)) := fun b xs z => by
    rw [e1] at z
    cases z
    exact nt.2 _ rfl
  have o : Oth H' d := ⟨(fun _ z => nt0 _ z), (fun _ _ z => nt1 _ _ z), (fun _ _ z => nt2 _ _ z), (fun _ z => by rw [e1] at z; cases z)⟩
  refine ⟨e1, o, ⟨?_, fun a q h hq => ?_⟩, m'.chg o hr' ?_⟩
  · obtain ⟨t, et, ht⟩ := x.pre
    refine ⟨t, et, fun a ha => ?_⟩
    have h := ht a ha
    rw [upd_ne fun z => by rw [z, upd_same] at h; cases h] at h
    exact h
  · by_cases hd : a = d
    · subst hd
      rcases hq with hq | hq
      · exact absurd (List.mem_of_getElem? hr) hq
      · rw [hu] at h
        cases h
        rw [nu] at hq
        cases hq
    · rw [upd_ne hd]
      exact x.keep a q (by rw [upd_ne hd]; exact h) hq
  · refine DicAt.mk d1.few d1.nd d1.key ?_
    rcases d1.obj with ⟨n, xs, ⟨o1, e⟩, z⟩ | ⟨n, n2, xs, ⟨o1, e⟩, z⟩
    · rw [e1] at e
      cases e
      exact .inl ⟨n, xs, upd_same, z.chg o⟩
    · rw [e1] at e
      cases e
      exact .inr ⟨n, n2, xs, upd_same, z.chg o⟩
theorem lockAt_some {md : EM} {s : Sl} {M : Mem} {j : Nat} {kvs : List (W × W)} (h : lockAt md s M = some (j, kvs)) : M[j]? = some (.dic kvs) := by
  unfold lockAt at h
  split at h
  · split at h
    · split at h
      · rename_i hj
        cases h
        exact hj
      · cases h
    · cases h
  · cases h
theorem PElock.both {e : Expr} {t1 t2 t : TE} (h1 : PE X e t1) (h2 : PE X e t2) (h : ∀ σ H Q, t σ H Q → t1 σ H Q ∨ t2 σ H Q) : PE X e t :=
  ⟨fun pins s σ H Q I q => (h σ H Q q).elim (h1.run pins s σ H Q I) (h2.run pins s σ H Q I)⟩
/-- a comprehension over a dict -/
theorem i_lockF {e : Expr} {md : EM} {l : LM} (h : PE X e (tF C E l)) : PE X e (tF C E (lLock md l)) :=
  PElock.both (pe_lock h) h fun σ H Q ⟨s, M, r, hs, hm, p⟩ => by
    cases eL : lockAt md s M with
    | none =>
      refine .inr ⟨s, M, r, hs, hm, ?_⟩
      unfold lLock at p
      rw [eL] at p
      exact p
    | some q =>
      obtain ⟨j, kvs⟩ := q
      left
      unfold lLock at p
      rw [eL] at p
      dsimp only at p
      have hj := lockAt_some eL
      obtain ⟨d, u, hr, hu, mu, nu, ho, hin⟩ := lock_in hs hm hj
      refine ⟨d, u, hu, mu, fun od => ?_⟩
      obtain ⟨s1, m1⟩ := hin od
      refine ⟨s, M.set j (.dlk kvs), r, s1, m1, ?_⟩
      split at p
      · rename_i R M' eb
        rw [eb]
        split at p
        · rename_i hM
          have p : Kf C Q r H R (M'.set j (.dic kvs)) := p
          intro a vs H' r' x' m' q' ha hn h0 hl
          obtain ⟨e1, o, y1, y2⟩ := lock_out hm hj hr hu nu x' m' hM
          have hne : a ≠ d := fun z => by rw [z, upd_same] at h0; cases h0
          refine ⟨e1, p a vs _ r' y1 y2 (RepWs.chg o _ _ q') (by rw [upd_ne hne]; exact ha) hn (by rw [upd_ne hne] at h0; exact h0) hl⟩
        · exact p.elim
      · exact p.elim
/-- for .. over a dict -/
theorem i_lockS {st : Stmt} {md : EM} {b : SM} (h : PS X st (tS C E b)) : PS X st (tS C E (lLock md b)) :=
  ⟨fun pins s0 σ H D I ⟨s, M, r, hs, hm, p⟩ => by
    cases eL : lockAt md s M with
    | none =>
      refine h.run pins s0 σ H D I ⟨s, M, r, hs, hm, ?_⟩
      unfold lLock at p
      rw [eL] at p
      exact p
    | some q =>
      obtain ⟨j, kvs⟩ := q
      refine (ps_lock h).run pins s0 σ H D I ?_
      unfold lLock at p
      rw [eL] at p
      dsimp only at p
      have hj := lockAt_some eL
      obtain ⟨d, u, hr, hu, mu, nu, ho, hin⟩ := lock_in hs hm hj
      refine ⟨d, u, hu, mu, fun od => ?_⟩
      obtain ⟨s1, m1⟩ := hin od
      refine ⟨s, M.set j (.dlk kvs), r, s1, m1, ?_⟩
      split at p
      · rename_i R M' eb
        rw [eb]
        split at p
        · rename_i hM
          cases R with
          | nx s' =>
            intro σ' H' r' x' m' q'
            obtain ⟨e1, o, y1, y2⟩ := lock_out hm hj hr hu nu x' m' hM
            exact ⟨e1, p σ' _ r' y1 y2 (RepS.chg o q')⟩
          | rt w =>
            intro v H' r' x' m' q'
            obtain ⟨e1, o, y1, y2⟩ := lock_out hm hj hr hu nu x' m' hM
            exact ⟨e1, p v _ r' y1 y2 (RepW.chg o _ _ q')⟩
        · exact p.elim
      · exact p.elim⟩
/-! ### the keys -/
/-- the raw keys of a locked dict by tuples -/
def Itx (C : Rc) (d : Addr) (o : Obj) (xs : List (NestedKey × Addr × Value)) : L2.It :=
  ⟨fun i H => H d = some (.frz o (.ext (RawT C d xs))) ∧ i < xs.length, fun i H x H' => H' = H ∧ ∃ p, xs[i]? = some p ∧ x = .ref p.2.1, fun i H => H d = some (.frz o (.ext (RawT C d xs))) ∧ xs.length ≤ i⟩
theorem raw_at {P : Program} {w : World} {H : Hp} {h : Heap} {d : Addr} {o : Obj} {xs : List (NestedKey × Addr × Value)} (ok : HOk P w H h) (e : H d = some (.frz o (.ext (RawT C d xs)))) : h.get? d = some o ∧ o.ExactDict ∧ ∃ (es : Array DictEntry) (ep : Nat), o.data = .dict es ep ∧ es.size = xs.length ∧
    ∀ (i : Nat) (p : NestedKey × Addr × Value), xs[i]? = some p → es[i]? = some (⟨p.1.hash C.w, .ref p.2.1, p.2.2⟩ : DictEntry) := by
  obtain ⟨h1, ⟨o', es, ep, h2, h3, h4, h5⟩, _⟩ := ok d _ e
  rw [h1] at h2
  cases h2
  refine ⟨h1, h3, es, ep, h4, by rw [← Array.length_toList, h5, List.length_map], fun i p hp => ?_⟩
  rw [← Array.getElem?_toList, h5, List.getElem?_map, hp]
  rfl
theorem turn_x {P : Program} {w : World} {K : PySem.W.Frag} {tg : Expr} {d : Addr} {o : Obj} {es : Array DictEntry} {ep : Nat} {xs : List (NestedKey × Addr × Value)} (it : Addr) (hod : o.data = .dict es ep) :
    Turn P w K tg (Itx C d o xs) [it] it (fun i h => h.IsKeyIter it d i xs.length ep) where
  mem := by simp
  obj := fun i h st b hb => by
    obtain rfl : b = it := by simpa using hb
    obtain ⟨oi, e, c, dd⟩ := st
    exact ⟨oi, e, fun v z => by rw [dd] at z; cases z⟩
  keep := fun i h h' st k => st.at fun oi e => k it (by simp) oi e
  item := by
    intro Y hP hw hK hc i pins s σ H E I hf st hg
    subst hP hw hK
    obtain ⟨hd, hi⟩ := hg
    obtain ⟨f0, f1, f2, f3, f4, f5⟩ := hf it (by simp)
    obtain ⟨hgd, hx, es', ep', hdt, hsz, ent⟩ := raw_at I.hok hd
    obtain ⟨rfl, rfl⟩ := dict_ep hod hdt
    have hp := List.getElem?_eq_getElem hi
    refine next_key_item st hgd hdt hsz (ent i _ hp) fun h' st' sb => ?_
    have I1 : Inv Y pins σ H { s with heap := h' } := I.turned (t' := s.toks) (fun b ob hb e => (sb.2 b hb).trans e) f0 f1 f3 f4 f5
    obtain ⟨oi, e, c, dd⟩ := id st'
    exact ⟨_, rfl, go_of (s := { s with heap := h' }) e c dd (by decide) ⟨.ref xs[i].2.1, H, I1, rfl, ⟨rfl, _, hp, rfl⟩, st', fun b hb => (hf b hb).1⟩⟩
  done := by
    intro Y hP hw hK hc i pins s σ H E I hf st hg
    subst hP hw hK
    obtain ⟨hd, hi⟩ := hg
    obtain ⟨f0, f1, f2, f3, f4, f5⟩ := hf it (by simp)
    obtain ⟨hgd, hx, es', ep', hdt, hsz, ent⟩ := raw_at I.hok hd
    obtain ⟨rfl, rfl⟩ := dict_ep hod hdt
    exact next_key_end (I.ok.hd hc) st hgd hdt hsz hi fun h' eb => ⟨rfl, I.turned (t' := s.toks) (fun b ob hb e => eb b ob hb e) f0 f1 f3 f4 f5⟩
  self := fun A i s Q E st h => wpAny_pyIter_keyiter st h
theorem Paired.ix {α β : Type} {R : α → β → Prop} : ∀ {l : List α} {m : List β} {i : Nat} {a : α}, Paired R l m → l[i]? = some a → ∃ b, m[i]? = some b ∧ R a b
  | _, _, _, _, .nil, h => by simp at h
  | _, _, 0, _, .cons p _, h => by simp at h; subst h; exact ⟨_, rfl, p⟩
  | _, _, i + 1, _, .cons _ t, h => by
    obtain ⟨b, h1, h2⟩ := Paired.ix (i := i) t (by simpa using h)
    exact ⟨b, by simpa using h1, h2⟩
theorem i_keys {tg e : Expr} {m : EM} (hK : C.K = X.K) (h : PE X e (tE C E m)) : PI X tg e (tI C E (iKeysD m)) := by
  refine ⟨fun pins s σ H R I ⟨s0, M, r, hs, hm, p⟩ => ?_⟩
  have rd : tE C E m σ H (fun x H1 => ∃ d o, x = .ref d ∧ ((∃ xs, H1 d = some (.frz o (.dK xs)) ∧ R (Itk d o xs) H1) ∨ ∃ xs, (d == sysModules) = false ∧ H1 d = some (.frz o (.ext (RawT C d xs))) ∧ R (Itx C d o xs) H1)) :=
    tE_on Ki_cl hs hm p fun v H1 r1 M1 w x1 m1 q1 s1 p1 => by
      cases w with
      | ref j =>
        dsimp only at p1
        split at p1
        · rename_i kvs hj
          obtain ⟨d, ev, hd⟩ := q1
          have dd : DicAt C H1 r1 true kvs d := m1.obj j d _ hd hj
          rcases dd.obj with ⟨n, xs, ⟨o, e⟩, z⟩ | ⟨n, n2, xs, ⟨o, e⟩, z⟩
          · refine ⟨d, o, ev, .inl ⟨xs, e, p1 _ H1 r1 (Mono.refl _ _) m1 fun r2 H2 M2 y m2 hst => ?_⟩⟩
            have e2 := y.keep d _ e (.inr rfl)
            have hl : kvs.length = xs.length := Paired.length z
            refine ⟨fun i w hi => ?_, e2, by rw [List.length_map, hl]; exact Nat.le_refl _⟩
            rw [List.getElem?_map] at hi
            cases ek : kvs[i]? with
            | none => rw [ek] at hi; cases hi
            | some kv =>
              rw [ek] at hi
              cases hi
              obtain ⟨x, hx, k1, k2⟩ := Paired.ix z ek
              refine ⟨⟨e2, (List.getElem?_eq_some_iff.mp hx).1⟩, fun x' H' ⟨e3, k, v', e4, e5⟩ => ?_⟩
              subst e3 e5
              rw [hx] at e4
              cases e4
              refine ⟨Mono.refl _ _, m2, ?_⟩
              have hk := (dd.key kv (List.mem_of_getElem? ek)).1
              have ht := n kv (List.mem_of_getElem? ek)
              obtain ⟨kw, kv'⟩ := kv
              dsimp only at k1 hk ht ⊢
              subst k1
              cases kw with
              | int i => rfl
              | str t => rfl
              | tup _ => simp [isT] at ht
              | _ => simp [isK] at hk
          · refine ⟨d, o, ev, .inr ⟨xs, n2, e, p1 _ H1 r1 (Mono.refl _ _) m1 fun r2 H2 M2 y m2 hst => ?_⟩⟩
            have e2 := y.keep d _ e (.inr rfl)
            have hl : kvs.length = xs.length := Paired.length z
            refine ⟨fun i w hi => ?_, e2, by rw [List.length_map, hl]; exact Nat.le_refl _⟩
            rw [List.getElem?_map] at hi
            cases ek : kvs[i]? with
            | none => rw [ek] at hi; cases hi
            | some kv =>
              rw [ek] at hi
              cases hi
              obtain ⟨x, hx, k1, k2, v, k3, k4⟩ := Paired.ix z ek
              refine ⟨⟨e2, (List.getElem?_eq_some_iff.mp hx).1⟩, fun x' H' ⟨e3, p, e4, e5⟩ => ?_⟩
              subst e3 e5
              rw [hx] at e4
              cases e4
              exact ⟨Mono.refl _ _, m2, RepW.go y m1 _ _ k2⟩
        · exact p1.elim
      | _ => exact p1.elim
  refine thn (h.run pins s σ H _ I rd) fun v s1 ⟨x, H1, I1, rx, d, o, ex, q1⟩ => ?_
  subst ex
  obtain rfl : v = Value.ref d := rx
  rcases q1 with ⟨xs, hd, q⟩ | ⟨xs, hsm, hd, q⟩
  · obtain ⟨hs, hgd, hx, es, ep, vs, hdt, hsz, kv, hm⟩ := I1.frzK hd
    refine iter_keys hs hgd hx hdt (pi_one (tk := s1.toks) I1 _ (turn_keys _ hdt) ⟨_, Heap.get?_push_size _ rfl, rfl, ?_⟩ q)
    rw [hsz] <;> rfl
  · obtain ⟨hgd, hx, es, ep, hdt, hsz, ent⟩ := raw_at I1.hok hd
    refine iter_keys hsm hgd hx hdt (pi_one (tk := s1.toks) I1 _ (turn_x _ hdt) ⟨_, Heap.get?_push_size _ rfl, rfl, ?_⟩ q)
    rw [hsz] <;> rfl
end
end Sw

set_option autoImplicit false
set_option Elab.async false
set_option linter.all false
set_option maxRecDepth 100000
/-! Rules with what the printer leaves to Lean. -/
namespace Sw
open PySem PySem.Spec L2
section
variable {C : Rc} {E : XK} {X : Cx}
theorem i_v (i : Nat) {x : Str} {pos : Pos} (hN : X.N[i]? = some x := by rfl) (hv : Vis X.env.scope x := by first | exact Or.inl rfl | exact Or.inr (Or.inl rfl) | exact Or.inr (Or.inr rfl)) (hd : (x == ("__debug__" : Str)) = false := by decide)
    (hcd : (x == ("__classdict__" : Str)) = false := by decide) : PE X (.Name x pos) (tE C E (eV i)) := i_V hN hv hd hcd
theorem i_g (i : Nat) {x : Str} {pos : Pos} (hN : X.N.Nodup) (hi : X.N[i]? = some x := by rfl) (hx : Loc X.env.scope x := by first | exact Or.inl rfl | exact Or.inr rfl) (hf : X.fn x = true ∨ X.env.scope.names.lookup x = some .local := by first | exact .inl rfl | exact .inr rfl) :
    L2.PG X (.Name x pos) (gP C (.one i)) := i_gn hN hi hx hf
theorem i_gs (i : Nat) {x : Str} {pos : Pos} {es : List Expr} {is : List Nat} (hN : X.N.Nodup) (h2 : L2.PGs X es (gPs C is)) (hi : X.N[i]? = some x := by rfl) (hx : Loc X.env.scope x := by first | exact Or.inl rfl | exact Or.inr rfl)
    (hf : X.fn x = true ∨ X.env.scope.names.lookup x = some .local := by first | exact .inl rfl | exact .inr rfl) (hs : (assignEach (.Name x pos :: es) X.env).map (·.2) = assign (.Name x pos) X.env :: (assignEach es X.env).map (·.2) := by rfl) :
    L2.PGs X (.Name x pos :: es) (gPs C (i :: is)) := i_gcons hN hi hx h2 hf hs
theorem i_st (i : Nat) {x : Str} {e : Expr} {m : EM} {pos pos' : Pos} (hN : X.N.Nodup) (he : PE X e (tE C E m)) (hi : X.N[i]? = some x := by rfl) (hx : Loc X.env.scope x := by first | exact Or.inl rfl | exact Or.inr rfl)
    (hs : swapsWith e (some (.Name x pos')) pos.line X.env = pure false := by rfl) (hf : X.fn x = true ∨ X.env.scope.names.lookup x = some .local := by first | exact .inl rfl | exact .inr rfl) : PS X (.Assign [.Name x pos'] e pos) (tS C E (sAsg (.one i) m)) := i_set hN hi hx he hs hf
/-! ### comprehensions -/
theorem i_lc {elt tg iter : Expr} {ifs : List Expr} {scope : Scope} {own : List (Str × Nat)} {pos : Pos} {mi : IM} {p : Pat} {c e : EM} (hc : X.calm = true) (hN : X.N.Nodup) (hi : PI X tg iter (tI C E mi)) (ok : BlkOk X.N X.env.scope scope own)
    (hg : ∀ (s : Shared) (H : Hp) (Q : Addr) (cl : List (Str × Addr)) (fp : List Addr), L2.PG (X.blk s H scope (compEnvC scope cl Q X.env) fp) tg (gP C p))
    (ht : ∀ (s : Shared) (H : Hp) (Q : Addr) (cl : List (Str × Addr)) (fp : List Addr), PTs (X.blk s H scope (compEnvC scope cl Q X.env) fp) ifs (tT C E0 c))
    (he : ∀ (s : Shared) (H : Hp) (Q : Addr) (cl : List (Str × Addr)) (fp : List Addr), PE (X.blk s H scope (compEnvC scope cl Q X.env) fp) elt (tE C E0 e))
    (hv : ∀ v ∈ own.map (·.2), v ∈ ownP p) (hp : ∀ v ∈ ownP p, v ∈ own.map (·.2)) (hs : ∀ x, foldedSetIterable iter X.env x = pure x := by intro _; rfl) :
    PE X (.ListComp elt [⟨tg, iter, ifs, 0⟩] scope pos) (tF C E (lComp mi p c e)) :=
  PE.imp (pe_lc hc hN hi ok hg ht he hs) fun σ H Q h => lc_pure hv hp h
theorem PS.of {st : Stmt} {t t' : TS} (h : PS X st t) (f : ∀ D σ H, t' D σ H → t D σ H) : PS X st t' := ⟨fun pins s σ H D I q => h.run pins s σ H D I (f D σ H q)⟩
theorem set_new {l : LM} {i : Nat} {D : Ends} {σ : L2.St} {H : Hp} (h : tS C E (sAsg (.one i) (eNew l)) D σ H) : tF C E l σ H fun x H1 => D.nx (σ.set i (some x)) H1 := by
  obtain ⟨s, M, r, hs, hm, p⟩ := h
  refine ⟨s, M, r, hs, hm, ?_⟩
  cases e : l s M with
  | none =>
    have e2 : sAsg (.one i) (eNew l) s M = none := by simp [sAsg, eNew, e, bnd]
    rw [e2] at p
    exact p.elim
  | some o =>
    obtain ⟨o, M1⟩ := o
    cases o with
    | error x =>
      have e2 : sAsg (.one i) (eNew l) s M = some (.error x, M1) := by simp [sAsg, eNew, e, bnd]
      rw [e2] at p
      exact p
    | ok ws =>
      have e2 : sAsg (.one i) (eNew l) s M = some (.ok (.nx (setS s i (.ref M1.length))), M1 ++ [O.lst ws]) := by simp [sAsg, eNew, e, bnd, Sw.alloc, ok, bindP]
      rw [e2] at p
      intro a vs H1 r1 x1 m1 q1 ha hn h0 hl
      exact p _ H1 (r1 ++ [a]) (x1.take h0) (m1.take ha q1 hn) (RepS.put (RepS.go (x1.take h0) hm hs) ⟨a, rfl, by rw [← m1.len, List.getElem?_append_right (Nat.le_refl _)]; simp⟩)
theorem i_stLc (i : Nat) {y : Str} {py : Pos} {elt tg iter : Expr} {ifs : List Expr} {scope : Scope} {own : List (Str × Nat)} {pos spos : Pos} {mi : IM} {p : Pat} {c e : EM} (hc : X.calm = true) (hN : X.N.Nodup) (hi : PI X tg iter (tI C E mi)) (ok : BlkOk X.N X.env.scope scope own)
    (hg : ∀ (s : Shared) (H : Hp) (Q : Addr) (cl : List (Str × Addr)) (fp : List Addr), L2.PG (X.blk s H scope (compEnvC scope cl Q X.env) fp) tg (gP C p))
    (ht : ∀ (s : Shared) (H : Hp) (Q : Addr) (cl : List (Str × Addr)) (fp : List Addr), PTs (X.blk s H scope (compEnvC scope cl Q X.env) fp) ifs (tT C E0 c))
    (he : ∀ (s : Shared) (H : Hp) (Q : Addr) (cl : List (Str × Addr)) (fp : List Addr), PE (X.blk s H scope (compEnvC scope cl Q X.env) fp) elt (tE C E0 e))
    (hv : ∀ v ∈ own.map (·.2), v ∈ ownP p) (hp : ∀ v ∈ ownP p, v ∈ own.map (·.2))
    (hsw : swapsWith (.ListComp elt [⟨tg, iter, ifs, 0⟩] scope pos) (some (.Name y py)) spos.line X.env = pure true)
    (hy : X.N[i]? = some y := by rfl) (hyl : X.env.scope.names.lookup y = some .local := by rfl) (hs : ∀ x, foldedSetIterable iter X.env x = pure x := by intro _; rfl) :
    PS X (.Assign [.Name y py] (.ListComp elt [⟨tg, iter, ifs, 0⟩] scope pos) spos) (tS C E (sAsg (.one i) (eNew (lComp mi p c e)))) :=
  PS.of (ps_setLc hc hN hy hyl hsw hi ok hg ht he hs) fun D σ H h => lc_pure hv hp (set_new h)
/-! ### < -/
theorem o_lt (hK : C.K = X.K) (hu : X.A.units + 64 < cLine) : OpR X (compareOp .Lt) (r2 C E oLt) := by
  intro pins s σ H x y v u Q I rx ry ⟨r, M, a, b, m, qa, qb, p⟩
  have p : PG C E r H (eqOut M (if isD a && isD b && decide (dep a ≤ 60) && decide (dep b ≤ 60) then ltD a b else none)) (Kv C Q r H) := p
  split at p
  · rename_i hc
    simp only [Bool.and_eq_true] at hc
    obtain ⟨⟨⟨da, db⟩, ha⟩, hb⟩ := hc
    have ha := of_decide_eq_true ha
    cases e : ltD a b with
    | none => rw [e] at p; exact p.elim
    | some c =>
      rw [e] at p
      have pa := RepW.dp a x da qa
      have pb := RepW.dp b y db qb
      rw [hK] at pa pb
      obtain ⟨as, ra⟩ := Dp.reads I _ _ _ pa rx
      obtain ⟨bs, rb⟩ := Dp.reads I _ _ _ pb ry
      exact rl_D a b c X.A s v u as bs da db e ra rb (by have := Nat.min_le_left (dep a) (dep b); omega) X.prog X.w X.xe _ ⟨.bl c, H, I, rfl, eqOut_go m rfl p⟩
  · exact p.elim
/-! ### chains of comparisons -/
theorem i_tchain {op op' : CmpOp} {f f' : Op2} {a b c : Expr} {ma mb mc : EM} {pos : Pos} (ho : OpR X (compareOp op) (r2 C E f)) (ho' : OpR X (compareOp op') (r2 C E f')) (ha : PE X a (tE C E ma)) (hb : PE X b (tE C E mb)) (hc : PE X c (tE C E mc))
    (hm : lastMarks [op, op'] [b, c] = false := by with_unfolding_all rfl) : PT X (.Compare a [op, op'] [b, c] pos) (tT C E fun s M => bnd (ma s M) fun x M => bnd (mb s M) fun y M => bnd (f x y M) fun k M => match k with
      | .bl true => bnd (mc s M) fun z M => f' y z M
      | .bl false => ok (.bl false) M
      | _ => none) :=
  PT.imp (pt_chain ho ho' ha hb hc hm) fun σ H Q ⟨s, M, r, hs, hm, p⟩ => by
    refine tE_on Kb_cl hs hm p fun x H1 r1 M1 w1 x1 m1 q1 s1 p1 => tE_on Kb_cl s1 m1 p1 fun y H2 r2 M2 w2 x2 m2 q2 s2 p2 => ?_
    have q1' := RepW.go x2 m1 _ _ q1
    refine ⟨r2, M2, w1, w2, m2, q1', q2, (p2.fst Kb_cl).imp fun k M3 _ g z H3 r3 x3 m3 qz => ?_⟩
    have g := g r3 H3 x3 m3
    cases k with
    | bl k =>
      refine ⟨k, qz, ?_⟩
      cases k with
      | false =>
        obtain ⟨b, e, g⟩ := g
        cases e
        exact iteF ⟨false, rfl, g H3 r3 (Mono.refl _ _) m3⟩
      | true =>
        refine iteT (tE_on Kb_cl (s2.go x3 m2) m3 g fun z H4 r4 M4 w3 x4 m4 q4 s4 p4 => ⟨r4, M4, w2, w3, m4, RepW.go x4 m3 _ _ (RepW.go x3 m2 _ _ q2), q4, p4.imp fun w M5 _ ⟨b, e, g⟩ v H5 r5 x5 m5 q5 => ?_⟩)
        subst e
        exact ⟨b, q5, g H5 r5 x5 m5⟩
    | _ => exact g.elim
end
end Sw

set_option autoImplicit false
/-! Which built-in stands behind a name. -/
namespace Sw.PyB
open PySem
theorem b_len : bootBuiltins "len" = some (.builtin "len") := by decide +kernel
theorem b_repr : bootBuiltins "repr" = some (.builtin "repr") := by decide +kernel
theorem b_sorted : bootBuiltins "sorted" = some (.builtin "sorted") := by decide +kernel
theorem b_all : bootBuiltins "all" = some (.builtin "all") := by decide +kernel
theorem b_any : bootBuiltins "any" = some (.builtin "any") := by decide +kernel
theorem b_sum : bootBuiltins "sum" = some (.builtin "sum") := by decide +kernel
theorem b_abs : bootBuiltins "abs" = some (.builtin "abs") := by decide +kernel
theorem b_min : bootBuiltins "min" = some (.builtin "min") := by decide +kernel
theorem b_max : bootBuiltins "max" = some (.builtin "max") := by decide +kernel
theorem b_list : bootBuiltins "list" = some (.type "list") := by decide +kernel
theorem b_tuple : bootBuiltins "tuple" = some (.type "tuple") := by decide +kernel
theorem b_bool : bootBuiltins "bool" = some (.type "bool") := by decide +kernel
theorem b_int : bootBuiltins "int" = some (.type "int") := by decide +kernel
theorem b_str : bootBuiltins "str" = some (.type "str") := by decide +kernel
theorem b_dict : bootBuiltins "dict" = some (.type "dict") := by decide +kernel
end Sw.PyB

set_option autoImplicit false
set_option linter.all false
/-! The pure side, further words: instances, exceptions. -/
namespace Sw
/-- an instance of the class c -/
def fldO (c : Nat) (o : Option O) : Option (List (Tx × W)) := match o with
  | some (.ins c' fs) => if c' = c then some fs else none
  | _ => none
def putFld (f : Tx) (w : W) : List (Tx × W) → List (Tx × W)
  | [] => [(f, w)]
  | (g, x) :: r => if g = f then (g, w) :: r else (g, x) :: putFld f w r
/-- o.f -/
def eFld (c : Nat) (f : Tx) (o : EM) : EM := fun s M => bnd (o s M) fun x M => match x with
  | .ref j => (match (fldO c M[j]?).bind (·.lookup f) with
    | some w => ok w M
    | none => none)
  | _ => none
/-- o.f = e -/
def sFld (c : Nat) (f : Tx) (o e : EM) : SM := fun s M => bnd (e s M) fun v M => bnd (o s M) fun x M => match x with
  | .ref j => (match fldO c M[j]? with
    | some fs => if fs.length < 900 then ok (.nx s) (M.set j (.ins c (putFld f v fs))) else none
    | none => none)
  | _ => none
/-- o.m(..) -/
def eMeth (orc : Nat → List W → Mem → Out W) (c : Nat) (m : Tx) (id : Nat) (o : EM) (es : List EM) : EM := fun s M => bnd (o s M) fun x M => match x with
  | .ref j => (match (fldO c M[j]?).map (·.lookup m) with
    | some none => bnd (eAs es s M) fun vs M => orc id (.ref j :: vs) M
    | _ => none)
  | _ => none
/-- C(..) -/
def eMake (orc : Nat → List W → Mem → Out W) (c id : Nat) (es : List EM) : EM := fun s M => bnd (eAs es s M) fun vs M => bnd (orc id (.ref M.length :: vs) (M ++ [.ins c []])) fun r M' => match r with
  | .non => ok (.ref M.length) M'
  | _ => none
/-- what is never reached -/
def sStop : SM := fun _ _ => none
/-- raise X('..') -/
def sRaise (c : Nat) : SM := fun _ M => some (.error ⟨c, .non⟩, M)
/-- o.m(..), f(..) at the head of a try's statement: its arguments raise nothing -/
def eCallX (orc : Nat → List W → Mem → Out W) (f : Nat) (ms : List EM) : EM := fun s M => bnd (noX (eAs ms s M)) fun ws M => orc f ws M
def eMethX (orc : Nat → List W → Mem → Out W) (c : Nat) (m : Tx) (id : Nat) (o : EM) (es : List EM) : EM := fun s M => bnd (noX (o s M)) fun x M => match x with
  | .ref j => (match (fldO c M[j]?).map (·.lookup m) with
    | some none => bnd (noX (eAs es s M)) fun vs M => orc id (.ref j :: vs) M
    | _ => none)
  | _ => none
def sIfX (t : EM) (a b : SM) : SM := fun s M => bnd (noX (t s M)) fun x M => match x with
  | .bl true => a s M
  | .bl false => b s M
  | _ => none
/-- try: one statement .. except X as n (slot i): the caught one is laid in the store -/
def sTryAs (ct : Nat → Option Bool) (i : Nat) (b su : SM) : SM := fun s M => match b s M with
  | none => none
  | some (.ok fl, M') => some (.ok fl, M')
  | some (.error x, M') => (match ct x.cls with
    | some true => bnd (noX (su (setS s i (.ref M'.length)) (M' ++ [.exc x.cls x.arg]))) fun fl M2 => (match fl with
      | .nx s' => ok (.nx (s'.set i none)) M2
      | .rt w => ok (.rt w) M2)
    | some false => some (.error x, M')
    | none => none)
/-- .. except X: suite -/
def sTry (ct : Nat → Option Bool) (b su : SM) : SM := fun s M => match b s M with
  | none => none
  | some (.ok fl, M') => some (.ok fl, M')
  | some (.error x, M') => (match ct x.cls with
    | some true => noX (su s M')
    | some false => some (.error x, M')
    | none => none)
/-- isinstance of a caught one -/
def uIsE (sub : Nat → Option Bool) : Op1 := fun x M => match x with
  | .ref j => (match M[j]? with
    | some (.exc c w) => (match sub c with
      | some b => ok (.bl b) M
      | none => none)
    | _ => none)
  | _ => none
/-! slices -/
def sIxW (n d : Nat) : Option Int → Nat
  | none => d
  | some v => if v < 0 then (v + (n : Int)).toNat else min v.toNat n
def cutX {α : Type} (xs : List α) (lo hi : Option Int) : List α := (xs.drop (sIxW xs.length 0 lo)).take (sIxW xs.length xs.length hi - sIxW xs.length 0 lo)
def evO : Option EM → Sl → Mem → Out (Option Int)
  | none, _, M => ok none M
  | some m, s, M => bnd (m s M) fun x M => match x with
    | .int i => ok (some i) M
    | _ => none
/-- xs[lo:hi] of a list: a new list that nobody holds -/
def lSl (m : EM) (lo hi : Option EM) : LM := fun s M => bnd (m s M) fun x M => bnd (evO lo s M) fun a M => bnd (evO hi s M) fun b M => match x with
  | .ref j => (match M[j]? with
    | some (.lst ws) => if many ws.length then ok (cutX ws a b) M else none
    | _ => none)
  | _ => none
def eSlS (m : EM) (lo hi : Option EM) : EM := fun s M => bnd (m s M) fun x M => bnd (evO lo s M) fun a M => bnd (evO hi s M) fun b M => match x with
  | .str z => if many z.length then ok (.str (cutX z a b)) M else none
  | _ => none
def eSlT (m : EM) (lo hi : Option EM) : EM := fun s M => bnd (m s M) fun x M => bnd (evO lo s M) fun a M => bnd (evO hi s M) fun b M => match x with
  | .tup ws => if many ws.length then ok (.tup (cutX ws a b)) M else none
  | _ => none
def uInt : Op1 := fun x M => match x with
  | .bl b => ok (.int (if b then 1 else 0)) M
  | .int i => ok (.int i) M
  | _ => none
def uAbs : Op1 := fun x M => match x with
  | .int i => ok (.int i.natAbs) M
  | _ => none
def fSum (ws : List W) (M : Mem) : Out W := match intsOf ws with
  | some bs => ok (.int bs.sum) M
  | none => none
/-- a f b f' c -/
def eChain (f f' : Op2) (a b c : EM) : EM := fun s M => bnd (a s M) fun x M => bnd (b s M) fun y M => bnd (f x y M) fun k M => match k with
  | .bl true => bnd (c s M) fun z M => f' y z M
  | .bl false => ok (.bl false) M
  | _ => none
/-- xs.pop(), xs.pop(i) -/
def fPop0 : Mth := fun x vs M => onL x M fun j ws => match vs with
  | [] => (match ws.getLast? with
    | some w => ok w (M.set j (.lst ws.dropLast))
    | none => none)
  | _ => none
def fPopAt : Mth := fun x vs M => onL x M fun j ws => match vs with
  | [.int i] => (match ixW ws.length i with
    | some n => if many ws.length then (match ws[n]? with
      | some w => ok w (M.set j (.lst (ws.eraseIdx n)))
      | none => none) else none
    | none => none)
  | _ => none
end Sw
namespace Sw
/-- the defs, called d deep at most; what a call leaves is cleared of garbage where gcs says so -/
def runG (gcs : Nat → Bool) (T : (Nat → List W → Mem → Out W) → Nat → Nat × SM) : Nat → Nat → List W → Mem → Out W
  | 0 => fun _ _ _ => none
  | d + 1 => fun f ws M => if gcs f then gcO M (body (T (runG gcs T d) f).1 (T (runG gcs T d) f).2 ws M) else body (T (runG gcs T d) f).1 (T (runG gcs T d) f).2 ws M
end Sw

set_option autoImplicit false
set_option linter.all false
/-! The pure side, words of texts. -/
namespace Sw
/-- x.split(sep): a new list that nobody holds -/
def lSplit (a b : EM) : LM := fun s M => bnd (a s M) fun x M => match x with
  | .str z => bnd (b s M) fun y M => (match y with
    | .str S => if decide (S ≠ []) && S.all (fun c => decide (c < 256)) && decide (z.length ≤ 100000) then ok ((TL.spl S 0 [] z).map W.str) M else none
    | _ => none)
  | _ => none
/-- x.partition(sep) -/
def partW (S z : Tx) : List W := match TL.par S [] z with
  | some (u, v) => [.str u, .str S, .str v]
  | none => [.str z, .str [], .str []]
def eParti (a b : EM) : EM := fun s M => bnd (a s M) fun x M => match x with
  | .str z => bnd (b s M) fun y M => (match y with
    | .str S => if decide (S ≠ []) && decide (z.length ≤ 100000) then ok (.tup (partW S z)) M else none
    | _ => none)
  | _ => none
def textsOf : List W → Option (List Tx)
  | [] => some []
  | .str z :: ws => (textsOf ws).map (z :: ·)
  | _ => none
/-- sep.join(xs) -/
def eJoin (a : EM) (l : LM) : EM := fun s M => bnd (a s M) fun x M => match x with
  | .str S => bnd (l s M) fun ws M => (match textsOf ws with
    | some zs => if (zs.map List.length).sum + zs.length * S.length ≤ 1000000 then ok (.str (TL.joinL S zs)) M else none
    | none => none)
  | _ => none
/-- str(i) -/
def intTx (i : Int) : Tx := (PySem.Str.ofString (toString i)).cps.toList
def uStrI : Op1 := fun x M => match x with
  | .int i => if i.natAbs.log2 < 1920 then ok (.str (intTx i)) M else none
  | _ => none
/-- int(text) -/
def uIntT : Op1 := fun x M => match x with
  | .str z => (match PySem.intText? (tx z) with
    | some n => if z.length ≤ 640 then ok (.int n) M else none
    | none => none)
  | _ => none
/-- xs.insert(i, y) -/
def fInsert : Mth := fun x vs M => onL x M fun j ws => match vs with
  | [.int i, y] => if 0 ≤ i ∧ i ≤ 1000000 ∧ ws.length < 1000000 then ok .non (M.set j (.lst (ws.take i.toNat ++ [y] ++ ws.drop i.toNat))) else none
  | _ => none
/-- enumerate(xs), xs a list at hand -/
def numb : Nat → List W → List W
  | _, [] => []
  | n, w :: ws => .tup [.int (n : Int), w] :: numb (n + 1) ws
def iEnumL (m : EM) : IM := fun s M => bnd (m s M) fun x M => match x with
  | .ref j => (match M[j]? with
    | some (.lst ws) => ok (numb 0 ws, some (j, .lst ws)) M
    | _ => none)
  | _ => none
/-- raise X(e), X an own class that keeps what it is given, as f -/
def sRaiseI (c : Nat) (f : Tx) (e : EM) : SM := fun s M => bnd (e s M) fun v M => match v with
  | .int i => some (.error ⟨c, .tup [.str f, .int i]⟩, M)
  | _ => none
/-- e.f of a caught one of the class c -/
def uExF (c : Nat) (f : Tx) : Op1 := fun x M => match x with
  | .ref j => (match M[j]? with
    | some (.exc k (.tup [.str g, w])) => if k = c ∧ g = f then ok w M else none
    | _ => none)
  | _ => none
end Sw
namespace Sw
/-- two tuples of dicts, item by item the same -/
def sameDs (M : Mem) : List W → List W → Bool
  | [], [] => true
  | .ref i :: xs, .ref j :: ys => (match M[i]?, M[j]? with
    | some (.dic k), some (.dic k') => decide (k = k') && k.all (fun p => isD p.2 && decide (dep p.2 ≤ 20)) && sameDs M xs ys
    | _, _ => false)
  | _, _ => false
def eqT (x y : W) (M : Mem) : Option Bool := match x, y with
  | .tup xs, .tup ys => if sameDs M xs ys then some true else none
  | .str a, .str b => some (decide (a = b))
  | _, _ => none
def oEqT : Op2 := fun x y M => eqOut M (eqT x y M)
def oNeT : Op2 := fun x y M => eqOut M ((eqT x y M).map (!·))
end Sw
namespace Sw
/-- xs * k, xs a list -/
def oRep : Op2 := fun x y M => match x, y with
  | .ref j, .int k => (match M[j]? with
    | some (.lst ws) => if decide (0 ≤ k) && decide (k ≤ 1000000) && decide (ws.length * k.toNat ≤ 1000000) then alloc (.lst (List.replicate k.toNat ws).flatten) M else none
    | _ => none)
  | _, _ => none
end Sw

set_option autoImplicit false
set_option Elab.async false
set_option linter.all false
set_option maxRecDepth 100000
/-! Instances: attributes, methods, C(..). -/
namespace Sw
open PySem PySem.Spec L2
open PyProof.Rows (AllBare envOfC)
/-- an instance's fields as the model has them -/
abbrev zf (fs : List (Tx × W)) (vs : List V) : List (Str × V) := (fs.map fun p => tx p.1).zip vs
section
variable {C : Rc} {E : XK} {X : Cx} {H : Hp} {r : List Addr} {M : Mem}
theorem lk_cons {α : Type} (g f : Str) (x : α) (l : List (Str × α)) : ((g, x) :: l).lookup f = if f = g then some x else l.lookup f := by
  by_cases h : f = g
  · subst h; simp [List.lookup]
  · have e : (f == g) = false := by simpa using h
    rw [if_neg h]; simp [List.lookup, e]
theorem lk_consT {α : Type} (g f : Tx) (x : α) (l : List (Tx × α)) : ((g, x) :: l).lookup f = if f = g then some x else l.lookup f := by
  by_cases h : f = g
  · subst h; simp [List.lookup]
  · have e : (f == g) = false := by simpa using h
    rw [if_neg h]; simp [List.lookup, e]
theorem zf_some {f : Tx} {w : W} : ∀ {fs : List (Tx × W)} {vs : List V}, RepWs C H r (fs.map (·.2)) vs → fs.lookup f = some w → ∃ v, (zf fs vs).lookup (tx f) = some v ∧ RepW C H r w v
  | [], _, _, h => by simp at h
  | (g, x) :: fs, vs, q, h => by
    obtain ⟨v, vr, rfl, p, q⟩ := q
    rw [lk_consT] at h
    show ∃ v', ((tx g, v) :: zf fs vr).lookup (tx f) = some v' ∧ _
    rw [lk_cons]
    by_cases e : f = g
    · subst e
      rw [if_pos rfl] at h
      cases h
      exact ⟨v, if_pos rfl, p⟩
    · rw [if_neg e] at h
      rw [if_neg fun z => e (tx_inj z)]
      exact zf_some q h
theorem zf_none {f : Tx} : ∀ {fs : List (Tx × W)} {vs : List V}, RepWs C H r (fs.map (·.2)) vs → fs.lookup f = none → (zf fs vs).lookup (tx f) = none
  | [], vs, q, _ => by simp [zf]
  | (g, x) :: fs, vs, q, h => by
    obtain ⟨v, vr, rfl, p, q⟩ := q
    rw [lk_consT] at h
    show ((tx g, v) :: zf fs vr).lookup (tx f) = none
    rw [lk_cons]
    by_cases e : f = g
    · rw [if_pos e] at h; cases h
    · rw [if_neg e] at h
      rw [if_neg fun z => e (tx_inj z)]
      exact zf_none q h
theorem zf_put {f : Tx} {w : W} {v : V} (qw : RepW C H r w v) : ∀ {fs : List (Tx × W)} {vs : List V}, RepWs C H r (fs.map (·.2)) vs → ∃ vs', putF (tx f) v (zf fs vs) = zf (putFld f w fs) vs' ∧ RepWs C H r ((putFld f w fs).map (·.2)) vs'
  | [], vs, q => ⟨[v], by simp [zf, putF, putFld], v, [], rfl, qw, rfl⟩
  | (g, x) :: fs, vs, q => by
    obtain ⟨u, vr, rfl, p, q⟩ := q
    show ∃ vs', putF (tx f) v ((tx g, u) :: zf fs vr) = _ ∧ _
    unfold putF putFld
    by_cases e : g = f
    · subst e
      rw [if_pos rfl, if_pos rfl]
      exact ⟨v :: vr, rfl, v, vr, rfl, qw, q⟩
    · rw [if_neg e, if_neg fun z => e (tx_inj z)]
      obtain ⟨vs', h1, h2⟩ := zf_put (f := f) qw q
      exact ⟨u :: vs', by rw [h1]; rfl, u, vs', rfl, p, h2⟩
theorem zf_len {fs : List (Tx × W)} {vs : List V} (q : RepWs C H r (fs.map (·.2)) vs) : (zf fs vs).length = fs.length := by
  have := q.length
  simp [zf] at this ⊢
  omega
theorem fldO_inv {c j : Nat} {fs : List (Tx × W)} (h : fldO c M[j]? = some fs) : M[j]? = some (.ins c fs) := by
  unfold fldO at h
  split at h
  · rename_i c' fs' e
    split at h
    · rename_i hc; cases h; rw [e, hc]
    · cases h
  · cases h
theorem ins_at (m : RepM C H r M) {w : W} {x : V} {j c : Nat} {fs : List (Tx × W)} (q : RepW C H r w x) (ew : w = .ref j) (h : fldO c M[j]? = some fs) : ∃ a dx vs, x = .ref a ∧ r[j]? = some a ∧ H a = some (.ins (C.cls c) dx (zf fs vs)) ∧ RepWs C H r (fs.map (·.2)) vs := by
  subst ew
  obtain ⟨a, e, ha⟩ := q
  obtain ⟨dx, vs, h1, h2⟩ := m.obj j a _ ha (fldO_inv h)
  exact ⟨a, dx, vs, e, ha, h1, h2⟩
theorem i_fld {c : Nat} {z : Tx} {f : Str} {e : Expr} {m : EM} {pos : Pos} (hK : C.K = X.K) (he : PE X e (tE C E m)) (cl : L2.Cls X.K (C.cls c)) (na : NoAttr X.K (C.cls c) f) (hz : f = tx z := by rfl) (hb : attributeBase e f X.env (eval e X.env) = eval e X.env := by rfl) :
    PE X (.Attribute e f pos) (tE C E (eFld c z m)) :=
  PE.imp (pe_fld he hb) fun σ H Q ⟨s, M, r, hs, hm, p⟩ => tE_on Kv_cl hs hm p fun x H1 r1 M1 w x1 m1 q1 s1 p1 => by
    cases w with
    | ref j =>
      have p1 : PG C E r1 H1 (match (fldO c M1[j]?).bind (·.lookup z) with
        | some w => ok w M1
        | none => none) (Kv C Q r1 H1) := p1
      cases e1 : (fldO c M1[j]?).bind (·.lookup z) with
      | none => rw [e1] at p1; exact p1.elim
      | some u =>
        rw [e1] at p1
        obtain ⟨fs, e2, e3⟩ := Option.bind_eq_some_iff.mp e1
        obtain ⟨a, dx, vs, ex, ha, hH, qs⟩ := ins_at m1 q1 rfl e2
        obtain ⟨v, h1, h2⟩ := zf_some qs e3
        exact ⟨a, C.cls c, dx, _, v, ex, hH, cl, na, by rw [hz]; exact h1, Kv_now m1 p1 h2⟩
    | _ => exact p1.elim
theorem i_sfld {c : Nat} {z : Tx} {f : Str} {o e : Expr} {mo me : EM} {pos pos' : Pos} (hK : C.K = X.K) (ho : PE X o (tE C E mo)) (he : PE X e (tE C E me)) (cl : L2.Cls X.K (C.cls c)) (na : NoAttr X.K (C.cls c) f) (hz : f = tx z := by rfl)
    (hs : swapsWith e (some (.Attribute o f pos')) pos.line X.env = pure false := by rfl) : PS X (.Assign [.Attribute o f pos'] e pos) (tS C E (Sw.sFld c z mo me)) :=
  PS.imp (ps_fld ho he hs) fun D σ H ⟨s, M, r, hs, hm, p⟩ => tE_on Ks_cl hs hm p fun y H1 r1 M1 u x1 m1 q1 s1 p1 => tE_on Ks_cl s1 m1 p1 fun x H2 r2 M2 w x2 m2 q2 s2 p2 => by
    cases w with
    | ref j =>
      have p2 : PG C E r2 H2 (match fldO c M2[j]? with
        | some fs => if fs.length < 900 then ok (.nx s) (M2.set j (.ins c (putFld z u fs))) else none
        | none => none) (Ks C D r2 H2) := p2
      cases e1 : fldO c M2[j]? with
      | none => rw [e1] at p2; exact p2.elim
      | some fs =>
        rw [e1] at p2
        have p2 : PG C E r2 H2 (if fs.length < 900 then ok (.nx s) (M2.set j (.ins c (putFld z u fs))) else none) (Ks C D r2 H2) := p2
        split at p2
        · rename_i hl
          obtain ⟨a, dx, vs, ex, ha, hH, qs⟩ := ins_at m2 q2 rfl e1
          obtain ⟨vs', h1, h2⟩ := zf_put (f := z) (RepW.go x2 m1 _ _ q1) qs
          have nf : ∀ o, H2 a = some o → frzH o = false := fun o z => by rw [hH] at z; cases z; rfl
          have xx : Mono r2 r2 H2 (upd H2 a (.ins (C.cls c) dx (zf (putFld z u fs) vs'))) := Mono.write (List.mem_of_getElem? ha) nf
          have mm : RepM C (upd H2 a (.ins (C.cls c) dx (zf (putFld z u fs) vs'))) r2 (M2.set j (.ins c (putFld z u fs))) := m2.write ha nf ⟨dx, vs', upd_same, RepWs.go xx m2 _ _ h2⟩
          refine ⟨a, C.cls c, dx, _, ex, hH, cl, na, by rw [zf_len qs]; omega, ?_⟩
          rw [hz, h1]
          exact p2 σ _ r2 xx mm (s2.go xx m2)
        · exact p2.elim
    | _ => exact p2.elim
end
/-! ### calls -/
section
variable {X : Cx} {CX : CXT} {k : Nat} {f A0 : Addr} {fd : FuncData} {ps : List Str} {sp : Sp} {E : XK} {m : Str} {o e : Expr} {es : List Expr} {ta : TE} {t : TA} {apos pos : Pos}
/-- o.m(e, ..) -/
theorem methG {pl : Sem Bool} (he : PE X o ta) (c : L2.Cls X.K A0) (hm : Meth X.K A0 m f) (F : FnG X.prog X.w X.K X.mg X.base CX k f fd ps sp) (gd : X.A.guards = some []) (hr : Room k X.A) (hb : Binds X.K fd ps []) (hx : Passes CX X E) (ha : PA X (e :: es) t)
    (hst : starEach (e :: es) X.env = (false, eval e X.env) :: starEach es X.env := by rfl) (hpl : (backTo pos (starEach es X.env)).any (·.1) = false := by rfl)
    (ht : eval (.Call (.Attribute o m apos) (e :: es) [] pos) X.env = (do
      let ov ← eval o X.env
      standAt apos.atName
      let (f, first) ← holding [ov] (getMethod ov m pl)
      callWith pos f first (backTo pos (starEach (e :: es) X.env)) (backToKw pos (keywordEach [] X.env))) := by rfl) :
    PE X (.Call (.Attribute o m apos) (e :: es) [] pos) (tMeth A0 m sp [] E ta t) :=
  ⟨fun pins s σ H Q I h => PySem.W.methodCall_KW (pl := pl) (thn (he.run pins s σ H _ I h) fun u s1 ⟨x, H1, I1, rx, a, dx, fs, ex, ea, l, q⟩ => by
    subst ex
    obtain rfl : u = Value.ref a := rx
    exact getmeth_ok I1 ea c hm l (PySem.W.callWith_K (first := [.ref a]) (h₀ := X.base) I1.ok.mod.kin hm.kp (thn (ha.run pos pins s1 σ H1 _ I1 q) fun us s2 ⟨vs, H2, I2, rv, q2⟩ =>
      ⟨I2.kIn, goG (us := .ref a :: us) (vs := .ref a :: vs) F gd hr hb .nil hx I2 (.cons rfl rv) q2⟩) hst hpl)) ht⟩
theorem methG0 {pl : Sem Bool} (he : PE X o ta) (c : L2.Cls X.K A0) (hm : Meth X.K A0 m f) (F : FnG X.prog X.w X.K X.mg X.base CX k f fd ps sp) (gd : X.A.guards = some []) (hr : Room k X.A) (hb : Binds X.K fd ps []) (hx : Passes CX X E)
    (ht : eval (.Call (.Attribute o m apos) [] [] pos) X.env = (do
      let ov ← eval o X.env
      standAt apos.atName
      let (f, first) ← holding [ov] (getMethod ov m pl)
      callWith pos f first (backTo pos (starEach [] X.env)) (backToKw pos (keywordEach [] X.env))) := by rfl) :
    PE X (.Call (.Attribute o m apos) [] [] pos) (tMeth A0 m sp [] E ta tNil) :=
  ⟨fun pins s σ H Q I h => PySem.W.methodCall_KW (pl := pl) (thn (he.run pins s σ H _ I h) fun u s1 ⟨x, H1, I1, rx, a, dx, fs, ex, ea, l, q⟩ => by
    subst ex
    obtain rfl : u = Value.ref a := rx
    exact getmeth_ok I1 ea c hm l (PySem.W.callWith_K0 (first := [.ref a]) I1.kIn hm.kp (goG (us := [.ref a]) (vs := [.ref a]) F gd hr hb .nil hx I1 (.cons rfl .nil) q))) ht⟩
theorem gd_make {A : Around} {c : Value} {us : List Value} {kw : List (Str × Value)} (h : A.guards = some []) : (A.under (.builtin "type.__call__" ⟨c :: us, kw⟩)).guards = some [] := by
  have e : (A.under (.builtin "type.__call__" ⟨c :: us, kw⟩)).guards = pushGuards (Code.guards (.builtin "type.__call__" ⟨c :: us, kw⟩)) A.guards := rfl
  have e2 : Code.guards (.builtin "type.__call__" ⟨c :: us, kw⟩) = [] := by
    unfold Code.guards
    rw [if_neg (by show ¬ (guardIds.contains "type.__call__" = true); decide +kernel)]
  rw [e, e2, h]
  rfl
/-- C(..) runs -/
theorem mkG {pins : List (Addr × Obj)} {σ : L2.St} {H : Hp} {s : Shared} {Q : VK} {us : List Value} {vs : List V} (Y : Mk X.K A0 f) (F : FnG X.prog X.w X.K X.mg X.base CX k f fd ps sp) (gd : X.A.guards = some []) (hr : Room (k + 1) X.A) (hb : Binds X.K fd ps [])
    (hx : Passes CX X E) (I : Inv X pins σ H s) (rv : Vals vs us)
    (h : ∀ x dx, H x = none → H dx = none → dx ≠ x → sp (.ref x :: vs) (upd (upd H dx (.own x)) x (.ins A0 dx [])) (fun v H2 => v = .non ∧ Q (.ref x) H2) E) :
    wpAny (model X.prog X.w) X.A (call (.ref A0) us) (EP X pins σ Q) X.xe s := by
  generalize ey : s.heap.objs.size + 1 = y
  have hle : s.heap.objs.size ≤ y := by omega
  have hne : s.heap.objs.size ≠ y := by omega
  have hq := h y s.heap.objs.size (I.hok.fresh hle) (I.hok.fresh (Nat.le_refl _)) hne
  have I2 := Inv.made (C := A0) I
  rw [ey] at I2
  have r2 : Vals (V.ref y :: vs) (Value.ref y :: us) := .cons rfl rv
  have hl : (Value.ref y :: us).length = ps.length := r2.length.symm.trans (F.arity _ _ _ _ hq)
  have bb := hb _ (Value.ref y :: us) I2.kIn (by rw [List.append_nil]; exact hl)
  rw [List.append_nil] at bb
  refine wpAny_call (make_map (f := f) I.kIn Y.makes Y.init (beq_iff_eq.mp Y.fn) ?_)
  rw [ey]
  refine codeAny_mono (F.goes _ X.stack _ _ ⟨Value.ref y :: us, []⟩ (Value.ref y :: us) (V.ref y :: vs) _ E (gd_make gd) (hr.make A0 us []) (I2.env0.make A0 us []) bb r2 hq) fun r s' hq' => ?_
  match r, hq' with
  | .error e, hq' => exact hx pins σ _ _ e s' I2 hq'
  | .ok (.ret u), hq' =>
    obtain ⟨v, H', I3, rv, ev, q3⟩ := I2.after hq'
    subst ev
    exact ⟨rv, ⟨V.ref y, H', I3, rfl, q3⟩⟩
  | .ok .next, hq' => exact hq'.elim
  | .ok .brk, hq' => exact hq'.elim
  | .ok .cont, hq' => exact hq'.elim
theorem makeG {x : Str} {p : Pos} (Y : Mk X.K A0 f) (F : FnG X.prog X.w X.K X.mg X.base CX k f fd ps sp) (gd : X.A.guards = some []) (hr : Room (k + 1) X.A) (hg : Gl X x) (hm : X.mg x = some (.ref A0)) (hb : Binds X.K fd ps []) (hx : Passes CX X E)
    (ha : PA X (e :: es) t) (hdb : (x == ("__debug__" : Str)) = false := by decide) (he : starEach (e :: es) X.env = (false, eval e X.env) :: starEach es X.env := by rfl) (hpl : (backTo pos (starEach es X.env)).any (·.1) = false := by rfl) :
    PE X (.Call (.Name x p) (e :: es) [] pos) (tMake A0 sp [] E t) :=
  ⟨fun pins s σ H Q I h => wpAny_Call_Name_kw (ld_glob I hg hm (PySem.W.callWith_K (h₀ := X.base) I.ok.mod.kin Y.kp
    (thn (ha.run pos pins s σ H _ I h) fun us s1 ⟨vs, H1, I1, r, q⟩ => ⟨I1.kIn, mkG Y F gd hr hb hx I1 r (fun x dx h1 h2 h3 => by have := q x dx h1 h2 h3; rw [List.append_nil] at this; exact this)⟩) he hpl) hdb)⟩
theorem makeG0 {x : Str} {p : Pos} (Y : Mk X.K A0 f) (F : FnG X.prog X.w X.K X.mg X.base CX k f fd ps sp) (gd : X.A.guards = some []) (hr : Room (k + 1) X.A) (hg : Gl X x) (hm : X.mg x = some (.ref A0)) (hb : Binds X.K fd ps []) (hx : Passes CX X E)
    (hdb : (x == ("__debug__" : Str)) = false := by decide) : PE X (.Call (.Name x p) [] [] pos) (tMake A0 sp [] E tNil) :=
  ⟨fun pins s σ H Q I h => wpAny_Call_Name_kw (ld_glob I hg hm (PySem.W.callWith_K0 I.kIn Y.kp (mkG (us := []) (vs := []) Y F gd hr hb hx I .nil h)) hdb)⟩
end
section
variable {C : Rc} {E : XK} {X : Cx} {CX : CXT} {k n id c : Nat} {f : Addr} {fd : FuncData} {ps : List Str} {orc : Orc} {o e : Expr} {es : List Expr} {mo : EM} {ms : List EM} {m : Str} {z : Tx} {apos pos : Pos}
theorem meth_at {α : Type} {M : Mem} {j : Nat} {o : Option (Option W)} (h : (fldO c M[j]?).map (·.lookup z) = some none) : ∃ fs, fldO c M[j]? = some fs ∧ fs.lookup z = none := by
  cases e : fldO c M[j]? with
  | none => rw [e] at h; cases h
  | some fs => rw [e] at h; exact ⟨fs, rfl, by simpa using h⟩
theorem i_meth {pl : Sem Bool} (ho : PE X o (tE C E mo)) (cl : L2.Cls X.K (C.cls c)) (hm : Meth X.K (C.cls c) m f) (F : FnG X.prog X.w X.K X.mg X.base CX k f fd ps (spF C (orc id) n)) (gd : X.A.guards = some []) (hr : Room k X.A) (hb : Binds X.K fd ps []) (hx : Passes CX X E)
    (ha : PA X (e :: es) (tA C E (eAs ms))) (hn : ms.length + 1 = n) (hz : m = tx z := by rfl)
    (hst : starEach (e :: es) X.env = (false, eval e X.env) :: starEach es X.env := by rfl) (hpl : (backTo pos (starEach es X.env)).any (·.1) = false := by rfl)
    (ht : eval (.Call (.Attribute o m apos) (e :: es) [] pos) X.env = (do
      let ov ← eval o X.env
      standAt apos.atName
      let (f, first) ← holding [ov] (getMethod ov m pl)
      callWith pos f first (backTo pos (starEach (e :: es) X.env)) (backToKw pos (keywordEach [] X.env))) := by rfl) :
    PE X (.Call (.Attribute o m apos) (e :: es) [] pos) (tE C E (eMeth orc c z id mo ms)) :=
  PE.imp (methG ho cl hm F gd hr hb hx ha hst hpl ht) fun σ H Q ⟨s, M, r, hs, hm, p⟩ => tE_on Kv_cl hs hm p fun v H1 r1 M1 w x1 m1 q1 s1 p1 => by
    cases w with
    | ref j =>
      have p1 : PG C E r1 H1 (match (fldO c M1[j]?).map (·.lookup z) with
        | some none => bnd (eAs ms s M1) fun vs M => orc id (.ref j :: vs) M
        | _ => none) (Kv C Q r1 H1) := p1
      split at p1
      · rename_i h
        obtain ⟨fs, h1, h2⟩ := meth_at (α := Unit) (o := none) h
        obtain ⟨a, dx, vs, ex, hh, hH, qs⟩ := ins_at m1 q1 rfl h1
        refine ⟨a, dx, _, ex, hH, by rw [hz]; exact zf_none qs h2, tA_on Kv_cl s1 m1 p1 fun us H2 r2 M2 ws e x2 m2 q2 s2 p2 => ?_⟩
        rw [List.append_nil]
        exact ⟨by rw [List.length_cons, q2.length, eAs_len e, hn], r2, M2, .ref j :: ws, m2, RepWs.cons (RepW.go x2 m1 _ _ q1) q2, p2⟩
      · exact p1.elim
    | _ => exact p1.elim
theorem i_meth0 {pl : Sem Bool} (ho : PE X o (tE C E mo)) (cl : L2.Cls X.K (C.cls c)) (hm : Meth X.K (C.cls c) m f) (F : FnG X.prog X.w X.K X.mg X.base CX k f fd ps (spF C (orc id) 1)) (gd : X.A.guards = some []) (hr : Room k X.A) (hb : Binds X.K fd ps []) (hx : Passes CX X E)
    (hz : m = tx z := by rfl)
    (ht : eval (.Call (.Attribute o m apos) [] [] pos) X.env = (do
      let ov ← eval o X.env
      standAt apos.atName
      let (f, first) ← holding [ov] (getMethod ov m pl)
      callWith pos f first (backTo pos (starEach [] X.env)) (backToKw pos (keywordEach [] X.env))) := by rfl) :
    PE X (.Call (.Attribute o m apos) [] [] pos) (tE C E (eMeth orc c z id mo [])) :=
  PE.imp (methG0 ho cl hm F gd hr hb hx ht) fun σ H Q ⟨s, M, r, hs, hm, p⟩ => tE_on Kv_cl hs hm p fun v H1 r1 M1 w x1 m1 q1 s1 p1 => by
    cases w with
    | ref j =>
      have p1 : PG C E r1 H1 (match (fldO c M1[j]?).map (·.lookup z) with
        | some none => orc id [.ref j] M1
        | _ => none) (Kv C Q r1 H1) := p1
      split at p1
      · rename_i h
        obtain ⟨fs, h1, h2⟩ := meth_at (α := Unit) (o := none) h
        obtain ⟨a, dx, vs, ex, hh, hH, qs⟩ := ins_at m1 q1 rfl h1
        exact ⟨a, dx, _, ex, hH, by rw [hz]; exact zf_none qs h2, rfl, r1, M1, [.ref j], m1, RepWs.one q1, p1⟩
      · exact p1.elim
    | _ => exact p1.elim
/-- a new instance comes into the store -/
theorem make_in {H : Hp} {r : List Addr} {M : Mem} {x dx : Addr} (m : RepM C H r M) (hx : H x = none) (hd : H dx = none) (ne : dx ≠ x) :
    Mono r (r ++ [x]) H (upd (upd H dx (.own x)) x (.ins (C.cls c) dx [])) ∧ RepM C (upd (upd H dx (.own x)) x (.ins (C.cls c) dx [])) (r ++ [x]) (M ++ [.ins c []]) := by
  have m1 : RepM C (upd H dx (.own x)) r M := m.temp hd
  have hx1 : upd H dx (.own x) x = none := by rw [upd_ne (Ne.symm ne)]; exact hx
  refine ⟨(Mono.temp hd).trans m1 (Mono.alloc hx1), m1.alloc hx1 ⟨dx, [], ?_, rfl⟩⟩
  rw [upd_same]
  rfl
theorem make_go {H : Hp} {r : List Addr} {M : Mem} {vs : List V} {ws : List W} {Q : VK} (hn : ws.length + 1 = n) (m : RepM C H r M) (q : RepWs C H r ws vs) (p : PG C E r H (bnd (orc id (.ref M.length :: ws) (M ++ [.ins c []])) fun r M' => match r with
      | .non => ok (.ref M.length) M'
      | _ => none) (Kv C Q r H)) (x dx : Addr) (hx : H x = none) (hd : H dx = none) (ne : dx ≠ x) :
    spF C (orc id) n (.ref x :: vs) (upd (upd H dx (.own x)) x (.ins (C.cls c) dx [])) (fun v H2 => v = .non ∧ Q (.ref x) H2) E := by
  obtain ⟨x1, m1⟩ := make_in (c := c) m hx hd ne
  have p1 := PG.go Kv_cl x1 m1 p
  have ix : (r ++ [x])[M.length]? = some x := by rw [← m.len, List.getElem?_append_right (Nat.le_refl _)]; simp
  refine ⟨by rw [List.length_cons, q.length, hn], r ++ [x], _, .ref M.length :: ws, m1, ⟨_, _, rfl, ⟨x, rfl, ix⟩, RepWs.go x1 m _ _ q⟩, (p1.fst Kv_cl).imp fun a M1 _ g v H2 r2 x2 m2 q2 => ?_⟩
  have g := g r2 H2 x2 m2
  cases a with
  | non => exact ⟨q2, g (.ref x) H2 r2 (Mono.refl _ _) m2 ⟨x, rfl, x2.ix ix⟩⟩
  | _ => exact g.elim
theorem i_make {x : Str} {p : Pos} (Y : Mk X.K (C.cls c) f) (F : FnG X.prog X.w X.K X.mg X.base CX k f fd ps (spF C (orc id) n)) (gd : X.A.guards = some []) (hr : Room (k + 1) X.A) (hg : Gl X x) (hm : X.mg x = some (.ref (C.cls c))) (hb : Binds X.K fd ps []) (hx : Passes CX X E)
    (ha : PA X (e :: es) (tA C E (eAs ms))) (hn : ms.length + 1 = n) (hdb : (x == ("__debug__" : Str)) = false := by decide) (he : starEach (e :: es) X.env = (false, eval e X.env) :: starEach es X.env := by rfl) (hpl : (backTo pos (starEach es X.env)).any (·.1) = false := by rfl) :
    PE X (.Call (.Name x p) (e :: es) [] pos) (tE C E (eMake orc c id ms)) :=
  PE.imp (makeG Y F gd hr hg hm hb hx ha hdb he hpl) fun σ H Q ⟨s, M, r, hs, hm, p⟩ => tA_on Kv_cl hs hm p fun vs H1 r1 M1 ws e x1 m1 q1 s1 p1 => by
    intro x dx h1 h2 h3
    rw [List.append_nil]
    exact make_go (by rw [eAs_len e]; exact hn) m1 q1 p1 x dx h1 h2 h3
theorem i_make0 {x : Str} {p : Pos} (Y : Mk X.K (C.cls c) f) (F : FnG X.prog X.w X.K X.mg X.base CX k f fd ps (spF C (orc id) 1)) (gd : X.A.guards = some []) (hr : Room (k + 1) X.A) (hg : Gl X x) (hm : X.mg x = some (.ref (C.cls c))) (hb : Binds X.K fd ps []) (hx : Passes CX X E)
    (hdb : (x == ("__debug__" : Str)) = false := by decide) : PE X (.Call (.Name x p) [] [] pos) (tE C E (eMake orc c id [])) :=
  PE.imp (makeG0 Y F gd hr hg hm hb hx hdb) fun σ H Q ⟨s, M, r, hs, hm, p⟩ => by
    intro x dx h1 h2 h3
    exact make_go (ws := []) rfl hm rfl p x dx h1 h2 h3
end
end Sw

set_option autoImplicit false
set_option Elab.async false
set_option linter.all false
set_option maxRecDepth 100000
/-! Exceptions: raise, try, what passes. -/
namespace Sw
open PySem PySem.Spec L2
open PyProof.Rows (AllBare envOfC)
section
variable {C : Rc} {E : XK} {X : Cx}
/-- what is never reached may be anything -/
theorem i_stop {st : Stmt} : PS X st (tS C E sStop) := ⟨fun pins s σ H D I ⟨_, _, _, _, _, p⟩ => p.elim⟩
theorem passF : Passes (L2.CX X.prog X.w) X E0 := fun _ _ _ _ _ _ _ ⟨_, _, _, _, _, _, _, _, _, _, _, _, z⟩ => z.elim
/-- a def's own wish is told on -/
theorem passE (tk : Takes X (fun cls d _ H => E cls d H)) : Passes (L2.CX X.prog X.w) X E := passes_call tk fun _ _ _ _ h => h
theorem RepX_own {H : Hp} {r : List Addr} {c : Nat} : RepX C H r ⟨c, .non⟩ (.ref (C.cls c)) none := ⟨rfl, .inl ⟨rfl, rfl⟩⟩
/-- raise X('..') -/
theorem i_raise {c : Nat} {bmB : List Value} {B newId initId : String} {x m : Str} {j : Nat} {p p2 pos pos' : Pos} (hc : X.calm = true) (tk : Takes X (fun cls d _ H => E cls d H)) (F : ExcBaseFacts B newId initId bmB)
    (q : PySem.W.excIn X.K (C.cls c) bmB newId = true) (gC : X.mg x = some (.ref (C.cls c))) (kC : PySem.W.keepIn X.K (.ref (C.cls c)) = true) (rs : Raises X (.ref (C.cls c))) (hg : Gl X x)
    (hdb : (x == ("__debug__" : Str)) = false := by decide) : PS X (.Raise (some (.Call (.Name x p) [.Constant (.str m) j p2] [] pos)) none pos') (tS C E (sRaise c)) :=
  PS.imp (ps_raise hc tk (pmk_own F q gC kC rs hg hdb)) fun D σ H ⟨s, M, r, hs, hm, p⟩ => p _ _ H r (Mono.refl _ _) hm RepX_own
/-! ### a try's statement: calls at the slots as they stand -/
def tE1 (C : Rc) (σ0 : L2.St) (E : XK) (m : EM) : TE := fun σ H Q => σ = σ0 ∧ tE C E m σ H Q
def tS1 (C : Rc) (σ0 : L2.St) (E : XK) (m : SM) : TS := fun D σ H => σ = σ0 ∧ tS C E m D σ H
section
variable {CX : CXT} {k n id c : Nat} {f : Addr} {fd : FuncData} {ps : List Str} {sp : Sp} {orc : Orc} {o e : Expr} {es : List Expr} {mo : EM} {ms : List EM} {m : Str} {z : Tx} {apos pos : Pos} {σ0 : L2.St}
theorem goG1 {pins : List (Addr × Obj)} {H : Hp} {s : Shared} {Q : VK} {us : List Value} {vs : List V} (F : FnG X.prog X.w X.K X.mg X.base CX k f fd ps sp) (gd : X.A.guards = some []) (hr : Room k X.A) (hb : Binds X.K fd ps [])
    (hx : PassesAt CX X σ0 E) (I : Inv X pins σ0 H s) (r : Vals vs us) (h : sp vs H Q E) : wpAny (model X.prog X.w) X.A (call (.ref f) us) (EP X pins σ0 Q) X.xe s := by
  have hl : us.length = ps.length := r.length.symm.trans (F.arity _ _ _ _ h)
  have bb := hb s us I.kIn (by rw [List.append_nil]; exact hl)
  rw [List.append_nil] at bb
  refine wpAny_call (codeAny_mono (F.goes X.A X.stack s H ⟨us, []⟩ us vs Q E gd hr I.env0 bb r h) ?_)
  intro r s' hq
  match r, hq with
  | .error e, hq => exact hx pins H s e s' I hq
  | .ok (.ret u), hq => exact I.after hq
  | .ok .next, hq => exact hq.elim
  | .ok .brk, hq => exact hq.elim
  | .ok .cont, hq => exact hq.elim
/-- arguments that raise nothing -/
theorem tA_onX {β : Type} {m : LM} {f : List W → Mem → Out β} {K : KT β} {Q : List V → Hp → Prop} {σ : L2.St} {s : Sl} {H : Hp} {r : List Addr} {M : Mem} (cl : Cl C K) (hs : RepS C H r s σ) (hm : RepM C H r M) (h : PG C E r H (bnd (noX (m s M)) f) (K r H))
    (k : ∀ vs H1 r1 M1 ws, m s M = some (.ok ws, M1) → Mono r r1 H H1 → RepM C H1 r1 M1 → RepWs C H1 r1 ws vs → RepS C H1 r1 s σ → PG C E r1 H1 (f ws M1) (K r1 H1) → Q vs H1) : tA C E0 m σ H Q := by
  refine ⟨s, M, r, hs, hm, ?_⟩
  cases e : m s M with
  | none => rw [e] at h; exact h.elim
  | some o =>
    obtain ⟨o, M1⟩ := o
    rw [e] at h
    cases o with
    | error x => exact h.elim
    | ok ws =>
      have h : PG C E r H (f ws M1) (K r H) := h
      exact fun vs H1 r1 x m1 q => k vs H1 r1 M1 ws e x m1 q (hs.go x hm) (PG.go cl x m1 h)
theorem tE_onX {β : Type} {m : EM} {f : W → Mem → Out β} {K : KT β} {Q : VK} {σ : L2.St} {s : Sl} {H : Hp} {r : List Addr} {M : Mem} (cl : Cl C K) (hs : RepS C H r s σ) (hm : RepM C H r M) (h : PG C E r H (bnd (noX (m s M)) f) (K r H))
    (k : ∀ v H1 r1 M1 w, Mono r r1 H H1 → RepM C H1 r1 M1 → RepW C H1 r1 w v → RepS C H1 r1 s σ → PG C E r1 H1 (f w M1) (K r1 H1) → Q v H1) : tE C E0 m σ H Q := by
  refine ⟨s, M, r, hs, hm, ?_⟩
  cases e : m s M with
  | none => rw [e] at h; exact h.elim
  | some o =>
    obtain ⟨o, M1⟩ := o
    rw [e] at h
    cases o with
    | error x => exact h.elim
    | ok ws =>
      have h : PG C E r H (f ws M1) (K r H) := h
      exact fun v H1 r1 x m1 q => k v H1 r1 M1 ws x m1 q (hs.go x hm) (PG.go cl x m1 h)
theorem i_call1 {x : Str} {p : Pos} (F : FnG X.prog X.w X.K X.mg X.base CX k f fd ps (spF C (orc id) n)) (gd : X.A.guards = some []) (hr : Room k X.A) (hg : Gl X x) (hm : X.mg x = some (.ref f))
    (hk : PySem.W.keepIn X.K (.ref f) = true) (hb : Binds X.K fd ps []) (hx : PassesAt CX X σ0 E) (ha : PA X (e :: es) (tA C E0 (eAs ms))) (hn : ms.length = n) (hdb : (x == ("__debug__" : Str)) = false := by decide)
    (he : starEach (e :: es) X.env = (false, eval e X.env) :: starEach es X.env := by rfl) (hpl : (backTo pos (starEach es X.env)).any (·.1) = false := by rfl) :
    PE X (.Call (.Name x p) (e :: es) [] pos) (tE1 C σ0 E (eCallX orc id ms)) :=
  ⟨fun pins s σ H Q I ⟨e0, s0, M, r, hs, hm0, p⟩ => by
    subst e0
    refine wpAny_Call_Name_kw (ld_glob I hg hm (PySem.W.callWith_K (h₀ := X.base) I.ok.mod.kin hk
      (thn (ha.run pos pins s σ H (fun vs H1 => spF C (orc id) n vs H1 Q E) I (tA_onX Kv_cl hs hm0 p fun vs H1 r1 M1 ws e x1 m1 q1 s1 p1 => ⟨by rw [q1.length, eAs_len e, hn], r1, M1, ws, m1, q1, p1⟩))
        fun us s1 ⟨vs, H1, I1, rv, q⟩ => ⟨I1.kIn, goG1 F gd hr hb hx I1 rv q⟩) he hpl) hdb)⟩
theorem i_meth1 {pl : Sem Bool} (ho : PE X o (tE C E0 mo)) (cl : L2.Cls X.K (C.cls c)) (hm : Meth X.K (C.cls c) m f) (F : FnG X.prog X.w X.K X.mg X.base CX k f fd ps (spF C (orc id) n)) (gd : X.A.guards = some []) (hr : Room k X.A) (hb : Binds X.K fd ps []) (hx : PassesAt CX X σ0 E)
    (ha : PA X (e :: es) (tA C E0 (eAs ms))) (hn : ms.length + 1 = n) (hz : m = tx z := by rfl)
    (hst : starEach (e :: es) X.env = (false, eval e X.env) :: starEach es X.env := by rfl) (hpl : (backTo pos (starEach es X.env)).any (·.1) = false := by rfl)
    (ht : eval (.Call (.Attribute o m apos) (e :: es) [] pos) X.env = (do
      let ov ← eval o X.env
      standAt apos.atName
      let (f, first) ← holding [ov] (getMethod ov m pl)
      callWith pos f first (backTo pos (starEach (e :: es) X.env)) (backToKw pos (keywordEach [] X.env))) := by rfl) :
    PE X (.Call (.Attribute o m apos) (e :: es) [] pos) (tE1 C σ0 E (eMethX orc c z id mo ms)) :=
  ⟨fun pins s σ H Q I ⟨e0, s0, M, r, hs, hm0, p⟩ => by
    subst e0
    have rd : tE C E0 mo σ H (fun x H1 => ∃ a dx fs, x = .ref a ∧ H1 a = some (.ins (C.cls c) dx fs) ∧ fs.lookup m = none ∧ tA C E0 (eAs ms) σ H1 fun vs H2 => spF C (orc id) n (.ref a :: vs) H2 Q E) :=
      tE_onX Kv_cl hs hm0 p fun v H1 r1 M1 w x1 m1 q1 s1 p1 => by
        cases w with
        | ref j =>
          have p1 : PG C E r1 H1 (match (fldO c M1[j]?).map (·.lookup z) with
            | some none => bnd (noX (eAs ms s0 M1)) fun vs M => orc id (.ref j :: vs) M
            | _ => none) (Kv C Q r1 H1) := p1
          split at p1
          · rename_i h
            obtain ⟨fs, h1, h2⟩ := meth_at (α := Unit) (o := none) h
            obtain ⟨a, dx, vs, ex, hh, hH, qs⟩ := ins_at m1 q1 rfl h1
            refine ⟨a, dx, _, ex, hH, by rw [hz]; exact zf_none qs h2, tA_onX Kv_cl s1 m1 p1 fun us H2 r2 M2 ws e x2 m2 q2 s2 p2 => ?_⟩
            exact ⟨by rw [List.length_cons, q2.length, eAs_len e, hn], r2, M2, .ref j :: ws, m2, RepWs.cons (by rw [← ex]; exact RepW.go x2 m1 _ _ q1) q2, p2⟩
          · exact p1.elim
        | _ => exact p1.elim
    refine PySem.W.methodCall_KW (pl := pl) (thn (ho.run pins s σ H _ I rd) fun u s1 ⟨x, H1, I1, rx, a, dx, fs, ex, ea, l, q⟩ => ?_) ht
    subst ex
    obtain rfl : u = Value.ref a := rx
    exact getmeth_ok I1 ea cl hm l (PySem.W.callWith_K (first := [.ref a]) (h₀ := X.base) I1.ok.mod.kin hm.kp (thn (ha.run pos pins s1 σ H1 _ I1 q) fun us s2 ⟨vs, H2, I2, rv, q2⟩ =>
      ⟨I2.kIn, goG1 (us := .ref a :: us) (vs := .ref a :: vs) F gd hr hb hx I2 (.cons rfl rv) q2⟩) hst hpl)⟩
theorem i_meth10 {pl : Sem Bool} (ho : PE X o (tE C E0 mo)) (cl : L2.Cls X.K (C.cls c)) (hm : Meth X.K (C.cls c) m f) (F : FnG X.prog X.w X.K X.mg X.base CX k f fd ps (spF C (orc id) 1)) (gd : X.A.guards = some []) (hr : Room k X.A) (hb : Binds X.K fd ps []) (hx : PassesAt CX X σ0 E)
    (hz : m = tx z := by rfl)
    (ht : eval (.Call (.Attribute o m apos) [] [] pos) X.env = (do
      let ov ← eval o X.env
      standAt apos.atName
      let (f, first) ← holding [ov] (getMethod ov m pl)
      callWith pos f first (backTo pos (starEach [] X.env)) (backToKw pos (keywordEach [] X.env))) := by rfl) :
    PE X (.Call (.Attribute o m apos) [] [] pos) (tE1 C σ0 E (eMethX orc c z id mo [])) :=
  ⟨fun pins s σ H Q I ⟨e0, s0, M, r, hs, hm0, p⟩ => by
    subst e0
    have rd : tE C E0 mo σ H (fun x H1 => ∃ a dx fs, x = .ref a ∧ H1 a = some (.ins (C.cls c) dx fs) ∧ fs.lookup m = none ∧ spF C (orc id) 1 [.ref a] H1 Q E) :=
      tE_onX Kv_cl hs hm0 p fun v H1 r1 M1 w x1 m1 q1 s1 p1 => by
        cases w with
        | ref j =>
          have p1 : PG C E r1 H1 (match (fldO c M1[j]?).map (·.lookup z) with
            | some none => orc id [.ref j] M1
            | _ => none) (Kv C Q r1 H1) := p1
          split at p1
          · rename_i h
            obtain ⟨fs, h1, h2⟩ := meth_at (α := Unit) (o := none) h
            obtain ⟨a, dx, vs, ex, hh, hH, qs⟩ := ins_at m1 q1 rfl h1
            exact ⟨a, dx, _, ex, hH, by rw [hz]; exact zf_none qs h2, rfl, r1, M1, [.ref j], m1, RepWs.one (by rw [← ex]; exact q1), p1⟩
          · exact p1.elim
        | _ => exact p1.elim
    refine PySem.W.methodCall_KW (pl := pl) (thn (ho.run pins s σ H _ I rd) fun u s1 ⟨x, H1, I1, rx, a, dx, fs, ex, ea, l, q⟩ => ?_) ht
    subst ex
    obtain rfl : u = Value.ref a := rx
    exact getmeth_ok I1 ea cl hm l (PySem.W.callWith_K0 (first := [.ref a]) I1.kIn hm.kp (goG1 (us := [.ref a]) (vs := [.ref a]) F gd hr hb hx I1 (.cons rfl .nil) q))⟩
/-! statements -/
theorem i_expr1 {m : EM} (h : PE X e (tE1 C σ0 E m)) (hs : swapsWith e none pos.line X.env = pure false := by rfl) : PS X (.Expr e pos) (tS1 C σ0 E (sExp m)) :=
  PS.imp (ps_expr h hs) fun _ _ _ ⟨e0, _, _, _, hs, hm, p⟩ => ⟨e0, tE_on Ks_cl hs hm p fun v H1 r1 M1 w x1 m1 q1 s1 p1 => p1 _ H1 r1 (Mono.refl _ _) m1 s1⟩
theorem i_st1 (i : Nat) {x : Str} {m : EM} {pos' : Pos} (hN : X.N.Nodup) (he : PE X e (tE1 C σ0 E m)) (hi : X.N[i]? = some x := by rfl) (hx : Loc X.env.scope x := by first | exact Or.inl rfl | exact Or.inr rfl)
    (hs : swapsWith e (some (.Name x pos')) pos.line X.env = pure false := by rfl) (hf : X.fn x = true ∨ X.env.scope.names.lookup x = some .local := by first | exact .inl rfl | exact .inr rfl) : PS X (.Assign [.Name x pos'] e pos) (tS1 C σ0 E (sAsg (.one i) m)) :=
  PS.imp (ps_set hN hi hx he hs hf) fun _ _ _ ⟨e0, _, _, _, hs, hm, p⟩ => ⟨e0, tE_on Ks_cl hs hm p fun v H1 r1 M1 w x1 m1 q1 s1 p1 => p1 _ H1 r1 (Mono.refl _ _) m1 (s1.put q1)⟩
theorem i_sif1 {t : Expr} {a b : List Stmt} {mc : EM} {ma mb : SM} (hc : PT X t (tT C E0 mc)) (ha : PSs X a (tS1 C σ0 E ma)) (hb : PSs X b (tS1 C σ0 E mb)) : PS X (.If t a b pos) (tS1 C σ0 E (sIfX mc ma mb)) :=
  PS.imp (ps_if hc ha hb) fun D σ H ⟨e0, s, M, r, hs, hm, p⟩ => by
    have p : PG C E r H (bnd (noX (mc s M)) fun x M => match x with
      | .bl true => ma s M
      | .bl false => mb s M
      | _ => none) (Ks C D r H) := p
    refine ⟨s, M, r, hs, hm, ?_⟩
    cases e : mc s M with
    | none => rw [e] at p; exact p.elim
    | some u =>
      obtain ⟨u, M1⟩ := u
      rw [e] at p
      cases u with
      | error x => exact p.elim
      | ok w =>
        cases w with
        | bl k =>
          refine ⟨k, rfl, fun H1 r1 x1 m1 => ?_⟩
          cases k with
          | true => exact iteT ⟨e0, s, M1, r1, hs.go x1 hm, m1, PG.go Ks_cl x1 m1 p⟩
          | false => exact iteF ⟨e0, s, M1, r1, hs.go x1 hm, m1, PG.go Ks_cl x1 m1 p⟩
        | _ => exact p.elim
theorem i_sone1 {st : Stmt} {m : SM} (h : PS X st (tS1 C σ0 E m)) : PSs X [st] (tS1 C σ0 E m) := pss_one h
end
end
end Sw

set_option autoImplicit false
set_option Elab.async false
set_option linter.all false
set_option maxRecDepth 100000
set_option maxHeartbeats 2000000
/-! try .. except X as n, the caught one laid in the store; isinstance of it. -/
namespace Sw
open PySem PySem.Spec L2
open PyProof.Rows (AllBare envOfC)
section
variable {X : Cx} {pins : List (Addr × Obj)} {σ : L2.St} {H : Hp} {s sI s' : Shared} {B : Heap} {a : Addr}
theorem extT_ok {P : Program} {w : World} {H : Hp} {h : Heap} {cls : Value} {d : Option Addr} {oe : Obj} {vs : Array Value} (e : h.get? a = some oe) (z : L2.Zc cls d oe) (k : oe.data = .fields vs) : ObjOk P w H h a (ExT cls d a) :=
  ⟨⟨oe, vs, e, z, k⟩, ⟨oe, e⟩, fun _ _ ⟨o, v, q1, q2, q3⟩ keep => ⟨o, v, keep o q1, q2, q3⟩⟩
/-- the state behind a catch, the caught one being tracked -/
theorem landT {cls : Value} {d : Option Addr} {oe : Obj} {vs : Array Value} (J : Inv X pins σ H sI) (nb : ∀ b o, sI.heap.get? b = some o → b ∉ frs X.stack → B.get? b = some o) (st : B.StaysIn s'.heap)
    (up : sI.heap.UpToSlots s'.heap) (os : s'.os = sI.os) (ag : AllBare s'.gens) (na : H a = none) (n0 : sI.heap.get? a = none) (he : s'.heap.get? a = some oe) (hz : L2.Zc cls d oe) (hd : oe.data = .fields vs) :
    Inv X pins σ (upd H a (ExT cls d a)) s' := by
  have nf : ∀ b ∈ frs X.stack, ∀ o, sI.heap.get? b = some o → ∃ sl, s'.heap.get? b = some { o with slots := sl } := fun b hb o e => by
    obtain ⟨_, o', e', hnf⟩ := J.stack.mem hb
    rw [e] at e'; cases e'
    exact up b o e hnf
  have ne : ∀ b o, sI.heap.get? b = some o → b ≠ a := fun b o e z => by rw [z, n0] at e; cases e
  have ne2 : ∀ b o, H b = some o → b ≠ a := fun b o e z => by rw [z, na] at e; cases e
  have h0 : HOk X.prog X.w H s'.heap := (J.inGround nb).kept st
  have h1 : HOk X.prog X.w (upd H a (ExT cls d a)) s'.heap := fun b u e => by
    by_cases hb : b = a
    · subst hb
      rw [upd_same] at e
      cases e
      exact extT_ok he hz hd
    · rw [upd_ne hb] at e
      exact (h0 b u e).stay (fun _ _ _ q => q) (fun c q => by rw [upd_ne (ne2 _ _ q)]; exact q) fun c xs q => by rw [upd_ne (ne2 _ _ q)]; exact q
  have fin := J.call (ch := []) (h' := s'.heap) (g' := s'.gens) (t' := s'.toks) (d' := s'.drawn) (H' := upd H a (ExT cls d a))
    ⟨(fun b o e _ hb _ => st b o (nb b o e hb)), (fun b o e _ hb _ => nf b hb o e), (fun b o e n _ => by rw [upd_ne (ne b o e)]; exact n), (fun b o e _ => by
      by_cases hb : b ∈ frs X.stack
      · obtain ⟨sl, q⟩ := nf b hb o e
        exact ⟨_, q⟩
      · exact ⟨o, st b o (nb b o e hb)⟩), (fun b _ e => by rw [upd_ne (ne2 _ _ e)]; exact e), (fun b _ _ e => by rw [upd_ne (ne2 _ _ e)]; exact e), fun b ps e => ⟨#[], by rw [upd_ne (ne2 _ _ e), e]; simp⟩⟩
    h1 ag (fun _ z => nomatch z)
  obtain ⟨c1, c2, c3, c4, c5⟩ := s'
  obtain rfl : c5 = sI.os := os
  exact fin
theorem suiteT (I : Inv X pins σ H s) (a : Addr) : Inv (X.suite a (X.pn ++ pins)) [] σ H s :=
  ⟨I.ok.suite _ _, I.os, I.bare, I.base, I.loc, I.cell, I.free, I.freeC, fun p hp => I.pin p (by rw [List.append_nil] at hp; exact hp), I.hok, I.len⟩
theorem unsuiteT {pn' : List (Addr × Obj)} (I : Inv (X.suite a (X.pn ++ pins)) pn' σ H s) (ok : X.Ok) : Inv X pins σ H s :=
  ⟨ok, I.os, I.bare, I.base, I.loc, I.cell, I.free, I.freeC, fun p hp => I.pin p (List.mem_append_left _ hp), I.hok, I.len⟩
/-- what the clause wishes of an exception: the caught one is tracked -/
def wT (K : PySem.W.Frag) (c : Value) (i : Nat) (ts : TS) (Wout : WX) (D : Ends) : WX := fun cls d σ H =>
  ∃ b, PySem.W.exmOne K cls c = some b ∧
    (b = true → ∀ a, H a = none → ts { nx := fun σ' H' => D.nx (σ'.set i none) H', rt := D.rt, bk := fun σ' H' => D.bk (σ'.set i none) H', ct := fun σ' H' => D.ct (σ'.set i none) H' } (σ.set i (some (.ref a))) (upd H a (ExT cls d a))) ∧
    (b = false → Wout cls d σ H)
end
section
variable {X : Cx} {x n : Str} {c : Value} {i : Nat} {body suite : List Stmt} {b₀ : Stmt} {np pos pos' : Pos} {tb : WX → TS} {ts : TS} {Wout : WX}
theorem try_asT (hs : X.stack = X.env :: X.outer) (hf : X.env.frame = some X.env.locals) (hN : X.N.Nodup) (hi : X.N[i]? = some n) (hln : X.env.kindOf n = some .local) (hc : Names X x c) (tk : Takes X Wout)
    (hb : ∀ (W : WX) (pn : List (Addr × Obj)) (xe : Value → Shared → Prop), Takes (X.tr pn xe) W → PassesOwn (model X.prog X.w) X.A X.env xe → PSs (X.tr pn xe) body (tb W))
    (hsu : ∀ (a : Addr) (pn : List (Addr × Obj)), PSs (X.suite a pn) (b₀ :: suite) ts) :
    PS X (.Try body [.ExceptHandler (some (.Name x np)) (some n) (b₀ :: suite) pos'] [] [] pos) (fun D σ H => tb (wT X.K c i ts Wout D) D σ H) := by
  constructor
  intro pins s σ H D I h
  have ok := I.ok
  have hfr : X.A.frames = some (X.env :: X.outer) := by rw [ok.frames, hs]
  have hloc : Loc X.env.scope n := .inl hln
  generalize hE : (fun e s₁ => wpAny (model X.prog X.w) X.A (noteFrame e X.env) (fun _ s₂ => wpAny (model X.prog X.w) X.A (setFlight e none) (fun _ s₃ =>
    wpAny (model X.prog X.w) X.A (handleBy e X.env [.ExceptHandler (some (.Name x np)) (some n) (b₀ :: suite) pos']) (SP X pins D) X.xe s₃) X.xe s₂) X.xe s₁) = EE
  have caught : Takes (X.tr (X.pn ++ pins) EE) (wT X.K c i ts Wout D) := by
    intro u s' xx
    subst hE
    obtain ⟨a, B, sI, pins', σ', H', cls, d, rfl, J', nb, up, sky, na, os, ag, b, hb1, hyes, hno⟩ := xx
    have J : Inv X pins σ' H' sI := J'.ofTry ok
    have sky' : Sky B (X.env :: X.outer) a (Zc cls d) X.env.locals s'.heap := by rw [← hs]; exact sky
    refine Sky.land Zc.steady hfr hf sky' fun h3 fl3 up3 => ?_
    have J3 : Inv X pins σ' H' { s' with heap := h3 } := J.landed nb fl3.1 (up.trans up3) os ag
    obtain ⟨oe3, vs3, he3, hz3, hd3⟩ := fl3.there
    have nfr : a ∉ frs (X.env :: X.outer) := fun hm => by
      obtain ⟨_, o', e', hnf⟩ := fl3.2.2.1.mem hm
      rw [he3] at e'; cases e'
      exact hnf _ hd3
    have nI : sI.heap.get? a = none := by
      cases q : sI.heap.get? a with
      | none => rfl
      | some o =>
        have z := nb a o q (by rw [hs]; exact nfr)
        have z2 := fl3.2.1
        rw [z2] at z
        cases z
    have S3 := suiteT J3 a
    refine wpAny_handleBy_cons (codeAny_handlers_test ?_) (by intro q; cases q)
    have LT : PySem.W.Looks (model X.prog X.w) h3 (typeOf (.ref a)) cls := fun A Q E s k q => wpAny_typeOf_ref (k _ _ he3) (by rw [hz3.1]; exact q)
    have LM := PySem.W.exm_one (M := model X.prog X.w) (J3.kIn) LT hb1
    have test : ∀ {Q : Value → Shared → Prop} {E : Value → Shared → Prop}, Q c { s' with heap := h3 } → wpAny (model X.prog X.w) (X.A.mark (some (.ref a))) (eval (.Name x np) X.env) Q E { s' with heap := h3 } := by
      intro Q E q
      rcases hc with ⟨hg, hdbg, hm | ⟨hm, hv, hnn⟩⟩
      · exact ld_glob (X := X.suite a (X.pn ++ pins)) S3 hg hm q hdbg
      · exact ld_blt (X := X.suite a (X.pn ++ pins)) S3 hg hm hv q hnn hdbg
    refine test (LM.here ?_)
    match b, hb1, hyes, hno with
    | true, hb1, hyes, hno =>
      refine codeAny_handlers_suite_as (HandSPX.lands_againZ fl3 fun h4 fl4 up4 => ?_)
      obtain ⟨oe4, vs4, he4, hz4, hd4⟩ := fl4.there
      have J4 : Inv X pins σ' (upd H' a (ExT cls d a)) { s' with heap := h4 } := landT J nb fl4.1 ((up.trans up3).trans up4) os ag na nI he4 hz4 hd4
      refine store_ok (X := X.suite a (X.pn ++ pins)) (v := .ref a) (suiteT J4 a) hN hi hloc rfl (fun s5 S5 => ?_) (.inr hln)
      refine wpAny_mono ((hsu a (X.pn ++ pins)).run [] s5 _ _ _ S5 (hyes rfl a na)) (fun f s6 hsp => ?_) (fun _ _ z => False.elim z)
      have out : ∀ {σ6 : L2.St} {H6 : Hp} {Q : Shared → Prop}, Inv (X.suite a (X.pn ++ pins)) [] σ6 H6 s6 → (∀ s7, Inv X pins (σ6.set i none) H6 s7 → Q s7) →
          wpAny (model X.prog X.w) X.A (do bindName X.env n .none; unbindBehindTheSuite X.env n pos') (fun _ s7 => Q s7) X.xe s6 := fun S6 hq => gone_ok (unsuiteT S6 ok) hN hi hln hq
      match f, hsp with
      | .next, ⟨σ6, H6, S6, q6⟩ => exact out S6 fun s7 J7 => ⟨_, _, J7, q6⟩
      | .brk, ⟨σ6, H6, S6, q6⟩ => exact out S6 fun s7 J7 => ⟨_, _, J7, q6⟩
      | .cont, ⟨σ6, H6, S6, q6⟩ => exact out S6 fun s7 J7 => ⟨_, _, J7, q6⟩
      | .ret u, ⟨v6, σ6, H6, S6, r6, q6⟩ => exact out S6 fun s7 J7 => ⟨_, _, _, J7, r6, q6⟩
    | false, hb1, hyes, hno =>
      refine wpAny_handleBy_nil (A := X.A) ?_
      obtain ⟨k1, k2, k3, oe, vs, T, oT, ts', he, hz, hd, h1, hr⟩ := id fl3
      unfold PySem.passOn
      refine wpAny_bind (wpAny_field he hd h1 ?_)
      rw [if_neg (show ¬ ((Value.ref T == Value.none) = true) from by simp)]
      have fin : wpAny (model X.prog X.w) X.A (setFlight (.ref a) X.env.frame) (fun _ s4 => wpAny (model X.prog X.w) X.A (throw (.ref a) : Sem Flow) (SP X pins D) X.xe s4) X.xe { s' with heap := h3 } := by
        rw [hf]
        refine HandSPX.setFlight_upZ fl3 fun h4 hh4 up4 => wpAny_throw (tk _ _ ?_)
        exact ⟨a, B, sI, pins, σ', H', cls, d, rfl, J, nb, (up.trans up3).trans up4, .inr (.inr (by rw [hs]; exact hh4)), na, os, ag, hno rfl⟩
      first
        | exact wpAny_bind (wpAny_pure (wpAny_bind fin))
        | exact wpAny_bind fin
  refine wpAny_Try_except (wpAny_mono ((hb _ _ _ caught (by subst hE; exact PassesOwn.looking)).run [] s σ H D (I.toTry _) h) (fun f s1 hsp => ?_) (fun e s1 he => by subst hE; exact he))
  match f, hsp with
  | .next, ⟨σ', H', J', q⟩ => exact wpAny_execs_nil ⟨σ', H', J'.ofTry ok, q⟩
  | .brk, ⟨σ', H', J', q⟩ => exact ⟨σ', H', J'.ofTry ok, q⟩
  | .cont, ⟨σ', H', J', q⟩ => exact ⟨σ', H', J'.ofTry ok, q⟩
  | .ret u, ⟨v, σ', H', J', r, q⟩ => exact ⟨v, σ', H', J'.ofTry ok, r, q⟩
end
/-! ### the rules -/
section
variable {C : Rc} {E : XK} {X : Cx} {x n : Str} {cv : Value} {i : Nat} {body suite : List Stmt} {b₀ : Stmt} {np pos pos' : Pos} {mb ms : SM} {ct : Nat → Option Bool}
theorem RepS.none {H : Hp} {r : List Addr} {s : Sl} {σ : L2.St} (h : RepS C H r s σ) (i : Nat) : RepS C H r (s.set i Option.none) (σ.set i Option.none) := by
  refine ⟨by simp [h.1], fun j w e => ?_⟩
  by_cases hj : i = j
  · subst hj
    by_cases hi : i < s.length
    · rw [List.getElem?_set_self hi] at e; cases e
    · rw [List.getElem?_eq_none (by simpa using hi)] at e; cases e
  · rw [List.getElem?_set_ne hj] at e
    obtain ⟨v, e', q⟩ := h.2 j w e
    exact ⟨v, by rw [List.getElem?_set_ne hj]; exact e', q⟩
/-- try: one statement / except X as n: suite -/
theorem i_tryAs (i : Nat) (hs : X.stack = X.env :: X.outer) (hf : X.env.frame = some X.env.locals) (hN : X.N.Nodup) (hc : Names X x cv) (tk : Takes X (fun cls d _ H => E cls d H))
    (hct : ∀ k b, ct k = some b → PySem.W.exmOne X.K (.ref (C.cls k)) cv = some b)
    (hb : ∀ (pn : List (Addr × Obj)) (xe : Value → Shared → Prop) (σ0 : L2.St) (E1 : XK), PassesAt (L2.CX X.prog X.w) (X.tr pn xe) σ0 E1 → PSs (X.tr pn xe) body (tS1 C σ0 E1 mb))
    (hsu : ∀ (a : Addr) (pn : List (Addr × Obj)), PSs (X.suite a pn) (b₀ :: suite) (tS C E0 ms)) (hi : X.N[i]? = some n := by rfl) (hln : X.env.kindOf n = some .local := by rfl) :
    PS X (.Try body [.ExceptHandler (some (.Name x np)) (some n) (b₀ :: suite) pos'] [] [] pos) (tS C E (sTryAs ct i mb ms)) :=
  PS.imp (try_asT (tb := fun W D σ H => tS1 C σ (WE W σ) mb D σ H) (ts := tS C E0 ms) (Wout := fun cls d _ H => E cls d H) hs hf hN hi hln hc tk
    (fun W pn xe tk' _ => ⟨fun pins s σ H D I h => (hb pn xe σ (WE W σ) (passAt tk' σ)).run pins s σ H D I h⟩) hsu) fun D σ H ⟨s, M, r, hs, hm, p⟩ => by
    refine ⟨rfl, s, M, r, hs, hm, ?_⟩
    unfold sTryAs at p
    cases e : mb s M with
    | none => rw [e] at p; exact p.elim
    | some o =>
      obtain ⟨o, M'⟩ := o
      rw [e] at p
      cases o with
      | ok fl => exact p
      | error z =>
        intro c d H' r' x1 m1 rx
        dsimp only at p
        obtain ⟨ec, rx2⟩ := rx
        subst ec
        cases et : ct z.cls with
        | none => rw [et] at p; exact p.elim
        | some b =>
          rw [et] at p
          refine ⟨b, hct _ _ et, fun eb a ha => ?_, fun eb => ?_⟩
          · subst eb
            have p : PG C E r H (bnd (noX (ms (setS s i (.ref M'.length)) (M' ++ [.exc z.cls z.arg]))) fun fl M2 => (match fl with
              | .nx s' => ok (.nx (s'.set i none)) M2
              | .rt w => ok (.rt w) M2)) (Ks C D r H) := p
            have xa : Mono r' (r' ++ [a]) H' (upd H' a (ExT (.ref (C.cls z.cls)) d a)) := Mono.alloc ha
            have ma : RepM C (upd H' a (ExT (.ref (C.cls z.cls)) d a)) (r' ++ [a]) (M' ++ [.exc z.cls z.arg]) := m1.alloc ha ⟨d, upd_same, rx2.imp id fun ⟨n1, b, f, v, y, ew, _, h1, h2, h3⟩ =>
              ⟨n1, b, f, v, y, ew, h1, by rw [upd_ne fun q => by rw [q, ha] at h2; cases h2]; exact h2, RepW.go xa m1 _ _ h3⟩⟩
            have xx := x1.trans m1 xa
            have sa : RepS C (upd H' a (ExT (.ref (C.cls z.cls)) d a)) (r' ++ [a]) (setS s i (.ref M'.length)) (σ.set i (some (.ref a))) :=
              RepS.put (hs.go xx hm) ⟨a, rfl, by rw [← m1.len, List.getElem?_append_right (Nat.le_refl _)]; simp⟩
            have p := PG.go Ks_cl xx ma p
            refine ⟨_, _, _, sa, ma, ?_⟩
            cases e2 : ms (setS s i (.ref M'.length)) (M' ++ [.exc z.cls z.arg]) with
            | none => rw [e2] at p; exact p.elim
            | some o2 =>
              obtain ⟨o2, M2⟩ := o2
              rw [e2] at p
              cases o2 with
              | error y => exact p.elim
              | ok fl =>
                cases fl with
                | nx s' => exact fun σ' H2 r2 x2 m2 s2 => p (σ'.set i none) H2 r2 x2 m2 (s2.none i)
                | rt w => exact p
          · subst eb
            exact p _ _ H' r' x1 m1 ⟨rfl, rx2⟩
/-- try: one statement / except X: suite -/
theorem i_try (hs : X.stack = X.env :: X.outer) (hf : X.env.frame = some X.env.locals) (hc : Names X x cv) (tk : Takes X (fun cls d _ H => E cls d H))
    (hct : ∀ k b, ct k = some b → PySem.W.exmOne X.K (.ref (C.cls k)) cv = some b)
    (hb : ∀ (pn : List (Addr × Obj)) (xe : Value → Shared → Prop) (σ0 : L2.St) (E1 : XK), PassesAt (L2.CX X.prog X.w) (X.tr pn xe) σ0 E1 → PSs (X.tr pn xe) body (tS1 C σ0 E1 mb))
    (hsu : ∀ (a : Addr) (pn : List (Addr × Obj)), PSs (X.suite a pn) (b₀ :: suite) (tS C E0 ms)) :
    PS X (.Try body [.ExceptHandler (some (.Name x np)) none (b₀ :: suite) pos'] [] [] pos) (tS C E (sTry ct mb ms)) :=
  PS.imp (ps_try_only (tb := fun W D σ H => tS1 C σ (WE W σ) mb D σ H) (ts := fun _ _ _ => tS C E0 ms) (Wout := fun cls d _ H => E cls d H) hs hf hc tk
    (fun W pn xe tk' _ => ⟨fun pins s σ H D I h => (hb pn xe σ (WE W σ) (passAt tk' σ)).run pins s σ H D I h⟩) (fun a oe cls d pn _ _ => hsu a ((a, oe) :: pn))) fun D σ H ⟨s, M, r, hs, hm, p⟩ => by
    refine ⟨rfl, s, M, r, hs, hm, ?_⟩
    unfold sTry at p
    cases e : mb s M with
    | none => rw [e] at p; exact p.elim
    | some o =>
      obtain ⟨o, M'⟩ := o
      rw [e] at p
      cases o with
      | ok fl => exact p
      | error z =>
        intro c d H' r' x1 m1 rx
        dsimp only at p
        obtain ⟨ec, rx2⟩ := rx
        subst ec
        cases et : ct z.cls with
        | none => rw [et] at p; exact p.elim
        | some b =>
          rw [et] at p
          refine ⟨b, hct _ _ et, fun eb a ha => ?_, fun eb => ?_⟩
          · subst eb
            have p : PG C E r H (noX (ms s M')) (Ks C D r H) := p
            have p := PG.go Ks_cl x1 m1 p
            refine ⟨s, M', r', hs.go x1 hm, m1, ?_⟩
            cases e2 : ms s M' with
            | none => rw [e2] at p; exact p.elim
            | some o2 =>
              obtain ⟨o2, M2⟩ := o2
              rw [e2] at p
              cases o2 with
              | error y => exact p.elim
              | ok fl => exact p
          · subst eb
            exact p _ _ H' r' x1 m1 ⟨rfl, rx2⟩
end
end Sw

set_option autoImplicit false
set_option Elab.async false
set_option linter.all false
set_option maxRecDepth 100000
/-! isinstance of a caught one, constants of the module, slices, pop, sum, int. -/
namespace Sw
open PySem PySem.Spec L2
section
open PySem.W
variable {K : PySem.W.Frag} {x D : Addr} {ox : Obj}
theorem fo_data {C : Addr} {nm : Str} {a g : Value} {od : Option Obj} (hc : (clsIn K C).isSome = true) (ha : findIn K (.ref C) nm = some (some a)) (hg : specialIn K a "__get__" = some (some g)) (ht : takesIn K a = some true) : findObj K C od nm = some (.bind g a) := by
  obtain ⟨cd, hc⟩ := Option.isSome_iff_exists.mp hc
  simp only [findObj, hc, ha, hg, ht, Option.bind_some]
/-- the attribute __class__ of an error of an own class, with a dict or without -/
theorem kc_err {prog : Program} {w : World} {A : Around} {E : Value → Shared → Prop} {s : Shared} {od : Option Obj} {Q : Option Value → Shared → Prop} (c : ExcC K D) (X : K.In s.heap) (I : InstAt s.heap x ox D od) (h : Q (some (.ref D)) { s with toks := s.toks + 1 }) :
    wpAny (model prog w) A (getAttr? (.ref x) "__class__") Q E s := by
  have ic : (clsIn K D).isSome = true := by
    obtain ⟨cd, hc, _⟩ := any_some c.hd
    rw [hc]; rfl
  have hf : findObj K D od "__class__" = some (.bind (.builtin "getset_descriptor.__get__") (.builtin "object.__class__")) := fo_data ic c.ha c.hn c.ht
  obtain ⟨hp, g, d, t, os⟩ := s
  have T0 := I.type (M := model prog w)
  have T1 := looks_findIn (M := model prog w) X c.hg
  have T2 := looks_findIn (M := model prog w) X c.hk
  have T3 := looks_find (M := model prog w) X I hf
  have sub : Looks (model prog w) hp (isInstance (.ref x) (.type "BaseException")) true := T0.andThen (looks_subIn X c.hs)
  have f2 : (Value.builtin "BaseException.__getattribute__" == Value.builtin "object.__getattribute__") = false := by decide +kernel
  have f1 : (onTheHeap (Value.ref D) && Value.builtin "BaseException.__getattribute__" == Value.builtin "object.__getattribute__") = false := by rw [f2]; rfl
  unfold getAttr? getAttrBy? getAttrBy
  refine wpAny_bind (wpAny_mkText (wpAny_bind (wpAny_attempt (wpAny_holding (wpAny_bind (T0.at (wpAny_bind (T1.at ?_))))))))
  show wpAny _ _ (if (onTheHeap (Value.ref D) && Value.builtin "BaseException.__getattribute__" == Value.builtin "object.__getattribute__") = true then _ else _) _ _ _
  rw [f1, if_neg (by decide)]
  unfold getAttrByItsOwn hookBefore
  refine wpAny_bind ?_
  rw [if_pos (show onTheHeap (Value.ref D) = true from rfl)]
  refine T2.at (wpAny_bind (wpAny_attempt (wpAny_holding ?_)))
  unfold callGetattribute
  rw [show (false && onTheHeap (Value.builtin "BaseException.__getattribute__")) = false from rfl, if_neg Bool.false_ne_true]
  unfold boundAndCalled
  rw [PySem.F.excAttr_ValueError.ga.bind (.ref x)]
  refine wpAny_bind (wpAny_pure ?_)
  refine wpAny_call (codeAny_call_builtin (args := ⟨[.ref x, .str "__class__" t], []⟩) PySem.F.excAttr_ValueError.ga.plain PySem.F.entry_bexc_ga ?_)
  refine @check_slot (model prog w) _ _ ⟨hp, g, d, t + 1, os⟩ "BaseException.__getattribute__" "BaseException" "__getattribute__" (.ref x) [.str "__class__" t] [] _ (by decide +kernel) (by decide +kernel) sub (PySem.F.args_bexc_ga (.ref x) (.str "__class__" t)) ?_
  unfold Builtin.«object.__getattribute__»
  refine wpAny_bind (wpAny_of_eq (a := ((Value.ref x : Value), [Value.str "__class__" t])) (by first | rfl | (simp only [slotArgs]; rfl)) ?_)
  refine wpAny_bind (wpAny_pure (wpAny_bind (T0.at (wpAny_bind (T3.at ?_)))))
  refine wpAny_bind (wpAny_holding (wpAny_call (PySem.W.class_get (s := ⟨hp, g, d, t + 1, os⟩) (ox := ox) (od := od) X I c.hm ?_)))
  refine wpAny_pure ?_
  show wpAny _ _ (handedOut (.ref D)) _ _ _
  rw [handedOut_of (v := .ref D) rfl]
  first
    | exact wpAny_pure (wpAny_pure h)
    | exact wpAny_pure h
    | exact wpAny_pure (wpAny_bind (wpAny_pure (wpAny_pure h)))
theorem kitE (c : ExcC K D) : KitX K (.ref x) (.ref D) (fun h => ∃ od, InstAt h x ox D od) where
  ty := fun _ _ _ ⟨_, I⟩ => I.type
  it := fun _ _ X _ => by
    obtain ⟨cd, hc, _⟩ := any_some c.hd
    unfold clsIn at hc
    split at hc
    · rename_i c' d' cd' sl' ho
      exact fun A' Q' E' s' k q => by
        unfold isType loadHead
        exact wpAny_bind (wpAny_loadPart (k _ _ (X _ _ ho)) (wpAny_pure q))
    · cases hc
  ne := fun h tp dd its n sl X htp => by
    refine Bool.eq_false_iff.mpr fun q => ?_
    obtain rfl : D = tp := Value.ref.inj (beq_iff_eq.mp q)
    obtain ⟨cd, hc, _⟩ := any_some c.hd
    unfold clsIn at hc
    split at hc
    · rename_i c' d' cd' sl' ho
      cases (X _ _ ho).symm.trans htp
    · cases hc
  ca := fun X ⟨_, I⟩ k => kc_err c X I k
end
section
variable {X : Cx}
/-- isinstance(e, c), e a caught one that is kept -/
def rIsK (K : PySem.W.Frag) : List V → Hp → VK → Prop := fun xs H Q => ∃ (a D : Addr) (d : Option Addr) (c : V) (b : Bool), xs = [.ref a, c] ∧ H a = some (ExT (.ref D) d a) ∧ (d = none ∨ ∃ z fs, d = some z ∧ H z = some (.xd fs)) ∧ ExcC K D ∧
  ((∃ cv, (∀ u, RelV c u → u = cv) ∧ PySem.W.kitOne K (.ref D) cv = some b) ∨ ∃ (t : Addr) (cs : List Addr), c = .ref t ∧ H t = some (.tup (cs.map V.ref)) ∧ PySem.W.kitAny K (.ref D) (cs.map Value.ref) = some b) ∧ Q (.bl b) H
theorem vals_refs : ∀ {cs : List Addr} {us : List Value}, Vals (cs.map V.ref) us → us = cs.map Value.ref
  | [], us, h => by cases h; rfl
  | c :: cs, us, h => by
    cases h with
    | cons r t => rw [show _ = Value.ref c from r, vals_refs t]; rfl
theorem cr_isK : CallR X (.builtin "isinstance") (rIsK X.K) := by
  intro pins s σ H xs us Q I r h
  obtain ⟨a, D, d, c, b, rfl, ha, hd, ec, hk, q⟩ := h
  obtain ⟨u1, u2, rfl, r1, r2⟩ := L2.vals2 r
  obtain rfl : u1 = Value.ref a := r1
  obtain ⟨⟨oe, vs, he, hz, hv⟩, _, _⟩ := I.hok a _ ha
  have J : ∃ od, PySem.W.InstAt s.heap a oe D od := by
    have nc : PySem.W.notCls oe = true := by unfold PySem.W.notCls; rw [hv]
    rcases hd with rfl | ⟨z, fs, rfl, hzz⟩
    · exact ⟨none, he, hz.1, nc, by rw [hz.2]; trivial⟩
    · obtain ⟨mA, ⟨od, _, _, ho, _⟩, _⟩ : ObjOk X.prog X.w H s.heap z (.xd fs) := I.hok z _ hzz
      exact ⟨some od, he, hz.1, nc, by rw [hz.2]; exact ho⟩
  rcases hk with ⟨cv, hcv, e⟩ | ⟨t, cs, rfl, ht, e⟩
  · obtain rfl := hcv _ r2
    exact PySem.W.kia_one (kitE ec) I.kIn J e (fun z => nomatch z) fun tk => ⟨.bl b, H, I.kept (t' := tk) fun _ _ z => z, rfl, q⟩
  · obtain rfl : u2 = Value.ref t := r2
    obtain ⟨_, its, rv, ⟨oc, od, dt, sl⟩, ho, hc⟩ : ObjOk X.prog X.w H s.heap t (.tup (cs.map V.ref)) := I.hok t _ ht
    obtain rfl := vals_refs rv
    obtain ⟨hc1, n, hc2⟩ := hc
    dsimp only at hc1 hc2
    subst hc1 hc2
    exact PySem.W.kia_tup (kitE ec) I.kIn J ho e (fun z => nomatch z) fun tk => ⟨.bl b, H, I.kept (t' := tk) fun _ _ z => z, rfl, q⟩
end
end Sw

set_option autoImplicit false
set_option Elab.async false
set_option linter.all false
set_option maxRecDepth 100000
/-! Rules: isinstance of a caught one, constants of the module, slices, pop, sum, int. -/
namespace Sw
open PySem PySem.Spec L2
section
variable {C : Rc} {E : XK} {X : Cx}
theorem exc_at {H : Hp} {r : List Addr} {M : Mem} {w : W} {x : V} {sub : Nat → Option Bool} {Q : VK} (m : RepM C H r M) (q : RepW C H r w x) (p : PG C E r H (uIsE sub w M) (Kv C Q r H)) :
    ∃ a k d b, x = .ref a ∧ H a = some (ExT (.ref (C.cls k)) d a) ∧ (d = none ∨ ∃ z fs, d = some z ∧ H z = some (.xd fs)) ∧ sub k = some b ∧ Q (.bl b) H := by
  unfold uIsE at p
  split at p
  · rename_i j
    split at p
    · rename_i k w' hj
      split at p
      · rename_i b hb
        obtain ⟨a, e, ha⟩ := q
        obtain ⟨d, h1, h2⟩ := m.obj j a _ ha hj
        refine ⟨a, k, d, b, e, h1, ?_, hb, Kv_now m p rfl⟩
        rcases h2 with ⟨_, h⟩ | ⟨_, z, f, v, y, _, h3, h4, _⟩
        · exact .inl h
        · exact .inr ⟨z, _, h3, h4⟩
      · exact p.elim
    · exact p.elim
  · exact p.elim
/-- isinstance(e, T), e a caught one, T an own class or a built-in one -/
theorem i_isE {T : Expr} {e : Expr} {m : EM} {v : V} {cv : Value} {sub : Nat → Option Bool} {p pos : Pos} (hg : Gl X "isinstance") (hm : X.mg "isinstance" = none) (hT : PE X T (tC v)) (hcv : ∀ u, RelV v u → u = cv)
    (hk : ∀ k b, sub k = some b → ExcC X.K (C.cls k) ∧ PySem.W.kitOne X.K (.ref (C.cls k)) cv = some b) (ha : PE X e (tE C E m))
    (hs : starEach [e, T] X.env = (false, eval e X.env) :: starEach [T] X.env := by rfl) (hs2 : starEach [T] X.env = (false, eval T X.env) :: starEach [] X.env := by rfl)
    (hpl : (backTo pos (starEach [T] X.env)).any (·.1) = false := by rfl) : PE X (.Call (.Name "isinstance" p) [e, T] [] pos) (tE C E (eUn (uIsE sub) m)) :=
  PE.imp (pe_callB cr_isK hg hm PyProof.Rows.boot_isinstance (pa_cons ha (pa_cons hT pa_nil hs2) hs) (he := hs) (hpl := hpl)) fun σ H Q ⟨s, M, r, hs, hm, p⟩ => tE_on Kv_cl hs hm p fun x H1 r1 M1 w x1 m1 q1 s1 p1 => by
    obtain ⟨a, k, d, b, ex, h1, h2, h3, h4⟩ := exc_at m1 q1 p1
    subst ex
    exact ⟨a, C.cls k, d, v, b, rfl, h1, h2, (hk k b h3).1, .inl ⟨cv, hcv, (hk k b h3).2⟩, h4⟩
/-- class names in a tuple -/
inductive GlC (X : Cx) : List Expr → List Addr → Prop where
  | nil : GlC X [] []
  | cons {x : Str} {a : Addr} {pos : Pos} {es : List Expr} {cs : List Addr} (hg : Gl X x) (hm : X.mg x = some (.ref a)) (h : GlC X es cs) (hd : (x == ("__debug__" : Str)) = false := by decide)
      (hs : starEach (.Name x pos :: es) X.env = (false, eval (.Name x pos) X.env) :: starEach es X.env := by rfl) : GlC X (.Name x pos :: es) (a :: cs)
def tGlC (cs : List Addr) : TA := fun _ H Q => Q (cs.map V.ref) H
theorem pa_gl {es : List Expr} {cs : List Addr} (h : GlC X es cs) : PA X es (tGlC cs) := by
  induction h with
  | nil => exact PA.imp pa_nil fun σ H Q h => h
  | cons hg hm h hd hs ih => exact PA.imp (pa_cons (pe_glob hg hm (v := .ref _) rfl hd) ih hs) fun σ H Q h => h
theorem i_isET {es : List Expr} {cs : List Addr} {e : Expr} {m : EM} {sub : Nat → Option Bool} {p pos tpos : Pos} {tk : _} (hg : Gl X "isinstance") (hm : X.mg "isinstance" = none) (hT : GlC X es cs) (hl : cs.length ≤ 100)
    (hk : ∀ k b, sub k = some b → ExcC X.K (C.cls k) ∧ PySem.W.kitAny X.K (.ref (C.cls k)) (cs.map Value.ref) = some b) (ha : PE X e (tE C E m))
    (hs : starEach [e, .Tuple es tk tpos] X.env = (false, eval e X.env) :: starEach [.Tuple es tk tpos] X.env := by rfl) (hs2 : starEach [.Tuple es tk tpos] X.env = (false, eval (.Tuple es tk tpos) X.env) :: starEach [] X.env := by rfl)
    (hpl : (backTo pos (starEach [.Tuple es tk tpos] X.env)).any (·.1) = false := by rfl) : PE X (.Call (.Name "isinstance" p) [e, .Tuple es tk tpos] [] pos) (tE C E (eUn (uIsE sub) m)) :=
  PE.imp (pe_callB cr_isK hg hm PyProof.Rows.boot_isinstance (pa_cons ha (pa_cons (pe_tup (pa_gl hT)) pa_nil hs2) hs) (he := hs) (hpl := hpl)) fun σ H Q ⟨s, M, r, hs, hm, p⟩ => tE_on Kv_cl hs hm p fun x H1 r1 M1 w x1 m1 q1 s1 p1 => by
    refine ⟨by rw [List.length_map]; exact Nat.le_trans hl (by decide), fun t ht => ?_⟩
    obtain ⟨a, k, d, b, ex, h1, h2, h3, h4⟩ := exc_at (M := M1) (H := upd H1 t (.tup (cs.map V.ref))) (r := r1) (m1.temp ht) (RepW.go (Mono.temp ht) m1 _ _ q1) (PG.go Kv_cl (Mono.temp ht) (m1.temp ht) p1)
    subst ex
    exact ⟨a, C.cls k, d, .ref t, b, rfl, h1, h2, (hk k b h3).1, .inr ⟨t, cs, rfl, upd_same, (hk k b h3).2⟩, h4⟩
/-! constants of the module -/
theorem i_glS {x : Str} {z : Tx} {pos : Pos} (hg : Gl X x) (hm : ∃ t, X.mg x = some (.str (tx z) t)) (hd : (x == ("__debug__" : Str)) = false := by decide) : PE X (.Name x pos) (tE C E (eC (.str z))) :=
  have ⟨t, hm⟩ := hm
  i_C (pe_glob hg hm (v := .str (tx z)) ⟨t, rfl⟩ hd) fun _ _ => rfl
theorem i_glI {x : Str} {z : Int} {pos : Pos} (hg : Gl X x) (hm : ∃ t, X.mg x = some (.int z t)) (hd : (x == ("__debug__" : Str)) = false := by decide) : PE X (.Name x pos) (tE C E (eC (.int z))) :=
  have ⟨t, hm⟩ := hm
  i_C (pe_glob hg hm (v := .int z) ⟨t, rfl⟩ hd) fun _ _ => rfl
theorem i_glT {x : Str} {ws : List W} {vs : List V} {a : Addr} {pos : Pos} (hK : C.K = X.K) (hg : Gl X x) (hm : X.mg x = some (.ref a)) (hq : ∀ H, SqT X.K H a vs) (hr : ∀ H r, RepWs C H r ws vs) (hd : (x == ("__debug__" : Str)) = false := by decide) : PE X (.Name x pos) (tE C E (eC (.tup ws))) :=
  i_C (pe_glob hg hm (v := .ref a) rfl hd) fun H r => ⟨a, vs, rfl, by rw [hK]; exact hq H, hr H r⟩
/-! chains -/
theorem i_tchainE {op op' : CmpOp} {f f' : Op2} {a b c : Expr} {ma mb mc : EM} {pos : Pos} (ho : OpR X (compareOp op) (r2 C E f)) (ho' : OpR X (compareOp op') (r2 C E f')) (ha : PE X a (tE C E ma)) (hb : PE X b (tE C E mb)) (hc : PE X c (tE C E mc))
    (hm : lastMarks [op, op'] [b, c] = false := by with_unfolding_all rfl) : PT X (.Compare a [op, op'] [b, c] pos) (tT C E (eChain f f' ma mb mc)) := i_tchain ho ho' ha hb hc hm
/-! slices -/
def Ko (C : Rc) (Q : Option Int → Hp → Prop) : KT (Option Int) := fun r H o M => ∀ H' r', Mono r r' H H' → RepM C H' r' M → Q o H'
def tO (C : Rc) (E : XK) (m : Option EM) : TO := fun σ H Q => ∃ s M r, RepS C H r s σ ∧ RepM C H r M ∧ PG C E r H (evO m s M) (Ko C Q r H)
theorem i_pn : PO X none (tO C E none) := ⟨fun pins s σ H Q I ⟨s0, M, r, hs, hm, p⟩ => po_none.run pins s σ H Q I (p H r (Mono.refl _ _) hm)⟩
theorem i_ps {e : Expr} {m : EM} (h : PE X e (tE C E m)) : PO X (some e) (tO C E (some m)) := ⟨fun pins s σ H Q I ⟨s0, M, r, hs, hm, p⟩ => (po_some h).run pins s σ H Q I (by
  have p : PG C E r H (bnd (m s0 M) fun x M => match x with
    | .int i => ok (some i) M
    | _ => none) (Ko C Q r H) := p
  refine ⟨s0, M, r, hs, hm, ?_⟩
  cases e : m s0 M with
  | none => rw [e] at p; exact p.elim
  | some o =>
    obtain ⟨o, M1⟩ := o
    rw [e] at p
    cases o with
    | error x => exact p
    | ok w =>
      cases w with
      | int i => exact fun v H' r' x' m' q => ⟨i, q, p H' r' x' m'⟩
      | _ => exact p.elim)⟩
theorem tO_on {β : Type} {m : Option EM} {f : Option Int → Mem → Out β} {K : KT β} {Q : Option Int → Hp → Prop} {σ : L2.St} {s : Sl} {H : Hp} {r : List Addr} {M : Mem} (cl : Cl C K) (hs : RepS C H r s σ) (hm : RepM C H r M) (h : PG C E r H (bnd (evO m s M) f) (K r H))
    (k : ∀ o H1 r1 M1, Mono r r1 H H1 → RepM C H1 r1 M1 → RepS C H1 r1 s σ → PG C E r1 H1 (f o M1) (K r1 H1) → Q o H1) : tO C E m σ H Q :=
  ⟨s, M, r, hs, hm, (h.fst cl).imp fun a M1 _ q H1 r1 x m1 => k a H1 r1 M1 x m1 (hs.go x hm) (q r1 H1 x m1)⟩
theorem sIx_eq (n d : Nat) (o : Option Int) : sIxW n d o = HT.sIx n d o := by cases o <;> rfl
theorem cut_rep {H : Hp} {r : List Addr} {ws : List W} {vs : List V} (q : RepWs C H r ws vs) (lo hi : Option Int) : RepWs C H r (cutX ws lo hi) (cutV vs lo hi) := by
  unfold cutX cutV
  rw [sIx_eq, sIx_eq, ← q.length]
  exact (q.drop _).take _
theorem i_sl {e : Expr} {m : EM} {lo hi : Option Expr} {ml mh : Option EM} {p2 pos : Pos} (he : PE X e (tE C E m)) (hl : PO X lo (tO C E ml)) (hh : PO X hi (tO C E mh)) : PE X (.Subscript e (.Slice lo hi none p2) pos) (tF C E (lSl m ml mh)) :=
  PE.imp (pe_slice sl_list he hl hh) fun σ H Q ⟨s, M, r, hs, hm, p⟩ => by
    refine tE_on Kf_cl hs hm p fun x H1 r1 M1 w x1 m1 q1 s1 p1 => tO_on Kf_cl s1 m1 p1 fun a H2 r2 M2 x2 m2 s2 p2 => tO_on Kf_cl s2 m2 p2 fun b H3 r3 M3 x3 m3 s3 p3 => ?_
    have q3 := RepW.go x3 m2 _ _ (RepW.go x2 m1 _ _ q1)
    split at p3
    · rename_i j
      split at p3
      · rename_i ws hj
        split at p3
        · rename_i hl
          obtain ⟨c, vs, ex, hc, h1, q⟩ := lst_at m3 q3 hj
          refine ⟨c, vs, ex, .inl (.inl h1), fun z hz => ?_⟩
          have hlen : (cutX ws a b).length ≤ 1000000 := by
            have := of_decide_eq_true hl
            unfold cutX
            rw [List.length_take, List.length_drop]
            omega
          exact p3 z (cutV vs a b) _ r3 (Mono.temp hz) (m3.temp hz) (RepWs.go (Mono.temp hz) m3 _ _ (cut_rep q a b)) upd_same (m3.new hz) hz hlen
        · exact p3.elim
      · exact p3.elim
    · exact p3.elim
theorem tx_cutS (z : Tx) (lo hi : Option Int) : cutS (tx z) lo hi = tx (cutX z lo hi) := by
  have e : (tx z).length = z.length := tx_len z
  unfold cutS cutX
  rw [e, sIx_eq, sIx_eq]
theorem i_slS {e : Expr} {m : EM} {lo hi : Option Expr} {ml mh : Option EM} {p2 pos : Pos} (he : PE X e (tE C E m)) (hl : PO X lo (tO C E ml)) (hh : PO X hi (tO C E mh)) : PE X (.Subscript e (.Slice lo hi none p2) pos) (tE C E (eSlS m ml mh)) :=
  PE.imp (pe_slice sl_str he hl hh) fun σ H Q ⟨s, M, r, hs, hm, p⟩ => by
    refine tE_on Kv_cl hs hm p fun x H1 r1 M1 w x1 m1 q1 s1 p1 => tO_on Kv_cl s1 m1 p1 fun a H2 r2 M2 x2 m2 s2 p2 => tO_on Kv_cl s2 m2 p2 fun b H3 r3 M3 x3 m3 s3 p3 => ?_
    have q3 := RepW.go x3 m2 _ _ (RepW.go x2 m1 _ _ q1)
    split at p3
    · rename_i z
      split at p3
      · rename_i hl
        exact ⟨tx z, q3, by rw [tx_len]; exact many_le hl, by rw [tx_cutS]; exact Kv_now m3 p3 rfl⟩
      · exact p3.elim
    · exact p3.elim
/-! pop -/
theorem seqIx {n : Nat} {i : Int} {k : Nat} (h : ixW n i = some k) : seqIndex? i n = some k := by
  unfold ixW at h
  unfold seqIndex?
  by_cases h0 : 0 ≤ i
  · rw [if_pos h0] at h
    have n0 : ¬ i < 0 := by omega
    simp only [if_neg n0]
    by_cases h1 : i < n
    · rw [if_pos h1] at h
      rw [if_pos (by simp [h0, h1])]
      exact h
    · rw [if_neg h1] at h; cases h
  · rw [if_neg h0] at h
    have n0 : i < 0 := by omega
    simp only [if_pos n0]
    by_cases h1 : 0 ≤ i + n
    · rw [if_pos h1] at h
      have h2 : i + (n : Int) < n := by omega
      rw [if_pos (by simp [h1, h2])]
      exact h
    · rw [if_neg h1] at h; cases h
theorem RepWs.erase {H : Hp} {r : List Addr} : ∀ {ws : List W} {vs : List V} (k : Nat), RepWs C H r ws vs → RepWs C H r (ws.eraseIdx k) (vs.eraseIdx k)
  | [], vs, k, h => by rw [show vs = [] from h]; simp [RepWs]
  | w :: ws, vs, 0, h => by
    obtain ⟨v, vr, rfl, p, q⟩ := h
    exact q
  | w :: ws, vs, k + 1, h => by
    obtain ⟨v, vr, rfl, p, q⟩ := h
    exact ⟨v, vr.eraseIdx k, rfl, p, RepWs.erase k q⟩
theorem m_pop0 : MtR X "list.pop" (rM C E fPop0) := MtR.imp mt_pop fun x xs H Q ⟨r, M, w, ws, m, q, qs, p⟩ => by
  obtain ⟨j, us, a, vs, e, ha, hj, h1, q1, p⟩ := onL_go m q p
  subst e
  split at p
  · obtain rfl := (show xs = [] from qs)
    split at p
    · rename_i w hw
      rw [List.getLast?_eq_getElem?] at hw
      obtain ⟨y, hy, qy⟩ := q1.get hw
      have q2 : RepWs C H r us.dropLast vs.dropLast := by
        rw [List.dropLast_eq_take, List.dropLast_eq_take, q1.length]
        exact q1.take _
      obtain ⟨x', m'⟩ := wr_lst m ha h1 q2
      exact ⟨a, vs, y, rfl, rfl, h1, by rw [q1.length]; exact hy, p y _ r x' m' (RepW.go x' m _ _ qy)⟩
    · exact p.elim
  · exact p.elim
theorem m_popAt : MtR X "list.pop" (rM C E fPopAt) := MtR.imp mt_popAt fun x xs H Q ⟨r, M, w, ws, m, q, qs, p⟩ => by
  obtain ⟨j, us, a, vs, e, ha, hj, h1, q1, p⟩ := onL_go m q p
  subst e
  split at p
  next i pp =>
    obtain ⟨y0, yr, rfl, qy0, hyr⟩ := qs
    obtain rfl := hyr
    obtain rfl : y0 = .int i := qy0
    split at p
    · rename_i n hn
      split at p
      · rename_i hmn
        split at p
        · rename_i w hw
          obtain ⟨y, hy, qy⟩ := q1.get hw
          have q2 := RepWs.erase n q1
          obtain ⟨x', m'⟩ := wr_lst m ha h1 q2
          have hb : -(2 ^ 63) ≤ i ∧ i < 2 ^ 63 := by
            have h5 := of_decide_eq_true hmn
            unfold ixW at hn
            split at hn
            · split at hn
              · constructor <;> omega
              · cases hn
            · split at hn
              · constructor <;> omega
              · cases hn
          exact ⟨a, vs, i, n, y, rfl, rfl, h1, hb.1, hb.2, by rw [q1.length]; exact seqIx hn, hy, p y _ r x' m' (RepW.go x' m _ _ qy)⟩
        · exact p.elim
      · exact p.elim
    · exact p.elim
  next => exact p.elim
theorem i_pop0 {o : Expr} {mo : EM} {apos cpos : Pos} (hK : C.K = X.K) (hw : C.w = X.w) (ho : PE X o (tE C E mo)) (hbase : attributeBase o "pop" X.env (eval o X.env) = eval o X.env := by rfl) (hline : (apos.endLine == cpos.line) = true := by rfl) :
    PE X (.Call (.Attribute o "pop" apos) [] [] cpos) (tE C E (eM 2 fPop0 mo [])) :=
  i_m0 (k := 2) hK hw (by decide) PySem.F.plainAttrs_list PySem.F.slot_list_pop PySem.F.type_list_pop m_pop0 ho hbase hline
theorem i_popAt {o e : Expr} {mo me : EM} {apos cpos : Pos} (hK : C.K = X.K) (hw : C.w = X.w) (ho : PE X o (tE C E mo)) (he : PE X e (tE C E me)) (hbase : attributeBase o "pop" X.env (eval o X.env) = eval o X.env := by rfl)
    (hfew : ((backTo cpos (starEach [e] X.env)).all (fun x => !x.1) && (backToKw cpos (keywordEach [] X.env)).all (fun x => x.1.isSome)
      && decide ([e].length + ([] : List Keyword).length + (if ([] : List Keyword).isEmpty then 0 else 1) < 30)) = true := by rfl)
    (hline : (apos.endLine == cpos.line) = true := by rfl) (hs : starEach [e] X.env = (false, eval e X.env) :: starEach [] X.env := by rfl) :
    PE X (.Call (.Attribute o "pop" apos) [e] [] cpos) (tE C E (eM 2 fPopAt mo [me])) :=
  i_m (k := 2) hK hw (by decide) PySem.F.plainAttrs_list PySem.F.slot_list_pop PySem.F.type_list_pop m_popAt ho (i_cons he i_nil hs) hbase hfew hline hs rfl
/-! sum, int -/
theorem ints_vals {H : Hp} {r : List Addr} : ∀ {ws : List W} {vs : List V} {bs : List Int}, intsOf ws = some bs → RepWs C H r ws vs → vs = bs.map V.int
  | [], vs, bs, h, q => by cases h; exact q
  | w :: ws, vs, bs, h, q => by
    obtain ⟨v, vr, rfl, p, q⟩ := q
    cases w with
    | int b =>
      unfold intsOf at h
      cases e : intsOf ws with
      | none => rw [e] at h; cases h
      | some bs' =>
        rw [e] at h
        cases h
        rw [ints_vals e q, show v = .int b from p]
        rfl
    | _ => cases h
theorem i_sum {x : Expr} {l : LM} {p pos : Pos} (hc : X.calm = true) (hg : Gl X "sum") (hm : X.mg "sum" = none) (hv : bootBuiltins "sum" = some (.builtin "sum")) (h : PE X x (tF C E l)) (na : starEach [x] X.env = (false, eval x X.env) :: starEach [] X.env := by rfl) :
    PE X (.Call (.Name "sum" p) [x] [] pos) (tE C E (eL fSum l)) :=
  PE.imp (pe_callB (cr_sum hc) hg hm hv (pa_cons h pa_nil na) (he := na) (hpl := rfl)) fun σ H Q ⟨s, M, r, hs, hm, p⟩ => tF_on Kv_cl hs hm p fun a vs H1 r1 M1 ws x1 m1 q1 ha hn h0 hl s1 p1 => by
    unfold fSum at p1
    cases e : intsOf ws with
    | none => rw [e] at p1; exact p1.elim
    | some bs =>
      rw [e] at p1
      have hv := ints_vals e q1
      exact ⟨a, bs, rfl, .inl (.inl (by rw [← hv]; exact ha)), p1 _ H1 r1 (Mono.refl _ _) m1 rfl⟩
theorem i_intC {x : Expr} {m : EM} {p pos : Pos} (hg : Gl X "int") (hm : X.mg "int" = none) (hv : bootBuiltins "int" = some (.type "int")) (h : PE X x (tE C E m)) (na : starEach [x] X.env = (false, eval x X.env) :: starEach [] X.env := by rfl) :
    PE X (.Call (.Name "int" p) [x] [] pos) (tE C E (eUn uInt m)) :=
  PE.imp (pe_callTy call_int1 hg hm hv (pa_cons h pa_nil na) (he := na) (hpl := rfl)) fun σ H Q ⟨s, M, r, hs, hm, p⟩ => tE_on Kv_cl hs hm p fun v H1 r1 M1 w x1 m1 q1 s1 p1 => by
    cases w with
    | int i => exact .inl ⟨i, congrArg (· :: []) q1, Kv_now m1 p1 rfl⟩
    | bl b => exact .inr ⟨b, congrArg (· :: []) q1, Kv_now m1 p1 rfl⟩
    | _ => exact p1.elim
end
end Sw

set_option autoImplicit false
set_option Elab.async false
set_option linter.all false
set_option maxRecDepth 100000
/-! What the printer wants besides; the hook with facts of one's own. -/
namespace Sw
open PySem PySem.Spec L2
section
variable {C : Rc} {E : XK} {X : Cx}
theorem i_abs {x : Expr} {m : EM} {p pos : Pos} (hg : Gl X "abs") (hm : X.mg "abs" = none) (hv : bootBuiltins "abs" = some (.builtin "abs")) (h : PE X x (tE C E m)) (na : starEach [x] X.env = (false, eval x X.env) :: starEach [] X.env := by rfl) :
    PE X (.Call (.Name "abs" p) [x] [] pos) (tE C E (eUn uAbs m)) :=
  PE.imp (pe_callB call_abs hg hm hv (pa_cons h pa_nil na) (he := na) (hpl := rfl)) fun σ H Q ⟨s, M, r, hs, hm, p⟩ => tE_on Kv_cl hs hm p fun v H1 r1 M1 w x1 m1 q1 s1 p1 => by
    cases w with
    | int i =>
      refine ⟨i, congrArg (· :: []) q1, ?_⟩
      have e : (if i < 0 then -i else i) = (i.natAbs : Int) := by split <;> omega
      rw [e]
      exact Kv_now m1 p1 rfl
    | _ => exact p1.elim
theorem i_tisN {a : Expr} {m : EM} {j : Nat} {pos pos' : Pos} (ha : PE X a (tE C E m)) : PT X (.Compare a [.Is] [.Constant .none j pos'] pos) (tT C E (eUn uIsN m)) :=
  PT.imp (pt_cmpR op_isN ha pe_non (nomark _)) fun σ H Q ⟨_, _, _, hs, hm, p⟩ => tE_on Kb_cl hs hm p fun v H1 r1 M1 w x1 m1 q1 s1 p1 => by
    obtain ⟨b, e, k⟩ := p1
    cases e
    exact ⟨rfl, _, rfl, by rw [non_iff q1]; exact k H1 r1 (Mono.refl _ _) m1⟩
theorem i_tnoN {a : Expr} {m : EM} {j : Nat} {pos pos' : Pos} (ha : PE X a (tE C E m)) : PT X (.Compare a [.IsNot] [.Constant .none j pos'] pos) (tT C E (eUn uNoN m)) :=
  PT.imp (pt_cmpR op_notN ha pe_non (nomark _)) fun σ H Q ⟨_, _, _, hs, hm, p⟩ => tE_on Kb_cl hs hm p fun v H1 r1 M1 w x1 m1 q1 s1 p1 => by
    obtain ⟨b, e, k⟩ := p1
    cases e
    exact ⟨rfl, _, rfl, by rw [non_iff q1]; exact k H1 r1 (Mono.refl _ _) m1⟩
theorem i_sstop {ss : List Stmt} : PSs X ss (tS C E sStop) := ⟨fun pins s σ H D I ⟨_, _, _, _, _, p⟩ => p.elim⟩
end
def clsBody : Stmt → List Stmt
  | .ClassDef _ _ _ b _ _ _ _ _ _ _ => b
  | _ => []
namespace PyB
theorem b_ValueError : bootBuiltins "ValueError" = some (.type "ValueError") := by decide +kernel
end PyB
/-! ### the hook: facts of the library's kind, and of one's own -/
abbrev Fy := PySem.W.Frag → Bool
def obsX (fa : List He.Fa) (fx : List Fy) (fn : List He.DefD) (K : PySem.W.Frag) : He.AlD := (((fa.all fun f => f.ok K) && fx.all fun f => f K) && fn.all fun d => d.ok K, fn.map fun d => He.fnW K d.at_)
def SaysX (fa : List He.Fa) (fx : List Fy) (fn : List He.DefD) (K : PySem.W.Frag) : Prop := obsX fa fx fn K = He.valD fn
def obsXG (n : Nat) (fa : List He.Fa) (fx : List Fy) (fn : List He.DefD) (g : Addr → Option Obj) : He.AlD := obsX fa fx fn (He.frG g (He.asD g n ++ [PySem.cStatics]))
def hookX (n : Nat) (fa : List He.Fa) (fx : List Fy) (fn : List He.DefD) : PySem.W.Hook where
  α := He.AlD
  obs := fun s => obsXG n fa fx fn s.heap.get?
  val := fun _ => He.valD fn
  says := fun _ h => ∃ K : PySem.W.Frag, K.In h ∧ SaysX fa fx fn K
  of := fun _ _ e => ⟨_, He.frG_in, e⟩
  keeps := fun _ _ _ ⟨K, hK, c⟩ k => ⟨K, PySem.W.Frag.In.keeps hK k, c⟩
theorem obsXG_eq {n : Nat} {fa : List He.Fa} {fx : List Fy} {fn : List He.DefD} {g : Addr → Option Obj} {s : Shared} (h : ∀ a, g a = s.heap.get? a) : obsXG n fa fx fn g = (hookX n fa fx fn).obs s := by
  have e : g = s.heap.get? := funext h
  subst e
  rfl
section
variable {fa : List He.Fa} {fx : List Fy} {fn : List He.DefD} {K : PySem.W.Frag}
theorem SaysX.all (c : SaysX fa fx fn K) : (fa.all fun f => f.ok K) = true ∧ (fx.all fun f => f K) = true ∧ (fn.all fun d => d.ok K) = true := by
  have c1 : (((fa.all fun f => f.ok K) && fx.all fun f => f K) && fn.all fun d => d.ok K) = true := congrArg (fun z : He.AlD => z.1) c
  simp only [Bool.and_eq_true] at c1
  exact ⟨c1.1.1, c1.1.2, c1.2⟩
theorem SaysX.fact (c : SaysX fa fx fn K) (i : Nat) {f : He.Fa} (h : fa[i]? = some f := by rfl) : f.ok K = true := List.all_eq_true.mp c.all.1 f (List.mem_of_getElem? h)
theorem SaysX.own (c : SaysX fa fx fn K) (i : Nat) {f : Fy} (h : fx[i]? = some f := by rfl) : f K = true := List.all_eq_true.mp c.all.2.1 f (List.mem_of_getElem? h)
theorem SaysX.def_ (c : SaysX fa fx fn K) (i : Nat) {d : He.DefD} (h : fn[i]? = some d := by rfl) : ∃ fd, FunD K d.name d.qual d.params d.body d.scope (d.dvs K) (d.kws K) (He.fAd K d.at_) fd := by
  have e : fn.map (fun d => He.fnW K d.at_) = fn.map He.DefD.val := congrArg (fun z : He.AlD => z.2) c
  have e2 : (fn.map fun d => He.fnW K d.at_)[i]? = (fn.map He.DefD.val)[i]? := by rw [e]
  rw [List.getElem?_map, List.getElem?_map, h] at e2
  exact He.DefD.funD (Option.some.inj e2) (List.all_eq_true.mp c.all.2.2 d (List.mem_of_getElem? h))
end
/-! facts of one's own -/
def excB (K : PySem.W.Frag) (D : Addr) : Bool := decide (PySem.W.findIn K (.ref D) "__getattribute__" = some (some (.builtin "BaseException.__getattribute__"))) && (decide (PySem.W.findIn K (.ref D) "__getattr__" = some none) && (decide (PySem.W.subIn K (.ref D) (.type "BaseException") = some true) &&
  (PySem.W.hasDictIn K D && (decide (PySem.W.findIn K (.ref D) "__class__" = some (some (.builtin "object.__class__"))) && (decide (PySem.W.specialIn K (.builtin "object.__class__") "__get__" = some (some (.builtin "getset_descriptor.__get__"))) &&
  (decide (PySem.W.takesIn K (.builtin "object.__class__") = some true) && decide (PySem.W.mroIn K D (.type "object") = some true)))))))
theorem excB_ok {K : PySem.W.Frag} {D : Addr} (h : excB K D = true) : ExcC K D := by
  unfold excB at h
  simp only [Bool.and_eq_true, decide_eq_true_eq] at h
  obtain ⟨h1, h2, h3, h4, h5, h6, h7, h8⟩ := h
  exact ⟨h1, h2, h3, h4, h5, h6, h7, h8⟩
/-- a class as isinstance and except take it -/
inductive Ct where
  | own (x : Str) | ty (n : String)
def Ct.v (K : PySem.W.Frag) : Ct → Value
  | .own x => .ref (He.ga K x)
  | .ty n => .type n
def kitB1 (x : Str) (c : Ct) (b : Bool) : Fy := fun K => decide (PySem.W.kitOne K (.ref (He.ga K x)) (c.v K) = some b)
theorem kitB1_ok {K : PySem.W.Frag} {x : Str} {c : Ct} {b : Bool} (h : kitB1 x c b K = true) : PySem.W.kitOne K (.ref (He.ga K x)) (c.v K) = some b := of_decide_eq_true h
def kitBA (x : Str) (cs : List Str) (b : Bool) : Fy := fun K => decide (PySem.W.kitAny K (.ref (He.ga K x)) ((cs.map (He.ga K)).map Value.ref) = some b)
theorem kitBA_ok {K : PySem.W.Frag} {x : Str} {cs : List Str} {b : Bool} (h : kitBA x cs b K = true) : PySem.W.kitAny K (.ref (He.ga K x)) ((cs.map (He.ga K)).map Value.ref) = some b := of_decide_eq_true h
def gloB (x : Str) : Fy := fun K => He.eqO (PySem.W.nsIn K mainGlobals x) (some (some (.ref (He.ga K x))))
def tupF (x : Str) (vs : List He.Dv) : Fy := fun K => He.tupB K x vs && He.eqO (PySem.W.nsIn K mainGlobals x) (some (some (.ref (He.ga K x))))
theorem tupF_ok {K : PySem.W.Frag} {h : Heap} {mg : Str → Option Value} {x : Str} {vs : List He.Dv} (X : K.In h) (G : h.Ns mainGlobals mg) (c : tupF x vs K = true) : mg x = some (.ref (He.ga K x)) ∧ ∀ H, SqT K H (He.ga K x) (vs.map (He.Dv.v K)) := by
  obtain ⟨c1, c2⟩ := Bool.and_eq_true_iff.mp c
  exact ⟨PySem.W.mg_of X G (He.eqO_ok c2), fun H => He.tupB_ok c1 H⟩
end Sw
namespace Sw
open PySem PySem.Spec L2
open PyProof.Rows (AllBare envOfC)
/-- a def, its garbage left -/
theorem i_defN {C : Rc} {P : Program} {w : World} {K : PySem.W.Frag} {mg : Str → Option Value} {base : Heap} {CX : CXT} {k : Nat} {f : Addr} {fd : FuncData} {N ps : List Str}
    {x qual : Str} {params : Arguments} {bd : List Stmt} {sc : Scope} (n np : Nat) (b : SM) (F : FunD K x qual params bd sc [] [] f fd) (S : FnScope N ps sc) (hn : N.length = n) (hp : ps.length = np)
    (hb : ∀ (cdv : Value) (A : Around) (outer : List Env) (s : Shared) (H : Hp) (E : XK), A.guards = some [] → Room k (A.deeper (envOfC qual sc s.heap.objs.size f cdv)) →
      PSs (cxOf CX P w K mg base N qual sc f cdv A outer s H E) bd (tS C E b)) :
    FnG P w K mg base CX (k + 1) f fd ps (spF C (fun ws M => Sw.body n b ws M) np) := by
  subst hn hp
  refine fnG F S (fun vs H Q E h => h.1) fun cdv A outer s H vs Q E gd room hsp => ⟨tS C E b, hb cdv A outer s H E gd room, ?_⟩
  obtain ⟨hl, r, M, ws, m, q, p⟩ := hsp
  refine ⟨Sw.start N.length ws, M, r, RepS_start q, m, ?_⟩
  unfold Sw.body at p
  dsimp only at p
  cases e : b (Sw.start N.length ws) M with
  | none => rw [e] at p; exact p.elim
  | some o =>
    obtain ⟨o, M'⟩ := o
    rw [e] at p
    cases o with
    | error x => exact p
    | ok fl =>
      cases fl with
      | nx s' => exact fun σ' H' r' x' m' s1 => p V.non H' r' x' m' rfl
      | rt u => exact p
/-- both ways -/
theorem i_defG {C : Rc} {P : Program} {w : World} {K : PySem.W.Frag} {mg : Str → Option Value} {base : Heap} {CX : CXT} {k : Nat} {f : Addr} {fd : FuncData} {N ps : List Str}
    {x qual : Str} {params : Arguments} {bd : List Stmt} {sc : Scope} (g : Bool) (n np : Nat) (b : SM) (F : FunD K x qual params bd sc [] [] f fd) (S : FnScope N ps sc) (hn : N.length = n) (hp : ps.length = np)
    (hb : ∀ (cdv : Value) (A : Around) (outer : List Env) (s : Shared) (H : Hp) (E : XK), A.guards = some [] → Room k (A.deeper (envOfC qual sc s.heap.objs.size f cdv)) →
      PSs (cxOf CX P w K mg base N qual sc f cdv A outer s H E) bd (tS C E b)) :
    FnG P w K mg base CX (k + 1) f fd ps (spF C (fun ws M => if g then gcO M (Sw.body n b ws M) else Sw.body n b ws M) np) := by
  cases g with
  | true => exact i_defn n np b F S hn hp hb
  | false => exact i_defN n np b F S hn hp hb
end Sw

set_option autoImplicit false
set_option Elab.async false
set_option linter.all false
set_option maxRecDepth 100000
/-! Rules: what texts are cut into and joined of, numbers in texts, insert. -/
namespace Sw
open PySem PySem.Spec L2
section
variable {C : Rc} {E : XK} {X : Cx}
theorem tl_tx (z : Tx) : TL.tl (tx z) = z := rfl
theorem split_tx {z S : Tx} (hS : S ≠ []) (hk : S.all (fun c => decide (c < 256)) = true) : Txt.split (tx z) (tx S) = (TL.spl S 0 [] z).map tx := by
  refine TL.map_tl_inj ?_
  rw [TL.split_spl (tx z) (tx S) hS (TL.kind_ok (by simpa [tx] using hk)), List.map_map]
  have : (TL.tl ∘ tx) = id := rfl
  rw [this, List.map_id]
theorem spl_len {z S : Tx} (hS : S ≠ []) (hk : S.all (fun c => decide (c < 256)) = true) : (TL.spl S 0 [] z).length ≤ z.length + 2 := by
  have h := PyProof.Rows.split_le (tx z) (tx S)
  rw [split_tx hS hk, List.length_map, tx_len] at h
  exact h
theorem strs_rep {H : Hp} {r : List Addr} : ∀ zs : List Tx, RepWs C H r (zs.map W.str) ((zs.map tx).map V.str)
  | [] => rfl
  | z :: zs => ⟨.str (tx z), (zs.map tx).map V.str, rfl, rfl, strs_rep zs⟩
theorem i_split {o e : Expr} {mo me : EM} {apos pos : Pos} (ho : PE X o (tE C E mo)) (he : PE X e (tE C E me)) (hs : starEach [e] X.env = [(false, eval e X.env)] := by rfl) (hbase : attributeBase o "split" X.env (eval o X.env) = eval o X.env := by rfl)
    (hline : (apos.endLine == pos.line) = true := by rfl) : PE X (.Call (.Attribute o "split" apos) [e] [] pos) (tF C E (lSplit mo me)) :=
  PE.imp (pe_split ho he hs hbase hline) fun σ H Q ⟨s, M, r, hs, hm, p⟩ => tE_on Kf_cl hs hm p fun x H1 r1 M1 w x1 m1 q1 s1 p1 => by
    cases w with
    | str z =>
      refine ⟨⟨tx z, q1⟩, tE_on Kf_cl s1 m1 p1 fun y H2 r2 M2 w2 x2 m2 q2 s2 p2 => ?_⟩
      cases w2 with
      | str S =>
        dsimp only at p2
        split at p2
        · rename_i hc
          rw [Bool.and_eq_true, Bool.and_eq_true, decide_eq_true_eq, decide_eq_true_eq] at hc
          obtain ⟨⟨h1, h2⟩, h3⟩ := hc
          refine ⟨tx z, tx S, q1, by rw [show y = .str (tx S) from q2], ?_, ?_, fun a ha => ?_⟩
          · rw [tx_len]
            cases S with
            | nil => exact absurd rfl h1
            | cons c S => rfl
          · rw [tx_len]
            exact Nat.le_trans (Nat.add_le_add_right h3 2) (by decide)
          · rw [split_tx h1 h2]
            have hl : ((TL.spl S 0 [] z).map W.str).length ≤ 1000000 := by
              have := spl_len (z := z) h1 h2
              rw [List.length_map]
              omega
            exact p2 a _ _ r2 (Mono.temp ha) (m2.temp ha) (strs_rep _) upd_same (m2.new ha) ha hl
        · exact p2.elim
      | _ => exact p2.elim
    | _ => exact p1.elim
theorem i_parti {o e : Expr} {mo me : EM} {apos pos : Pos} (ho : PE X o (tE C E mo)) (he : PE X e (tE C E me)) (hs : starEach [e] X.env = [(false, eval e X.env)] := by rfl) (hbase : attributeBase o "partition" X.env (eval o X.env) = eval o X.env := by rfl)
    (hline : (apos.endLine == pos.line) = true := by rfl) : PE X (.Call (.Attribute o "partition" apos) [e] [] pos) (tE C E (eParti mo me)) :=
  PE.imp (pe_partition ho he hs hbase hline) fun σ H Q ⟨s, M, r, hs, hm, p⟩ => tE_on Kv_cl hs hm p fun x H1 r1 M1 w x1 m1 q1 s1 p1 => by
    cases w with
    | str z =>
      refine ⟨⟨tx z, q1⟩, tE_on Kv_cl s1 m1 p1 fun y H2 r2 M2 w2 x2 m2 q2 s2 p2 => ?_⟩
      cases w2 with
      | str S =>
        dsimp only at p2
        split at p2
        · rename_i hc
          rw [Bool.and_eq_true, decide_eq_true_eq, decide_eq_true_eq] at hc
          obtain ⟨h1, h3⟩ := hc
          refine ⟨tx z, tx S, q1, by rw [show y = .str (tx S) from q2], ?_, ?_, fun a ha => ?_⟩
          · rw [tx_len]
            cases S with
            | nil => exact absurd rfl h1
            | cons c S => rfl
          · rw [tx_len]
            exact Nat.le_trans h3 (by decide)
          · have e := TL.partition_par (tx z) (tx S) h1
            rw [tl_tx, tl_tx] at e
            refine Kv_tup m2 p2 ?_ a ha
            rw [e]
            unfold partW
            cases TL.par S [] z with
            | none => exact ⟨_, _, rfl, rfl, _, _, rfl, rfl, _, _, rfl, rfl, rfl⟩
            | some uv => exact ⟨_, _, rfl, rfl, _, _, rfl, rfl, _, _, rfl, rfl, rfl⟩
        · exact p2.elim
      | _ => exact p2.elim
    | _ => exact p1.elim
theorem texts_rep {H : Hp} {r : List Addr} : ∀ {ws : List W} {vs : List V} {zs : List Tx}, textsOf ws = some zs → RepWs C H r ws vs → vs = (zs.map tx).map V.str
  | [], vs, zs, h, q => by cases h; exact q
  | w :: ws, vs, zs, h, q => by
    obtain ⟨v, vr, rfl, p, q⟩ := q
    cases w with
    | str z =>
      unfold textsOf at h
      cases e : textsOf ws with
      | none => rw [e] at h; cases h
      | some zs' =>
        rw [e] at h
        cases h
        rw [texts_rep e q, show v = .str (tx z) from p]
        rfl
    | _ => cases h
theorem join_tx {S : Tx} (zs : List Tx) : Txt.join (tx S) (zs.map tx) = tx (TL.joinL S zs) := by
  rw [TL.join_eq]
  refine TL.ext_tl ?_
  rw [TL.tl_join, List.map_map]
  have : (TL.tl ∘ tx) = id := rfl
  rw [this, List.map_id]
theorem i_join {o e : Expr} {mo : EM} {l : LM} {apos pos : Pos} (hK : C.K = X.K) (ho : PE X o (tE C E mo)) (he : PE X e (tR C E l)) (hs : starEach [e] X.env = [(false, eval e X.env)] := by rfl) (hbase : attributeBase o "join" X.env (eval o X.env) = eval o X.env := by rfl)
    (hline : (apos.endLine == pos.line) = true := by rfl) : PE X (.Call (.Attribute o "join" apos) [e] [] pos) (tE C E (eJoin mo l)) :=
  PE.imp (pe_join ho he hs hbase hline) fun σ H Q ⟨s, M, r, hs, hm, p⟩ => tE_on Kv_cl hs hm p fun x H1 r1 M1 w x1 m1 q1 s1 p1 => by
    cases w with
    | str S =>
      refine ⟨⟨tx S, q1⟩, tR_on Kv_cl s1 m1 p1 fun a vs H2 r2 M2 ws x2 m2 q2 sq s2 p2 => ?_⟩
      cases e : textsOf ws with
      | none => rw [e] at p2; exact p2.elim
      | some zs =>
        rw [e] at p2
        dsimp only at p2
        split at p2
        · rename_i hz
          have hv := texts_rep e q2
          subst hv
          rw [hK] at sq
          refine ⟨tx S, a, zs.map tx, q1, rfl, sq, ?_, ?_⟩
          · have e1 : (zs.map tx).map (fun x => x.length) = zs.map List.length := by
              rw [List.map_map]
              exact List.map_congr_left fun z _ => tx_len z
            rw [e1, List.length_map, tx_len]
            exact Nat.le_trans hz (by decide)
          · rw [join_tx]
            exact Kv_now m2 p2 rfl
        · exact p2.elim
    | _ => exact p1.elim
/-! numbers and texts -/
theorem i_strI {x : Expr} {m : EM} {p pos : Pos} (hg : Gl X "str") (hm : X.mg "str" = none) (hv : bootBuiltins "str" = some (.type "str")) (h : PE X x (tE C E m)) (na : starEach [x] X.env = (false, eval x X.env) :: starEach [] X.env := by rfl) :
    PE X (.Call (.Name "str" p) [x] [] pos) (tE C E (eUn uStrI m)) :=
  PE.imp (pe_callTy call_str_int hg hm hv (pa_cons h pa_nil na) (he := na) (hpl := rfl)) fun σ H Q ⟨s, M, r, hs, hm, p⟩ => tE_on Kv_cl hs hm p fun v H1 r1 M1 w x1 m1 q1 s1 p1 => by
    cases w with
    | int i =>
      unfold uStrI at p1
      dsimp only at p1
      split at p1
      · rename_i hi
        refine ⟨i, congrArg (· :: []) q1, hi, Kv_now m1 p1 ?_⟩
        show _ = V.str (tx (intTx i))
        unfold intTx
        rw [tx_cps]
      · exact p1.elim
    | _ => exact p1.elim
theorem i_intT {x : Expr} {m : EM} {p pos : Pos} (hg : Gl X "int") (hm : X.mg "int" = none) (hv : bootBuiltins "int" = some (.type "int")) (h : PE X x (tE C E m)) (na : starEach [x] X.env = (false, eval x X.env) :: starEach [] X.env := by rfl) :
    PE X (.Call (.Name "int" p) [x] [] pos) (tE C E (eUn uIntT m)) :=
  PE.imp (pe_callTy call_int_str hg hm hv (pa_cons h pa_nil na) (he := na) (hpl := rfl)) fun σ H Q ⟨s, M, r, hs, hm, p⟩ => tE_on Kv_cl hs hm p fun v H1 r1 M1 w x1 m1 q1 s1 p1 => by
    cases w with
    | str z =>
      unfold uIntT at p1
      dsimp only at p1
      split at p1
      · rename_i n hn
        split at p1
        · rename_i hl
          exact ⟨tx z, n, congrArg (· :: []) q1, hn, by rw [tx_len]; exact hl, Kv_now m1 p1 rfl⟩
        · exact p1.elim
      · exact p1.elim
    | _ => exact p1.elim
/-! insert -/
theorem m_insert : MtR X "list.insert" (rM C E fInsert) := MtR.imp mt_insert fun x xs H Q ⟨r, M, w, ws, m, q, qs, p⟩ => by
  obtain ⟨j, us, a, vs, e, ha, hj, h1, q1, p⟩ := onL_go m q p
  subst e
  split at p
  next i y pp =>
    obtain ⟨y0, yr, rfl, qy0, hyr⟩ := qs
    obtain ⟨y1, yr1, rfl, qy1, hyr1⟩ := hyr
    obtain rfl := hyr1
    obtain rfl : y0 = .int i := qy0
    split at p
    · rename_i hc
      have q2 : RepWs C H r (us.take i.toNat ++ [y] ++ us.drop i.toNat) (vs.take i.toNat ++ [y1] ++ vs.drop i.toNat) := ((q1.take _).app (RepWs.one qy1)).app (q1.drop _)
      obtain ⟨x', m'⟩ := wr_lst m ha h1 q2
      refine ⟨a, vs, i, y1, rfl, rfl, h1, ?_, hc.1, by omega, p .non _ r x' m' rfl⟩
      rw [q1.length]
      exact Nat.lt_of_lt_of_le hc.2.2 (by decide)
    · exact p.elim
  next => exact p.elim
theorem i_insert {o e f : Expr} {mo me mf : EM} {apos cpos : Pos} (hK : C.K = X.K) (hw : C.w = X.w) (ho : PE X o (tE C E mo)) (he : PE X e (tE C E me)) (hf : PE X f (tE C E mf)) (hbase : attributeBase o "insert" X.env (eval o X.env) = eval o X.env := by rfl)
    (hfew : ((backTo cpos (starEach [e, f] X.env)).all (fun x => !x.1) && (backToKw cpos (keywordEach [] X.env)).all (fun x => x.1.isSome)
      && decide ([e, f].length + ([] : List Keyword).length + (if ([] : List Keyword).isEmpty then 0 else 1) < 30)) = true := by rfl)
    (hline : (apos.endLine == cpos.line) = true := by rfl) (hs : starEach [e, f] X.env = (false, eval e X.env) :: starEach [f] X.env := by rfl) (hs2 : starEach [f] X.env = (false, eval f X.env) :: starEach [] X.env := by rfl) (hpl : (backTo cpos (starEach [f] X.env)).any (·.1) = false := by rfl) :
    PE X (.Call (.Attribute o "insert" apos) [e, f] [] cpos) (tE C E (eM 2 fInsert mo [me, mf])) :=
  i_m (k := 2) hK hw (by decide) PySem.F.plainAttrs_list PySem.F.slot_list_insert PySem.F.type_list_insert m_insert ho (i_cons he (i_cons hf i_nil hs2) hs) hbase hfew hline hs hpl
/-! a chain as a value -/
theorem i_chainV {op op' : CmpOp} {f f' : Op2} {a b c : Expr} {ma mb mc : EM} {pos : Pos} (ho : OpR X (compareOp op) (r2 C E f)) (ho' : OpR X (compareOp op') (r2 C E f')) (ha : PE X a (tE C E ma)) (hb : PE X b (tE C E mb)) (hc : PE X c (tE C E mc))
    (hm : lastMarks [op, op'] [b, c] = false := by with_unfolding_all rfl) : PE X (.Compare a [op, op'] [b, c] pos) (tE C E (eChain f f' ma mb mc)) :=
  PE.imp (pe_chain ho ho' ha hb hc hm) fun σ H Q ⟨s, M, r, hs, hm, p⟩ => by
    refine tE_on Kv_cl hs hm p fun x H1 r1 M1 w1 x1 m1 q1 s1 p1 => tE_on Kv_cl s1 m1 p1 fun y H2 r2 M2 w2 x2 m2 q2 s2 p2 => ?_
    have q1' := RepW.go x2 m1 _ _ q1
    refine ⟨r2, M2, w1, w2, m2, q1', q2, (p2.fst Kv_cl).imp fun k M3 _ g z H3 r3 x3 m3 qz => ?_⟩
    have g := g r3 H3 x3 m3
    cases k with
    | bl k =>
      refine ⟨k, qz, ?_⟩
      cases k with
      | false => exact iteF (Kv_now m3 g rfl)
      | true => exact iteT (tE_on Kv_cl (s2.go x3 m2) m3 g fun z H4 r4 M4 w3 x4 m4 q4 s4 p4 => ⟨r4, M4, w2, w3, m4, RepW.go x4 m3 _ _ (RepW.go x3 m2 _ _ q2), q4, p4⟩)
    | _ => exact g.elim
end
end Sw

set_option autoImplicit false
set_option Elab.async false
set_option linter.all false
set_option maxRecDepth 100000
/-! Rules: enumerate. -/
namespace Sw
open PySem PySem.Spec L2
section
variable {C : Rc} {E : XK} {X : Cx}
theorem numb_get : ∀ {ws : List W} {n i : Nat} {w : W}, (numb n ws)[i]? = some w → ∃ x, ws[i]? = some x ∧ w = .tup [.int ((n + i : Nat) : Int), x]
  | [], _, i, w, h => by simp [numb] at h
  | x :: ws, n, 0, w, h => by
    simp only [numb, List.getElem?_cons_zero, Option.some.injEq] at h
    exact ⟨x, rfl, h.symm⟩
  | x :: ws, n, i + 1, w, h => by
    simp only [numb, List.getElem?_cons_succ] at h
    obtain ⟨y, h1, h2⟩ := numb_get h
    exact ⟨y, h1, by rw [h2]; congr 3; omega⟩
theorem numb_len : ∀ {ws : List W} {n : Nat}, (numb n ws).length = ws.length
  | [], _ => rfl
  | _ :: ws, n => by simp [numb, numb_len (ws := ws)]
theorem wk_enum {H0 : Hp} {r0 : List Addr} {a : Addr} {ws : List W} {g : Option (Nat × O)} (h : ∀ r H M, Mono r0 r H0 H → RepM C H r M → still g M = true → ∃ vs, SqL C.K H a vs ∧ RepWs C H r ws vs) : Wk C (Ite C.K a) (numb 0 ws, g) r0 H0 := by
  intro r H M x m hst
  obtain ⟨vs, sq', q'⟩ := h r H M x m hst
  refine ⟨fun i w hi => ?_, vs, sq', by rw [q'.length]; show ws.length ≤ (numb 0 ws).length; rw [numb_len]; exact Nat.le_refl _⟩
  obtain ⟨y, hy, rfl⟩ := numb_get hi
  obtain ⟨v, hv, qv⟩ := q'.get hy
  refine ⟨⟨vs, v, sq', hv⟩, fun z H' ⟨T, u, e, hT, eH, k⟩ => ?_⟩
  subst e eH
  have := k vs sq'
  rw [hv] at this
  cases this
  refine ⟨Mono.temp hT, m.temp hT, T, [.int ((0 + i : Nat) : Int), v], rfl, ?_, RepWs.go (Mono.temp hT) m _ _ ⟨_, _, rfl, rfl, _, _, rfl, qv, rfl⟩⟩
  rw [Nat.zero_add]
  exact .inl (.inl upd_same)
theorem i_enum {e : Expr} {m : EM} {elts : List Expr} {kk : Nat} {p pos tpos : Pos} (hK : C.K = X.K) (hg : Gl X "enumerate") (hm : X.mg "enumerate" = none) (h : PE X e (tE C E m)) (hs : starEach [e] X.env = [(false, eval e X.env)] := by rfl) (hs1 : starEach [e] X.env = (false, eval e X.env) :: starEach [] X.env := by rfl) :
    PI X (.Tuple elts kk tpos) (.Call (.Name "enumerate" p) [e] [] pos) (tI C E (iEnumL m)) :=
  PI.imp (pi_enum hg hm (pa_cons h pa_nil hs1) hs) fun σ H R ⟨s, M, r, hs, hm, p⟩ => tE_on Ki_cl hs hm p fun v H1 r1 M1 w x1 m1 q1 s1 p1 => by
    split at p1
    · rename_i j
      split at p1
      · rename_i ws hj
        obtain ⟨a, vs, e, ha, h1, q⟩ := lst_at m1 q1 hj
        subst e
        refine ⟨a, vs, rfl, .inl (.inl h1), ?_⟩
        rw [← hK]
        refine p1 _ H1 r1 (Mono.refl _ _) m1 (wk_enum fun r H M x m hst => ?_)
        obtain ⟨vs', h1', q'⟩ := m.obj j a _ (x.ix ha) (still_iff hst)
        exact ⟨vs', .inl (.inl h1'), q'⟩
      · exact p1.elim
    · exact p1.elim
end
end Sw

set_option autoImplicit false
set_option Elab.async false
set_option linter.all false
set_option maxRecDepth 100000
/-! Rules: own exceptions that keep what they are given. -/
namespace Sw
open PySem PySem.Spec L2
section
variable {C : Rc} {E : XK} {X : Cx}
/-- Base.__init__(self, ..), Base an own class that stands as ValueError does -/
theorem pe_winit {x : Str} {W : Addr} {mc : Value} {e : Expr} {es : List Expr} {ta : TA} {p1 p2 pos : Pos} {pl : Sem Bool} (hg : Gl X x) (hm : X.mg x = some (.ref W)) (rc : ClX.CRead X.K W mc)
    (vV : PySem.W.findCls X.K (.ref W) mc "__init__" = some (.val (.builtin "ValueError.__init__"))) (ha : PA X (e :: es) ta) (hdb : (x == ("__debug__" : Str)) = false := by decide)
    (hc : eval (.Call (.Attribute (.Name x p1) "__init__" p2) (e :: es) [] pos) X.env = (do
      let ov ← eval (.Name x p1) X.env
      standAt p2.atName
      let (f, first) ← holding [ov] (getMethod ov "__init__" pl)
      callWith pos f first (backTo pos (starEach (e :: es) X.env)) (backToKw pos (keywordEach [] X.env))) := by rfl)
    (he : starEach (e :: es) X.env = (false, eval e X.env) :: starEach es X.env := by rfl) (hpl : (backTo pos (starEach es X.env)).any (·.1) = false := by rfl) :
    PE X (.Call (.Attribute (.Name x p1) "__init__" p2) (e :: es) [] pos) (tVeI X.K ta) := by
  refine ⟨fun pins s σ H Q I h => ?_⟩
  refine PySem.W.methodCall_KW (ld_glob I hg hm ?_ hdb) hc
  refine PySem.W.method_cls I.kIn rc.ga (PySem.W.cls_value I.kIn rc.rd vV (by decide +kernel) ?_)
  refine PyProof.Rows.callWith_method1 (thn (ha.run pos pins _ σ H _ (I.tok _) h) fun us s1 ⟨vs, H1, I1, r1, q1⟩ => ?_) he hpl
  obtain ⟨a, D, ws, ev, hl, T, ea, q⟩ := q1
  subst ev
  obtain ⟨u0, ur, rfl, ra, rw'⟩ : ∃ u0 ur, us = u0 :: ur ∧ RelV (.ref a) u0 ∧ Vals ws ur := by
    cases r1 with
    | cons ra rw' => exact ⟨_, _, rfl, ra, rw'⟩
  obtain rfl : u0 = Value.ref a := ra
  exact oinit_ok T I1 ea (by rw [← Paired.length rw', sizeLine_eq]; omega) fun s' J => ⟨.non, H1, J, rfl, q⟩
/-- what such a class's __init__ does -/
def spI (D : Addr) (f : Str) : Sp := fun vs H Q _ => ∃ a y, vs = [.ref a, y] ∧ H a = some (exo a D none) ∧ ∀ d, H d = none → d ≠ a → Q .non (upd (upd H d (exd d [(f, y)])) a (exo a D (some d)))
theorem spI_go {K : PySem.W.Frag} {D : Addr} {f n0 n1 : Str} {z : V} {vs : List V} {H : Hp} {Q : VK} {E : XK} (T : OexC K D) (hno : PySem.W.findIn K (.ref D) f = some none) (h : spI D f vs H Q E) :
    tSeq (tDrop (tVeI K (tCons (tVar 0) (tCons (tC z) tNil)))) (tOst K f (tVar 0) (tVar 1)) { nx := fun _ H' => Q .non H', rt := Q } (L2.start [n0, n1] vs) H := by
  obtain ⟨a, y, rfl, ha, q⟩ := h
  refine ⟨.ref a, rfl, a, D, [z], rfl, by simp, T, ha, ?_⟩
  exact ⟨y, rfl, .ref a, rfl, a, D, rfl, T, hno, .inl ⟨ha, q⟩⟩
theorem spI_len {D : Addr} {f x : Str} : ∀ vs H Q E, spI D f vs H Q E → vs.length = (["self", x] : List Str).length := fun _ _ _ _ ⟨_, _, e, _⟩ => by rw [e]; rfl
/-- raise X(e) -/
theorem i_raiseI {c : Nat} {f : Tx} {k : Nat} {fI : Addr} {fd : FuncData} {ps : List Str} {x : Str} {e : Expr} {m : EM} {p pos pos' : Pos} (hc : X.calm = true) (tk : Takes X (fun cls d _ H => E cls d H)) (T : OexC X.K (C.cls c))
    (iC : PySem.W.findIn X.K (.ref (C.cls c)) "__init__" = some (some (.ref fI))) (tI : PySem.W.typeIn X.K (.ref fI) = some (.type "function")) (F1 : FnOk X.prog X.w X.K X.mg X.base (L2.CX X.prog X.w) k fI fd ps (spI (C.cls c) (tx f)))
    (hr : Room (k + 1) X.A) (hb : Binds X.K fd ps []) (hg : Gl X x) (hm : X.mg x = some (.ref (C.cls c))) (he : PE X e (tE C E m)) (hdb : (x == ("__debug__" : Str)) = false := by decide)
    (hs : starEach [e] X.env = (false, eval e X.env) :: starEach [] X.env := by rfl) : PS X (.Raise (some (.Call (.Name x p) [e] [] pos)) none pos') (tS C E (sRaiseI c f m)) :=
  PS.imp (ps_raise hc tk (pmk_oex T iC tI F1 hr hb .nil (fun _ _ _ _ _ _ _ ⟨_, _, _, _, _, _, _, _, _, _, _, _, z⟩ => z.elim) hg hm (pa_cons he pa_nil hs) hdb hs rfl)) fun D σ H ⟨s, M, r, hs, hm, p⟩ =>
    tE_on Ks_cl hs hm p fun v H1 r1 M1 w x1 m1 q1 s1 p1 => by
      cases w with
      | int i =>
        obtain rfl : v = .int i := q1
        refine ⟨by simp, fun a ha => ⟨a, .int i, rfl, upd_same, fun d hd hne => ⟨rfl, d, [(tx f, .int i)], upd_same, by rw [upd_ne hne]; exact upd_same, ?_, ?_⟩⟩⟩
        · rw [upd_ne hne] at hd
          exact hd
        · have hd' : H1 d = none := by rw [upd_ne hne] at hd; exact hd
          have e : upd (del (upd (upd (upd H1 a (exo a (C.cls c) none)) d (exd d [(tx f, .int i)])) a (exo a (C.cls c) (some d))) a) d (.xd [(tx f, V.int i)]) = upd H1 d (.xd [(tx f, V.int i)]) := by
            funext b
            by_cases hb : b = d
            · rw [hb, upd_same, upd_same]
            · rw [upd_ne hb, upd_ne hb]
              by_cases hba : b = a
              · rw [hba, del_same, ha]
              · rw [del_ne hba, upd_ne hba, upd_ne hb, upd_ne hba]
          rw [e]
          exact p1 _ _ _ r1 (Mono.temp hd') (m1.temp hd') ⟨rfl, .inr ⟨by simp, d, f, .int i, .int i, rfl, rfl, rfl, upd_same, rfl⟩⟩
      | _ => exact p1.elim
/-- e.f of a caught one -/
theorem i_exF {c : Nat} {f : Tx} {n : Str} {e : Expr} {m : EM} {pos : Pos} (hK : C.K = X.K) (T : XfC X.K (C.cls c)) (hno : PySem.W.findIn X.K (.ref (C.cls c)) n = some none) (hn : tx f = n) (he : PE X e (tE C E m)) (hb : attributeBase e n X.env (eval e X.env) = eval e X.env := by rfl) :
    PE X (.Attribute e n pos) (tE C E (eUn (uExF c f) m)) := by
  refine ⟨fun pins s σ H Q I ⟨s0, M, r, hs, hm, p⟩ => ?_⟩
  have rd : tE C E m σ H (fun x H1 => ∃ a dd v, x = .ref a ∧ H1 a = some (ExT (.ref (C.cls c)) (some dd) a) ∧ H1 dd = some (.xd [(tx f, v)]) ∧ Q v H1) :=
    tE_on Kv_cl hs hm p fun v H1 r1 M1 w x1 m1 q1 s1 p1 => by
      unfold uExF at p1
      split at p1
      · rename_i j
        split at p1
        · rename_i k' g w' hj
          split at p1
          · rename_i hc
            obtain ⟨rfl, rfl⟩ := hc
            obtain ⟨a, e, ha⟩ := q1
            obtain ⟨d, h1, h2⟩ := m1.obj j a _ ha hj
            rcases h2 with ⟨h3, _⟩ | ⟨_, b, f', u, y, ew, h3, h4, h5⟩
            · cases h3
            · cases ew
              subst h3
              exact ⟨a, b, u, e, h1, h4, Kv_now m1 p1 h5⟩
          · exact p1.elim
        · exact p1.elim
      · exact p1.elim
  refine attr_of hb (thn (he.run pins s σ H _ I rd) fun u s1 hh => ?_)
  obtain ⟨x, H1, I1, rx, a, dd, v, ex, ea, ed, q⟩ := hh
  subst ex
  obtain rfl : u = Value.ref a := rx
  obtain ⟨⟨oe, vs, ha, hz, hd⟩, _, _⟩ := I1.hok a _ ea
  have hx : ObjOk X.prog X.w H1 s1.heap dd (.xd [(tx f, v)]) := I1.hok dd _ ed
  obtain ⟨mA, hns, hr⟩ := hx
  obtain ⟨od, ho, hl⟩ := lookIn_ns hns
  have l : [(tx f, v)].lookup n = some v := by rw [← hn]; simp [List.lookup]
  obtain ⟨u, hu, ru⟩ := RelO.some_of (v := v) (o := mA n) (by rw [← l]; exact hr n)
  have J : PySem.W.InstAt s1.heap a oe (C.cls c) (some od) := ⟨ha, hz.1, by unfold PySem.W.notCls; rw [hd] <;> rfl, by rw [hz.2]; exact ho⟩
  exact HandSPX.exc_get I1.kIn J T.ga T.gg T.exC (PySem.W.findObj_own T.hdC hno rfl (by rw [hl, hu])) (handed_of ru) ⟨v, H1, I1.tok _, ru, q⟩
end
end Sw

set_option autoImplicit false
set_option Elab.async false
set_option linter.all false
set_option maxRecDepth 100000
/-! Rules: tuples of dicts that hold the same are equal. -/
namespace Sw
open PySem PySem.Spec L2
section
open PySem.Calls PyProof.Rows PySem.W
open PySem.SeqAt (EqIn EqAt)
variable {P : Program} {w : World} {Ky : Type} [DecidableEq Ky] {kh : HeapKind P w Ky} {A : Around} {E : Value → Shared → Prop} {s : Shared}
/-- item by item: the same keys, values that are equal -/
def Alike (A : Around) (s : Shared) (us vs : List (Ky × Addr × Value)) : Prop := us.length = vs.length ∧ ∀ (i : Nat) (u v : Ky × Addr × Value), us[i]? = some u → vs[i]? = some v → u.1 = v.1 ∧ EqIn P w A s u.2.2 v.2.2 true
theorem pairsH_same {nm : String} {a b : Addr} {us vs : List (Ky × Addr × Value)} {Q : Bool → Shared → Prop} (ha : (a == sysModules) = false) (hb : (b == sysModules) = false) (du : s.heap.DictOfH kh a us) (dv : s.heap.DictOfH kh b vs)
    (room : kh.room A) (al : Alike (P := P) (w := w) A s us vs) (h : Q true s) : wpAny (model P w) A (Builtin.Dict.samePairs nm a b) Q E s := by
  obtain ⟨ou, fu, eu, gu, _, iu, lu, ku, _⟩ := du
  obtain ⟨ov, fv, ev, gv, _, iv, lv, kv, nv⟩ := dv
  have zu : fu.size = us.length := size_of_entries lu
  have zv : fv.size = vs.length := size_of_entries lv
  have zz : fu.size = fv.size := by rw [zu, zv]; exact al.1
  unfold Builtin.Dict.samePairs Builtin.Dict.showsAll
  rw [if_neg (by rw [ha]; decide), if_neg (by rw [hb]; decide)]
  refine wpAny_bind (wpAny_pure (wpAny_bind (wpAny_pure (wpAny_bind (wpAny_dictEntries gu iu ?_)))))
  dsimp only
  refine wpAny_bind (wpAny_dictEntries gv iv ?_)
  rw [if_neg (by rw [zz]; simp)]
  refine wpAny_bind (wpAny_dictEpoch gu iu (wpAny_bind ?_))
  rw [Std.Legacy.Range.forIn_eq_forIn_range']
  simp only [Std.Legacy.Range.size, Nat.sub_zero, Nat.add_sub_cancel, Nat.div_one]
  refine wpAny_forIn_list _ (fun rest q s' => s' = s ∧ q = (none, ()) ∧ ∃ i, rest = List.range' i (fu.size - i) ∧ i ≤ fu.size) _ ?_ ?_ _ _ ⟨rfl, rfl, 0, by simp, Nat.zero_le _⟩
  · rintro x rest q s' ⟨rfl, rfl, i, hr, hi⟩
    obtain ⟨n, hn⟩ : ∃ n, fu.size - i = n + 1 := by
      cases hz : fu.size - i with
      | zero => rw [hz] at hr; simp at hr
      | succ n => exact ⟨n, rfl⟩
    rw [hn, List.range'_succ] at hr
    injection hr with h1 h2
    subst h1
    have hlt : x < us.length := by omega
    have hlt' : x < vs.length := by rw [← al.1]; exact hlt
    obtain ⟨u, eu'⟩ : ∃ u, us[x]? = some u := ⟨_, List.getElem?_eq_getElem hlt⟩
    obtain ⟨v, ev'⟩ : ∃ v, vs[x]? = some v := ⟨_, List.getElem?_eq_getElem hlt'⟩
    obtain ⟨hkey, hval⟩ := al.2 x u v eu' ev'
    have gx : fu[x]? = some (entryOfKey kh u) := by rw [entry_at lu x, eu']; rfl
    have gy : fv[x]? = some (entryOfKey kh v) := by rw [entry_at lv x, ev']; rfl
    refine wpAny_bind (wpAny_dictEntries gu iu ?_)
    rw [gx]
    show wpAny _ _ (holding [(entryOfKey kh u).key, (entryOfKey kh u).val] _ >>= _) _ _ _
    refine wpAny_bind (wpAny_holding (wpAny_bind ?_))
    refine wpAny_dictFind_heap (k := u.1) room (ku u (List.mem_of_getElem? eu')) gv iv lv kv nv (fun no => ?_) fun j p hj => ?_
    · exact absurd (show vs[x]? = some (u.1, v.2) by rw [ev', hkey]) (no x v.2)
    · have hjx : j = x := by
        have e1 : (vs.map (·.1))[j]? = some u.1 := by rw [List.getElem?_map, hj]; rfl
        have e2 : (vs.map (·.1))[x]? = some u.1 := by rw [List.getElem?_map, ev', hkey]; rfl
        have b1 := (List.getElem?_eq_some_iff.mp e1).1
        exact (List.getElem?_inj b1 nv).mp (e1.trans e2.symm)
      subst hjx
      refine wpAny_bind (wpAny_dictEntries gv iv ?_)
      rw [gy]
      refine wpAny_holding (hval _ _ ?_)
      show wpAny _ _ (if (!true) = true then _ else _) _ _ _
      rw [if_neg (by decide)]
      refine wpAny_bind (wpAny_dictEpoch gu iu ?_)
      rw [if_neg (by simp)]
      have e3 : fu.size - (j + 1) = n := by omega
      exact wpAny_pure ⟨rfl, rfl, j + 1, by rw [e3]; exact h2, by omega⟩
  · rintro q s' ⟨rfl, rfl, i, hr, hi⟩
    exact wpAny_pure h
/-- d == e, both told alike -/
theorem dictsH_eq {a b : Addr} {us vs : List (Ky × Addr × Value)} {Q : Value → Shared → Prop} (ha : (a == sysModules) = false) (hb : (b == sysModules) = false) (du : s.heap.DictOfH kh a us) (dv : s.heap.DictOfH kh b vs)
    (room : kh.room A.in1) (hu : A.units < cLine) (al : Alike (P := P) (w := w) A.in1 s us vs) (h : Q (.bool true) s) : wpAny (model P w) A (richCompare .Eq (.ref a) (.ref b)) Q E s := by
  have go : wpAny (model P w) A (call (.builtin "dict.__eq__") [.ref a, .ref b]) (fun v s' => v ≠ .notImplemented ∧ Q v s') E s := by
    refine wpAny_call_entry PySem.F.slot_dict_eq du.typeIs PySem.F.entry_dict_eq ?_ (PySem.F.args_dict_eq_2 _ _)
    show wpAny _ _ (Builtin.Dict.dictSlotArgs "__eq__" ⟨[.ref a, .ref b], []⟩ >>= _) _ _ s
    unfold Builtin.Dict.dictSlotArgs
    refine wpAny_bind (wpAny_bind (wpAny_notOrdered_dict du.typeIs ?_))
    show wpAny _ _ (pure (Value.ref a, Value.ref b)) _ _ s
    refine wpAny_pure (wpAny_bind (wpAny_isInstance (U := "dict") dv.typeIs PySem.F.sub_dict_dict ?_))
    rw [if_neg (show ¬ (!true) = true by decide)]
    exact wpAny_bind (wpAny_pure (wpAny_bind (wpAny_pure (wpAny_bind (pairsH_same ha hb du dv room al (wpAny_pure ⟨_, rfl, (fun x => nomatch x), h⟩))))))
  exact wpAny_richCompare_same_room (op := .Eq) du.typeIs dv.typeIs PySem.F.slot_dict_eq go hu
end
theorem pd_get {α β : Type} {F : α → β → Prop} {as : List α} {bs : List β} (h : Paired F as bs) : ∀ {i : Nat} {b : β}, bs[i]? = some b → ∃ a, as[i]? = some a ∧ F a b := by
  induction h with
  | nil => intro i b e; simp at e
  | cons f _ ih =>
    intro i b e
    cases i with
    | zero =>
      simp only [List.getElem?_cons_zero, Option.some.injEq] at e
      subst e
      exact ⟨_, rfl, f⟩
    | succ i => exact ih (by simpa using e)
theorem pd_fwd {α β : Type} {F : α → β → Prop} {as : List α} {bs : List β} (h : Paired F as bs) : ∀ {i : Nat} {a : α}, as[i]? = some a → ∃ b, bs[i]? = some b ∧ F a b := by
  induction h with
  | nil => intro i b e; simp at e
  | cons f _ ih =>
    intro i b e
    cases i with
    | zero =>
      simp only [List.getElem?_cons_zero, Option.some.injEq] at e
      subst e
      exact ⟨_, rfl, f⟩
    | succ i => exact ih (by simpa using e)
section
open PySem.W
open PySem.SeqAt (EqIn EqAt)
theorem valueAt_nd {κ : Type} [DecidableEq κ] : ∀ {kb : List (κ × Value)} {i : Nat} {k : κ} {y : Value}, (kb.map (·.1)).Nodup → kb[i]? = some (k, y) → valueAt kb k = some y
  | [], i, k, y, _, e => by simp at e
  | (k', y') :: r, 0, k, y, _, e => by
    simp only [List.getElem?_cons_zero, Option.some.injEq, Prod.mk.injEq] at e
    unfold valueAt
    simp [e.1, e.2]
  | (k', y') :: r, i + 1, k, y, nd, e => by
    rw [List.map_cons, List.nodup_cons] at nd
    simp only [List.getElem?_cons_succ] at e
    have hm : k ∈ r.map (·.1) := List.mem_map.mpr ⟨(k, y), List.mem_of_getElem? e, rfl⟩
    have hne : k' ≠ k := fun z => nd.1 (by rw [z]; exact hm)
    have := valueAt_nd nd.2 e
    unfold valueAt at this ⊢
    rw [List.find?_cons_of_neg (by simpa using hne)]
    exact this
theorem hits_all {P : Program} {w : World} {κ : Type} [DecidableEq κ] {A : Around} {s : Shared} {kb : List (κ × Value)} : ∀ {ka : List (κ × Value)}, (∀ p ∈ ka, ∃ y, valueAt kb p.1 = some y ∧ EqIn P w A s p.2 y true) → KeqHitsIn P w A s kb ka true
  | [], _ => .nil
  | (k, v) :: r, h => by
    obtain ⟨y, h1, h2⟩ := h (k, v) List.mem_cons_self
    exact .hit (e := true) (b := true) h1 h2 (hits_all fun p hp => h p (List.mem_cons_of_mem _ hp))
variable {C : Rc} {E : XK} {X : Cx} {pins : List (Addr × Obj)} {σ : L2.St} {H : Hp} {s : Shared} {r : List Addr} {M : Mem}
/-- the same data, read twice -/
theorem eqIn_data {w : W} {v v' : V} {u u' : Value} {A : Around} (hK : C.K = X.K) (I : Inv X pins σ H s) (hd : isD w = true) (hp : dep w ≤ 20) (hu : A.units + 50 < cLine) (q : RepW C H r w v) (q' : RepW C H r w v') (ru : L2.RelV v u) (ru' : L2.RelV v' u') : EqIn X.prog X.w A s u u' true := by
  have d1 := RepW.dp w v hd q
  have d2 := RepW.dp w v' hd q'
  rw [hK] at d1 d2
  obtain ⟨as, ra⟩ := Dp.reads I _ _ _ d1 ru
  obtain ⟨bs, rb⟩ := Dp.reads I _ _ _ d2 ru'
  have h := PySem.SeqAt.eqAt_plain _ _ A s _ _ _ _ ra rb (toD_plain w) (toD_plain w) (by
    have := toD_depth w
    have : min (toD w).depth (toD w).depth ≤ (toD w).depth := Nat.min_le_left _ _
    omega)
  rw [PySem.SeqAt.eqv_refl_plain _ (toD_plain w)] at h
  exact h.inModel _ _
theorem dic_eqIn {kvs : List (W × W)} {a b : Addr} {A : Around} (hK : C.K = X.K) (hw : C.w = X.w) (I : Inv X pins σ H s) (hu : A.units + 60 < cLine) (hv : ∀ p ∈ kvs, isD p.2 = true ∧ dep p.2 ≤ 20)
    (da : DicAt C H r false kvs a) (db : DicAt C H r false kvs b) : EqIn X.prog X.w A s (.ref a) (.ref b) true := by
  by_cases hab : a = b
  · subst hab
    exact (PySem.SeqAt.EqAt.same _).inModel _ _
  refine PySem.SeqAt.EqIn.of_refs hab fun E Q hq => ?_
  have hu1 : A.in1.in1.units + 50 < cLine := by
    show A.units + 1 + 1 + 50 < cLine
    omega
  rcases da.obj with ⟨ht, xs, e1, qa⟩ | ⟨⟨hne, ht⟩, ha, xs, e1, qa⟩
  · rcases db.obj with ⟨_, ys, e2, qb⟩ | ⟨⟨hne', ht'⟩, _⟩
    · obtain ⟨_, ha, va, ka, Da⟩ := dk_rd I.hok e1.rd
      obtain ⟨_, hb, vb, kb, Db⟩ := dk_rd I.hok e2.rd
      have nb : (vb.map (·.1)).Nodup := by obtain ⟨_, _, _, _, _, _, _, _, n⟩ := Db; exact n
      have hl : va.length = vb.length := by rw [← ka.length, ← kb.length, ← qa.length, ← qb.length]
      have key := keq_eqIn (E := E) (A := A) (r := true) (Q := Q) ha hb Da Db (by omega) (fun _ => hits_all fun p hp => ?_) (by rw [hl]; simpa using hq)
      · exact key
      · obtain ⟨i, hi⟩ := List.mem_iff_getElem?.mp hp
        obtain ⟨x, hx, ex, rx⟩ := pd_get ka hi
        obtain ⟨kv, hkv, ek, rk⟩ := pd_get qa hx
        obtain ⟨y, hy, ek2, rk2⟩ := pd_fwd qb hkv
        obtain ⟨z, hz, ez, rz⟩ := pd_fwd kb hy
        have e5 : z.1 = p.1 := by rw [← ez, ← ek2, ek, ex]
        have hm := hv kv (List.mem_of_getElem? hkv)
        exact ⟨z.2, valueAt_nd nb (show vb[i]? = some (p.1, z.2) by rw [hz, ← e5]), eqIn_data hK I hm.1 hm.2 (by show A.units + 1 + 50 < cLine; omega) rk rk2 rx rz⟩
    · obtain ⟨p, hp⟩ := List.exists_mem_of_ne_nil _ hne'
      have := ht p hp
      rw [ht' p hp] at this
      cases this
  · obtain ⟨p, hp⟩ := List.exists_mem_of_ne_nil _ hne
    have ok : okKey kvs p.1 = true := by
      unfold okKey
      have hk := da.key p hp
      rw [hk.1, decide_eq_true hk.2]
      cases kvs with
      | nil => rfl
      | cons q rest => simp [ht q List.mem_cons_self, ht p hp]
    obtain ⟨ha, _, us, Da, pa⟩ := DicAt.tups hK hw I da ok (ht p hp)
    obtain ⟨hb, _, vs, Db, pb⟩ := DicAt.tups hK hw I db ok (ht p hp)
    have room : (nestedKind X.prog X.w).room A.in1 := by
      show A.units + 1 + 8 < cLine
      omega
    have al : Alike (P := X.prog) (w := X.w) A.in1 s us vs := by
      refine ⟨by rw [← pa.length, ← pb.length], fun i u v hu' hv' => ?_⟩
      obtain ⟨kv, hkv, ek, rk, x, rx, rx2⟩ := pd_get pa hu'
      obtain ⟨kv2, hkv2, ek2, rk2, y, ry, ry2⟩ := pd_get pb hv'
      rw [hkv] at hkv2
      cases hkv2
      have hm := hv kv (List.mem_of_getElem? hkv)
      exact ⟨ek.symm.trans ek2, eqIn_data hK I hm.1 hm.2 (by show A.units + 1 + 50 < cLine; omega) rx ry rx2 ry2⟩
    exact dictsH_eq ha hb Da Db room (by omega) al hq
end
end Sw

set_option autoImplicit false
set_option Elab.async false
set_option linter.all false
set_option maxRecDepth 100000
namespace PySem.SeqAt
open AutoSeq1 (wpAny_loadPart')
open MeetsSeq MeetsSeq2 MeetsSeq3 SeqRoads2
section
variable {P : Program} {W : World} {A : Around} {S : Shared}
/-- xs != ys, two tuples whose items are equal one by one -/
theorem neSame (p q : Addr) (us vs : Array Value) (n m : Nat) (d1 d2 : Option Addr) (t1 t2 : Array (Option Value)) (hz : us.size = vs.size) :
    MeetsIn P W (Builtin.«tuple.__ne__» ⟨[.ref p, .ref q], []⟩)
      (fun A R S => S.heap.get? p = some { cls := .type "tuple", dict := d1, data := .seq us n, slots := t1 } ∧ S.heap.get? q = some { cls := .type "tuple", dict := d2, data := .seq vs m, slots := t2 } ∧
        (∀ j (h1 : j < us.size) (h2 : j < vs.size), EqIn P W A.in1 S us[j] vs[j] true) ∧ R (.ok (.ret (.bool false))) S) :=
  .of_wp fun A R S h => by
    obtain ⟨hp, g, d, tk, os⟩ := S
    obtain ⟨g1, g2, each, fin⟩ := h
    have f2 := AutoSeq1.sub_tuple_tuple
    have len : (us.toList.zip vs.toList).length = us.size := by simp [hz]
    wp_walk using wpAny_loadPart' g1, wpAny_loadPart' g2, wpAny_forIn_list _ (fun rest c S' => c.1 = none ∧ S' = ⟨hp, g, d, tk, os⟩ ∧ ∃ i, rest = (us.toList.zip vs.toList).drop i) _
    case turn =>
      rintro ⟨y, x⟩ rest c S' ⟨hc, rfl, i, hr⟩
      have lt : i < (us.toList.zip vs.toList).length := by
        refine Nat.lt_of_not_le fun le => ?_
        rw [List.drop_of_length_le le] at hr
        cases hr
      have b1 : i < us.size := len ▸ lt
      have b2 : i < vs.size := hz ▸ b1
      rw [List.drop_eq_getElem_cons lt] at hr
      injection hr with e1 e2
      have ey : y = us[i] := by simpa using congrArg Prod.fst e1
      have ex : x = vs[i] := by simpa using congrArg Prod.snd e1
      subst ey ex
      refine wpAny_bind (each i b1 b2 _ _ ?_)
      wp_walk
      exact ⟨rfl, rfl, i + 1, e2⟩
    case fin =>
      rintro ⟨c1, c2⟩ S' ⟨hc, rfl, i, hr⟩
      simp only at hc
      subst hc
      wp_walk
      exact ⟨_, rfl, by simpa [Builtin.Tuple.tupleCompareSizes, bne, hz] using fin⟩
    case h => exact ⟨rfl, rfl, 0, rfl⟩
theorem rcNeSame {E : Value → Shared → Prop} {p q : Addr} {us vs : Array Value} {Q : Value → Shared → Prop} (hp : S.heap.IsTuple p us) (hq : S.heap.IsTuple q vs) (hz : us.size = vs.size) (hu : A.units < cLine)
    (each : ∀ j (h1 : j < us.size) (h2 : j < vs.size), EqIn P W A.in1 S us[j] vs[j] true) (h : Q (.bool false) S) : wpAny (model P W) A (richCompare .NotEq (.ref p) (.ref q)) Q E S := by
  obtain ⟨⟨k1, d1, a1, t1⟩, o1, c1, n1, e1⟩ := id hp
  obtain ⟨⟨k2, d2, a2, t2⟩, o2, c2, n2, e2⟩ := id hq
  simp only at c1 e1 c2 e2
  subst c1 e1 c2 e2
  have go := neSame (P := P) (W := W) p q us vs n1 n2 d1 d2 t1 t2 hz
  exact wpAny_richCompare_same_room (T := "tuple") (op := .NotEq) ⟨_, o1, rfl⟩ ⟨_, o2, rfl⟩ F.slot_tuple_ne (call_meetsIn F.slot_tuple_ne ⟨_, o1, rfl⟩ F.entry_tuple_ne (F.args_tuple_ne_2 _ _) go
    ⟨o1, o2, each, show Value.bool false ≠ Value.notImplemented ∧ Q (.bool false) S from ⟨(fun x => nomatch x), h⟩⟩) hu
end
end PySem.SeqAt
namespace Sw
open PySem PySem.Spec L2
section
open PySem.SeqAt (EqIn EqAt)
variable {C : Rc} {E : XK} {X : Cx}
theorem sameDs_get {C : Rc} {H : Hp} {r : List Addr} {M : Mem} (m : RepM C H r M) : ∀ {xs ys : List W} {us vs : List V}, sameDs M xs ys = true → RepWs C H r xs us → RepWs C H r ys vs →
    us.length = vs.length ∧ ∀ (i : Nat) (u v : V), us[i]? = some u → vs[i]? = some v → ∃ (a b : Addr) (kvs : List (W × W)), u = V.ref a ∧ v = V.ref b ∧ DicAt C H r false kvs a ∧ DicAt C H r false kvs b ∧ ∀ p ∈ kvs, isD p.2 = true ∧ dep p.2 ≤ 20
  | [], [], us, vs, _, qa, qb => by
    rw [show us = [] from qa, show vs = [] from qb]
    exact ⟨rfl, fun i u v e => by simp at e⟩
  | [], _ :: _, _, _, h, _, _ => by simp [sameDs] at h
  | x :: xs, [], _, _, h, _, _ => by cases x <;> simp [sameDs] at h
  | x :: xs, y :: ys, us, vs, h, qa, qb => by
    obtain ⟨u0, ur, rfl, pa, qa⟩ := qa
    obtain ⟨v0, vr, rfl, pb, qb⟩ := qb
    cases x with
    | ref i =>
      cases y with
      | ref j =>
        unfold sameDs at h
        split at h
        · rename_i k k' hi hj
          rw [Bool.and_eq_true, Bool.and_eq_true, decide_eq_true_eq] at h
          obtain ⟨⟨rfl, hk⟩, h⟩ := h
          obtain ⟨e1, e2⟩ := sameDs_get m h qa qb
          obtain ⟨a, ea, ra⟩ := pa
          obtain ⟨b, eb, rb⟩ := pb
          refine ⟨by simp [e1], fun n u v eu ev => ?_⟩
          cases n with
          | zero =>
            simp only [List.getElem?_cons_zero, Option.some.injEq] at eu ev
            subst eu ev
            refine ⟨a, b, k, ea, eb, m.obj i a _ ra hi, m.obj j b _ rb hj, fun p hp => ?_⟩
            have := List.all_eq_true.mp hk p hp
            rw [Bool.and_eq_true, decide_eq_true_eq] at this
            exact this
          | succ n => exact e2 n u v (by simpa using eu) (by simpa using ev)
        · cases h
      | _ => simp [sameDs] at h
    | _ => cases y <;> simp [sameDs] at h
theorem tups_each {pins : List (Addr × Obj)} {σ : L2.St} {H : Hp} {s : Shared} {r : List Addr} {M : Mem} {xs ys : List W} {us vs : List V} {iu iv : List Value} {A : Around} (hK : C.K = X.K) (hw : C.w = X.w) (I : Inv X pins σ H s) (m : RepM C H r M) (hu : A.units + 60 < cLine)
    (h : sameDs M xs ys = true) (qa : RepWs C H r xs us) (qb : RepWs C H r ys vs) (ra : L2.Vals us iu) (rb : L2.Vals vs iv) :
    iu.toArray.size = iv.toArray.size ∧ ∀ j (h1 : j < iu.toArray.size) (h2 : j < iv.toArray.size), EqIn X.prog X.w A s iu.toArray[j] iv.toArray[j] true := by
  obtain ⟨e1, e2⟩ := sameDs_get m h qa qb
  have l1 := ra.length
  have l2 := rb.length
  refine ⟨by simp; omega, fun j h1 h2 => ?_⟩
  obtain ⟨u, hu', ru⟩ := pd_get ra (show iu[j]? = some iu.toArray[j] by simp at h1 ⊢)
  obtain ⟨v, hv', rv⟩ := pd_get rb (show iv[j]? = some iv.toArray[j] by simp at h2 ⊢)
  obtain ⟨a, b, kvs, rfl, rfl, da, db, hd⟩ := e2 j u v hu' hv'
  rw [show iu.toArray[j] = Value.ref a from ru, show iv.toArray[j] = Value.ref b from rv]
  exact dic_eqIn hK hw I hu hd da db
theorem o_eqT (hK : C.K = X.K) (hw : C.w = X.w) (hu : X.A.units + 64 < cLine) : OpR X (compareOp .Eq) (r2 C E oEqT) := by
  intro pins s σ H x y v u Q I rx ry ⟨r, M, a, b, m, qa, qb, p⟩
  have p : PG C E r H (eqOut M (eqT a b M)) (Kv C Q r H) := p
  unfold eqT at p
  split at p
  · rename_i xs ys _
    split at p
    · rename_i hs
      obtain ⟨ta, us, ex, sa, qa⟩ := qa
      obtain ⟨tb, vs, ey, sb, qb⟩ := qb
      subst ex ey
      obtain rfl : v = Value.ref ta := rx
      obtain rfl : u = Value.ref tb := ry
      rw [hK] at sa sb
      obtain ⟨iu, ru, pu, _⟩ := I.tuple sa
      obtain ⟨iv, rv, pv, _⟩ := I.tuple sb
      obtain ⟨ez, each⟩ := tups_each (A := X.A.in1) hK hw I m (by show X.A.units + 1 + 60 < cLine; omega) hs qa qb ru rv
      refine PySem.SeqAt.rcIn_tuples (e := fun _ => true) pu pv (by omega) each ?_
      refine ⟨.bl true, H, I, ?_, eqOut_go m rfl p⟩
      rw [ez]
      have e3 : ((List.range (min iv.toArray.size iv.toArray.size)).all (fun _ => true) && iv.toArray.size == iv.toArray.size) = true := by simp
      rw [e3]
      rfl
    · exact p.elim
  · rename_i z z' _
    obtain rfl : x = .str (tx z) := qa
    obtain rfl : y = .str (tx z') := qb
    have e : eqW M (.str z) (.str z') = some (decide (z = z')) := by simp [eqW, flatF, isD, dep, eqD, nrm]
    refine o_eq (C := C) (E := E) hK hu pins s σ H _ _ v u Q I rx ry ⟨r, M, .str z, .str z', m, rfl, rfl, ?_⟩
    show PG C E r H (eqOut M (eqW M (.str z) (.str z'))) (Kv C Q r H)
    rw [e]
    exact p
  · exact p.elim
theorem o_neT (hK : C.K = X.K) (hw : C.w = X.w) (hu : X.A.units + 64 < cLine) : OpR X (compareOp .NotEq) (r2 C E oNeT) := by
  intro pins s σ H x y v u Q I rx ry ⟨r, M, a, b, m, qa, qb, p⟩
  have p : PG C E r H (eqOut M ((eqT a b M).map (!·))) (Kv C Q r H) := p
  unfold eqT at p
  split at p
  · rename_i xs ys _
    split at p
    · rename_i hs
      obtain ⟨ta, us, ex, sa, qa⟩ := qa
      obtain ⟨tb, vs, ey, sb, qb⟩ := qb
      subst ex ey
      obtain rfl : v = Value.ref ta := rx
      obtain rfl : u = Value.ref tb := ry
      rw [hK] at sa sb
      obtain ⟨iu, ru, pu, _⟩ := I.tuple sa
      obtain ⟨iv, rv, pv, _⟩ := I.tuple sb
      obtain ⟨ez, each⟩ := tups_each (A := X.A.in1) hK hw I m (by show X.A.units + 1 + 60 < cLine; omega) hs qa qb ru rv
      exact PySem.SeqAt.rcNeSame pu pv ez (by omega) each ⟨.bl false, H, I, rfl, eqOut_go m rfl p⟩
    · exact p.elim
  · rename_i z z' _
    obtain rfl : x = .str (tx z) := qa
    obtain rfl : y = .str (tx z') := qb
    have e : eqW M (.str z) (.str z') = some (decide (z = z')) := by simp [eqW, flatF, isD, dep, eqD, nrm]
    refine o_ne (C := C) (E := E) hK hu pins s σ H _ _ v u Q I rx ry ⟨r, M, .str z, .str z', m, rfl, rfl, ?_⟩
    show PG C E r H (eqOut M ((eqW M (.str z) (.str z')).map (!·))) (Kv C Q r H)
    rw [e]
    exact p
  · exact p.elim
end
end Sw

set_option autoImplicit false
set_option Elab.async false
set_option linter.all false
set_option maxRecDepth 100000
/-! Facts of own exceptions that keep what they are given. -/
namespace Sw
open PySem PySem.Spec L2
def oexB (K : PySem.W.Frag) (D : Addr) : Bool := (match K.lookup D with
  | some ⟨.type "type", _, .cls cd, sl⟩ => (match cd.mro, sl.toList with
    | .ref D' :: l, [_, _, _, _, some (.builtin n), _] => decide (D' = D) && (decide (n = "ValueError.__new__") && (!cd.hasDel && (cd.hasDict && PySem.HandSPX.refsVE l)))
    | _, _ => false)
  | _ => false) && (decide (PySem.W.findIn K (.ref D) "__setattr__" = some (some (.builtin "object.__setattr__"))) && (decide (PySem.W.subIn K (.ref D) (.type "BaseException") = some true) && (decide (PySem.W.typeIn K (.ref D) = some (.type "type")) && PySem.W.keepIn K (.ref D))))
theorem oexB_ok {K : PySem.W.Frag} {D : Addr} (h : oexB K D = true) : OexC K D := by
  unfold oexB at h
  simp only [Bool.and_eq_true, decide_eq_true_eq] at h
  obtain ⟨h0, h1, h2, h3, h4⟩ := h
  refine ⟨?_, h1, h2, h3, h4⟩
  split at h0
  · rename_i dd cd sl look
    split at h0
    · rename_i D' l k0 k1 k2 k3 n k5 em es
      simp only [Bool.and_eq_true, decide_eq_true_eq, Bool.not_eq_true'] at h0
      obtain ⟨e1, e2, e3, e4, e5⟩ := h0
      cases e1
      cases e2
      cases cd
      simp only at em e3 e4
      cases em
      cases e3
      cases e4
      obtain ⟨a⟩ := sl
      simp only at es
      cases es
      exact ⟨_, _, _, _, _, _, _, _, _, _, _, _, _, _, _, look, e5⟩
    · cases h0
  · cases h0
/-- a class whose __init__ is ValueError's -/
def winB (K : PySem.W.Frag) (D : Addr) : Bool := PySem.W.readsIn K D (.type "type") && (decide (PySem.W.specialIn K (.ref D) "__getattribute__" = some (some (.builtin "type.__getattribute__"))) && (match PySem.W.findCls K (.ref D) (.type "type") "__init__" with
  | some (.val (.builtin n)) => decide (n = "ValueError.__init__")
  | _ => false))
theorem winB_ok {K : PySem.W.Frag} {D : Addr} (h : winB K D = true) : ClX.CRead K D (.type "type") ∧ PySem.W.findCls K (.ref D) (.type "type") "__init__" = some (.val (.builtin "ValueError.__init__")) := by
  unfold winB at h
  simp only [Bool.and_eq_true, decide_eq_true_eq] at h
  obtain ⟨h1, h2, h3⟩ := h
  refine ⟨⟨h1, h2⟩, ?_⟩
  split at h3
  · rename_i n e
    rw [e, of_decide_eq_true h3]
  · cases h3
def iniB (x : Str) (p : Str × Option Str) : Fy := fun K => decide (PySem.W.findIn K (.ref (He.ga K x)) "__init__" = some (some (.ref (He.fAd K p)))) && decide (PySem.W.typeIn K (.ref (He.fAd K p)) = some (.type "function"))
theorem iniB_ok {K : PySem.W.Frag} {x : Str} {p : Str × Option Str} (h : iniB x p K = true) : PySem.W.findIn K (.ref (He.ga K x)) "__init__" = some (some (.ref (He.fAd K p))) ∧ PySem.W.typeIn K (.ref (He.fAd K p)) = some (.type "function") := by
  unfold iniB at h
  simp only [Bool.and_eq_true, decide_eq_true_eq] at h
  exact h
/-- the def of such a class's __init__ -/
theorem fn_init {P : Program} {w : World} {K : PySem.W.Frag} {mg : Str → Option Value} {base : Heap} {CX : CXT} {k : Nat} {f : Addr} {fd : FuncData} {z z2 x qual n0 n1 : Str} {params : Arguments} {bd : List Stmt} {sc : Scope} {D : Addr} {m : V}
    (F : FunD K x qual params bd sc [] [] f fd) (S : FnScope [n0, n1] ["self", z2] sc) (T : OexC K D) (hno : PySem.W.findIn K (.ref D) z = some none)
    (hb : ∀ (cdv : Value) (A : Around) (outer : List Env) (s : Shared) (H : Hp) (E : XK), Room k (A.deeper (PyProof.Rows.envOfC qual sc s.heap.objs.size f cdv)) →
      PSs (cxOf CX P w K mg base [n0, n1] qual sc f cdv A outer s H E) bd (tSeq (tDrop (tVeI K (tCons (tVar 0) (tCons (tC m) tNil)))) (tOst K z (tVar 0) (tVar 1)))) : FnOk P w K mg base CX (k + 1) f fd ["self", z2] (spI D z) := by
  obtain ⟨oc, od, dV, kV, doc, pm, an, cdv, ct, osl, rfl, lk, hcd, _, _⟩ := F.ex
  exact fn_of lk hcd S spI_len fun A outer s H vs Q E room h => ⟨_, hb cdv A outer s H E room, spI_go T hno h⟩
end Sw

set_option autoImplicit false
set_option Elab.async false
set_option linter.all false
set_option maxRecDepth 100000
/-! Rules: a list times a number. -/
namespace Sw
open PySem PySem.Spec L2
section
variable {C : Rc} {E : XK} {X : Cx}
theorem rep_rep {H : Hp} {r : List Addr} {ws : List W} {vs : List V} (q : RepWs C H r ws vs) : ∀ k : Nat, RepWs C H r (List.replicate k ws).flatten (List.replicate k vs).flatten
  | 0 => rfl
  | k + 1 => by
    rw [List.replicate_succ, List.replicate_succ, List.flatten_cons, List.flatten_cons]
    exact q.app (rep_rep q k)
theorem o_rep : OpR X (binaryOp .Mult) (r2 C E oRep) := by
  intro pins s σ H x y v u Q I rx ry ⟨r, M, a, b, m, qa, qb, p⟩
  have p : PG C E r H (oRep a b M) (Kv C Q r H) := p
  unfold oRep at p
  split at p
  · rename_i j k _
    split at p
    · rename_i ws hj
      split at p
      · rename_i hc
        rw [Bool.and_eq_true, Bool.and_eq_true, decide_eq_true_eq, decide_eq_true_eq, decide_eq_true_eq] at hc
        obtain ⟨⟨h1, h2⟩, h3⟩ := hc
        obtain ⟨c, vs, ex, hc, e1, q⟩ := lst_at m qa hj
        exact op_rep pins s σ H x y v u Q I rx ry ⟨c, k, vs, ex, qb, e1, by omega, by omega, by rw [q.length]; exact Nat.le_trans h3 (by decide), Kv_lst m p (rep_rep q _)⟩
      · exact p.elim
    · exact p.elim
  · exact p.elim
end
end Sw

set_option autoImplicit false
set_option linter.all false
/-! How a pure body is gone through. -/
namespace Sw
/-- it comes out well, and so -/
def Ok {α : Type} (o : Out α) (Q : α → Mem → Prop) : Prop := ∃ a M, o = some (.ok a, M) ∧ Q a M
theorem Ok.mono {α : Type} {o : Out α} {Q Q' : α → Mem → Prop} (h : Ok o Q) (f : ∀ a M, Q a M → Q' a M) : Ok o Q' := let ⟨a, M, e, q⟩ := h; ⟨a, M, e, f a M q⟩
theorem Ok.eq {α : Type} {o : Out α} {a : α} {M : Mem} {Q : α → Mem → Prop} (e : o = some (.ok a, M)) (q : Q a M) : Ok o Q := ⟨a, M, e, q⟩
theorem Ok.of_eq {α : Type} {o : Out α} {a : α} {M : Mem} (h : Ok o fun b N => b = a ∧ N = M) : o = some (.ok a, M) := by
  obtain ⟨b, N, e, rfl, rfl⟩ := h
  exact e
section
variable {α β : Type} {Q : α → Mem → Prop} {M : Mem} {s : Sl}
@[simp] theorem Ok_ok (a : α) : Ok (ok a M) Q ↔ Q a M := by
  constructor
  · rintro ⟨b, N, e, q⟩
    cases e
    exact q
  · exact fun q => ⟨a, M, rfl, q⟩
@[simp] theorem Ok_some (a : α) : Ok (some (.ok a, M)) Q ↔ Q a M := Ok_ok a
@[simp] theorem Ok_none : Ok (none : Out α) Q ↔ False := ⟨(fun ⟨_, _, e, _⟩ => nomatch e), False.elim⟩
@[simp] theorem Ok_bnd {o : Out β} {f : β → Mem → Out α} : Ok (bnd o f) Q ↔ Ok o fun b M => Ok (f b M) Q := by
  constructor
  · rintro ⟨a, N, e, q⟩
    cases o with
    | none => cases e
    | some p =>
      obtain ⟨r, M1⟩ := p
      cases r with
      | error x => cases e
      | ok b => exact ⟨b, M1, rfl, a, N, e, q⟩
  · rintro ⟨b, M1, rfl, a, N, e, q⟩
    exact ⟨a, N, e, q⟩
theorem Ok_ite {c : Prop} [Decidable c] {a b : Out α} : Ok (if c then a else b) Q ↔ if c then Ok a Q else Ok b Q := by split <;> rfl
end
section
variable {Q : W → Mem → Prop} {QL : List W → Mem → Prop} {QF : Fl → Mem → Prop} {QI : Wd → Mem → Prop} {M : Mem} {s : Sl}
@[simp] theorem Ok_eC {w : W} : Ok (eC w s M) Q ↔ Q w M := Ok_ok w
@[simp] theorem Ok_eV {i : Nat} : Ok (eV i s M) Q ↔ ∃ w, s[i]? = some (some w) ∧ Q w M := by
  unfold eV
  split
  · rename_i w e
    simp [e]
  · rename_i n
    simp only [Ok_none, false_iff, not_exists]
    rintro w ⟨e, _⟩
    exact n w e
@[simp] theorem Ok_eAs0 : Ok (eAs [] s M) QL ↔ QL [] M := Ok_ok []
@[simp] theorem Ok_eAs1 {m : EM} {ms : List EM} : Ok (eAs (m :: ms) s M) QL ↔ Ok (m s M) fun w M => Ok (eAs ms s M) fun ws M => QL (w :: ws) M := by simp [eAs]
@[simp] theorem Ok_eTup {ms : List EM} : Ok (eTup ms s M) Q ↔ Ok (eAs ms s M) fun ws M => Q (.tup ws) M := by simp [eTup]
@[simp] theorem Ok_eNew {l : LM} : Ok (eNew l s M) Q ↔ Ok (l s M) fun ws M => Q (.ref M.length) (M ++ [.lst ws]) := by simp [eNew, alloc]
@[simp] theorem Ok_eDic : Ok (eDic s M) Q ↔ Q (.ref M.length) (M ++ [.dic []]) := by simp [eDic, alloc]
@[simp] theorem Ok_eOp {f : Op2} {a b : EM} : Ok (eOp f a b s M) Q ↔ Ok (a s M) fun x M => Ok (b s M) fun y M => Ok (f x y M) Q := by simp [eOp]
@[simp] theorem Ok_eUn {f : Op1} {a : EM} : Ok (eUn f a s M) Q ↔ Ok (a s M) fun x M => Ok (f x M) Q := by simp [eUn]
@[simp] theorem Ok_eCall {orc : Nat → List W → Mem → Out W} {f : Nat} {ms : List EM} : Ok (eCall orc f ms s M) Q ↔ Ok (eAs ms s M) fun ws M => Ok (orc f ws M) Q := by simp [eCall]
@[simp] theorem Ok_eTuple {l : LM} : Ok (eTuple l s M) Q ↔ Ok (l s M) fun ws M => Q (.tup ws) M := by simp [eTuple]
/-- a truth decides -/
def Br (x : W) (a b : Prop) : Prop := match x with
  | .bl true => a
  | .bl false => b
  | _ => False
@[simp] theorem Br_t {a b : Prop} : Br (.bl true) a b ↔ a := Iff.rfl
@[simp] theorem Br_f {a b : Prop} : Br (.bl false) a b ↔ b := Iff.rfl
theorem Br_b {k : Bool} {a b : Prop} : Br (.bl k) a b ↔ (k = true → a) ∧ (k = false → b) := by cases k <;> simp
@[simp] theorem Ok_eAnd {a b : EM} : Ok (eAnd a b s M) Q ↔ Ok (a s M) fun x M => Br x (Ok (b s M) Q) (Q (.bl false) M) := by
  unfold eAnd
  rw [Ok_bnd]
  constructor <;> (rintro ⟨x, N, e, q⟩; refine ⟨x, N, e, ?_⟩; cases x <;> first | exact (by simpa [Br] using q) | skip)
  · rename_i k; cases k <;> simpa [Br] using q
  · rename_i k; cases k <;> simpa [Br] using q
@[simp] theorem Ok_eOr {a b : EM} : Ok (eOr a b s M) Q ↔ Ok (a s M) fun x M => Br x (Q (.bl true) M) (Ok (b s M) Q) := by
  unfold eOr
  rw [Ok_bnd]
  constructor <;> (rintro ⟨x, N, e, q⟩; refine ⟨x, N, e, ?_⟩; cases x <;> first | exact (by simpa [Br] using q) | skip)
  · rename_i k; cases k <;> simpa [Br] using q
  · rename_i k; cases k <;> simpa [Br] using q
@[simp] theorem Ok_eIf {t a b : EM} : Ok (eIf t a b s M) Q ↔ Ok (t s M) fun x M => Br x (Ok (a s M) Q) (Ok (b s M) Q) := by
  unfold eIf
  rw [Ok_bnd]
  constructor <;> (rintro ⟨x, N, e, q⟩; refine ⟨x, N, e, ?_⟩; cases x <;> first | exact (by simpa [Br] using q) | skip)
  · rename_i k; cases k <;> simpa [Br] using q
  · rename_i k; cases k <;> simpa [Br] using q
@[simp] theorem Ok_uNot {k : Bool} : Ok (uNot (.bl k) M) Q ↔ Q (.bl (!k)) M := Ok_ok _
/-! statements -/
@[simp] theorem Ok_sSeq {a b : SM} : Ok (sSeq a b s M) QF ↔ Ok (a s M) fun fl M => match fl with
    | .nx s' => Ok (b s' M) QF
    | .rt w => QF (.rt w) M := by
  unfold sSeq
  rw [Ok_bnd]
  constructor <;> (rintro ⟨x, N, e, q⟩; refine ⟨x, N, e, ?_⟩; cases x <;> simpa using q)
@[simp] theorem Ok_sIf {t : EM} {a b : SM} : Ok (sIf t a b s M) QF ↔ Ok (t s M) fun x M => Br x (Ok (a s M) QF) (Ok (b s M) QF) := by
  unfold sIf
  rw [Ok_bnd]
  constructor <;> (rintro ⟨x, N, e, q⟩; refine ⟨x, N, e, ?_⟩; cases x <;> first | exact (by simpa [Br] using q) | skip)
  · rename_i k; cases k <;> simpa [Br] using q
  · rename_i k; cases k <;> simpa [Br] using q
@[simp] theorem Ok_sAsg {i : Nat} {e : EM} : Ok (sAsg (.one i) e s M) QF ↔ Ok (e s M) fun w M => QF (.nx (s.set i (some w))) M := by simp [sAsg, bindP, setS]
@[simp] theorem Ok_sRet {e : EM} : Ok (sRet e s M) QF ↔ Ok (e s M) fun w M => QF (.rt w) M := by simp [sRet]
@[simp] theorem Ok_sExp {e : EM} : Ok (sExp e s M) QF ↔ Ok (e s M) fun w M => QF (.nx s) M := by simp [sExp]
@[simp] theorem Ok_sPass : Ok (sPass s M) QF ↔ QF (.nx s) M := by simp [sPass]
@[simp] theorem Ok_sFor {p : Pat} {it : IM} {b : SM} : Ok (sFor p it b s M) QF ↔ Ok (it s M) fun q M => Ok (forL q.2 p b q.1 s M) QF := by simp [sFor]
@[simp] theorem Ok_sPut {o k e : EM} : Ok (sPut o k e s M) QF ↔ Ok (e s M) fun v M => Ok (o s M) fun o M => Ok (k s M) fun k M => ∃ M', putW o k v M = some M' ∧ QF (.nx s) M' := by
  unfold sPut
  simp only [Ok_bnd]
  constructor <;> (rintro ⟨v, N, e, o, N1, e1, k, N2, e2, q⟩; refine ⟨v, N, e, o, N1, e1, k, N2, e2, ?_⟩)
  · cases h : putW o k v N2 with
    | none => rw [h] at q; simp at q
    | some M' => rw [h] at q; simp at q; exact ⟨M', h, q⟩
  · obtain ⟨M', h, q⟩ := q
    rw [h]
    simpa using q
/-! walks -/
@[simp] theorem Ok_lComp {it : IM} {p : Pat} {c e : EM} : Ok (lComp it p c e s M) QL ↔ Ok (it s M) fun q M => Ok (lcL q.2 p c e s q.1 [] M) QL := by simp [lComp]
@[simp] theorem Ok_iNew {l : LM} : Ok (iNew l s M) QI ↔ Ok (l s M) fun ws M => QI (ws, none) M := by simp [iNew]
def seqW (w : W) (M : Mem) : Out Wd := match w with
    | .tup ws => ok (ws, none) M
    | .str z => ok (z.map fun c => .str [c], none) M
    | .scr ns => ok (ns.map .int, none) M
    | .ref i => (match M[i]? with
      | some (.lst ws) => ok (ws, some (i, .lst ws)) M
      | _ => none)
    | _ => none
@[simp] theorem Ok_iSeq {m : EM} : Ok (iSeq m s M) QI ↔ Ok (m s M) fun w M => Ok (seqW w M) QI := by
  unfold iSeq
  rw [Ok_bnd]
  exact Iff.rfl
@[simp] theorem Ok_seqTup {ws : List W} : Ok (seqW (.tup ws) M) QI ↔ QI (ws, none) M := Ok_ok _
@[simp] theorem Ok_seqScr {ns : List Int} : Ok (seqW (.scr ns) M) QI ↔ QI (ns.map .int, none) M := Ok_ok _
theorem Ok_seqRef {j : Nat} {ws : List W} (h : M[j]? = some (.lst ws)) : Ok (seqW (.ref j) M) QI ↔ QI (ws, some (j, .lst ws)) M := by simp [seqW, h]
def rngW (x y : W) (M : Mem) : Out Wd := match x, y with
    | .int a, .int b => if -1000000 ≤ a ∧ a ≤ 1000000 ∧ -1000000 ≤ b ∧ b ≤ 1000000 then ok (rangeW a (b - a).toNat, none) M else none
    | _, _ => none
@[simp] theorem Ok_iRange {a b : EM} : Ok (iRange a b s M) QI ↔ Ok (a s M) fun x M => Ok (b s M) fun y M => Ok (rngW x y M) QI := by
  unfold iRange
  rw [Ok_bnd]
  simp only [Ok_bnd]
  exact Iff.rfl
@[simp] theorem Ok_rngW {a b : Int} : Ok (rngW (.int a) (.int b) M) QI ↔ (-1000000 ≤ a ∧ a ≤ 1000000 ∧ -1000000 ≤ b ∧ b ≤ 1000000) ∧ QI (rangeW a (b - a).toNat, none) M := by
  unfold rngW
  dsimp only
  split
  · rename_i h; simp [h]
  · rename_i h; simp [h]
@[simp] theorem Ok_eM {k : Nat} {f : Mth} {o : EM} {es : List EM} : Ok (eM k f o es s M) Q ↔ Ok (o s M) fun x M => kindW x M = k ∧ Ok (eAs es s M) fun vs M => Ok (f x vs M) Q := by
  unfold eM
  rw [Ok_bnd]
  constructor <;> (rintro ⟨x, N, e, q⟩; refine ⟨x, N, e, ?_⟩)
  · split at q
    · rename_i h; exact ⟨h, by simpa using q⟩
    · simp at q
  · obtain ⟨h, q⟩ := q
    rw [if_pos h]
    simpa using q
@[simp] theorem Ok_lOf {m : EM} : Ok (lOf m s M) QL ↔ Ok (m s M) fun w M => ∃ ws, items w M = some ws ∧ QL ws M := by
  unfold lOf
  rw [Ok_bnd]
  constructor <;> (rintro ⟨x, N, e, q⟩; refine ⟨x, N, e, ?_⟩)
  · cases h : items x N with
    | none => rw [h] at q; simp at q
    | some ws => rw [h] at q; simp at q; exact ⟨ws, h, q⟩
  · obtain ⟨ws, h, q⟩ := q
    rw [h]
    simpa using q
@[simp] theorem Ok_lSorted {l : LM} : Ok (lSorted l s M) QL ↔ Ok (l s M) fun ws M => ∃ r, sortW ws = some r ∧ QL r M := by
  unfold lSorted
  rw [Ok_bnd]
  constructor <;> (rintro ⟨x, N, e, q⟩; refine ⟨x, N, e, ?_⟩)
  · cases h : sortW x with
    | none => rw [h] at q; simp at q
    | some ws => rw [h] at q; simp at q; exact ⟨ws, h, q⟩
  · obtain ⟨ws, h, q⟩ := q
    rw [h]
    simpa using q
/-! operators -/
@[simp] theorem Ok_add {a b : Int} : Ok (oAdd (.int a) (.int b) M) Q ↔ Q (.int (a + b)) M := Ok_ok _
@[simp] theorem Ok_sub {a b : Int} : Ok (oSub (.int a) (.int b) M) Q ↔ Q (.int (a - b)) M := Ok_ok _
@[simp] theorem Ok_mod {a b : Int} : Ok (oMod (.int a) (.int b) M) Q ↔ 0 < b ∧ Q (.int (a % b)) M := by
  unfold oMod
  dsimp only
  split
  · rename_i h; simp [h]
  · rename_i h; simp [h]
@[simp] theorem Ok_div {a b : Int} : Ok (oDiv (.int a) (.int b) M) Q ↔ (0 < b ∧ b.natAbs.log2 < 9000) ∧ Q (.int (a / b)) M := by
  unfold oDiv
  dsimp only
  split
  · rename_i h; simp [h]
  · rename_i h; simp [h]
@[simp] theorem Ok_mul {a b : Int} : Ok (oMul (.int a) (.int b) M) Q ↔ a.natAbs.log2 + b.natAbs.log2 < 1000000 ∧ Q (.int (a * b)) M := by
  unfold oMul
  dsimp only
  split
  · rename_i h; simp [h]
  · rename_i h; simp [h]
@[simp] theorem Ok_shr {a b : Int} : Ok (oShr (.int a) (.int b) M) Q ↔ 0 ≤ b ∧ Q (.int (a / 2 ^ b.toNat)) M := by
  unfold oShr
  dsimp only
  split
  · rename_i h; simp [h]
  · rename_i h; simp [h]
@[simp] theorem Ok_neg {a : Int} : Ok (uNeg (.int a) M) Q ↔ Q (.int (-a)) M := Ok_ok _
@[simp] theorem Ok_gt {a b : Int} : Ok (oGt (.int a) (.int b) M) Q ↔ Q (.bl (decide (b < a))) M := Ok_ok _
@[simp] theorem Ok_ge {a b : Int} : Ok (oGe (.int a) (.int b) M) Q ↔ Q (.bl (decide (b ≤ a))) M := Ok_ok _
@[simp] theorem Ok_le {a b : Int} : Ok (oLe (.int a) (.int b) M) Q ↔ Q (.bl (decide (a ≤ b))) M := Ok_ok _
@[simp] theorem Ok_lt {a b : Int} : Ok (oLt (.int a) (.int b) M) Q ↔ Q (.bl (decide (a < b))) M := Ok_ok _
theorem flatF_D {n : Nat} {w : W} (h : isD w = true) : flatF n M w = some w := by cases n <;> simp [flatF, h]
theorem eqW_D {a b : W} (ha : isD a = true) (hb : isD b = true) (da : dep a ≤ 60) (db : dep b ≤ 60) : eqW M a b = some (eqD a b) := by
  unfold eqW
  rw [flatF_D ha, flatF_D hb]
  simp [da, db]
@[simp] theorem Ok_eqi {a b : Int} : Ok (oEq (.int a) (.int b) M) Q ↔ Q (.bl (decide (a = b))) M := by
  unfold oEq
  rw [eqW_D rfl rfl (by simp [dep]) (by simp [dep])]
  simp [eqOut, eqD, nrm]
@[simp] theorem Ok_nei {a b : Int} : Ok (oNe (.int a) (.int b) M) Q ↔ Q (.bl (!decide (a = b))) M := by
  unfold oNe
  rw [eqW_D rfl rfl (by simp [dep]) (by simp [dep])]
  simp [eqOut, eqD, nrm]
@[simp] theorem Ok_eqs {a b : Tx} : Ok (oEq (.str a) (.str b) M) Q ↔ Q (.bl (decide (a = b))) M := by
  unfold oEq
  rw [eqW_D rfl rfl (by simp [dep]) (by simp [dep])]
  simp [eqOut, eqD, nrm]
@[simp] theorem Ok_nes {a b : Tx} : Ok (oNe (.str a) (.str b) M) Q ↔ Q (.bl (!decide (a = b))) M := by
  unfold oNe
  rw [eqW_D rfl rfl (by simp [dep]) (by simp [dep])]
  simp [eqOut, eqD, nrm]
@[simp] theorem Ok_lenTup {ws : List W} : Ok (uLen (.tup ws) M) Q ↔ Q (.int ws.length) M := by simp [uLen, lenW, items]
@[simp] theorem Ok_lenScr {ns : List Int} : Ok (uLen (.scr ns) M) Q ↔ Q (.int ns.length) M := by simp [uLen, lenW, items]
theorem Ok_lenRef {j : Nat} {ws : List W} (h : M[j]? = some (.lst ws)) : Ok (uLen (.ref j) M) Q ↔ Q (.int ws.length) M := by simp [uLen, lenW, items, h, dicO]
theorem ixW_nat {n k : Nat} (h : k < n) : ixW n (k : Int) = some k := by
  unfold ixW
  rw [if_pos (by omega), if_pos (by omega)]
  simp
theorem ixW_last {n : Nat} (h : 0 < n) : ixW n (-1) = some (n - 1) := by
  unfold ixW
  rw [if_neg (by omega), if_pos (by omega)]
  congr 1
  omega
theorem Ok_at {ws : List W} {i : Int} : Ok (atW ws i M) Q ↔ ∃ n w, ixW ws.length i = some n ∧ ws[n]? = some w ∧ Q w M := by
  unfold atW
  cases e : ixW ws.length i with
  | none => simp
  | some n =>
    cases e2 : ws[n]? with
    | none => simp [e2]
    | some w => simp [e2]
@[simp] theorem Ok_ixTup {ws : List W} {i : Int} : Ok (oIx (.tup ws) (.int i) M) Q ↔ Ok (atW ws i M) Q := by simp [oIx, items]
@[simp] theorem Ok_ixScr {ns : List Int} {i : Int} : Ok (oIx (.scr ns) (.int i) M) Q ↔ Ok (atW (ns.map .int) i M) Q := by simp [oIx, items]
theorem Ok_ixRef {j : Nat} {ws : List W} {i : Int} (h : M[j]? = some (.lst ws)) : Ok (oIx (.ref j) (.int i) M) Q ↔ Ok (atW ws i M) Q := by simp [oIx, items, h, dicO]
/-! calls -/
theorem Ok_body {n : Nat} {b : SM} {ws : List W} : Ok (body n b ws M) Q ↔ Ok (b (start n ws) M) fun fl M => match fl with
    | .nx _ => Q .non M
    | .rt w => Q w M := by
  unfold body
  rw [Ok_bnd]
  constructor <;> (rintro ⟨x, N, e, q⟩; refine ⟨x, N, e, ?_⟩; cases x <;> simpa using q)
theorem Ok_gcO {o : Out W} (h : Ok o fun w M' => Q (gc M w M').1 (gc M w M').2) : Ok (gcO M o) Q := by
  obtain ⟨w, M', rfl, q⟩ := h
  exact ⟨_, _, rfl, q⟩
end
/-! ### what is left of garbage -/
theorem okBase_same (M : Mem) : okBase M.length M M = true := by
  unfold okBase
  rw [List.all_eq_true]
  intro p hp
  obtain ⟨i, hi⟩ := List.mem_iff_getElem?.mp hp
  rw [List.getElem?_zip_eq_some] at hi
  have : p.1 = p.2 := Option.some.inj (hi.1.symm.trans hi.2)
  simp [this]
mutual
theorem refs_D : ∀ {w : W}, isD w = true → refsW w = []
  | .non, _ => rfl
  | .bl _, _ => rfl
  | .int _, _ => rfl
  | .str _, _ => rfl
  | .tup ws, h => by unfold refsW; exact refss_D h
  | .ref _, h => by simp [isD] at h
  | .scr _, h => by simp [isD] at h
theorem refss_D : ∀ {ws : List W}, isDs ws = true → refsWs ws = []
  | [], _ => rfl
  | w :: ws, h => by
    unfold isDs at h
    rw [Bool.and_eq_true] at h
    unfold refsWs
    rw [refs_D h.1, refss_D h.2]
    rfl
end
mutual
theorem ren_D {n : Nat} {fs : List Nat} : ∀ {w : W}, isD w = true → ren n fs w = w
  | .non, _ => rfl
  | .bl _, _ => rfl
  | .int _, _ => rfl
  | .str _, _ => rfl
  | .tup ws, h => by unfold ren; rw [rens_D h]
  | .ref _, h => by simp [isD] at h
  | .scr _, h => by simp [isD] at h
theorem rens_D {n : Nat} {fs : List Nat} : ∀ {ws : List W}, isDs ws = true → rens n fs ws = ws
  | [], _ => rfl
  | w :: ws, h => by
    unfold isDs at h
    rw [Bool.and_eq_true] at h
    unfold rens
    rw [ren_D h.1, rens_D h.2]
end
/-- data is told: nothing else is left -/
theorem gc_data {M X : Mem} {w : W} (h : isD w = true) : gc M w (M ++ X) = (w, M) := by
  have e : gcF M.length w = [] := by unfold gcF; rw [refs_D h]; rfl
  unfold gc
  dsimp only
  rw [e]
  have e2 : (M ++ X).take M.length = M := by simp
  simp only [getAll, List.mapM_nil]
  rw [e2]
  simp only [pure, okBase_same, List.all_nil, List.length_append, Nat.le_add_right, and_self, if_true, ren_D h, List.append_nil]
/-- a new list of data is told -/
theorem gc_list {M X : Mem} {j : Nat} {ws : List W} (hj : X[j]? = some (.lst ws)) (h : isDs ws = true) : gc M (.ref (M.length + j)) (M ++ X) = (.ref M.length, M ++ [.lst ws]) := by
  have e : gcF M.length (.ref (M.length + j)) = [M.length + j] := by
    unfold gcF
    simp [refsW, dd]
  unfold gc
  dsimp only
  rw [e]
  have e2 : (M ++ X).take M.length = M := by simp
  have e3 : (M ++ X)[M.length + j]? = some (.lst ws) := by rw [List.getElem?_append_right (by omega), Nat.add_sub_cancel_left]; exact hj
  simp only [getAll, List.mapM_cons, List.mapM_nil, e3]
  rw [e2]
  have hn : ¬ M.length + j < M.length := by omega
  simp [okBase_same, refsO, refss_D h, ren, hn]
end Sw

set_option autoImplicit false
set_option linter.all false
namespace Sw
/-- _law_draw -/
def bDraw : SM :=
  (sSeq (sAsg (.one 3) (eIf (eOp oGt (eUn uLen (eV 0)) (eC (.int 0))) (eOp oIx (eV 0) (eOp oMod (eV 1) (eUn uLen (eV 0)))) (eC (.int 0))))
  (sSeq (sIf (eAnd (eOp oGt (eUn uLen (eV 0)) (eC (.int 0))) (eOp oEq (eOp oMod (eOp oIx (eV 0) (eC (.int 0))) (eC (.int 2))) (eC (.int 1)))) (sRet (eOp oMod (eOp oMod (eOp oShr (eV 3) (eOp oAdd (eOp oMul (eC (.int 20)) (eOp oDiv (eV 1) (eUn uLen (eV 0)))) (eC (.int 1)))) (eC (.int 1048576))) (eV 2))) sPass)
  (sSeq (sAsg (.one 4) (eOp oAdd (eOp oAdd (eOp oMod (eV 3) (eC (.int 1000003))) (eOp oMul (eOp oMul (eC (.int 31)) (eV 1)) (eV 1))) (eC (.int 1))))
  (sRet (eOp oMod (eOp oMod (eOp oMul (eOp oMod (eOp oMul (eV 4) (eC (.int 48271))) (eC (.int 999983))) (eC (.int 7919))) (eC (.int 524287))) (eV 2))))))
theorem log2_le {a : Nat} {n : Nat} (h : a < 2 ^ n) (hn : 0 < n) : a.log2 < n := by
  by_cases h0 : a = 0
  · subst h0
    simpa using hn
  · exact (Nat.log2_lt h0).mpr h
theorem log2_i {a : Int} {n : Nat} (h1 : -(2 ^ n : Int) < a) (h2 : a < 2 ^ n) (hn : 0 < n) : a.natAbs.log2 < n := by
  refine log2_le ?_ hn
  have : (a.natAbs : Int) < (2 ^ n : Nat) := by
    push_cast
    omega
  exact_mod_cast this
def cellM (ns : List Int) (k : Int) : Int := if ns.length = 0 then 0 else ns.getD (k % ns.length).toNat 0
def drawM (ns : List Int) (k many : Int) : Int := if 0 < ns.length ∧ ns.getD 0 0 % 2 = 1 then cellM ns k / 2 ^ (20 * (k / ns.length) + 1).toNat % 1048576 % many
  else (cellM ns k % 1000003 + 31 * k * k + 1) * 48271 % 999983 * 7919 % 524287 % many
theorem drawM_lt {ns : List Int} {k many : Int} (h : 0 < many) : 0 ≤ drawM ns k many ∧ drawM ns k many < many := by
  unfold drawM
  split
  · exact ⟨Int.emod_nonneg _ (by omega), Int.emod_lt_of_pos _ h⟩
  · exact ⟨Int.emod_nonneg _ (by omega), Int.emod_lt_of_pos _ h⟩
theorem log_sm {a : Int} (h1 : -1000000000000000000 < a) (h2 : a < 1000000000000000000) : a.natAbs.log2 < 60 := log2_i (n := 60) (by omega) (by omega) (by omega)
theorem Ok_atI {ns : List Int} {i : Int} {M : Mem} {Q : W → Mem → Prop} (h1 : 0 ≤ i) (h2 : i < ns.length) : Ok (atW (ns.map .int) i M) Q ↔ Q (.int (ns.getD i.toNat 0)) M := by
  rw [Ok_at]
  have e : i = (i.toNat : Int) := (Int.toNat_of_nonneg h1).symm
  have hl : i.toNat < ns.length := by omega
  have e1 : ixW (ns.map W.int).length i = some i.toNat := by
    rw [List.length_map]
    conv => lhs; rw [e]
    exact ixW_nat hl
  have e2 : (ns.map W.int)[i.toNat]? = some (.int (ns.getD i.toNat 0)) := by
    rw [List.getElem?_map, List.getD_eq_getElem?_getD, List.getElem?_eq_getElem hl]
    rfl
  constructor
  · rintro ⟨n, w, h3, h4, q⟩
    rw [e1] at h3
    cases h3
    rw [e2] at h4
    cases h4
    exact q
  · exact fun q => ⟨_, _, e1, e2, q⟩
theorem draw_body (ns : List Int) (hl : ns.length ≤ 63) (k many : Int) (M : Mem) (hk : 0 ≤ k ∧ k ≤ 1000000) (hm : 0 < many) : body 5 bDraw [.scr ns, .int k, .int many] M = some (.ok (.int (drawM ns k many)), M) := by
  refine Ok.of_eq (Ok_body.mpr ?_)
  have hk2 : k * k ≤ 1000000 * 1000000 := Int.mul_le_mul hk.2 hk.2 hk.1 (by omega)
  have hk3 : 0 ≤ k * k := Int.mul_nonneg hk.1 hk.1
  have e31 : 31 * k * k = 31 * (k * k) := Int.mul_assoc _ _ _
  have l1 : Nat.log2 31 + k.natAbs.log2 < 1000000 := by
    have := log_sm (a := k) (by omega) (by omega)
    have : Nat.log2 31 = 4 := by decide
    omega
  have l2 : (31 * k).natAbs.log2 + k.natAbs.log2 < 1000000 := by
    have := log_sm (a := k) (by omega) (by omega)
    have := log_sm (a := 31 * k) (by omega) (by omega)
    omega
  have l3 : ∀ c : Int, (c % 1000003 + 31 * k * k + 1).natAbs.log2 + Nat.log2 48271 < 1000000 := fun c => by
    have h1 := Int.emod_nonneg c (show (1000003 : Int) ≠ 0 by omega)
    have h2 := Int.emod_lt_of_pos c (show (0 : Int) < 1000003 by omega)
    have := log_sm (a := c % 1000003 + 31 * k * k + 1) (by omega) (by omega)
    have : Nat.log2 48271 = 15 := by decide
    omega
  have l4 : ∀ c : Int, (c % 999983).natAbs.log2 + Nat.log2 7919 < 1000000 := fun c => by
    have h1 := Int.emod_nonneg c (show (999983 : Int) ≠ 0 by omega)
    have h2 := Int.emod_lt_of_pos c (show (0 : Int) < 999983 by omega)
    have := log_sm (a := c % 999983) (by omega) (by omega)
    have : Nat.log2 7919 = 12 := by decide
    omega
  by_cases h : 0 < ns.length
  · have hn : (0 : Int) < ns.length := by omega
    have m1 := Int.emod_nonneg k (show (ns.length : Int) ≠ 0 by omega)
    have m2 := Int.emod_lt_of_pos k hn
    have d1 : 0 ≤ k / ns.length := Int.ediv_nonneg hk.1 (by omega)
    have d2 : k / ns.length ≤ k := Int.ediv_le_self _ hk.1
    have l5 : Nat.log2 20 + (k / ns.length).natAbs.log2 < 1000000 := by
      have := log_sm (a := k / ns.length) (by omega) (by omega)
      have : Nat.log2 20 = 4 := by decide
      omega
    have l6 : ns.length.log2 < 9000 := by
      have := log2_le (a := ns.length) (n := 60) (by omega) (by omega)
      omega
    simp [bDraw, start, h, hn, Ok_atI m1 m2, Ok_atI (Int.le_refl 0) hn, l1, l2, l3, l4, l5, l6, hm]
    have h5 : 0 ≤ 20 * (k / (ns.length : Int)) + 1 := by omega
    by_cases h2 : ns[0] % 2 = 1
    · simp [h2, drawM, h, cellM, (show ns.length ≠ 0 by omega), h5]
    · simp [h2, drawM, h, cellM, (show ns.length ≠ 0 by omega)]
  · have h0 : ns.length = 0 := by omega
    have l3' := l3 0
    have l4' := l4 ((31 * k * k + 1) * 48271)
    simp at l3'
    simp [bDraw, start, h0, l1, l2, l3', l4', hm, drawM, cellM]
end Sw

set_option autoImplicit false
set_option linter.all false
/-! Loops. -/
namespace Sw
theorem many_iff {n : Nat} : many n = true ↔ n ≤ 1000000 := by simp [many]
theorem forL_nil {g : Option (Nat × O)} {p : Pat} {b : SM} {s : Sl} {M : Mem} (h : still g M = true) : forL g p b [] s M = ok (.nx s) M := by unfold forL; rw [if_pos h]
theorem forL_cons {g : Option (Nat × O)} {p : Pat} {b : SM} {s s' : Sl} {M : Mem} {w : W} {ws : List W} (h : still g M = true) (e : bindP p w s = some s') : forL g p b (w :: ws) s M = bnd (b s' M) fun fl M => match fl with
    | .nx s'' => forL g p b ws s'' M
    | .rt r => ok (.rt r) M := by
  rw [forL, if_pos h, e]
  first | done | rfl
/-- a loop by an invariant over what is still to come -/
theorem Ok_for {g : Option (Nat × O)} {p : Pat} {b : SM} {QF : Fl → Mem → Prop} (I : List W → Sl → Mem → Prop) (hst : ∀ ws s M, I ws s M → still g M = true)
    (turn : ∀ w ws s M, I (w :: ws) s M → ∃ s', bindP p w s = some s' ∧ Ok (b s' M) fun fl M' => match fl with
      | .nx s'' => I ws s'' M'
      | .rt r => QF (.rt r) M')
    (fin : ∀ s M, I [] s M → QF (.nx s) M) : ∀ (ws : List W) (s : Sl) (M : Mem), I ws s M → Ok (forL g p b ws s M) QF
  | [], s, M, h => by
    rw [forL_nil (hst _ _ _ h), Ok_ok]
    exact fin s M h
  | w :: ws, s, M, h => by
    obtain ⟨s', e, q⟩ := turn w ws s M h
    rw [forL_cons (hst _ _ _ h) e, Ok_bnd]
    refine q.mono fun fl M' q => ?_
    cases fl with
    | nx s'' => exact Ok_for I hst turn fin ws s'' M' q
    | rt r => exact (Ok_ok _).mpr q
theorem lcL_nil' {g : Option (Nat × O)} {p : Pat} {c e : EM} {s : Sl} {acc : List W} {M : Mem} (h : still g M = true) (hm : acc.length ≤ 1000000) : lcL g p c e s [] acc M = ok acc M := by
  unfold lcL
  rw [h, many_iff.mpr hm]
  rfl
theorem Ok_noX {α β : Type} {o : Out α} {f : α → Mem → Out β} {Q : β → Mem → Prop} (h : Ok o fun a M => Ok (f a M) Q) : Ok (bnd (noX o) f) Q := by
  obtain ⟨a, M, rfl, q⟩ := h
  exact q
/-- a comprehension by an invariant over what is still to come and what is made -/
theorem Ok_lc {g : Option (Nat × O)} {p : Pat} {c e : EM} {s : Sl} {QL : List W → Mem → Prop} (I : List W → List W → Mem → Prop) (hst : ∀ ws acc M, I ws acc M → still g M = true ∧ acc.length ≤ 1000000)
    (turn : ∀ w ws acc M, I (w :: ws) acc M → ∃ s', bindP p w s = some s' ∧ Ok (c s' M) fun b M1 => Br b (Ok (e s' M1) fun y M2 => I ws (acc ++ [y]) M2) (I ws acc M1))
    (fin : ∀ acc M, I [] acc M → QL acc M) : ∀ (ws acc : List W) (M : Mem), I ws acc M → Ok (lcL g p c e s ws acc M) QL
  | [], acc, M, h => by
    rw [lcL_nil' (hst _ _ _ h).1 (hst _ _ _ h).2, Ok_ok]
    exact fin acc M h
  | w :: ws, acc, M, h => by
    obtain ⟨s', eb, q⟩ := turn w ws acc M h
    have e1 : lcL g p c e s (w :: ws) acc M = bnd (noX (c s' M)) fun b M => match b with
      | .bl true => bnd (noX (e s' M)) fun y M => lcL g p c e s ws (acc ++ [y]) M
      | .bl false => lcL g p c e s ws acc M
      | _ => none := by
      rw [lcL, (hst _ _ _ h).1, many_iff.mpr (hst _ _ _ h).2]
      simp only [Bool.and_self, if_true, eb]
      first | done | rfl
    rw [e1]
    refine Ok_noX (q.mono fun b M1 q => ?_)
    cases b with
    | bl k =>
      cases k with
      | true => exact Ok_noX (Ok.mono q fun y M2 q => Ok_lc I hst turn fin ws _ M2 q)
      | false => exact Ok_lc I hst turn fin ws _ M1 q
    | _ => exact q.elim
/-- the plain case: each item gives one, no test -/
theorem Ok_map {g : Option (Nat × O)} {p : Pat} {e : EM} {s : Sl} {QL : List W → Mem → Prop} (f : W → W) (I : Mem → Prop) (hst : ∀ M, I M → still g M = true) {ws : List W} {M : Mem} (h0 : I M) (hl : ws.length ≤ 1000000)
    (turn : ∀ w ∈ ws, ∀ M, I M → ∃ s', bindP p w s = some s' ∧ Ok (e s' M) fun y M2 => y = f w ∧ I M2) (fin : ∀ M, I M → QL (ws.map f) M) : Ok (lcL g p (eC (.bl true)) e s ws [] M) QL := by
  refine Ok_lc (fun rest acc M => I M ∧ ∃ pre, ws = pre ++ rest ∧ acc = pre.map f) (fun rest acc M ⟨i, pre, e1, e2⟩ => ⟨hst M i, ?_⟩) (fun w rest acc M ⟨i, pre, e1, e2⟩ => ?_) (fun acc M ⟨i, pre, e1, e2⟩ => ?_) ws [] M ⟨h0, [], rfl, rfl⟩
  · rw [e2, List.length_map]
    rw [e1, List.length_append] at hl
    omega
  · obtain ⟨s', e3, q⟩ := turn w (by rw [e1]; simp) M i
    refine ⟨s', e3, ?_⟩
    simp only [Ok_eC, Br_t]
    refine q.mono fun y M2 ⟨e4, i2⟩ => ⟨i2, pre ++ [w], by rw [e1]; simp, by rw [e2, e4]; simp⟩
  · rw [List.append_nil] at e1
    rw [e2, ← e1]
    exact fin M i
/-- while, by a measure -/
theorem Ok_wh {t : EM} {b : SM} {QF : Fl → Mem → Prop} (I : Nat → Sl → Mem → Prop)
    (turn : ∀ n s M, I n s M → Ok (t s M) fun x M1 => Br x (Ok (b s M1) fun fl M' => match fl with
      | .nx s'' => ∃ m, m < n ∧ I m s'' M'
      | .rt r => QF (.rt r) M') (QF (.nx s) M1)) : ∀ (g n : Nat) (s : Sl) (M : Mem), n < g → I n s M → Ok (whL t b g s M) QF
  | 0, n, s, M, h, _ => absurd h (Nat.not_lt_zero _)
  | g + 1, n, s, M, h, i => by
    unfold whL
    rw [Ok_bnd]
    refine (turn n s M i).mono fun x M1 q => ?_
    cases x with
    | bl k =>
      cases k with
      | true =>
        have q : Ok (b s M1) _ := q
        dsimp only
        rw [Ok_bnd]
        refine q.mono fun fl M' q => ?_
        cases fl with
        | nx s'' =>
          obtain ⟨m, hm, i⟩ := q
          exact Ok_wh I turn g m s'' M' (by omega) i
        | rt r => exact (Ok_ok _).mpr q
      | false => exact (Ok_ok _).mpr q
    | _ => exact q.elim
/-! the store -/
theorem get_app {M X : Mem} {i : Nat} {o : O} (h : M[i]? = some o) : (M ++ X)[i]? = some o := by
  rw [List.getElem?_append_left (List.getElem?_eq_some_iff.mp h).1]
  exact h
theorem get_new {M : Mem} {o : O} : (M ++ [o])[M.length]? = some o := by simp
theorem get_set {M : Mem} {i : Nat} {o o' : O} (h : M[i]? = some o) : (M.set i o')[i]? = some o' := List.getElem?_set_self (List.getElem?_eq_some_iff.mp h).1
theorem get_ne {M : Mem} {i j : Nat} {o : O} (h : i ≠ j) : (M.set i o)[j]? = M[j]? := List.getElem?_set_ne h
theorem get_lt {M : Mem} {i : Nat} {o : O} (h : M[i]? = some o) : i < M.length := (List.getElem?_eq_some_iff.mp h).1
theorem still_some {M : Mem} {i : Nat} {o : O} (h : M[i]? = some o) : still (some (i, o)) M = true := decide_eq_true h
/-! equality of data without truths -/
mutual
theorem nrm_K : ∀ {w : W}, isK w = true → nrm w = w
  | .non, h => by simp [isK] at h
  | .bl _, h => by simp [isK] at h
  | .int _, _ => rfl
  | .str _, _ => rfl
  | .tup ws, h => by unfold nrm; rw [nrms_K h]
  | .ref _, h => by simp [isK] at h
  | .scr _, h => by simp [isK] at h
theorem nrms_K : ∀ {ws : List W}, isKs ws = true → nrms ws = ws
  | [], _ => rfl
  | w :: ws, h => by
    unfold isKs at h
    rw [Bool.and_eq_true] at h
    unfold nrms
    rw [nrm_K h.1, nrms_K h.2]
end
mutual
theorem D_K : ∀ {w : W}, isK w = true → isD w = true
  | .non, h => by simp [isK] at h
  | .bl _, h => by simp [isK] at h
  | .int _, _ => rfl
  | .str _, _ => rfl
  | .tup ws, h => by unfold isD; exact Ds_K h
  | .ref _, h => by simp [isK] at h
  | .scr _, h => by simp [isK] at h
theorem Ds_K : ∀ {ws : List W}, isKs ws = true → isDs ws = true
  | [], _ => rfl
  | w :: ws, h => by
    unfold isKs at h
    rw [Bool.and_eq_true] at h
    unfold isDs
    rw [D_K h.1, Ds_K h.2]
    rfl
end
theorem eqD_K {a b : W} (ha : isK a = true) (hb : isK b = true) : eqD a b = decide (a = b) := by unfold eqD; rw [nrm_K ha, nrm_K hb]
theorem isKs_mem : ∀ {ws : List W}, isKs ws = true ↔ ∀ w ∈ ws, isK w = true
  | [] => by simp [isKs]
  | w :: ws => by simp [isKs, isKs_mem (ws := ws)]
theorem isDs_mem : ∀ {ws : List W}, isDs ws = true ↔ ∀ w ∈ ws, isD w = true
  | [] => by simp [isDs]
  | w :: ws => by simp [isDs, isDs_mem (ws := ws)]
theorem deps_le {n : Nat} : ∀ {ws : List W}, (∀ w ∈ ws, dep w ≤ n) → deps ws ≤ n
  | [], _ => Nat.zero_le _
  | w :: ws, h => by
    unfold deps
    exact Nat.max_le.mpr ⟨h w List.mem_cons_self, deps_le fun z hz => h z (List.mem_cons_of_mem _ hz)⟩
theorem isKs_app {xs ys : List W} (h : isKs xs = true) (k : isKs ys = true) : isKs (xs ++ ys) = true := isKs_mem.mpr fun w hw => (List.mem_append.mp hw).elim (isKs_mem.mp h w) (isKs_mem.mp k w)
section
variable {Q : W → Mem → Prop} {M : Mem}
theorem any_K {x : W} (hx : isK x = true) {ws : List W} (h : isKs ws = true) : (ws.any fun z => eqD z x) = decide (x ∈ ws) := by
  rw [Bool.eq_iff_iff, List.any_eq_true, decide_eq_true_eq]
  constructor
  · rintro ⟨z, hz, e⟩
    rw [eqD_K (isKs_mem.mp h z hz) hx, decide_eq_true_eq] at e
    rw [← e]
    exact hz
  · exact fun hm => ⟨x, hm, by rw [eqD_K hx hx, decide_eq_true_eq]⟩
/-- x in a list of keys -/
theorem Ok_inL {x : W} {j : Nat} {ws : List W} (hj : M[j]? = some (.lst ws)) (hx : isK x = true) (h : isKs ws = true) (dx : dep x ≤ 50) (dw : ∀ w ∈ ws, dep w ≤ 50) : Ok (oIn x (.ref j) M) Q ↔ Q (.bl (decide (x ∈ ws))) M := by
  unfold oIn inW
  simp only [hj, D_K hx, Ds_K h, Bool.true_and, decide_eq_true (show dep x ≤ 60 by omega), decide_eq_true (show deps ws ≤ 59 from Nat.le_trans (deps_le dw) (by omega)), if_true, any_K hx h, eqOut, Ok_ok]
theorem Ok_niL {x : W} {j : Nat} {ws : List W} (hj : M[j]? = some (.lst ws)) (hx : isK x = true) (h : isKs ws = true) (dx : dep x ≤ 50) (dw : ∀ w ∈ ws, dep w ≤ 50) : Ok (oNi x (.ref j) M) Q ↔ Q (.bl (!decide (x ∈ ws))) M := by
  unfold oNi inW
  simp only [hj, D_K hx, Ds_K h, Bool.true_and, decide_eq_true (show dep x ≤ 60 by omega), decide_eq_true (show deps ws ≤ 59 from Nat.le_trans (deps_le dw) (by omega)), if_true, any_K hx h, Option.map_some, eqOut, Ok_ok]
theorem Ok_inT {x : W} {ws : List W} (hx : isK x = true) (h : isKs ws = true) (dx : dep x ≤ 50) (dw : ∀ w ∈ ws, dep w ≤ 50) : Ok (oIn x (.tup ws) M) Q ↔ Q (.bl (decide (x ∈ ws))) M := by
  unfold oIn inW
  simp only [D_K hx, Ds_K h, Bool.true_and, decide_eq_true (show dep x ≤ 60 by omega), decide_eq_true (show deps ws ≤ 59 from Nat.le_trans (deps_le dw) (by omega)), if_true, any_K hx h, eqOut, Ok_ok]
theorem Ok_app {j : Nat} {v : W} {ws : List W} (hj : M[j]? = some (.lst ws)) (hl : ws.length < 1000000) : Ok (fAppend (.ref j) [v] M) Q ↔ Q .non (M.set j (.lst (ws ++ [v]))) := by
  unfold fAppend onL
  simp only [hj, many_iff.mpr (show ws.length + 1 ≤ 1000000 by omega), if_true, Ok_ok]
end
/-! more of the store -/
theorem set_app {M X : Mem} {j : Nat} {o : O} : (M ++ X).set (M.length + j) o = M ++ X.set j o := by
  rw [List.set_append_right _ _ (by omega), Nat.add_sub_cancel_left]
theorem get_app_r {M X : Mem} {j : Nat} : (M ++ X)[M.length + j]? = X[j]? := by
  rw [List.getElem?_append_right (by omega), Nat.add_sub_cancel_left]
theorem flats_D {f : W → Option W} : ∀ {ws : List W}, (∀ w ∈ ws, f w = some w) → flats f ws = some ws
  | [], _ => rfl
  | w :: ws, h => by
    unfold flats
    rw [h w List.mem_cons_self, flats_D fun z hz => h z (List.mem_cons_of_mem _ hz)]
theorem flatF_L {M : Mem} {n j : Nat} {ws : List W} (h : M[j]? = some (.lst ws)) (hd : isDs ws = true) : flatF (n + 1) M (.ref j) = some (.tup (.scr [] :: ws)) := by
  unfold flatF
  rw [if_neg (by simp [isD])]
  simp only [h]
  rw [flats_D fun w hw => flatF_D (isDs_mem.mp hd w hw)]
  rfl
theorem eqW_L {M : Mem} {i j : Nat} {xs ys : List W} (hi : M[i]? = some (.lst xs)) (hj : M[j]? = some (.lst ys)) (dx : isDs xs = true) (dy : isDs ys = true) (px : ∀ w ∈ xs, dep w ≤ 50) (py : ∀ w ∈ ys, dep w ≤ 50) : eqW M (.ref i) (.ref j) = some (decide (nrms xs = nrms ys)) := by
  unfold eqW
  rw [flatF_L hi dx, flatF_L hj dy]
  have p1 := deps_le px
  have p2 := deps_le py
  have q1 : dep (.tup (.scr [] :: xs)) ≤ 60 := by simp only [dep, deps]; omega
  have q2 : dep (.tup (.scr [] :: ys)) ≤ 60 := by simp only [dep, deps]; omega
  simp only [q1, q2, and_self, if_true]
  simp [eqD, nrm, nrms]
section
variable {Q : W → Mem → Prop} {M : Mem}
theorem Ok_eqL {i j : Nat} {xs ys : List W} (hi : M[i]? = some (.lst xs)) (hj : M[j]? = some (.lst ys)) (dx : isDs xs = true) (dy : isDs ys = true) (px : ∀ w ∈ xs, dep w ≤ 50) (py : ∀ w ∈ ys, dep w ≤ 50) : Ok (oEq (.ref i) (.ref j) M) Q ↔ Q (.bl (decide (nrms xs = nrms ys))) M := by
  unfold oEq
  rw [eqW_L hi hj dx dy px py]
  simp [eqOut]
theorem Ok_neL {i j : Nat} {xs ys : List W} (hi : M[i]? = some (.lst xs)) (hj : M[j]? = some (.lst ys)) (dx : isDs xs = true) (dy : isDs ys = true) (px : ∀ w ∈ xs, dep w ≤ 50) (py : ∀ w ∈ ys, dep w ≤ 50) : Ok (oNe (.ref i) (.ref j) M) Q ↔ Q (.bl (!decide (nrms xs = nrms ys))) M := by
  unfold oNe
  rw [eqW_L hi hj dx dy px py]
  simp [eqOut]
theorem Ok_neD {a b : W} (ha : isD a = true) (hb : isD b = true) (da : dep a ≤ 60) (db : dep b ≤ 60) : Ok (oNe a b M) Q ↔ Q (.bl (!eqD a b)) M := by
  unfold oNe
  rw [eqW_D ha hb da db]
  simp [eqOut]
theorem Ok_eqDD {a b : W} (ha : isD a = true) (hb : isD b = true) (da : dep a ≤ 60) (db : dep b ≤ 60) : Ok (oEq a b M) Q ↔ Q (.bl (eqD a b)) M := by
  unfold oEq
  rw [eqW_D ha hb da db]
  simp [eqOut]
theorem kindW_L {j : Nat} {ws : List W} (h : M[j]? = some (.lst ws)) : kindW (.ref j) M = 2 := by unfold kindW; simp only [h]
theorem items_L {j : Nat} {ws : List W} (h : M[j]? = some (.lst ws)) : items (.ref j) M = some ws := by simp [items, h]
theorem Ok_lstOf {m : EM} {s : Sl} {QL : List W → Mem → Prop} {j : Nat} {ws : List W} (h : Ok (m s M) fun w M' => ∃ j ws, w = .ref j ∧ M'[j]? = some (.lst ws) ∧ QL ws M') : Ok (lstOf m s M) QL := by
  unfold lstOf
  rw [Ok_bnd]
  refine h.mono fun w M' ⟨j, ws, e, hj, q⟩ => ?_
  subst e
  dsimp only
  rw [items_L hj]
  exact (Ok_ok _).mpr q
theorem Ok_atLast {ws : List W} {w : W} (h : ws.getLast? = some w) : Ok (atW ws (-1) M) Q ↔ Q w M := by
  have hl : 0 < ws.length := by
    cases ws with
    | nil => cases h
    | cons _ _ => simp
  rw [Ok_at, ixW_last hl]
  rw [List.getLast?_eq_getElem?] at h
  constructor
  · rintro ⟨n, w', h1, h2, q⟩
    cases h1
    rw [h] at h2
    cases h2
    exact q
  · exact fun q => ⟨_, w, rfl, h, q⟩
end
theorem Ok_addL {Q : W → Mem → Prop} {M : Mem} {i j : Nat} {xs ys : List W} (hi : M[i]? = some (.lst xs)) (hj : M[j]? = some (.lst ys)) (hl : xs.length + ys.length ≤ 1000000) : Ok (oAdd (.ref i) (.ref j) M) Q ↔ Q (.ref M.length) (M ++ [.lst (xs ++ ys)]) := by
  unfold oAdd
  simp only [hi, hj, catL, many_iff.mpr hl, if_true, Sw.alloc, Ok_ok]
/-! dicts -/
section
variable {Q : W → Mem → Prop} {M : Mem}
theorem Ok_lLock {α : Type} {md : EM} {b : Sl → Mem → Out α} {s : Sl} {Q : α → Mem → Prop} {j : Nat} {kvs : List (W × W)} (h1 : md s M = some (.ok (.ref j), M)) (h2 : M[j]? = some (.dic kvs))
    (h : Ok (b s (M.set j (.dlk kvs))) fun a M' => M'[j]? = some (.dlk kvs) ∧ Q a (M'.set j (.dic kvs))) : Ok (lLock md b s M) Q := by
  have e : lockAt md s M = some (j, kvs) := by unfold lockAt; rw [h1]; simp [h2]
  unfold lLock
  rw [e]
  dsimp only
  obtain ⟨a, M', e1, h3, q⟩ := h
  rw [e1]
  dsimp only
  rw [if_pos h3]
  exact ⟨_, _, rfl, q⟩
theorem eV_eq {i : Nat} {s : Sl} {w : W} (h : s[i]? = some (some w)) : eV i s M = some (.ok w, M) := by unfold eV; rw [h]; rfl
theorem Ok_keys {m : EM} {s : Sl} {QI : Wd → Mem → Prop} (h : Ok (m s M) fun w M' => ∃ j kvs, w = .ref j ∧ M'[j]? = some (.dlk kvs) ∧ QI (kvs.map (·.1), some (j, .dlk kvs)) M') : Ok (iKeysD m s M) QI := by
  unfold iKeysD
  rw [Ok_bnd]
  refine h.mono fun w M' ⟨j, kvs, e, hj, q⟩ => ?_
  subst e
  dsimp only
  rw [hj]
  exact (Ok_ok _).mpr q
theorem Ok_ixD {j : Nat} {kvs : List (W × W)} {k w : W} (h : dicO M[j]? = some kvs) (hk : okKey kvs k = true) (hg : dget kvs k = some w) : Ok (oIx (.ref j) k M) Q ↔ Q w M := by
  cases k with
  | int i => simp [oIx, h, hk, hg]
  | _ => simp [oIx, h, hk, hg]
theorem putW_D {j : Nat} {kvs : List (W × W)} {k v : W} (h : M[j]? = some (.dic kvs)) (hk : okKey kvs k = true) (hl : kvs.length < 1000000) : putW (.ref j) k v M = some (M.set j (.dic (dput kvs k v))) := by
  unfold putW
  simp only [h]
  rw [hk, many_iff.mpr (show kvs.length + 1 ≤ 1000000 by omega)]
  rfl
theorem dput_mem2 {k v : W} {p : W × W} : ∀ {kvs : List (W × W)}, p ∈ dput kvs k v → p ∈ kvs ∨ p.2 = v ∧ p.1 = k
  | [], h => by
    simp [dput] at h
    subst h
    exact .inr ⟨rfl, rfl⟩
  | (k', v') :: r, h => by
    unfold dput at h
    split at h
    · rename_i e
      rcases List.mem_cons.mp h with rfl | h
      · exact .inr ⟨rfl, e⟩
      · exact .inl (List.mem_cons_of_mem _ h)
    · rcases List.mem_cons.mp h with rfl | h
      · exact .inl List.mem_cons_self
      · rcases dput_mem2 h with h | h
        · exact .inl (List.mem_cons_of_mem _ h)
        · exact .inr h
theorem dput_len2 {k v : W} : ∀ {kvs : List (W × W)}, (dput kvs k v).length ≤ kvs.length + 1
  | [] => by simp [dput]
  | (k', v') :: r => by
    unfold dput
    split
    · simp
    · have := dput_len2 (k := k) (v := v) (kvs := r)
      simp; omega
theorem dget_some2 {k : W} : ∀ {kvs : List (W × W)}, k ∈ kvs.map (·.1) → ∃ v, dget kvs k = some v ∧ (k, v) ∈ kvs
  | [], h => by simp at h
  | (k', v') :: r, h => by
    unfold dget
    by_cases e : k' = k
    · subst e
      exact ⟨v', by simp, List.mem_cons_self⟩
    · rw [if_neg e]
      have h : k ∈ r.map (·.1) := by
        rw [List.map_cons] at h
        exact (List.mem_cons.mp h).resolve_left fun z => e z.symm
      obtain ⟨v, h1, h2⟩ := dget_some2 h
      exact ⟨v, h1, List.mem_cons_of_mem _ h2⟩
end
theorem Ok_iRange1 {Q : Wd → Mem → Prop} {M : Mem} {s : Sl} {b : EM} : Ok (iRange (eC (.int 0)) b s M) Q ↔ Ok (b s M) fun y M => Ok (rngW (.int 0) y M) Q := by simp
theorem range_mem {lo : Int} {n : Nat} {x : W} (h : x ∈ rangeW lo n) : ∃ i : Int, x = .int i ∧ lo ≤ i ∧ i < lo + n := by
  unfold rangeW at h
  obtain ⟨i, hi, e⟩ := List.mem_map.mp h
  have := List.mem_range.mp hi
  exact ⟨lo + i, e.symm, by omega, by omega⟩
theorem range_len {lo : Int} {n : Nat} : (rangeW lo n).length = n := by simp [rangeW]
theorem get_app_at {M X : Mem} {j k : Nat} {o : O} (hk : k = M.length + j) (h : X[j]? = some o) : (M ++ X)[k]? = some o := by rw [hk, get_app_r]; exact h
theorem set_app_at {M X : Mem} {j k : Nat} {o : O} (hk : k = M.length + j) : (M ++ X).set k o = M ++ X.set j o := by rw [hk, set_app]
end Sw

set_option autoImplicit false
set_option linter.all false
/-! Terms, atoms, wishes, as values. -/
namespace Sw
abbrev cName : Tx := [110, 97, 109, 101]
abbrev cCall : Tx := [99, 97, 108, 108]
abbrev cFlag : Tx := [102, 108, 97, 103]
abbrev cLike : Tx := [108, 105, 107, 101]
abbrev cMost : Tx := [109, 111, 115, 116]
abbrev cNot : Tx := [110, 111, 116]
abbrev cBoth : Tx := [98, 111, 116, 104]
abbrev cEith : Tx := [101, 105, 116, 104, 101, 114]
inductive Tm : W → Prop
  | name (s : Tx) : Tm (.tup [.str cName, .str s])
  | call (f : Tx) (ts : List W) : (∀ t ∈ ts, Tm t) → Tm (.tup [.str cCall, .str f, .tup ts])
inductive Mo : W → Prop
  | mk (t : W) (n d : Int) : Tm t → Mo (.tup [t, .tup [.int n, .int d]])
inductive At : W → Prop
  | flag (s : Tx) : At (.tup [.str cFlag, .str s])
  | like (a b : W) : Tm a → Tm b → At (.tup [.str cLike, a, b])
  | most (ps : List W) (n d : Int) : (∀ p ∈ ps, Mo p) → At (.tup [.str cMost, .tup ps, .tup [.int n, .int d]])
inductive Wi : W → Prop
  | at_ (w : W) : At w → Wi w
  | no (w : W) : Wi w → Wi (.tup [.str cNot, w])
  | both (ws : List W) : (∀ w ∈ ws, Wi w) → Wi (.tup [.str cBoth, .tup ws])
  | eith (ws : List W) : (∀ w ∈ ws, Wi w) → Wi (.tup [.str cEith, .tup ws])
/-! keys -/
theorem isK_tup {ws : List W} : isK (.tup ws) = true ↔ ∀ w ∈ ws, isK w = true := by
  show isKs ws = true ↔ _
  exact isKs_mem
theorem Tm.K {w : W} (h : Tm w) : isK w = true := by
  induction h with
  | name s => rfl
  | call f ts _ ih =>
    rw [isK_tup]
    intro w hw
    simp only [List.mem_cons, List.not_mem_nil, or_false] at hw
    rcases hw with rfl | rfl | rfl
    · rfl
    · rfl
    · exact isK_tup.mpr ih
theorem Mo.K {w : W} (h : Mo w) : isK w = true := by
  cases h with
  | mk t n d h => simp [isK, isKs, h.K]
theorem At.K {w : W} (h : At w) : isK w = true := by
  cases h with
  | flag s => rfl
  | like a b ha hb => simp [isK, isKs, ha.K, hb.K]
  | most ps n d h =>
    have : isKs ps = true := isKs_mem.mpr fun p hp => (h p hp).K
    simp [isK, isKs, this]
theorem Wi.K {w : W} (h : Wi w) : isK w = true := by
  induction h with
  | at_ w h => exact h.K
  | no w _ ih => simp [isK, isKs, ih]
  | both ws _ ih =>
    have : isKs ws = true := isKs_mem.mpr ih
    simp [isK, isKs, this]
  | eith ws _ ih =>
    have : isKs ws = true := isKs_mem.mpr ih
    simp [isK, isKs, this]
/-! < -/
def LtT (a b : W) : Prop := ∃ c, ltD a b = some c
def LtL (as bs : List W) : Prop := ∃ c, ltDs as bs = some c
theorem LtL.nil (bs : List W) : LtL [] bs := ⟨_, rfl⟩
theorem LtL.nil' (a : W) (as : List W) : LtL (a :: as) [] := ⟨_, rfl⟩
theorem LtL.cons {a b : W} {as bs : List W} (ka : isK a = true) (kb : isK b = true) (h : LtT a b) (k : a = b → LtL as bs) : LtL (a :: as) (b :: bs) := by
  unfold LtL ltDs
  by_cases e : a = b
  · rw [if_pos e]
    exact k e
  · rw [if_neg e, eqD_K ka kb, if_neg (by simpa using e)]
    exact h
theorem LtT.tup {as bs : List W} (h : LtL as bs) : LtT (.tup as) (.tup bs) := by
  obtain ⟨c, h⟩ := h
  exact ⟨c, by simpa [ltD] using h⟩
theorem LtT.str (s t : Tx) : LtT (.str s) (.str t) := ⟨_, rfl⟩
theorem LtT.int (s t : Int) : LtT (.int s) (.int t) := ⟨_, rfl⟩
theorem LtL.of {as : List W} : ∀ {bs : List W}, (∀ a ∈ as, isK a = true) → (∀ b ∈ bs, isK b = true) → (∀ a ∈ as, ∀ b ∈ bs, LtT a b) → LtL as bs := by
  induction as with
  | nil => intro bs _ _ _; exact LtL.nil bs
  | cons a as ih =>
    intro bs ka kb h
    cases bs with
    | nil => exact LtL.nil' a as
    | cons b bs =>
      exact LtL.cons (ka a List.mem_cons_self) (kb b List.mem_cons_self) (h a List.mem_cons_self b List.mem_cons_self) fun _ =>
        ih (fun x hx => ka x (List.mem_cons_of_mem _ hx)) (fun x hx => kb x (List.mem_cons_of_mem _ hx)) fun x hx y hy => h x (List.mem_cons_of_mem _ hx) y (List.mem_cons_of_mem _ hy)
/-- tags that differ -/
theorem LtT.tags {s t : Tx} {as bs : List W} (h : s ≠ t) : LtT (.tup (.str s :: as)) (.tup (.str t :: bs)) := LtT.tup (LtL.cons rfl rfl (LtT.str s t) fun e => absurd (by injection e) h)
theorem LtT.same {s : Tx} {as bs : List W} (h : LtL as bs) : LtT (.tup (.str s :: as)) (.tup (.str s :: bs)) := LtT.tup (LtL.cons rfl rfl (LtT.str s s) fun _ => h)
theorem Tm.lt {a : W} (h : Tm a) : ∀ {b : W}, Tm b → LtT a b := by
  induction h with
  | name s =>
    intro b hb
    cases hb with
    | name t => exact LtT.same (LtL.cons rfl rfl (LtT.str s t) fun _ => LtL.nil _)
    | call f ts h => exact LtT.tags (by decide)
  | call f ts hts ih =>
    intro b hb
    cases hb with
    | name t => exact LtT.tags (by decide)
    | call g us h =>
      exact LtT.same (LtL.cons rfl rfl (LtT.str f g) fun _ => LtL.cons (isK_tup.mpr fun t ht => (hts t ht).K) (isK_tup.mpr fun t ht => (h t ht).K)
        (LtT.tup (LtL.of (fun t ht => (hts t ht).K) (fun t ht => (h t ht).K) fun t ht u hu => ih t ht (h u hu))) fun _ => LtL.nil _)
theorem LtT.pair (n d n' d' : Int) : LtT (.tup [.int n, .int d]) (.tup [.int n', .int d']) := LtT.tup (LtL.cons rfl rfl (LtT.int n n') fun _ => LtL.cons rfl rfl (LtT.int d d') fun _ => LtL.nil _)
theorem Mo.lt {a b : W} (ha : Mo a) (hb : Mo b) : LtT a b := by
  cases ha with
  | mk t n d h =>
    cases hb with
    | mk t' n' d' h' => exact LtT.tup (LtL.cons h.K h'.K (h.lt h') fun _ => LtL.cons rfl rfl (LtT.pair n d n' d') fun _ => LtL.nil _)
theorem At.lt {a b : W} (ha : At a) (hb : At b) : LtT a b := by
  cases ha with
  | flag s =>
    cases hb with
    | flag t => exact LtT.same (LtL.cons rfl rfl (LtT.str s t) fun _ => LtL.nil _)
    | like _ _ _ _ => exact LtT.tags (by decide)
    | most _ _ _ _ => exact LtT.tags (by decide)
  | like x y hx hy =>
    cases hb with
    | flag t => exact LtT.tags (by decide)
    | like x' y' hx' hy' => exact LtT.same (LtL.cons hx.K hx'.K (hx.lt hx') fun _ => LtL.cons hy.K hy'.K (hy.lt hy') fun _ => LtL.nil _)
    | most _ _ _ _ => exact LtT.tags (by decide)
  | most ps n d hp =>
    cases hb with
    | flag t => exact LtT.tags (by decide)
    | like _ _ _ _ => exact LtT.tags (by decide)
    | most qs n' d' hq =>
      exact LtT.same (LtL.cons (isK_tup.mpr fun t ht => (hp t ht).K) (isK_tup.mpr fun t ht => (hq t ht).K) (LtT.tup (LtL.of (fun t ht => (hp t ht).K) (fun t ht => (hq t ht).K) fun t ht u hu => (hp t ht).lt (hq u hu)))
        fun _ => LtL.cons rfl rfl (LtT.pair n d n' d') fun _ => LtL.nil _)
theorem Wi.lt {a : W} (ha : Wi a) : ∀ {b : W}, Wi b → LtT a b := by
  have atTag : ∀ {w : W} {t : Tx} {r : List W}, At w → t = cNot ∨ t = cBoth ∨ t = cEith → LtT w (.tup (.str t :: r)) ∧ LtT (.tup (.str t :: r)) w := by
    intro w t r h ht
    have : ∃ s q, w = .tup (.str s :: q) ∧ (s = cFlag ∨ s = cLike ∨ s = cMost) := by
      cases h with
      | flag s => exact ⟨_, _, rfl, .inl rfl⟩
      | like _ _ _ _ => exact ⟨_, _, rfl, .inr (.inl rfl)⟩
      | most _ _ _ _ => exact ⟨_, _, rfl, .inr (.inr rfl)⟩
    obtain ⟨s, q, rfl, hs⟩ := this
    have hne : s ≠ t := by rcases hs with rfl | rfl | rfl <;> rcases ht with rfl | rfl | rfl <;> decide
    exact ⟨LtT.tags hne, LtT.tags hne.symm⟩
  induction ha with
  | at_ w h =>
    intro b hb
    cases hb with
    | at_ _ h' => exact h.lt h'
    | no _ _ => exact (atTag h (.inl rfl)).1
    | both _ _ => exact (atTag h (.inr (.inl rfl))).1
    | eith _ _ => exact (atTag h (.inr (.inr rfl))).1
  | no w hw ih =>
    intro b hb
    cases hb with
    | at_ _ h' => exact (atTag h' (.inl rfl)).2
    | no w' hw' => exact LtT.same (LtL.cons hw.K hw'.K (ih hw') fun _ => LtL.nil _)
    | both _ _ => exact LtT.tags (by decide)
    | eith _ _ => exact LtT.tags (by decide)
  | both ws hws ih =>
    intro b hb
    cases hb with
    | at_ _ h' => exact (atTag h' (.inr (.inl rfl))).2
    | no _ _ => exact LtT.tags (by decide)
    | both us hus => exact LtT.same (LtL.cons (isK_tup.mpr fun t ht => (hws t ht).K) (isK_tup.mpr fun t ht => (hus t ht).K) (LtT.tup (LtL.of (fun t ht => (hws t ht).K) (fun t ht => (hus t ht).K) fun t ht u hu => ih t ht (hus u hu))) fun _ => LtL.nil _)
    | eith _ _ => exact LtT.tags (by decide)
  | eith ws hws ih =>
    intro b hb
    cases hb with
    | at_ _ h' => exact (atTag h' (.inr (.inr rfl))).2
    | no _ _ => exact LtT.tags (by decide)
    | both _ _ => exact LtT.tags (by decide)
    | eith us hus => exact LtT.same (LtL.cons (isK_tup.mpr fun t ht => (hws t ht).K) (isK_tup.mpr fun t ht => (hus t ht).K) (LtT.tup (LtL.of (fun t ht => (hws t ht).K) (fun t ht => (hus t ht).K) fun t ht u hu => ih t ht (hus u hu))) fun _ => LtL.nil _)
/-! what < tells is enough to sort -/
theorem Ltp_irr {u v : List Int} (h : Ltp u v) (k : Ltp v u) : False := by
  have h1 := h.lt
  have h2 := ltI_asym _ _ k.lt
  rw [h1] at h2
  cases h2
theorem cmp2_of {a b : W} (h : LtT a b) (k : LtT b a) : cmp2 a b = true := by
  obtain ⟨x, hx⟩ := h
  obtain ⟨y, hy⟩ := k
  unfold cmp2
  rw [hx, hy]
  dsimp only
  split
  · rfl
  · rename_i ne
    obtain ⟨h1, h2⟩ := ltD_tok a b x hx
    obtain ⟨k1, k2⟩ := ltD_tok b a y hy
    cases x <;> cases y <;> first | rfl | exfalso
    · rcases h2 rfl with e | e
      · exact ne e
      · rcases k2 rfl with e' | e'
        · exact ne e'.symm
        · exact Ltp_irr e e'
    · exact Ltp_irr (h1 rfl) (k1 rfl)
theorem cmpAll_of {ws : List W} (hd : ∀ w ∈ ws, isD w = true ∧ dep w ≤ 58) (h : ∀ a ∈ ws, ∀ b ∈ ws, LtT a b) : cmpAll ws = true := by
  unfold cmpAll
  rw [List.all_eq_true]
  intro a ha
  rw [Bool.and_eq_true, Bool.and_eq_true]
  refine ⟨⟨(hd a ha).1, decide_eq_true (hd a ha).2⟩, ?_⟩
  rw [List.all_eq_true]
  exact fun b hb => cmp2_of (h a ha b hb) (h b hb a ha)
/-- a literal: a wish and a truth -/
theorem LtT.lit {a b : W} (ha : Wi a) (hb : Wi b) (x y : Bool) : LtT (.tup [a, .bl x]) (.tup [b, .bl y]) := by
  refine LtT.tup ?_
  unfold LtL ltDs
  by_cases e : a = b
  · rw [if_pos e]
    unfold ltDs
    by_cases e2 : (W.bl x) = W.bl y
    · rw [if_pos e2]
      exact ⟨_, rfl⟩
    · rw [if_neg e2]
      have : eqD (.bl x) (.bl y) = false := by
        have : x ≠ y := fun z => e2 (by rw [z])
        cases x <;> cases y <;> first | exact absurd rfl this | rfl
      rw [this]
      exact ⟨_, rfl⟩
  · rw [if_neg e, eqD_K ha.K hb.K, if_neg (by simpa using e)]
    exact ha.lt hb
end Sw

set_option autoImplicit false
set_option linter.all false
set_option maxRecDepth 10000
/-! The text that repr makes of plain data. -/
namespace Sw
open PySem
def plC (c : Nat) : Bool := decide (97 ≤ c) && decide (c ≤ 122)
mutual
def plW : W → Bool
  | .int i => decide (-100000 ≤ i) && decide (i ≤ 100000)
  | .str s => decide (s.length ≤ 8) && s.all plC
  | .tup ws => plWs ws
  | _ => false
def plWs : List W → Bool
  | [] => true
  | w :: ws => plW w && plWs ws
end
theorem plWs_mem : ∀ {ws : List W}, plWs ws = true ↔ ∀ w ∈ ws, plW w = true
  | [] => by simp [plWs]
  | w :: ws => by simp [plWs, plWs_mem (ws := ws)]
mutual
def sz : W → Nat
  | .tup ws => szs ws + 1
  | _ => 1
def szs : List W → Nat
  | [] => 0
  | w :: ws => sz w + szs ws
end
def dec (i : Int) : Tx := (toString i).toList.map Char.toNat
mutual
def rc : W → Tx
  | .int i => dec i
  | .str s => 39 :: (s ++ [39])
  | .tup ws => 40 :: (rcs ws ++ (if ws.length = 1 then [44, 41] else [41]))
  | _ => []
def rcs : List W → Tx
  | [] => []
  | w :: ws => rc w ++ (match ws with
    | [] => []
    | _ => 44 :: 32 :: rcs ws)
end
theorem str_app (a b : Str) : (a ++ b).cps.toList = a.cps.toList ++ b.cps.toList := by
  show (a.cps ++ b.cps).toList = _
  simp
theorem join_cps : ∀ xs : List Str, (Str.join ", " xs).cps.toList = (match xs with
    | [] => []
    | x :: xs => x.cps.toList ++ (xs.map fun y => 44 :: 32 :: y.cps.toList).flatten)
  | [] => rfl
  | [x] => by simp [Str.join]
  | x :: y :: xs => by
    have ih := join_cps (y :: xs)
    show (x ++ (", " : Str) ++ Str.join ", " (y :: xs)).cps.toList = _
    rw [str_app, str_app, ih]
    have : (", " : Str).cps.toList = [44, 32] := by decide
    rw [this]
    simp
theorem rcs_eq : ∀ ws : List W, rcs ws = (match ws with
    | [] => []
    | w :: ws => rc w ++ (ws.map fun y => 44 :: 32 :: rc y).flatten)
  | [] => rfl
  | [w] => by simp [rcs]
  | w :: v :: ws => by
    have ih := rcs_eq (v :: ws)
    show rc w ++ (44 :: 32 :: rcs (v :: ws)) = _
    rw [ih]
    simp
theorem quote_pl {s : Tx} (h : s.all plC = true) : reprQuote (tx s) = 39 := by
  unfold reprQuote
  have : (tx s).cps.contains 39 = false := by
    show s.toArray.contains 39 = false
    rw [List.contains_toArray]
    cases e : s.contains 39 with
    | false => rfl
    | true =>
      have := List.all_eq_true.mp h 39 (by simpa using e)
      simp [plC] at this
  rw [this]
  rfl
theorem char_pl : ∀ c : Nat, c < 123 → 97 ≤ c → Builtin.Str.reprChar 39 c = [c] := by decide +kernel
theorem text_pl {s : Tx} (h : s.all plC = true) : (reprText (tx s)).cps.toList = 39 :: (s ++ [39]) := by
  unfold reprText
  rw [quote_pl h]
  have go : ∀ (l : List Nat) (acc : Array Nat), l.all plC = true → (l.foldl (fun out c => out ++ (Builtin.Str.reprChar 39 c).toArray) acc).toList = acc.toList ++ l := by
    intro l
    induction l with
    | nil => intro acc _; simp
    | cons c l ih =>
      intro acc hl
      rw [List.all_cons, Bool.and_eq_true] at hl
      have hc := hl.1
      simp [plC] at hc
      rw [List.foldl_cons, ih _ hl.2, char_pl c (by omega) hc.1]
      simp
  simp only [Array.toList_push]
  rw [← Array.foldl_toList, go _ _ (by simpa using h)]
  simp
theorem int_text (i : Int) : (PyData.shown (.int i)).cps.toList = dec i := by
  rw [PyData.shown_int]
  show (Str.ofString (toString i)).cps.toList = _
  rw [Str.ofString_eq_toList]
  rfl
theorem toDs_ln : ∀ ws : List W, (toDs ws).length = ws.length
  | [] => rfl
  | w :: ws => by rw [toDs, List.length_cons, List.length_cons, toDs_ln ws]
mutual
theorem rep_rc : ∀ w : W, plW w = true → (PyData.shown (toD w)).cps.toList = rc w
  | .int i, _ => int_text i
  | .str s, h => by
    simp only [plW, Bool.and_eq_true] at h
    show (PyData.shown (.str (tx s))).cps.toList = _
    rw [PyData.shown_str, text_pl h.2]
    rfl
  | .tup ws, h => by
    have h : plWs ws = true := h
    have hm : hasM ws = false := by
      cases ws with
      | nil => rfl
      | cons w ws => cases w <;> first | rfl | (simp [plWs, plW] at h)
    rw [toD_tup hm, PyData.shown_tuple, str_app, str_app, join_cps]
    have hl : (toDs ws).length = ws.length := toDs_ln ws
    have e1 : ("(" : Str).cps.toList = [40] := by decide
    have e2 : ∀ b : Bool, ((if b = true then ",)" else ")" : String) : Str).cps.toList = if b = true then [44, 41] else [41] := by decide
    rw [e1, e2, hl]
    have hs := reps_rc ws h
    unfold rc
    rw [rcs_eq]
    cases ws with
    | nil => rfl
    | cons w ws =>
      simp only [toDs, PyData.shownAll, List.map_cons, List.cons.injEq] at hs
      simp only [toDs, PyData.shownAll]
      rw [hs.1]
      have e3 : ((PyData.shownAll (toDs ws)).map fun y => 44 :: 32 :: y.cps.toList) = ws.map fun y => 44 :: 32 :: rc y := by
        have := congrArg (List.map fun z : Tx => 44 :: 32 :: z) hs.2
        rw [List.map_map, List.map_map] at this
        exact this
      rw [e3]
      simp
  | .non, h => by simp [plW] at h
  | .bl _, h => by simp [plW] at h
  | .ref _, h => by simp [plW] at h
  | .scr _, h => by simp [plW] at h
theorem reps_rc : ∀ ws : List W, plWs ws = true → (PyData.shownAll (toDs ws)).map (fun x => x.cps.toList) = ws.map rc
  | [], _ => rfl
  | w :: ws, h => by
    unfold plWs at h
    rw [Bool.and_eq_true] at h
    simp only [toDs, PyData.shownAll, List.map_cons]
    rw [rep_rc w h.1, reps_rc ws h.2]
end
/-! ### how long -/
theorem dec_len {i : Int} (h : -100000 ≤ i ∧ i ≤ 100000) : (dec i).length ≤ 13 := by
  rw [← int_text]
  have := PyData.shown_int_le (i := i) (by omega)
  exact this
mutual
theorem rc_len : ∀ w : W, plW w = true → (rc w).length + 2 ≤ 16 * sz w
  | .int i, h => by
    simp only [plW, Bool.and_eq_true, decide_eq_true_eq] at h
    have := dec_len h
    simp only [rc, sz]
    omega
  | .str s, h => by
    simp only [plW, Bool.and_eq_true, decide_eq_true_eq] at h
    simp [rc, sz]
    omega
  | .tup ws, h => by
    have := rcs_len ws h
    simp only [rc, sz]
    split <;> simp <;> omega
  | .non, h => by simp [plW] at h
  | .bl _, h => by simp [plW] at h
  | .ref _, h => by simp [plW] at h
  | .scr _, h => by simp [plW] at h
theorem rcs_len : ∀ ws : List W, plWs ws = true → (rcs ws).length ≤ 16 * szs ws
  | [], _ => by simp [rcs]
  | w :: ws, h => by
    unfold plWs at h
    rw [Bool.and_eq_true] at h
    have h1 := rc_len w h.1
    have h2 := rcs_len ws h.2
    unfold rcs szs
    cases ws with
    | nil => simp; omega
    | cons v vs => simp at h2 ⊢; omega
end
mutual
theorem showable_pl : ∀ w : W, plW w = true → PyData.showable (toD w) = true
  | .int i, h => by
    simp only [plW, Bool.and_eq_true, decide_eq_true_eq] at h
    show decide (i.natAbs.log2 < 1920) = true
    have := log_sm (a := i) (by omega) (by omega)
    exact decide_eq_true (by omega)
  | .str s, h => rfl
  | .tup ws, h => by
    have h : plWs ws = true := h
    have hm : hasM ws = false := by
      cases ws with
      | nil => rfl
      | cons w ws => cases w <;> first | rfl | (simp [plWs, plW] at h)
    rw [toD_tup hm]
    exact showables_pl ws h
  | .non, h => by simp [plW] at h
  | .bl _, h => by simp [plW] at h
  | .ref _, h => by simp [plW] at h
  | .scr _, h => by simp [plW] at h
theorem showables_pl : ∀ ws : List W, plWs ws = true → PyData.showableAll (toDs ws) = true
  | [], _ => rfl
  | w :: ws, h => by
    unfold plWs at h
    rw [Bool.and_eq_true] at h
    simp only [toDs, PyData.showableAll, Bool.and_eq_true]
    exact ⟨showable_pl w h.1, showables_pl ws h.2⟩
end
/-! ### the text tells what it is of -/
def Stop (r : Tx) : Prop := ∃ c t, r = c :: t ∧ (c = 44 ∨ c = 41)
def Endt (t : Tx) : Prop := (∃ u, t = 41 :: u) ∨ ∃ u, t = 44 :: 41 :: u
theorem split_at {P : Nat → Prop} : ∀ (a b r r' : Tx), (∀ c ∈ a, ¬ P c) → (∀ c ∈ b, ¬ P c) → (∃ c t, r = c :: t ∧ P c) → (∃ c t, r' = c :: t ∧ P c) → a ++ r = b ++ r' → a = b ∧ r = r'
  | [], [], r, r', _, _, _, _, h => ⟨rfl, h⟩
  | [], c :: b, r, r', _, hb, ⟨x, t, e, p⟩, _, h => by
    subst e
    simp at h
    exact absurd (h.1 ▸ p) (hb c List.mem_cons_self)
  | c :: a, [], r, r', ha, _, _, ⟨x, t, e, p⟩, h => by
    subst e
    simp at h
    exact absurd (h.1.symm ▸ p) (ha c List.mem_cons_self)
  | c :: a, d :: b, r, r', ha, hb, hr, hr', h => by
    simp only [List.cons_append, List.cons.injEq] at h
    obtain ⟨e1, e2⟩ := split_at a b r r' (fun z hz => ha z (List.mem_cons_of_mem _ hz)) (fun z hz => hb z (List.mem_cons_of_mem _ hz)) hr hr' h.2
    exact ⟨by rw [h.1, e1], e2⟩
theorem nat_chars (m : Nat) : ∀ c ∈ m.repr.toList.map Char.toNat, 48 ≤ c ∧ c ≤ 57 := by
  intro c hc
  obtain ⟨d, hd, rfl⟩ := List.mem_map.mp hc
  have : m.repr.toList = Nat.toDigits 10 m := by simp [Nat.repr]
  rw [this] at hd
  have := Nat.isDigit_of_mem_toDigits (by decide) (by decide) hd
  simp only [Char.isDigit, Bool.and_eq_true, decide_eq_true_eq, ge_iff_le] at this
  exact ⟨by have := this.1; exact this, by have := this.2; exact this⟩
theorem nat_ne (m : Nat) : m.repr.toList.map Char.toNat ≠ [] := by
  intro e
  have e1 : m.repr.toList = Nat.toDigits 10 m := by simp [Nat.repr]
  rw [e1] at e
  exact Nat.toDigits_ne_nil (List.map_eq_nil_iff.mp e)
theorem dec_chars (i : Int) : (∀ c ∈ dec i, c = 45 ∨ 48 ≤ c ∧ c ≤ 57) ∧ dec i ≠ [] := by
  unfold dec
  rw [Int.toString_eq_repr, Int.repr_eq_if]
  split
  · exact ⟨fun c hc => .inr (nat_chars _ c hc), nat_ne _⟩
  · rw [String.toList_append, List.map_append]
    have : ("-" : String).toList.map Char.toNat = [45] := by decide
    rw [this]
    refine ⟨fun c hc => ?_, by simp⟩
    rcases List.mem_append.mp hc with hc | hc
    · exact .inl (List.mem_singleton.mp hc)
    · exact .inr (nat_chars _ c hc)
theorem dec_inj {i j : Int} (h : dec i = dec j) : i = j := by
  unfold dec at h
  have : (toString i).toList = (toString j).toList := by
    have inj : ∀ (a b : List Char), a.map Char.toNat = b.map Char.toNat → a = b := by
      intro a
      induction a with
      | nil => intro b h; cases b <;> simp_all
      | cons x a ih =>
        intro b h
        cases b with
        | nil => simp at h
        | cons y b =>
          simp only [List.map_cons, List.cons.injEq] at h
          rw [Char.toNat_inj.mp h.1, ih b h.2]
    exact inj _ _ h
  have e := String.toList_inj.mp this
  rw [Int.toString_eq_repr, Int.toString_eq_repr] at e
  exact Int.repr_injective e
def tlw : List W → Tx
  | [] => []
  | v :: vs => 44 :: 32 :: rcs (v :: vs)
theorem rcs_cons (w : W) (ws : List W) : rcs (w :: ws) = rc w ++ tlw ws := by cases ws <;> rfl
theorem rcs_nil : rcs [] = [] := rfl
/-- how a text begins -/
theorem rc_head : ∀ w : W, plW w = true → ∃ c t, rc w = c :: t ∧ c ≠ 41 ∧ c ≠ 44
  | .int i, _ => by
    obtain ⟨h1, h2⟩ := dec_chars i
    unfold rc
    cases e : dec i with
    | nil => exact absurd e h2
    | cons c t =>
      have := h1 c (by rw [e]; exact List.mem_cons_self)
      exact ⟨c, t, rfl, by omega, by omega⟩
  | .str s, _ => ⟨39, _, rfl, by decide, by decide⟩
  | .tup ws, _ => ⟨40, _, rfl, by decide, by decide⟩
  | .non, h => by simp [plW] at h
  | .bl _, h => by simp [plW] at h
  | .ref _, h => by simp [plW] at h
  | .scr _, h => by simp [plW] at h
theorem int_head {i : Int} {r u : Tx} {x : Nat} (hr : Stop r) (hx : x = 39 ∨ x = 40) (h : dec i ++ r = x :: u) : False := by
  obtain ⟨c, t, e, hc⟩ := hr
  cases e1 : dec i with
  | nil => exact (dec_chars i).2 e1
  | cons d ds =>
    rw [e1] at h
    simp only [List.cons_append, List.cons.injEq] at h
    have := (dec_chars i).1 d (by rw [e1]; exact List.mem_cons_self)
    omega
mutual
theorem rc_inj : ∀ (w w' : W) (r r' : Tx), plW w = true → plW w' = true → Stop r → Stop r' → rc w ++ r = rc w' ++ r' → w = w' ∧ r = r'
  | .int i, w', r, r', h, h', hr, hr', e => by
    cases w' with
    | int j =>
      have g : ∀ k : Int, ∀ c ∈ dec k, ¬ (c = 44 ∨ c = 41) := fun k c hc => by
        have := (dec_chars k).1 c hc
        omega
      obtain ⟨e1, e2⟩ := split_at (P := fun c => c = 44 ∨ c = 41) (dec i) (dec j) r r' (g i) (g j) hr hr' e
      exact ⟨by rw [dec_inj e1], e2⟩
    | str s => exact (int_head hr (.inl rfl) e).elim
    | tup ws => exact (int_head hr (.inr rfl) e).elim
    | _ => simp [plW] at h'
  | .str s, w', r, r', h, h', hr, hr', e => by
    cases w' with
    | int j => exact (int_head hr' (.inl rfl) e.symm).elim
    | str s' =>
      simp only [plW, Bool.and_eq_true] at h h'
      have g : ∀ {s : Tx}, s.all plC = true → ∀ c ∈ s, ¬ c = 39 := fun hs c hc => by
        have := List.all_eq_true.mp hs c hc
        simp [plC] at this
        omega
      simp only [rc, List.cons_append, List.cons.injEq, true_and, List.append_assoc, List.nil_append] at e
      obtain ⟨e1, e2⟩ := split_at (P := fun c => c = 39) s s' (39 :: r) (39 :: r') (g h.2) (g h'.2) ⟨39, r, rfl, rfl⟩ ⟨39, r', rfl, rfl⟩ e
      simp only [List.cons.injEq, true_and] at e2
      exact ⟨by rw [e1], e2⟩
    | tup ws => simp [rc] at e
    | _ => simp [plW] at h'
  | .tup ws, w', r, r', h, h', hr, hr', e => by
    cases w' with
    | int j => exact (int_head hr' (.inr rfl) e.symm).elim
    | str s' => simp [rc] at e
    | tup ws' =>
      simp only [rc, List.cons_append, List.cons.injEq, true_and, List.append_assoc] at e
      have en : ∀ {n : Nat} {r : Tx}, Endt ((if n = 1 then [44, 41] else [41]) ++ r) := fun {n r} => by
        split
        · exact .inr ⟨r, rfl⟩
        · exact .inl ⟨r, rfl⟩
      obtain ⟨e1, e2⟩ := rcs_inj ws ws' _ _ h h' en en e
      subst e1
      exact ⟨rfl, List.append_cancel_left e2⟩
    | _ => simp [plW] at h'
  | .non, _, _, _, h, _, _, _, _ => by simp [plW] at h
  | .bl _, _, _, _, h, _, _, _, _ => by simp [plW] at h
  | .ref _, _, _, _, h, _, _, _, _ => by simp [plW] at h
  | .scr _, _, _, _, h, _, _, _, _ => by simp [plW] at h
theorem rcs_inj : ∀ (ws ws' : List W) (t t' : Tx), plWs ws = true → plWs ws' = true → Endt t → Endt t' → rcs ws ++ t = rcs ws' ++ t' → ws = ws' ∧ t = t'
  | [], [], t, t', _, _, _, _, e => ⟨rfl, e⟩
  | [], w :: ws, t, t', _, h', ht, _, e => by
    simp only [plWs, Bool.and_eq_true] at h'
    obtain ⟨c, u, e1, n1, n2⟩ := rc_head w h'.1
    rw [rcs_nil, rcs_cons, e1] at e
    rcases ht with ⟨u', rfl⟩ | ⟨u', rfl⟩
    · simp at e; exact absurd e.1.symm n1
    · simp at e; exact absurd e.1.symm n2
  | w :: ws, [], t, t', h, _, _, ht, e => by
    simp only [plWs, Bool.and_eq_true] at h
    obtain ⟨c, u, e1, n1, n2⟩ := rc_head w h.1
    rw [rcs_nil, rcs_cons, e1] at e
    rcases ht with ⟨u', rfl⟩ | ⟨u', rfl⟩
    · simp at e; exact absurd e.1 n1
    · simp at e; exact absurd e.1 n2
  | w :: ws, w' :: ws', t, t', h, h', ht, ht', e => by
    simp only [plWs, Bool.and_eq_true] at h h'
    have st : ∀ {ws : List W} {t : Tx}, Endt t → Stop (tlw ws ++ t) := fun {ws t} ht => by
      cases ws with
      | nil =>
        rcases ht with ⟨u, rfl⟩ | ⟨u, rfl⟩
        · exact ⟨41, u, rfl, .inr rfl⟩
        · exact ⟨44, 41 :: u, rfl, .inl rfl⟩
      | cons v vs => exact ⟨44, _, rfl, .inl rfl⟩
    rw [rcs_cons, rcs_cons, List.append_assoc, List.append_assoc] at e
    obtain ⟨e1, e2⟩ := rc_inj w w' _ _ h.1 h'.1 (st ht) (st ht') e
    subst e1
    cases ws with
    | nil =>
      cases ws' with
      | nil => exact ⟨rfl, e2⟩
      | cons v vs =>
        exfalso
        rcases ht with ⟨u, rfl⟩ | ⟨u, rfl⟩ <;> simp [tlw] at e2
    | cons v vs =>
      cases ws' with
      | nil =>
        exfalso
        rcases ht' with ⟨u, rfl⟩ | ⟨u, rfl⟩ <;> simp [tlw] at e2
      | cons v' vs' =>
        simp only [tlw, List.cons_append, List.cons.injEq, true_and] at e2
        obtain ⟨e3, e4⟩ := rcs_inj (v :: vs) (v' :: vs') t t' h.2 h'.2 ht ht' e2
        exact ⟨by rw [e3], e4⟩
end
theorem rep_inj {w w' : W} (h : plW w = true) (h' : plW w' = true) (e : rep w = rep w') : w = w' := by
  have e : rc w = rc w' := by rw [← rep_rc w h, ← rep_rc w' h']; exact e
  exact (rc_inj w w' [41] [41] h h' ⟨41, [], rfl, .inr rfl⟩ ⟨41, [], rfl, .inr rfl⟩ (by rw [e])).1
theorem rep_len {w : W} (h : plW w = true) : (rep w).length ≤ 16 * sz w := by
  have e : rep w = rc w := rep_rc w h
  have := rc_len w h
  rw [e]
  omega
/-- repr of plain data -/
theorem Ok_repr {ws : List W} {M : Mem} {Q : W → Mem → Prop} (h : plW (.tup ws) = true) (hd : dep (.tup ws) ≤ 58) (hs : sz (.tup ws) ≤ 60000) (hD : isD (.tup ws) = true) : Ok (uRepr (.tup ws) M) Q ↔ Q (.str (rep (.tup ws))) M := by
  have h1 := showable_pl _ h
  have h2 := rep_len h
  unfold uRepr
  have hD : isDs ws = true := hD
  simp only [hD, hd, h1, many_iff.mpr (show (rep (.tup ws)).length ≤ 1000000 by omega), decide_true, Bool.and_self, if_true, Ok_ok]
end Sw

set_option autoImplicit false
set_option linter.all false
set_option maxRecDepth 10000
/-! Going through bodies: further words; names, fractions, terms as the program judges them. -/
namespace Sw
/-! ### garbage -/
section
variable {gcs : Nat → Bool} {T : (Nat → List W → Mem → Out W) → Nat → Nat × SM} {d f n : Nat} {b : SM} {args : List W} {M : Mem}
theorem run_t (hg : gcs f = true) (e : T (runG gcs T d) f = (n, b)) : runG gcs T (d + 1) f args M = gcO M (body n b args M) := by
  unfold runG
  rw [hg, e]
  rfl
theorem run_f (hg : gcs f = false) (e : T (runG gcs T d) f = (n, b)) : runG gcs T (d + 1) f args M = body n b args M := by
  unfold runG
  rw [hg, e]
  rfl
/-- a def that makes data -/
theorem run_okG {P : W → Prop} (hg : gcs f = true) (e : T (runG gcs T d) f = (n, b)) (h : Ok (b (start n args) M) fun fl M' => ∃ r, fl = .rt r ∧ isD r = true ∧ P r ∧ ∃ X, M' = M ++ X) : Ok (runG gcs T (d + 1) f args M) fun r M' => M' = M ∧ P r := by
  rw [run_t hg e]
  refine Ok_gcO (Ok_body.mpr (h.mono fun fl M' ⟨r, e1, hd, p, X, e2⟩ => ?_))
  subst e1 e2
  dsimp only
  rw [gc_data hd]
  exact ⟨rfl, p⟩
/-- a def that tells a truth -/
theorem run_b {k : Bool} (hg : gcs f = true) (e : T (runG gcs T d) f = (n, b)) (h : Ok (b (start n args) M) fun fl M' => fl = .rt (.bl k) ∧ ∃ X, M' = M ++ X) : runG gcs T (d + 1) f args M = some (.ok (.bl k), M) :=
  Ok.of_eq ((run_okG (P := fun r => r = .bl k) hg e (h.mono fun fl M' ⟨e1, X, e2⟩ => ⟨_, e1, rfl, rfl, X, e2⟩)).mono fun r M' ⟨e1, e2⟩ => ⟨e2, e1⟩)
theorem run_w {w : W} (hg : gcs f = true) (e : T (runG gcs T d) f = (n, b)) (hd : isD w = true) (h : Ok (b (start n args) M) fun fl M' => fl = .rt w ∧ ∃ X, M' = M ++ X) : runG gcs T (d + 1) f args M = some (.ok w, M) :=
  Ok.of_eq ((run_okG (P := fun r => r = w) hg e (h.mono fun fl M' ⟨e1, X, e2⟩ => ⟨_, e1, hd, rfl, X, e2⟩)).mono fun r M' ⟨e1, e2⟩ => ⟨e2, e1⟩)
theorem run_listG {P : List W → Prop} (hg : gcs f = true) (e : T (runG gcs T d) f = (n, b)) (h : Ok (b (start n args) M) fun fl M' => ∃ ws X j, fl = .rt (.ref (M.length + j)) ∧ M' = M ++ X ∧ X[j]? = some (.lst ws) ∧ isDs ws = true ∧ P ws) :
    Ok (runG gcs T (d + 1) f args M) fun r M' => ∃ ws, r = .ref M.length ∧ M' = M ++ [.lst ws] ∧ isDs ws = true ∧ P ws := by
  rw [run_t hg e]
  refine Ok_gcO (Ok_body.mpr (h.mono fun fl M' ⟨ws, X, j, e1, e2, e3, hd, p⟩ => ?_))
  subst e1 e2
  dsimp only
  rw [gc_list e3 hd]
  exact ⟨ws, rfl, rfl, hd, p⟩
/-- a def whose garbage is left -/
theorem run_n {Q : W → Mem → Prop} (hg : gcs f = false) (e : T (runG gcs T d) f = (n, b)) (h : Ok (b (start n args) M) fun fl M' => match fl with
    | .nx _ => Q .non M'
    | .rt w => Q w M') : Ok (runG gcs T (d + 1) f args M) Q := by
  rw [run_f hg e, Ok_body]
  exact h
end
theorem gc_nil' {M : Mem} {w : W} (h : isD w = true) : gc M w M = (w, M) := by
  have := gc_data (M := M) (X := []) h
  rwa [List.append_nil] at this
/-! ### words -/
section
variable {Q : W → Mem → Prop} {QF : Fl → Mem → Prop} {QL : List W → Mem → Prop} {M : Mem} {s : Sl}
theorem Ok_at0 {a : W} {r : List W} : Ok (atW (a :: r) 0 M) Q ↔ Q a M := by
  rw [Ok_at]
  have e : ixW (a :: r).length 0 = some 0 := by simp [ixW]
  constructor
  · rintro ⟨n, w, h1, h2, q⟩
    rw [e] at h1
    cases h1
    cases h2
    exact q
  · exact fun q => ⟨0, a, e, rfl, q⟩
theorem Ok_atN {ws : List W} {k : Nat} {w : W} (h : ws[k]? = some w) : Ok (atW ws (k : Int) M) Q ↔ Q w M := by
  rw [Ok_at, ixW_nat (List.getElem?_eq_some_iff.mp h).1]
  constructor
  · rintro ⟨n, w', h1, h2, q⟩
    cases h1
    rw [h] at h2
    cases h2
    exact q
  · exact fun q => ⟨k, w, rfl, h, q⟩
theorem Ok_at1 {a b : W} {r : List W} : Ok (atW (a :: b :: r) 1 M) Q ↔ Q b M := Ok_atN (ws := a :: b :: r) (k := 1) rfl
theorem Ok_at2 {a b c : W} {r : List W} : Ok (atW (a :: b :: c :: r) 2 M) Q ↔ Q c M := Ok_atN (ws := a :: b :: c :: r) (k := 2) rfl
theorem Ok_at3 {a b c e : W} {r : List W} : Ok (atW (a :: b :: c :: e :: r) 3 M) Q ↔ Q e M := Ok_atN (ws := a :: b :: c :: e :: r) (k := 3) rfl
theorem Ok_at_mem {ws : List W} {i : Int} (h1 : 0 ≤ i) (h2 : i < ws.length) (h : ∀ w ∈ ws, Q w M) : Ok (atW ws i M) Q := by
  rw [Ok_at]
  have hl : i.toNat < ws.length := by omega
  refine ⟨i.toNat, ws[i.toNat], ?_, List.getElem?_eq_getElem hl, h _ (List.getElem_mem hl)⟩
  have := ixW_nat hl
  rwa [Int.toNat_of_nonneg h1] at this
@[simp] theorem Ok_isN {w : W} : Ok (uIsN w M) Q ↔ Q (.bl (decide (w = .non))) M := Ok_ok _
@[simp] theorem Ok_noN {w : W} : Ok (uNoN w M) Q ↔ Q (.bl (!decide (w = .non))) M := Ok_ok _
@[simp] theorem Ok_eChain {f f' : Op2} {a b c : EM} : Ok (eChain f f' a b c s M) Q ↔ Ok (a s M) fun x M => Ok (b s M) fun y M => Ok (f x y M) fun k M => Br k (Ok (c s M) fun z M => Ok (f' y z M) Q) (Q (.bl false) M) := by
  unfold eChain
  simp only [Ok_bnd]
  constructor <;> (rintro ⟨x, N, e, y, N1, e1, k, N2, e2, q⟩; refine ⟨x, N, e, y, N1, e1, k, N2, e2, ?_⟩; cases k <;> first | exact (by simpa [Br] using q) | skip)
  · rename_i k; cases k <;> simpa [Br] using q
  · rename_i k; cases k <;> simpa [Br] using q
@[simp] theorem Ok_eL {f : List W → Mem → Out W} {l : LM} : Ok (eL f l s M) Q ↔ Ok (l s M) fun ws M => Ok (f ws M) Q := by simp [eL]
@[simp] theorem Ok_abs {i : Int} : Ok (uAbs (.int i) M) Q ↔ Q (.int i.natAbs) M := Ok_ok _
@[simp] theorem Ok_intB {b : Bool} : Ok (uInt (.bl b) M) Q ↔ Q (.int (if b then 1 else 0)) M := Ok_ok _
theorem Ok_isA {T : String} {w : W} {t : String} (h : tyN w M = some t) : Ok (uIsA T w M) Q ↔ Q (.bl (t == T || t == "bool" && T == "int")) M := by
  unfold uIsA
  rw [h]
  exact Ok_ok _
theorem bools_map {α : Type} (f : α → Bool) : ∀ (xs : List α), bools (xs.map fun x => W.bl (f x)) = some (xs.map f)
  | [] => rfl
  | x :: xs => by simp [bools, bools_map f xs]
theorem Ok_fAll {α : Type} {f : α → Bool} {xs : List α} : Ok (fAll (xs.map fun x => W.bl (f x)) M) Q ↔ Q (.bl (xs.all f)) M := by
  unfold fAll
  rw [bools_map]
  simp only [Ok_ok]
  have : (xs.map f).all id = xs.all f := by simp [List.all_map]
  rw [this]
end
/-! ### what is seen: refs stand for lists -/
mutual
def visB (M : Mem) : W → Bool
  | .tup ws => visBs M ws
  | .ref j => (match M[j]? with
    | some (.lst _) => true
    | _ => false)
  | _ => true
def visBs (M : Mem) : List W → Bool
  | [] => true
  | w :: ws => visB M w && visBs M ws
end
theorem visBs_mem {M : Mem} : ∀ {ws : List W}, visBs M ws = true ↔ ∀ w ∈ ws, visB M w = true
  | [] => by simp [visBs]
  | w :: ws => by simp [visBs, visBs_mem (ws := ws)]
def tyS : W → String
  | .non => "NoneType"
  | .bl _ => "bool"
  | .int _ => "int"
  | .str _ => "str"
  | .tup _ => "tuple"
  | .scr _ => "list"
  | .ref _ => "list"
theorem tyN_vis {M : Mem} {w : W} (h : visB M w = true) : tyN w M = some (tyS w) := by
  cases w with
  | ref j =>
    unfold visB at h
    unfold tyN
    split at h
    · rename_i ws e
      simp only [e]
      rfl
    · cases h
  | _ => rfl
mutual
theorem vis_app {M X : Mem} : ∀ {w : W}, visB M w = true → visB (M ++ X) w = true
  | .non, _ => rfl
  | .bl _, _ => rfl
  | .int _, _ => rfl
  | .str _, _ => rfl
  | .scr _, _ => rfl
  | .tup ws, h => by unfold visB at h ⊢; exact viss_app h
  | .ref j, h => by
    unfold visB at h ⊢
    split at h
    · rename_i ws e
      rw [get_app e]
    · cases h
theorem viss_app {M X : Mem} : ∀ {ws : List W}, visBs M ws = true → visBs (M ++ X) ws = true
  | [], _ => rfl
  | w :: ws, h => by
    unfold visBs at h ⊢
    rw [Bool.and_eq_true] at h ⊢
    exact ⟨vis_app h.1, viss_app h.2⟩
end
mutual
theorem vis_D {M : Mem} : ∀ {w : W}, isD w = true → visB M w = true
  | .non, _ => rfl
  | .bl _, _ => rfl
  | .int _, _ => rfl
  | .str _, _ => rfl
  | .scr _, _ => rfl
  | .tup ws, h => by unfold visB; unfold isD at h; exact viss_D h
  | .ref j, h => by simp [isD] at h
theorem viss_D {M : Mem} : ∀ {ws : List W}, isDs ws = true → visBs M ws = true
  | [], _ => rfl
  | w :: ws, h => by
    unfold isDs at h
    unfold visBs
    rw [Bool.and_eq_true] at h ⊢
    exact ⟨vis_D h.1, viss_D h.2⟩
end
/-! ### the greatest divisor -/
def gcdI (a b : Int) : Int := (Int.gcd a b : Nat)
/-- how long the way to the divisor is -/
def gms (a b : Int) : Nat := if b = 0 then 0 else (a * b).natAbs.log2 + 1 + (if a < b then 1 else 0)
theorem gms_lt {a b : Int} (ha : 0 ≤ a) (hb : 0 < b) : gms b (a % b) < gms a b := by
  have r0 := Int.emod_nonneg a (show b ≠ 0 by omega)
  have r1 := Int.emod_lt_of_pos a hb
  have hb0 : b ≠ 0 := by omega
  unfold gms
  by_cases hr : a % b = 0
  · rw [if_pos hr, if_neg hb0]
    omega
  · rw [if_neg hr, if_neg hb0, if_neg (show ¬ b < a % b by omega)]
    by_cases hab : a < b
    · have e : a % b = a := Int.emod_eq_of_lt ha hab
      rw [if_pos hab, e, Int.mul_comm]
      omega
    · rw [if_neg hab]
      have hq : 1 ≤ a / b := by
        have := Int.le_ediv_of_mul_le hb (show 1 * b ≤ a by omega)
        exact this
      have hd := Int.mul_ediv_add_emod a b
      have h2 : 2 * (a % b) < a := by
        have : b ≤ b * (a / b) := by
          have := Int.mul_le_mul_of_nonneg_left hq (show 0 ≤ b by omega)
          simpa using this
        omega
      have hpos : 0 < b * (a % b) := Int.mul_pos hb (by omega)
      have hlt : 2 * (b * (a % b)) < a * b := by
        have := Int.mul_lt_mul_of_pos_left h2 hb
        rw [Int.mul_comm a b]
        calc 2 * (b * (a % b)) = b * (2 * (a % b)) := by rw [Int.mul_left_comm]
          _ < b * a := this
      have l1 : ((b * (a % b)).natAbs).log2 + 1 ≤ ((a * b).natAbs).log2 := by
        have p1 : (b * (a % b)).natAbs ≠ 0 := by omega
        have p2 : (a * b).natAbs ≠ 0 := by omega
        have h3 : 2 * (b * (a % b)).natAbs ≤ (a * b).natAbs := by omega
        rw [Nat.le_log2 p2, Nat.pow_succ]
        have := Nat.log2_self_le p1
        omega
      omega
theorem gcd_step {a b : Int} (ha : 0 ≤ a) (hb : 0 < b) : gcdI a b = gcdI b (a % b) := by
  unfold gcdI Int.gcd
  have e : (a % b).natAbs = a.natAbs % b.natAbs := by
    obtain ⟨m, rfl⟩ := Int.eq_ofNat_of_zero_le ha
    obtain ⟨n, rfl⟩ := Int.eq_ofNat_of_zero_le (Int.le_of_lt hb)
    rfl
  rw [e, Nat.gcd_comm a.natAbs, Nat.gcd_rec b.natAbs a.natAbs, Nat.gcd_comm]
theorem gcdI_zero {a : Int} (ha : 0 ≤ a) : gcdI a 0 = a := by
  unfold gcdI
  simp [Int.gcd]
  omega
/-! ### names, fractions, terms -/
def nameB (s : Tx) : Bool := decide (1 ≤ s.length) && decide (s.length ≤ 8) && s.all fun c => decide (97 ≤ c) && decide (c ≤ 122)
def nameW : W → Bool
  | .str s => nameB s
  | _ => false
def wholeW : W → Bool
  | .int _ => true
  | _ => false
def tupN (k : Int) : W → Bool
  | .tup ws => decide ((ws.length : Int) = k)
  | _ => false
def wordW (t : Tx) : W → Bool
  | .str s => decide (s = t)
  | _ => false
def fracW : W → Bool
  | .tup [.int n, .int m] => decide (0 < m) && decide (gcdI n m = 1)
  | _ => false
mutual
def termW : W → Bool
  | .tup [a, b] => wordW cName a && nameW b
  | .tup [a, b, c] => wordW cCall a && nameW b && (match c with
    | .tup ts => decide (1 ≤ ts.length) && decide (ts.length ≤ 3) && termWs ts
    | _ => false)
  | _ => false
def termWs : List W → Bool
  | [] => true
  | t :: ts => termW t && termWs ts
end
theorem termWs_all : ∀ ts : List W, termWs ts = ts.all termW
  | [] => rfl
  | t :: ts => by simp [termWs, termWs_all ts]
def pairW : W → Bool
  | .tup [a, b] => termW a && fracW b && !decide (b = .tup [.int 0, .int 1])
  | _ => false
def fstW : W → W
  | .tup (a :: _) => a
  | _ => .non
def risB : List W → Bool
  | [] => true
  | [_] => true
  | a :: b :: r => lt1 (fstW a) (fstW b) && risB (b :: r)
def sumW : W → Bool
  | .tup ps => ps.all pairW && risB ps
  | _ => false
def atomW : W → Bool
  | .tup [a, b] => wordW cFlag a && nameW b
  | .tup [a, b, c] => if wordW cMost a then sumW b && fracW c else wordW cLike a && termW b && termW c
  | _ => false
mutual
def wishW : W → Bool
  | .tup [a, b] => (wordW cFlag a && nameW b) || (if wordW cNot a then wishW b else (wordW cBoth a || wordW cEith a) && (match b with
    | .tup ws => wishWs ws
    | _ => false))
  | w => atomW w
def wishWs : List W → Bool
  | [] => true
  | w :: ws => wishW w && wishWs ws
end
theorem wishWs_all : ∀ ts : List W, wishWs ts = ts.all wishW
  | [] => rfl
  | t :: ts => by simp [wishWs, wishWs_all ts]
/-! whole numbers are not too great -/
mutual
def smW : W → Bool
  | .int i => decide (i.natAbs < 2 ^ 4000)
  | .str s => decide (s.length ≤ 1000000)
  | .tup ws => decide (ws.length ≤ 1000) && smWs ws
  | _ => true
def smWs : List W → Bool
  | [] => true
  | w :: ws => smW w && smWs ws
end
theorem smWs_mem : ∀ {ws : List W}, smWs ws = true ↔ ∀ w ∈ ws, smW w = true
  | [] => by simp [smWs]
  | w :: ws => by simp [smWs, smWs_mem (ws := ws)]
end Sw
namespace Sw
theorem Ok_seq_str {z : Tx} {M : Mem} {QI : Wd → Mem → Prop} : Ok (seqW (.str z) M) QI ↔ QI (z.map fun c => .str [c], none) M := Ok_ok _
end Sw

set_option autoImplicit false
set_option linter.all false
set_option maxRecDepth 10000
/-! Going through bodies: instances, refusals, cut lists. -/
namespace Sw
section
variable {Q : W → Mem → Prop} {QF : Fl → Mem → Prop} {QL : List W → Mem → Prop} {M : Mem} {s : Sl} {c : Nat}
theorem fldO_ins {j : Nat} {fs : List (Tx × W)} (h : M[j]? = some (.ins c fs)) : fldO c M[j]? = some fs := by
  rw [h]
  simp [fldO]
theorem Ok_fld {i j : Nat} {f : Tx} {fs : List (Tx × W)} {w : W} (h : M[j]? = some (.ins c fs)) (hs : s[i]? = some (some (.ref j))) (hf : fs.lookup f = some w) : Ok (eFld c f (eV i) s M) Q ↔ Q w M := by
  unfold eFld
  rw [Ok_bnd, Ok_eV]
  constructor
  · rintro ⟨x, h1, h2⟩
    rw [hs] at h1
    cases h1
    dsimp only at h2
    rw [fldO_ins h] at h2
    simpa [hf] using h2
  · intro q
    refine ⟨_, hs, ?_⟩
    dsimp only
    rw [fldO_ins h]
    simpa [hf] using q
theorem Ok_meth {orc : Nat → List W → Mem → Out W} {i j id : Nat} {m : Tx} {fs : List (Tx × W)} {es : List EM} (h : M[j]? = some (.ins c fs)) (hs : s[i]? = some (some (.ref j))) (hf : fs.lookup m = none) : Ok (eMeth orc c m id (eV i) es s M) Q ↔ Ok (eAs es s M) fun vs M => Ok (orc id (.ref j :: vs) M) Q := by
  unfold eMeth
  rw [Ok_bnd, Ok_eV]
  constructor
  · rintro ⟨x, h1, h2⟩
    rw [hs] at h1
    cases h1
    dsimp only at h2
    rw [fldO_ins h] at h2
    simpa [hf] using h2
  · intro q
    refine ⟨_, hs, ?_⟩
    dsimp only
    rw [fldO_ins h]
    simpa [hf] using q
theorem Ok_fld0 {j : Nat} {f : Tx} {fs : List (Tx × W)} {w : W} (h : M[j]? = some (.ins c fs)) (hf : fs.lookup f = some w) : Ok (eFld c f (eV 0) (some (.ref j) :: s) M) Q ↔ Q w M := Ok_fld h rfl hf
theorem Ok_meth0 {orc : Nat → List W → Mem → Out W} {j id : Nat} {m : Tx} {fs : List (Tx × W)} {es : List EM} (h : M[j]? = some (.ins c fs)) (hf : fs.lookup m = none) : Ok (eMeth orc c m id (eV 0) es (some (.ref j) :: s) M) Q ↔ Ok (eAs es (some (.ref j) :: s) M) fun vs M => Ok (orc id (.ref j :: vs) M) Q := Ok_meth h rfl hf
theorem Ok_meth2 {orc : Nat → List W → Mem → Out W} {j id : Nat} {m : Tx} {fs : List (Tx × W)} {es : List EM} {x y : Option W} (h : M[j]? = some (.ins c fs)) (hf : fs.lookup m = none) : Ok (eMeth orc c m id (eV 2) es (x :: y :: some (.ref j) :: s) M) Q ↔ Ok (eAs es (x :: y :: some (.ref j) :: s) M) fun vs M => Ok (orc id (.ref j :: vs) M) Q := Ok_meth h rfl hf
theorem methX_eq {orc : Nat → List W → Mem → Out W} {i j id : Nat} {m : Tx} {fs : List (Tx × W)} {es : List EM} {vs : List W} (h : M[j]? = some (.ins c fs)) (hs : s[i]? = some (some (.ref j))) (hf : fs.lookup m = none) (he : eAs es s M = some (.ok vs, M)) :
    eMethX orc c m id (eV i) es s M = orc id (.ref j :: vs) M := by
  unfold eMethX
  rw [eV_eq hs]
  show (match (fldO c M[j]?).map (·.lookup m) with
    | some none => bnd (noX (eAs es s M)) fun vs M => orc id (.ref j :: vs) M
    | _ => none) = _
  rw [fldO_ins h]
  simp only [Option.map_some, hf]
  rw [he]
  rfl
theorem Ok_make {orc : Nat → List W → Mem → Out W} {id : Nat} {es : List EM} : Ok (eMake orc c id es s M) Q ↔ Ok (eAs es s M) fun vs M => Ok (orc id (.ref M.length :: vs) (M ++ [.ins c []])) fun r M' => r = .non ∧ Q (.ref M.length) M' := by
  unfold eMake
  simp only [Ok_bnd]
  constructor
  · rintro ⟨vs, M1, e1, r, M2, e2, h⟩
    refine ⟨vs, M1, e1, r, M2, e2, ?_⟩
    split at h
    · exact ⟨rfl, (Ok_ok _).mp h⟩
    · exact (Ok_none.mp h).elim
  · rintro ⟨vs, M1, e1, r, M2, e2, rfl, q⟩
    exact ⟨vs, M1, e1, _, M2, e2, (Ok_ok _).mpr q⟩
theorem Ok_setF {f : Tx} {i : Nat} {e : EM} (h : Ok (e s M) fun v M' => ∃ j fs, s[i]? = some (some (.ref j)) ∧ M'[j]? = some (.ins c fs) ∧ fs.length < 900 ∧ QF (.nx s) (M'.set j (.ins c (putFld f v fs)))) : Ok (sFld c f (eV i) e s M) QF := by
  unfold sFld
  rw [Ok_bnd]
  refine h.mono fun v M' ⟨j, fs, h1, h2, h3, q⟩ => ?_
  rw [eV_eq h1]
  show Ok (match fldO c M'[j]? with
    | some fs => if fs.length < 900 then ok (.nx s) (M'.set j (.ins c (putFld f v fs))) else none
    | none => none) QF
  rw [fldO_ins h2]
  dsimp only
  rw [if_pos h3]
  exact (Ok_ok _).mpr q
theorem Ok_lSl0 {m h : EM} (k : Ok (m s M) fun x M => Ok (h s M) fun y M => ∃ j ws n, x = .ref j ∧ y = .int n ∧ M[j]? = some (.lst ws) ∧ ws.length ≤ 1000000 ∧ QL (cutX ws none (some n)) M) : Ok (lSl m none (some h) s M) QL := by
  unfold lSl
  rw [Ok_bnd]
  refine k.mono fun x M1 k => ?_
  show Ok (bnd (bnd (h s M1) fun x M => match x with
    | .int i => ok (some i) M
    | _ => none) _) QL
  rw [Ok_bnd, Ok_bnd]
  refine k.mono fun y M2 ⟨j, ws, n, e1, e2, e3, e4, q⟩ => ?_
  subst e1 e2
  simp only [Ok_ok, e3, many_iff.mpr e4, if_true]
  exact q
theorem cutX_take {α : Type} {xs : List α} {n : Nat} (h : n ≤ xs.length) : cutX xs none (some (n : Int)) = xs.take n := by
  unfold cutX sIxW
  simp only [List.drop_zero, Nat.sub_zero]
  rw [if_neg (by omega)]
  congr 1
  simp
  omega
theorem Ok_lList {l : LM} (h : Ok (l s M) fun ws M' => ws.length ≤ 1000000 ∧ QL ws M') : Ok (lList l s M) QL := by
  unfold lList
  rw [Ok_bnd]
  refine h.mono fun ws M' ⟨h1, q⟩ => ?_
  rw [many_iff.mpr h1]
  exact (Ok_ok _).mpr q
theorem Ok_pop0 {j : Nat} {ws : List W} {w : W} (h : M[j]? = some (.lst (ws ++ [w]))) : Ok (fPop0 (.ref j) [] M) Q ↔ Q w (M.set j (.lst ws)) := by
  have : fPop0 (.ref j) [] M = some (.ok w, M.set j (.lst ws)) := by
    unfold fPop0 onL
    simp only [h]
    simp [ok]
  rw [this, Ok_some]
theorem intsOf_map {α : Type} {f : α → Int} : ∀ (xs : List α), intsOf (xs.map fun x => .int (f x)) = some (xs.map f)
  | [] => rfl
  | x :: xs => by simp [intsOf, intsOf_map xs]
theorem Ok_sumI {α : Type} {f : α → Int} {xs : List α} : Ok (fSum (xs.map fun x => .int (f x)) M) Q ↔ Q (.int (xs.map f).sum) M := by
  unfold fSum
  rw [intsOf_map]
  exact Ok_ok _
theorem Ok_isEx {sub : Nat → Option Bool} {j k : Nat} {b : Bool} {w : W} (h : M[j]? = some (.exc k w)) (hb : sub k = some b) : Ok (uIsE sub (.ref j) M) Q ↔ Q (.bl b) M := by
  have : uIsE sub (.ref j) M = some (.ok (.bl b), M) := by
    unfold uIsE
    simp [h, hb, ok]
  rw [this, Ok_some]
/-- a body that refuses at once -/
theorem refuse_eq {t : EM} {rest : SM} {k : Nat} (h : Ok (t s M) fun x M' => x = .bl true ∧ M' = M) : sSeq (sIf t (sRaise k) sPass) rest s M = some (.error ⟨k, .non⟩, M) := by
  obtain ⟨x, M', e, rfl, rfl⟩ := h
  unfold sSeq sIf
  rw [e]
  rfl
theorem run_refuse {gcs : Nat → Bool} {T : (Nat → List W → Mem → Out W) → Nat → Nat × SM} {d f n : Nat} {b : SM} {args : List W} {x : Xn} (hg : gcs f = false) (e : T (runG gcs T d) f = (n, b)) (h : b (start n args) M = some (.error x, M)) : runG gcs T (d + 1) f args M = some (.error x, M) := by
  rw [run_f hg e]
  unfold body
  rw [h]
  rfl
end
end Sw

set_option autoImplicit false
set_option linter.all false
set_option maxRecDepth 10000
set_option exponentiation.threshold 9000
/-! Numbers, fractions in texts. -/
namespace Sw
def digB (z : Tx) : Bool := z.all fun c => decide (48 ≤ c) && decide (c ≤ 57)
def valN (z : Tx) : Nat := PySem.NumText.digitsVal z
def bare (z : Tx) : Tx := if z.take 1 = [45] then z.drop 1 else z
def valI (z : Tx) : Int := if z.take 1 = [45] then -(valN (z.drop 1) : Int) else valN z
/-- figures as a number has them -/
def figB (z : Tx) : Bool := digB z && !decide (z = []) && (!decide (z.take 1 = [48]) || decide (z = [48]))
def wholeO (z : Tx) : Option Int := if figB (bare z) && !decide (z = [45, 48]) then some (valI z) else none
def wholeV : Option Int → W
  | none => .non
  | some i => .int i
def fracO (z : Tx) : Option (Int × Int) := match TL.par [47] [] z with
  | none => (wholeO z).map fun w => (w, 1)
  | some (a, b) => (match wholeO a, wholeO b with
    | some w, some m => if 2 ≤ m ∧ gcdI w m = 1 then some (w, m) else none
    | _, _ => none)
def fracV : Option (Int × Int) → W
  | none => .non
  | some (n, m) => .tup [.int n, .int m]
theorem digB_all {z : Tx} (h : digB z = true) : PySem.NumText.AllDigits z := by
  intro c hc
  have := List.all_eq_true.mp h c hc
  simpa using this
theorem figB_dig {z : Tx} (h : figB z = true) : digB z = true ∧ z ≠ [] := by
  unfold figB at h
  simp only [Bool.and_eq_true] at h
  exact ⟨h.1.1, by simpa using h.1.2⟩
theorem bare_neg {r : Tx} : bare (45 :: r) = r := by simp [bare]
theorem bare_pos {z : Tx} (h : z.take 1 ≠ [45]) : bare z = z := by unfold bare; rw [if_neg h]
theorem valI_neg {r : Tx} : valI (45 :: r) = -(valN r : Int) := by simp [valI]
theorem valI_pos {z : Tx} (h : z.take 1 ≠ [45]) : valI z = valN z := by unfold valI; rw [if_neg h]
theorem sign_or (z : Tx) : (∃ r, z = 45 :: r) ∨ z.take 1 ≠ [45] := by
  cases z with
  | nil => right; simp
  | cons c r =>
    by_cases h : c = 45
    · subst h; exact .inl ⟨r, rfl⟩
    · right; simp [h]
theorem fig_pos {z : Tx} (h : figB z = true) : z.take 1 ≠ [45] := by
  obtain ⟨h1, h2⟩ := figB_dig h
  cases z with
  | nil => exact absurd rfl h2
  | cons c r =>
    have := digB_all h1 c List.mem_cons_self
    intro e
    simp at e
    omega
theorem intT_eq {z : Tx} (h : figB (bare z) = true) (hl : z.length ≤ 640) : PySem.intText? (tx z) = some (valI z) := by
  obtain ⟨h1, h2⟩ := figB_dig h
  rcases sign_or z with ⟨r, rfl⟩ | hs
  · rw [bare_neg] at h1 h2
    rw [valI_neg]
    exact PySem.intText_neg (x := tx (45 :: r)) (cs := r) rfl (digB_all h1) h2 (by show (tx _).cps.size ≤ 4300; simp; first | omega | (simp at hl; omega))
  · rw [bare_pos hs] at h1 h2
    rw [valI_pos hs]
    exact PySem.intText_digits (x := tx z) (digB_all h1) h2 (by show (tx _).cps.size ≤ 4300; simp; first | omega | (simp at hl; omega))
theorem Ok_intT {z : Tx} {Q : W → Mem → Prop} {M : Mem} (h : figB (bare z) = true) (hl : z.length ≤ 640) : Ok (uIntT (.str z) M) Q ↔ Q (.int (valI z)) M := by
  have e : uIntT (.str z) M = some (.ok (.int (valI z)), M) := by
    unfold uIntT
    simp only [intT_eq h hl]
    rw [if_pos hl]
    rfl
  rw [e, Ok_some]
/-! sizes -/
theorem valN_lt : ∀ (z : Tx) (a : Nat), PySem.NumText.AllDigits z → z.foldl (fun acc c => acc * 10 + (c - 48)) a < (a + 1) * 10 ^ z.length
  | [], a, _ => by simp
  | c :: r, a, h => by
    have hc := h c List.mem_cons_self
    have ih := valN_lt r (a * 10 + (c - 48)) fun d hd => h d (List.mem_cons_of_mem _ hd)
    rw [List.foldl_cons, List.length_cons, Nat.pow_succ]
    have : (a * 10 + (c - 48) + 1) * 10 ^ r.length ≤ (a + 1) * (10 ^ r.length * 10) := by
      rw [Nat.mul_comm (10 ^ r.length) 10, ← Nat.mul_assoc]
      exact Nat.mul_le_mul_right _ (by omega)
    omega
theorem valN_small {z : Tx} (h : digB z = true) (hl : z.length ≤ 640) : valN z < 2 ^ 4000 := by
  have h1 := valN_lt z 0 (digB_all h)
  have h2 : (0 + 1) * 10 ^ z.length ≤ 16 ^ 640 := by
    rw [Nat.zero_add, Nat.one_mul]
    exact Nat.le_trans (Nat.pow_le_pow_right (by decide) hl) (Nat.pow_le_pow_left (by decide) _)
  have h3 : 16 ^ 640 ≤ 2 ^ 4000 := by
    rw [show (16 : Nat) = 2 ^ 4 from rfl, ← Nat.pow_mul]
    exact Nat.pow_le_pow_right (by decide) (by decide)
  exact Nat.lt_of_lt_of_le h1 (Nat.le_trans h2 h3)
theorem whole_some {z : Tx} {i : Int} (h : wholeO z = some i) : figB (bare z) = true ∧ z ≠ [45, 48] ∧ i = valI z := by
  unfold wholeO at h
  split at h
  · rename_i hc
    rw [Bool.and_eq_true] at hc
    cases h
    exact ⟨hc.1, by simpa using hc.2, rfl⟩
  · cases h
theorem valI_abs {z : Tx} : (valI z).natAbs = valN (bare z) := by
  rcases sign_or z with ⟨r, rfl⟩ | hs
  · rw [valI_neg, bare_neg]; simp
  · rw [valI_pos hs, bare_pos hs]; simp
theorem bare_len {z : Tx} : (bare z).length ≤ z.length := by
  unfold bare
  split
  · rw [List.length_drop]; omega
  · exact Nat.le_refl _
theorem whole_small {z : Tx} {i : Int} (h : wholeO z = some i) (hl : z.length ≤ 640) : i.natAbs < 2 ^ 4000 := by
  obtain ⟨h1, _, rfl⟩ := whole_some h
  rw [valI_abs]
  exact valN_small (figB_dig h1).1 (Nat.le_trans bare_len hl)
/-! cut at the stroke -/
theorem cut47 (z : Tx) : (47 ∉ z ∧ TL.par [47] [] z = none ∧ TL.spl [47] 0 [] z = [z]) ∨ ∃ a b, z = a ++ 47 :: b ∧ 47 ∉ a ∧ TL.par [47] [] z = some (a, b) ∧ TL.spl [47] 0 [] z = a :: TL.spl [47] 0 [] b := by
  by_cases h : 47 ∈ z
  · obtain ⟨a, b, e, ha⟩ := List.eq_append_cons_of_mem h
    refine .inr ⟨a, b, e, ha, ?_, ?_⟩
    · rw [e]
      exact (TL.par_part1 (S := []) (rest := b) (acc := []) ha).trans (by simp)
    · rw [e]
      exact (TL.spl_part1 (S := []) (rest := b) (acc := []) ha).trans (by simp)
  · exact .inl ⟨h, TL.par_none1 h, (TL.spl_last1 h).trans (by simp)⟩
theorem fig47 {z : Tx} (h : 47 ∈ z) : figB (bare z) = false := by
  have hb : 47 ∈ bare z := by
    rcases sign_or z with ⟨r, rfl⟩ | hs
    · rw [bare_neg]
      rcases List.mem_cons.mp h with h | h
      · exact absurd h (by decide)
      · exact h
    · rw [bare_pos hs]; exact h
  cases e : figB (bare z) with
  | false => rfl
  | true =>
    have := digB_all (figB_dig e).1 47 hb
    omega
theorem whole47 {z : Tx} (h : 47 ∈ z) : wholeO z = none := by
  unfold wholeO
  rw [fig47 h]
  rfl
theorem whole_fig {z : Tx} (h : figB z = true) : wholeO z = some (valN z : Int) := by
  have hp := fig_pos h
  have hne : z ≠ [45, 48] := fun e => hp (by rw [e]; rfl)
  unfold wholeO
  rw [bare_pos hp, h, decide_eq_false hne, valI_pos hp]
  rfl
theorem whole_two {z : Tx} {m : Int} (h : wholeO z = some m) (h2 : 2 ≤ m) : figB z = true ∧ m = valN z := by
  obtain ⟨h1, _, rfl⟩ := whole_some h
  rcases sign_or z with ⟨r, rfl⟩ | hs
  · rw [valI_neg] at h2; omega
  · rw [bare_pos hs] at h1
    exact ⟨h1, valI_pos hs⟩
theorem gcd_natAbs {n n' m : Int} (h : n.natAbs = n'.natAbs) : gcdI n m = gcdI n' m := by
  unfold gcdI Int.gcd
  rw [h]
end Sw

set_option autoImplicit false
set_option linter.all false
/-! The pure bodies. -/
namespace Sw.smallword_k85_lines_refused
open Sw
def sub_NoAnswer : Nat → Option Bool := fun k => match k with | 2 => some false | _ => none
def sub_NoLevel : Nat → Option Bool := fun k => match k with | 2 => some false | _ => none
def sub_NoLine : Nat → Option Bool := fun k => match k with | 2 => some false | _ => none
def sub_NoText : Nat → Option Bool := fun k => match k with | 2 => some true | _ => none
def sub_NoWish : Nat → Option Bool := fun k => match k with | 2 => some false | _ => none
def sub_ValueError : Nat → Option Bool := fun k => match k with | 2 => some true | _ => none
def subT_0 : Nat → Option Bool := fun k => match k with | 2 => some false | _ => none
def ct_WishError : Nat → Option Bool := fun k => match k with | 2 => some true | _ => none
/-- NoText.__init__(self, at); slots 0 self, 1 at -/
def b0 (orc : Orc) : SM :=
  sStop
/-- divisor(one, other); slots 0 one, 1 other, 2 rest -/
def b1 (orc : Orc) : SM :=
  (sSeq (sWhile 100000 (eOp oNe (eV 1) (eC (.int 0))) (sSeq (sAsg (.one 2) (eOp oMod (eV 0) (eV 1)))
  (sSeq (sAsg (.one 0) (eV 1))
  (sAsg (.one 1) (eV 2)))))
  (sRet (eV 0)))
/-- fraction(top, bottom); slots 0 top, 1 bottom, 2 by -/
def b2 (orc : Orc) : SM :=
  (sSeq (sIf (eOp oEq (eV 1) (eC (.int 0))) sStop sPass)
  (sSeq (sIf (eOp oLt (eV 1) (eC (.int 0))) (sRet (eCall orc 2 [(eUn uNeg (eV 0)), (eUn uNeg (eV 1))])) sPass)
  (sSeq (sAsg (.one 2) (eCall orc 1 [(eUn uAbs (eV 0)), (eV 1)]))
  (sRet (eTup [(eOp oDiv (eV 0) (eV 2)), (eOp oDiv (eV 1) (eV 2))])))))
/-- whole_in(text); slots 0 text, 1 figures, 2 sign -/
def b3 (orc : Orc) : SM :=
  (sSeq (sAsg (.one 1) (eV 0))
  (sSeq (sIf (eOp oEq (eSlS (eV 0) none (some (eC (.int 1)))) (eC (.str [45]))) (sAsg (.one 1) (eSlS (eV 0) (some (eC (.int 1))) none)) sPass)
  (sSeq (sIf (eOr (eUn uNot (eChain oLe oLe (eC (.int 1)) (eUn uLen (eV 1)) (eC (.int 4000)))) (eUn uNot (eL fAll (lComp (iSeq (eV 1)) (.one 2) (eC (.bl true)) (eOp oIn (eV 2) (eC (.str [48, 49, 50, 51, 52, 53, 54, 55, 56, 57]))))))) (sRet (eC .non)) sPass)
  (sSeq (sIf (eAnd (eOp oEq (eOp oIx (eV 1) (eC (.int 0))) (eC (.str [48]))) (eOp oNe (eV 0) (eC (.str [48])))) (sRet (eC .non)) sPass)
  (sRet (eUn uIntT (eV 0)))))))
/-- fraction_in(text); slots 0 text, 1 whole, 2 below, 3 top, 4 stroke, 5 bottom -/
def b4 (orc : Orc) : SM :=
  (sSeq (sAsg (.some_ [3, 4, 5]) (eParti (eV 0) (eC (.str [47]))))
  (sSeq (sAsg (.one 1) (eCall orc 3 [(eV 3)]))
  (sSeq (sIf (eOr (eOp oEq (eV 4) (eC (.str []))) (eUn uIsN (eV 1))) (sSeq (sIf (eUn uIsN (eV 1)) (sRet (eC .non)) sPass)
  (sRet (eTup [(eV 1), (eC (.int 1))]))) sPass)
  (sSeq (sAsg (.one 2) (eCall orc 3 [(eV 5)]))
  (sSeq (sIf (eOr (eUn uIsN (eV 2)) (eOr (eOp oLt (eV 2) (eC (.int 2))) (eOp oNe (eCall orc 2 [(eV 1), (eV 2)]) (eTup [(eV 1), (eV 2)])))) (sRet (eC .non)) sPass)
  (sRet (eTup [(eV 1), (eV 2)])))))))
/-- is_name(thing); slots 0 thing, 1 sign -/
def b5 (orc : Orc) : SM :=
  (sSeq (sIf (eOr (eUn uNot (eUn (uIsA "str") (eV 0))) (eUn uNot (eChain oLe oLe (eC (.int 1)) (eUn uLen (eV 0)) (eC (.int 8))))) (sRet (eC (.bl false))) sPass)
  (sRet (eL fAll (lComp (iSeq (eV 0)) (.one 1) (eC (.bl true)) (eOp oIn (eV 1) (eC (.str [97, 98, 99, 100, 101, 102, 103, 104, 105, 106, 107, 108, 109, 110, 111, 112, 113, 114, 115, 116, 117, 118, 119, 120, 121, 122])))))))
/-- call_in(words); slots 0 words, 1 places, 2 value, 3 word -/
def b6 (orc : Orc) : SM :=
  (sSeq (sIf (eOr (eOp oLt (eUn uLen (eV 0)) (eC (.int 5))) (eOr (eOp oGt (eUn uLen (eV 0)) (eOp oAdd (eC (.int 4)) (eC (.int 3)))) (eOr (eOp oNe (eOp oIx (eV 0) (eUn uNeg (eC (.int 2)))) (eC (.str [61]))) (eUn uNot (eCall orc 5 [(eOp oIx (eV 0) (eC (.int 1)))]))))) (sRet (eC .non)) sPass)
  (sSeq (sAsg (.one 1) (eNew (lComp (iNew (lSl (eV 0) (some (eC (.int 2))) (some (eUn uNeg (eC (.int 2)))))) (.one 3) (eC (.bl true)) (eCall orc 4 [(eV 3)]))))
  (sSeq (sAsg (.one 2) (eCall orc 4 [(eOp oIx (eV 0) (eUn uNeg (eC (.int 1))))]))
  (sSeq (sIf (eOr (eUn uIsN (eV 2)) (eOp oIn (eC .non) (eV 1))) (sRet (eC .non)) sPass)
  (sRet (eTup [(eTup [(eOp oIx (eV 0) (eC (.int 1))), (eTuple (lOf (eV 1)))]), (eV 2)]))))))
/-- line_in(line); slots 0 line, 1 words, 2 value, 3 found -/
def b7 (orc : Orc) : SM :=
  (sSeq (sAsg (.one 1) (eNew (lSplit (eV 0) (eC (.str [32])))))
  (sSeq (sIf (eAnd (eOp oEq (eOp oIx (eV 1) (eC (.int 0))) (eC (.str [102, 108, 97, 103]))) (eAnd (eOp oEq (eUn uLen (eV 1)) (eC (.int 2))) (eCall orc 5 [(eOp oIx (eV 1) (eC (.int 1)))]))) (sRet (eTup [(eC (.int 0)), (eOp oIx (eV 1) (eC (.int 1))), (eC (.bl true))])) sPass)
  (sSeq (sIf (eAnd (eOp oEq (eOp oIx (eV 1) (eC (.int 0))) (eC (.str [110, 97, 109, 101]))) (eAnd (eOp oEq (eUn uLen (eV 1)) (eC (.int 3))) (eCall orc 5 [(eOp oIx (eV 1) (eC (.int 1)))]))) (sSeq (sAsg (.one 2) (eCall orc 4 [(eOp oIx (eV 1) (eC (.int 2)))]))
  (sRet (eIf (eUn uIsN (eV 2)) (eC .non) (eTup [(eC (.int 1)), (eOp oIx (eV 1) (eC (.int 1))), (eV 2)])))) sPass)
  (sSeq (sIf (eOp oEq (eOp oIx (eV 1) (eC (.int 0))) (eC (.str [99, 97, 108, 108]))) (sSeq (sAsg (.one 3) (eCall orc 6 [(eV 1)]))
  (sRet (eIf (eUn uIsN (eV 3)) (eC .non) (eTup [(eC (.int 2)), (eOp oIx (eV 3) (eC (.int 0))), (eOp oIx (eV 3) (eC (.int 1)))])))) sPass)
  (sRet (eC .non))))))
/-- read_world(lines); slots 0 lines, 1 world, 2 at, 3 line, 4 told -/
def b8 (orc : Orc) : SM :=
  (sSeq (sAsg (.one 1) (eTup [eDic, eDic, eDic]))
  (sSeq (sFor (.some_ [2, 3]) (iEnumL (eV 0)) (sSeq (sAsg (.one 4) (eCall orc 7 [(eV 3)]))
  (sSeq (sIf (eOr (eUn uIsN (eV 4)) (eOp oIn (eOp oIx (eV 4) (eC (.int 1))) (eOp oIx (eV 1) (eOp oIx (eV 4) (eC (.int 0)))))) (sRaiseI 2 [97, 116] (eV 2)) sPass)
  (sPut (eOp oIx (eV 1) (eOp oIx (eV 4) (eC (.int 0)))) (eOp oIx (eV 4) (eC (.int 1))) (eOp oIx (eV 4) (eC (.int 2)))))))
  (sRet (eV 1))))
/-- _law_draw(script, k, many); slots 0 script, 1 k, 2 many, 3 cell, 4 seed -/
def b9 (orc : Orc) : SM :=
  (sSeq (sAsg (.one 3) (eIf (eOp oGt (eUn uLen (eV 0)) (eC (.int 0))) (eOp oIx (eV 0) (eOp oMod (eV 1) (eUn uLen (eV 0)))) (eC (.int 0))))
  (sSeq (sIf (eAnd (eOp oGt (eUn uLen (eV 0)) (eC (.int 0))) (eOp oEq (eOp oMod (eOp oIx (eV 0) (eC (.int 0))) (eC (.int 2))) (eC (.int 1)))) (sRet (eOp oMod (eOp oMod (eOp oShr (eV 3) (eOp oAdd (eOp oMul (eC (.int 20)) (eOp oDiv (eV 1) (eUn uLen (eV 0)))) (eC (.int 1)))) (eC (.int 1048576))) (eV 2))) sPass)
  (sSeq (sAsg (.one 4) (eOp oAdd (eOp oAdd (eOp oMod (eV 3) (eC (.int 1000003))) (eOp oMul (eOp oMul (eC (.int 31)) (eV 1)) (eV 1))) (eC (.int 1))))
  (sRet (eOp oMod (eOp oMod (eOp oMul (eOp oMod (eOp oMul (eV 4) (eC (.int 48271))) (eC (.int 999983))) (eC (.int 7919))) (eC (.int 524287))) (eV 2))))))
/-- _law_made(script); slots 0 script, 1 lines, 2 k, 3 name, 4 value, 5 place, 6 way, 7 some -/
def b10 (orc : Orc) : SM :=
  (sSeq (sAsg (.one 1) (eNew (eAs [])))
  (sSeq (sFor (.one 2) (iRange1 (eCall orc 9 [(eV 0), (eC (.int 0)), (eC (.int 7))])) (sSeq (sAsg (.one 3) (eOp oAdd (eOp oIx (eNew (eAs [(eC (.str [97])), (eC (.str [97, 98])), (eC (.str [98])), (eC (.str [102]))])) (eCall orc 9 [(eV 0), (eOp oAdd (eC (.int 20)) (eOp oMul (eC (.int 5)) (eV 2))), (eC (.int 4))])) (eOp oIx (eC (.str [97, 98, 99, 100, 101, 102])) (eV 2))))
  (sSeq (sAsg (.one 4) (eOp oIx (eNew (eAs [(eC (.str [48])), (eC (.str [49])), (eC (.str [45, 49, 47, 50])), (eC (.str [55, 47, 51])), (eC (.str [45, 49, 50]))])) (eCall orc 9 [(eV 0), (eOp oAdd (eC (.int 21)) (eOp oMul (eC (.int 5)) (eV 2))), (eC (.int 5))])))
  (sSeq (sAsg (.one 5) (eOp oIx (eNew (eAs [(eC (.str [48])), (eC (.str [51])), (eC (.str [45, 51, 47, 52]))])) (eCall orc 9 [(eV 0), (eOp oAdd (eC (.int 22)) (eOp oMul (eC (.int 5)) (eV 2))), (eC (.int 3))])))
  (sSeq (sAsg (.one 6) (eCall orc 9 [(eV 0), (eOp oAdd (eC (.int 23)) (eOp oMul (eC (.int 5)) (eV 2))), (eC (.int 4))]))
  (sSeq (sAsg (.one 7) (eNew (eAs [(eOp oAdd (eC (.str [102, 108, 97, 103, 32])) (eV 3)), (eOp oAdd (eOp oAdd (eOp oAdd (eC (.str [110, 97, 109, 101, 32])) (eV 3)) (eC (.str [32]))) (eV 4)), (eOp oAdd (eOp oAdd (eOp oAdd (eOp oAdd (eOp oAdd (eC (.str [99, 97, 108, 108, 32])) (eV 3)) (eC (.str [32]))) (eV 5)) (eC (.str [32, 61, 32]))) (eV 4))])))
  (sExp (eM 2 fAppend (eV 1) [(eOp oIx (eOp oAdd (eV 7) (eNew (eAs [(eJoin (eC (.str [32])) (eAs [(eC (.str [99, 97, 108, 108])), (eV 3), (eV 5), (eV 4), (eC (.str [48])), (eC (.str [61])), (eV 4)]))]))) (eV 6))]))))))))
  (sRet (eV 1))))
/-- _law_spoiled(script, k, lines); slots 0 script, 1 k, 2 lines, 3 some, 4 odd, 5 way, 6 at, 7 text, 8 place, 9 sign, 10 signs, 11 words, 12 strange -/
def b11 (orc : Orc) : SM :=
  (sSeq (sAsg (.one 3) (eNew (lList (lOf (eV 2)))))
  (sSeq (sAsg (.one 4) (eNew (eAs [(eC (.str [])), (eC (.str [102, 108, 97, 103])), (eC (.str [102, 108, 97, 103, 32, 97])), (eC (.str [102, 108, 97, 103, 32, 65])), (eC (.str [110, 97, 109, 101, 32, 97])), (eC (.str [110, 97, 109, 101, 32, 97, 32, 49, 47, 48])), (eC (.str [110, 97, 109, 101, 32, 97, 32, 50, 47, 52])), (eC (.str [110, 97, 109, 101, 32, 97, 32, 49, 32, 50]))])))
  (sSeq (sAsg (.one 4) (eOp oAdd (eV 4) (eNew (eAs [(eC (.str [99, 97, 108, 108, 32, 102, 32, 61, 32, 49])), (eC (.str [99, 97, 108, 108, 32, 102, 32, 49, 32, 49, 32, 49, 32, 49, 32, 61, 32, 50])), (eC (.str [99, 97, 108, 108, 32, 102, 32, 49, 32, 61, 32])), (eC (.str [99, 97, 108, 108, 32, 102, 32, 49, 32, 50]))]))))
  (sSeq (sAsg (.one 4) (eOp oAdd (eV 4) (eNew (eAs [(eC (.str [99, 97, 108, 108, 32, 102, 32, 49, 32, 61, 32, 49])), (eC (.str [99, 97, 108, 108, 32, 102, 32, 48, 49, 32, 61, 32, 49])), (eC (.str [102, 108, 97, 103, 32, 97, 98, 99, 100, 101, 102, 103, 104, 105])), (eC (.str [32, 102, 108, 97, 103, 32, 97]))]))))
  (sSeq (sAsg (.one 5) (eCall orc 9 [(eV 0), (eV 1), (eC (.int 7))]))
  (sSeq (sIf (eOr (eOp oEq (eUn uLen (eV 3)) (eC (.int 0))) (eOp oEq (eV 5) (eC (.int 0)))) (sSeq (sExp (eM 2 fInsert (eV 3) [(eCall orc 9 [(eV 0), (eOp oAdd (eV 1) (eC (.int 1))), (eOp oAdd (eUn uLen (eV 3)) (eC (.int 1)))]), (eOp oIx (eV 4) (eCall orc 9 [(eV 0), (eOp oAdd (eV 1) (eC (.int 2))), (eC (.int 16))]))]))
  (sRet (eV 3))) sPass)
  (sSeq (sAsg (.one 6) (eCall orc 9 [(eV 0), (eOp oAdd (eV 1) (eC (.int 1))), (eUn uLen (eV 3))]))
  (sSeq (sAsg (.one 7) (eOp oIx (eV 3) (eV 6)))
  (sSeq (sAsg (.one 8) (eCall orc 9 [(eV 0), (eOp oAdd (eV 1) (eC (.int 2))), (eOp oAdd (eUn uLen (eV 7)) (eC (.int 1)))]))
  (sSeq (sAsg (.one 9) (eOp oIx (eC (.str [97, 48, 45, 47, 32, 61, 49, 102, 122, 65])) (eCall orc 9 [(eV 0), (eOp oAdd (eV 1) (eC (.int 3))), (eC (.int 10))])))
  (sSeq (sAsg (.one 10) (eC (.str [32, 33, 34, 35, 36, 38, 39, 40, 41, 42, 43, 44, 45, 46, 47, 48, 49, 50, 51, 52, 53, 54, 55, 56, 57, 58, 59, 60, 61, 62, 63, 64, 65, 66, 67, 68, 69, 70, 71, 72, 73, 74, 75, 76, 77, 78, 79, 80, 81, 82, 83, 84, 85, 86, 87, 88, 89, 90, 91, 92, 93, 94, 95, 96, 97, 98, 99, 100, 101, 102, 103, 104, 105, 106, 107, 108, 109, 110, 111, 112, 113, 114, 115, 116, 117, 118, 119, 120, 121, 122, 123, 124, 125, 126])))
  (sSeq (sIf (eOp oEq (eCall orc 9 [(eV 0), (eOp oAdd (eV 1) (eC (.int 5))), (eC (.int 3))]) (eC (.int 0))) (sAsg (.one 9) (eOp oIx (eV 10) (eCall orc 9 [(eV 0), (eOp oAdd (eV 1) (eC (.int 3))), (eC (.int 94))]))) sPass)
  (sSeq (sIf (eOp oEq (eV 5) (eC (.int 1))) (sExp (eM 2 fInsert (eV 3) [(eCall orc 9 [(eV 0), (eOp oAdd (eV 1) (eC (.int 2))), (eOp oAdd (eUn uLen (eV 3)) (eC (.int 1)))]), (eV 7)])) sPass)
  (sSeq (sIf (eOp oEq (eV 5) (eC (.int 2))) (sExp (eM 2 fPopAt (eV 3) [(eV 6)])) sPass)
  (sSeq (sIf (eOp oEq (eV 5) (eC (.int 3))) (sPut (eV 3) (eV 6) (eOp oAdd (eOp oAdd (eSlS (eV 7) none (some (eV 8))) (eV 9)) (eSlS (eV 7) (some (eV 8)) none))) sPass)
  (sSeq (sIf (eOp oEq (eV 5) (eC (.int 4))) (sPut (eV 3) (eV 6) (eOp oAdd (eSlS (eV 7) none (some (eV 8))) (eSlS (eV 7) (some (eOp oAdd (eV 8) (eC (.int 1)))) none))) sPass)
  (sSeq (sIf (eOp oEq (eV 5) (eC (.int 5))) (sPut (eV 3) (eV 6) (eOp oAdd (eOp oAdd (eSlS (eV 7) none (some (eV 8))) (eV 9)) (eSlS (eV 7) (some (eOp oAdd (eV 8) (eC (.int 1)))) none))) sPass)
  (sSeq (sIf (eOp oEq (eV 5) (eC (.int 6))) (sSeq (sAsg (.one 11) (eOp oAdd (eNew (lSplit (eV 7) (eC (.str [32])))) (eOp oRep (eNew (eAs [(eC (.str []))])) (eCall orc 9 [(eV 0), (eOp oAdd (eV 1) (eC (.int 4))), (eC (.int 2))]))))
  (sSeq (sAsg (.one 12) (eNew (eAs [(eC (.str [])), (eC (.str [61])), (eC (.str [48])), (eC (.str [97])), (eC (.str [45, 49])), (eC (.str [49, 47, 50])), (eC (.str [99, 97, 108, 108])), (eC (.str [48, 48])), (eC (.str [45, 48])), (eC (.str [51, 47, 51]))])))
  (sSeq (sPut (eV 11) (eCall orc 9 [(eV 0), (eOp oAdd (eV 1) (eC (.int 2))), (eUn uLen (eV 11))]) (eOp oIx (eV 12) (eCall orc 9 [(eV 0), (eOp oAdd (eV 1) (eC (.int 3))), (eC (.int 10))])))
  (sPut (eV 3) (eV 6) (eJoin (eC (.str [32])) (lOf (eV 11))))))) sPass)
  (sRet (eV 3))))))))))))))))))))
/-- _law_figures(word); slots 0 word, 1 sign -/
def b12 (orc : Orc) : SM :=
  (sSeq (sFor (.one 1) (iSeq (eV 0)) (sIf (eOp oNi (eV 1) (eC (.str [48, 49, 50, 51, 52, 53, 54, 55, 56, 57]))) (sRet (eC (.bl false))) sPass))
  (sRet (eAnd (eOp oNe (eV 0) (eC (.str []))) (eOr (eOp oNe (eOp oIx (eV 0) (eC (.int 0))) (eC (.str [48]))) (eOp oEq (eV 0) (eC (.str [48])))))))
/-- _law_fraction(word); slots 0 word, 1 halves, 2 top, 3 one, 4 other, 5 rest -/
def b13 (orc : Orc) : SM :=
  (sSeq (sAsg (.one 1) (eNew (lSplit (eV 0) (eC (.str [47])))))
  (sSeq (sAsg (.one 2) (eIf (eOp oEq (eSlS (eOp oIx (eV 1) (eC (.int 0))) none (some (eC (.int 1)))) (eC (.str [45]))) (eSlS (eOp oIx (eV 1) (eC (.int 0))) (some (eC (.int 1))) none) (eOp oIx (eV 1) (eC (.int 0)))))
  (sSeq (sIf (eOr (eOp oGt (eUn uLen (eV 1)) (eC (.int 2))) (eOr (eUn uNot (eCall orc 12 [(eV 2)])) (eOp oEq (eOp oIx (eV 1) (eC (.int 0))) (eC (.str [45, 48]))))) (sRet (eC .non)) sPass)
  (sSeq (sIf (eOp oEq (eUn uLen (eV 1)) (eC (.int 1))) (sRet (eTup [(eUn uIntT (eOp oIx (eV 1) (eC (.int 0)))), (eC (.int 1))])) sPass)
  (sSeq (sIf (eOr (eUn uNot (eCall orc 12 [(eOp oIx (eV 1) (eC (.int 1)))])) (eOr (eOp oLt (eUn uIntT (eOp oIx (eV 1) (eC (.int 1)))) (eC (.int 2))) (eOp oEq (eUn uIntT (eV 2)) (eC (.int 0))))) (sRet (eC .non)) sPass)
  (sSeq (sAsg (.one 3) (eUn uIntT (eV 2)))
  (sSeq (sAsg (.one 4) (eUn uIntT (eOp oIx (eV 1) (eC (.int 1)))))
  (sSeq (sWhile 100000 (eOp oGt (eV 4) (eC (.int 0))) (sSeq (sAsg (.one 5) (eOp oMod (eV 3) (eV 4)))
  (sSeq (sAsg (.one 3) (eV 4))
  (sAsg (.one 4) (eV 5)))))
  (sRet (eIf (eOp oEq (eV 3) (eC (.int 1))) (eTup [(eUn uIntT (eOp oIx (eV 1) (eC (.int 0)))), (eUn uIntT (eOp oIx (eV 1) (eC (.int 1))))]) (eC .non)))))))))))
/-- _law_is_name(word); slots 0 word, 1 sign -/
def b14 (orc : Orc) : SM :=
  (sSeq (sFor (.one 1) (iSeq (eV 0)) (sIf (eOp oNi (eV 1) (eC (.str [97, 98, 99, 100, 101, 102, 103, 104, 105, 106, 107, 108, 109, 110, 111, 112, 113, 114, 115, 116, 117, 118, 119, 120, 121, 122]))) (sRet (eC (.bl false))) sPass))
  (sRet (eChain oLt oLt (eC (.int 0)) (eUn uLen (eV 0)) (eC (.int 9)))))
/-- _law_line(line); slots 0 line, 1 words, 2 numbers, 3 word -/
def b15 (orc : Orc) : SM :=
  (sSeq (sAsg (.one 1) (eNew (lSplit (eV 0) (eC (.str [32])))))
  (sSeq (sIf (eOr (eOp oLt (eUn uLen (eV 1)) (eC (.int 2))) (eUn uNot (eCall orc 14 [(eOp oIx (eV 1) (eC (.int 1)))]))) (sRet (eC .non)) sPass)
  (sSeq (sIf (eOp oEq (eOp oIx (eV 1) (eC (.int 0))) (eC (.str [102, 108, 97, 103]))) (sRet (eIf (eOp oEq (eUn uLen (eV 1)) (eC (.int 2))) (eTup [(eC (.int 0)), (eOp oIx (eV 1) (eC (.int 1))), (eC (.bl true))]) (eC .non))) sPass)
  (sSeq (sAsg (.one 2) (eNew (lComp (iNew (lSl (eV 1) (some (eC (.int 2))) none)) (.one 3) (eOp oNe (eV 3) (eC (.str [61]))) (eCall orc 13 [(eV 3)]))))
  (sSeq (sIf (eOr (eOp oIn (eC .non) (eV 2)) (eAnd (eOp oEq (eOp oIx (eV 1) (eC (.int 0))) (eC (.str [110, 97, 109, 101]))) (eOr (eOp oNe (eUn uLen (eV 1)) (eC (.int 3))) (eOp oNe (eUn uLen (eV 2)) (eC (.int 1)))))) (sRet (eC .non)) sPass)
  (sSeq (sIf (eOp oEq (eOp oIx (eV 1) (eC (.int 0))) (eC (.str [110, 97, 109, 101]))) (sRet (eTup [(eC (.int 1)), (eOp oIx (eV 1) (eC (.int 1))), (eOp oIx (eV 2) (eC (.int 0)))])) sPass)
  (sSeq (sIf (eOr (eOp oNe (eOp oIx (eV 1) (eC (.int 0))) (eC (.str [99, 97, 108, 108]))) (eOr (eOp oLt (eUn uLen (eV 1)) (eC (.int 5))) (eOr (eOp oGt (eUn uLen (eV 1)) (eC (.int 7))) (eOr (eOp oNe (eOp oIx (eV 1) (eUn uNeg (eC (.int 2)))) (eC (.str [61]))) (eOp oNe (eUn uLen (eV 2)) (eOp oSub (eUn uLen (eV 1)) (eC (.int 3)))))))) (sRet (eC .non)) sPass)
  (sRet (eTup [(eC (.int 2)), (eTup [(eOp oIx (eV 1) (eC (.int 1))), (eTuple (lSl (eV 2) none (some (eUn uNeg (eC (.int 1))))))]), (eOp oIx (eV 2) (eUn uNeg (eC (.int 1))))])))))))))
/-- _law_due(lines); slots 0 lines, 1 world, 2 at, 3 told -/
def b16 (orc : Orc) : SM :=
  (sSeq (sAsg (.one 1) (eTup [eDic, eDic, eDic]))
  (sSeq (sFor (.one 2) (iRange1 (eUn uLen (eV 0))) (sSeq (sAsg (.one 3) (eCall orc 15 [(eOp oIx (eV 0) (eV 2))]))
  (sSeq (sIf (eOr (eUn uIsN (eV 3)) (eOp oIn (eOp oIx (eV 3) (eC (.int 1))) (eOp oIx (eV 1) (eOp oIx (eV 3) (eC (.int 0)))))) (sRet (eOp oAdd (eC (.str [116, 101, 120, 116, 32])) (eUn uStrI (eV 2)))) sPass)
  (sPut (eOp oIx (eV 1) (eOp oIx (eV 3) (eC (.int 0)))) (eOp oIx (eV 3) (eC (.int 1))) (eOp oIx (eV 3) (eC (.int 2)))))))
  (sRet (eV 1))))
/-- _law_refusal(caught); slots 0 caught, 1 words -/
def b17 (orc : Orc) : SM :=
  (sSeq (sIf (eOr (eUn uIsN (eV 0)) (eUn uNot (eUn (uIsE sub_ValueError) (eV 0)))) (sRet (eC (.str [110, 111, 110, 101]))) sPass)
  (sSeq (sAsg (.one 1) (eNew (eAs [])))
  (sSeq (sIf (eUn (uIsE sub_NoLevel) (eV 0)) (sExp (eM 2 fAppend (eV 1) [(eC (.str [108, 101, 118, 101, 108]))])) sPass)
  (sSeq (sIf (eUn (uIsE sub_NoWish) (eV 0)) (sExp (eM 2 fAppend (eV 1) [(eC (.str [119, 105, 115, 104]))])) sPass)
  (sSeq (sIf (eUn (uIsE sub_NoAnswer) (eV 0)) (sExp (eM 2 fAppend (eV 1) [(eC (.str [97, 110, 115, 119, 101, 114]))])) sPass)
  (sSeq (sIf (eUn (uIsE sub_NoLine) (eV 0)) (sExp (eM 2 fAppend (eV 1) [(eC (.str [108, 105, 110, 101]))])) sPass)
  (sSeq (sIf (eUn (uIsE sub_NoText) (eV 0)) (sExp (eM 2 fAppend (eV 1) [(eOp oAdd (eC (.str [116, 101, 120, 116, 32])) (eUn uStrI (eUn (uExF 2 [97, 116]) (eV 0))))])) sPass)
  (sSeq (sIf (eUn (uIsE subT_0) (eV 0)) (sExp (eM 2 fAppend (eV 1) [(eC (.str [111, 116, 104, 101, 114]))])) sPass)
  (sRet (eIf (eOp oEq (eUn uLen (eV 1)) (eC (.int 1))) (eOp oIx (eV 1) (eC (.int 0))) (eC (.str [109, 97, 110, 121]))))))))))))
/-- _law_asked(lines); slots 0 lines, 1 found, 2 caught, 3 e -/
def b18 (orc : Orc) : SM :=
  (sSeq (sAsg (.one 1) (eC .non))
  (sSeq (sAsg (.one 2) (eC .non))
  (sSeq (sTryAs ct_WishError 3 (sAsg (.one 1) (eCallX orc 8 [(eV 0)])) (sAsg (.one 2) (eV 3)))
  (sRet (eIf (eUn uIsN (eV 2)) (eV 1) (eCall orc 17 [(eV 2)]))))))
/-- law(script); slots 0 script, 1 good, 2 due, 3 lines, 4 k, 5 handed, 6 more, 7 line, 8 one -/
def b19 (orc : Orc) : SM :=
  (sSeq (sAsg (.one 1) (eCall orc 10 [(eV 0)]))
  (sSeq (sAsg (.one 2) (eCall orc 16 [(eV 1)]))
  (sSeq (sIf (eOr (eUn uNot (eUn (uIsA "tuple") (eV 2))) (eOp oNeT (eCall orc 18 [(eNew (lList (lOf (eV 1))))]) (eV 2))) (sRet (eC (.bl false))) sPass)
  (sSeq (sAsg (.one 3) (eV 1))
  (sSeq (sFor (.one 4) (iRange1 (eOp oAdd (eC (.int 1)) (eCall orc 9 [(eV 0), (eC (.int 1)), (eC (.int 2))]))) (sAsg (.one 3) (eCall orc 11 [(eV 0), (eOp oAdd (eC (.int 100)) (eOp oMul (eC (.int 10)) (eV 4))), (eV 3)])))
  (sSeq (sAsg (.one 5) (eNew (lList (lOf (eV 3)))))
  (sSeq (sIf (eOr (eOp oNeT (eCall orc 18 [(eV 5)]) (eCall orc 16 [(eV 3)])) (eOr (eOp oNe (eV 5) (eV 3)) (eOp oNeT (eCall orc 18 [(eNew (lList (lOf (eV 1))))]) (eV 2)))) (sRet (eC (.bl false))) sPass)
  (sSeq (sAsg (.one 6) (eNew (eAs [(eNew (eAs [(eC (.str [99, 97, 108, 108, 32, 102, 32, 49, 32, 49, 32, 49, 32, 49, 32, 61, 32, 49]))])), (eNew (eAs [(eC (.str [99, 97, 108, 108, 32, 102, 32, 49, 32, 49, 32, 49, 32, 61, 32, 49]))])), (eNew (eAs [(eC (.str [99, 97, 108, 108, 32, 102, 32, 61, 32, 49]))])), (eNew (eAs [(eC (.str [99, 97, 108, 108, 32, 102, 32, 49, 32, 49]))])), (eNew (eAs [(eC (.str [99, 97, 108, 108, 32, 102, 32, 49, 32, 61, 32, 49, 32, 61, 32, 49]))]))])))
  (sSeq (sAsg (.one 6) (eOp oAdd (eV 6) (eNew (eAs [(eNew (eAs [(eC (.str [102, 108, 97, 103, 32, 112])), (eC (.str [102, 108, 97, 103, 32, 112]))])), (eNew (eAs [(eC (.str [102, 108, 97, 103, 32, 112, 32, 49]))])), (eNew (eAs [(eC (.str [110, 97, 109, 101, 32, 97, 32, 49])), (eC (.str [110, 97, 109, 101, 32, 97, 32, 49]))])), (eNew (eAs [(eC (.str [110, 97, 109, 101, 32, 97, 32, 61, 32, 49]))]))]))))
  (sSeq (sAsg (.one 6) (eOp oAdd (eV 6) (eNew (eAs [(eNew (eAs [(eC (.str [110, 97, 109, 101, 32, 97, 32, 48])), (eC (.str [110, 97, 109, 101, 32, 98, 32, 49]))]))]))))
  (sSeq (sAsg (.one 6) (eOp oAdd (eV 6) (eNew (eAs [(eNew (eAs [(eC (.str [99, 97, 108, 108, 32, 102, 32, 49, 32, 61, 32, 50])), (eC (.str [99, 97, 108, 108, 32, 102, 32, 49, 32, 50, 32, 61, 32, 50])), (eC (.str [99, 97, 108, 108, 32, 102, 32, 49, 32, 61, 32, 48]))])), (eNew (eAs [(eC (.str [102, 108, 97, 103, 32, 112])), (eC (.str [99, 97, 108, 108, 32, 112, 32, 49, 32, 61, 32, 49])), (eC (.str [110, 97, 109, 101, 32, 112, 32, 49]))]))]))))
  (sSeq (sFor (.one 7) (iNew (eAs [(eC (.str [102, 108, 97, 103])), (eC (.str [102, 108, 97, 103, 32])), (eC (.str [102, 108, 97, 103, 32, 97, 98, 99, 100, 101, 102, 103, 104])), (eC (.str [102, 108, 97, 103, 32, 97, 98, 99, 100, 101, 102, 103, 104, 105])), (eC (.str [102, 108, 97, 103, 115, 32, 112])), (eC (.str [102, 108, 97, 71, 32, 112])), (eC (.str [110, 97, 109, 101, 32, 97])), (eC (.str [110, 97, 109, 101, 32, 97, 32, 49, 32, 50]))])) (sExp (eM 2 fAppend (eV 6) [(eNew (eAs [(eV 7)]))])))
  (sSeq (sFor (.one 7) (iNew (eAs [(eC (.str [110, 97, 109, 101, 32, 97, 98, 99, 100, 101, 102, 103, 104, 32, 49])), (eC (.str [110, 97, 109, 101, 32, 97, 98, 99, 100, 101, 102, 103, 104, 105, 32, 49])), (eC (.str [110, 97, 109, 101, 32, 97, 32, 48, 49])), (eC (.str [110, 97, 109, 101, 32, 97, 32, 51, 47, 49])), (eC (.str [110, 97, 109, 101, 32, 97, 32, 45, 48])), (eC (.str [110, 97, 109, 101, 32, 97, 32, 49, 47, 48])), (eC (.str [110, 97, 109, 101]))])) (sExp (eM 2 fAppend (eV 6) [(eNew (eAs [(eC (.str [102, 108, 97, 103, 32, 112])), (eV 7)]))])))
  (sSeq (sFor (.one 7) (iNew (eAs [(eC (.str [99, 97, 108, 108, 32, 97, 98, 99, 100, 101, 102, 103, 104, 32, 49, 32, 61, 32, 49])), (eC (.str [99, 97, 108, 108, 32, 97, 98, 99, 100, 101, 102, 103, 104, 105, 32, 49, 32, 61, 32, 49])), (eC (.str [99, 97, 108, 108, 32, 102, 32, 49, 32, 61, 32, 49, 32, 49])), (eC (.str [99, 97, 108, 108, 32, 102, 32, 49, 32, 61])), (eC (.str [99, 97, 108, 108, 32, 102, 32, 49, 32, 61, 49]))])) (sExp (eM 2 fAppend (eV 6) [(eNew (eAs [(eC (.str [110, 97, 109, 101, 32, 112, 32, 49])), (eV 7)]))])))
  (sSeq (sAsg (.one 6) (eOp oAdd (eV 6) (eNew (eAs [(eNew (eAs [(eC (.str [99, 97, 108, 108, 32, 102, 32, 49, 32, 49, 32, 49, 32, 49, 32, 49, 32, 61, 32, 49]))])), (eNew (eAs [(eC (.str [99, 97, 108, 108, 32, 102]))])), (eNew (eAs [(eC (.str [99, 97, 108, 108]))]))]))))
  (sRet (eOp oNi (eC (.bl false)) (eNew (lComp (iSeq (eV 6)) (.one 8) (eC (.bl true)) (eOp oEqT (eCall orc 18 [(eNew (lList (lOf (eV 8))))]) (eCall orc 16 [(eV 8)])))))))))))))))))))))
def T (orc : Orc) : Nat → Nat × SM
  | 0 => (2, b0 orc)
  | 1 => (3, b1 orc)
  | 2 => (3, b2 orc)
  | 3 => (3, b3 orc)
  | 4 => (6, b4 orc)
  | 5 => (2, b5 orc)
  | 6 => (4, b6 orc)
  | 7 => (4, b7 orc)
  | 8 => (5, b8 orc)
  | 9 => (5, b9 orc)
  | 10 => (8, b10 orc)
  | 11 => (13, b11 orc)
  | 12 => (2, b12 orc)
  | 13 => (6, b13 orc)
  | 14 => (2, b14 orc)
  | 15 => (4, b15 orc)
  | 16 => (4, b16 orc)
  | 17 => (2, b17 orc)
  | 18 => (4, b18 orc)
  | 19 => (9, b19 orc)
  | _ => (0, sPass)
def gcs : Nat → Bool := fun f => match f with
  | 8 => false
  | 16 => false
  | 18 => false
  | 19 => false
  | _ => true
end Sw.smallword_k85_lines_refused

set_option autoImplicit false
set_option Elab.async false
set_option linter.all false
set_option maxRecDepth 100000
set_option maxHeartbeats 0
/-! The derivations. -/
namespace Sw.smallword_k85_lines_refused
open PySem PySem.Spec L2 Sw
open PyProof.Rows (AllBare envOfC)
def top (i : Nat) : Stmt := PySem.Challenge.pw_smallword_k85_lines_refused.main.body.getD i (.Pass ⟨0, 0, 0, 0⟩)
abbrev st_0 : Stmt := (clsBody (top 3)).getD 0 (.Pass ⟨0, 0, 0, 0⟩)
abbrev N_NoText___init__ : List Str := ["self", "at"]
abbrev P_NoText___init__ : List Str := ["self", "at"]
theorem sc_NoText___init__ : FnScope N_NoText___init__ P_NoText___init__ (defScope st_0) := ⟨rfl, rfl, rfl, by decide +kernel, rfl, by decide +kernel, by decide +kernel⟩
theorem nd_NoText___init__ : N_NoText___init__.Nodup := sc_NoText___init__.nd
abbrev st_1 : Stmt := top 12
abbrev N_divisor : List Str := ["one", "other", "rest"]
abbrev P_divisor : List Str := ["one", "other"]
theorem sc_divisor : FnScope N_divisor P_divisor (defScope st_1) := ⟨rfl, rfl, rfl, by decide +kernel, rfl, by decide +kernel, by decide +kernel⟩
theorem nd_divisor : N_divisor.Nodup := sc_divisor.nd
abbrev st_2 : Stmt := top 13
abbrev N_fraction : List Str := ["top", "bottom", "by"]
abbrev P_fraction : List Str := ["top", "bottom"]
theorem sc_fraction : FnScope N_fraction P_fraction (defScope st_2) := ⟨rfl, rfl, rfl, by decide +kernel, rfl, by decide +kernel, by decide +kernel⟩
theorem nd_fraction : N_fraction.Nodup := sc_fraction.nd
abbrev st_3 : Stmt := top 16
abbrev N_whole_in : List Str := ["text", "figures", "sign"]
abbrev P_whole_in : List Str := ["text"]
theorem sc_whole_in : FnScope N_whole_in P_whole_in (defScope st_3) := ⟨rfl, rfl, rfl, by decide +kernel, rfl, by decide +kernel, by decide +kernel⟩
theorem nd_whole_in : N_whole_in.Nodup := sc_whole_in.nd
abbrev st_4 : Stmt := top 17
abbrev N_fraction_in : List Str := ["text", "whole", "below", "top", "stroke", "bottom"]
abbrev P_fraction_in : List Str := ["text"]
theorem sc_fraction_in : FnScope N_fraction_in P_fraction_in (defScope st_4) := ⟨rfl, rfl, rfl, by decide +kernel, rfl, by decide +kernel, by decide +kernel⟩
theorem nd_fraction_in : N_fraction_in.Nodup := sc_fraction_in.nd
abbrev st_5 : Stmt := top 20
abbrev N_is_name : List Str := ["thing", "sign"]
abbrev P_is_name : List Str := ["thing"]
theorem sc_is_name : FnScope N_is_name P_is_name (defScope st_5) := ⟨rfl, rfl, rfl, by decide +kernel, rfl, by decide +kernel, by decide +kernel⟩
theorem nd_is_name : N_is_name.Nodup := sc_is_name.nd
abbrev st_6 : Stmt := top 23
abbrev N_call_in : List Str := ["words", "places", "value", "word"]
abbrev P_call_in : List Str := ["words"]
theorem sc_call_in : FnScope N_call_in P_call_in (defScope st_6) := ⟨rfl, rfl, rfl, by decide +kernel, rfl, by decide +kernel, by decide +kernel⟩
theorem nd_call_in : N_call_in.Nodup := sc_call_in.nd
abbrev st_7 : Stmt := top 24
abbrev N_line_in : List Str := ["line", "words", "value", "found"]
abbrev P_line_in : List Str := ["line"]
theorem sc_line_in : FnScope N_line_in P_line_in (defScope st_7) := ⟨rfl, rfl, rfl, by decide +kernel, rfl, by decide +kernel, by decide +kernel⟩
theorem nd_line_in : N_line_in.Nodup := sc_line_in.nd
abbrev st_8 : Stmt := top 25
abbrev N_read_world : List Str := ["lines", "world", "at", "line", "told"]
abbrev P_read_world : List Str := ["lines"]
theorem sc_read_world : FnScope N_read_world P_read_world (defScope st_8) := ⟨rfl, rfl, rfl, by decide +kernel, rfl, by decide +kernel, by decide +kernel⟩
theorem nd_read_world : N_read_world.Nodup := sc_read_world.nd
abbrev st_9 : Stmt := top 27
abbrev N__law_draw : List Str := ["script", "k", "many", "cell", "seed"]
abbrev P__law_draw : List Str := ["script", "k", "many"]
theorem sc__law_draw : FnScope N__law_draw P__law_draw (defScope st_9) := ⟨rfl, rfl, rfl, by decide +kernel, rfl, by decide +kernel, by decide +kernel⟩
theorem nd__law_draw : N__law_draw.Nodup := sc__law_draw.nd
abbrev st_10 : Stmt := top 28
abbrev N__law_made : List Str := ["script", "lines", "k", "name", "value", "place", "way", "some"]
abbrev P__law_made : List Str := ["script"]
theorem sc__law_made : FnScope N__law_made P__law_made (defScope st_10) := ⟨rfl, rfl, rfl, by decide +kernel, rfl, by decide +kernel, by decide +kernel⟩
theorem nd__law_made : N__law_made.Nodup := sc__law_made.nd
abbrev st_11 : Stmt := top 29
abbrev N__law_spoiled : List Str := ["script", "k", "lines", "some", "odd", "way", "at", "text", "place", "sign", "signs", "words", "strange"]
abbrev P__law_spoiled : List Str := ["script", "k", "lines"]
theorem sc__law_spoiled : FnScope N__law_spoiled P__law_spoiled (defScope st_11) := ⟨rfl, rfl, rfl, by decide +kernel, rfl, by decide +kernel, by decide +kernel⟩
theorem nd__law_spoiled : N__law_spoiled.Nodup := sc__law_spoiled.nd
abbrev st_12 : Stmt := top 30
abbrev N__law_figures : List Str := ["word", "sign"]
abbrev P__law_figures : List Str := ["word"]
theorem sc__law_figures : FnScope N__law_figures P__law_figures (defScope st_12) := ⟨rfl, rfl, rfl, by decide +kernel, rfl, by decide +kernel, by decide +kernel⟩
theorem nd__law_figures : N__law_figures.Nodup := sc__law_figures.nd
abbrev st_13 : Stmt := top 31
abbrev N__law_fraction : List Str := ["word", "halves", "top", "one", "other", "rest"]
abbrev P__law_fraction : List Str := ["word"]
theorem sc__law_fraction : FnScope N__law_fraction P__law_fraction (defScope st_13) := ⟨rfl, rfl, rfl, by decide +kernel, rfl, by decide +kernel, by decide +kernel⟩
theorem nd__law_fraction : N__law_fraction.Nodup := sc__law_fraction.nd
abbrev st_14 : Stmt := top 32
abbrev N__law_is_name : List Str := ["word", "sign"]
abbrev P__law_is_name : List Str := ["word"]
theorem sc__law_is_name : FnScope N__law_is_name P__law_is_name (defScope st_14) := ⟨rfl, rfl, rfl, by decide +kernel, rfl, by decide +kernel, by decide +kernel⟩
theorem nd__law_is_name : N__law_is_name.Nodup := sc__law_is_name.nd
abbrev st_15 : Stmt := top 33
abbrev N__law_line : List Str := ["line", "words", "numbers", "word"]
abbrev P__law_line : List Str := ["line"]
theorem sc__law_line : FnScope N__law_line P__law_line (defScope st_15) := ⟨rfl, rfl, rfl, by decide +kernel, rfl, by decide +kernel, by decide +kernel⟩
theorem nd__law_line : N__law_line.Nodup := sc__law_line.nd
abbrev st_16 : Stmt := top 34
abbrev N__law_due : List Str := ["lines", "world", "at", "told"]
abbrev P__law_due : List Str := ["lines"]
theorem sc__law_due : FnScope N__law_due P__law_due (defScope st_16) := ⟨rfl, rfl, rfl, by decide +kernel, rfl, by decide +kernel, by decide +kernel⟩
theorem nd__law_due : N__law_due.Nodup := sc__law_due.nd
abbrev st_17 : Stmt := top 35
abbrev N__law_refusal : List Str := ["caught", "words"]
abbrev P__law_refusal : List Str := ["caught"]
theorem sc__law_refusal : FnScope N__law_refusal P__law_refusal (defScope st_17) := ⟨rfl, rfl, rfl, by decide +kernel, rfl, by decide +kernel, by decide +kernel⟩
theorem nd__law_refusal : N__law_refusal.Nodup := sc__law_refusal.nd
abbrev st_18 : Stmt := top 36
abbrev N__law_asked : List Str := ["lines", "found", "caught", "e"]
abbrev P__law_asked : List Str := ["lines"]
theorem sc__law_asked : FnScope N__law_asked P__law_asked (defScope st_18) := ⟨rfl, rfl, rfl, by decide +kernel, rfl, by decide +kernel, by decide +kernel⟩
theorem nd__law_asked : N__law_asked.Nodup := sc__law_asked.nd
abbrev st_19 : Stmt := top 37
abbrev N_law : List Str := ["script", "good", "due", "lines", "k", "handed", "more", "line", "one"]
abbrev P_law : List Str := ["script"]
theorem sc_law : FnScope N_law P_law (defScope st_19) := ⟨rfl, rfl, rfl, by decide +kernel, rfl, by decide +kernel, by decide +kernel⟩
theorem nd_law : N_law.Nodup := sc_law.nd
def PS : Nat → List Str
  | 0 => P_NoText___init__
  | 1 => P_divisor
  | 2 => P_fraction
  | 3 => P_whole_in
  | 4 => P_fraction_in
  | 5 => P_is_name
  | 6 => P_call_in
  | 7 => P_line_in
  | 8 => P_read_world
  | 9 => P__law_draw
  | 10 => P__law_made
  | 11 => P__law_spoiled
  | 12 => P__law_figures
  | 13 => P__law_fraction
  | 14 => P__law_is_name
  | 15 => P__law_line
  | 16 => P__law_due
  | 17 => P__law_refusal
  | 18 => P__law_asked
  | 19 => P_law
  | _ => []
abbrev FnP (K : PySem.W.Frag) (x y : Str) (st : Stmt) (f : Addr) (fd : FuncData) : Prop := FunD K x y (defArgs st) (defBody st) (defScope st) [] [] f fd
structure Fx (K : PySem.W.Frag) (mg : Str → Option Value) (a : Nat → Addr) (fd : Nat → FuncData) (cls : Nat → Addr) : Prop where
  D0 : FnP K "__init__" "NoText.__init__" st_0 (a 0) (fd 0)
  D1 : FnP K "divisor" "divisor" st_1 (a 1) (fd 1)
  g1 : mg "divisor" = some (.ref (a 1))
  D2 : FnP K "fraction" "fraction" st_2 (a 2) (fd 2)
  g2 : mg "fraction" = some (.ref (a 2))
  D3 : FnP K "whole_in" "whole_in" st_3 (a 3) (fd 3)
  g3 : mg "whole_in" = some (.ref (a 3))
  D4 : FnP K "fraction_in" "fraction_in" st_4 (a 4) (fd 4)
  g4 : mg "fraction_in" = some (.ref (a 4))
  D5 : FnP K "is_name" "is_name" st_5 (a 5) (fd 5)
  g5 : mg "is_name" = some (.ref (a 5))
  D6 : FnP K "call_in" "call_in" st_6 (a 6) (fd 6)
  g6 : mg "call_in" = some (.ref (a 6))
  D7 : FnP K "line_in" "line_in" st_7 (a 7) (fd 7)
  g7 : mg "line_in" = some (.ref (a 7))
  D8 : FnP K "read_world" "read_world" st_8 (a 8) (fd 8)
  g8 : mg "read_world" = some (.ref (a 8))
  D9 : FnP K "_law_draw" "_law_draw" st_9 (a 9) (fd 9)
  g9 : mg "_law_draw" = some (.ref (a 9))
  D10 : FnP K "_law_made" "_law_made" st_10 (a 10) (fd 10)
  g10 : mg "_law_made" = some (.ref (a 10))
  D11 : FnP K "_law_spoiled" "_law_spoiled" st_11 (a 11) (fd 11)
  g11 : mg "_law_spoiled" = some (.ref (a 11))
  D12 : FnP K "_law_figures" "_law_figures" st_12 (a 12) (fd 12)
  g12 : mg "_law_figures" = some (.ref (a 12))
  D13 : FnP K "_law_fraction" "_law_fraction" st_13 (a 13) (fd 13)
  g13 : mg "_law_fraction" = some (.ref (a 13))
  D14 : FnP K "_law_is_name" "_law_is_name" st_14 (a 14) (fd 14)
  g14 : mg "_law_is_name" = some (.ref (a 14))
  D15 : FnP K "_law_line" "_law_line" st_15 (a 15) (fd 15)
  g15 : mg "_law_line" = some (.ref (a 15))
  D16 : FnP K "_law_due" "_law_due" st_16 (a 16) (fd 16)
  g16 : mg "_law_due" = some (.ref (a 16))
  D17 : FnP K "_law_refusal" "_law_refusal" st_17 (a 17) (fd 17)
  g17 : mg "_law_refusal" = some (.ref (a 17))
  D18 : FnP K "_law_asked" "_law_asked" st_18 (a 18) (fd 18)
  g18 : mg "_law_asked" = some (.ref (a 18))
  D19 : FnP K "law" "law" st_19 (a 19) (fd 19)
  g19 : mg "law" = some (.ref (a 19))
  gc_WishError : mg "WishError" = some (.ref (cls 0))
  gc_NoShare : mg "NoShare" = some (.ref (cls 1))
  gc_NoText : mg "NoText" = some (.ref (cls 2))
  gc_NoStep : mg "NoStep" = some (.ref (cls 3))
  gc_BadStep : mg "BadStep" = some (.ref (cls 4))
  gc_NoPaper : mg "NoPaper" = some (.ref (cls 5))
  gc_NoLevel : mg "NoLevel" = some (.ref (cls 6))
  gc_NoWish : mg "NoWish" = some (.ref (cls 7))
  gc_NoAnswer : mg "NoAnswer" = some (.ref (cls 8))
  gc_NoLine : mg "NoLine" = some (.ref (cls 9))
  kE_NoAnswer : ∀ k b, sub_NoAnswer k = some b → ExcC K (cls k) ∧ PySem.W.kitOne K (.ref (cls k)) (.ref (cls 8)) = some b
  kE_NoLevel : ∀ k b, sub_NoLevel k = some b → ExcC K (cls k) ∧ PySem.W.kitOne K (.ref (cls k)) (.ref (cls 6)) = some b
  kE_NoLine : ∀ k b, sub_NoLine k = some b → ExcC K (cls k) ∧ PySem.W.kitOne K (.ref (cls k)) (.ref (cls 9)) = some b
  kE_NoText : ∀ k b, sub_NoText k = some b → ExcC K (cls k) ∧ PySem.W.kitOne K (.ref (cls k)) (.ref (cls 2)) = some b
  kE_NoWish : ∀ k b, sub_NoWish k = some b → ExcC K (cls k) ∧ PySem.W.kitOne K (.ref (cls k)) (.ref (cls 7)) = some b
  kE_ValueError : ∀ k b, sub_ValueError k = some b → ExcC K (cls k) ∧ PySem.W.kitOne K (.ref (cls k)) (.type "ValueError") = some b
  kT_0 : ∀ k b, subT_0 k = some b → ExcC K (cls k) ∧ PySem.W.kitAny K (.ref (cls k)) ([cls 4, cls 5, cls 1, cls 3].map Value.ref) = some b
  xm_WishError : ∀ k b, ct_WishError k = some b → PySem.W.exmOne K (.ref (cls k)) (.ref (cls 0)) = some b
  k_FIGURES : ∃ t, mg "FIGURES" = some (.str (tx [48, 49, 50, 51, 52, 53, 54, 55, 56, 57]) t)
  k_LETTERS : ∃ t, mg "LETTERS" = some (.str (tx [97, 98, 99, 100, 101, 102, 103, 104, 105, 106, 107, 108, 109, 110, 111, 112, 113, 114, 115, 116, 117, 118, 119, 120, 121, 122]) t)
  k_MOST_TERMS : ∃ t, mg "MOST_TERMS" = some (.int (3) t)
  b_ValueError : mg "ValueError" = none
  b_abs : mg "abs" = none
  b_all : mg "all" = none
  b_enumerate : mg "enumerate" = none
  b_int : mg "int" = none
  b_isinstance : mg "isinstance" = none
  b_len : mg "len" = none
  b_list : mg "list" = none
  b_range : mg "range" = none
  b_str : mg "str" = none
  b_tuple : mg "tuple" = none
  xi_NoText : OexC K (cls 2)
  xn_NoText : PySem.W.findIn K (.ref (cls 2)) "at" = some none
  xc_NoText : PySem.W.findIn K (.ref (cls 2)) "__init__" = some (some (.ref (a 0))) ∧ PySem.W.typeIn K (.ref (a 0)) = some (.type "function")
  xf_NoText : XfC K (cls 2)
  xw_WishError : ClX.CRead K (cls 0) (.type "type") ∧ PySem.W.findCls K (.ref (cls 0)) (.type "type") "__init__" = some (.val (.builtin "ValueError.__init__"))
section
variable {P : Program} {w : World} {K : PySem.W.Frag} {mg : Str → Option Value} {base : Heap} {a : Nat → Addr} {fd : Nat → FuncData} {cls : Nat → Addr}
theorem bd0 {f : Addr} {fd : FuncData} (F : FnP K "__init__" "NoText.__init__" st_0 f fd) : Binds K fd P_NoText___init__ [] := F.bindsN fun _ _ _ _ _ _ us hl => match us, hl with | [_, _], _ => rfl
theorem bd1 {f : Addr} {fd : FuncData} (F : FnP K "divisor" "divisor" st_1 f fd) : Binds K fd P_divisor [] := F.bindsN fun _ _ _ _ _ _ us hl => match us, hl with | [_, _], _ => rfl
theorem bd2 {f : Addr} {fd : FuncData} (F : FnP K "fraction" "fraction" st_2 f fd) : Binds K fd P_fraction [] := F.bindsN fun _ _ _ _ _ _ us hl => match us, hl with | [_, _], _ => rfl
theorem bd3 {f : Addr} {fd : FuncData} (F : FnP K "whole_in" "whole_in" st_3 f fd) : Binds K fd P_whole_in [] := F.bindsN fun _ _ _ _ _ _ us hl => match us, hl with | [_], _ => rfl
theorem bd4 {f : Addr} {fd : FuncData} (F : FnP K "fraction_in" "fraction_in" st_4 f fd) : Binds K fd P_fraction_in [] := F.bindsN fun _ _ _ _ _ _ us hl => match us, hl with | [_], _ => rfl
theorem bd5 {f : Addr} {fd : FuncData} (F : FnP K "is_name" "is_name" st_5 f fd) : Binds K fd P_is_name [] := F.bindsN fun _ _ _ _ _ _ us hl => match us, hl with | [_], _ => rfl
theorem bd6 {f : Addr} {fd : FuncData} (F : FnP K "call_in" "call_in" st_6 f fd) : Binds K fd P_call_in [] := F.bindsN fun _ _ _ _ _ _ us hl => match us, hl with | [_], _ => rfl
theorem bd7 {f : Addr} {fd : FuncData} (F : FnP K "line_in" "line_in" st_7 f fd) : Binds K fd P_line_in [] := F.bindsN fun _ _ _ _ _ _ us hl => match us, hl with | [_], _ => rfl
theorem bd8 {f : Addr} {fd : FuncData} (F : FnP K "read_world" "read_world" st_8 f fd) : Binds K fd P_read_world [] := F.bindsN fun _ _ _ _ _ _ us hl => match us, hl with | [_], _ => rfl
theorem bd9 {f : Addr} {fd : FuncData} (F : FnP K "_law_draw" "_law_draw" st_9 f fd) : Binds K fd P__law_draw [] := F.bindsN fun _ _ _ _ _ _ us hl => match us, hl with | [_, _, _], _ => rfl
theorem bd10 {f : Addr} {fd : FuncData} (F : FnP K "_law_made" "_law_made" st_10 f fd) : Binds K fd P__law_made [] := F.bindsN fun _ _ _ _ _ _ us hl => match us, hl with | [_], _ => rfl
theorem bd11 {f : Addr} {fd : FuncData} (F : FnP K "_law_spoiled" "_law_spoiled" st_11 f fd) : Binds K fd P__law_spoiled [] := F.bindsN fun _ _ _ _ _ _ us hl => match us, hl with | [_, _, _], _ => rfl
theorem bd12 {f : Addr} {fd : FuncData} (F : FnP K "_law_figures" "_law_figures" st_12 f fd) : Binds K fd P__law_figures [] := F.bindsN fun _ _ _ _ _ _ us hl => match us, hl with | [_], _ => rfl
theorem bd13 {f : Addr} {fd : FuncData} (F : FnP K "_law_fraction" "_law_fraction" st_13 f fd) : Binds K fd P__law_fraction [] := F.bindsN fun _ _ _ _ _ _ us hl => match us, hl with | [_], _ => rfl
theorem bd14 {f : Addr} {fd : FuncData} (F : FnP K "_law_is_name" "_law_is_name" st_14 f fd) : Binds K fd P__law_is_name [] := F.bindsN fun _ _ _ _ _ _ us hl => match us, hl with | [_], _ => rfl
theorem bd15 {f : Addr} {fd : FuncData} (F : FnP K "_law_line" "_law_line" st_15 f fd) : Binds K fd P__law_line [] := F.bindsN fun _ _ _ _ _ _ us hl => match us, hl with | [_], _ => rfl
theorem bd16 {f : Addr} {fd : FuncData} (F : FnP K "_law_due" "_law_due" st_16 f fd) : Binds K fd P__law_due [] := F.bindsN fun _ _ _ _ _ _ us hl => match us, hl with | [_], _ => rfl
theorem bd17 {f : Addr} {fd : FuncData} (F : FnP K "_law_refusal" "_law_refusal" st_17 f fd) : Binds K fd P__law_refusal [] := F.bindsN fun _ _ _ _ _ _ us hl => match us, hl with | [_], _ => rfl
theorem bd18 {f : Addr} {fd : FuncData} (F : FnP K "_law_asked" "_law_asked" st_18 f fd) : Binds K fd P__law_asked [] := F.bindsN fun _ _ _ _ _ _ us hl => match us, hl with | [_], _ => rfl
theorem bd19 {f : Addr} {fd : FuncData} (F : FnP K "law" "law" st_19 f fd) : Binds K fd P_law [] := F.bindsN fun _ _ _ _ _ _ us hl => match us, hl with | [_], _ => rfl
theorem okI_NoText (Z : Fx K mg a fd cls) : FnOk P w K mg base (L2.CX P w) 1 (a 0) (fd 0) P_NoText___init__ (spI (cls 2) (tx [97, 116])) :=
  fn_init Z.D0 sc_NoText___init__ Z.xi_NoText Z.xn_NoText fun cdv A outer s H E room =>
    pss_cons (ps_expr (pe_winit rfl Z.gc_WishError Z.xw_WishError.1 Z.xw_WishError.2 (pa_cons (pe_var (i := 0) rfl (Or.inl rfl)) (pa_cons pe_str pa_nil)))) (pss_one (ps_ost (pe_var (i := 0) rfl (Or.inl rfl)) (pe_var (i := 1) rfl (Or.inl rfl))))
abbrev Good (P : Program) (w : World) (K : PySem.W.Frag) (mg : Str → Option Value) (base : Heap) (a : Nat → Addr) (fd : Nat → FuncData) (cls : Nat → Addr) (d i : Nat) : Prop := FnG P w K mg base (L2.CX P w) (2 * d + 2) (a i) (fd i) (PS i) (spF ⟨K, w, cls⟩ (runG gcs T d i) (PS i).length)
theorem q0_1 (d : Nat) : runG gcs T (d + 1) 0 = fun ws M => if gcs 0 then gcO M (Sw.body 2 (b0 (runG gcs T d)) ws M) else Sw.body 2 (b0 (runG gcs T d)) ws M := rfl
theorem q0_2 : PS 0 = P_NoText___init__ := rfl
theorem q0_3 : N_NoText___init__.length = 2 := rfl
theorem q0_4 : (PS 0).length = 2 := rfl
theorem ok0 {d : Nat} (Z : Fx K mg a fd cls) (IH : ∀ i, i < 20 → Good P w K mg base a fd cls d i) : Good P w K mg base a fd cls (d + 1) 0 := by
  refine FnG.like (i_defG (k := 2 * d + 3) (C := ⟨K, w, cls⟩) (gcs 0) 2 2 (b0 (runG gcs T d)) Z.D0 sc_NoText___init__ q0_3 rfl fun cdv A outer s H E gd hr => ?_) q0_2 (q0_1 d) q0_4
  have hr1 := hr.mono (Nat.le_succ (2 * d + 2))
  have tk : Takes (cxOf (L2.CX P w) P w K mg base N_NoText___init__ "NoText.__init__" (defScope st_0) (a 0) cdv A outer s H E) (fun cls d _ H => E cls d H) := takes_of rfl rfl rfl rfl
  have po := passes_of (X := cxOf (L2.CX P w) P w K mg base N_NoText___init__ "NoText.__init__" (defScope st_0) (a 0) cdv A outer s H E) rfl
  unfold b0
  exact i_sstop
theorem q1_1 (d : Nat) : runG gcs T (d + 1) 1 = fun ws M => if gcs 1 then gcO M (Sw.body 3 (b1 (runG gcs T d)) ws M) else Sw.body 3 (b1 (runG gcs T d)) ws M := rfl
theorem q1_2 : PS 1 = P_divisor := rfl
theorem q1_3 : N_divisor.length = 3 := rfl
theorem q1_4 : (PS 1).length = 2 := rfl
theorem ok1 {d : Nat} (Z : Fx K mg a fd cls) (IH : ∀ i, i < 20 → Good P w K mg base a fd cls d i) : Good P w K mg base a fd cls (d + 1) 1 := by
  refine FnG.like (i_defG (k := 2 * d + 3) (C := ⟨K, w, cls⟩) (gcs 1) 3 2 (b1 (runG gcs T d)) Z.D1 sc_divisor q1_3 rfl fun cdv A outer s H E gd hr => ?_) q1_2 (q1_1 d) q1_4
  have hr1 := hr.mono (Nat.le_succ (2 * d + 2))
  have tk : Takes (cxOf (L2.CX P w) P w K mg base N_divisor "divisor" (defScope st_1) (a 1) cdv A outer s H E) (fun cls d _ H => E cls d H) := takes_of rfl rfl rfl rfl
  have po := passes_of (X := cxOf (L2.CX P w) P w K mg base N_divisor "divisor" (defScope st_1) (a 1) cdv A outer s H E) rfl
  unfold b1
  exact (i_scons (i_while po (i_tcmp (o_ne rfl hr.units) (i_v 1) i_int) (i_scons (i_st 2 nd_divisor (i_op (o_mod) (i_v 0) (i_v 1)))
    (i_scons (i_st 0 nd_divisor (i_v 1))
    (i_sone (i_st 1 nd_divisor (i_v 2))))))
    (i_sone (i_ret (i_v 0))))
theorem q2_1 (d : Nat) : runG gcs T (d + 1) 2 = fun ws M => if gcs 2 then gcO M (Sw.body 3 (b2 (runG gcs T d)) ws M) else Sw.body 3 (b2 (runG gcs T d)) ws M := rfl
theorem q2_2 : PS 2 = P_fraction := rfl
theorem q2_3 : N_fraction.length = 3 := rfl
theorem q2_4 : (PS 2).length = 2 := rfl
theorem ok2 {d : Nat} (Z : Fx K mg a fd cls) (IH : ∀ i, i < 20 → Good P w K mg base a fd cls d i) : Good P w K mg base a fd cls (d + 1) 2 := by
  refine FnG.like (i_defG (k := 2 * d + 3) (C := ⟨K, w, cls⟩) (gcs 2) 3 2 (b2 (runG gcs T d)) Z.D2 sc_fraction q2_3 rfl fun cdv A outer s H E gd hr => ?_) q2_2 (q2_1 d) q2_4
  have hr1 := hr.mono (Nat.le_succ (2 * d + 2))
  have tk : Takes (cxOf (L2.CX P w) P w K mg base N_fraction "fraction" (defScope st_2) (a 2) cdv A outer s H E) (fun cls d _ H => E cls d H) := takes_of rfl rfl rfl rfl
  have po := passes_of (X := cxOf (L2.CX P w) P w K mg base N_fraction "fraction" (defScope st_2) (a 2) cdv A outer s H E) rfl
  unfold b2
  exact (i_scons (i_sif (i_tcmp (o_eq rfl hr.units) (i_v 1) i_int) (i_sone i_stop) i_snil)
    (i_scons (i_sif (i_tcmp (o_lt rfl hr.units) (i_v 1) i_int) (i_sone (i_ret (i_call (IH 2 (by decide)) gd hr1 rfl Z.g2 Z.D2.kp (bd2 Z.D2) (passE tk) (i_cons (i_un u_neg (i_v 0)) (i_cons (i_un u_neg (i_v 1)) i_nil)) rfl))) i_snil)
    (i_scons (i_st 2 nd_fraction (i_call (IH 1 (by decide)) gd hr1 rfl Z.g1 Z.D1.kp (bd1 Z.D1) (passE tk) (i_cons (i_abs rfl Z.b_abs PyB.b_abs (i_v 0)) (i_cons (i_v 1) i_nil)) rfl))
    (i_sone (i_ret (i_tup (i_cons (i_op (o_div) (i_v 0) (i_v 2)) (i_cons (i_op (o_div) (i_v 1) (i_v 2)) i_nil))))))))
theorem q3_1 (d : Nat) : runG gcs T (d + 1) 3 = fun ws M => if gcs 3 then gcO M (Sw.body 3 (b3 (runG gcs T d)) ws M) else Sw.body 3 (b3 (runG gcs T d)) ws M := rfl
theorem q3_2 : PS 3 = P_whole_in := rfl
theorem q3_3 : N_whole_in.length = 3 := rfl
theorem q3_4 : (PS 3).length = 1 := rfl
theorem ok3 {d : Nat} (Z : Fx K mg a fd cls) (IH : ∀ i, i < 20 → Good P w K mg base a fd cls d i) : Good P w K mg base a fd cls (d + 1) 3 := by
  refine FnG.like (i_defG (k := 2 * d + 3) (C := ⟨K, w, cls⟩) (gcs 3) 3 1 (b3 (runG gcs T d)) Z.D3 sc_whole_in q3_3 rfl fun cdv A outer s H E gd hr => ?_) q3_2 (q3_1 d) q3_4
  have hr1 := hr.mono (Nat.le_succ (2 * d + 2))
  have tk : Takes (cxOf (L2.CX P w) P w K mg base N_whole_in "whole_in" (defScope st_3) (a 3) cdv A outer s H E) (fun cls d _ H => E cls d H) := takes_of rfl rfl rfl rfl
  have po := passes_of (X := cxOf (L2.CX P w) P w K mg base N_whole_in "whole_in" (defScope st_3) (a 3) cdv A outer s H E) rfl
  unfold b3
  exact (i_scons (i_st 1 nd_whole_in (i_v 0))
    (i_scons (i_sif (i_tcmp (o_eq rfl hr.units) (i_slS (i_v 0) i_pn (i_ps i_int)) i_str) (i_sone (i_st 1 nd_whole_in (i_slS (i_v 0) (i_ps i_int) i_pn))) i_snil)
    (i_scons (i_sif (PW.pt (i_tor (i_tnot (i_tchainE o_le o_le i_int (i_c1 rfl (c_len rfl rfl) rfl Z.b_len PyB.b_len (i_v 1)) i_int)) (i_tor1 (i_tnot (i_t (i_all rfl rfl rfl Z.b_all PyB.b_all (i_lc (own := [("sign", 2)]) rfl nd_whole_in (i_seq rfl (i_v 1)) (blkOk_by (N := N_whole_in) (sc := defScope st_3) (by decide +kernel)) (fun _ _ _ _ _ => (i_g 2 nd_whole_in)) (fun _ _ _ _ _ => i_ts0) (fun _ _ _ _ _ => (i_cmp (o_in rfl rfl hr.units) (i_v 2) (i_glS rfl Z.k_FIGURES))) (by decide) (by decide)))))))) (i_sone (i_ret i_non)) i_snil)
    (i_scons (i_sif (PW.pt (i_tand (i_tcmp (o_eq rfl hr.units) (i_ix (o_ix rfl rfl hr.units) (i_v 1) i_int) i_str) (i_tand1 (i_tcmp (o_ne rfl hr.units) (i_v 0) i_str)))) (i_sone (i_ret i_non)) i_snil)
    (i_sone (i_ret (i_intT rfl Z.b_int PyB.b_int (i_v 0))))))))
theorem q4_1 (d : Nat) : runG gcs T (d + 1) 4 = fun ws M => if gcs 4 then gcO M (Sw.body 6 (b4 (runG gcs T d)) ws M) else Sw.body 6 (b4 (runG gcs T d)) ws M := rfl
theorem q4_2 : PS 4 = P_fraction_in := rfl
theorem q4_3 : N_fraction_in.length = 6 := rfl
theorem q4_4 : (PS 4).length = 1 := rfl
theorem ok4 {d : Nat} (Z : Fx K mg a fd cls) (IH : ∀ i, i < 20 → Good P w K mg base a fd cls d i) : Good P w K mg base a fd cls (d + 1) 4 := by
  refine FnG.like (i_defG (k := 2 * d + 3) (C := ⟨K, w, cls⟩) (gcs 4) 6 1 (b4 (runG gcs T d)) Z.D4 sc_fraction_in q4_3 rfl fun cdv A outer s H E gd hr => ?_) q4_2 (q4_1 d) q4_4
  have hr1 := hr.mono (Nat.le_succ (2 * d + 2))
  have tk : Takes (cxOf (L2.CX P w) P w K mg base N_fraction_in "fraction_in" (defScope st_4) (a 4) cdv A outer s H E) (fun cls d _ H => E cls d H) := takes_of rfl rfl rfl rfl
  have po := passes_of (X := cxOf (L2.CX P w) P w K mg base N_fraction_in "fraction_in" (defScope st_4) (a 4) cdv A outer s H E) rfl
  unfold b4
  exact (i_scons (i_asg (i_parti (i_v 0) i_str) (i_gt rfl rfl (i_gs 3 nd_fraction_in (i_gs 4 nd_fraction_in (i_gs 5 nd_fraction_in i_gnil)))))
    (i_scons (i_st 1 nd_fraction_in (i_call (IH 3 (by decide)) gd hr1 rfl Z.g3 Z.D3.kp (bd3 Z.D3) (passE tk) (i_cons (i_v 3) i_nil) rfl))
    (i_scons (i_sif (PW.pt (i_tor (i_tcmp (o_eq rfl hr.units) (i_v 4) i_str) (i_tor1 (i_tisN (i_v 1))))) (i_scons (i_sif (i_tisN (i_v 1)) (i_sone (i_ret i_non)) i_snil)
    (i_sone (i_ret (i_tup (i_cons (i_v 1) (i_cons i_int i_nil)))))) i_snil)
    (i_scons (i_st 2 nd_fraction_in (i_call (IH 3 (by decide)) gd hr1 rfl Z.g3 Z.D3.kp (bd3 Z.D3) (passE tk) (i_cons (i_v 5) i_nil) rfl))
    (i_scons (i_sif (PW.pt (i_tor (i_tisN (i_v 2)) (i_tor (i_tcmp (o_lt rfl hr.units) (i_v 2) i_int) (i_tor1 (i_tcmp (o_ne rfl hr.units) (i_call (IH 2 (by decide)) gd hr1 rfl Z.g2 Z.D2.kp (bd2 Z.D2) (passE tk) (i_cons (i_v 1) (i_cons (i_v 2) i_nil)) rfl) (i_tup (i_cons (i_v 1) (i_cons (i_v 2) i_nil)))))))) (i_sone (i_ret i_non)) i_snil)
    (i_sone (i_ret (i_tup (i_cons (i_v 1) (i_cons (i_v 2) i_nil))))))))))
theorem q5_1 (d : Nat) : runG gcs T (d + 1) 5 = fun ws M => if gcs 5 then gcO M (Sw.body 2 (b5 (runG gcs T d)) ws M) else Sw.body 2 (b5 (runG gcs T d)) ws M := rfl
theorem q5_2 : PS 5 = P_is_name := rfl
theorem q5_3 : N_is_name.length = 2 := rfl
theorem q5_4 : (PS 5).length = 1 := rfl
theorem ok5 {d : Nat} (Z : Fx K mg a fd cls) (IH : ∀ i, i < 20 → Good P w K mg base a fd cls d i) : Good P w K mg base a fd cls (d + 1) 5 := by
  refine FnG.like (i_defG (k := 2 * d + 3) (C := ⟨K, w, cls⟩) (gcs 5) 2 1 (b5 (runG gcs T d)) Z.D5 sc_is_name q5_3 rfl fun cdv A outer s H E gd hr => ?_) q5_2 (q5_1 d) q5_4
  have hr1 := hr.mono (Nat.le_succ (2 * d + 2))
  have tk : Takes (cxOf (L2.CX P w) P w K mg base N_is_name "is_name" (defScope st_5) (a 5) cdv A outer s H E) (fun cls d _ H => E cls d H) := takes_of rfl rfl rfl rfl
  have po := passes_of (X := cxOf (L2.CX P w) P w K mg base N_is_name "is_name" (defScope st_5) (a 5) cdv A outer s H E) rfl
  unfold b5
  exact (i_scons (i_sif (PW.pt (i_tor (i_tnot (i_t (i_isA rfl rfl Z.b_isinstance rfl Z.b_str PyB.b_str kits_str (i_v 0)))) (i_tor1 (i_tnot (i_tchainE o_le o_le i_int (i_c1 rfl (c_len rfl rfl) rfl Z.b_len PyB.b_len (i_v 0)) i_int))))) (i_sone (i_ret i_bl)) i_snil)
    (i_sone (i_ret (i_all rfl rfl rfl Z.b_all PyB.b_all (i_lc (own := [("sign", 1)]) rfl nd_is_name (i_seq rfl (i_v 0)) (blkOk_by (N := N_is_name) (sc := defScope st_5) (by decide +kernel)) (fun _ _ _ _ _ => (i_g 1 nd_is_name)) (fun _ _ _ _ _ => i_ts0) (fun _ _ _ _ _ => (i_cmp (o_in rfl rfl hr.units) (i_v 1) (i_glS rfl Z.k_LETTERS))) (by decide) (by decide))))))
theorem q6_1 (d : Nat) : runG gcs T (d + 1) 6 = fun ws M => if gcs 6 then gcO M (Sw.body 4 (b6 (runG gcs T d)) ws M) else Sw.body 4 (b6 (runG gcs T d)) ws M := rfl
theorem q6_2 : PS 6 = P_call_in := rfl
theorem q6_3 : N_call_in.length = 4 := rfl
theorem q6_4 : (PS 6).length = 1 := rfl
theorem ok6 {d : Nat} (Z : Fx K mg a fd cls) (IH : ∀ i, i < 20 → Good P w K mg base a fd cls d i) : Good P w K mg base a fd cls (d + 1) 6 := by
  refine FnG.like (i_defG (k := 2 * d + 3) (C := ⟨K, w, cls⟩) (gcs 6) 4 1 (b6 (runG gcs T d)) Z.D6 sc_call_in q6_3 rfl fun cdv A outer s H E gd hr => ?_) q6_2 (q6_1 d) q6_4
  have hr1 := hr.mono (Nat.le_succ (2 * d + 2))
  have tk : Takes (cxOf (L2.CX P w) P w K mg base N_call_in "call_in" (defScope st_6) (a 6) cdv A outer s H E) (fun cls d _ H => E cls d H) := takes_of rfl rfl rfl rfl
  have po := passes_of (X := cxOf (L2.CX P w) P w K mg base N_call_in "call_in" (defScope st_6) (a 6) cdv A outer s H E) rfl
  unfold b6
  exact (i_scons (i_sif (PW.pt (i_tor (i_tcmp (o_lt rfl hr.units) (i_c1 rfl (c_len rfl rfl) rfl Z.b_len PyB.b_len (i_v 0)) i_int) (i_tor (i_tcmp o_gt (i_c1 rfl (c_len rfl rfl) rfl Z.b_len PyB.b_len (i_v 0)) (i_op (o_add rfl) i_int (i_glI rfl Z.k_MOST_TERMS))) (i_tor (i_tcmp (o_ne rfl hr.units) (i_ix (o_ix rfl rfl hr.units) (i_v 0) (i_un u_neg i_int)) i_str) (i_tor1 (i_tnot (i_t (i_call (IH 5 (by decide)) gd hr1 rfl Z.g5 Z.D5.kp (bd5 Z.D5) (passE tk) (i_cons (i_ix (o_ix rfl rfl hr.units) (i_v 0) i_int) i_nil) rfl)))))))) (i_sone (i_ret i_non)) i_snil)
    (i_scons (i_stLc 1 (own := [("word", 3)]) rfl nd_call_in (i_iNew rfl (i_sl (i_v 0) (i_ps i_int) (i_ps (i_un u_neg i_int)))) (blkOk_by (N := N_call_in) (sc := defScope st_6) (by decide +kernel)) (fun _ _ _ _ _ => (i_g 3 nd_call_in)) (fun _ _ _ _ _ => i_ts0) (fun _ _ _ _ _ => (i_call (IH 4 (by decide)) gd hr1 rfl Z.g4 Z.D4.kp (bd4 Z.D4) passF (i_cons (i_v 3) i_nil) rfl)) (by decide) (by decide) (sw_true rfl rfl rfl (by decide +kernel)))
    (i_scons (i_st 2 nd_call_in (i_call (IH 4 (by decide)) gd hr1 rfl Z.g4 Z.D4.kp (bd4 Z.D4) (passE tk) (i_cons (i_ix (o_ix rfl rfl hr.units) (i_v 0) (i_un u_neg i_int)) i_nil) rfl))
    (i_scons (i_sif (PW.pt (i_tor (i_tisN (i_v 2)) (i_tor1 (i_tcmp (o_in rfl rfl hr.units) i_non (i_v 1))))) (i_sone (i_ret i_non)) i_snil)
    (i_sone (i_ret (i_tup (i_cons (i_tup (i_cons (i_ix (o_ix rfl rfl hr.units) (i_v 0) i_int) (i_cons (i_tuple rfl rfl Z.b_tuple (i_lOf (i_v 1))) i_nil))) (i_cons (i_v 2) i_nil)))))))))
theorem q7_1 (d : Nat) : runG gcs T (d + 1) 7 = fun ws M => if gcs 7 then gcO M (Sw.body 4 (b7 (runG gcs T d)) ws M) else Sw.body 4 (b7 (runG gcs T d)) ws M := rfl
theorem q7_2 : PS 7 = P_line_in := rfl
theorem q7_3 : N_line_in.length = 4 := rfl
theorem q7_4 : (PS 7).length = 1 := rfl
theorem ok7 {d : Nat} (Z : Fx K mg a fd cls) (IH : ∀ i, i < 20 → Good P w K mg base a fd cls d i) : Good P w K mg base a fd cls (d + 1) 7 := by
  refine FnG.like (i_defG (k := 2 * d + 3) (C := ⟨K, w, cls⟩) (gcs 7) 4 1 (b7 (runG gcs T d)) Z.D7 sc_line_in q7_3 rfl fun cdv A outer s H E gd hr => ?_) q7_2 (q7_1 d) q7_4
  have hr1 := hr.mono (Nat.le_succ (2 * d + 2))
  have tk : Takes (cxOf (L2.CX P w) P w K mg base N_line_in "line_in" (defScope st_7) (a 7) cdv A outer s H E) (fun cls d _ H => E cls d H) := takes_of rfl rfl rfl rfl
  have po := passes_of (X := cxOf (L2.CX P w) P w K mg base N_line_in "line_in" (defScope st_7) (a 7) cdv A outer s H E) rfl
  unfold b7
  exact (i_scons (i_st 1 nd_line_in (i_new (i_split (i_v 0) i_str)))
    (i_scons (i_sif (PW.pt (i_tand (i_tcmp (o_eq rfl hr.units) (i_ix (o_ix rfl rfl hr.units) (i_v 1) i_int) i_str) (i_tand (i_tcmp (o_eq rfl hr.units) (i_c1 rfl (c_len rfl rfl) rfl Z.b_len PyB.b_len (i_v 1)) i_int) (i_tand1 (i_t (i_call (IH 5 (by decide)) gd hr1 rfl Z.g5 Z.D5.kp (bd5 Z.D5) (passE tk) (i_cons (i_ix (o_ix rfl rfl hr.units) (i_v 1) i_int) i_nil) rfl)))))) (i_sone (i_ret (i_tup (i_cons i_int (i_cons (i_ix (o_ix rfl rfl hr.units) (i_v 1) i_int) (i_cons i_bl i_nil)))))) i_snil)
    (i_scons (i_sif (PW.pt (i_tand (i_tcmp (o_eq rfl hr.units) (i_ix (o_ix rfl rfl hr.units) (i_v 1) i_int) i_str) (i_tand (i_tcmp (o_eq rfl hr.units) (i_c1 rfl (c_len rfl rfl) rfl Z.b_len PyB.b_len (i_v 1)) i_int) (i_tand1 (i_t (i_call (IH 5 (by decide)) gd hr1 rfl Z.g5 Z.D5.kp (bd5 Z.D5) (passE tk) (i_cons (i_ix (o_ix rfl rfl hr.units) (i_v 1) i_int) i_nil) rfl)))))) (i_scons (i_st 2 nd_line_in (i_call (IH 4 (by decide)) gd hr1 rfl Z.g4 Z.D4.kp (bd4 Z.D4) (passE tk) (i_cons (i_ix (o_ix rfl rfl hr.units) (i_v 1) i_int) i_nil) rfl))
    (i_sone (i_ret (i_if (i_tisN (i_v 2)) i_non (i_tup (i_cons i_int (i_cons (i_ix (o_ix rfl rfl hr.units) (i_v 1) i_int) (i_cons (i_v 2) i_nil)))))))) i_snil)
    (i_scons (i_sif (i_tcmp (o_eq rfl hr.units) (i_ix (o_ix rfl rfl hr.units) (i_v 1) i_int) i_str) (i_scons (i_st 3 nd_line_in (i_call (IH 6 (by decide)) gd hr1 rfl Z.g6 Z.D6.kp (bd6 Z.D6) (passE tk) (i_cons (i_v 1) i_nil) rfl))
    (i_sone (i_ret (i_if (i_tisN (i_v 3)) i_non (i_tup (i_cons i_int (i_cons (i_ix (o_ix rfl rfl hr.units) (i_v 3) i_int) (i_cons (i_ix (o_ix rfl rfl hr.units) (i_v 3) i_int) i_nil)))))))) i_snil)
    (i_sone (i_ret i_non))))))
theorem q8_1 (d : Nat) : runG gcs T (d + 1) 8 = fun ws M => if gcs 8 then gcO M (Sw.body 5 (b8 (runG gcs T d)) ws M) else Sw.body 5 (b8 (runG gcs T d)) ws M := rfl
theorem q8_2 : PS 8 = P_read_world := rfl
theorem q8_3 : N_read_world.length = 5 := rfl
theorem q8_4 : (PS 8).length = 1 := rfl
theorem ok8 {d : Nat} (Z : Fx K mg a fd cls) (IH : ∀ i, i < 20 → Good P w K mg base a fd cls d i) : Good P w K mg base a fd cls (d + 1) 8 := by
  refine FnG.like (i_defG (k := 2 * d + 3) (C := ⟨K, w, cls⟩) (gcs 8) 5 1 (b8 (runG gcs T d)) Z.D8 sc_read_world q8_3 rfl fun cdv A outer s H E gd hr => ?_) q8_2 (q8_1 d) q8_4
  have hr1 := hr.mono (Nat.le_succ (2 * d + 2))
  have tk : Takes (cxOf (L2.CX P w) P w K mg base N_read_world "read_world" (defScope st_8) (a 8) cdv A outer s H E) (fun cls d _ H => E cls d H) := takes_of rfl rfl rfl rfl
  have po := passes_of (X := cxOf (L2.CX P w) P w K mg base N_read_world "read_world" (defScope st_8) (a 8) cdv A outer s H E) rfl
  unfold b8
  exact (i_scons (i_st 1 nd_read_world (i_tup (i_cons i_dic (i_cons i_dic (i_cons i_dic i_nil)))))
    (i_scons (i_for po rfl (i_enum rfl rfl Z.b_enumerate (i_v 0)) (i_gt rfl rfl (i_gs 2 nd_read_world (i_gs 3 nd_read_world i_gnil))) (i_scons (i_st 4 nd_read_world (i_call (IH 7 (by decide)) gd hr1 rfl Z.g7 Z.D7.kp (bd7 Z.D7) (passE tk) (i_cons (i_v 3) i_nil) rfl))
    (i_scons (i_sif (PW.pt (i_tor (i_tisN (i_v 4)) (i_tor1 (i_tcmp (o_in rfl rfl hr.units) (i_ix (o_ix rfl rfl hr.units) (i_v 4) i_int) (i_ix (o_ix rfl rfl hr.units) (i_v 1) (i_ix (o_ix rfl rfl hr.units) (i_v 4) i_int)))))) (i_sone (i_raiseI (c := 2) (f := [97, 116]) (k := 1) rfl tk Z.xi_NoText Z.xc_NoText.1 Z.xc_NoText.2 (okI_NoText Z) (hr.mono (by omega)) (bd0 Z.D0) rfl Z.gc_NoText (i_v 2))) i_snil)
    (i_sone (i_put rfl rfl hr.units (i_ix (o_ix rfl rfl hr.units) (i_v 1) (i_ix (o_ix rfl rfl hr.units) (i_v 4) i_int)) (i_ix (o_ix rfl rfl hr.units) (i_v 4) i_int) (i_ix (o_ix rfl rfl hr.units) (i_v 4) i_int))))))
    (i_sone (i_ret (i_v 1)))))
theorem q9_1 (d : Nat) : runG gcs T (d + 1) 9 = fun ws M => if gcs 9 then gcO M (Sw.body 5 (b9 (runG gcs T d)) ws M) else Sw.body 5 (b9 (runG gcs T d)) ws M := rfl
theorem q9_2 : PS 9 = P__law_draw := rfl
theorem q9_3 : N__law_draw.length = 5 := rfl
theorem q9_4 : (PS 9).length = 3 := rfl
theorem ok9 {d : Nat} (Z : Fx K mg a fd cls) (IH : ∀ i, i < 20 → Good P w K mg base a fd cls d i) : Good P w K mg base a fd cls (d + 1) 9 := by
  refine FnG.like (i_defG (k := 2 * d + 3) (C := ⟨K, w, cls⟩) (gcs 9) 5 3 (b9 (runG gcs T d)) Z.D9 sc__law_draw q9_3 rfl fun cdv A outer s H E gd hr => ?_) q9_2 (q9_1 d) q9_4
  have hr1 := hr.mono (Nat.le_succ (2 * d + 2))
  have tk : Takes (cxOf (L2.CX P w) P w K mg base N__law_draw "_law_draw" (defScope st_9) (a 9) cdv A outer s H E) (fun cls d _ H => E cls d H) := takes_of rfl rfl rfl rfl
  have po := passes_of (X := cxOf (L2.CX P w) P w K mg base N__law_draw "_law_draw" (defScope st_9) (a 9) cdv A outer s H E) rfl
  unfold b9
  exact (i_scons (i_st 3 nd__law_draw (i_if (i_tcmp o_gt (i_c1 rfl (c_len rfl rfl) rfl Z.b_len PyB.b_len (i_v 0)) i_int) (i_ix (o_ix rfl rfl hr.units) (i_v 0) (i_op (o_mod) (i_v 1) (i_c1 rfl (c_len rfl rfl) rfl Z.b_len PyB.b_len (i_v 0)))) i_int))
    (i_scons (i_sif (PW.pt (i_tand (i_tcmp o_gt (i_c1 rfl (c_len rfl rfl) rfl Z.b_len PyB.b_len (i_v 0)) i_int) (i_tand1 (i_tcmp (o_eq rfl hr.units) (i_op (o_mod) (i_ix (o_ix rfl rfl hr.units) (i_v 0) i_int) i_int) i_int)))) (i_sone (i_ret (i_op (o_mod) (i_op (o_mod) (i_op (o_shr) (i_v 3) (i_op (o_add rfl) (i_op (o_mul) i_int (i_op (o_div) (i_v 1) (i_c1 rfl (c_len rfl rfl) rfl Z.b_len PyB.b_len (i_v 0)))) i_int)) i_int) (i_v 2)))) i_snil)
    (i_scons (i_st 4 nd__law_draw (i_op (o_add rfl) (i_op (o_add rfl) (i_op (o_mod) (i_v 3) i_int) (i_op (o_mul) (i_op (o_mul) i_int (i_v 1)) (i_v 1))) i_int))
    (i_sone (i_ret (i_op (o_mod) (i_op (o_mod) (i_op (o_mul) (i_op (o_mod) (i_op (o_mul) (i_v 4) i_int) i_int) i_int) i_int) (i_v 2)))))))
theorem q10_1 (d : Nat) : runG gcs T (d + 1) 10 = fun ws M => if gcs 10 then gcO M (Sw.body 8 (b10 (runG gcs T d)) ws M) else Sw.body 8 (b10 (runG gcs T d)) ws M := rfl
theorem q10_2 : PS 10 = P__law_made := rfl
theorem q10_3 : N__law_made.length = 8 := rfl
theorem q10_4 : (PS 10).length = 1 := rfl
theorem ok10 {d : Nat} (Z : Fx K mg a fd cls) (IH : ∀ i, i < 20 → Good P w K mg base a fd cls d i) : Good P w K mg base a fd cls (d + 1) 10 := by
  refine FnG.like (i_defG (k := 2 * d + 3) (C := ⟨K, w, cls⟩) (gcs 10) 8 1 (b10 (runG gcs T d)) Z.D10 sc__law_made q10_3 rfl fun cdv A outer s H E gd hr => ?_) q10_2 (q10_1 d) q10_4
  have hr1 := hr.mono (Nat.le_succ (2 * d + 2))
  have tk : Takes (cxOf (L2.CX P w) P w K mg base N__law_made "_law_made" (defScope st_10) (a 10) cdv A outer s H E) (fun cls d _ H => E cls d H) := takes_of rfl rfl rfl rfl
  have po := passes_of (X := cxOf (L2.CX P w) P w K mg base N__law_made "_law_made" (defScope st_10) (a 10) cdv A outer s H E) rfl
  unfold b10
  exact (i_scons (i_st 1 nd__law_made (i_new (i_lstF i_nil)))
    (i_scons (i_for po rfl (i_range1 rfl Z.b_range (i_call (IH 9 (by decide)) gd hr1 rfl Z.g9 Z.D9.kp (bd9 Z.D9) (passE tk) (i_cons (i_v 0) (i_cons i_int (i_cons i_int i_nil))) rfl)) (i_g 2 nd__law_made) (i_scons (i_st 3 nd__law_made (i_op (o_add rfl) (i_ix (o_ix rfl rfl hr.units) (i_new (i_lstF (i_cons i_str (i_cons i_str (i_cons i_str (i_cons i_str i_nil)))))) (i_call (IH 9 (by decide)) gd hr1 rfl Z.g9 Z.D9.kp (bd9 Z.D9) (passE tk) (i_cons (i_v 0) (i_cons (i_op (o_add rfl) i_int (i_op (o_mul) i_int (i_v 2))) (i_cons i_int i_nil))) rfl)) (i_ix (o_ix rfl rfl hr.units) i_str (i_v 2))))
    (i_scons (i_st 4 nd__law_made (i_ix (o_ix rfl rfl hr.units) (i_new (i_lstF (i_cons i_str (i_cons i_str (i_cons i_str (i_cons i_str (i_cons i_str i_nil))))))) (i_call (IH 9 (by decide)) gd hr1 rfl Z.g9 Z.D9.kp (bd9 Z.D9) (passE tk) (i_cons (i_v 0) (i_cons (i_op (o_add rfl) i_int (i_op (o_mul) i_int (i_v 2))) (i_cons i_int i_nil))) rfl)))
    (i_scons (i_st 5 nd__law_made (i_ix (o_ix rfl rfl hr.units) (i_new (i_lstF (i_cons i_str (i_cons i_str (i_cons i_str i_nil))))) (i_call (IH 9 (by decide)) gd hr1 rfl Z.g9 Z.D9.kp (bd9 Z.D9) (passE tk) (i_cons (i_v 0) (i_cons (i_op (o_add rfl) i_int (i_op (o_mul) i_int (i_v 2))) (i_cons i_int i_nil))) rfl)))
    (i_scons (i_st 6 nd__law_made (i_call (IH 9 (by decide)) gd hr1 rfl Z.g9 Z.D9.kp (bd9 Z.D9) (passE tk) (i_cons (i_v 0) (i_cons (i_op (o_add rfl) i_int (i_op (o_mul) i_int (i_v 2))) (i_cons i_int i_nil))) rfl))
    (i_scons (i_st 7 nd__law_made (i_new (i_lstF (i_cons (i_op (o_add rfl) i_str (i_v 3)) (i_cons (i_op (o_add rfl) (i_op (o_add rfl) (i_op (o_add rfl) i_str (i_v 3)) i_str) (i_v 4)) (i_cons (i_op (o_add rfl) (i_op (o_add rfl) (i_op (o_add rfl) (i_op (o_add rfl) (i_op (o_add rfl) i_str (i_v 3)) i_str) (i_v 5)) i_str) (i_v 4)) i_nil))))))
    (i_sone (i_expr (i_append rfl rfl (i_v 1) (i_ix (o_ix rfl rfl hr.units) (i_op (o_add rfl) (i_v 7) (i_new (i_lstF (i_cons (i_join rfl i_str (i_ofF (i_lstF (i_cons i_str (i_cons (i_v 3) (i_cons (i_v 5) (i_cons (i_v 4) (i_cons i_str (i_cons i_str (i_cons (i_v 4) i_nil)))))))))) i_nil)))) (i_v 6)))))))))))
    (i_sone (i_ret (i_v 1)))))
theorem q11_1 (d : Nat) : runG gcs T (d + 1) 11 = fun ws M => if gcs 11 then gcO M (Sw.body 13 (b11 (runG gcs T d)) ws M) else Sw.body 13 (b11 (runG gcs T d)) ws M := rfl
theorem q11_2 : PS 11 = P__law_spoiled := rfl
theorem q11_3 : N__law_spoiled.length = 13 := rfl
theorem q11_4 : (PS 11).length = 3 := rfl
theorem ok11 {d : Nat} (Z : Fx K mg a fd cls) (IH : ∀ i, i < 20 → Good P w K mg base a fd cls d i) : Good P w K mg base a fd cls (d + 1) 11 := by
  refine FnG.like (i_defG (k := 2 * d + 3) (C := ⟨K, w, cls⟩) (gcs 11) 13 3 (b11 (runG gcs T d)) Z.D11 sc__law_spoiled q11_3 rfl fun cdv A outer s H E gd hr => ?_) q11_2 (q11_1 d) q11_4
  have hr1 := hr.mono (Nat.le_succ (2 * d + 2))
  have tk : Takes (cxOf (L2.CX P w) P w K mg base N__law_spoiled "_law_spoiled" (defScope st_11) (a 11) cdv A outer s H E) (fun cls d _ H => E cls d H) := takes_of rfl rfl rfl rfl
  have po := passes_of (X := cxOf (L2.CX P w) P w K mg base N__law_spoiled "_law_spoiled" (defScope st_11) (a 11) cdv A outer s H E) rfl
  unfold b11
  exact (i_scons (i_st 3 nd__law_spoiled (i_new (i_list rfl rfl Z.b_list (i_lOf (i_v 2)))))
    (i_scons (i_st 4 nd__law_spoiled (i_new (i_lstF (i_cons i_str (i_cons i_str (i_cons i_str (i_cons i_str (i_cons i_str (i_cons i_str (i_cons i_str (i_cons i_str i_nil)))))))))))
    (i_scons (i_st 4 nd__law_spoiled (i_op (o_add rfl) (i_v 4) (i_new (i_lstF (i_cons i_str (i_cons i_str (i_cons i_str (i_cons i_str i_nil))))))))
    (i_scons (i_st 4 nd__law_spoiled (i_op (o_add rfl) (i_v 4) (i_new (i_lstF (i_cons i_str (i_cons i_str (i_cons i_str (i_cons i_str i_nil))))))))
    (i_scons (i_st 5 nd__law_spoiled (i_call (IH 9 (by decide)) gd hr1 rfl Z.g9 Z.D9.kp (bd9 Z.D9) (passE tk) (i_cons (i_v 0) (i_cons (i_v 1) (i_cons i_int i_nil))) rfl))
    (i_scons (i_sif (PW.pt (i_tor (i_tcmp (o_eq rfl hr.units) (i_c1 rfl (c_len rfl rfl) rfl Z.b_len PyB.b_len (i_v 3)) i_int) (i_tor1 (i_tcmp (o_eq rfl hr.units) (i_v 5) i_int)))) (i_scons (i_expr (i_insert rfl rfl (i_v 3) (i_call (IH 9 (by decide)) gd hr1 rfl Z.g9 Z.D9.kp (bd9 Z.D9) (passE tk) (i_cons (i_v 0) (i_cons (i_op (o_add rfl) (i_v 1) i_int) (i_cons (i_op (o_add rfl) (i_c1 rfl (c_len rfl rfl) rfl Z.b_len PyB.b_len (i_v 3)) i_int) i_nil))) rfl) (i_ix (o_ix rfl rfl hr.units) (i_v 4) (i_call (IH 9 (by decide)) gd hr1 rfl Z.g9 Z.D9.kp (bd9 Z.D9) (passE tk) (i_cons (i_v 0) (i_cons (i_op (o_add rfl) (i_v 1) i_int) (i_cons i_int i_nil))) rfl))))
    (i_sone (i_ret (i_v 3)))) i_snil)
    (i_scons (i_st 6 nd__law_spoiled (i_call (IH 9 (by decide)) gd hr1 rfl Z.g9 Z.D9.kp (bd9 Z.D9) (passE tk) (i_cons (i_v 0) (i_cons (i_op (o_add rfl) (i_v 1) i_int) (i_cons (i_c1 rfl (c_len rfl rfl) rfl Z.b_len PyB.b_len (i_v 3)) i_nil))) rfl))
    (i_scons (i_st 7 nd__law_spoiled (i_ix (o_ix rfl rfl hr.units) (i_v 3) (i_v 6)))
    (i_scons (i_st 8 nd__law_spoiled (i_call (IH 9 (by decide)) gd hr1 rfl Z.g9 Z.D9.kp (bd9 Z.D9) (passE tk) (i_cons (i_v 0) (i_cons (i_op (o_add rfl) (i_v 1) i_int) (i_cons (i_op (o_add rfl) (i_c1 rfl (c_len rfl rfl) rfl Z.b_len PyB.b_len (i_v 7)) i_int) i_nil))) rfl))
    (i_scons (i_st 9 nd__law_spoiled (i_ix (o_ix rfl rfl hr.units) i_str (i_call (IH 9 (by decide)) gd hr1 rfl Z.g9 Z.D9.kp (bd9 Z.D9) (passE tk) (i_cons (i_v 0) (i_cons (i_op (o_add rfl) (i_v 1) i_int) (i_cons i_int i_nil))) rfl)))
    (i_scons (i_st 10 nd__law_spoiled i_str)
    (i_scons (i_sif (i_tcmp (o_eq rfl hr.units) (i_call (IH 9 (by decide)) gd hr1 rfl Z.g9 Z.D9.kp (bd9 Z.D9) (passE tk) (i_cons (i_v 0) (i_cons (i_op (o_add rfl) (i_v 1) i_int) (i_cons i_int i_nil))) rfl) i_int) (i_sone (i_st 9 nd__law_spoiled (i_ix (o_ix rfl rfl hr.units) (i_v 10) (i_call (IH 9 (by decide)) gd hr1 rfl Z.g9 Z.D9.kp (bd9 Z.D9) (passE tk) (i_cons (i_v 0) (i_cons (i_op (o_add rfl) (i_v 1) i_int) (i_cons i_int i_nil))) rfl)))) i_snil)
    (i_scons (i_sif (i_tcmp (o_eq rfl hr.units) (i_v 5) i_int) (i_sone (i_expr (i_insert rfl rfl (i_v 3) (i_call (IH 9 (by decide)) gd hr1 rfl Z.g9 Z.D9.kp (bd9 Z.D9) (passE tk) (i_cons (i_v 0) (i_cons (i_op (o_add rfl) (i_v 1) i_int) (i_cons (i_op (o_add rfl) (i_c1 rfl (c_len rfl rfl) rfl Z.b_len PyB.b_len (i_v 3)) i_int) i_nil))) rfl) (i_v 7)))) i_snil)
    (i_scons (i_sif (i_tcmp (o_eq rfl hr.units) (i_v 5) i_int) (i_sone (i_expr (i_popAt rfl rfl (i_v 3) (i_v 6)))) i_snil)
    (i_scons (i_sif (i_tcmp (o_eq rfl hr.units) (i_v 5) i_int) (i_sone (i_put rfl rfl hr.units (i_v 3) (i_v 6) (i_op (o_add rfl) (i_op (o_add rfl) (i_slS (i_v 7) i_pn (i_ps (i_v 8))) (i_v 9)) (i_slS (i_v 7) (i_ps (i_v 8)) i_pn)))) i_snil)
    (i_scons (i_sif (i_tcmp (o_eq rfl hr.units) (i_v 5) i_int) (i_sone (i_put rfl rfl hr.units (i_v 3) (i_v 6) (i_op (o_add rfl) (i_slS (i_v 7) i_pn (i_ps (i_v 8))) (i_slS (i_v 7) (i_ps (i_op (o_add rfl) (i_v 8) i_int)) i_pn)))) i_snil)
    (i_scons (i_sif (i_tcmp (o_eq rfl hr.units) (i_v 5) i_int) (i_sone (i_put rfl rfl hr.units (i_v 3) (i_v 6) (i_op (o_add rfl) (i_op (o_add rfl) (i_slS (i_v 7) i_pn (i_ps (i_v 8))) (i_v 9)) (i_slS (i_v 7) (i_ps (i_op (o_add rfl) (i_v 8) i_int)) i_pn)))) i_snil)
    (i_scons (i_sif (i_tcmp (o_eq rfl hr.units) (i_v 5) i_int) (i_scons (i_st 11 nd__law_spoiled (i_op (o_add rfl) (i_new (i_split (i_v 7) i_str)) (i_op o_rep (i_new (i_lstF (i_cons i_str i_nil))) (i_call (IH 9 (by decide)) gd hr1 rfl Z.g9 Z.D9.kp (bd9 Z.D9) (passE tk) (i_cons (i_v 0) (i_cons (i_op (o_add rfl) (i_v 1) i_int) (i_cons i_int i_nil))) rfl))))
    (i_scons (i_st 12 nd__law_spoiled (i_new (i_lstF (i_cons i_str (i_cons i_str (i_cons i_str (i_cons i_str (i_cons i_str (i_cons i_str (i_cons i_str (i_cons i_str (i_cons i_str (i_cons i_str i_nil)))))))))))))
    (i_scons (i_put rfl rfl hr.units (i_v 11) (i_call (IH 9 (by decide)) gd hr1 rfl Z.g9 Z.D9.kp (bd9 Z.D9) (passE tk) (i_cons (i_v 0) (i_cons (i_op (o_add rfl) (i_v 1) i_int) (i_cons (i_c1 rfl (c_len rfl rfl) rfl Z.b_len PyB.b_len (i_v 11)) i_nil))) rfl) (i_ix (o_ix rfl rfl hr.units) (i_v 12) (i_call (IH 9 (by decide)) gd hr1 rfl Z.g9 Z.D9.kp (bd9 Z.D9) (passE tk) (i_cons (i_v 0) (i_cons (i_op (o_add rfl) (i_v 1) i_int) (i_cons i_int i_nil))) rfl)))
    (i_sone (i_put rfl rfl hr.units (i_v 3) (i_v 6) (i_join rfl i_str (i_lOf (i_v 11)))))))) i_snil)
    (i_sone (i_ret (i_v 3)))))))))))))))))))))
theorem q12_1 (d : Nat) : runG gcs T (d + 1) 12 = fun ws M => if gcs 12 then gcO M (Sw.body 2 (b12 (runG gcs T d)) ws M) else Sw.body 2 (b12 (runG gcs T d)) ws M := rfl
theorem q12_2 : PS 12 = P__law_figures := rfl
theorem q12_3 : N__law_figures.length = 2 := rfl
theorem q12_4 : (PS 12).length = 1 := rfl
theorem ok12 {d : Nat} (Z : Fx K mg a fd cls) (IH : ∀ i, i < 20 → Good P w K mg base a fd cls d i) : Good P w K mg base a fd cls (d + 1) 12 := by
  refine FnG.like (i_defG (k := 2 * d + 3) (C := ⟨K, w, cls⟩) (gcs 12) 2 1 (b12 (runG gcs T d)) Z.D12 sc__law_figures q12_3 rfl fun cdv A outer s H E gd hr => ?_) q12_2 (q12_1 d) q12_4
  have hr1 := hr.mono (Nat.le_succ (2 * d + 2))
  have tk : Takes (cxOf (L2.CX P w) P w K mg base N__law_figures "_law_figures" (defScope st_12) (a 12) cdv A outer s H E) (fun cls d _ H => E cls d H) := takes_of rfl rfl rfl rfl
  have po := passes_of (X := cxOf (L2.CX P w) P w K mg base N__law_figures "_law_figures" (defScope st_12) (a 12) cdv A outer s H E) rfl
  unfold b12
  exact (i_scons (i_for po rfl (i_seq rfl (i_v 0)) (i_g 1 nd__law_figures) (i_sone (i_sif (i_tcmp (o_ni rfl rfl hr.units) (i_v 1) i_str) (i_sone (i_ret i_bl)) i_snil)))
    (i_sone (i_ret (i_and (i_cmp (o_ne rfl hr.units) (i_v 0) i_str) (i_one (i_or (i_cmp (o_ne rfl hr.units) (i_ix (o_ix rfl rfl hr.units) (i_v 0) i_int) i_str) (i_one (i_cmp (o_eq rfl hr.units) (i_v 0) i_str))))))))
theorem q13_1 (d : Nat) : runG gcs T (d + 1) 13 = fun ws M => if gcs 13 then gcO M (Sw.body 6 (b13 (runG gcs T d)) ws M) else Sw.body 6 (b13 (runG gcs T d)) ws M := rfl
theorem q13_2 : PS 13 = P__law_fraction := rfl
theorem q13_3 : N__law_fraction.length = 6 := rfl
theorem q13_4 : (PS 13).length = 1 := rfl
theorem ok13 {d : Nat} (Z : Fx K mg a fd cls) (IH : ∀ i, i < 20 → Good P w K mg base a fd cls d i) : Good P w K mg base a fd cls (d + 1) 13 := by
  refine FnG.like (i_defG (k := 2 * d + 3) (C := ⟨K, w, cls⟩) (gcs 13) 6 1 (b13 (runG gcs T d)) Z.D13 sc__law_fraction q13_3 rfl fun cdv A outer s H E gd hr => ?_) q13_2 (q13_1 d) q13_4
  have hr1 := hr.mono (Nat.le_succ (2 * d + 2))
  have tk : Takes (cxOf (L2.CX P w) P w K mg base N__law_fraction "_law_fraction" (defScope st_13) (a 13) cdv A outer s H E) (fun cls d _ H => E cls d H) := takes_of rfl rfl rfl rfl
  have po := passes_of (X := cxOf (L2.CX P w) P w K mg base N__law_fraction "_law_fraction" (defScope st_13) (a 13) cdv A outer s H E) rfl
  unfold b13
  exact (i_scons (i_st 1 nd__law_fraction (i_new (i_split (i_v 0) i_str)))
    (i_scons (i_st 2 nd__law_fraction (i_if (i_tcmp (o_eq rfl hr.units) (i_slS (i_ix (o_ix rfl rfl hr.units) (i_v 1) i_int) i_pn (i_ps i_int)) i_str) (i_slS (i_ix (o_ix rfl rfl hr.units) (i_v 1) i_int) (i_ps i_int) i_pn) (i_ix (o_ix rfl rfl hr.units) (i_v 1) i_int)))
    (i_scons (i_sif (PW.pt (i_tor (i_tcmp o_gt (i_c1 rfl (c_len rfl rfl) rfl Z.b_len PyB.b_len (i_v 1)) i_int) (i_tor (i_tnot (i_t (i_call (IH 12 (by decide)) gd hr1 rfl Z.g12 Z.D12.kp (bd12 Z.D12) (passE tk) (i_cons (i_v 2) i_nil) rfl))) (i_tor1 (i_tcmp (o_eq rfl hr.units) (i_ix (o_ix rfl rfl hr.units) (i_v 1) i_int) i_str))))) (i_sone (i_ret i_non)) i_snil)
    (i_scons (i_sif (i_tcmp (o_eq rfl hr.units) (i_c1 rfl (c_len rfl rfl) rfl Z.b_len PyB.b_len (i_v 1)) i_int) (i_sone (i_ret (i_tup (i_cons (i_intT rfl Z.b_int PyB.b_int (i_ix (o_ix rfl rfl hr.units) (i_v 1) i_int)) (i_cons i_int i_nil))))) i_snil)
    (i_scons (i_sif (PW.pt (i_tor (i_tnot (i_t (i_call (IH 12 (by decide)) gd hr1 rfl Z.g12 Z.D12.kp (bd12 Z.D12) (passE tk) (i_cons (i_ix (o_ix rfl rfl hr.units) (i_v 1) i_int) i_nil) rfl))) (i_tor (i_tcmp (o_lt rfl hr.units) (i_intT rfl Z.b_int PyB.b_int (i_ix (o_ix rfl rfl hr.units) (i_v 1) i_int)) i_int) (i_tor1 (i_tcmp (o_eq rfl hr.units) (i_intT rfl Z.b_int PyB.b_int (i_v 2)) i_int))))) (i_sone (i_ret i_non)) i_snil)
    (i_scons (i_st 3 nd__law_fraction (i_intT rfl Z.b_int PyB.b_int (i_v 2)))
    (i_scons (i_st 4 nd__law_fraction (i_intT rfl Z.b_int PyB.b_int (i_ix (o_ix rfl rfl hr.units) (i_v 1) i_int)))
    (i_scons (i_while po (i_tcmp o_gt (i_v 4) i_int) (i_scons (i_st 5 nd__law_fraction (i_op (o_mod) (i_v 3) (i_v 4)))
    (i_scons (i_st 3 nd__law_fraction (i_v 4))
    (i_sone (i_st 4 nd__law_fraction (i_v 5))))))
    (i_sone (i_ret (i_if (i_tcmp (o_eq rfl hr.units) (i_v 3) i_int) (i_tup (i_cons (i_intT rfl Z.b_int PyB.b_int (i_ix (o_ix rfl rfl hr.units) (i_v 1) i_int)) (i_cons (i_intT rfl Z.b_int PyB.b_int (i_ix (o_ix rfl rfl hr.units) (i_v 1) i_int)) i_nil))) i_non)))))))))))
theorem q14_1 (d : Nat) : runG gcs T (d + 1) 14 = fun ws M => if gcs 14 then gcO M (Sw.body 2 (b14 (runG gcs T d)) ws M) else Sw.body 2 (b14 (runG gcs T d)) ws M := rfl
theorem q14_2 : PS 14 = P__law_is_name := rfl
theorem q14_3 : N__law_is_name.length = 2 := rfl
theorem q14_4 : (PS 14).length = 1 := rfl
theorem ok14 {d : Nat} (Z : Fx K mg a fd cls) (IH : ∀ i, i < 20 → Good P w K mg base a fd cls d i) : Good P w K mg base a fd cls (d + 1) 14 := by
  refine FnG.like (i_defG (k := 2 * d + 3) (C := ⟨K, w, cls⟩) (gcs 14) 2 1 (b14 (runG gcs T d)) Z.D14 sc__law_is_name q14_3 rfl fun cdv A outer s H E gd hr => ?_) q14_2 (q14_1 d) q14_4
  have hr1 := hr.mono (Nat.le_succ (2 * d + 2))
  have tk : Takes (cxOf (L2.CX P w) P w K mg base N__law_is_name "_law_is_name" (defScope st_14) (a 14) cdv A outer s H E) (fun cls d _ H => E cls d H) := takes_of rfl rfl rfl rfl
  have po := passes_of (X := cxOf (L2.CX P w) P w K mg base N__law_is_name "_law_is_name" (defScope st_14) (a 14) cdv A outer s H E) rfl
  unfold b14
  exact (i_scons (i_for po rfl (i_seq rfl (i_v 0)) (i_g 1 nd__law_is_name) (i_sone (i_sif (i_tcmp (o_ni rfl rfl hr.units) (i_v 1) i_str) (i_sone (i_ret i_bl)) i_snil)))
    (i_sone (i_ret (i_chainV (o_lt rfl hr.units) (o_lt rfl hr.units) i_int (i_c1 rfl (c_len rfl rfl) rfl Z.b_len PyB.b_len (i_v 0)) i_int))))
theorem q15_1 (d : Nat) : runG gcs T (d + 1) 15 = fun ws M => if gcs 15 then gcO M (Sw.body 4 (b15 (runG gcs T d)) ws M) else Sw.body 4 (b15 (runG gcs T d)) ws M := rfl
theorem q15_2 : PS 15 = P__law_line := rfl
theorem q15_3 : N__law_line.length = 4 := rfl
theorem q15_4 : (PS 15).length = 1 := rfl
theorem ok15 {d : Nat} (Z : Fx K mg a fd cls) (IH : ∀ i, i < 20 → Good P w K mg base a fd cls d i) : Good P w K mg base a fd cls (d + 1) 15 := by
  refine FnG.like (i_defG (k := 2 * d + 3) (C := ⟨K, w, cls⟩) (gcs 15) 4 1 (b15 (runG gcs T d)) Z.D15 sc__law_line q15_3 rfl fun cdv A outer s H E gd hr => ?_) q15_2 (q15_1 d) q15_4
  have hr1 := hr.mono (Nat.le_succ (2 * d + 2))
  have tk : Takes (cxOf (L2.CX P w) P w K mg base N__law_line "_law_line" (defScope st_15) (a 15) cdv A outer s H E) (fun cls d _ H => E cls d H) := takes_of rfl rfl rfl rfl
  have po := passes_of (X := cxOf (L2.CX P w) P w K mg base N__law_line "_law_line" (defScope st_15) (a 15) cdv A outer s H E) rfl
  unfold b15
  exact (i_scons (i_st 1 nd__law_line (i_new (i_split (i_v 0) i_str)))
    (i_scons (i_sif (PW.pt (i_tor (i_tcmp (o_lt rfl hr.units) (i_c1 rfl (c_len rfl rfl) rfl Z.b_len PyB.b_len (i_v 1)) i_int) (i_tor1 (i_tnot (i_t (i_call (IH 14 (by decide)) gd hr1 rfl Z.g14 Z.D14.kp (bd14 Z.D14) (passE tk) (i_cons (i_ix (o_ix rfl rfl hr.units) (i_v 1) i_int) i_nil) rfl)))))) (i_sone (i_ret i_non)) i_snil)
    (i_scons (i_sif (i_tcmp (o_eq rfl hr.units) (i_ix (o_ix rfl rfl hr.units) (i_v 1) i_int) i_str) (i_sone (i_ret (i_if (i_tcmp (o_eq rfl hr.units) (i_c1 rfl (c_len rfl rfl) rfl Z.b_len PyB.b_len (i_v 1)) i_int) (i_tup (i_cons i_int (i_cons (i_ix (o_ix rfl rfl hr.units) (i_v 1) i_int) (i_cons i_bl i_nil)))) i_non))) i_snil)
    (i_scons (i_stLc 2 (own := [("word", 3)]) rfl nd__law_line (i_iNew rfl (i_sl (i_v 1) (i_ps i_int) i_pn)) (blkOk_by (N := N__law_line) (sc := defScope st_15) (by decide +kernel)) (fun _ _ _ _ _ => (i_g 3 nd__law_line)) (fun _ _ _ _ _ => (i_ts1 (i_tcmp (o_ne rfl hr.units) (i_v 3) i_str))) (fun _ _ _ _ _ => (i_call (IH 13 (by decide)) gd hr1 rfl Z.g13 Z.D13.kp (bd13 Z.D13) passF (i_cons (i_v 3) i_nil) rfl)) (by decide) (by decide) (sw_true rfl rfl rfl (by decide +kernel)))
    (i_scons (i_sif (PW.pt (i_tor (i_tcmp (o_in rfl rfl hr.units) i_non (i_v 2)) (i_tor1 (PW.pt (i_tand (i_tcmp (o_eq rfl hr.units) (i_ix (o_ix rfl rfl hr.units) (i_v 1) i_int) i_str) (i_tand1 (PW.pt (i_tor (i_tcmp (o_ne rfl hr.units) (i_c1 rfl (c_len rfl rfl) rfl Z.b_len PyB.b_len (i_v 1)) i_int) (i_tor1 (i_tcmp (o_ne rfl hr.units) (i_c1 rfl (c_len rfl rfl) rfl Z.b_len PyB.b_len (i_v 2)) i_int)))))))))) (i_sone (i_ret i_non)) i_snil)
    (i_scons (i_sif (i_tcmp (o_eq rfl hr.units) (i_ix (o_ix rfl rfl hr.units) (i_v 1) i_int) i_str) (i_sone (i_ret (i_tup (i_cons i_int (i_cons (i_ix (o_ix rfl rfl hr.units) (i_v 1) i_int) (i_cons (i_ix (o_ix rfl rfl hr.units) (i_v 2) i_int) i_nil)))))) i_snil)
    (i_scons (i_sif (PW.pt (i_tor (i_tcmp (o_ne rfl hr.units) (i_ix (o_ix rfl rfl hr.units) (i_v 1) i_int) i_str) (i_tor (i_tcmp (o_lt rfl hr.units) (i_c1 rfl (c_len rfl rfl) rfl Z.b_len PyB.b_len (i_v 1)) i_int) (i_tor (i_tcmp o_gt (i_c1 rfl (c_len rfl rfl) rfl Z.b_len PyB.b_len (i_v 1)) i_int) (i_tor (i_tcmp (o_ne rfl hr.units) (i_ix (o_ix rfl rfl hr.units) (i_v 1) (i_un u_neg i_int)) i_str) (i_tor1 (i_tcmp (o_ne rfl hr.units) (i_c1 rfl (c_len rfl rfl) rfl Z.b_len PyB.b_len (i_v 2)) (i_op (o_sub) (i_c1 rfl (c_len rfl rfl) rfl Z.b_len PyB.b_len (i_v 1)) i_int)))))))) (i_sone (i_ret i_non)) i_snil)
    (i_sone (i_ret (i_tup (i_cons i_int (i_cons (i_tup (i_cons (i_ix (o_ix rfl rfl hr.units) (i_v 1) i_int) (i_cons (i_tuple rfl rfl Z.b_tuple (i_ofF (i_sl (i_v 2) i_pn (i_ps (i_un u_neg i_int))))) i_nil))) (i_cons (i_ix (o_ix rfl rfl hr.units) (i_v 2) (i_un u_neg i_int)) i_nil)))))))))))))
theorem q16_1 (d : Nat) : runG gcs T (d + 1) 16 = fun ws M => if gcs 16 then gcO M (Sw.body 4 (b16 (runG gcs T d)) ws M) else Sw.body 4 (b16 (runG gcs T d)) ws M := rfl
theorem q16_2 : PS 16 = P__law_due := rfl
theorem q16_3 : N__law_due.length = 4 := rfl
theorem q16_4 : (PS 16).length = 1 := rfl
theorem ok16 {d : Nat} (Z : Fx K mg a fd cls) (IH : ∀ i, i < 20 → Good P w K mg base a fd cls d i) : Good P w K mg base a fd cls (d + 1) 16 := by
  refine FnG.like (i_defG (k := 2 * d + 3) (C := ⟨K, w, cls⟩) (gcs 16) 4 1 (b16 (runG gcs T d)) Z.D16 sc__law_due q16_3 rfl fun cdv A outer s H E gd hr => ?_) q16_2 (q16_1 d) q16_4
  have hr1 := hr.mono (Nat.le_succ (2 * d + 2))
  have tk : Takes (cxOf (L2.CX P w) P w K mg base N__law_due "_law_due" (defScope st_16) (a 16) cdv A outer s H E) (fun cls d _ H => E cls d H) := takes_of rfl rfl rfl rfl
  have po := passes_of (X := cxOf (L2.CX P w) P w K mg base N__law_due "_law_due" (defScope st_16) (a 16) cdv A outer s H E) rfl
  unfold b16
  exact (i_scons (i_st 1 nd__law_due (i_tup (i_cons i_dic (i_cons i_dic (i_cons i_dic i_nil)))))
    (i_scons (i_for po rfl (i_range1 rfl Z.b_range (i_c1 rfl (c_len rfl rfl) rfl Z.b_len PyB.b_len (i_v 0))) (i_g 2 nd__law_due) (i_scons (i_st 3 nd__law_due (i_call (IH 15 (by decide)) gd hr1 rfl Z.g15 Z.D15.kp (bd15 Z.D15) (passE tk) (i_cons (i_ix (o_ix rfl rfl hr.units) (i_v 0) (i_v 2)) i_nil) rfl))
    (i_scons (i_sif (PW.pt (i_tor (i_tisN (i_v 3)) (i_tor1 (i_tcmp (o_in rfl rfl hr.units) (i_ix (o_ix rfl rfl hr.units) (i_v 3) i_int) (i_ix (o_ix rfl rfl hr.units) (i_v 1) (i_ix (o_ix rfl rfl hr.units) (i_v 3) i_int)))))) (i_sone (i_ret (i_op (o_add rfl) i_str (i_strI rfl Z.b_str PyB.b_str (i_v 2))))) i_snil)
    (i_sone (i_put rfl rfl hr.units (i_ix (o_ix rfl rfl hr.units) (i_v 1) (i_ix (o_ix rfl rfl hr.units) (i_v 3) i_int)) (i_ix (o_ix rfl rfl hr.units) (i_v 3) i_int) (i_ix (o_ix rfl rfl hr.units) (i_v 3) i_int))))))
    (i_sone (i_ret (i_v 1)))))
theorem q17_1 (d : Nat) : runG gcs T (d + 1) 17 = fun ws M => if gcs 17 then gcO M (Sw.body 2 (b17 (runG gcs T d)) ws M) else Sw.body 2 (b17 (runG gcs T d)) ws M := rfl
theorem q17_2 : PS 17 = P__law_refusal := rfl
theorem q17_3 : N__law_refusal.length = 2 := rfl
theorem q17_4 : (PS 17).length = 1 := rfl
theorem ok17 {d : Nat} (Z : Fx K mg a fd cls) (IH : ∀ i, i < 20 → Good P w K mg base a fd cls d i) : Good P w K mg base a fd cls (d + 1) 17 := by
  refine FnG.like (i_defG (k := 2 * d + 3) (C := ⟨K, w, cls⟩) (gcs 17) 2 1 (b17 (runG gcs T d)) Z.D17 sc__law_refusal q17_3 rfl fun cdv A outer s H E gd hr => ?_) q17_2 (q17_1 d) q17_4
  have hr1 := hr.mono (Nat.le_succ (2 * d + 2))
  have tk : Takes (cxOf (L2.CX P w) P w K mg base N__law_refusal "_law_refusal" (defScope st_17) (a 17) cdv A outer s H E) (fun cls d _ H => E cls d H) := takes_of rfl rfl rfl rfl
  have po := passes_of (X := cxOf (L2.CX P w) P w K mg base N__law_refusal "_law_refusal" (defScope st_17) (a 17) cdv A outer s H E) rfl
  unfold b17
  exact (i_scons (i_sif (PW.pt (i_tor (i_tisN (i_v 0)) (i_tor1 (i_tnot (i_t (i_isE rfl Z.b_isinstance (pe_bltn (v := .ty "ValueError") rfl Z.b_ValueError PyB.b_ValueError rfl) (fun u h => h) Z.kE_ValueError (i_v 0))))))) (i_sone (i_ret i_str)) i_snil)
    (i_scons (i_st 1 nd__law_refusal (i_new (i_lstF i_nil)))
    (i_scons (i_sif (i_t (i_isE rfl Z.b_isinstance (pe_glob rfl Z.gc_NoLevel (v := .ref _) rfl) (fun u h => h) Z.kE_NoLevel (i_v 0))) (i_sone (i_expr (i_append rfl rfl (i_v 1) i_str))) i_snil)
    (i_scons (i_sif (i_t (i_isE rfl Z.b_isinstance (pe_glob rfl Z.gc_NoWish (v := .ref _) rfl) (fun u h => h) Z.kE_NoWish (i_v 0))) (i_sone (i_expr (i_append rfl rfl (i_v 1) i_str))) i_snil)
    (i_scons (i_sif (i_t (i_isE rfl Z.b_isinstance (pe_glob rfl Z.gc_NoAnswer (v := .ref _) rfl) (fun u h => h) Z.kE_NoAnswer (i_v 0))) (i_sone (i_expr (i_append rfl rfl (i_v 1) i_str))) i_snil)
    (i_scons (i_sif (i_t (i_isE rfl Z.b_isinstance (pe_glob rfl Z.gc_NoLine (v := .ref _) rfl) (fun u h => h) Z.kE_NoLine (i_v 0))) (i_sone (i_expr (i_append rfl rfl (i_v 1) i_str))) i_snil)
    (i_scons (i_sif (i_t (i_isE rfl Z.b_isinstance (pe_glob rfl Z.gc_NoText (v := .ref _) rfl) (fun u h => h) Z.kE_NoText (i_v 0))) (i_sone (i_expr (i_append rfl rfl (i_v 1) (i_op (o_add rfl) i_str (i_strI rfl Z.b_str PyB.b_str (i_exF (c := 2) (f := [97, 116]) rfl Z.xf_NoText Z.xn_NoText rfl (i_v 0))))))) i_snil)
    (i_scons (i_sif (i_t (i_isET rfl Z.b_isinstance (.cons rfl Z.gc_BadStep (.cons rfl Z.gc_NoPaper (.cons rfl Z.gc_NoShare (.cons rfl Z.gc_NoStep .nil)))) (by simp) Z.kT_0 (i_v 0))) (i_sone (i_expr (i_append rfl rfl (i_v 1) i_str))) i_snil)
    (i_sone (i_ret (i_if (i_tcmp (o_eq rfl hr.units) (i_c1 rfl (c_len rfl rfl) rfl Z.b_len PyB.b_len (i_v 1)) i_int) (i_ix (o_ix rfl rfl hr.units) (i_v 1) i_int) i_str)))))))))))
theorem q18_1 (d : Nat) : runG gcs T (d + 1) 18 = fun ws M => if gcs 18 then gcO M (Sw.body 4 (b18 (runG gcs T d)) ws M) else Sw.body 4 (b18 (runG gcs T d)) ws M := rfl
theorem q18_2 : PS 18 = P__law_asked := rfl
theorem q18_3 : N__law_asked.length = 4 := rfl
theorem q18_4 : (PS 18).length = 1 := rfl
theorem ok18 {d : Nat} (Z : Fx K mg a fd cls) (IH : ∀ i, i < 20 → Good P w K mg base a fd cls d i) : Good P w K mg base a fd cls (d + 1) 18 := by
  refine FnG.like (i_defG (k := 2 * d + 3) (C := ⟨K, w, cls⟩) (gcs 18) 4 1 (b18 (runG gcs T d)) Z.D18 sc__law_asked q18_3 rfl fun cdv A outer s H E gd hr => ?_) q18_2 (q18_1 d) q18_4
  have hr1 := hr.mono (Nat.le_succ (2 * d + 2))
  have tk : Takes (cxOf (L2.CX P w) P w K mg base N__law_asked "_law_asked" (defScope st_18) (a 18) cdv A outer s H E) (fun cls d _ H => E cls d H) := takes_of rfl rfl rfl rfl
  have po := passes_of (X := cxOf (L2.CX P w) P w K mg base N__law_asked "_law_asked" (defScope st_18) (a 18) cdv A outer s H E) rfl
  unfold b18
  exact (i_scons (i_st 1 nd__law_asked i_non)
    (i_scons (i_st 2 nd__law_asked i_non)
    (i_scons (i_tryAs 3 rfl rfl nd__law_asked ⟨rfl, by decide, .inl Z.gc_WishError⟩ tk Z.xm_WishError (fun pn xe σ0 E1 hx => i_sone1 (i_st1 1 nd__law_asked (i_call1 (IH 8 (by decide)) gd hr1 rfl Z.g8 Z.D8.kp (bd8 Z.D8) hx (i_cons (i_v 0) i_nil) rfl))) (fun ax px => (i_sone (i_st 2 nd__law_asked (i_v 3)))))
    (i_sone (i_ret (i_if (i_tisN (i_v 2)) (i_v 1) (i_call (IH 17 (by decide)) gd hr1 rfl Z.g17 Z.D17.kp (bd17 Z.D17) (passE tk) (i_cons (i_v 2) i_nil) rfl)))))))
theorem q19_1 (d : Nat) : runG gcs T (d + 1) 19 = fun ws M => if gcs 19 then gcO M (Sw.body 9 (b19 (runG gcs T d)) ws M) else Sw.body 9 (b19 (runG gcs T d)) ws M := rfl
theorem q19_2 : PS 19 = P_law := rfl
theorem q19_3 : N_law.length = 9 := rfl
theorem q19_4 : (PS 19).length = 1 := rfl
theorem ok19 {d : Nat} (Z : Fx K mg a fd cls) (IH : ∀ i, i < 20 → Good P w K mg base a fd cls d i) : Good P w K mg base a fd cls (d + 1) 19 := by
  refine FnG.like (i_defG (k := 2 * d + 3) (C := ⟨K, w, cls⟩) (gcs 19) 9 1 (b19 (runG gcs T d)) Z.D19 sc_law q19_3 rfl fun cdv A outer s H E gd hr => ?_) q19_2 (q19_1 d) q19_4
  have hr1 := hr.mono (Nat.le_succ (2 * d + 2))
  have tk : Takes (cxOf (L2.CX P w) P w K mg base N_law "law" (defScope st_19) (a 19) cdv A outer s H E) (fun cls d _ H => E cls d H) := takes_of rfl rfl rfl rfl
  have po := passes_of (X := cxOf (L2.CX P w) P w K mg base N_law "law" (defScope st_19) (a 19) cdv A outer s H E) rfl
  unfold b19
  exact (i_scons (i_st 1 nd_law (i_call (IH 10 (by decide)) gd hr1 rfl Z.g10 Z.D10.kp (bd10 Z.D10) (passE tk) (i_cons (i_v 0) i_nil) rfl))
    (i_scons (i_st 2 nd_law (i_call (IH 16 (by decide)) gd hr1 rfl Z.g16 Z.D16.kp (bd16 Z.D16) (passE tk) (i_cons (i_v 1) i_nil) rfl))
    (i_scons (i_sif (PW.pt (i_tor (i_tnot (i_t (i_isA rfl rfl Z.b_isinstance rfl Z.b_tuple PyB.b_tuple kits_tuple (i_v 2)))) (i_tor1 (i_tcmp (o_neT rfl rfl hr.units) (i_call (IH 18 (by decide)) gd hr1 rfl Z.g18 Z.D18.kp (bd18 Z.D18) (passE tk) (i_cons (i_new (i_list rfl rfl Z.b_list (i_lOf (i_v 1)))) i_nil) rfl) (i_v 2))))) (i_sone (i_ret i_bl)) i_snil)
    (i_scons (i_st 3 nd_law (i_v 1))
    (i_scons (i_for po rfl (i_range1 rfl Z.b_range (i_op (o_add rfl) i_int (i_call (IH 9 (by decide)) gd hr1 rfl Z.g9 Z.D9.kp (bd9 Z.D9) (passE tk) (i_cons (i_v 0) (i_cons i_int (i_cons i_int i_nil))) rfl))) (i_g 4 nd_law) (i_sone (i_st 3 nd_law (i_call (IH 11 (by decide)) gd hr1 rfl Z.g11 Z.D11.kp (bd11 Z.D11) (passE tk) (i_cons (i_v 0) (i_cons (i_op (o_add rfl) i_int (i_op (o_mul) i_int (i_v 4))) (i_cons (i_v 3) i_nil))) rfl))))
    (i_scons (i_st 5 nd_law (i_new (i_list rfl rfl Z.b_list (i_lOf (i_v 3)))))
    (i_scons (i_sif (PW.pt (i_tor (i_tcmp (o_neT rfl rfl hr.units) (i_call (IH 18 (by decide)) gd hr1 rfl Z.g18 Z.D18.kp (bd18 Z.D18) (passE tk) (i_cons (i_v 5) i_nil) rfl) (i_call (IH 16 (by decide)) gd hr1 rfl Z.g16 Z.D16.kp (bd16 Z.D16) (passE tk) (i_cons (i_v 3) i_nil) rfl)) (i_tor (i_tcmp (o_ne rfl hr.units) (i_v 5) (i_v 3)) (i_tor1 (i_tcmp (o_neT rfl rfl hr.units) (i_call (IH 18 (by decide)) gd hr1 rfl Z.g18 Z.D18.kp (bd18 Z.D18) (passE tk) (i_cons (i_new (i_list rfl rfl Z.b_list (i_lOf (i_v 1)))) i_nil) rfl) (i_v 2)))))) (i_sone (i_ret i_bl)) i_snil)
    (i_scons (i_st 6 nd_law (i_new (i_lstF (i_cons (i_new (i_lstF (i_cons i_str i_nil))) (i_cons (i_new (i_lstF (i_cons i_str i_nil))) (i_cons (i_new (i_lstF (i_cons i_str i_nil))) (i_cons (i_new (i_lstF (i_cons i_str i_nil))) (i_cons (i_new (i_lstF (i_cons i_str i_nil))) i_nil))))))))
    (i_scons (i_st 6 nd_law (i_op (o_add rfl) (i_v 6) (i_new (i_lstF (i_cons (i_new (i_lstF (i_cons i_str (i_cons i_str i_nil)))) (i_cons (i_new (i_lstF (i_cons i_str i_nil))) (i_cons (i_new (i_lstF (i_cons i_str (i_cons i_str i_nil)))) (i_cons (i_new (i_lstF (i_cons i_str i_nil))) i_nil))))))))
    (i_scons (i_st 6 nd_law (i_op (o_add rfl) (i_v 6) (i_new (i_lstF (i_cons (i_new (i_lstF (i_cons i_str (i_cons i_str i_nil)))) i_nil)))))
    (i_scons (i_st 6 nd_law (i_op (o_add rfl) (i_v 6) (i_new (i_lstF (i_cons (i_new (i_lstF (i_cons i_str (i_cons i_str (i_cons i_str i_nil))))) (i_cons (i_new (i_lstF (i_cons i_str (i_cons i_str (i_cons i_str i_nil))))) i_nil))))))
    (i_scons (i_for po rfl (i_iNew rfl (i_lstF (i_cons i_str (i_cons i_str (i_cons i_str (i_cons i_str (i_cons i_str (i_cons i_str (i_cons i_str (i_cons i_str i_nil)))))))))) (i_g 7 nd_law) (i_sone (i_expr (i_append rfl rfl (i_v 6) (i_new (i_lstF (i_cons (i_v 7) i_nil)))))))
    (i_scons (i_for po rfl (i_iNew rfl (i_lstF (i_cons i_str (i_cons i_str (i_cons i_str (i_cons i_str (i_cons i_str (i_cons i_str (i_cons i_str i_nil))))))))) (i_g 7 nd_law) (i_sone (i_expr (i_append rfl rfl (i_v 6) (i_new (i_lstF (i_cons i_str (i_cons (i_v 7) i_nil))))))))
    (i_scons (i_for po rfl (i_iNew rfl (i_lstF (i_cons i_str (i_cons i_str (i_cons i_str (i_cons i_str (i_cons i_str i_nil))))))) (i_g 7 nd_law) (i_sone (i_expr (i_append rfl rfl (i_v 6) (i_new (i_lstF (i_cons i_str (i_cons (i_v 7) i_nil))))))))
    (i_scons (i_st 6 nd_law (i_op (o_add rfl) (i_v 6) (i_new (i_lstF (i_cons (i_new (i_lstF (i_cons i_str i_nil))) (i_cons (i_new (i_lstF (i_cons i_str i_nil))) (i_cons (i_new (i_lstF (i_cons i_str i_nil))) i_nil)))))))
    (i_sone (i_ret (i_cmp (o_ni rfl rfl hr.units) i_bl (i_new (i_lc (own := [("one", 8)]) rfl nd_law (i_seq rfl (i_v 6)) (blkOk_by (N := N_law) (sc := defScope st_19) (by decide +kernel)) (fun _ _ _ _ _ => (i_g 8 nd_law)) (fun _ _ _ _ _ => i_ts0) (fun _ _ _ _ _ => (i_cmp (o_eqT rfl rfl hr.units) (i_call (IH 18 (by decide)) gd hr1 rfl Z.g18 Z.D18.kp (bd18 Z.D18) passF (i_cons (i_new (i_list rfl rfl Z.b_list (i_lOf (i_v 8)))) i_nil) rfl) (i_call (IH 16 (by decide)) gd hr1 rfl Z.g16 Z.D16.kp (bd16 Z.D16) passF (i_cons (i_v 8) i_nil) rfl))) (by decide) (by decide)))))))))))))))))))))
theorem all_ok (Z : Fx K mg a fd cls) : ∀ (d i : Nat), i < 20 → Good P w K mg base a fd cls d i
  | 0, i, _ => fn_zero
  | d + 1, i, h => by
    have IH : ∀ i, i < 20 → Good P w K mg base a fd cls d i := all_ok Z d
    match i, h with
    | 0, _ => exact ok0 Z IH
    | 1, _ => exact ok1 Z IH
    | 2, _ => exact ok2 Z IH
    | 3, _ => exact ok3 Z IH
    | 4, _ => exact ok4 Z IH
    | 5, _ => exact ok5 Z IH
    | 6, _ => exact ok6 Z IH
    | 7, _ => exact ok7 Z IH
    | 8, _ => exact ok8 Z IH
    | 9, _ => exact ok9 Z IH
    | 10, _ => exact ok10 Z IH
    | 11, _ => exact ok11 Z IH
    | 12, _ => exact ok12 Z IH
    | 13, _ => exact ok13 Z IH
    | 14, _ => exact ok14 Z IH
    | 15, _ => exact ok15 Z IH
    | 16, _ => exact ok16 Z IH
    | 17, _ => exact ok17 Z IH
    | 18, _ => exact ok18 Z IH
    | 19, _ => exact ok19 Z IH
    | n + 20, h => exact absurd h (by omega)
end
end Sw.smallword_k85_lines_refused

set_option autoImplicit false
set_option Elab.async false
set_option linter.all false
set_option maxRecDepth 100000
set_option maxHeartbeats 0
/-! The head. -/
namespace Sw.smallword_k85_lines_refused
open PySem PySem.Spec PyProof.Rows L2
def dd0 : He.DefD := ⟨((("NoText" : Str), some ("__init__" : Str)) : Str × Option Str), "__init__", "NoText.__init__", defArgs st_0, defBody st_0, defScope st_0, [], []⟩
def dd1 : He.DefD := ⟨((("divisor" : Str), none) : Str × Option Str), "divisor", "divisor", defArgs st_1, defBody st_1, defScope st_1, [], []⟩
def dd2 : He.DefD := ⟨((("fraction" : Str), none) : Str × Option Str), "fraction", "fraction", defArgs st_2, defBody st_2, defScope st_2, [], []⟩
def dd3 : He.DefD := ⟨((("whole_in" : Str), none) : Str × Option Str), "whole_in", "whole_in", defArgs st_3, defBody st_3, defScope st_3, [], []⟩
def dd4 : He.DefD := ⟨((("fraction_in" : Str), none) : Str × Option Str), "fraction_in", "fraction_in", defArgs st_4, defBody st_4, defScope st_4, [], []⟩
def dd5 : He.DefD := ⟨((("is_name" : Str), none) : Str × Option Str), "is_name", "is_name", defArgs st_5, defBody st_5, defScope st_5, [], []⟩
def dd6 : He.DefD := ⟨((("call_in" : Str), none) : Str × Option Str), "call_in", "call_in", defArgs st_6, defBody st_6, defScope st_6, [], []⟩
def dd7 : He.DefD := ⟨((("line_in" : Str), none) : Str × Option Str), "line_in", "line_in", defArgs st_7, defBody st_7, defScope st_7, [], []⟩
def dd8 : He.DefD := ⟨((("read_world" : Str), none) : Str × Option Str), "read_world", "read_world", defArgs st_8, defBody st_8, defScope st_8, [], []⟩
def dd9 : He.DefD := ⟨((("_law_draw" : Str), none) : Str × Option Str), "_law_draw", "_law_draw", defArgs st_9, defBody st_9, defScope st_9, [], []⟩
def dd10 : He.DefD := ⟨((("_law_made" : Str), none) : Str × Option Str), "_law_made", "_law_made", defArgs st_10, defBody st_10, defScope st_10, [], []⟩
def dd11 : He.DefD := ⟨((("_law_spoiled" : Str), none) : Str × Option Str), "_law_spoiled", "_law_spoiled", defArgs st_11, defBody st_11, defScope st_11, [], []⟩
def dd12 : He.DefD := ⟨((("_law_figures" : Str), none) : Str × Option Str), "_law_figures", "_law_figures", defArgs st_12, defBody st_12, defScope st_12, [], []⟩
def dd13 : He.DefD := ⟨((("_law_fraction" : Str), none) : Str × Option Str), "_law_fraction", "_law_fraction", defArgs st_13, defBody st_13, defScope st_13, [], []⟩
def dd14 : He.DefD := ⟨((("_law_is_name" : Str), none) : Str × Option Str), "_law_is_name", "_law_is_name", defArgs st_14, defBody st_14, defScope st_14, [], []⟩
def dd15 : He.DefD := ⟨((("_law_line" : Str), none) : Str × Option Str), "_law_line", "_law_line", defArgs st_15, defBody st_15, defScope st_15, [], []⟩
def dd16 : He.DefD := ⟨((("_law_due" : Str), none) : Str × Option Str), "_law_due", "_law_due", defArgs st_16, defBody st_16, defScope st_16, [], []⟩
def dd17 : He.DefD := ⟨((("_law_refusal" : Str), none) : Str × Option Str), "_law_refusal", "_law_refusal", defArgs st_17, defBody st_17, defScope st_17, [], []⟩
def dd18 : He.DefD := ⟨((("_law_asked" : Str), none) : Str × Option Str), "_law_asked", "_law_asked", defArgs st_18, defBody st_18, defScope st_18, [], []⟩
def dd19 : He.DefD := ⟨((("law" : Str), none) : Str × Option Str), "law", "law", defArgs st_19, defBody st_19, defScope st_19, [], []⟩
def fn : List He.DefD := [dd0, dd1, dd2, dd3, dd4, dd5, dd6, dd7, dd8, dd9, dd10, dd11, dd12, dd13, dd14, dd15, dd16, dd17, dd18, dd19]
def fa : List He.Fa := [He.Fa.glo "divisor", He.Fa.glo "fraction", He.Fa.glo "whole_in", He.Fa.glo "fraction_in", He.Fa.glo "is_name", He.Fa.glo "call_in", He.Fa.glo "line_in", He.Fa.glo "read_world", He.Fa.glo "_law_draw", He.Fa.glo "_law_made", He.Fa.glo "_law_spoiled", He.Fa.glo "_law_figures", He.Fa.glo "_law_fraction", He.Fa.glo "_law_is_name", He.Fa.glo "_law_line", He.Fa.glo "_law_due", He.Fa.glo "_law_refusal", He.Fa.glo "_law_asked", He.Fa.glo "law", He.Fa.glo "WishError", He.Fa.glo "NoShare", He.Fa.glo "NoText", He.Fa.glo "NoStep", He.Fa.glo "BadStep", He.Fa.glo "NoPaper", He.Fa.glo "NoLevel", He.Fa.glo "NoWish", He.Fa.glo "NoAnswer", He.Fa.glo "NoLine", He.Fa.exm "NoText" "WishError" true, He.Fa.str "FIGURES" (tx [48, 49, 50, 51, 52, 53, 54, 55, 56, 57]), He.Fa.str "LETTERS" (tx [97, 98, 99, 100, 101, 102, 103, 104, 105, 106, 107, 108, 109, 110, 111, 112, 113, 114, 115, 116, 117, 118, 119, 120, 121, 122]), He.Fa.int "MOST_TERMS" (3), He.Fa.free "ValueError", He.Fa.free "abs", He.Fa.free "all", He.Fa.free "enumerate", He.Fa.free "int", He.Fa.free "isinstance", He.Fa.free "len", He.Fa.free "list", He.Fa.free "range", He.Fa.free "str", He.Fa.free "tuple", He.Fa.noat "NoText" "at"]
def fx : List Fy := [((fun K => excB K (He.ga K "NoText")) : Fy), (kitB1 "NoText" (.own "NoAnswer") false : Fy), (kitB1 "NoText" (.own "NoLevel") false : Fy), (kitB1 "NoText" (.own "NoLine") false : Fy), (kitB1 "NoText" (.own "NoText") true : Fy), (kitB1 "NoText" (.own "NoWish") false : Fy), (kitB1 "NoText" (.ty "ValueError") true : Fy), (kitBA "NoText" [("BadStep" : Str), ("NoPaper" : Str), ("NoShare" : Str), ("NoStep" : Str)] false : Fy), ((fun K => oexB K (He.ga K "NoText")) : Fy), ((iniB "NoText" (("NoText" : Str), some ("__init__" : Str))) : Fy), ((fun K => xfB K (He.ga K "NoText")) : Fy), ((fun K => winB K (He.ga K "WishError")) : Fy)]
abbrev R : PySem.W.OpenRow := PySem.W.OpenLaw.row PySem.Challenge.rw_smallword_k85_lines_refused
abbrev hk : PySem.W.Hook := hookX 6 fa fx fn
def ob (s : PySem.W.SharedT) : He.AlD := obsXG 6 fa fx fn (HandSHeadRun.getT s)
theorem ob_eq (s : PySem.W.SharedT) : ob s = hk.obs s.abs := obsXG_eq (HandSHeadRun.getT_eq s)
abbrev loose : List Str := [("divisor" : Str), ("fraction" : Str), ("whole_in" : Str), ("fraction_in" : Str), ("is_name" : Str), ("call_in" : Str), ("line_in" : Str), ("read_world" : Str), ("_law_draw" : Str), ("_law_made" : Str), ("_law_spoiled" : Str), ("_law_figures" : Str), ("_law_fraction" : Str), ("_law_is_name" : Str), ("_law_line" : Str), ("_law_due" : Str), ("_law_refusal" : Str), ("_law_asked" : Str), ("WishError" : Str), ("NoShare" : Str), ("NoText" : Str), ("NoStep" : Str), ("BadStep" : Str), ("NoPaper" : Str), ("NoLevel" : Str), ("NoWish" : Str), ("NoAnswer" : Str), ("NoLine" : Str), ("FIGURES" : Str), ("LETTERS" : Str), ("MOST_TERMS" : Str)]
theorem run (w : PySem.World) : HandSHeadRun.RunEq R (PySem.W.view R.prog [37]) hk ob 3000 loose w := by
  intro os
  kernel_rfl
def ats (i : Nat) : Str × Option Str := ([((("NoText" : Str), some ("__init__" : Str)) : Str × Option Str), ((("divisor" : Str), none) : Str × Option Str), ((("fraction" : Str), none) : Str × Option Str), ((("whole_in" : Str), none) : Str × Option Str), ((("fraction_in" : Str), none) : Str × Option Str), ((("is_name" : Str), none) : Str × Option Str), ((("call_in" : Str), none) : Str × Option Str), ((("line_in" : Str), none) : Str × Option Str), ((("read_world" : Str), none) : Str × Option Str), ((("_law_draw" : Str), none) : Str × Option Str), ((("_law_made" : Str), none) : Str × Option Str), ((("_law_spoiled" : Str), none) : Str × Option Str), ((("_law_figures" : Str), none) : Str × Option Str), ((("_law_fraction" : Str), none) : Str × Option Str), ((("_law_is_name" : Str), none) : Str × Option Str), ((("_law_line" : Str), none) : Str × Option Str), ((("_law_due" : Str), none) : Str × Option Str), ((("_law_refusal" : Str), none) : Str × Option Str), ((("_law_asked" : Str), none) : Str × Option Str), ((("law" : Str), none) : Str × Option Str)] : List (Str × Option Str)).getD i ("", none)
def cn (i : Nat) : Str := ([("WishError" : Str), ("NoShare" : Str), ("NoText" : Str), ("NoStep" : Str), ("BadStep" : Str), ("NoPaper" : Str), ("NoLevel" : Str), ("NoWish" : Str), ("NoAnswer" : Str), ("NoLine" : Str)] : List Str).getD i ""
theorem facts {K : PySem.W.Frag} {h : Heap} {mg : Str → Option Value} (X : K.In h) (G : h.Ns mainGlobals mg) (c : SaysX fa fx fn K) : ∃ fd : Nat → FuncData, Fx K mg (fun i => He.fAd K (ats i)) fd (fun i => He.ga K (cn i)) := by
  obtain ⟨fd0, F0⟩ := c.def_ 0 (d := dd0) rfl
  obtain ⟨fd1, F1⟩ := c.def_ 1 (d := dd1) rfl
  obtain ⟨fd2, F2⟩ := c.def_ 2 (d := dd2) rfl
  obtain ⟨fd3, F3⟩ := c.def_ 3 (d := dd3) rfl
  obtain ⟨fd4, F4⟩ := c.def_ 4 (d := dd4) rfl
  obtain ⟨fd5, F5⟩ := c.def_ 5 (d := dd5) rfl
  obtain ⟨fd6, F6⟩ := c.def_ 6 (d := dd6) rfl
  obtain ⟨fd7, F7⟩ := c.def_ 7 (d := dd7) rfl
  obtain ⟨fd8, F8⟩ := c.def_ 8 (d := dd8) rfl
  obtain ⟨fd9, F9⟩ := c.def_ 9 (d := dd9) rfl
  obtain ⟨fd10, F10⟩ := c.def_ 10 (d := dd10) rfl
  obtain ⟨fd11, F11⟩ := c.def_ 11 (d := dd11) rfl
  obtain ⟨fd12, F12⟩ := c.def_ 12 (d := dd12) rfl
  obtain ⟨fd13, F13⟩ := c.def_ 13 (d := dd13) rfl
  obtain ⟨fd14, F14⟩ := c.def_ 14 (d := dd14) rfl
  obtain ⟨fd15, F15⟩ := c.def_ 15 (d := dd15) rfl
  obtain ⟨fd16, F16⟩ := c.def_ 16 (d := dd16) rfl
  obtain ⟨fd17, F17⟩ := c.def_ 17 (d := dd17) rfl
  obtain ⟨fd18, F18⟩ := c.def_ 18 (d := dd18) rfl
  obtain ⟨fd19, F19⟩ := c.def_ 19 (d := dd19) rfl
  refine ⟨fun i => ([fd0, fd1, fd2, fd3, fd4, fd5, fd6, fd7, fd8, fd9, fd10, fd11, fd12, fd13, fd14, fd15, fd16, fd17, fd18, fd19] : List FuncData).getD i fd0, ?_⟩
  exact ⟨F0,
    F1,
    He.glo_ok X G (c.fact 0 (f := .glo "divisor") rfl),
    F2,
    He.glo_ok X G (c.fact 1 (f := .glo "fraction") rfl),
    F3,
    He.glo_ok X G (c.fact 2 (f := .glo "whole_in") rfl),
    F4,
    He.glo_ok X G (c.fact 3 (f := .glo "fraction_in") rfl),
    F5,
    He.glo_ok X G (c.fact 4 (f := .glo "is_name") rfl),
    F6,
    He.glo_ok X G (c.fact 5 (f := .glo "call_in") rfl),
    F7,
    He.glo_ok X G (c.fact 6 (f := .glo "line_in") rfl),
    F8,
    He.glo_ok X G (c.fact 7 (f := .glo "read_world") rfl),
    F9,
    He.glo_ok X G (c.fact 8 (f := .glo "_law_draw") rfl),
    F10,
    He.glo_ok X G (c.fact 9 (f := .glo "_law_made") rfl),
    F11,
    He.glo_ok X G (c.fact 10 (f := .glo "_law_spoiled") rfl),
    F12,
    He.glo_ok X G (c.fact 11 (f := .glo "_law_figures") rfl),
    F13,
    He.glo_ok X G (c.fact 12 (f := .glo "_law_fraction") rfl),
    F14,
    He.glo_ok X G (c.fact 13 (f := .glo "_law_is_name") rfl),
    F15,
    He.glo_ok X G (c.fact 14 (f := .glo "_law_line") rfl),
    F16,
    He.glo_ok X G (c.fact 15 (f := .glo "_law_due") rfl),
    F17,
    He.glo_ok X G (c.fact 16 (f := .glo "_law_refusal") rfl),
    F18,
    He.glo_ok X G (c.fact 17 (f := .glo "_law_asked") rfl),
    F19,
    He.glo_ok X G (c.fact 18 (f := .glo "law") rfl),
    He.glo_ok X G (c.fact 19 (f := .glo "WishError") rfl),
    He.glo_ok X G (c.fact 20 (f := .glo "NoShare") rfl),
    He.glo_ok X G (c.fact 21 (f := .glo "NoText") rfl),
    He.glo_ok X G (c.fact 22 (f := .glo "NoStep") rfl),
    He.glo_ok X G (c.fact 23 (f := .glo "BadStep") rfl),
    He.glo_ok X G (c.fact 24 (f := .glo "NoPaper") rfl),
    He.glo_ok X G (c.fact 25 (f := .glo "NoLevel") rfl),
    He.glo_ok X G (c.fact 26 (f := .glo "NoWish") rfl),
    He.glo_ok X G (c.fact 27 (f := .glo "NoAnswer") rfl),
    He.glo_ok X G (c.fact 28 (f := .glo "NoLine") rfl),
    (fun k b e => by
    unfold sub_NoAnswer at e
    split at e
    · cases e; exact ⟨excB_ok (c.own 0 rfl), kitB1_ok (x := "NoText") (c := .own "NoAnswer") (c.own 1 rfl)⟩
    · cases e),
    (fun k b e => by
    unfold sub_NoLevel at e
    split at e
    · cases e; exact ⟨excB_ok (c.own 0 rfl), kitB1_ok (x := "NoText") (c := .own "NoLevel") (c.own 2 rfl)⟩
    · cases e),
    (fun k b e => by
    unfold sub_NoLine at e
    split at e
    · cases e; exact ⟨excB_ok (c.own 0 rfl), kitB1_ok (x := "NoText") (c := .own "NoLine") (c.own 3 rfl)⟩
    · cases e),
    (fun k b e => by
    unfold sub_NoText at e
    split at e
    · cases e; exact ⟨excB_ok (c.own 0 rfl), kitB1_ok (x := "NoText") (c := .own "NoText") (c.own 4 rfl)⟩
    · cases e),
    (fun k b e => by
    unfold sub_NoWish at e
    split at e
    · cases e; exact ⟨excB_ok (c.own 0 rfl), kitB1_ok (x := "NoText") (c := .own "NoWish") (c.own 5 rfl)⟩
    · cases e),
    (fun k b e => by
    unfold sub_ValueError at e
    split at e
    · cases e; exact ⟨excB_ok (c.own 0 rfl), kitB1_ok (x := "NoText") (c := .ty "ValueError") (c.own 6 rfl)⟩
    · cases e),
    (fun k b e => by
    unfold subT_0 at e
    split at e
    · cases e; exact ⟨excB_ok (c.own 0 rfl), kitBA_ok (x := "NoText") (cs := [("BadStep" : Str), ("NoPaper" : Str), ("NoShare" : Str), ("NoStep" : Str)]) (c.own 7 rfl)⟩
    · cases e),
    (fun k b e => by
    unfold ct_WishError at e
    split at e
    · cases e; exact He.exm_ok (c.fact 29 (f := .exm "NoText" "WishError" true) rfl)
    · cases e),
    He.str_ok X G (c.fact 30 (f := .str "FIGURES" (tx [48, 49, 50, 51, 52, 53, 54, 55, 56, 57])) rfl),
    He.str_ok X G (c.fact 31 (f := .str "LETTERS" (tx [97, 98, 99, 100, 101, 102, 103, 104, 105, 106, 107, 108, 109, 110, 111, 112, 113, 114, 115, 116, 117, 118, 119, 120, 121, 122])) rfl),
    He.int_ok X G (c.fact 32 (f := .int "MOST_TERMS" (3)) rfl),
    He.free_ok X G (c.fact 33 (f := .free "ValueError") rfl),
    He.free_ok X G (c.fact 34 (f := .free "abs") rfl),
    He.free_ok X G (c.fact 35 (f := .free "all") rfl),
    He.free_ok X G (c.fact 36 (f := .free "enumerate") rfl),
    He.free_ok X G (c.fact 37 (f := .free "int") rfl),
    He.free_ok X G (c.fact 38 (f := .free "isinstance") rfl),
    He.free_ok X G (c.fact 39 (f := .free "len") rfl),
    He.free_ok X G (c.fact 40 (f := .free "list") rfl),
    He.free_ok X G (c.fact 41 (f := .free "range") rfl),
    He.free_ok X G (c.fact 42 (f := .free "str") rfl),
    He.free_ok X G (c.fact 43 (f := .free "tuple") rfl),
    oexB_ok (c.own 8 rfl),
    He.noat_ok (c.fact 44 (f := .noat "NoText" "at") rfl),
    iniB_ok (x := "NoText") (p := (("NoText" : Str), some ("__init__" : Str))) (c.own 9 rfl),
    xfB_ok (c.own 10 rfl),
    winB_ok (c.own 11 rfl)⟩
end Sw.smallword_k85_lines_refused

set_option autoImplicit false
set_option linter.all false
set_option maxRecDepth 10000
set_option exponentiation.threshold 9000
/-! What the program judges: fractions, names, terms, sums, wishes. -/
namespace Sw.smallword_k85_lines_refused
open Sw
abbrev Ru (d : Nat) : Nat → List W → Mem → Out W := runG gcs T d
section
variable {d : Nat} {M : Mem}
theorem divisor {a b : Int} (ha : 0 ≤ a) (hb : 0 ≤ b) (hs : gms a b < 99000) : Ru (d + 1) 1 [.int a, .int b] M = some (.ok (.int (gcdI a b)), M) := by
  refine run_w (n := 3) (b := b1 (Ru d)) rfl rfl rfl ?_
  unfold b1
  rw [Ok_sSeq]
  show Ok (whL _ _ 100000 _ _) _
  refine Ok_wh (fun n s M' => M' = M ∧ ∃ a' b' v, s = [some (.int a'), some (.int b'), v] ∧ n = gms a' b' ∧ 0 ≤ a' ∧ 0 ≤ b' ∧ gcdI a' b' = gcdI a b)
    (fun n s M' ⟨eM, a', b', v, es, en, h1, h2, h3⟩ => ?_) 100000 (gms a b) _ M (by omega) ⟨rfl, a, b, none, rfl, rfl, ha, hb, rfl⟩
  subst eM es en
  simp only [Ok_sSeq, Ok_sAsg, Ok_sRet, Ok_sExp, Ok_sPass, Ok_sIf, Ok_sFor, Ok_eV, Ok_eC, Ok_eAs1, Ok_eAs0, Ok_eTup, Ok_eNew, Ok_eOp, Ok_eUn, Ok_eCall, Ok_eAnd, Ok_eOr, Ok_eIf, Ok_eL, Ok_lComp, Ok_iSeq, Ok_eTuple, Ok_lOf, setS, start, List.map_cons, List.map_nil, List.length_cons, List.length_nil, Nat.zero_add, Nat.reduceAdd, Nat.reduceSub, List.replicate_succ, List.replicate_zero, List.cons_append, List.nil_append, List.set_cons_succ, List.set_cons_zero, List.getElem?_cons_succ, List.getElem?_cons_zero, Option.some.injEq, exists_eq_left', Ok_uNot, Br_t, Br_f, Bool.not_true, Bool.not_false, Ok_nei]
  rw [Br_b]
  refine ⟨fun h0 => ?_, fun h0 => ?_⟩
  · have h0 : b' ≠ 0 := by simpa using h0
    simp only [Ok_sSeq, Ok_sAsg, Ok_sRet, Ok_sExp, Ok_sPass, Ok_sIf, Ok_sFor, Ok_eV, Ok_eC, Ok_eAs1, Ok_eAs0, Ok_eTup, Ok_eNew, Ok_eOp, Ok_eUn, Ok_eCall, Ok_eAnd, Ok_eOr, Ok_eIf, Ok_eL, Ok_lComp, Ok_iSeq, Ok_eTuple, Ok_lOf, setS, start, List.map_cons, List.map_nil, List.length_cons, List.length_nil, Nat.zero_add, Nat.reduceAdd, Nat.reduceSub, List.replicate_succ, List.replicate_zero, List.cons_append, List.nil_append, List.set_cons_succ, List.set_cons_zero, List.getElem?_cons_succ, List.getElem?_cons_zero, Option.some.injEq, exists_eq_left', Ok_uNot, Br_t, Br_f, Bool.not_true, Bool.not_false, Ok_mod]
    exact ⟨by omega, _, gms_lt h1 (by omega), trivial, _, _, _, rfl, rfl, h2, Int.emod_nonneg _ h0, by rw [← h3]; exact (gcd_step h1 (by omega)).symm⟩
  · have h0 : b' = 0 := by simpa using h0
    subst h0
    rw [← h3, gcdI_zero h1]
    exact ⟨rfl, [], by simp⟩
/-- sizes that the way to the divisor bears -/
def SmI (n m : Int) : Prop := n.natAbs < 2 ^ 4000 ∧ m.natAbs < 2 ^ 4000
theorem SmI.gms {n m : Int} (h : SmI n m) : gms n.natAbs m < 99000 := by
  unfold Sw.gms
  split
  · omega
  · have : ((n.natAbs : Int) * m).natAbs.log2 < 8001 := by
      by_cases h0 : ((n.natAbs : Int) * m).natAbs = 0
      · rw [h0]; decide
      · rw [Nat.log2_lt h0, Int.natAbs_mul]
        have h1 : (n.natAbs : Int).natAbs < 2 ^ 4000 := by simpa using h.1
        have : (n.natAbs : Int).natAbs * m.natAbs < 2 ^ 4000 * 2 ^ 4000 := Nat.mul_lt_mul'' h1 h.2
        rw [← Nat.pow_add] at this
        exact Nat.lt_of_lt_of_le this (Nat.pow_le_pow_right (by decide) (by decide))
    split <;> omega
theorem gcd_abs {n m : Int} : gcdI n.natAbs m = gcdI n m := by
  unfold gcdI Int.gcd
  simp
theorem gcd_pos {n m : Int} (hm : 0 < m) : 0 < gcdI n m := by
  unfold gcdI
  have : 0 < Int.gcd n m := Int.gcd_pos_of_ne_zero_right _ (by omega)
  omega
theorem gcd_le {n m : Int} (hm : 0 < m) : gcdI n m ≤ m := by
  unfold gcdI
  exact Int.le_of_dvd hm (Int.gcd_dvd_right ..)
def lowW (n m : Int) : W := .tup [.int (n / gcdI n m), .int (m / gcdI n m)]
theorem fraction {n m : Int} (hm : 0 < m) (hs : SmI n m) : Ru (d + 2) 2 [.int n, .int m] M = some (.ok (lowW n m), M) := by
  refine run_w (n := 3) (b := b2 (Ru (d + 1))) rfl rfl rfl ?_
  unfold b2
  have e0 : decide (m = 0) = false := decide_eq_false (by omega)
  have e1 : decide (m < 0) = false := decide_eq_false (by omega)
  simp only [Ok_sSeq, Ok_sAsg, Ok_sRet, Ok_sExp, Ok_sPass, Ok_sIf, Ok_sFor, Ok_eV, Ok_eC, Ok_eAs1, Ok_eAs0, Ok_eTup, Ok_eNew, Ok_eOp, Ok_eUn, Ok_eCall, Ok_eAnd, Ok_eOr, Ok_eIf, Ok_eL, Ok_lComp, Ok_iSeq, Ok_eTuple, Ok_lOf, setS, start, List.map_cons, List.map_nil, List.length_cons, List.length_nil, Nat.zero_add, Nat.reduceAdd, Nat.reduceSub, List.replicate_succ, List.replicate_zero, List.cons_append, List.nil_append, List.set_cons_succ, List.set_cons_zero, List.getElem?_cons_succ, List.getElem?_cons_zero, Option.some.injEq, exists_eq_left', Ok_uNot, Br_t, Br_f, Bool.not_true, Bool.not_false, Ok_eqi, e0, Ok_lt, e1, Ok_abs]
  refine Ok.eq (divisor (d := d) (by omega) (by omega) hs.gms) ?_
  rw [gcd_abs]
  have g1 := gcd_pos (n := n) hm
  have g2 := gcd_le (n := n) hm
  have lg : (gcdI n m).natAbs.log2 < 9000 := by
    rw [Nat.log2_lt (by omega)]
    have := hs.2
    exact Nat.lt_of_lt_of_le (show (gcdI n m).natAbs < 2 ^ 4000 by omega) (Nat.pow_le_pow_right (by decide) (by decide))
  simp only [Ok_sSeq, Ok_sAsg, Ok_sRet, Ok_sExp, Ok_sPass, Ok_sIf, Ok_sFor, Ok_eV, Ok_eC, Ok_eAs1, Ok_eAs0, Ok_eTup, Ok_eNew, Ok_eOp, Ok_eUn, Ok_eCall, Ok_eAnd, Ok_eOr, Ok_eIf, Ok_eL, Ok_lComp, Ok_iSeq, Ok_eTuple, Ok_lOf, setS, start, List.map_cons, List.map_nil, List.length_cons, List.length_nil, Nat.zero_add, Nat.reduceAdd, Nat.reduceSub, List.replicate_succ, List.replicate_zero, List.cons_append, List.nil_append, List.set_cons_succ, List.set_cons_zero, List.getElem?_cons_succ, List.getElem?_cons_zero, Option.some.injEq, exists_eq_left', Ok_uNot, Br_t, Br_f, Bool.not_true, Bool.not_false, Ok_div]
  exact ⟨⟨g1, lg⟩, ⟨g1, lg⟩, rfl, [], by simp⟩
theorem low_eq {n m : Int} (hm : 0 < m) : eqD (lowW n m) (.tup [.int n, .int m]) = decide (gcdI n m = 1) := by
  have g1 := gcd_pos (n := n) hm
  simp only [eqD, lowW, nrm, nrms]
  rw [decide_eq_decide]
  constructor
  · intro h
    simp only [W.tup.injEq, List.cons.injEq, W.int.injEq, and_true] at h
    have h2 := h.2
    have hd : gcdI n m ∣ m := by unfold gcdI; exact Int.gcd_dvd_right ..
    have h3 := Int.ediv_mul_cancel hd
    rw [h2] at h3
    have : m * gcdI n m = m * 1 := by rw [h3]; simp
    exact Int.eq_of_mul_eq_mul_left (by omega) this
  · intro h
    rw [h]
    simp
theorem letters {c : Nat} : (c ∈ ([97, 98, 99, 100, 101, 102, 103, 104, 105, 106, 107, 108, 109, 110, 111, 112, 113, 114, 115, 116, 117, 118, 119, 120, 121, 122] : Tx)) ↔ 97 ≤ c ∧ c ≤ 122 := by
  simp only [List.mem_cons, List.not_mem_nil, or_false]
  omega
theorem is_name {w : W} (hv : visB M w = true) (hs : smW w = true) : Ru (d + 1) 5 [w] M = some (.ok (.bl (nameW w)), M) := by
  refine run_b (n := 2) (b := b5 (Ru d)) rfl rfl ?_
  unfold b5
  simp only [Ok_sSeq, Ok_sAsg, Ok_sRet, Ok_sExp, Ok_sPass, Ok_sIf, Ok_sFor, Ok_eV, Ok_eC, Ok_eAs1, Ok_eAs0, Ok_eTup, Ok_eNew, Ok_eOp, Ok_eUn, Ok_eCall, Ok_eAnd, Ok_eOr, Ok_eIf, Ok_eL, Ok_lComp, Ok_iSeq, Ok_eTuple, Ok_lOf, setS, start, List.map_cons, List.map_nil, List.length_cons, List.length_nil, Nat.zero_add, Nat.reduceAdd, Nat.reduceSub, List.replicate_succ, List.replicate_zero, List.cons_append, List.nil_append, List.set_cons_succ, List.set_cons_zero, List.getElem?_cons_succ, List.getElem?_cons_zero, Option.some.injEq, exists_eq_left', Ok_uNot, Br_t, Br_f, Bool.not_true, Bool.not_false, Ok_isA (tyN_vis hv)]
  cases w with
  | str s =>
    have hl : s.length ≤ 1000000 := by simpa [smW] using hs
    rw [show (tyS (.str s) == "str" || tyS (.str s) == "bool" && "str" == "int") = true from rfl]
    have lens : ∀ {M : Mem} {Q : W → Mem → Prop}, Ok (uLen (.str s) M) Q ↔ Q (.int s.length) M := by
      intro M Q
      have e : lenW (.str s) M = some s.length := by simp [lenW, many_iff.mpr hl]
      unfold uLen
      rw [e]
      exact Ok_ok _
    simp only [Ok_sSeq, Ok_sAsg, Ok_sRet, Ok_sExp, Ok_sPass, Ok_sIf, Ok_sFor, Ok_eV, Ok_eC, Ok_eAs1, Ok_eAs0, Ok_eTup, Ok_eNew, Ok_eOp, Ok_eUn, Ok_eCall, Ok_eAnd, Ok_eOr, Ok_eIf, Ok_eL, Ok_lComp, Ok_iSeq, Ok_eTuple, Ok_lOf, setS, start, List.map_cons, List.map_nil, List.length_cons, List.length_nil, Nat.zero_add, Nat.reduceAdd, Nat.reduceSub, List.replicate_succ, List.replicate_zero, List.cons_append, List.nil_append, List.set_cons_succ, List.set_cons_zero, List.getElem?_cons_succ, List.getElem?_cons_zero, Option.some.injEq, exists_eq_left', Ok_uNot, Br_t, Br_f, Bool.not_true, Bool.not_false, Ok_eChain, lens, Ok_le]
    have e : nameW (.str s) = (decide (1 ≤ s.length) && decide (s.length ≤ 8) && s.all fun c => decide (97 ≤ c) && decide (c ≤ 122)) := rfl
    rw [e]
    by_cases h1 : 1 ≤ s.length
    · have h1' : decide ((1 : Int) ≤ s.length) = true := decide_eq_true (by omega)
      rw [h1', Br_t]
      by_cases h2 : s.length ≤ 8
      · have h2' : decide ((s.length : Int) ≤ 8) = true := decide_eq_true (by omega)
        rw [h2']
        simp only [Ok_sSeq, Ok_sAsg, Ok_sRet, Ok_sExp, Ok_sPass, Ok_sIf, Ok_sFor, Ok_eV, Ok_eC, Ok_eAs1, Ok_eAs0, Ok_eTup, Ok_eNew, Ok_eOp, Ok_eUn, Ok_eCall, Ok_eAnd, Ok_eOr, Ok_eIf, Ok_eL, Ok_lComp, Ok_iSeq, Ok_eTuple, Ok_lOf, setS, start, List.map_cons, List.map_nil, List.length_cons, List.length_nil, Nat.zero_add, Nat.reduceAdd, Nat.reduceSub, List.replicate_succ, List.replicate_zero, List.cons_append, List.nil_append, List.set_cons_succ, List.set_cons_zero, List.getElem?_cons_succ, List.getElem?_cons_zero, Option.some.injEq, exists_eq_left', Ok_uNot, Br_t, Br_f, Bool.not_true, Bool.not_false]
        refine (Ok_seq_str (z := s)).mpr ?_
        refine Ok_map (fun w => .bl (match w with
          | .str [c] => decide (97 ≤ c) && decide (c ≤ 122)
          | _ => false)) (fun M' => M' = M) (fun _ _ => rfl) rfl (by rw [List.length_map]; omega) (fun x hx M' e => ?_) (fun M' e => ?_)
        · subst e
          obtain ⟨c, hc, rfl⟩ := List.mem_map.mp hx
          refine ⟨_, rfl, ?_⟩
          simp only [Ok_sSeq, Ok_sAsg, Ok_sRet, Ok_sExp, Ok_sPass, Ok_sIf, Ok_sFor, Ok_eV, Ok_eC, Ok_eAs1, Ok_eAs0, Ok_eTup, Ok_eNew, Ok_eOp, Ok_eUn, Ok_eCall, Ok_eAnd, Ok_eOr, Ok_eIf, Ok_eL, Ok_lComp, Ok_iSeq, Ok_eTuple, Ok_lOf, setS, start, List.map_cons, List.map_nil, List.length_cons, List.length_nil, Nat.zero_add, Nat.reduceAdd, Nat.reduceSub, List.replicate_succ, List.replicate_zero, List.cons_append, List.nil_append, List.set_cons_succ, List.set_cons_zero, List.getElem?_cons_succ, List.getElem?_cons_zero, Option.some.injEq, exists_eq_left', Ok_uNot, Br_t, Br_f, Bool.not_true, Bool.not_false, oIn, inW, eqOut, Ok_ok, letters]
          exact ⟨by rw [Bool.decide_and], trivial⟩
        · subst e
          rw [List.map_map]
          rw [show ((fun w : W => W.bl (match w with
            | .str [c] => decide (97 ≤ c) && decide (c ≤ 122)
            | _ => false)) ∘ fun c => W.str [c]) = fun c => W.bl (decide (97 ≤ c) && decide (c ≤ 122)) from rfl]
          rw [Ok_fAll, decide_eq_true h1, decide_eq_true h2]
          exact ⟨rfl, [], by simp⟩
      · have h2' : decide ((s.length : Int) ≤ 8) = false := decide_eq_false (by omega)
        rw [h2']
        simp only [Ok_sSeq, Ok_sAsg, Ok_sRet, Ok_sExp, Ok_sPass, Ok_sIf, Ok_sFor, Ok_eV, Ok_eC, Ok_eAs1, Ok_eAs0, Ok_eTup, Ok_eNew, Ok_eOp, Ok_eUn, Ok_eCall, Ok_eAnd, Ok_eOr, Ok_eIf, Ok_eL, Ok_lComp, Ok_iSeq, Ok_eTuple, Ok_lOf, setS, start, List.map_cons, List.map_nil, List.length_cons, List.length_nil, Nat.zero_add, Nat.reduceAdd, Nat.reduceSub, List.replicate_succ, List.replicate_zero, List.cons_append, List.nil_append, List.set_cons_succ, List.set_cons_zero, List.getElem?_cons_succ, List.getElem?_cons_zero, Option.some.injEq, exists_eq_left', Ok_uNot, Br_t, Br_f, Bool.not_true, Bool.not_false, decide_eq_false h2]
        exact ⟨by simp, [], by simp⟩
    · have h1' : decide ((1 : Int) ≤ s.length) = false := decide_eq_false (by omega)
      rw [h1', Br_f]
      simp only [Ok_sSeq, Ok_sAsg, Ok_sRet, Ok_sExp, Ok_sPass, Ok_sIf, Ok_sFor, Ok_eV, Ok_eC, Ok_eAs1, Ok_eAs0, Ok_eTup, Ok_eNew, Ok_eOp, Ok_eUn, Ok_eCall, Ok_eAnd, Ok_eOr, Ok_eIf, Ok_eL, Ok_lComp, Ok_iSeq, Ok_eTuple, Ok_lOf, setS, start, List.map_cons, List.map_nil, List.length_cons, List.length_nil, Nat.zero_add, Nat.reduceAdd, Nat.reduceSub, List.replicate_succ, List.replicate_zero, List.cons_append, List.nil_append, List.set_cons_succ, List.set_cons_zero, List.getElem?_cons_succ, List.getElem?_cons_zero, Option.some.injEq, exists_eq_left', Ok_uNot, Br_t, Br_f, Bool.not_true, Bool.not_false, decide_eq_false h1]
      exact ⟨by simp, [], by simp⟩
  | _ => exact ⟨rfl, [], by simp⟩
theorem run_iff {o : Out W} {w : W} {Q : W → Mem → Prop} (h : o = some (.ok w, M)) : Ok o Q ↔ Q w M := by rw [h]; exact Ok_some _
theorem Ok_allTup {ws : List W} {f : W → Bool} {e : EM} {i : Nat} {s : Sl} {Q : W → Mem → Prop} (hl : ws.length ≤ 1000) (h : ∀ w ∈ ws, Ok (e (s.set i (some w)) M) fun r M' => r = .bl (f w) ∧ M' = M) :
    Ok (lcL none (.one i) (eC (.bl true)) e s ws [] M) (fun rs M' => Ok (fAll rs M') Q) ↔ Q (.bl (ws.all f)) M := by
  have A : ∀ (ws acc : List W), (acc.length + ws.length ≤ 1000) → (∀ w ∈ ws, Ok (e (s.set i (some w)) M) fun r M' => r = .bl (f w) ∧ M' = M) → lcL none (.one i) (eC (.bl true)) e s ws acc M = some (.ok (acc ++ ws.map fun w => .bl (f w)), M) := by
    intro ws
    induction ws with
    | nil =>
      intro acc hl _
      rw [lcL_nil' rfl (by simp at hl; omega)]
      simp [ok]
    | cons w ws ih =>
      intro acc hl h
      obtain ⟨r, M', e1, rfl, rfl⟩ := h w List.mem_cons_self
      have e2 : lcL none (.one i) (eC (.bl true)) e s (w :: ws) acc M' = bnd (noX (e (s.set i (some w)) M')) fun y M => lcL none (.one i) (eC (.bl true)) e s ws (acc ++ [y]) M := by
        rw [lcL, many_iff.mpr (show acc.length ≤ 1000000 by omega)]
        rfl
      rw [e2, e1]
      show lcL _ _ _ _ _ _ _ _ = _
      rw [ih _ (by simp at hl ⊢; omega) fun z hz => h z (List.mem_cons_of_mem _ hz)]
      simp
  rw [A ws [] (by simpa using hl) h, Ok_some, List.nil_append, Ok_fAll]
theorem fin_d {w w' : W} (hd : isD w = true) (h : w = w') : Fl.rt w = Fl.rt w' ∧ ∃ X, M = M ++ X := ⟨by rw [h], [], by simp⟩
theorem digs {c : Nat} : (c ∈ ([48, 49, 50, 51, 52, 53, 54, 55, 56, 57] : Tx)) ↔ 48 ≤ c ∧ c ≤ 57 := by
  simp only [List.mem_cons, List.not_mem_nil, or_false]
  omega
/-- cuts of a text, at small numbers -/
theorem Ok_slS {z : Tx} {lo hi : Option EM} {a : EM} {s : Sl} {Q : W → Mem → Prop} {f : Tx → Tx} (ha : Ok (a s M) fun x M' => x = .str z ∧ M' = M) (hl : z.length ≤ 1000000) (o1 o2 : Option Int)
    (h1 : evO lo s M = ok o1 M) (h2 : evO hi s M = ok o2 M) (q : Q (.str (cutX z o1 o2)) M) : Ok (eSlS a lo hi s M) Q := by
  unfold eSlS
  rw [Ok_bnd]
  obtain ⟨x, M', e, rfl, rfl⟩ := ha
  refine Ok.eq e ?_
  rw [h1]
  show Ok (bnd (evO hi s M') _) Q
  rw [h2]
  show Ok (if many z.length then ok (.str (cutX z o1 o2)) M' else none) Q
  rw [many_iff.mpr hl]
  exact (Ok_ok _).mpr q
theorem cut_take1 {z : Tx} : cutX z none (some 1) = z.take 1 := by
  by_cases h : 1 ≤ z.length
  · exact cutX_take (n := 1) h
  · have : z = [] := List.eq_nil_of_length_eq_zero (by omega)
    subst this
    rfl
theorem cut_drop1 {z : Tx} : cutX z (some 1) none = z.drop 1 := by
  unfold cutX sIxW
  simp only []
  rw [if_neg (by omega)]
  by_cases h : 1 ≤ z.length
  · rw [show min (Int.toNat 1) z.length = 1 by simp; omega, List.take_of_length_le]
    rw [List.length_drop]
    omega
  · have : z = [] := List.eq_nil_of_length_eq_zero (by omega)
    subst this
    rfl
theorem Ok_lenS {z : Tx} {Q : W → Mem → Prop} (hl : z.length ≤ 1000000) : Ok (uLen (.str z) M) Q ↔ Q (.int z.length) M := by
  have e : lenW (.str z) M = some z.length := by simp [lenW, many_iff.mpr hl]
  unfold uLen
  rw [e]
  exact Ok_ok _
theorem Ok_inS {c : Nat} {z : Tx} {Q : W → Mem → Prop} : Ok (oIn (.str [c]) (.str z) M) Q ↔ Q (.bl (decide (c ∈ z))) M := by
  simp only [oIn, inW, eqOut, Ok_ok]
theorem Ok_niS {c : Nat} {z : Tx} {Q : W → Mem → Prop} : Ok (oNi (.str [c]) (.str z) M) Q ↔ Q (.bl (!decide (c ∈ z))) M := by
  simp only [oNi, inW, eqOut, Option.map_some, Ok_ok]
theorem Ok_ixS0 {c : Nat} {r : Tx} {Q : W → Mem → Prop} (hl : (c :: r).length ≤ 1000000) : Ok (oIx (.str (c :: r)) (.int 0) M) Q ↔ Q (.str [c]) M := by
  have e : oIx (.str (c :: r)) (.int 0) M = some (.ok (.str [c]), M) := by
    simp [oIx, ixW, ok, many_iff.mpr (show r.length + 1 ≤ 1000000 by simpa using hl)]
  rw [e, Ok_some]
theorem all_dig {z : Tx} : ((z.map fun c => W.str [c]).all fun w => match w with
    | .str [c] => decide (c ∈ ([48, 49, 50, 51, 52, 53, 54, 55, 56, 57] : Tx))
    | _ => false) = digB z := by
  unfold digB
  rw [List.all_map]
  congr 1
  funext c
  show decide (c ∈ ([48, 49, 50, 51, 52, 53, 54, 55, 56, 57] : Tx)) = _
  rw [← Bool.decide_and]
  exact decide_eq_decide.mpr digs
theorem whole_in {z : Tx} (hl : z.length ≤ 640) : Ru (d + 1) 3 [.str z] M = some (.ok (wholeV (wholeO z)), M) := by
  have hb : (bare z).length ≤ 640 := Nat.le_trans bare_len hl
  refine run_w (n := 3) (b := b3 (Ru d)) rfl rfl (by cases wholeO z <;> rfl) ?_
  unfold b3
  simp only [Ok_sSeq, Ok_sAsg, Ok_sRet, Ok_sExp, Ok_sPass, Ok_sIf, Ok_sFor, Ok_eV, Ok_eC, Ok_eAs1, Ok_eAs0, Ok_eTup, Ok_eNew, Ok_eOp, Ok_eUn, Ok_eCall, Ok_eAnd, Ok_eOr, Ok_eIf, Ok_eL, Ok_lComp, Ok_iSeq, Ok_eTuple, Ok_lOf, setS, start, List.map_cons, List.map_nil, List.length_cons, List.length_nil, Nat.zero_add, Nat.reduceAdd, Nat.reduceSub, List.replicate_succ, List.replicate_zero, List.cons_append, List.nil_append, List.set_cons_succ, List.set_cons_zero, List.getElem?_cons_succ, List.getElem?_cons_zero, Option.some.injEq, exists_eq_left', Ok_uNot, Br_t, Br_f, Bool.not_true, Bool.not_false]
  have tail : Ok (sSeq (sIf (eOr (eUn uNot (eChain oLe oLe (eC (.int 1)) (eUn uLen (eV 1)) (eC (.int 4000)))) (eUn uNot (eL fAll (lComp (iSeq (eV 1)) (.one 2) (eC (.bl true)) (eOp oIn (eV 2) (eC (.str [48, 49, 50, 51, 52, 53, 54, 55, 56, 57]))))))) (sRet (eC .non)) sPass)
  (sSeq (sIf (eAnd (eOp oEq (eOp oIx (eV 1) (eC (.int 0))) (eC (.str [48]))) (eOp oNe (eV 0) (eC (.str [48])))) (sRet (eC .non)) sPass)
  (sRet (eUn uIntT (eV 0)))) [some (.str z), some (.str (bare z)), none] M) fun fl M' => fl = .rt (wholeV (wholeO z)) ∧ ∃ X, M' = M ++ X := by
    simp only [Ok_sSeq, Ok_sAsg, Ok_sRet, Ok_sExp, Ok_sPass, Ok_sIf, Ok_sFor, Ok_eV, Ok_eC, Ok_eAs1, Ok_eAs0, Ok_eTup, Ok_eNew, Ok_eOp, Ok_eUn, Ok_eCall, Ok_eAnd, Ok_eOr, Ok_eIf, Ok_eL, Ok_lComp, Ok_iSeq, Ok_eTuple, Ok_lOf, setS, start, List.map_cons, List.map_nil, List.length_cons, List.length_nil, Nat.zero_add, Nat.reduceAdd, Nat.reduceSub, List.replicate_succ, List.replicate_zero, List.cons_append, List.nil_append, List.set_cons_succ, List.set_cons_zero, List.getElem?_cons_succ, List.getElem?_cons_zero, Option.some.injEq, exists_eq_left', Ok_uNot, Br_t, Br_f, Bool.not_true, Bool.not_false, Ok_eChain, Ok_lenS (show (bare z).length ≤ 1000000 by omega), Ok_le]
    have no : figB (bare z) = false → wholeO z = none := fun h => by unfold wholeO; rw [h]; rfl
    by_cases h1 : 1 ≤ (bare z).length
    · have h1' : decide ((1 : Int) ≤ (bare z).length) = true := decide_eq_true (by omega)
      have h2' : decide (((bare z).length : Int) ≤ 4000) = true := decide_eq_true (by omega)
      rw [h1', Br_t, h2']
      simp only [Ok_sSeq, Ok_sAsg, Ok_sRet, Ok_sExp, Ok_sPass, Ok_sIf, Ok_sFor, Ok_eV, Ok_eC, Ok_eAs1, Ok_eAs0, Ok_eTup, Ok_eNew, Ok_eOp, Ok_eUn, Ok_eCall, Ok_eAnd, Ok_eOr, Ok_eIf, Ok_eL, Ok_lComp, Ok_iSeq, Ok_eTuple, Ok_lOf, setS, start, List.map_cons, List.map_nil, List.length_cons, List.length_nil, Nat.zero_add, Nat.reduceAdd, Nat.reduceSub, List.replicate_succ, List.replicate_zero, List.cons_append, List.nil_append, List.set_cons_succ, List.set_cons_zero, List.getElem?_cons_succ, List.getElem?_cons_zero, Option.some.injEq, exists_eq_left', Ok_uNot, Br_t, Br_f, Bool.not_true, Bool.not_false]
      refine (Ok_seq_str (z := bare z)).mpr ?_
      rw [Ok_allTup (f := fun w => match w with
        | .str [c] => decide (c ∈ ([48, 49, 50, 51, 52, 53, 54, 55, 56, 57] : Tx))
        | _ => false) (by rw [List.length_map]; omega) (fun w hw => by
          obtain ⟨c, hc, rfl⟩ := List.mem_map.mp hw
          simp only [Ok_sSeq, Ok_sAsg, Ok_sRet, Ok_sExp, Ok_sPass, Ok_sIf, Ok_sFor, Ok_eV, Ok_eC, Ok_eAs1, Ok_eAs0, Ok_eTup, Ok_eNew, Ok_eOp, Ok_eUn, Ok_eCall, Ok_eAnd, Ok_eOr, Ok_eIf, Ok_eL, Ok_lComp, Ok_iSeq, Ok_eTuple, Ok_lOf, setS, start, List.map_cons, List.map_nil, List.length_cons, List.length_nil, Nat.zero_add, Nat.reduceAdd, Nat.reduceSub, List.replicate_succ, List.replicate_zero, List.cons_append, List.nil_append, List.set_cons_succ, List.set_cons_zero, List.getElem?_cons_succ, List.getElem?_cons_zero, Option.some.injEq, exists_eq_left', Ok_uNot, Br_t, Br_f, Bool.not_true, Bool.not_false]
          exact Ok_inS.mpr ⟨rfl, rfl⟩), all_dig]
      cases hd : digB (bare z)
      · simp only [Ok_sSeq, Ok_sAsg, Ok_sRet, Ok_sExp, Ok_sPass, Ok_sIf, Ok_sFor, Ok_eV, Ok_eC, Ok_eAs1, Ok_eAs0, Ok_eTup, Ok_eNew, Ok_eOp, Ok_eUn, Ok_eCall, Ok_eAnd, Ok_eOr, Ok_eIf, Ok_eL, Ok_lComp, Ok_iSeq, Ok_eTuple, Ok_lOf, setS, start, List.map_cons, List.map_nil, List.length_cons, List.length_nil, Nat.zero_add, Nat.reduceAdd, Nat.reduceSub, List.replicate_succ, List.replicate_zero, List.cons_append, List.nil_append, List.set_cons_succ, List.set_cons_zero, List.getElem?_cons_succ, List.getElem?_cons_zero, Option.some.injEq, exists_eq_left', Ok_uNot, Br_t, Br_f, Bool.not_true, Bool.not_false]
        exact fin_d rfl (by rw [no (by unfold figB; rw [hd]; rfl)]; rfl)
      · simp only [Ok_sSeq, Ok_sAsg, Ok_sRet, Ok_sExp, Ok_sPass, Ok_sIf, Ok_sFor, Ok_eV, Ok_eC, Ok_eAs1, Ok_eAs0, Ok_eTup, Ok_eNew, Ok_eOp, Ok_eUn, Ok_eCall, Ok_eAnd, Ok_eOr, Ok_eIf, Ok_eL, Ok_lComp, Ok_iSeq, Ok_eTuple, Ok_lOf, setS, start, List.map_cons, List.map_nil, List.length_cons, List.length_nil, Nat.zero_add, Nat.reduceAdd, Nat.reduceSub, List.replicate_succ, List.replicate_zero, List.cons_append, List.nil_append, List.set_cons_succ, List.set_cons_zero, List.getElem?_cons_succ, List.getElem?_cons_zero, Option.some.injEq, exists_eq_left', Ok_uNot, Br_t, Br_f, Bool.not_true, Bool.not_false]
        obtain ⟨c, r, hcr⟩ : ∃ c r, bare z = c :: r := by
          cases hz : bare z with
          | nil => rw [hz] at h1; simp at h1
          | cons c r => exact ⟨c, r, rfl⟩
        have figE : figB (bare z) = (!decide ((bare z).take 1 = [48]) || decide (bare z = [48])) := by
          unfold figB
          rw [hd, hcr]
          simp
        rw [hcr, Ok_ixS0 (by rw [hcr] at hb; omega), Ok_eqs]
        by_cases hc0 : c = 48
        · subst hc0
          rw [decide_eq_true rfl, Br_t, Ok_nes]
          by_cases hz : z = [48]
          · have hw : wholeO z = some (valI z) := by rw [hz]; rfl
            rw [decide_eq_true hz]
            simp only [Ok_sSeq, Ok_sAsg, Ok_sRet, Ok_sExp, Ok_sPass, Ok_sIf, Ok_sFor, Ok_eV, Ok_eC, Ok_eAs1, Ok_eAs0, Ok_eTup, Ok_eNew, Ok_eOp, Ok_eUn, Ok_eCall, Ok_eAnd, Ok_eOr, Ok_eIf, Ok_eL, Ok_lComp, Ok_iSeq, Ok_eTuple, Ok_lOf, setS, start, List.map_cons, List.map_nil, List.length_cons, List.length_nil, Nat.zero_add, Nat.reduceAdd, Nat.reduceSub, List.replicate_succ, List.replicate_zero, List.cons_append, List.nil_append, List.set_cons_succ, List.set_cons_zero, List.getElem?_cons_succ, List.getElem?_cons_zero, Option.some.injEq, exists_eq_left', Ok_uNot, Br_t, Br_f, Bool.not_true, Bool.not_false]
            rw [Ok_intT (by rw [hz]; rfl) hl, hw]
            exact fin_d rfl rfl
          · rw [decide_eq_false hz]
            simp only [Ok_sSeq, Ok_sAsg, Ok_sRet, Ok_sExp, Ok_sPass, Ok_sIf, Ok_sFor, Ok_eV, Ok_eC, Ok_eAs1, Ok_eAs0, Ok_eTup, Ok_eNew, Ok_eOp, Ok_eUn, Ok_eCall, Ok_eAnd, Ok_eOr, Ok_eIf, Ok_eL, Ok_lComp, Ok_iSeq, Ok_eTuple, Ok_lOf, setS, start, List.map_cons, List.map_nil, List.length_cons, List.length_nil, Nat.zero_add, Nat.reduceAdd, Nat.reduceSub, List.replicate_succ, List.replicate_zero, List.cons_append, List.nil_append, List.set_cons_succ, List.set_cons_zero, List.getElem?_cons_succ, List.getElem?_cons_zero, Option.some.injEq, exists_eq_left', Ok_uNot, Br_t, Br_f, Bool.not_true, Bool.not_false]
            refine fin_d rfl ?_
            have : wholeO z = none := by
              unfold wholeO
              cases hf : figB (bare z) with
              | false => rfl
              | true =>
                rw [figE, hcr] at hf
                simp at hf
                subst hf
                rcases sign_or z with ⟨q, rfl⟩ | hs
                · rw [bare_neg] at hcr
                  subst hcr
                  rfl
                · rw [bare_pos hs] at hcr
                  exact absurd hcr hz
            rw [this]
            rfl
        · have ec : decide (([c] : Tx) = [48]) = false := decide_eq_false (by simpa using hc0)
          rw [ec, Br_f]
          have hf : figB (bare z) = true := by rw [figE, hcr]; simp [hc0]
          have hne : z ≠ [45, 48] := fun e => by
            rw [e] at hcr
            have : bare [45, 48] = [48] := rfl
            rw [this] at hcr
            cases hcr
            exact hc0 rfl
          rw [Ok_intT hf hl]
          have hw : wholeO z = some (valI z) := by
            unfold wholeO
            rw [hf, decide_eq_false hne]
            rfl
          rw [hw]
          exact fin_d rfl rfl
    · have h1' : decide ((1 : Int) ≤ (bare z).length) = false := decide_eq_false (by omega)
      rw [h1', Br_f]
      have e : bare z = [] := List.eq_nil_of_length_eq_zero (by omega)
      exact fin_d rfl (by rw [no (by rw [e]; rfl)]; rfl)
  refine Ok_slS (f := id) (z := z) (by rw [Ok_eV]; exact ⟨_, rfl, rfl, rfl⟩) (by omega) none (some 1) rfl rfl ?_
  rw [cut_take1, Ok_eqs]
  simp only [Ok_sSeq] at tail
  by_cases hs : z.take 1 = [45]
  · rw [decide_eq_true hs, Br_t]
    refine Ok_slS (f := id) (z := z) (by rw [Ok_eV]; exact ⟨_, rfl, rfl, rfl⟩) (by omega) (some 1) none rfl rfl ?_
    rw [cut_drop1]
    have e : bare z = z.drop 1 := by unfold bare; rw [if_pos hs]
    rw [e] at tail
    simp only [Ok_sSeq, Ok_sAsg, Ok_sRet, Ok_sExp, Ok_sPass, Ok_sIf, Ok_sFor, Ok_eV, Ok_eC, Ok_eAs1, Ok_eAs0, Ok_eTup, Ok_eNew, Ok_eOp, Ok_eUn, Ok_eCall, Ok_eAnd, Ok_eOr, Ok_eIf, Ok_eL, Ok_lComp, Ok_iSeq, Ok_eTuple, Ok_lOf, setS, start, List.map_cons, List.map_nil, List.length_cons, List.length_nil, Nat.zero_add, Nat.reduceAdd, Nat.reduceSub, List.replicate_succ, List.replicate_zero, List.cons_append, List.nil_append, List.set_cons_succ, List.set_cons_zero, List.getElem?_cons_succ, List.getElem?_cons_zero, Option.some.injEq, exists_eq_left', Ok_uNot, Br_t, Br_f, Bool.not_true, Bool.not_false] at tail ⊢
    exact tail
  · rw [decide_eq_false hs, Br_f]
    have e : bare z = z := bare_pos hs
    rw [e] at tail
    simp only [Ok_sSeq, Ok_sAsg, Ok_sRet, Ok_sExp, Ok_sPass, Ok_sIf, Ok_sFor, Ok_eV, Ok_eC, Ok_eAs1, Ok_eAs0, Ok_eTup, Ok_eNew, Ok_eOp, Ok_eUn, Ok_eCall, Ok_eAnd, Ok_eOr, Ok_eIf, Ok_eL, Ok_lComp, Ok_iSeq, Ok_eTuple, Ok_lOf, setS, start, List.map_cons, List.map_nil, List.length_cons, List.length_nil, Nat.zero_add, Nat.reduceAdd, Nat.reduceSub, List.replicate_succ, List.replicate_zero, List.cons_append, List.nil_append, List.set_cons_succ, List.set_cons_zero, List.getElem?_cons_succ, List.getElem?_cons_zero, Option.some.injEq, exists_eq_left', Ok_uNot, Br_t, Br_f, Bool.not_true, Bool.not_false] at tail ⊢
    exact tail
end
end Sw.smallword_k85_lines_refused

set_option autoImplicit false
set_option linter.all false
set_option maxRecDepth 10000
set_option exponentiation.threshold 9000
/-! Fractions and names, as the program and as the law read them. -/
namespace Sw.smallword_k85_lines_refused
open Sw
section
variable {d : Nat} {M : Mem}
theorem fin_b' {k k' : Bool} (h : k = k') : Fl.rt (W.bl k) = Fl.rt (.bl k') ∧ ∃ X, M = M ++ X := ⟨by rw [h], [], by simp⟩
theorem Ok_sAsgP {p : Pat} {e : EM} {s : Sl} {QF : Fl → Mem → Prop} (h : Ok (e s M) fun w M => ∃ s', bindP p w s = some s' ∧ QF (.nx s') M) : Ok (sAsg p e s M) QF := by
  unfold sAsg
  rw [Ok_bnd]
  refine h.mono fun w M' ⟨s', e, q⟩ => ?_
  rw [e]
  exact (Ok_ok _).mpr q
theorem Ok_parti {a b : EM} {s : Sl} {z S : Tx} {Q : W → Mem → Prop} (ha : a s M = ok (.str z) M) (hb : b s M = ok (.str S) M) (hS : S ≠ []) (hl : z.length ≤ 100000) (q : Q (.tup (partW S z)) M) : Ok (eParti a b s M) Q := by
  unfold eParti
  rw [ha]
  show Ok (bnd (b s M) _) Q
  rw [hb]
  show Ok (if decide (S ≠ []) && decide (z.length ≤ 100000) then ok (.tup (partW S z)) M else none) Q
  rw [decide_eq_true hS, decide_eq_true hl]
  exact (Ok_ok _).mpr q
theorem Ok_split {a b : EM} {s : Sl} {z S : Tx} {QL : List W → Mem → Prop} (ha : a s M = ok (.str z) M) (hb : b s M = ok (.str S) M) (hS : S ≠ []) (h2 : S.all (fun c => decide (c < 256)) = true) (hl : z.length ≤ 100000) (q : QL ((TL.spl S 0 [] z).map W.str) M) : Ok (lSplit a b s M) QL := by
  unfold lSplit
  rw [ha]
  show Ok (bnd (b s M) _) QL
  rw [hb]
  show Ok (if decide (S ≠ []) && S.all (fun c => decide (c < 256)) && decide (z.length ≤ 100000) then ok ((TL.spl S 0 [] z).map W.str) M else none) QL
  rw [decide_eq_true hS, decide_eq_true hl, h2]
  exact (Ok_ok _).mpr q
theorem wholeV_non {o : Option Int} : decide (wholeV o = .non) = o.isNone := by cases o <;> rfl
theorem whole_iff {z : Tx} (hl : z.length ≤ 640) {Q : W → Mem → Prop} : Ok (Ru (d + 1) 3 [.str z] M) Q ↔ Q (wholeV (wholeO z)) M := run_iff (whole_in hl)
theorem fracV_D (o : Option (Int × Int)) : isD (fracV o) = true := by cases o <;> rfl
theorem fraction_in {z : Tx} (hl : z.length ≤ 640) : Ru (d + 3) 4 [.str z] M = some (.ok (fracV (fracO z)), M) := by
  refine run_w (n := 6) (b := b4 (Ru (d + 2))) rfl rfl (fracV_D _) ?_
  unfold b4
  rw [Ok_sSeq]
  refine Ok_sAsgP (Ok_parti (z := z) (S := [47]) rfl rfl (by decide) (by omega) ?_)
  unfold partW
  rcases cut47 z with ⟨_, hp, _⟩ | ⟨a, b, hz, ha, hp, _⟩
  · rw [hp]
    have ef : fracO z = (wholeO z).map fun w => (w, 1) := by unfold fracO; rw [hp]
    refine ⟨_, rfl, ?_⟩
    simp only [Ok_sSeq, Ok_sAsg, Ok_sRet, Ok_sExp, Ok_sPass, Ok_sIf, Ok_sFor, Ok_eV, Ok_eC, Ok_eAs1, Ok_eAs0, Ok_eTup, Ok_eNew, Ok_eOp, Ok_eUn, Ok_eCall, Ok_eAnd, Ok_eOr, Ok_eIf, Ok_eL, Ok_lComp, Ok_iSeq, Ok_eTuple, Ok_lOf, setS, start, List.map_cons, List.map_nil, List.length_cons, List.length_nil, Nat.zero_add, Nat.reduceAdd, Nat.reduceSub, List.replicate_succ, List.replicate_zero, List.cons_append, List.nil_append, List.set_cons_succ, List.set_cons_zero, List.getElem?_cons_succ, List.getElem?_cons_zero, Option.some.injEq, exists_eq_left', Ok_uNot, Br_t, Br_f, Bool.not_true, Bool.not_false, whole_iff hl, Ok_eqs]
    simp only [decide_true, Br_t, Ok_isN, wholeV_non, ef]
    cases hw : wholeO z with
    | none => simp only [Option.isNone_none, Br_t]; exact fin_d rfl rfl
    | some w => simp only [Option.isNone_some, Br_f]; exact fin_d rfl rfl
  · rw [hp]
    have la : a.length ≤ 640 ∧ b.length ≤ 640 := by
      rw [hz, List.length_append, List.length_cons] at hl
      omega
    have ef : fracO z = (match wholeO a, wholeO b with
      | some w, some m => if 2 ≤ m ∧ gcdI w m = 1 then some (w, m) else none
      | _, _ => none) := by
      unfold fracO
      simp only [hp]
      first
        | done
        | (cases wholeO a <;> cases wholeO b <;> rfl)
    refine ⟨_, rfl, ?_⟩
    simp only [Ok_sSeq, Ok_sAsg, Ok_sRet, Ok_sExp, Ok_sPass, Ok_sIf, Ok_sFor, Ok_eV, Ok_eC, Ok_eAs1, Ok_eAs0, Ok_eTup, Ok_eNew, Ok_eOp, Ok_eUn, Ok_eCall, Ok_eAnd, Ok_eOr, Ok_eIf, Ok_eL, Ok_lComp, Ok_iSeq, Ok_eTuple, Ok_lOf, setS, start, List.map_cons, List.map_nil, List.length_cons, List.length_nil, Nat.zero_add, Nat.reduceAdd, Nat.reduceSub, List.replicate_succ, List.replicate_zero, List.cons_append, List.nil_append, List.set_cons_succ, List.set_cons_zero, List.getElem?_cons_succ, List.getElem?_cons_zero, Option.some.injEq, exists_eq_left', Ok_uNot, Br_t, Br_f, Bool.not_true, Bool.not_false, whole_iff la.1, whole_iff la.2, Ok_eqs]
    rw [decide_eq_false (by decide), Br_f, Ok_isN, wholeV_non, ef]
    cases hw : wholeO a with
    | none => simp only [Option.isNone_none, Br_t, Ok_isN, wholeV_non]; exact fin_d rfl rfl
    | some w =>
      simp only [Option.isNone_some, Ok_sSeq, Ok_sAsg, Ok_sRet, Ok_sExp, Ok_sPass, Ok_sIf, Ok_sFor, Ok_eV, Ok_eC, Ok_eAs1, Ok_eAs0, Ok_eTup, Ok_eNew, Ok_eOp, Ok_eUn, Ok_eCall, Ok_eAnd, Ok_eOr, Ok_eIf, Ok_eL, Ok_lComp, Ok_iSeq, Ok_eTuple, Ok_lOf, setS, start, List.map_cons, List.map_nil, List.length_cons, List.length_nil, Nat.zero_add, Nat.reduceAdd, Nat.reduceSub, List.replicate_succ, List.replicate_zero, List.cons_append, List.nil_append, List.set_cons_succ, List.set_cons_zero, List.getElem?_cons_succ, List.getElem?_cons_zero, Option.some.injEq, exists_eq_left', Ok_uNot, Br_t, Br_f, Bool.not_true, Bool.not_false, Ok_isN, wholeV_non]
      cases hm : wholeO b with
      | none => simp only [Option.isNone_none, Br_t]; exact fin_d rfl rfl
      | some m =>
        simp only [Option.isNone_some, Ok_sSeq, Ok_sAsg, Ok_sRet, Ok_sExp, Ok_sPass, Ok_sIf, Ok_sFor, Ok_eV, Ok_eC, Ok_eAs1, Ok_eAs0, Ok_eTup, Ok_eNew, Ok_eOp, Ok_eUn, Ok_eCall, Ok_eAnd, Ok_eOr, Ok_eIf, Ok_eL, Ok_lComp, Ok_iSeq, Ok_eTuple, Ok_lOf, setS, start, List.map_cons, List.map_nil, List.length_cons, List.length_nil, Nat.zero_add, Nat.reduceAdd, Nat.reduceSub, List.replicate_succ, List.replicate_zero, List.cons_append, List.nil_append, List.set_cons_succ, List.set_cons_zero, List.getElem?_cons_succ, List.getElem?_cons_zero, Option.some.injEq, exists_eq_left', Ok_uNot, Br_t, Br_f, Bool.not_true, Bool.not_false, wholeV, Ok_lt]
        by_cases h2 : m < 2
        · rw [decide_eq_true h2, Br_t]
          exact fin_d rfl (by rw [if_neg (by omega)]; rfl)
        · rw [decide_eq_false h2, Br_f]
          have hm0 : 0 < m := by omega
          refine Ok.eq (fraction (d := d) hm0 ⟨whole_small hw la.1, whole_small hm la.2⟩) ?_
          rw [Ok_neD rfl rfl (by simp [lowW, dep, deps]) (by simp [dep, deps]), low_eq hm0]
          by_cases hg : gcdI w m = 1
          · rw [decide_eq_true hg]
            exact fin_d rfl (by rw [if_pos ⟨by omega, hg⟩]; rfl)
          · rw [decide_eq_false hg]
            exact fin_d rfl (by rw [if_neg fun h => hg h.2]; rfl)
theorem frac_iff {z : Tx} (hl : z.length ≤ 640) {Q : W → Mem → Prop} : Ok (Ru (d + 3) 4 [.str z] M) Q ↔ Q (fracV (fracO z)) M := run_iff (fraction_in hl)
/-! the law's own -/
theorem Ok_forS {f : Nat → Bool} {b : SM} {s : Sl} {i : Nat} {QF : Fl → Mem → Prop} (hs : ∀ (c : Nat) (s' : Sl), (∃ v, s' = s.set i v) → Ok (b (s'.set i (some (.str [c]))) M) fun fl M' => M' = M ∧ fl = if f c then .nx (s'.set i (some (.str [c]))) else .rt (.bl false))
    (hi : ∀ u v : Option W, (s.set i u).set i v = s.set i v) : ∀ (z : Tx) (s' : Sl), (∃ v, s' = s.set i v) → (z.all f = true → ∀ s'', (∃ v, s'' = s.set i v) → QF (.nx s'') M) → (z.all f = false → QF (.rt (.bl false)) M) →
      Ok (forL none (.one i) b (z.map fun c => .str [c]) s' M) QF
  | [], s', h, q, _ => by
    rw [List.map_nil, forL_nil rfl, Ok_ok]
    exact q rfl s' h
  | c :: z, s', h, q, q' => by
    rw [List.map_cons, forL_cons rfl (show bindP (.one i) (.str [c]) s' = some (s'.set i (some (.str [c]))) from rfl), Ok_bnd]
    refine (hs c s' h).mono fun fl M' ⟨e1, e2⟩ => ?_
    have e1 := e1.symm
    subst e1
    cases hc : f c
    · rw [hc] at e2
      subst e2
      exact (Ok_ok _).mpr (q' (by simp [hc]))
    · rw [hc] at e2
      subst e2
      obtain ⟨v, rfl⟩ := h
      exact Ok_forS hs hi z _ ⟨_, hi _ _⟩ (fun hz => q (by simp [hc, hz])) fun hz => q' (by simp [hc, hz])
theorem figures {z : Tx} (hl : z.length ≤ 640) : Ru (d + 1) 12 [.str z] M = some (.ok (.bl (figB z)), M) := by
  refine run_b (n := 2) (b := b12 (Ru d)) rfl rfl ?_
  unfold b12
  simp only [Ok_sSeq, Ok_sAsg, Ok_sRet, Ok_sExp, Ok_sPass, Ok_sIf, Ok_sFor, Ok_eV, Ok_eC, Ok_eAs1, Ok_eAs0, Ok_eTup, Ok_eNew, Ok_eOp, Ok_eUn, Ok_eCall, Ok_eAnd, Ok_eOr, Ok_eIf, Ok_eL, Ok_lComp, Ok_iSeq, Ok_eTuple, Ok_lOf, setS, start, List.map_cons, List.map_nil, List.length_cons, List.length_nil, Nat.zero_add, Nat.reduceAdd, Nat.reduceSub, List.replicate_succ, List.replicate_zero, List.cons_append, List.nil_append, List.set_cons_succ, List.set_cons_zero, List.getElem?_cons_succ, List.getElem?_cons_zero, Option.some.injEq, exists_eq_left', Ok_uNot, Br_t, Br_f, Bool.not_true, Bool.not_false]
  refine (Ok_seq_str (z := z)).mpr ?_
  refine Ok_forS (f := fun c => decide (48 ≤ c) && decide (c ≤ 57)) (s := [some (.str z), none]) (fun c s' h => ?_) (fun u v => rfl) z _ ⟨none, rfl⟩ (fun hz s'' h => ?_) fun hz => ?_
  · obtain ⟨v, rfl⟩ := h
    simp only [Ok_sSeq, Ok_sAsg, Ok_sRet, Ok_sExp, Ok_sPass, Ok_sIf, Ok_sFor, Ok_eV, Ok_eC, Ok_eAs1, Ok_eAs0, Ok_eTup, Ok_eNew, Ok_eOp, Ok_eUn, Ok_eCall, Ok_eAnd, Ok_eOr, Ok_eIf, Ok_eL, Ok_lComp, Ok_iSeq, Ok_eTuple, Ok_lOf, setS, start, List.map_cons, List.map_nil, List.length_cons, List.length_nil, Nat.zero_add, Nat.reduceAdd, Nat.reduceSub, List.replicate_succ, List.replicate_zero, List.cons_append, List.nil_append, List.set_cons_succ, List.set_cons_zero, List.getElem?_cons_succ, List.getElem?_cons_zero, Option.some.injEq, exists_eq_left', Ok_uNot, Br_t, Br_f, Bool.not_true, Bool.not_false]
    refine Ok_niS.mpr ?_
    have e : decide (c ∈ ([48, 49, 50, 51, 52, 53, 54, 55, 56, 57] : Tx)) = (decide (48 ≤ c) && decide (c ≤ 57)) := by
      rw [← Bool.decide_and]
      exact decide_eq_decide.mpr digs
    rw [e]
    cases (decide (48 ≤ c) && decide (c ≤ 57)) <;> exact ⟨rfl, rfl⟩
  · obtain ⟨v, rfl⟩ := h
    have hd : digB z = true := hz
    simp only [Ok_sSeq, Ok_sAsg, Ok_sRet, Ok_sExp, Ok_sPass, Ok_sIf, Ok_sFor, Ok_eV, Ok_eC, Ok_eAs1, Ok_eAs0, Ok_eTup, Ok_eNew, Ok_eOp, Ok_eUn, Ok_eCall, Ok_eAnd, Ok_eOr, Ok_eIf, Ok_eL, Ok_lComp, Ok_iSeq, Ok_eTuple, Ok_lOf, setS, start, List.map_cons, List.map_nil, List.length_cons, List.length_nil, Nat.zero_add, Nat.reduceAdd, Nat.reduceSub, List.replicate_succ, List.replicate_zero, List.cons_append, List.nil_append, List.set_cons_succ, List.set_cons_zero, List.getElem?_cons_succ, List.getElem?_cons_zero, Option.some.injEq, exists_eq_left', Ok_uNot, Br_t, Br_f, Bool.not_true, Bool.not_false, Ok_nes]
    cases z with
    | nil => exact fin_b' rfl
    | cons c r =>
      rw [decide_eq_false (by simp), Bool.not_false, Br_t, Ok_ixS0 (by omega), Ok_nes]
      have fe : figB (c :: r) = (!decide (c = 48) || decide (c :: r = [48])) := by
        unfold figB
        rw [hd]
        simp
      rw [fe]
      by_cases hc : c = 48
      · subst hc
        simp only [decide_true, Ok_sSeq, Ok_sAsg, Ok_sRet, Ok_sExp, Ok_sPass, Ok_sIf, Ok_sFor, Ok_eV, Ok_eC, Ok_eAs1, Ok_eAs0, Ok_eTup, Ok_eNew, Ok_eOp, Ok_eUn, Ok_eCall, Ok_eAnd, Ok_eOr, Ok_eIf, Ok_eL, Ok_lComp, Ok_iSeq, Ok_eTuple, Ok_lOf, setS, start, List.map_cons, List.map_nil, List.length_cons, List.length_nil, Nat.zero_add, Nat.reduceAdd, Nat.reduceSub, List.replicate_succ, List.replicate_zero, List.cons_append, List.nil_append, List.set_cons_succ, List.set_cons_zero, List.getElem?_cons_succ, List.getElem?_cons_zero, Option.some.injEq, exists_eq_left', Ok_uNot, Br_t, Br_f, Bool.not_true, Bool.not_false, Ok_eqs]
        exact fin_b' rfl
      · have : decide (([c] : Tx) = [48]) = false := decide_eq_false (by simpa using hc)
        rw [this]
        simp only [Ok_sSeq, Ok_sAsg, Ok_sRet, Ok_sExp, Ok_sPass, Ok_sIf, Ok_sFor, Ok_eV, Ok_eC, Ok_eAs1, Ok_eAs0, Ok_eTup, Ok_eNew, Ok_eOp, Ok_eUn, Ok_eCall, Ok_eAnd, Ok_eOr, Ok_eIf, Ok_eL, Ok_lComp, Ok_iSeq, Ok_eTuple, Ok_lOf, setS, start, List.map_cons, List.map_nil, List.length_cons, List.length_nil, Nat.zero_add, Nat.reduceAdd, Nat.reduceSub, List.replicate_succ, List.replicate_zero, List.cons_append, List.nil_append, List.set_cons_succ, List.set_cons_zero, List.getElem?_cons_succ, List.getElem?_cons_zero, Option.some.injEq, exists_eq_left', Ok_uNot, Br_t, Br_f, Bool.not_true, Bool.not_false, decide_eq_false hc]
        exact fin_b' rfl
  · have : figB z = false := by unfold figB; rw [show digB z = false from hz]; rfl
    rw [this]
    exact ⟨rfl, [], by simp⟩
theorem figures_iff {z : Tx} (hl : z.length ≤ 640) {Q : W → Mem → Prop} : Ok (Ru (d + 1) 12 [.str z] M) Q ↔ Q (.bl (figB z)) M := run_iff (figures hl)
end
end Sw.smallword_k85_lines_refused

set_option autoImplicit false
set_option linter.all false
set_option maxRecDepth 10000
set_option exponentiation.threshold 9000
/-! The law's own fractions and names. -/
namespace Sw.smallword_k85_lines_refused
open Sw
theorem spl_ne (S z : Tx) (hS : S ≠ []) : TL.spl S 0 [] z ≠ [] := by
  have : ∀ (z acc : Tx) (k : Nat), TL.spl S k acc z ≠ [] := by
    intro z
    induction z with
    | nil => intro acc k; rw [TL.spl_nil]; simp
    | cons c r ih =>
      intro acc k
      cases k with
      | zero =>
        unfold TL.spl
        split
        · simp
        · exact ih _ _
      | succ k => unfold TL.spl; exact ih _ _
  exact this z [] 0
theorem spl_le (S : Tx) : ∀ (z acc : Tx) (k : Nat), (TL.spl S k acc z).length ≤ z.length + 1 := by
  intro z
  induction z with
  | nil => intro acc k; rw [TL.spl_nil]; simp
  | cons c r ih =>
    intro acc k
    cases k with
    | zero =>
      unfold TL.spl
      split
      · have := ih [] (S.length - 1)
        simp only [List.length_cons]
        omega
      · have := ih (acc ++ [c]) 0
        simp only [List.length_cons]
        omega
    | succ k =>
      unfold TL.spl
      have := ih acc k
      simp only [List.length_cons]
      omega
/-- how the law's cut stands to the program's -/
theorem lf_cases {z : Tx} (hl : z.length ≤ 640) : ∃ h0 rs, TL.spl [47] 0 [] z = h0 :: rs ∧ h0.length ≤ 640 ∧
    ((rs = [] ∧ h0 = z ∧ fracO z = (wholeO z).map fun w => (w, 1)) ∨ (∃ b, rs = [b] ∧ b.length ≤ 640 ∧ fracO z = (match wholeO h0, wholeO b with
      | some w, some m => if 2 ≤ m ∧ gcdI w m = 1 then some (w, m) else none
      | _, _ => none)) ∨ (2 ≤ rs.length ∧ rs.length ≤ 1000 ∧ fracO z = none)) := by
  rcases cut47 z with ⟨_, hp, hs⟩ | ⟨a, b, hz, ha, hp, hs⟩
  · exact ⟨z, [], hs, hl, .inl ⟨rfl, rfl, by unfold fracO; rw [hp]⟩⟩
  · have la : a.length ≤ 640 ∧ b.length ≤ 640 := by
      rw [hz, List.length_append, List.length_cons] at hl
      omega
    have ef : fracO z = (match wholeO a, wholeO b with
      | some w, some m => if 2 ≤ m ∧ gcdI w m = 1 then some (w, m) else none
      | _, _ => none) := by
      unfold fracO
      simp only [hp]
      first
        | done
        | (cases wholeO a <;> cases wholeO b <;> rfl)
    rcases cut47 b with ⟨hb, _, hsb⟩ | ⟨a', b', hb, _, _, hsb⟩
    · exact ⟨a, [b], by rw [hs, hsb], la.1, .inr (.inl ⟨b, rfl, la.2, ef⟩)⟩
    · refine ⟨a, _, hs, la.1, .inr (.inr ⟨?_, ?_, ?_⟩)⟩
      · rw [hsb, List.length_cons]
        have := List.length_pos_iff.mpr (spl_ne [47] b' (by simp))
        omega
      · have := spl_le [47] b [] 0
        omega
      · rw [ef, whole47 (z := b) (by rw [hb]; simp)]
        cases wholeO a <;> rfl
section
variable {d : Nat} {M : Mem}
theorem Ok_ixR {j : Nat} {ws : List W} {i : Int} {Q : W → Mem → Prop} (h : M[j]? = some (.lst ws)) : Ok (oIx (.ref j) (.int i) M) Q ↔ Ok (atW ws i M) Q := Ok_ixRef h
theorem law_fraction {z : Tx} (hl : z.length ≤ 640) : Ru (d + 2) 13 [.str z] M = some (.ok (fracV (fracO z)), M) := by
  refine run_w (n := 6) (b := b13 (Ru (d + 1))) rfl rfl (fracV_D _) ?_
  obtain ⟨h0, rs, hs, l0, hc⟩ := lf_cases hl
  unfold b13
  rw [Ok_sSeq, Ok_sAsg, Ok_eNew]
  refine Ok_split (z := z) (S := [47]) rfl rfl (by decide) (by decide) (by omega) ?_
  rw [hs, List.map_cons]
  generalize hN : M ++ [O.lst (W.str h0 :: rs.map W.str)] = N
  have hj : N[M.length]? = some (.lst (W.str h0 :: rs.map W.str)) := by rw [← hN]; exact get_new
  have ix0 : ∀ {Q : W → Mem → Prop}, Ok (oIx (.ref M.length) (.int 0) N) Q ↔ Q (.str h0) N := fun {Q} => by rw [Ok_ixRef hj, Ok_at0]
  have fin : ∀ {w w' : W}, w = w' → Fl.rt w = Fl.rt w' ∧ ∃ X, N = M ++ X := fun h => ⟨by rw [h], _, hN.symm⟩
  have hb0 : (bare h0).length ≤ 640 := Nat.le_trans bare_len l0
  have e2 : sAsg (.one 2) (eIf (eOp oEq (eSlS (eOp oIx (eV 1) (eC (.int 0))) none (some (eC (.int 1)))) (eC (.str [45]))) (eSlS (eOp oIx (eV 1) (eC (.int 0))) (some (eC (.int 1))) none) (eOp oIx (eV 1) (eC (.int 0)))) [some (.str z), some (.ref M.length), none, none, none, none] N
      = some (.ok (.nx [some (.str z), some (.ref M.length), some (.str (bare h0)), none, none, none]), N) := by
    refine Ok.of_eq ?_
    rw [Ok_sAsg, Ok_eIf, Ok_eOp]
    refine Ok_slS (f := id) (z := h0) (by simp only [Ok_sSeq, Ok_sAsg, Ok_sRet, Ok_sExp, Ok_sPass, Ok_sIf, Ok_sFor, Ok_eV, Ok_eC, Ok_eAs1, Ok_eAs0, Ok_eTup, Ok_eNew, Ok_eOp, Ok_eUn, Ok_eCall, Ok_eAnd, Ok_eOr, Ok_eIf, Ok_eL, Ok_lComp, Ok_iSeq, Ok_eTuple, Ok_lOf, setS, start, List.map_cons, List.map_nil, List.length_cons, List.length_nil, Nat.zero_add, Nat.reduceAdd, Nat.reduceSub, List.replicate_succ, List.replicate_zero, List.cons_append, List.nil_append, List.set_cons_succ, List.set_cons_zero, List.getElem?_cons_succ, List.getElem?_cons_zero, Option.some.injEq, exists_eq_left', Ok_uNot, Br_t, Br_f, Bool.not_true, Bool.not_false, ix0]; exact ⟨trivial, trivial⟩) (by omega) none (some 1) rfl rfl ?_
    rw [cut_take1, Ok_eC, Ok_eqs]
    by_cases h : h0.take 1 = [45]
    · rw [decide_eq_true h, Br_t]
      refine Ok_slS (f := id) (z := h0) (by simp only [Ok_sSeq, Ok_sAsg, Ok_sRet, Ok_sExp, Ok_sPass, Ok_sIf, Ok_sFor, Ok_eV, Ok_eC, Ok_eAs1, Ok_eAs0, Ok_eTup, Ok_eNew, Ok_eOp, Ok_eUn, Ok_eCall, Ok_eAnd, Ok_eOr, Ok_eIf, Ok_eL, Ok_lComp, Ok_iSeq, Ok_eTuple, Ok_lOf, setS, start, List.map_cons, List.map_nil, List.length_cons, List.length_nil, Nat.zero_add, Nat.reduceAdd, Nat.reduceSub, List.replicate_succ, List.replicate_zero, List.cons_append, List.nil_append, List.set_cons_succ, List.set_cons_zero, List.getElem?_cons_succ, List.getElem?_cons_zero, Option.some.injEq, exists_eq_left', Ok_uNot, Br_t, Br_f, Bool.not_true, Bool.not_false, ix0]; exact ⟨trivial, trivial⟩) (by omega) (some 1) none rfl rfl ?_
      have : bare h0 = h0.drop 1 := by unfold bare; rw [if_pos h]
      rw [cut_drop1, this]
      exact ⟨rfl, rfl⟩
    · rw [decide_eq_false h, Br_f, bare_pos h]
      simp only [Ok_sSeq, Ok_sAsg, Ok_sRet, Ok_sExp, Ok_sPass, Ok_sIf, Ok_sFor, Ok_eV, Ok_eC, Ok_eAs1, Ok_eAs0, Ok_eTup, Ok_eNew, Ok_eOp, Ok_eUn, Ok_eCall, Ok_eAnd, Ok_eOr, Ok_eIf, Ok_eL, Ok_lComp, Ok_iSeq, Ok_eTuple, Ok_lOf, setS, start, List.map_cons, List.map_nil, List.length_cons, List.length_nil, Nat.zero_add, Nat.reduceAdd, Nat.reduceSub, List.replicate_succ, List.replicate_zero, List.cons_append, List.nil_append, List.set_cons_succ, List.set_cons_zero, List.getElem?_cons_succ, List.getElem?_cons_zero, Option.some.injEq, exists_eq_left', Ok_uNot, Br_t, Br_f, Bool.not_true, Bool.not_false, ix0]
      exact ⟨trivial, trivial⟩
  show Ok (sSeq _ _ [some (.str z), some (.ref M.length), none, none, none, none] N) _
  rw [Ok_sSeq]
  refine Ok.eq e2 ?_
  simp only [Ok_sSeq, Ok_sAsg, Ok_sRet, Ok_sExp, Ok_sPass, Ok_sIf, Ok_sFor, Ok_eV, Ok_eC, Ok_eAs1, Ok_eAs0, Ok_eTup, Ok_eNew, Ok_eOp, Ok_eUn, Ok_eCall, Ok_eAnd, Ok_eOr, Ok_eIf, Ok_eL, Ok_lComp, Ok_iSeq, Ok_eTuple, Ok_lOf, setS, start, List.map_cons, List.map_nil, List.length_cons, List.length_nil, Nat.zero_add, Nat.reduceAdd, Nat.reduceSub, List.replicate_succ, List.replicate_zero, List.cons_append, List.nil_append, List.set_cons_succ, List.set_cons_zero, List.getElem?_cons_succ, List.getElem?_cons_zero, Option.some.injEq, exists_eq_left', Ok_uNot, Br_t, Br_f, Bool.not_true, Bool.not_false, Ok_lenRef hj, Ok_gt, figures_iff hb0, ix0, Ok_eqs, Ok_eqi]
  have neg0 : figB (bare h0) = true → h0 ≠ [45, 48] → wholeO h0 = some (valI h0) := fun h h' => by
    unfold wholeO
    rw [h, decide_eq_false h']
    rfl
  have non1 : figB (bare h0) = false → wholeO h0 = none := fun h => by unfold wholeO; rw [h]; rfl
  have non2 : h0 = [45, 48] → wholeO h0 = none := fun h => by rw [h]; rfl
  have lastN : fracO z = none → Fl.rt W.non = Fl.rt (fracV (fracO z)) ∧ ∃ X, N = M ++ X := fun h => by rw [h]; exact fin rfl
  rcases hc with ⟨rfl, rfl, hf⟩ | ⟨b, rfl, lb, hf⟩ | ⟨l2, lm, hf⟩
  · -- one half
    rw [decide_eq_false (by simp), Br_f]
    cases hfig : figB (bare h0)
    · simp only [Ok_sSeq, Ok_sAsg, Ok_sRet, Ok_sExp, Ok_sPass, Ok_sIf, Ok_sFor, Ok_eV, Ok_eC, Ok_eAs1, Ok_eAs0, Ok_eTup, Ok_eNew, Ok_eOp, Ok_eUn, Ok_eCall, Ok_eAnd, Ok_eOr, Ok_eIf, Ok_eL, Ok_lComp, Ok_iSeq, Ok_eTuple, Ok_lOf, setS, start, List.map_cons, List.map_nil, List.length_cons, List.length_nil, Nat.zero_add, Nat.reduceAdd, Nat.reduceSub, List.replicate_succ, List.replicate_zero, List.cons_append, List.nil_append, List.set_cons_succ, List.set_cons_zero, List.getElem?_cons_succ, List.getElem?_cons_zero, Option.some.injEq, exists_eq_left', Ok_uNot, Br_t, Br_f, Bool.not_true, Bool.not_false]
      exact lastN (by rw [hf, non1 hfig]; rfl)
    · simp only [Ok_sSeq, Ok_sAsg, Ok_sRet, Ok_sExp, Ok_sPass, Ok_sIf, Ok_sFor, Ok_eV, Ok_eC, Ok_eAs1, Ok_eAs0, Ok_eTup, Ok_eNew, Ok_eOp, Ok_eUn, Ok_eCall, Ok_eAnd, Ok_eOr, Ok_eIf, Ok_eL, Ok_lComp, Ok_iSeq, Ok_eTuple, Ok_lOf, setS, start, List.map_cons, List.map_nil, List.length_cons, List.length_nil, Nat.zero_add, Nat.reduceAdd, Nat.reduceSub, List.replicate_succ, List.replicate_zero, List.cons_append, List.nil_append, List.set_cons_succ, List.set_cons_zero, List.getElem?_cons_succ, List.getElem?_cons_zero, Option.some.injEq, exists_eq_left', Ok_uNot, Br_t, Br_f, Bool.not_true, Bool.not_false]
      by_cases h48 : h0 = [45, 48]
      · rw [decide_eq_true h48, Br_t]
        exact lastN (by rw [hf, non2 h48]; rfl)
      · rw [decide_eq_false h48, Br_f, decide_eq_true (by simp), Br_t, Ok_intT hfig l0]
        exact fin (by rw [hf, neg0 hfig h48]; rfl)
  · -- two halves
    have ix1 : ∀ {Q : W → Mem → Prop}, Ok (oIx (.ref M.length) (.int 1) N) Q ↔ Q (.str b) N := fun {Q} => by rw [Ok_ixRef hj, List.map_cons, Ok_at1]
    have non3 : wholeO h0 = none → fracO z = none := fun h => by rw [hf, h]
    have non4 : ∀ w, wholeO b = some w → w < 2 → fracO z = none := fun w h h2 => by
      rw [hf, h]
      cases wholeO h0 with
      | none => rfl
      | some x => simp only []; rw [if_neg (by omega)]
    rw [decide_eq_false (by simp), Br_f]
    cases hfig : figB (bare h0)
    · simp only [Ok_sSeq, Ok_sAsg, Ok_sRet, Ok_sExp, Ok_sPass, Ok_sIf, Ok_sFor, Ok_eV, Ok_eC, Ok_eAs1, Ok_eAs0, Ok_eTup, Ok_eNew, Ok_eOp, Ok_eUn, Ok_eCall, Ok_eAnd, Ok_eOr, Ok_eIf, Ok_eL, Ok_lComp, Ok_iSeq, Ok_eTuple, Ok_lOf, setS, start, List.map_cons, List.map_nil, List.length_cons, List.length_nil, Nat.zero_add, Nat.reduceAdd, Nat.reduceSub, List.replicate_succ, List.replicate_zero, List.cons_append, List.nil_append, List.set_cons_succ, List.set_cons_zero, List.getElem?_cons_succ, List.getElem?_cons_zero, Option.some.injEq, exists_eq_left', Ok_uNot, Br_t, Br_f, Bool.not_true, Bool.not_false]
      exact lastN (non3 (non1 hfig))
    · simp only [Ok_sSeq, Ok_sAsg, Ok_sRet, Ok_sExp, Ok_sPass, Ok_sIf, Ok_sFor, Ok_eV, Ok_eC, Ok_eAs1, Ok_eAs0, Ok_eTup, Ok_eNew, Ok_eOp, Ok_eUn, Ok_eCall, Ok_eAnd, Ok_eOr, Ok_eIf, Ok_eL, Ok_lComp, Ok_iSeq, Ok_eTuple, Ok_lOf, setS, start, List.map_cons, List.map_nil, List.length_cons, List.length_nil, Nat.zero_add, Nat.reduceAdd, Nat.reduceSub, List.replicate_succ, List.replicate_zero, List.cons_append, List.nil_append, List.set_cons_succ, List.set_cons_zero, List.getElem?_cons_succ, List.getElem?_cons_zero, Option.some.injEq, exists_eq_left', Ok_uNot, Br_t, Br_f, Bool.not_true, Bool.not_false]
      by_cases h48 : h0 = [45, 48]
      · rw [decide_eq_true h48, Br_t]
        exact lastN (non3 (non2 h48))
      · rw [decide_eq_false h48, Br_f, decide_eq_false (by simp), Br_f]
        simp only [Ok_sSeq, Ok_sAsg, Ok_sRet, Ok_sExp, Ok_sPass, Ok_sIf, Ok_sFor, Ok_eV, Ok_eC, Ok_eAs1, Ok_eAs0, Ok_eTup, Ok_eNew, Ok_eOp, Ok_eUn, Ok_eCall, Ok_eAnd, Ok_eOr, Ok_eIf, Ok_eL, Ok_lComp, Ok_iSeq, Ok_eTuple, Ok_lOf, setS, start, List.map_cons, List.map_nil, List.length_cons, List.length_nil, Nat.zero_add, Nat.reduceAdd, Nat.reduceSub, List.replicate_succ, List.replicate_zero, List.cons_append, List.nil_append, List.set_cons_succ, List.set_cons_zero, List.getElem?_cons_succ, List.getElem?_cons_zero, Option.some.injEq, exists_eq_left', Ok_uNot, Br_t, Br_f, Bool.not_true, Bool.not_false, ix1, figures_iff lb]
        cases hfb : figB b
        · simp only [Ok_sSeq, Ok_sAsg, Ok_sRet, Ok_sExp, Ok_sPass, Ok_sIf, Ok_sFor, Ok_eV, Ok_eC, Ok_eAs1, Ok_eAs0, Ok_eTup, Ok_eNew, Ok_eOp, Ok_eUn, Ok_eCall, Ok_eAnd, Ok_eOr, Ok_eIf, Ok_eL, Ok_lComp, Ok_iSeq, Ok_eTuple, Ok_lOf, setS, start, List.map_cons, List.map_nil, List.length_cons, List.length_nil, Nat.zero_add, Nat.reduceAdd, Nat.reduceSub, List.replicate_succ, List.replicate_zero, List.cons_append, List.nil_append, List.set_cons_succ, List.set_cons_zero, List.getElem?_cons_succ, List.getElem?_cons_zero, Option.some.injEq, exists_eq_left', Ok_uNot, Br_t, Br_f, Bool.not_true, Bool.not_false]
          refine lastN ?_
          cases hwb : wholeO b with
          | none => rw [hf, hwb]; cases wholeO h0 <;> rfl
          | some m =>
            refine non4 m hwb (Int.lt_of_not_ge fun h2 => ?_)
            rw [(whole_two hwb h2).1] at hfb
            cases hfb
        · have hbb : bare b = b := bare_pos (fig_pos hfb)
          have hvb : valI b = (valN b : Int) := valI_pos (fig_pos hfb)
          have hwb : wholeO b = some (valN b : Int) := whole_fig hfb
          have hbf : figB (bare b) = true := by rw [hbb]; exact hfb
          have hh : figB (bare (bare h0)) = true := by rw [bare_pos (fig_pos hfig)]; exact hfig
          have hvh : valI (bare h0) = (valN (bare h0) : Int) := valI_pos (fig_pos hfig)
          have hw0 := neg0 hfig h48
          simp only [Ok_sSeq, Ok_sAsg, Ok_sRet, Ok_sExp, Ok_sPass, Ok_sIf, Ok_sFor, Ok_eV, Ok_eC, Ok_eAs1, Ok_eAs0, Ok_eTup, Ok_eNew, Ok_eOp, Ok_eUn, Ok_eCall, Ok_eAnd, Ok_eOr, Ok_eIf, Ok_eL, Ok_lComp, Ok_iSeq, Ok_eTuple, Ok_lOf, setS, start, List.map_cons, List.map_nil, List.length_cons, List.length_nil, Nat.zero_add, Nat.reduceAdd, Nat.reduceSub, List.replicate_succ, List.replicate_zero, List.cons_append, List.nil_append, List.set_cons_succ, List.set_cons_zero, List.getElem?_cons_succ, List.getElem?_cons_zero, Option.some.injEq, exists_eq_left', Ok_uNot, Br_t, Br_f, Bool.not_true, Bool.not_false]
          rw [Ok_intT hbf lb, hvb, Ok_lt]
          by_cases h2 : (valN b : Int) < 2
          · rw [decide_eq_true h2, Br_t]
            exact lastN (non4 _ hwb h2)
          · rw [decide_eq_false h2, Br_f, Ok_intT hh hb0, hvh, Ok_eqi]
            have gz : gcdI (valI h0) (valN b) = gcdI (valN (bare h0)) (valN b) := gcd_natAbs (by rw [valI_abs]; simp)
            have ff : fracO z = if gcdI (valN (bare h0)) (valN b) = 1 then some (valI h0, (valN b : Int)) else none := by
              rw [hf, hw0, hwb]
              simp only []
              rw [gz]
              by_cases hg : gcdI (valN (bare h0)) (valN b) = 1
              · rw [if_pos hg, if_pos ⟨by omega, hg⟩]
              · rw [if_neg hg, if_neg fun h => hg h.2]
            by_cases hz0 : ((valN (bare h0) : Nat) : Int) = 0
            · rw [decide_eq_true hz0, Br_t]
              refine lastN ?_
              rw [ff, hz0, if_neg]
              unfold gcdI
              simp [Int.gcd]
              omega
            · rw [decide_eq_false hz0]
              simp only [Ok_sSeq, Ok_sAsg, Ok_sRet, Ok_sExp, Ok_sPass, Ok_sIf, Ok_sFor, Ok_eV, Ok_eC, Ok_eAs1, Ok_eAs0, Ok_eTup, Ok_eNew, Ok_eOp, Ok_eUn, Ok_eCall, Ok_eAnd, Ok_eOr, Ok_eIf, Ok_eL, Ok_lComp, Ok_iSeq, Ok_eTuple, Ok_lOf, setS, start, List.map_cons, List.map_nil, List.length_cons, List.length_nil, Nat.zero_add, Nat.reduceAdd, Nat.reduceSub, List.replicate_succ, List.replicate_zero, List.cons_append, List.nil_append, List.set_cons_succ, List.set_cons_zero, List.getElem?_cons_succ, List.getElem?_cons_zero, Option.some.injEq, exists_eq_left', Ok_uNot, Br_t, Br_f, Bool.not_true, Bool.not_false, Ok_intT hh hb0, hvh]
              rw [ix1, Ok_intT hbf lb, hvb]
              have small : gms (valN (bare h0)) (valN b) < 99000 := by
                have h := SmI.gms (n := (valN (bare h0) : Int)) (m := (valN b : Int)) ⟨by simpa using valN_small (figB_dig hfig).1 hb0, by simpa using valN_small (figB_dig hfb).1 lb⟩
                simpa using h
              show Ok (whL _ _ 100000 _ _) _
              refine Ok_wh (fun n s M' => M' = N ∧ ∃ a' b' v, s = [some (.str z), some (.ref M.length), some (.str (bare h0)), some (.int a'), some (.int b'), v] ∧ n = gms a' b' ∧ 0 ≤ a' ∧ 0 ≤ b' ∧ gcdI a' b' = gcdI (valN (bare h0)) (valN b))
                (fun n s M' ⟨eM, a', b', v, es, en, h1, h2, h3⟩ => ?_) 100000 _ _ N (Nat.lt_trans small (by decide)) ⟨rfl, _, _, none, rfl, rfl, by omega, by omega, rfl⟩
              have eM := eM.symm
              subst eM es en
              simp only [Ok_sSeq, Ok_sAsg, Ok_sRet, Ok_sExp, Ok_sPass, Ok_sIf, Ok_sFor, Ok_eV, Ok_eC, Ok_eAs1, Ok_eAs0, Ok_eTup, Ok_eNew, Ok_eOp, Ok_eUn, Ok_eCall, Ok_eAnd, Ok_eOr, Ok_eIf, Ok_eL, Ok_lComp, Ok_iSeq, Ok_eTuple, Ok_lOf, setS, start, List.map_cons, List.map_nil, List.length_cons, List.length_nil, Nat.zero_add, Nat.reduceAdd, Nat.reduceSub, List.replicate_succ, List.replicate_zero, List.cons_append, List.nil_append, List.set_cons_succ, List.set_cons_zero, List.getElem?_cons_succ, List.getElem?_cons_zero, Option.some.injEq, exists_eq_left', Ok_uNot, Br_t, Br_f, Bool.not_true, Bool.not_false, Ok_gt]
              rw [Br_b]
              refine ⟨fun h0' => ?_, fun h0' => ?_⟩
              · have h0' : 0 < b' := by simpa using h0'
                simp only [Ok_sSeq, Ok_sAsg, Ok_sRet, Ok_sExp, Ok_sPass, Ok_sIf, Ok_sFor, Ok_eV, Ok_eC, Ok_eAs1, Ok_eAs0, Ok_eTup, Ok_eNew, Ok_eOp, Ok_eUn, Ok_eCall, Ok_eAnd, Ok_eOr, Ok_eIf, Ok_eL, Ok_lComp, Ok_iSeq, Ok_eTuple, Ok_lOf, setS, start, List.map_cons, List.map_nil, List.length_cons, List.length_nil, Nat.zero_add, Nat.reduceAdd, Nat.reduceSub, List.replicate_succ, List.replicate_zero, List.cons_append, List.nil_append, List.set_cons_succ, List.set_cons_zero, List.getElem?_cons_succ, List.getElem?_cons_zero, Option.some.injEq, exists_eq_left', Ok_uNot, Br_t, Br_f, Bool.not_true, Bool.not_false, Ok_mod]
                exact ⟨h0', _, gms_lt h1 h0', trivial, _, _, _, rfl, rfl, h2, Int.emod_nonneg _ (by omega), by rw [← h3]; exact (gcd_step h1 h0').symm⟩
              · have h0' : b' = 0 := by
                  have : ¬ 0 < b' := by simpa using h0'
                  omega
                subst h0'
                rw [gcdI_zero h1] at h3
                simp only [Ok_sSeq, Ok_sAsg, Ok_sRet, Ok_sExp, Ok_sPass, Ok_sIf, Ok_sFor, Ok_eV, Ok_eC, Ok_eAs1, Ok_eAs0, Ok_eTup, Ok_eNew, Ok_eOp, Ok_eUn, Ok_eCall, Ok_eAnd, Ok_eOr, Ok_eIf, Ok_eL, Ok_lComp, Ok_iSeq, Ok_eTuple, Ok_lOf, setS, start, List.map_cons, List.map_nil, List.length_cons, List.length_nil, Nat.zero_add, Nat.reduceAdd, Nat.reduceSub, List.replicate_succ, List.replicate_zero, List.cons_append, List.nil_append, List.set_cons_succ, List.set_cons_zero, List.getElem?_cons_succ, List.getElem?_cons_zero, Option.some.injEq, exists_eq_left', Ok_uNot, Br_t, Br_f, Bool.not_true, Bool.not_false, Ok_eqi, ix0, ix1]
                rw [h3]
                by_cases hg : gcdI (valN (bare h0)) (valN b) = 1
                · rw [decide_eq_true hg]
                  simp only [Ok_sSeq, Ok_sAsg, Ok_sRet, Ok_sExp, Ok_sPass, Ok_sIf, Ok_sFor, Ok_eV, Ok_eC, Ok_eAs1, Ok_eAs0, Ok_eTup, Ok_eNew, Ok_eOp, Ok_eUn, Ok_eCall, Ok_eAnd, Ok_eOr, Ok_eIf, Ok_eL, Ok_lComp, Ok_iSeq, Ok_eTuple, Ok_lOf, setS, start, List.map_cons, List.map_nil, List.length_cons, List.length_nil, Nat.zero_add, Nat.reduceAdd, Nat.reduceSub, List.replicate_succ, List.replicate_zero, List.cons_append, List.nil_append, List.set_cons_succ, List.set_cons_zero, List.getElem?_cons_succ, List.getElem?_cons_zero, Option.some.injEq, exists_eq_left', Ok_uNot, Br_t, Br_f, Bool.not_true, Bool.not_false, ix0, ix1, Ok_intT hfig l0, Ok_intT hbf lb, hvb]
                  exact fin (by rw [ff, if_pos hg]; rfl)
                · rw [decide_eq_false hg]
                  simp only [Ok_sSeq, Ok_sAsg, Ok_sRet, Ok_sExp, Ok_sPass, Ok_sIf, Ok_sFor, Ok_eV, Ok_eC, Ok_eAs1, Ok_eAs0, Ok_eTup, Ok_eNew, Ok_eOp, Ok_eUn, Ok_eCall, Ok_eAnd, Ok_eOr, Ok_eIf, Ok_eL, Ok_lComp, Ok_iSeq, Ok_eTuple, Ok_lOf, setS, start, List.map_cons, List.map_nil, List.length_cons, List.length_nil, Nat.zero_add, Nat.reduceAdd, Nat.reduceSub, List.replicate_succ, List.replicate_zero, List.cons_append, List.nil_append, List.set_cons_succ, List.set_cons_zero, List.getElem?_cons_succ, List.getElem?_cons_zero, Option.some.injEq, exists_eq_left', Ok_uNot, Br_t, Br_f, Bool.not_true, Bool.not_false]
                  exact lastN (by rw [ff, if_neg hg])
  · -- more
    rw [decide_eq_true (by simp; omega), Br_t]
    exact lastN hf
end
end Sw.smallword_k85_lines_refused

set_option autoImplicit false
set_option linter.all false
set_option maxRecDepth 10000
set_option exponentiation.threshold 9000
/-! Lines, as the program and as the law read them. -/
namespace Sw.smallword_k85_lines_refused
open Sw
abbrev cFlag : Tx := [102, 108, 97, 103]
abbrev cName : Tx := [110, 97, 109, 101]
abbrev cCall : Tx := [99, 97, 108, 108]
def fr (z : Tx) : W := fracV (fracO z)
def callV (n : Tx) (ps : List Tx) (e v : Tx) : W := if e = [61] ∧ nameB n = true ∧ (fracO v).isSome = true ∧ ps.all (fun p => (fracO p).isSome) = true then .tup [.tup [.str n, .tup (ps.map fr)], fr v] else .non
def callW (ws : List Tx) : W := if 5 ≤ ws.length ∧ ws.length ≤ 7 then callV (ws.getD 1 []) ((ws.drop 2).take (ws.length - 4)) (ws.getD (ws.length - 2) []) (ws.getD (ws.length - 1) []) else .non
def nameV (n : Tx) (o : Option (Int × Int)) : W := match o with
  | none => .non
  | some f => .tup [.int 1, .str n, fracV (some f)]
def callT (w : W) : W := match w with
  | .tup [k, v] => .tup [.int 2, k, v]
  | _ => .non
def lineWs (ws : List Tx) : W :=
  if ws.getD 0 [] = cFlag ∧ ws.length = 2 ∧ nameB (ws.getD 1 []) = true then .tup [.int 0, .str (ws.getD 1 []), .bl true]
  else if ws.getD 0 [] = cName ∧ ws.length = 3 ∧ nameB (ws.getD 1 []) = true then nameV (ws.getD 1 []) (fracO (ws.getD 2 []))
  else if ws.getD 0 [] = cCall then callT (callW ws)
  else .non
theorem frac61 : fracO [61] = none := by decide
theorem fr_non {z : Tx} : eqD (fr z) .non = (fracO z).isNone := by
  unfold fr
  cases fracO z with
  | none => rfl
  | some f => simp [fracV, eqD, nrm]
theorem fr_D (z : Tx) : isD (fr z) = true := fracV_D _
theorem fr_dep (z : Tx) : dep (fr z) ≤ 1 := by
  unfold fr
  cases fracO z <;> simp [fracV, dep, deps]
theorem frs_D (zs : List Tx) : isDs (zs.map fr) = true := isDs_mem.mpr fun w hw => by
  obtain ⟨z, _, rfl⟩ := List.mem_map.mp hw
  exact fr_D z
section
variable {d : Nat} {M : Mem}
theorem Ok_inNon {j : Nat} {zs : List Tx} {Q : W → Mem → Prop} (hj : M[j]? = some (.lst (zs.map fr))) : Ok (oIn .non (.ref j) M) Q ↔ Q (.bl (zs.any fun z => (fracO z).isNone)) M := by
  have hd : deps (zs.map fr) ≤ 59 := Nat.le_trans (deps_le (n := 1) fun w hw => by
    obtain ⟨z, _, rfl⟩ := List.mem_map.mp hw
    exact fr_dep z) (by decide)
  have e : (zs.map fr).any (fun z => eqD z .non) = zs.any fun z => (fracO z).isNone := by
    rw [List.any_map]
    congr 1
    funext z
    exact fr_non
  unfold oIn inW
  simp only [hj, frs_D, decide_eq_true hd, e, eqOut]
  exact Ok_ok _
theorem Ok_lSl {m : EM} {lo hi : Option EM} {s : Sl} {j : Nat} {ws : List W} {o1 o2 : Option Int} {QL : List W → Mem → Prop} (hm : m s M = ok (.ref j) M) (hj : M[j]? = some (.lst ws)) (hl : ws.length ≤ 1000000) (h1 : evO lo s M = ok o1 M) (h2 : evO hi s M = ok o2 M)
    (q : QL (cutX ws o1 o2) M) : Ok (lSl m lo hi s M) QL := by
  unfold lSl
  rw [hm]
  show Ok (bnd (evO lo s M) _) QL
  rw [h1]
  show Ok (bnd (evO hi s M) _) QL
  rw [h2]
  show Ok (match M[j]? with
    | some (.lst ws) => if many ws.length then ok (cutX ws o1 o2) M else none
    | _ => none) QL
  rw [hj]
  show Ok (if many ws.length then ok (cutX ws o1 o2) M else none) QL
  rw [many_iff.mpr hl]
  exact (Ok_ok _).mpr q
/-- names, as the law has them -/
theorem law_name {z : Tx} (hl : z.length ≤ 640) : Ru (d + 1) 14 [.str z] M = some (.ok (.bl (nameB z)), M) := by
  refine run_b (n := 2) (b := b14 (Ru d)) rfl rfl ?_
  unfold b14
  simp only [Ok_sSeq, Ok_sAsg, Ok_sRet, Ok_sExp, Ok_sPass, Ok_sIf, Ok_sFor, Ok_eV, Ok_eC, Ok_eAs1, Ok_eAs0, Ok_eTup, Ok_eNew, Ok_eOp, Ok_eUn, Ok_eCall, Ok_eAnd, Ok_eOr, Ok_eIf, Ok_eL, Ok_lComp, Ok_iSeq, Ok_eTuple, Ok_lOf, setS, start, List.map_cons, List.map_nil, List.length_cons, List.length_nil, Nat.zero_add, Nat.reduceAdd, Nat.reduceSub, List.replicate_succ, List.replicate_zero, List.cons_append, List.nil_append, List.set_cons_succ, List.set_cons_zero, List.getElem?_cons_succ, List.getElem?_cons_zero, Option.some.injEq, exists_eq_left', Ok_uNot, Br_t, Br_f, Bool.not_true, Bool.not_false]
  refine (Ok_seq_str (z := z)).mpr ?_
  refine Ok_forS (f := fun c => decide (97 ≤ c) && decide (c ≤ 122)) (s := [some (.str z), none]) (fun c s' h => ?_) (fun u v => rfl) z _ ⟨none, rfl⟩ (fun hz s'' h => ?_) fun hz => ?_
  · obtain ⟨v, rfl⟩ := h
    simp only [Ok_sSeq, Ok_sAsg, Ok_sRet, Ok_sExp, Ok_sPass, Ok_sIf, Ok_sFor, Ok_eV, Ok_eC, Ok_eAs1, Ok_eAs0, Ok_eTup, Ok_eNew, Ok_eOp, Ok_eUn, Ok_eCall, Ok_eAnd, Ok_eOr, Ok_eIf, Ok_eL, Ok_lComp, Ok_iSeq, Ok_eTuple, Ok_lOf, setS, start, List.map_cons, List.map_nil, List.length_cons, List.length_nil, Nat.zero_add, Nat.reduceAdd, Nat.reduceSub, List.replicate_succ, List.replicate_zero, List.cons_append, List.nil_append, List.set_cons_succ, List.set_cons_zero, List.getElem?_cons_succ, List.getElem?_cons_zero, Option.some.injEq, exists_eq_left', Ok_uNot, Br_t, Br_f, Bool.not_true, Bool.not_false]
    refine Ok_niS.mpr ?_
    have e : decide (c ∈ ([97, 98, 99, 100, 101, 102, 103, 104, 105, 106, 107, 108, 109, 110, 111, 112, 113, 114, 115, 116, 117, 118, 119, 120, 121, 122] : Tx)) = (decide (97 ≤ c) && decide (c ≤ 122)) := by
      rw [← Bool.decide_and]
      exact decide_eq_decide.mpr letters
    rw [e]
    cases (decide (97 ≤ c) && decide (c ≤ 122)) <;> exact ⟨rfl, rfl⟩
  · obtain ⟨v, rfl⟩ := h
    have e : nameB z = (decide (1 ≤ z.length) && decide (z.length ≤ 8)) := by
      unfold nameB
      rw [hz]
      simp
    simp only [Ok_sSeq, Ok_sAsg, Ok_sRet, Ok_sExp, Ok_sPass, Ok_sIf, Ok_sFor, Ok_eV, Ok_eC, Ok_eAs1, Ok_eAs0, Ok_eTup, Ok_eNew, Ok_eOp, Ok_eUn, Ok_eCall, Ok_eAnd, Ok_eOr, Ok_eIf, Ok_eL, Ok_lComp, Ok_iSeq, Ok_eTuple, Ok_lOf, setS, start, List.map_cons, List.map_nil, List.length_cons, List.length_nil, Nat.zero_add, Nat.reduceAdd, Nat.reduceSub, List.replicate_succ, List.replicate_zero, List.cons_append, List.nil_append, List.set_cons_succ, List.set_cons_zero, List.getElem?_cons_succ, List.getElem?_cons_zero, Option.some.injEq, exists_eq_left', Ok_uNot, Br_t, Br_f, Bool.not_true, Bool.not_false, Ok_eChain, Ok_lenS (show z.length ≤ 1000000 by omega), Ok_lt]
    rw [e]
    by_cases h1 : 1 ≤ z.length
    · rw [decide_eq_true (show (0 : Int) < z.length by omega), Br_t]
      refine fin_b' ?_
      rw [decide_eq_true h1, Bool.true_and]
      exact decide_eq_decide.mpr (by omega)
    · rw [decide_eq_false (show ¬ (0 : Int) < z.length by omega), Br_f]
      refine fin_b' ?_
      rw [decide_eq_false h1]
      rfl
  · have : nameB z = false := by unfold nameB; rw [hz]; simp
    rw [this]
    exact ⟨rfl, [], by simp⟩
theorem lname_iff {z : Tx} (hl : z.length ≤ 640) {Q : W → Mem → Prop} : Ok (Ru (d + 1) 14 [.str z] M) Q ↔ Q (.bl (nameB z)) M := run_iff (law_name hl)
theorem name_iff {z : Tx} (hl : z.length ≤ 640) {Q : W → Mem → Prop} : Ok (Ru (d + 1) 5 [.str z] M) Q ↔ Q (.bl (nameB z)) M := run_iff (is_name (w := .str z) rfl (by simp [smW]; omega))
theorem lfrac_iff {z : Tx} (hl : z.length ≤ 640) {Q : W → Mem → Prop} : Ok (Ru (d + 2) 13 [.str z] M) Q ↔ Q (fr z) M := run_iff (law_fraction hl)
theorem pfrac_iff {z : Tx} (hl : z.length ≤ 640) {Q : W → Mem → Prop} : Ok (Ru (d + 3) 4 [.str z] M) Q ↔ Q (fr z) M := run_iff (fraction_in hl)
theorem Ok_ixNeg {ws : List W} {w : W} {k n : Nat} {Q : W → Mem → Prop} (hk : 0 < k) (h : ws.length = n + k) (e : ws[n]? = some w) : Ok (atW ws (-(k : Int)) M) Q ↔ Q w M := by
  have hi : ixW ws.length (-(k : Int)) = some n := by
    unfold ixW
    rw [if_neg (by omega), if_pos (by omega)]
    congr 1
    omega
  rw [Ok_at]
  constructor
  · rintro ⟨m, w', h1, h2, q⟩
    rw [hi] at h1
    cases h1
    rw [e] at h2
    cases h2
    exact q
  · exact fun q => ⟨n, w, hi, e, q⟩
/-- a comprehension over texts, each read alone -/
theorem Ok_lcT {g : Tx → W} {e : EM} {i : Nat} {s : Sl} {QL : List W → Mem → Prop} {zs : List Tx} (hl : zs.length ≤ 1000000) (h : ∀ z ∈ zs, Ok (e (s.set i (some (.str z))) M) fun r M' => r = g z ∧ M' = M) (q : QL (zs.map g) M) :
    Ok (lcL none (.one i) (eC (.bl true)) e s (zs.map W.str) [] M) QL := by
  refine Ok_map (fun w => match w with
    | .str z => g z
    | _ => .non) (fun M' => M' = M) (fun _ _ => rfl) rfl (by rw [List.length_map]; exact hl) (fun w hw M' e' => ?_) fun M' e' => ?_
  · obtain ⟨z, hz, rfl⟩ := List.mem_map.mp hw
    rw [e']
    exact ⟨_, rfl, (h z hz).mono fun r M2 k => k⟩
  · rw [e', List.map_map]
    exact q
/-- .. those that are not = -/
theorem Ok_lcF {g : Tx → W} {e : EM} {i : Nat} {s : Sl} {QL : List W → Mem → Prop} {zs : List Tx} (hl : zs.length ≤ 1000) (hc : ∀ z ∈ zs, Ok (e (s.set i (some (.str z))) M) fun r M' => r = g z ∧ M' = M) (hi : ∀ z : Tx, (s.set i (some (.str z)))[i]? = some (some (.str z)))
    (q : QL ((zs.filter fun z => !decide (z = [61])).map g) M) : Ok (lcL none (.one i) (eOp oNe (eV i) (eC (.str [61]))) e s (zs.map W.str) [] M) QL := by
  refine Ok_lc (fun rest acc M' => M' = M ∧ ∃ pre post, zs = pre ++ post ∧ rest = post.map W.str ∧ acc = (pre.filter fun z => !decide (z = [61])).map g) (fun rest acc M' ⟨e1, pre, post, e2, e3, e4⟩ => ⟨rfl, ?_⟩) (fun w rest acc M' ⟨e1, pre, post, e2, e3, e4⟩ => ?_) (fun acc M' ⟨e1, pre, post, e2, e3, e4⟩ => ?_) _ _ _ ⟨rfl, [], zs, rfl, rfl, rfl⟩
  · rw [e4, List.length_map]
    refine Nat.le_trans (List.length_filter_le _ _) ?_
    have h2 := congrArg List.length e2
    rw [List.length_append] at h2
    omega
  · cases post with
    | nil => cases e3
    | cons z post =>
      rw [List.map_cons] at e3
      obtain ⟨rfl, rfl⟩ := List.cons.inj e3
      rw [e1]
      refine ⟨_, rfl, ?_⟩
      rw [Ok_eOp, Ok_eV]
      refine ⟨_, hi z, ?_⟩
      rw [Ok_eC, Ok_nes, Br_b]
      refine ⟨fun hz => ?_, fun hz => ⟨rfl, pre ++ [z], post, by rw [e2]; simp, rfl, ?_⟩⟩
      · refine (hc z (by rw [e2]; simp)).mono fun r M2 ⟨er, eM⟩ => ⟨eM, pre ++ [z], post, by rw [e2]; simp, rfl, ?_⟩
        rw [e4, er, List.filter_append, List.map_append]
        simp [hz]
      · rw [e4, List.filter_append]
        simp [hz]
  · have : post = [] := by cases post with
      | nil => rfl
      | cons z post => cases e3
    subst this
    rw [List.append_nil] at e2
    rw [e1, e4, ← e2]
    exact q
theorem callW_shape {a n e v : Tx} {ps : List Tx} (h1 : 1 ≤ ps.length) (h2 : ps.length ≤ 3) : callW (a :: n :: (ps ++ [e, v])) = callV n ps e v := by
  have hl : (a :: n :: (ps ++ [e, v])).length = ps.length + 4 := by simp
  unfold callW
  rw [hl, if_pos ⟨by omega, by omega⟩]
  have e1 : ((a :: n :: (ps ++ [e, v])).drop 2).take (ps.length + 4 - 4) = ps := by simp
  have e2 : (a :: n :: (ps ++ [e, v])).getD (ps.length + 4 - 2) [] = e := by simp
  have e3 : (a :: n :: (ps ++ [e, v])).getD (ps.length + 4 - 1) [] = v := by simp
  rw [e1, e2, e3]
  rfl
theorem callW_no {ws : List Tx} (h : ws.length < 5 ∨ 7 < ws.length) : callW ws = .non := by
  unfold callW
  rw [if_neg (by omega)]
theorem shape {ws : List Tx} (h1 : 5 ≤ ws.length) (h2 : ws.length ≤ 7) : ∃ a n ps e v, ws = a :: n :: (ps ++ [e, v]) ∧ 1 ≤ ps.length ∧ ps.length ≤ 3 := by
  match ws, h1, h2 with
  | [a, n, p, e, v], _, _ => exact ⟨a, n, [p], e, v, rfl, by simp, by simp⟩
  | [a, n, p, q, e, v], _, _ => exact ⟨a, n, [p, q], e, v, rfl, by simp, by simp⟩
  | [a, n, p, q, r, e, v], _, _ => exact ⟨a, n, [p, q, r], e, v, rfl, by simp, by simp⟩
  | [], h, _ => simp at h
  | [_], h, _ => simp at h
  | [_, _], h, _ => simp at h
  | [_, _, _], h, _ => simp at h
  | [_, _, _, _], h, _ => simp at h
  | _ :: _ :: _ :: _ :: _ :: _ :: _ :: _ :: r, _, h => simp at h
theorem callV_D {n e v : Tx} {ps : List Tx} : isD (callV n ps e v) = true := by
  unfold callV
  split
  · simp [isD, isDs, frs_D, fr_D]
  · rfl
theorem call_in {j : Nat} {ws : List Tx} (hj : M[j]? = some (.lst (ws.map W.str))) (hl : ∀ z ∈ ws, z.length ≤ 640) (hn : ws.length ≤ 1000) : Ru (d + 4) 6 [.ref j] M = some (.ok (callW ws), M) := by
  have hD : isD (callW ws) = true := by unfold callW; split; exact callV_D; rfl
  refine run_w (n := 4) (b := b6 (Ru (d + 3))) rfl rfl hD ?_
  unfold b6
  simp only [Ok_sSeq, Ok_sAsg, Ok_sRet, Ok_sExp, Ok_sPass, Ok_sIf, Ok_sFor, Ok_eV, Ok_eC, Ok_eAs1, Ok_eAs0, Ok_eTup, Ok_eNew, Ok_eOp, Ok_eUn, Ok_eCall, Ok_eAnd, Ok_eOr, Ok_eIf, Ok_eL, Ok_lComp, Ok_iSeq, Ok_eTuple, Ok_lOf, setS, start, List.map_cons, List.map_nil, List.length_cons, List.length_nil, Nat.zero_add, Nat.reduceAdd, Nat.reduceSub, List.replicate_succ, List.replicate_zero, List.cons_append, List.nil_append, List.set_cons_succ, List.set_cons_zero, List.getElem?_cons_succ, List.getElem?_cons_zero, Option.some.injEq, exists_eq_left', Ok_uNot, Br_t, Br_f, Bool.not_true, Bool.not_false, Ok_lenRef hj, Ok_lt, Ok_gt, Ok_add, List.length_map]
  by_cases h5 : ws.length < 5
  · rw [decide_eq_true (by omega), Br_t]
    exact fin_d rfl (callW_no (.inl h5)).symm
  rw [decide_eq_false (by omega), Br_f]
  by_cases h7 : 7 < ws.length
  · rw [decide_eq_true (by omega), Br_t]
    exact fin_d rfl (callW_no (.inr h7)).symm
  rw [decide_eq_false (by omega), Br_f]
  obtain ⟨a, n, ps, e, v, rfl, p1, p3⟩ := shape (by omega) (by omega : ws.length ≤ 7)
  rw [callW_shape p1 p3]
  have len : ((a :: n :: (ps ++ [e, v])).map W.str).length = ps.length + 4 := by simp
  have ge : ((a :: n :: (ps ++ [e, v])).map W.str)[ps.length + 2]? = some (.str e) := by simp
  have gv : ((a :: n :: (ps ++ [e, v])).map W.str)[ps.length + 3]? = some (.str v) := by simp
  have gn : ((a :: n :: (ps ++ [e, v])).map W.str)[1]? = some (.str n) := by simp
  have ln : n.length ≤ 640 := hl n (by simp)
  have lv : v.length ≤ 640 := hl v (by simp)
  have non : (¬ (e = [61] ∧ nameB n = true ∧ (fracO v).isSome = true ∧ ps.all (fun p => (fracO p).isSome) = true)) → ∀ {X : Mem}, Fl.rt W.non = Fl.rt (callV n ps e v) ∧ ∃ Y, M ++ X = M ++ Y := fun h X => by
    unfold callV
    rw [if_neg h]
    exact ⟨rfl, X, rfl⟩
  have non0 : (¬ (e = [61] ∧ nameB n = true ∧ (fracO v).isSome = true ∧ ps.all (fun p => (fracO p).isSome) = true)) → Fl.rt W.non = Fl.rt (callV n ps e v) ∧ ∃ Y, M = M ++ Y := fun h => by
    unfold callV
    rw [if_neg h]
    exact ⟨rfl, [], by simp⟩
  rw [Ok_neg, Ok_ixRef hj, show (-2 : Int) = -((2 : Nat) : Int) from rfl, Ok_ixNeg (k := 2) (n := ps.length + 2) (by decide) len ge, Ok_nes]
  by_cases he : e = [61]
  case neg =>
    rw [decide_eq_false he, Bool.not_false, Br_t]
    exact non0 fun h => he h.1
  rw [decide_eq_true he, Bool.not_true, Br_f, Ok_ixRef hj, show (1 : Int) = ((1 : Nat) : Int) from rfl, Ok_atN gn]
  simp only [name_iff ln, Ok_sSeq, Ok_sAsg, Ok_sRet, Ok_sExp, Ok_sPass, Ok_sIf, Ok_sFor, Ok_eV, Ok_eC, Ok_eAs1, Ok_eAs0, Ok_eTup, Ok_eNew, Ok_eOp, Ok_eUn, Ok_eCall, Ok_eAnd, Ok_eOr, Ok_eIf, Ok_eL, Ok_lComp, Ok_iSeq, Ok_eTuple, Ok_lOf, setS, start, List.map_cons, List.map_nil, List.length_cons, List.length_nil, Nat.zero_add, Nat.reduceAdd, Nat.reduceSub, List.replicate_succ, List.replicate_zero, List.cons_append, List.nil_append, List.set_cons_succ, List.set_cons_zero, List.getElem?_cons_succ, List.getElem?_cons_zero, Option.some.injEq, exists_eq_left', Ok_uNot, Br_t, Br_f, Bool.not_true, Bool.not_false]
  cases hnb : nameB n
  · simp only [Ok_sSeq, Ok_sAsg, Ok_sRet, Ok_sExp, Ok_sPass, Ok_sIf, Ok_sFor, Ok_eV, Ok_eC, Ok_eAs1, Ok_eAs0, Ok_eTup, Ok_eNew, Ok_eOp, Ok_eUn, Ok_eCall, Ok_eAnd, Ok_eOr, Ok_eIf, Ok_eL, Ok_lComp, Ok_iSeq, Ok_eTuple, Ok_lOf, setS, start, List.map_cons, List.map_nil, List.length_cons, List.length_nil, Nat.zero_add, Nat.reduceAdd, Nat.reduceSub, List.replicate_succ, List.replicate_zero, List.cons_append, List.nil_append, List.set_cons_succ, List.set_cons_zero, List.getElem?_cons_succ, List.getElem?_cons_zero, Option.some.injEq, exists_eq_left', Ok_uNot, Br_t, Br_f, Bool.not_true, Bool.not_false]
    exact non0 fun h => by rw [hnb] at h; exact absurd h.2.1 (by decide)
  simp only [Ok_sSeq, Ok_sAsg, Ok_sRet, Ok_sExp, Ok_sPass, Ok_sIf, Ok_sFor, Ok_eV, Ok_eC, Ok_eAs1, Ok_eAs0, Ok_eTup, Ok_eNew, Ok_eOp, Ok_eUn, Ok_eCall, Ok_eAnd, Ok_eOr, Ok_eIf, Ok_eL, Ok_lComp, Ok_iSeq, Ok_eTuple, Ok_lOf, setS, start, List.map_cons, List.map_nil, List.length_cons, List.length_nil, Nat.zero_add, Nat.reduceAdd, Nat.reduceSub, List.replicate_succ, List.replicate_zero, List.cons_append, List.nil_append, List.set_cons_succ, List.set_cons_zero, List.getElem?_cons_succ, List.getElem?_cons_zero, Option.some.injEq, exists_eq_left', Ok_uNot, Br_t, Br_f, Bool.not_true, Bool.not_false, Ok_iNew]
  refine Ok_lSl (j := j) (o1 := some 2) (o2 := some (-2)) rfl hj (by rw [len]; omega) rfl rfl ?_
  have ecut : cutX ((a :: n :: (ps ++ [e, v])).map W.str) (some 2) (some (-2)) = ps.map W.str := by
    unfold cutX sIxW
    dsimp only
    rw [len, if_pos (show (-2 : Int) < 0 by decide), if_neg (show ¬ (2 : Int) < 0 by decide)]
    have e1 : (-2 + ((ps.length + 4 : Nat) : Int)).toNat = ps.length + 2 := by omega
    have e2 : min (Int.toNat 2) (ps.length + 4) = 2 := by simp
    rw [e1, e2]
    simp
  rw [ecut]
  refine Ok_lcT (g := fr) (by omega) (fun z hz => ?_) ?_
  · simp only [Ok_sSeq, Ok_sAsg, Ok_sRet, Ok_sExp, Ok_sPass, Ok_sIf, Ok_sFor, Ok_eV, Ok_eC, Ok_eAs1, Ok_eAs0, Ok_eTup, Ok_eNew, Ok_eOp, Ok_eUn, Ok_eCall, Ok_eAnd, Ok_eOr, Ok_eIf, Ok_eL, Ok_lComp, Ok_iSeq, Ok_eTuple, Ok_lOf, setS, start, List.map_cons, List.map_nil, List.length_cons, List.length_nil, Nat.zero_add, Nat.reduceAdd, Nat.reduceSub, List.replicate_succ, List.replicate_zero, List.cons_append, List.nil_append, List.set_cons_succ, List.set_cons_zero, List.getElem?_cons_succ, List.getElem?_cons_zero, Option.some.injEq, exists_eq_left', Ok_uNot, Br_t, Br_f, Bool.not_true, Bool.not_false]
    exact (pfrac_iff (d := d) (hl z (by simp [hz]))).mpr ⟨rfl, rfl⟩
  · have hj' : (M ++ [O.lst (ps.map fr)])[j]? = some (.lst ((a :: n :: (ps ++ [e, v])).map W.str)) := get_app hj
    simp only [Ok_sSeq, Ok_sAsg, Ok_sRet, Ok_sExp, Ok_sPass, Ok_sIf, Ok_sFor, Ok_eV, Ok_eC, Ok_eAs1, Ok_eAs0, Ok_eTup, Ok_eNew, Ok_eOp, Ok_eUn, Ok_eCall, Ok_eAnd, Ok_eOr, Ok_eIf, Ok_eL, Ok_lComp, Ok_iSeq, Ok_eTuple, Ok_lOf, setS, start, List.map_cons, List.map_nil, List.length_cons, List.length_nil, Nat.zero_add, Nat.reduceAdd, Nat.reduceSub, List.replicate_succ, List.replicate_zero, List.cons_append, List.nil_append, List.set_cons_succ, List.set_cons_zero, List.getElem?_cons_succ, List.getElem?_cons_zero, Option.some.injEq, exists_eq_left', Ok_uNot, Br_t, Br_f, Bool.not_true, Bool.not_false, Ok_neg]
    rw [Ok_ixRef hj', Ok_ixNeg (k := 1) (n := ps.length + 3) (by decide) (by rw [len]) gv, pfrac_iff (d := d) lv, Ok_isN]
    have hv : decide (fr v = W.non) = (fracO v).isNone := by unfold fr; cases fracO v <;> rfl
    rw [hv]
    cases hfv : fracO v with
    | none =>
      simp only [Option.isNone_none, Br_t]
      exact non fun h => by rw [hfv] at h; exact absurd h.2.2.1 (by decide)
    | some f =>
      simp only [Option.isNone_some, Br_f]
      rw [Ok_inNon get_new]
      cases hany : ps.any fun z => (fracO z).isNone
      · have hall : ps.all (fun p => (fracO p).isSome) = true := by
          rw [List.all_eq_true]
          intro p hp
          cases h : fracO p with
          | none =>
            have : (ps.any fun z => (fracO z).isNone) = true := List.any_eq_true.mpr ⟨p, hp, by rw [h]; rfl⟩
            rw [hany] at this
            cases this
          | some _ => rfl
        simp only [Ok_sSeq, Ok_sAsg, Ok_sRet, Ok_sExp, Ok_sPass, Ok_sIf, Ok_sFor, Ok_eV, Ok_eC, Ok_eAs1, Ok_eAs0, Ok_eTup, Ok_eNew, Ok_eOp, Ok_eUn, Ok_eCall, Ok_eAnd, Ok_eOr, Ok_eIf, Ok_eL, Ok_lComp, Ok_iSeq, Ok_eTuple, Ok_lOf, setS, start, List.map_cons, List.map_nil, List.length_cons, List.length_nil, Nat.zero_add, Nat.reduceAdd, Nat.reduceSub, List.replicate_succ, List.replicate_zero, List.cons_append, List.nil_append, List.set_cons_succ, List.set_cons_zero, List.getElem?_cons_succ, List.getElem?_cons_zero, Option.some.injEq, exists_eq_left', Ok_uNot, Br_t, Br_f, Bool.not_true, Bool.not_false]
        rw [Ok_ixRef hj', Ok_atN gn]
        refine ⟨_, items_L get_new, ?_⟩
        have : callV n ps e v = .tup [.tup [.str n, .tup (ps.map fr)], fr v] := by unfold callV; rw [if_pos ⟨he, hnb, by rw [hfv]; rfl, hall⟩]
        rw [this]
        exact ⟨rfl, _, rfl⟩
      · simp only [Ok_sSeq, Ok_sAsg, Ok_sRet, Ok_sExp, Ok_sPass, Ok_sIf, Ok_sFor, Ok_eV, Ok_eC, Ok_eAs1, Ok_eAs0, Ok_eTup, Ok_eNew, Ok_eOp, Ok_eUn, Ok_eCall, Ok_eAnd, Ok_eOr, Ok_eIf, Ok_eL, Ok_lComp, Ok_iSeq, Ok_eTuple, Ok_lOf, setS, start, List.map_cons, List.map_nil, List.length_cons, List.length_nil, Nat.zero_add, Nat.reduceAdd, Nat.reduceSub, List.replicate_succ, List.replicate_zero, List.cons_append, List.nil_append, List.set_cons_succ, List.set_cons_zero, List.getElem?_cons_succ, List.getElem?_cons_zero, Option.some.injEq, exists_eq_left', Ok_uNot, Br_t, Br_f, Bool.not_true, Bool.not_false]
        refine non fun h => ?_
        obtain ⟨p, hp, hpn⟩ := List.any_eq_true.mp hany
        have := List.all_eq_true.mp h.2.2.2 p hp
        cases hq : fracO p with
        | none => rw [hq] at this; cases this
        | some _ => rw [hq] at hpn; cases hpn
end
end Sw.smallword_k85_lines_refused

set_option autoImplicit false
set_option linter.all false
set_option maxRecDepth 10000
set_option exponentiation.threshold 9000
/-! A line: the program's reading and the law's. -/
namespace Sw.smallword_k85_lines_refused
open Sw
def lineW (z : Tx) : W := lineWs (TL.spl [32] 0 [] z)
theorem joinL_len (S : Tx) : ∀ zs : List Tx, (∀ z ∈ zs, z.length ≤ (TL.joinL S zs).length)
  | [], z, h => by cases h
  | [p], z, h => by rw [List.mem_singleton.mp h]; exact Nat.le_refl _
  | p :: q :: r, z, h => by
    have e : TL.joinL S (p :: q :: r) = p ++ (S ++ TL.joinL S (q :: r)) := rfl
    rw [e, List.length_append, List.length_append]
    rcases List.mem_cons.mp h with rfl | h
    · omega
    · have := joinL_len S (q :: r) z h
      omega
theorem spl_part_len {S : Tx} : ∀ (z acc : Tx) (k : Nat), ∀ p ∈ TL.spl S k acc z, p.length ≤ acc.length + z.length := by
  intro z
  induction z with
  | nil => intro acc k p hp; rw [TL.spl_nil] at hp; rw [List.mem_singleton.mp hp]; simp
  | cons c r ih =>
    intro acc k p hp
    cases k with
    | zero =>
      unfold TL.spl at hp
      split at hp
      · rcases List.mem_cons.mp hp with rfl | hp
        · omega
        · have := ih [] (S.length - 1) p hp
          simp at this ⊢
          omega
      · have := ih (acc ++ [c]) 0 p hp
        simp at this ⊢
        omega
    | succ k =>
      unfold TL.spl at hp
      have := ih acc k p hp
      simp
      omega
theorem lineWs_D (ws : List Tx) : isD (lineWs ws) = true := by
  unfold lineWs
  split
  · rfl
  split
  · unfold nameV
    split
    · rfl
    · rfl
  split
  · unfold callT
    have hD : isD (callW ws) = true := by
      unfold callW
      split
      · exact callV_D
      · rfl
    split
    · rename_i k v e
      rw [e] at hD
      simp [isD, isDs] at hD ⊢
      exact hD
    · rfl
  · rfl
section
variable {d : Nat} {M : Mem}
theorem line_in {z : Tx} (hl : z.length ≤ 600) : Ru (d + 5) 7 [.str z] M = some (.ok (lineW z), M) := by
  refine run_w (n := 4) (b := b7 (Ru (d + 4))) rfl rfl (lineWs_D _) ?_
  have hlen : ∀ p ∈ TL.spl [32] 0 [] z, p.length ≤ 640 := fun p hp => by
    have := spl_part_len z [] 0 p hp
    simp at this
    omega
  have hcnt := spl_le [32] z [] 0
  unfold lineW
  unfold b7
  rw [Ok_sSeq, Ok_sAsg, Ok_eNew]
  refine Ok_split (z := z) (S := [32]) rfl rfl (by decide) (by decide) (by omega) ?_
  generalize hws : TL.spl [32] 0 [] z = ws at hlen hcnt ⊢
  obtain ⟨a, rest, hw⟩ : ∃ a rest, ws = a :: rest := by
    cases ws with
    | nil => exact absurd hws (spl_ne [32] z (by simp))
    | cons a rest => exact ⟨a, rest, rfl⟩
  generalize hN : M ++ [O.lst (ws.map W.str)] = N
  have hj : N[M.length]? = some (.lst (ws.map W.str)) := by rw [← hN]; exact get_new
  have ix0 : ∀ {Q : W → Mem → Prop}, Ok (oIx (.ref M.length) (.int 0) N) Q ↔ Q (.str a) N := fun {Q} => by rw [Ok_ixRef hj, hw, List.map_cons, Ok_at0]
  have fin : ∀ {w : W}, w = lineWs ws → Fl.rt w = Fl.rt (lineWs ws) ∧ ∃ X, N = M ++ X := fun h => ⟨by rw [h], _, hN.symm⟩
  have hl0 : ws.getD 0 [] = a := by rw [hw]; rfl
  show Ok (sSeq _ _ [some (.str z), some (.ref M.length), none, none] N) _
  simp only [Ok_sSeq, Ok_sAsg, Ok_sRet, Ok_sExp, Ok_sPass, Ok_sIf, Ok_sFor, Ok_eV, Ok_eC, Ok_eAs1, Ok_eAs0, Ok_eTup, Ok_eNew, Ok_eOp, Ok_eUn, Ok_eCall, Ok_eAnd, Ok_eOr, Ok_eIf, Ok_eL, Ok_lComp, Ok_iSeq, Ok_eTuple, Ok_lOf, setS, start, List.map_cons, List.map_nil, List.length_cons, List.length_nil, Nat.zero_add, Nat.reduceAdd, Nat.reduceSub, List.replicate_succ, List.replicate_zero, List.cons_append, List.nil_append, List.set_cons_succ, List.set_cons_zero, List.getElem?_cons_succ, List.getElem?_cons_zero, Option.some.injEq, exists_eq_left', Ok_uNot, Br_t, Br_f, Bool.not_true, Bool.not_false, ix0, Ok_eqs]
  have ix1 : 2 ≤ ws.length → ∀ {Q : W → Mem → Prop}, Ok (oIx (.ref M.length) (.int 1) N) Q ↔ Q (.str (ws.getD 1 [])) N := fun h {Q} => by
    rw [Ok_ixRef hj]
    match ws, h with
    | x :: y :: r, _ => exact Ok_at1
  have ix2 : 3 ≤ ws.length → ∀ {Q : W → Mem → Prop}, Ok (oIx (.ref M.length) (.int 2) N) Q ↔ Q (.str (ws.getD 2 [])) N := fun h {Q} => by
    rw [Ok_ixRef hj]
    match ws, h with
    | x :: y :: w :: r, _ => exact Ok_at2
  have ln : ∀ k, (ws.getD k []).length ≤ 640 := fun k => by
    rw [List.getD_eq_getElem?_getD]
    cases h : ws[k]? with
    | none => simp
    | some p => exact hlen p (List.mem_of_getElem? h)
  by_cases c1 : a = cFlag
  · rw [decide_eq_true c1, Br_t]
    have n2 : ¬ a = cName := fun e => by rw [c1] at e; exact absurd e (by decide)
    have n3 : ¬ a = cCall := fun e => by rw [c1] at e; exact absurd e (by decide)
    have no : ¬ (ws.length = 2 ∧ nameB (ws.getD 1 []) = true) → lineWs ws = .non := fun h => by
      unfold lineWs
      rw [hl0, if_neg fun k => h k.2, if_neg fun k => n2 k.1, if_neg n3]
    rw [Ok_lenRef hj, List.length_map, Ok_eqi]
    by_cases c2 : ws.length = 2
    · rw [decide_eq_true (by omega), Br_t, ix1 (by omega)]
      simp only [Ok_sSeq, Ok_sAsg, Ok_sRet, Ok_sExp, Ok_sPass, Ok_sIf, Ok_sFor, Ok_eV, Ok_eC, Ok_eAs1, Ok_eAs0, Ok_eTup, Ok_eNew, Ok_eOp, Ok_eUn, Ok_eCall, Ok_eAnd, Ok_eOr, Ok_eIf, Ok_eL, Ok_lComp, Ok_iSeq, Ok_eTuple, Ok_lOf, setS, start, List.map_cons, List.map_nil, List.length_cons, List.length_nil, Nat.zero_add, Nat.reduceAdd, Nat.reduceSub, List.replicate_succ, List.replicate_zero, List.cons_append, List.nil_append, List.set_cons_succ, List.set_cons_zero, List.getElem?_cons_succ, List.getElem?_cons_zero, Option.some.injEq, exists_eq_left', Ok_uNot, Br_t, Br_f, Bool.not_true, Bool.not_false, name_iff (ln 1)]
      cases c3 : nameB (ws.getD 1 [])
      · rw [Br_f, ix0, Ok_eqs, decide_eq_false n2, Br_f, ix0, Ok_eqs, decide_eq_false n3, Br_f]
        exact fin (no fun k => by rw [c3] at k; exact absurd k.2 (by decide)).symm
      · rw [Br_t, ix1 (by omega)]
        refine fin ?_
        unfold lineWs
        rw [hl0, if_pos ⟨c1, c2, c3⟩]
    · rw [decide_eq_false (by omega), Br_f, ix0, Ok_eqs, decide_eq_false n2, Br_f, ix0, Ok_eqs, decide_eq_false n3, Br_f]
      exact fin (no fun k => c2 k.1).symm
  · rw [decide_eq_false c1, Br_f]
    by_cases d1 : a = cName
    · rw [decide_eq_true d1, Br_t]
      have n3 : ¬ a = cCall := fun e => by rw [d1] at e; exact absurd e (by decide)
      have no : ¬ (ws.length = 3 ∧ nameB (ws.getD 1 []) = true) → lineWs ws = .non := fun h => by
        unfold lineWs
        rw [hl0, if_neg fun k => c1 k.1, if_neg fun k => h k.2, if_neg n3]
      rw [Ok_lenRef hj, List.length_map, Ok_eqi]
      by_cases c2 : ws.length = 3
      · rw [decide_eq_true (by omega), Br_t, ix1 (by omega)]
        simp only [Ok_sSeq, Ok_sAsg, Ok_sRet, Ok_sExp, Ok_sPass, Ok_sIf, Ok_sFor, Ok_eV, Ok_eC, Ok_eAs1, Ok_eAs0, Ok_eTup, Ok_eNew, Ok_eOp, Ok_eUn, Ok_eCall, Ok_eAnd, Ok_eOr, Ok_eIf, Ok_eL, Ok_lComp, Ok_iSeq, Ok_eTuple, Ok_lOf, setS, start, List.map_cons, List.map_nil, List.length_cons, List.length_nil, Nat.zero_add, Nat.reduceAdd, Nat.reduceSub, List.replicate_succ, List.replicate_zero, List.cons_append, List.nil_append, List.set_cons_succ, List.set_cons_zero, List.getElem?_cons_succ, List.getElem?_cons_zero, Option.some.injEq, exists_eq_left', Ok_uNot, Br_t, Br_f, Bool.not_true, Bool.not_false, name_iff (ln 1)]
        cases c3 : nameB (ws.getD 1 [])
        · rw [Br_f, ix0, Ok_eqs, decide_eq_false n3, Br_f]
          exact fin (no fun k => by rw [c3] at k; exact absurd k.2 (by decide)).symm
        · rw [Br_t, ix2 (by omega), pfrac_iff (d := d + 1) (ln 2), Ok_isN]
          have yes : lineWs ws = nameV (ws.getD 1 []) (fracO (ws.getD 2 [])) := by
            unfold lineWs
            rw [hl0, if_neg fun k => c1 k.1, if_pos ⟨d1, c2, c3⟩]
          have hv : decide (fr (ws.getD 2 []) = W.non) = (fracO (ws.getD 2 [])).isNone := by unfold fr; cases fracO (ws.getD 2 []) <;> rfl
          rw [hv, ix1 (by omega)]
          cases hf : fracO (ws.getD 2 []) with
          | none =>
            simp only [Option.isNone_none, Br_t]
            exact fin (by rw [yes, hf]; rfl)
          | some f =>
            simp only [Option.isNone_some, Br_f]
            refine fin ?_
            rw [yes, hf]
            unfold fr nameV
            rw [hf]
      · rw [decide_eq_false (by omega), Br_f, ix0, Ok_eqs, decide_eq_false n3, Br_f]
        exact fin (no fun k => c2 k.1).symm
    · rw [decide_eq_false d1, Br_f]
      have e3 : a = cCall → lineWs ws = callT (callW ws) := fun h => by
        unfold lineWs
        rw [hl0, if_neg fun k => c1 k.1, if_neg fun k => d1 k.1, if_pos h]
      by_cases f1 : a = cCall
      · rw [decide_eq_true f1, Br_t]
        refine (run_iff (call_in (d := d) hj hlen (by omega))).mpr ?_
        rw [Ok_isN]
        have shp : callW ws = .non ∨ ∃ k v, callW ws = .tup [k, v] := by
          unfold callW
          split
          · unfold callV
            split
            · exact .inr ⟨_, _, rfl⟩
            · exact .inl rfl
          · exact .inl rfl
        rcases shp with h | ⟨k, v, h⟩
        · rw [h, decide_eq_true rfl, Br_t]
          exact fin (by rw [e3 f1, h]; rfl)
        · rw [h, decide_eq_false (by simp), Br_f, Ok_ixTup, Ok_at0, Ok_ixTup, Ok_at1]
          exact fin (by rw [e3 f1, h]; rfl)
      · rw [decide_eq_false f1, Br_f]
        refine fin ?_
        unfold lineWs
        rw [hl0, if_neg fun k => c1 k.1, if_neg fun k => d1 k.1, if_neg f1]
theorem line_iff {z : Tx} (hl : z.length ≤ 600) {Q : W → Mem → Prop} : Ok (Ru (d + 5) 7 [.str z] M) Q ↔ Q (lineW z) M := run_iff (line_in hl)
end
end Sw.smallword_k85_lines_refused

set_option autoImplicit false
set_option linter.all false
set_option maxRecDepth 10000
set_option exponentiation.threshold 9000
/-! A line, as the law reads it. -/
namespace Sw.smallword_k85_lines_refused
open Sw
def noEq (zs : List Tx) : List Tx := zs.filter fun z => !decide (z = [61])
def anyN (zs : List Tx) : Bool := zs.any fun z => (fracO z).isNone
theorem noEq_len (zs : List Tx) : (noEq zs).length ≤ zs.length := List.length_filter_le _ _
theorem noEq_app (xs ys : List Tx) : noEq (xs ++ ys) = noEq xs ++ noEq ys := List.filter_append ..
theorem noEq_eq : noEq [([61] : Tx)] = [] := by simp [noEq]
theorem noEq_full {zs : List Tx} (h : (noEq zs).length = zs.length) : noEq zs = zs := by
  unfold noEq at h ⊢
  exact List.filter_eq_self.mpr (List.length_filter_eq_length_iff.mp h)
theorem noEq_one {v : Tx} (h : v ≠ [61]) : noEq [v] = [v] := by simp [noEq, h]
theorem anyN_false {zs : List Tx} (h : anyN zs = false) : zs.all (fun p => (fracO p).isSome) = true := by
  rw [List.all_eq_true]
  intro p hp
  cases hf : fracO p with
  | none =>
    have : anyN zs = true := List.any_eq_true.mpr ⟨p, hp, by rw [hf]; rfl⟩
    rw [h] at this
    cases this
  | some _ => rfl
/-- a part that is = is no fraction -/
theorem lost {ps : List Tx} {v : Tx} (h : (noEq (ps ++ [v])).length ≠ ps.length + 1) : ¬ ((fracO v).isSome = true ∧ ps.all (fun p => (fracO p).isSome) = true) := by
  rintro ⟨h1, h2⟩
  apply h
  have : noEq (ps ++ [v]) = ps ++ [v] := by
    unfold noEq
    refine List.filter_eq_self.mpr fun z hz => ?_
    rw [Bool.not_eq_true', decide_eq_false_iff_not]
    intro e
    rcases List.mem_append.mp hz with hz | hz
    · have := List.all_eq_true.mp h2 z hz
      rw [e, frac61] at this
      cases this
    · rw [List.mem_singleton.mp hz] at e
      rw [e, frac61] at h1
      cases h1
  rw [this]
  simp
section
variable {d : Nat} {M : Mem}
theorem cut2 {ws : List W} (h : 2 ≤ ws.length) : cutX ws (some 2) none = ws.drop 2 := by
  unfold cutX sIxW
  dsimp only
  rw [if_neg (show ¬ (2 : Int) < 0 by decide)]
  rw [show min (Int.toNat 2) ws.length = 2 by simp; omega, List.take_of_length_le]
  rw [List.length_drop]
  omega
theorem cutLast {ws : List W} {w : W} : cutX (ws ++ [w]) none (some (-1)) = ws := by
  unfold cutX sIxW
  dsimp only
  rw [if_pos (show (-1 : Int) < 0 by decide)]
  have : (-1 + ((ws ++ [w]).length : Int)).toNat = ws.length := by simp; omega
  rw [this]
  simp
theorem law_line {z : Tx} (hl : z.length ≤ 600) : Ru (d + 3) 15 [.str z] M = some (.ok (lineW z), M) := by
  refine run_w (n := 4) (b := b15 (Ru (d + 2))) rfl rfl (lineWs_D _) ?_
  have hlen : ∀ p ∈ TL.spl [32] 0 [] z, p.length ≤ 640 := fun p hp => by
    have := spl_part_len z [] 0 p hp
    simp at this
    omega
  have hcnt := spl_le [32] z [] 0
  unfold lineW
  unfold b15
  rw [Ok_sSeq, Ok_sAsg, Ok_eNew]
  refine Ok_split (z := z) (S := [32]) rfl rfl (by decide) (by decide) (by omega) ?_
  generalize hws : TL.spl [32] 0 [] z = ws at hlen hcnt ⊢
  obtain ⟨a, rest, hw⟩ : ∃ a rest, ws = a :: rest := by
    cases ws with
    | nil => exact absurd hws (spl_ne [32] z (by simp))
    | cons a rest => exact ⟨a, rest, rfl⟩
  generalize hN : M ++ [O.lst (ws.map W.str)] = N
  have hj : ∀ {X : Mem}, (N ++ X)[M.length]? = some (.lst (ws.map W.str)) := fun {X} => by rw [← hN]; exact get_app get_new
  have hj0 : N[M.length]? = some (.lst (ws.map W.str)) := by rw [← hN]; exact get_new
  have ix0 : ∀ {X : Mem} {Q : W → Mem → Prop}, Ok (oIx (.ref M.length) (.int 0) (N ++ X)) Q ↔ Q (.str a) (N ++ X) := fun {X Q} => by rw [Ok_ixRef hj, hw, List.map_cons, Ok_at0]
  have ix00 : ∀ {Q : W → Mem → Prop}, Ok (oIx (.ref M.length) (.int 0) N) Q ↔ Q (.str a) N := fun {Q} => by rw [Ok_ixRef hj0, hw, List.map_cons, Ok_at0]
  have fin : ∀ {w : W} {X : Mem}, w = lineWs ws → Fl.rt w = Fl.rt (lineWs ws) ∧ ∃ Y, N ++ X = M ++ Y := fun {w X} h => ⟨by rw [h], _, by rw [← hN, List.append_assoc]⟩
  have fin0 : ∀ {w : W}, w = lineWs ws → Fl.rt w = Fl.rt (lineWs ws) ∧ ∃ Y, N = M ++ Y := fun {w} h => ⟨by rw [h], _, hN.symm⟩
  have hl0 : ws.getD 0 [] = a := by rw [hw]; rfl
  have ln : ∀ k, (ws.getD k []).length ≤ 640 := fun k => by
    rw [List.getD_eq_getElem?_getD]
    cases h : ws[k]? with
    | none => simp
    | some p => exact hlen p (List.mem_of_getElem? h)
  have noName : nameB (ws.getD 1 []) = false ∨ ws.length < 2 → lineWs ws = .non := fun h => by
    unfold lineWs
    rw [if_neg (by rintro ⟨_, h2, h3⟩; rcases h with h | h; (rw [h] at h3; cases h3); omega), if_neg (by rintro ⟨_, h2, h3⟩; rcases h with h | h; (rw [h] at h3; cases h3); omega)]
    split
    · by_cases h5 : 5 ≤ ws.length ∧ ws.length ≤ 7
      · have hn : nameB (ws.getD 1 []) = false := h.resolve_right (by omega)
        have : callW ws = .non := by
          unfold callW
          rw [if_pos h5]
          unfold callV
          rw [if_neg (by rintro ⟨_, h3, _⟩; rw [hn] at h3; cases h3)]
        rw [this]
        rfl
      · rw [callW_no (by omega)]
        rfl
    · rfl
  show Ok (sSeq _ _ [some (.str z), some (.ref M.length), none, none] N) _
  simp only [Ok_sSeq, Ok_sAsg, Ok_sRet, Ok_sExp, Ok_sPass, Ok_sIf, Ok_sFor, Ok_eV, Ok_eC, Ok_eAs1, Ok_eAs0, Ok_eTup, Ok_eNew, Ok_eOp, Ok_eUn, Ok_eCall, Ok_eAnd, Ok_eOr, Ok_eIf, Ok_eL, Ok_lComp, Ok_iSeq, Ok_eTuple, Ok_lOf, setS, start, List.map_cons, List.map_nil, List.length_cons, List.length_nil, Nat.zero_add, Nat.reduceAdd, Nat.reduceSub, List.replicate_succ, List.replicate_zero, List.cons_append, List.nil_append, List.set_cons_succ, List.set_cons_zero, List.getElem?_cons_succ, List.getElem?_cons_zero, Option.some.injEq, exists_eq_left', Ok_uNot, Br_t, Br_f, Bool.not_true, Bool.not_false, ix00, Ok_eqs, Ok_lenRef hj0, List.length_map, Ok_lt]
  by_cases l2 : ws.length < 2
  · rw [decide_eq_true (by omega), Br_t]
    exact fin0 (noName (.inr l2)).symm
  rw [decide_eq_false (by omega), Br_f]
  have ix1 : ∀ {X : Mem} {Q : W → Mem → Prop}, Ok (oIx (.ref M.length) (.int 1) (N ++ X)) Q ↔ Q (.str (ws.getD 1 [])) (N ++ X) := fun {X Q} => by
    rw [Ok_ixRef hj]
    have l2' : 2 ≤ ws.length := by omega
    match ws, l2' with
    | x :: y :: r, _ => exact Ok_at1
  have ix10 : ∀ {Q : W → Mem → Prop}, Ok (oIx (.ref M.length) (.int 1) N) Q ↔ Q (.str (ws.getD 1 [])) N := fun {Q} => by
    have := ix1 (X := []) (Q := Q)
    rwa [List.append_nil] at this
  simp only [Ok_sSeq, Ok_sAsg, Ok_sRet, Ok_sExp, Ok_sPass, Ok_sIf, Ok_sFor, Ok_eV, Ok_eC, Ok_eAs1, Ok_eAs0, Ok_eTup, Ok_eNew, Ok_eOp, Ok_eUn, Ok_eCall, Ok_eAnd, Ok_eOr, Ok_eIf, Ok_eL, Ok_lComp, Ok_iSeq, Ok_eTuple, Ok_lOf, setS, start, List.map_cons, List.map_nil, List.length_cons, List.length_nil, Nat.zero_add, Nat.reduceAdd, Nat.reduceSub, List.replicate_succ, List.replicate_zero, List.cons_append, List.nil_append, List.set_cons_succ, List.set_cons_zero, List.getElem?_cons_succ, List.getElem?_cons_zero, Option.some.injEq, exists_eq_left', Ok_uNot, Br_t, Br_f, Bool.not_true, Bool.not_false, ix10, lname_iff (ln 1)]
  cases hnb : nameB (ws.getD 1 [])
  · simp only [Ok_sSeq, Ok_sAsg, Ok_sRet, Ok_sExp, Ok_sPass, Ok_sIf, Ok_sFor, Ok_eV, Ok_eC, Ok_eAs1, Ok_eAs0, Ok_eTup, Ok_eNew, Ok_eOp, Ok_eUn, Ok_eCall, Ok_eAnd, Ok_eOr, Ok_eIf, Ok_eL, Ok_lComp, Ok_iSeq, Ok_eTuple, Ok_lOf, setS, start, List.map_cons, List.map_nil, List.length_cons, List.length_nil, Nat.zero_add, Nat.reduceAdd, Nat.reduceSub, List.replicate_succ, List.replicate_zero, List.cons_append, List.nil_append, List.set_cons_succ, List.set_cons_zero, List.getElem?_cons_succ, List.getElem?_cons_zero, Option.some.injEq, exists_eq_left', Ok_uNot, Br_t, Br_f, Bool.not_true, Bool.not_false]
    exact fin0 (noName (.inl hnb)).symm
  simp only [Ok_sSeq, Ok_sAsg, Ok_sRet, Ok_sExp, Ok_sPass, Ok_sIf, Ok_sFor, Ok_eV, Ok_eC, Ok_eAs1, Ok_eAs0, Ok_eTup, Ok_eNew, Ok_eOp, Ok_eUn, Ok_eCall, Ok_eAnd, Ok_eOr, Ok_eIf, Ok_eL, Ok_lComp, Ok_iSeq, Ok_eTuple, Ok_lOf, setS, start, List.map_cons, List.map_nil, List.length_cons, List.length_nil, Nat.zero_add, Nat.reduceAdd, Nat.reduceSub, List.replicate_succ, List.replicate_zero, List.cons_append, List.nil_append, List.set_cons_succ, List.set_cons_zero, List.getElem?_cons_succ, List.getElem?_cons_zero, Option.some.injEq, exists_eq_left', Ok_uNot, Br_t, Br_f, Bool.not_true, Bool.not_false, ix00, Ok_eqs]
  by_cases c1 : a = cFlag
  · rw [decide_eq_true c1, Br_t, Ok_lenRef hj0, List.length_map, Ok_eqi]
    by_cases c2 : ws.length = 2
    · rw [decide_eq_true (by omega), Br_t, ix10]
      refine fin0 ?_
      unfold lineWs
      rw [hl0, if_pos ⟨c1, c2, hnb⟩]
    · rw [decide_eq_false (by omega), Br_f]
      refine fin0 ?_
      have n2 : ¬ a = cName := fun e => by rw [c1] at e; exact absurd e (by decide)
      have n3 : ¬ a = cCall := fun e => by rw [c1] at e; exact absurd e (by decide)
      unfold lineWs
      rw [hl0, if_neg fun k => c2 k.2.1, if_neg fun k => n2 k.1, if_neg n3]
  rw [decide_eq_false c1, Br_f]
  simp only [Ok_iNew]
  refine Ok_lSl (j := M.length) (o1 := some 2) (o2 := none) rfl hj0 (by rw [List.length_map]; omega) rfl rfl ?_
  rw [cut2 (by rw [List.length_map]; omega), ← List.map_drop]
  refine Ok_lcF (g := fr) (i := 3) (zs := ws.drop 2) (by rw [List.length_drop]; omega) (fun p hp => ?_) (fun p => rfl) ?_
  · simp only [Ok_sSeq, Ok_sAsg, Ok_sRet, Ok_sExp, Ok_sPass, Ok_sIf, Ok_sFor, Ok_eV, Ok_eC, Ok_eAs1, Ok_eAs0, Ok_eTup, Ok_eNew, Ok_eOp, Ok_eUn, Ok_eCall, Ok_eAnd, Ok_eOr, Ok_eIf, Ok_eL, Ok_lComp, Ok_iSeq, Ok_eTuple, Ok_lOf, setS, start, List.map_cons, List.map_nil, List.length_cons, List.length_nil, Nat.zero_add, Nat.reduceAdd, Nat.reduceSub, List.replicate_succ, List.replicate_zero, List.cons_append, List.nil_append, List.set_cons_succ, List.set_cons_zero, List.getElem?_cons_succ, List.getElem?_cons_zero, Option.some.injEq, exists_eq_left', Ok_uNot, Br_t, Br_f, Bool.not_true, Bool.not_false]
    exact (lfrac_iff (d := d) (hlen p (List.mem_of_mem_drop hp))).mpr ⟨rfl, rfl⟩
  show Ok _ _
  generalize hF : (ws.drop 2).filter (fun z => !decide (z = [61])) = F
  have hF' : noEq (ws.drop 2) = F := hF
  have hf : (N ++ [O.lst (F.map fr)])[N.length]? = some (.lst (F.map fr)) := get_new
  have same : anyN F = true → ∀ {ps : List Tx} {v : Tx}, (∀ x ∈ F, x ∈ ps ++ [v]) → ¬ ((fracO v).isSome = true ∧ ps.all (fun p => (fracO p).isSome) = true) := fun h ps v hm => by
    obtain ⟨p, hp, hpn⟩ := List.any_eq_true.mp h
    rintro ⟨h1, h2⟩
    rcases List.mem_append.mp (hm p hp) with hq | hq
    · have := List.all_eq_true.mp h2 p hq
      cases hx : fracO p with
      | none => rw [hx] at this; cases this
      | some _ => rw [hx] at hpn; cases hpn
    · rw [List.mem_singleton.mp hq] at hpn
      cases hx : fracO v with
      | none => rw [hx] at h1; cases h1
      | some _ => rw [hx] at hpn; cases hpn
  have callN : ∀ {n e v : Tx} {ps : List Tx}, ¬ (e = [61] ∧ (fracO v).isSome = true ∧ ps.all (fun p => (fracO p).isSome) = true) → callV n ps e v = .non := fun {n e v ps} h => by
    unfold callV
    rw [if_neg fun k => h ⟨k.1, k.2.2⟩]
  -- what each first word asks
  have lw : lineWs ws = if a = cName ∧ ws.length = 3 then nameV (ws.getD 1 []) (fracO (ws.getD 2 [])) else if a = cCall then callT (callW ws) else .non := by
    unfold lineWs
    rw [hl0, if_neg fun k => c1 k.1]
    by_cases h : a = cName ∧ ws.length = 3
    · rw [if_pos h, if_pos ⟨h.1, h.2, hnb⟩]
    · rw [if_neg h, if_neg fun k => h ⟨k.1, k.2.1⟩]
  rw [Ok_inNon hf]
  have hanyE : (F.any fun z => (fracO z).isNone) = anyN F := rfl
  rw [hanyE]
  have shp3 : ws.length = 3 → ∃ n v, ws = [a, n, v] := fun h => by
    match ws, h, hw with
    | [x, n, v], _, hw => cases hw; exact ⟨n, v, rfl⟩
  by_cases hany : anyN F = true
  · rw [hany, Br_t]
    refine fin ?_
    rw [lw]
    by_cases h3 : a = cName ∧ ws.length = 3
    · rw [if_pos h3]
      obtain ⟨n, v, e⟩ := shp3 h3.2
      have : fracO v = none := by
        have := same hany (ps := []) (v := v) (fun x hx => by
          rw [← hF', e] at hx
          have := (List.mem_filter.mp hx).1
          simpa using this)
        cases hv : fracO v with
        | none => rfl
        | some _ => exact absurd ⟨by rw [hv]; rfl, rfl⟩ this
      rw [e]
      show W.non = nameV _ (fracO v)
      rw [this]
      rfl
    · rw [if_neg h3]
      by_cases f1 : a = cCall
      · rw [if_pos f1]
        by_cases h5 : 5 ≤ ws.length ∧ ws.length ≤ 7
        · obtain ⟨a', n, ps, e, v, ew, p1, p3⟩ := shape h5.1 h5.2
          rw [ew, callW_shape p1 p3]
          by_cases he : e = [61]
          · rw [callN fun k => same hany (ps := ps) (v := v) (fun x hx => by
              rw [← hF', ew] at hx
              have hx2 : x ∈ noEq (ps ++ [e, v]) := by simpa using hx
              obtain ⟨h1, h2⟩ := List.mem_filter.mp hx2
              rw [he] at h1
              simp at h1 h2 ⊢
              rcases h1 with h1 | h1 | h1
              · exact .inl h1
              · exact absurd h1 h2
              · exact .inr h1) k.2]
            rfl
          · rw [callN fun k => he k.1]
            rfl
        · rw [callW_no (by omega)]
          rfl
      · rw [if_neg f1]
  have hany : anyN F = false := by simpa using hany
  rw [hany, Br_f]
  simp only [Ok_sSeq, Ok_sAsg, Ok_sRet, Ok_sExp, Ok_sPass, Ok_sIf, Ok_sFor, Ok_eV, Ok_eC, Ok_eAs1, Ok_eAs0, Ok_eTup, Ok_eNew, Ok_eOp, Ok_eUn, Ok_eCall, Ok_eAnd, Ok_eOr, Ok_eIf, Ok_eL, Ok_lComp, Ok_iSeq, Ok_eTuple, Ok_lOf, setS, start, List.map_cons, List.map_nil, List.length_cons, List.length_nil, Nat.zero_add, Nat.reduceAdd, Nat.reduceSub, List.replicate_succ, List.replicate_zero, List.cons_append, List.nil_append, List.set_cons_succ, List.set_cons_zero, List.getElem?_cons_succ, List.getElem?_cons_zero, Option.some.injEq, exists_eq_left', Ok_uNot, Br_t, Br_f, Bool.not_true, Bool.not_false, ix0, Ok_eqs]
  by_cases d1 : a = cName
  · have n3 : ¬ a = cCall := fun e => by rw [d1] at e; exact absurd e (by decide)
    rw [decide_eq_true d1, Br_t, Ok_lenRef hj, List.length_map, Ok_nei]
    by_cases h3 : ws.length = 3
    · obtain ⟨n, v, e⟩ := shp3 h3
      rw [decide_eq_true (by omega), Bool.not_true, Br_f, Ok_lenRef hf, List.length_map, Ok_nei]
      have eF : F = noEq [v] := by rw [← hF', e]; rfl
      have el : lineWs ws = nameV n (fracO v) := by
        rw [lw, if_pos ⟨d1, h3⟩, e]
        rfl
      by_cases hv : v = [61]
      · rw [eF, hv, noEq_eq, decide_eq_false (by simp), Bool.not_false, Br_t]
        exact fin (by rw [el, hv, frac61]; rfl)
      · have eF2 : F = [v] := by rw [eF, noEq_one hv]
        rw [eF2, decide_eq_true (by simp), Bool.not_true, Br_f]
        rw [eF2] at hf
        rw [ix0, Ok_eqs, decide_eq_true d1, Br_t, ix1, Ok_ixRef hf, List.map_cons, Ok_at0]
        refine fin ?_
        rw [el]
        have e1 : ws.getD 1 [] = n := by rw [e]; rfl
        rw [e1]
        have := anyN_false hany
        rw [eF2] at this
        unfold fr nameV
        cases hx : fracO v with
        | none => rw [List.all_cons, hx] at this; cases this
        | some f => rfl
    · rw [decide_eq_false (by omega), Bool.not_false, Br_t]
      exact fin (by rw [lw, if_neg fun k => h3 k.2, if_neg n3])
  rw [decide_eq_false d1, Br_f]
  have lw2 : lineWs ws = if a = cCall then callT (callW ws) else .non := by rw [lw, if_neg fun k => d1 k.1]
  rw [Br_f, Ok_nes]
  by_cases f1 : a = cCall
  case neg =>
    rw [decide_eq_false f1, Bool.not_false, Br_t]
    exact fin (by rw [lw2, if_neg f1])
  rw [decide_eq_true f1, Bool.not_true, Br_f, Ok_lenRef hj, List.length_map, Ok_lt]
  rw [if_pos f1] at lw2
  by_cases h5 : ws.length < 5
  · rw [decide_eq_true (by omega), Br_t]
    exact fin (by rw [lw2, callW_no (.inl h5)]; rfl)
  rw [decide_eq_false (by omega), Br_f, Ok_lenRef hj, List.length_map, Ok_gt]
  by_cases h7 : 7 < ws.length
  · rw [decide_eq_true (by omega), Br_t]
    exact fin (by rw [lw2, callW_no (.inr h7)]; rfl)
  rw [decide_eq_false (by omega), Br_f, Ok_neg]
  obtain ⟨a', n, ps, e, v, ew, p1, p3⟩ := shape (by omega) (by omega : ws.length ≤ 7)
  have len : (ws.map W.str).length = ps.length + 4 := by rw [ew]; simp
  have ge : (ws.map W.str)[ps.length + 2]? = some (.str e) := by rw [ew]; simp
  have wl : ws.length = ps.length + 4 := by rw [ew]; simp
  have en : ws.getD 1 [] = n := by rw [ew]; rfl
  have lw3 : lineWs ws = callT (callV n ps e v) := by rw [lw2, ew, callW_shape p1 p3]
  rw [Ok_ixRef hj, show (-2 : Int) = -((2 : Nat) : Int) from rfl, Ok_ixNeg (k := 2) (n := ps.length + 2) (by decide) len ge, Ok_nes]
  by_cases he : e = [61]
  case neg =>
    rw [decide_eq_false he, Bool.not_false, Br_t]
    exact fin (by rw [lw3, callN fun k => he k.1]; rfl)
  rw [decide_eq_true he, Bool.not_true, Br_f, Ok_lenRef hf, List.length_map, Ok_lenRef hj, List.length_map, Ok_sub, Ok_nei]
  have eF : F = noEq (ps ++ [v]) := by
    rw [← hF', ew, he]
    have : (a' :: n :: (ps ++ [[61], v])).drop 2 = ps ++ ([[61]] ++ [v]) := by simp
    rw [this, noEq_app, noEq_app, noEq_eq, List.nil_append, ← noEq_app]
  by_cases hlF : F.length = ps.length + 1
  case neg =>
    rw [decide_eq_false (by rw [wl]; omega), Bool.not_false, Br_t]
    exact fin (by rw [lw3, callN fun k => lost (by rw [← eF]; exact hlF) k.2]; rfl)
  have eF2 : F = ps ++ [v] := by
    rw [eF]
    refine noEq_full ?_
    rw [← eF, hlF]
    simp
  rw [decide_eq_true (by rw [wl]; omega), Bool.not_true, Br_f, ix1]
  rw [eF2, List.map_append] at hf
  rw [eF2, List.map_append]
  rw [eF2] at hany
  refine Ok_lSl (j := N.length) (o1 := none) (o2 := some (-1)) rfl hf (by simp; omega) rfl rfl ?_
  rw [show [v].map fr = [fr v] from rfl, cutLast]
  simp only [Ok_sSeq, Ok_sAsg, Ok_sRet, Ok_sExp, Ok_sPass, Ok_sIf, Ok_sFor, Ok_eV, Ok_eC, Ok_eAs1, Ok_eAs0, Ok_eTup, Ok_eNew, Ok_eOp, Ok_eUn, Ok_eCall, Ok_eAnd, Ok_eOr, Ok_eIf, Ok_eL, Ok_lComp, Ok_iSeq, Ok_eTuple, Ok_lOf, setS, start, List.map_cons, List.map_nil, List.length_cons, List.length_nil, Nat.zero_add, Nat.reduceAdd, Nat.reduceSub, List.replicate_succ, List.replicate_zero, List.cons_append, List.nil_append, List.set_cons_succ, List.set_cons_zero, List.getElem?_cons_succ, List.getElem?_cons_zero, Option.some.injEq, exists_eq_left', Ok_uNot, Br_t, Br_f, Bool.not_true, Bool.not_false, Ok_neg]
  rw [show [v].map fr = [fr v] from rfl] at hf
  rw [Ok_ixRef hf, show (-1 : Int) = -((1 : Nat) : Int) from rfl, Ok_ixNeg (k := 1) (n := ps.length) (w := fr v) (by decide) (by simp) (by simp)]
  refine fin ?_
  have hall := anyN_false hany
  rw [List.all_append, Bool.and_eq_true] at hall
  have : callV n ps e v = .tup [.tup [.str n, .tup (ps.map fr)], fr v] := by
    unfold callV
    rw [if_pos ⟨he, by rw [← en]; exact hnb, by simpa using hall.2, hall.1⟩]
  rw [lw3, this, en]
  rfl
theorem lline_iff {z : Tx} (hl : z.length ≤ 600) {Q : W → Mem → Prop} : Ok (Ru (d + 3) 15 [.str z] M) Q ↔ Q (lineW z) M := run_iff (law_line hl)
end
end Sw.smallword_k85_lines_refused

set_option autoImplicit false
set_option linter.all false
set_option maxRecDepth 10000
set_option exponentiation.threshold 9000
/-! The world that lines tell: the program's reading and the law's. -/
namespace Sw.smallword_k85_lines_refused
open Sw
abbrev D3 := List (W × W) × List (W × W) × List (W × W)
def getK (D : D3) : Nat → List (W × W)
  | 0 => D.1
  | 1 => D.2.1
  | _ => D.2.2
def putK (D : D3) (i : Nat) (k v : W) : D3 := match i with
  | 0 => (dput D.1 k v, D.2.1, D.2.2)
  | 1 => (D.1, dput D.2.1 k v, D.2.2)
  | _ => (D.1, D.2.1, dput D.2.2 k v)
def step (D : D3) (t : W) : Option D3 := match t with
  | .tup [.int i, k, v] => if (dget (getK D i.toNat) k).isSome then none else some (putK D i.toNat k v)
  | _ => none
def rdW : Nat → List W → D3 → Except Nat D3
  | _, [], D => .ok D
  | n, t :: r, D => (match step D t with
    | none => .error n
    | some D' => rdW (n + 1) r D')
def res (ls : List Tx) : Except Nat D3 := rdW 0 (ls.map lineW) ([], [], [])
def d3 (D : D3) : Mem := [.dic D.1, .dic D.2.1, .dic D.2.2]
def ww (n : Nat) : W := .tup [.ref n, .ref (n + 1), .ref (n + 2)]
/-- what a line may tell -/
def Told (t : W) : Prop := t = .non ∨ ∃ (i : Nat) (k v : W), t = .tup [.int i, k, v] ∧ i < 3 ∧ isK k = true ∧ dep k ≤ 8 ∧ isT k = decide (i = 2) ∧ isD v = true ∧ dep v ≤ 20
theorem fr_K {z : Tx} (h : (fracO z).isSome = true) : isK (fr z) = true := by
  unfold fr
  cases hf : fracO z with
  | none => rw [hf] at h; cases h
  | some f => rfl
theorem line_told (z : Tx) : Told (lineW z) := by
  unfold lineW
  generalize TL.spl [32] 0 [] z = ws
  unfold lineWs
  split
  · exact .inr ⟨0, _, _, rfl, by decide, rfl, by simp [dep], rfl, rfl, by simp [dep]⟩
  split
  · unfold nameV
    split
    · exact .inl rfl
    · exact .inr ⟨1, _, _, rfl, by decide, rfl, by simp [dep], rfl, rfl, by simp [dep, deps, fracV]⟩
  split
  · unfold callW
    split
    · unfold callV
      split
      · rename_i h
        refine .inr ⟨2, _, _, rfl, by decide, ?_, ?_, rfl, fr_D _, Nat.le_trans (fr_dep _) (by decide)⟩
        · have : isKs ((((ws.drop 2).take (ws.length - 4))).map fr) = true := isKs_mem.mpr fun w hw => by
            obtain ⟨p, hp, rfl⟩ := List.mem_map.mp hw
            exact fr_K (List.all_eq_true.mp h.2.2.2 p hp)
          simp [isK, isKs]
          simpa using this
        · have : deps ((((ws.drop 2).take (ws.length - 4))).map fr) ≤ 1 := deps_le fun w hw => by
            obtain ⟨p, hp, rfl⟩ := List.mem_map.mp hw
            exact fr_dep p
          simp only [dep, deps]
          omega
      · exact .inl rfl
    · exact .inl rfl
  · exact .inl rfl
/-- dicts as they are kept -/
structure Gd (n : Nat) (D : D3) : Prop where
  ty : ∀ i, i < 3 → ∀ p ∈ getK D i, isT p.1 = decide (i = 2)
  va : ∀ i, i < 3 → ∀ p ∈ getK D i, isD p.2 = true ∧ dep p.2 ≤ 20
  ln : ∀ i, i < 3 → (getK D i).length ≤ n
theorem Gd.nil : Gd 0 ([], [], []) := by
  refine ⟨fun i hi p hp => ?_, fun i hi p hp => ?_, fun i hi => ?_⟩ <;>
  · match i, hi with
    | 0, _ => simp [getK] at *
    | 1, _ => simp [getK] at *
    | 2, _ => simp [getK] at *
theorem getK_put (D : D3) (i j : Nat) (k v : W) (hi : i < 3) (hj : j < 3) : getK (putK D i k v) j = if i = j then dput (getK D i) k v else getK D j := by
  match i, hi, j, hj with
  | 0, _, 0, _ => rfl
  | 0, _, 1, _ => rfl
  | 0, _, 2, _ => rfl
  | 1, _, 0, _ => rfl
  | 1, _, 1, _ => rfl
  | 1, _, 2, _ => rfl
  | 2, _, 0, _ => rfl
  | 2, _, 1, _ => rfl
  | 2, _, 2, _ => rfl
theorem Gd.put {n : Nat} {D : D3} (h : Gd n D) {i : Nat} {k v : W} (hi : i < 3) (hk : isT k = decide (i = 2)) (hv : isD v = true ∧ dep v ≤ 20) : Gd (n + 1) (putK D i k v) := by
  refine ⟨fun j hj p hp => ?_, fun j hj p hp => ?_, fun j hj => ?_⟩
  · rw [getK_put D i j k v hi hj] at hp
    split at hp
    · rename_i e
      subst e
      rcases dput_mem2 hp with hp | ⟨_, h2⟩
      · exact h.ty i hi p hp
      · rw [h2, hk]
    · exact h.ty j hj p hp
  · rw [getK_put D i j k v hi hj] at hp
    split at hp
    · rename_i e
      subst e
      rcases dput_mem2 hp with hp | ⟨h1, _⟩
      · exact h.va i hi p hp
      · rw [h1]; exact hv
    · exact h.va j hj p hp
  · rw [getK_put D i j k v hi hj]
    split
    · have := dput_len2 (kvs := getK D i) (k := k) (v := v)
      have := h.ln i hi
      omega
    · have := h.ln j hj
      omega
theorem Gd.key {n : Nat} {D : D3} (h : Gd n D) {i : Nat} {k : W} (hi : i < 3) (h1 : isK k = true) (h2 : dep k ≤ 8) (hk : isT k = decide (i = 2)) : okKey (getK D i) k = true := by
  unfold okKey
  rw [h1, decide_eq_true h2]
  cases hg : getK D i with
  | nil => rfl
  | cons p r =>
    have := h.ty i hi p (by rw [hg]; simp)
    simp [this, hk]
section
variable {d : Nat} {M : Mem}
theorem d3_get (D : D3) (i : Nat) (hi : i < 3) : (M ++ d3 D)[M.length + i]? = some (.dic (getK D i)) := by
  rw [get_app_r]
  match i, hi with
  | 0, _ => rfl
  | 1, _ => rfl
  | 2, _ => rfl
theorem d3_set (D : D3) (i : Nat) (hi : i < 3) (k v : W) : (M ++ d3 D).set (M.length + i) (.dic (dput (getK D i) k v)) = M ++ d3 (putK D i k v) := by
  rw [set_app]
  match i, hi with
  | 0, _ => rfl
  | 1, _ => rfl
  | 2, _ => rfl
theorem ww_ix {n i : Nat} (hi : i < 3) {N : Mem} {Q : W → Mem → Prop} : Ok (oIx (ww n) (.int i) N) Q ↔ Q (.ref (n + i)) N := by
  unfold ww
  rw [Ok_ixTup]
  match i, hi with
  | 0, _ => exact Ok_atN rfl
  | 1, _ => exact Ok_atN rfl
  | 2, _ => exact Ok_atN rfl
theorem in_world {n : Nat} {D : D3} (h : Gd n D) {i : Nat} {k : W} (hi : i < 3) (h1 : isK k = true) (h2 : dep k ≤ 8) (hk : isT k = decide (i = 2)) {Q : W → Mem → Prop} : Ok (oIn k (.ref (M.length + i)) (M ++ d3 D)) Q ↔ Q (.bl (dget (getK D i) k).isSome) (M ++ d3 D) := by
  unfold oIn inW
  simp only [d3_get D i hi, dicO, h.key hi h1 h2 hk, if_true, eqOut]
  exact Ok_ok _
theorem put_world {n : Nat} {D : D3} (h : Gd n D) (hn : n ≤ 1000) {i : Nat} {k v : W} (hi : i < 3) (h1 : isK k = true) (h2 : dep k ≤ 8) (hk : isT k = decide (i = 2)) : putW (.ref (M.length + i)) k v (M ++ d3 D) = some (M ++ d3 (putK D i k v)) := by
  rw [putW_D (d3_get D i hi) (h.key hi h1 h2 hk) (by have := h.ln i hi; omega), d3_set D i hi]
theorem seq_err {A S : SM} {T : EM} {R P : SM} {s s2 : Sl} {N : Mem} {x : Xn} (hA : A s N = some (.ok (.nx s2), N)) (hT : T s2 N = some (.ok (.bl true), N)) (hR : R s2 N = some (.error x, N)) : sSeq A (sSeq (sIf T R P) S) s N = some (.error x, N) := by
  unfold sSeq sIf
  rw [hA]
  show bnd (bnd (T s2 N) _) _ = _
  rw [hT]
  show bnd (R s2 N) _ = _
  rw [hR]
  rfl
def xAt (n : Nat) : Xn := ⟨2, .tup [.str [97, 116], .int (n : Int)]⟩
theorem rw_loop {j : Nat} {all : List W} (hj : M[j]? = some (.lst all)) : ∀ (post : List Tx) (n m : Nat) (D : D3) (v2 v3 v4 : Option W), Gd m D → m + post.length ≤ 1000 → (∀ z ∈ post, z.length ≤ 600) →
    (∃ D' s', rdW n (post.map lineW) D = .ok D' ∧ Gd (m + post.length) D' ∧ s'[1]? = some (some (ww M.length)) ∧
      forL (some (j, .lst all)) (.some_ [2, 3]) (sSeq (sAsg (.one 4) (eCall (Ru (d + 5)) 7 [(eV 3)]))
  (sSeq (sIf (eOr (eUn uIsN (eV 4)) (eOp oIn (eOp oIx (eV 4) (eC (.int 1))) (eOp oIx (eV 1) (eOp oIx (eV 4) (eC (.int 0)))))) (sRaiseI 2 [97, 116] (eV 2)) sPass)
  (sPut (eOp oIx (eV 1) (eOp oIx (eV 4) (eC (.int 0)))) (eOp oIx (eV 4) (eC (.int 1))) (eOp oIx (eV 4) (eC (.int 2)))))) (numb n (post.map W.str)) [some (.ref j), some (ww M.length), v2, v3, v4] (M ++ d3 D) = some (.ok (.nx s'), M ++ d3 D')) ∨
    (∃ a D', rdW n (post.map lineW) D = .error a ∧
      forL (some (j, .lst all)) (.some_ [2, 3]) (sSeq (sAsg (.one 4) (eCall (Ru (d + 5)) 7 [(eV 3)]))
  (sSeq (sIf (eOr (eUn uIsN (eV 4)) (eOp oIn (eOp oIx (eV 4) (eC (.int 1))) (eOp oIx (eV 1) (eOp oIx (eV 4) (eC (.int 0)))))) (sRaiseI 2 [97, 116] (eV 2)) sPass)
  (sPut (eOp oIx (eV 1) (eOp oIx (eV 4) (eC (.int 0)))) (eOp oIx (eV 4) (eC (.int 1))) (eOp oIx (eV 4) (eC (.int 2)))))) (numb n (post.map W.str)) [some (.ref j), some (ww M.length), v2, v3, v4] (M ++ d3 D) = some (.error (xAt a), M ++ d3 D')) := by
  intro post
  induction post with
  | nil =>
    intro n m D v2 v3 v4 hG _ _
    refine .inl ⟨D, [some (.ref j), some (ww M.length), v2, v3, v4], rfl, hG, rfl, ?_⟩
    rw [List.map_nil]
    show forL _ _ _ [] _ _ = _
    rw [forL_nil (still_some (get_app hj))]
    rfl
  | cons z post ih =>
    intro n m D v2 v3 v4 hG hm hz
    have lz := hz z List.mem_cons_self
    have hcons : numb n ((z :: post).map W.str) = .tup [.int (n : Int), .str z] :: numb (n + 1) (post.map W.str) := rfl
    rw [hcons, forL_cons (s' := [some (.ref j), some (ww M.length), some (.int n), some (.str z), v4]) (still_some (get_app hj)) rfl, List.map_cons]
    have hA : sAsg (.one 4) (eCall (Ru (d + 5)) 7 [(eV 3)]) [some (.ref j), some (ww M.length), some (.int n), some (.str z), v4] (M ++ d3 D) = some (.ok (.nx [some (.ref j), some (ww M.length), some (.int n), some (.str z), some (lineW z)]), M ++ d3 D) := by
      refine Ok.of_eq ?_
      simp only [Ok_sSeq, Ok_sAsg, Ok_sRet, Ok_sExp, Ok_sPass, Ok_sIf, Ok_sFor, Ok_eV, Ok_eC, Ok_eAs1, Ok_eAs0, Ok_eTup, Ok_eNew, Ok_eOp, Ok_eUn, Ok_eCall, Ok_eAnd, Ok_eOr, Ok_eIf, Ok_eL, Ok_lComp, Ok_iSeq, Ok_eTuple, Ok_lOf, setS, start, List.map_cons, List.map_nil, List.length_cons, List.length_nil, Nat.zero_add, Nat.reduceAdd, Nat.reduceSub, List.replicate_succ, List.replicate_zero, List.cons_append, List.nil_append, List.set_cons_succ, List.set_cons_zero, List.getElem?_cons_succ, List.getElem?_cons_zero, Option.some.injEq, exists_eq_left', Ok_uNot, Br_t, Br_f, Bool.not_true, Bool.not_false, line_iff lz]
      exact ⟨trivial, trivial⟩
    have bad : (step D (lineW z) = none) → (eOr (eUn uIsN (eV 4)) (eOp oIn (eOp oIx (eV 4) (eC (.int 1))) (eOp oIx (eV 1) (eOp oIx (eV 4) (eC (.int 0)))))) [some (.ref j), some (ww M.length), some (.int n), some (.str z), some (lineW z)] (M ++ d3 D) = some (.ok (.bl true), M ++ d3 D) := by
      intro hst
      refine Ok.of_eq ?_
      simp only [Ok_sSeq, Ok_sAsg, Ok_sRet, Ok_sExp, Ok_sPass, Ok_sIf, Ok_sFor, Ok_eV, Ok_eC, Ok_eAs1, Ok_eAs0, Ok_eTup, Ok_eNew, Ok_eOp, Ok_eUn, Ok_eCall, Ok_eAnd, Ok_eOr, Ok_eIf, Ok_eL, Ok_lComp, Ok_iSeq, Ok_eTuple, Ok_lOf, setS, start, List.map_cons, List.map_nil, List.length_cons, List.length_nil, Nat.zero_add, Nat.reduceAdd, Nat.reduceSub, List.replicate_succ, List.replicate_zero, List.cons_append, List.nil_append, List.set_cons_succ, List.set_cons_zero, List.getElem?_cons_succ, List.getElem?_cons_zero, Option.some.injEq, exists_eq_left', Ok_uNot, Br_t, Br_f, Bool.not_true, Bool.not_false, Ok_isN]
      rcases line_told z with e | ⟨i, k, v, e, hi, k1, k2, k3, k4⟩
      · rw [e, decide_eq_true rfl, Br_t]
        first | exact ⟨rfl, rfl⟩ | exact ⟨trivial, rfl⟩ | exact ⟨trivial, trivial⟩
      · rw [e, decide_eq_false (by simp), Br_f, Ok_ixTup, Ok_at1, Ok_ixTup, Ok_at0, ww_ix hi, in_world hG hi k1 k2 k3]
        rw [e] at hst
        have : (dget (getK D i) k).isSome = true := by
          unfold step at hst
          simp only [Int.toNat_natCast] at hst
          split at hst
          · assumption
          · cases hst
        rw [this]
        exact ⟨rfl, rfl⟩
    cases hst : step D (lineW z) with
    | none =>
      right
      refine ⟨n, D, ?_, ?_⟩
      · unfold rdW
        rw [hst]
      · rw [seq_err hA (bad hst) (x := xAt n) rfl]
        rfl
    | some D1 =>
      obtain ⟨i, k, v, e, hi, k1, k2, k3, k4⟩ : ∃ (i : Nat) (k v : W), lineW z = .tup [.int i, k, v] ∧ i < 3 ∧ isK k = true ∧ dep k ≤ 8 ∧ isT k = decide (i = 2) ∧ isD v = true ∧ dep v ≤ 20 := by
        rcases line_told z with e | h
        · rw [e] at hst; cases hst
        · exact h
      have hD1 : (dget (getK D i) k).isSome = false ∧ D1 = putK D i k v := by
        rw [e] at hst
        unfold step at hst
        simp only [Int.toNat_natCast] at hst
        split at hst
        · cases hst
        · rename_i h
          cases hst
          exact ⟨by simpa using h, rfl⟩
      obtain ⟨hno, rfl⟩ := hD1
      have hB : (sSeq (sAsg (.one 4) (eCall (Ru (d + 5)) 7 [(eV 3)]))
  (sSeq (sIf (eOr (eUn uIsN (eV 4)) (eOp oIn (eOp oIx (eV 4) (eC (.int 1))) (eOp oIx (eV 1) (eOp oIx (eV 4) (eC (.int 0)))))) (sRaiseI 2 [97, 116] (eV 2)) sPass)
  (sPut (eOp oIx (eV 1) (eOp oIx (eV 4) (eC (.int 0)))) (eOp oIx (eV 4) (eC (.int 1))) (eOp oIx (eV 4) (eC (.int 2)))))) [some (.ref j), some (ww M.length), some (.int n), some (.str z), v4] (M ++ d3 D) = some (.ok (.nx [some (.ref j), some (ww M.length), some (.int n), some (.str z), some (lineW z)]), M ++ d3 (putK D i k v)) := by
        refine Ok.of_eq ?_
        rw [Ok_sSeq]
        refine Ok.eq hA ?_
        simp only [Ok_sSeq, Ok_sAsg, Ok_sRet, Ok_sExp, Ok_sPass, Ok_sIf, Ok_sFor, Ok_eV, Ok_eC, Ok_eAs1, Ok_eAs0, Ok_eTup, Ok_eNew, Ok_eOp, Ok_eUn, Ok_eCall, Ok_eAnd, Ok_eOr, Ok_eIf, Ok_eL, Ok_lComp, Ok_iSeq, Ok_eTuple, Ok_lOf, setS, start, List.map_cons, List.map_nil, List.length_cons, List.length_nil, Nat.zero_add, Nat.reduceAdd, Nat.reduceSub, List.replicate_succ, List.replicate_zero, List.cons_append, List.nil_append, List.set_cons_succ, List.set_cons_zero, List.getElem?_cons_succ, List.getElem?_cons_zero, Option.some.injEq, exists_eq_left', Ok_uNot, Br_t, Br_f, Bool.not_true, Bool.not_false, Ok_isN, Ok_sPut]
        rw [e, decide_eq_false (by simp), Br_f, Ok_ixTup, Ok_at1, Ok_ixTup, Ok_at0, ww_ix hi, in_world hG hi k1 k2 k3, hno, Br_f, Ok_ixTup, Ok_at2, Ok_ixTup, Ok_at0, ww_ix hi, Ok_ixTup, Ok_at1]
        exact ⟨_, put_world hG (by omega) hi k1 k2 k3, by first | rfl | trivial, by first | rfl | trivial⟩
      rw [hB]
      have hr : rdW n (lineW z :: post.map lineW) D = rdW (n + 1) (post.map lineW) (putK D i k v) := by
        conv => lhs; unfold rdW
        rw [hst]
      rw [hr]
      have hlen : m + 1 + post.length = m + (z :: post).length := by simp; omega
      rcases ih (n + 1) (m + 1) (putK D i k v) (some (.int n)) (some (.str z)) (some (lineW z)) (hG.put hi k3 k4) (by rw [hlen]; exact hm) (fun y hy => hz y (List.mem_cons_of_mem _ hy)) with ⟨D', s', h1, h2, h3, h4⟩ | ⟨a, D', h1, h2⟩
      · exact .inl ⟨D', s', h1, by rw [← hlen]; exact h2, h3, h4⟩
      · exact .inr ⟨a, D', h1, h2⟩
end
end Sw.smallword_k85_lines_refused

set_option autoImplicit false
set_option linter.all false
set_option maxRecDepth 10000
set_option exponentiation.threshold 9000
/-! read_world, what is due, what is asked. -/
namespace Sw.smallword_k85_lines_refused
open Sw
def textN (a : Nat) : Tx := [116, 101, 120, 116, 32] ++ intTx (a : Int)
/-- how an answer lies -/
def Ans (R : Except Nat D3) (M : Mem) (r : W) (M' : Mem) : Prop := match R with
  | .ok D => r = ww M.length ∧ M' = M ++ d3 D ∧ Gd 1000 D
  | .error a => r = .str (textN a) ∧ ∃ X, M' = M ++ X
theorem rdW_lt : ∀ {ts : List W} {n a : Nat} {D : D3}, rdW n ts D = .error a → a < n + ts.length
  | [], n, a, D, h => by simp [rdW] at h
  | t :: r, n, a, D, h => by
    unfold rdW at h
    split at h
    · cases h; simp
    · have := rdW_lt h
      simp
      omega
theorem res_lt {ls : List Tx} {a : Nat} (h : res ls = .error a) : a < ls.length := by
  have := rdW_lt h
  simpa using this
theorem Gd.more {n m : Nat} {D : D3} (h : Gd n D) (hm : n ≤ m) : Gd m D := ⟨h.ty, h.va, fun i hi => Nat.le_trans (h.ln i hi) hm⟩
section
variable {d : Nat} {M : Mem}
theorem seq_ok {a b : SM} {s s' : Sl} {M M' : Mem} (h : a s M = some (.ok (.nx s'), M')) : sSeq a b s M = b s' M' := by
  unfold sSeq
  rw [h]
  rfl
theorem seq_er {a b : SM} {s : Sl} {x : Xn} {M M' : Mem} (h : a s M = some (.error x, M')) : sSeq a b s M = some (.error x, M') := by
  unfold sSeq
  rw [h]
  rfl
theorem for_eq {p : Pat} {it : IM} {b : SM} {s : Sl} {q : Wd} {M M1 : Mem} (h : it s M = some (.ok q, M1)) : sFor p it b s M = forL q.2 p b q.1 s M1 := by
  unfold sFor
  rw [h]
  rfl
theorem world0 {a : W} {v2 v3 v4 : Option W} {s : Sl} : sAsg (.one 1) (eTup [eDic, eDic, eDic]) (some a :: v2 :: s) M = some (.ok (.nx (some a :: some (ww M.length) :: s)), M ++ d3 ([], [], [])) := by
  refine Ok.of_eq ?_
  simp only [Ok_sAsg, Ok_eTup, Ok_eAs1, Ok_eAs0, Ok_eDic]
  refine ⟨?_, ?_⟩
  · simp [ww]
  · simp [d3]
theorem read_world {j : Nat} {ls : List Tx} (hj : M[j]? = some (.lst (ls.map W.str))) (hl : ∀ z ∈ ls, z.length ≤ 600) (hn : ls.length ≤ 1000) :
    (∃ D, res ls = .ok D ∧ Gd 1000 D ∧ Ru (d + 6) 8 [.ref j] M = some (.ok (ww M.length), M ++ d3 D)) ∨ (∃ a D, res ls = .error a ∧ Ru (d + 6) 8 [.ref j] M = some (.error (xAt a), M ++ d3 D)) := by
  have e1 : Ru (d + 6) 8 [.ref j] M = body 5 (b8 (Ru (d + 5))) [.ref j] M := run_f rfl rfl
  rw [e1]
  unfold body b8
  have e2 : iEnumL (eV 0) [some (.ref j), some (ww M.length), none, none, none] (M ++ d3 ([], [], [])) = some (.ok (numb 0 (ls.map W.str), some (j, O.lst (ls.map W.str))), M ++ d3 ([], [], [])) := by
    unfold iEnumL
    rw [eV_eq rfl]
    show (match (M ++ d3 ([], [], []))[j]? with
      | some (O.lst ws) => ok (numb 0 ws, some (j, O.lst ws)) (M ++ d3 ([], [], []))
      | _ => none) = _
    rw [get_app hj]
    rfl
  rcases rw_loop (d := d) hj ls 0 0 ([], [], []) none none none Gd.nil (by omega) hl with ⟨D, s', h1, h2, h3, h4⟩ | ⟨a, D, h1, h2⟩
  · left
    refine ⟨D, h1, h2.more (by omega), ?_⟩
    show bnd (sSeq _ _ [some (.ref j), none, none, none, none] M) _ = _
    rw [seq_ok (world0 (v3 := none) (v4 := none)), seq_ok ((for_eq e2).trans h4)]
    show bnd (sRet (eV 1) s' (M ++ d3 D)) _ = _
    unfold sRet
    rw [eV_eq h3]
    rfl
  · right
    refine ⟨a, D, h1, ?_⟩
    show bnd (sSeq _ _ [some (.ref j), none, none, none, none] M) _ = _
    rw [seq_ok (world0 (v3 := none) (v4 := none)), seq_er ((for_eq e2).trans h2)]
    rfl
theorem Ok_strI {a : Nat} {Q : W → Mem → Prop} (h : a ≤ 100000) : Ok (uStrI (.int a) M) Q ↔ Q (.str (intTx a)) M := by
  have e : uStrI (.int a) M = some (.ok (.str (intTx a)), M) := by
    unfold uStrI
    dsimp only
    rw [if_pos]
    · rfl
    · have := log_sm (a := (a : Int)) (by omega) (by omega)
      omega
  rw [e, Ok_some]
theorem Ok_addS {a b : Tx} {Q : W → Mem → Prop} (h : a.length + b.length ≤ 1000000) : Ok (oAdd (.str a) (.str b) M) Q ↔ Q (.str (a ++ b)) M := by
  have e : oAdd (.str a) (.str b) M = some (.ok (.str (a ++ b)), M) := by
    simp only [oAdd]
    rw [many_iff.mpr h]
    rfl
  rw [e, Ok_some]
theorem intTx_len {a : Nat} (h : a ≤ 1000) : (intTx (a : Int)).length ≤ 5 := by
  have : ∀ a : Fin 1001, (intTx ((a.val : Nat) : Int)).length ≤ 5 := by decide +kernel
  exact this ⟨a, by omega⟩
theorem due {j : Nat} {ls : List Tx} (hj : M[j]? = some (.lst (ls.map W.str))) (hl : ∀ z ∈ ls, z.length ≤ 600) (hn : ls.length ≤ 1000) : Ok (Ru (d + 4) 16 [.ref j] M) (Ans (res ls) M) := by
  refine run_n (n := 4) (b := b16 (Ru (d + 3))) rfl rfl ?_
  unfold b16
  rw [Ok_sSeq]
  refine Ok.eq (world0 (v3 := none) (v4 := none) (s := [none, none])) ?_
  have hjD : ∀ {D : D3}, (M ++ d3 D)[j]? = some (.lst (ls.map W.str)) := fun {D} => get_app hj
  dsimp only
  rw [Ok_sSeq, Ok_sFor]
  refine Ok_iRange1.mpr ?_
  simp only [Ok_sSeq, Ok_sAsg, Ok_sRet, Ok_sExp, Ok_sPass, Ok_sIf, Ok_sFor, Ok_eV, Ok_eC, Ok_eAs1, Ok_eAs0, Ok_eTup, Ok_eNew, Ok_eOp, Ok_eUn, Ok_eCall, Ok_eAnd, Ok_eOr, Ok_eIf, Ok_eL, Ok_lComp, Ok_iSeq, Ok_eTuple, Ok_lOf, setS, start, List.map_cons, List.map_nil, List.length_cons, List.length_nil, Nat.zero_add, Nat.reduceAdd, Nat.reduceSub, List.replicate_succ, List.replicate_zero, List.cons_append, List.nil_append, List.set_cons_succ, List.set_cons_zero, List.getElem?_cons_succ, List.getElem?_cons_zero, Option.some.injEq, exists_eq_left', Ok_uNot, Br_t, Br_f, Bool.not_true, Bool.not_false, Ok_lenRef hjD, List.length_map]
  rw [Ok_rngW]
  refine ⟨by omega, ?_⟩
  refine Ok_for (fun rest s M' => ∃ pre post D v2 v3, ls = pre ++ post ∧ rest = rangeW (pre.length : Int) post.length ∧ s = [some (.ref j), some (ww M.length), v2, v3] ∧ M' = M ++ d3 D ∧ Gd pre.length D ∧ res ls = rdW pre.length (post.map lineW) D)
    (fun _ _ _ _ => rfl) (fun x rest s M' ⟨pre, post, D, v2, v3, e1, e2, e3, e4, hG, hr⟩ => ?_) (fun s M' ⟨pre, post, D, v2, v3, e1, e2, e3, e4, hG, hr⟩ => ?_) _ _ _
    ⟨[], ls, ([], [], []), none, none, rfl, by simp, rfl, rfl, Gd.nil, rfl⟩
  · cases post with
    | nil => cases e2
    | cons z post =>
      have e5 : rangeW (pre.length : Int) (z :: post).length = .int (pre.length : Int) :: rangeW ((pre.length : Int) + 1) post.length := by
        rw [List.length_cons]
        unfold rangeW
        rw [List.range_succ_eq_map, List.map_cons, List.map_map]
        congr 1
        refine List.map_congr_left fun i _ => ?_
        simp
        omega
      rw [e5] at e2
      obtain ⟨rfl, rfl⟩ := List.cons.inj e2
      subst e3 e4
      refine ⟨_, rfl, ?_⟩
      have lz : z.length ≤ 600 := hl z (by rw [e1]; simp)
      have hm : pre.length + (post.length + 1) ≤ 1000 := by
        have := congrArg List.length e1
        simp at this
        omega
      have gz : (ls.map W.str)[pre.length]? = some (.str z) := by rw [e1]; simp
      simp only [Ok_sSeq, Ok_sAsg, Ok_sRet, Ok_sExp, Ok_sPass, Ok_sIf, Ok_sFor, Ok_eV, Ok_eC, Ok_eAs1, Ok_eAs0, Ok_eTup, Ok_eNew, Ok_eOp, Ok_eUn, Ok_eCall, Ok_eAnd, Ok_eOr, Ok_eIf, Ok_eL, Ok_lComp, Ok_iSeq, Ok_eTuple, Ok_lOf, setS, start, List.map_cons, List.map_nil, List.length_cons, List.length_nil, Nat.zero_add, Nat.reduceAdd, Nat.reduceSub, List.replicate_succ, List.replicate_zero, List.cons_append, List.nil_append, List.set_cons_succ, List.set_cons_zero, List.getElem?_cons_succ, List.getElem?_cons_zero, Option.some.injEq, exists_eq_left', Ok_uNot, Br_t, Br_f, Bool.not_true, Bool.not_false]
      rw [Ok_ixRef hjD, Ok_atN gz, lline_iff (d := d) lz]
      simp only [Ok_sSeq, Ok_sAsg, Ok_sRet, Ok_sExp, Ok_sPass, Ok_sIf, Ok_sFor, Ok_eV, Ok_eC, Ok_eAs1, Ok_eAs0, Ok_eTup, Ok_eNew, Ok_eOp, Ok_eUn, Ok_eCall, Ok_eAnd, Ok_eOr, Ok_eIf, Ok_eL, Ok_lComp, Ok_iSeq, Ok_eTuple, Ok_lOf, setS, start, List.map_cons, List.map_nil, List.length_cons, List.length_nil, Nat.zero_add, Nat.reduceAdd, Nat.reduceSub, List.replicate_succ, List.replicate_zero, List.cons_append, List.nil_append, List.set_cons_succ, List.set_cons_zero, List.getElem?_cons_succ, List.getElem?_cons_zero, Option.some.injEq, exists_eq_left', Ok_uNot, Br_t, Br_f, Bool.not_true, Bool.not_false, Ok_isN]
      have tail : ∀ {A : Prop}, (step D (lineW z) = none → A) → A ∨ ∃ D1, step D (lineW z) = some D1 := fun h => by
        cases hst : step D (lineW z) with
        | none => exact .inl (h hst)
        | some D1 => exact .inr ⟨D1, rfl⟩
      have out : step D (lineW z) = none → Ok (uStrI (.int (pre.length : Int)) (M ++ d3 D)) fun w M1 => Ok (oAdd (.str [116, 101, 120, 116, 32]) w M1) fun w M2 => Ans (res ls) M w M2 := fun hst => by
        rw [Ok_strI (by omega), Ok_addS (by have := intTx_len (a := pre.length) (by omega); simp; omega)]
        have : res ls = .error pre.length := by
          rw [hr, List.map_cons]
          unfold rdW
          rw [hst]
        rw [this]
        exact ⟨rfl, _, rfl⟩
      rcases line_told z with e | ⟨i, k, v, e, hi, k1, k2, k3, k4⟩
      · rw [e, decide_eq_true rfl, Br_t]
        exact out (by rw [e]; rfl)
      · rw [e, decide_eq_false (by simp), Br_f, Ok_ixTup, Ok_at1, Ok_ixTup, Ok_at0, ww_ix hi, in_world hG hi k1 k2 k3]
        cases hg : (dget (getK D i) k).isSome
        · rw [Br_f]
          simp only [Ok_sPut, Ok_sSeq, Ok_sAsg, Ok_sRet, Ok_sExp, Ok_sPass, Ok_sIf, Ok_sFor, Ok_eV, Ok_eC, Ok_eAs1, Ok_eAs0, Ok_eTup, Ok_eNew, Ok_eOp, Ok_eUn, Ok_eCall, Ok_eAnd, Ok_eOr, Ok_eIf, Ok_eL, Ok_lComp, Ok_iSeq, Ok_eTuple, Ok_lOf, setS, start, List.map_cons, List.map_nil, List.length_cons, List.length_nil, Nat.zero_add, Nat.reduceAdd, Nat.reduceSub, List.replicate_succ, List.replicate_zero, List.cons_append, List.nil_append, List.set_cons_succ, List.set_cons_zero, List.getElem?_cons_succ, List.getElem?_cons_zero, Option.some.injEq, exists_eq_left', Ok_uNot, Br_t, Br_f, Bool.not_true, Bool.not_false]
          rw [Ok_ixTup, Ok_at2, Ok_ixTup, Ok_at0, ww_ix hi, Ok_ixTup, Ok_at1]
          refine ⟨_, put_world hG (by omega) hi k1 k2 k3, pre ++ [z], post, _, _, _, by rw [e1]; simp, by simp, rfl, rfl, ?_, ?_⟩
          · rw [List.length_append]
            exact hG.put hi k3 k4
          · rw [hr, List.map_cons]
            have hst : step D (lineW z) = some (putK D i k v) := by
              rw [e]
              unfold step
              simp only [Int.toNat_natCast]
              rw [hg]
              rfl
            conv => lhs; unfold rdW
            rw [hst, List.length_append]
            rfl
        · rw [Br_t]
          refine out ?_
          rw [e]
          unfold step
          simp only [Int.toNat_natCast]
          rw [hg]
          rfl
  · have : post = [] := by cases post with
      | nil => rfl
      | cons z post => rw [List.length_cons] at e2; unfold rangeW at e2; rw [List.range_succ_eq_map] at e2; cases e2
    subst this e3 e4
    have hr2 : res ls = .ok D := hr
    simp only [Ok_sSeq, Ok_sAsg, Ok_sRet, Ok_sExp, Ok_sPass, Ok_sIf, Ok_sFor, Ok_eV, Ok_eC, Ok_eAs1, Ok_eAs0, Ok_eTup, Ok_eNew, Ok_eOp, Ok_eUn, Ok_eCall, Ok_eAnd, Ok_eOr, Ok_eIf, Ok_eL, Ok_lComp, Ok_iSeq, Ok_eTuple, Ok_lOf, setS, start, List.map_cons, List.map_nil, List.length_cons, List.length_nil, Nat.zero_add, Nat.reduceAdd, Nat.reduceSub, List.replicate_succ, List.replicate_zero, List.cons_append, List.nil_append, List.set_cons_succ, List.set_cons_zero, List.getElem?_cons_succ, List.getElem?_cons_zero, Option.some.injEq, exists_eq_left', Ok_uNot, Br_t, Br_f, Bool.not_true, Bool.not_false]
    rw [hr2]
    have : pre.length ≤ 1000 := by
      rw [List.append_nil] at e1
      rw [← e1]
      exact hn
    exact ⟨rfl, rfl, hG.more this⟩
theorem refusal_text {j a : Nat} (ha : a ≤ 1000) (h : M[j]? = some (.exc 2 (.tup [.str [97, 116], .int (a : Int)]))) : Ru (d + 1) 17 [.ref j] M = some (.ok (.str (textN a)), M) := by
  refine run_w (n := 2) (b := b17 (Ru d)) rfl rfl rfl ?_
  unfold b17
  have hX : ∀ {X : Mem}, (M ++ X)[j]? = some (.exc 2 (.tup [.str [97, 116], .int (a : Int)])) := fun {X} => get_app h
  have fld : ∀ {X : Mem} {Q : W → Mem → Prop}, Ok (uExF 2 [97, 116] (.ref j) (M ++ X)) Q ↔ Q (.int a) (M ++ X) := fun {X Q} => by
    have e : uExF 2 [97, 116] (.ref j) (M ++ X) = some (.ok (.int a), M ++ X) := by
      unfold uExF
      simp [hX, ok]
    rw [e, Ok_some]
  simp only [Ok_sSeq, Ok_sAsg, Ok_sRet, Ok_sExp, Ok_sPass, Ok_sIf, Ok_sFor, Ok_eV, Ok_eC, Ok_eAs1, Ok_eAs0, Ok_eTup, Ok_eNew, Ok_eOp, Ok_eUn, Ok_eCall, Ok_eAnd, Ok_eOr, Ok_eIf, Ok_eL, Ok_lComp, Ok_iSeq, Ok_eTuple, Ok_lOf, setS, start, List.map_cons, List.map_nil, List.length_cons, List.length_nil, Nat.zero_add, Nat.reduceAdd, Nat.reduceSub, List.replicate_succ, List.replicate_zero, List.cons_append, List.nil_append, List.set_cons_succ, List.set_cons_zero, List.getElem?_cons_succ, List.getElem?_cons_zero, Option.some.injEq, exists_eq_left', Ok_uNot, Br_t, Br_f, Bool.not_true, Bool.not_false, Ok_isN]
  rw [show decide (W.ref j = W.non) = false from rfl, Br_f, Ok_isEx (b := true) h rfl]
  simp only [Ok_sSeq, Ok_sAsg, Ok_sRet, Ok_sExp, Ok_sPass, Ok_sIf, Ok_sFor, Ok_eV, Ok_eC, Ok_eAs1, Ok_eAs0, Ok_eTup, Ok_eNew, Ok_eOp, Ok_eUn, Ok_eCall, Ok_eAnd, Ok_eOr, Ok_eIf, Ok_eL, Ok_lComp, Ok_iSeq, Ok_eTuple, Ok_lOf, setS, start, List.map_cons, List.map_nil, List.length_cons, List.length_nil, Nat.zero_add, Nat.reduceAdd, Nat.reduceSub, List.replicate_succ, List.replicate_zero, List.cons_append, List.nil_append, List.set_cons_succ, List.set_cons_zero, List.getElem?_cons_succ, List.getElem?_cons_zero, Option.some.injEq, exists_eq_left', Ok_uNot, Br_t, Br_f, Bool.not_true, Bool.not_false]
  rw [Ok_isEx (b := false) hX rfl, Br_f, Ok_isEx (b := false) hX rfl, Br_f, Ok_isEx (b := false) hX rfl, Br_f, Ok_isEx (b := false) hX rfl, Br_f, Ok_isEx (b := true) hX rfl]
  simp only [Ok_sSeq, Ok_sAsg, Ok_sRet, Ok_sExp, Ok_sPass, Ok_sIf, Ok_sFor, Ok_eV, Ok_eC, Ok_eAs1, Ok_eAs0, Ok_eTup, Ok_eNew, Ok_eOp, Ok_eUn, Ok_eCall, Ok_eAnd, Ok_eOr, Ok_eIf, Ok_eL, Ok_lComp, Ok_iSeq, Ok_eTuple, Ok_lOf, setS, start, List.map_cons, List.map_nil, List.length_cons, List.length_nil, Nat.zero_add, Nat.reduceAdd, Nat.reduceSub, List.replicate_succ, List.replicate_zero, List.cons_append, List.nil_append, List.set_cons_succ, List.set_cons_zero, List.getElem?_cons_succ, List.getElem?_cons_zero, Option.some.injEq, exists_eq_left', Ok_uNot, Br_t, Br_f, Bool.not_true, Bool.not_false, Ok_eM]
  refine ⟨kindW_L get_new, ?_⟩
  rw [fld, Ok_strI (by omega), Ok_addS (by have := intTx_len ha; simp; omega), Ok_app get_new (by decide)]
  rw [show (M ++ [O.lst []]).set M.length (.lst ([] ++ [W.str ([116, 101, 120, 116, 32] ++ intTx (a : Int))])) = M ++ [.lst [.str (textN a)]] by simp [textN]]
  rw [Ok_isEx (b := false) hX rfl, Br_f, Ok_lenRef get_new, Ok_eqi]
  rw [show decide ((([W.str (textN a)].length : Nat) : Int) = 1) = true from rfl, Br_t, Ok_ixRef get_new, Ok_at0]
  exact ⟨rfl, _, rfl⟩
theorem asked {j : Nat} {ls : List Tx} (hj : M[j]? = some (.lst (ls.map W.str))) (hl : ∀ z ∈ ls, z.length ≤ 600) (hn : ls.length ≤ 1000) : Ok (Ru (d + 7) 18 [.ref j] M) (Ans (res ls) M) := by
  refine run_n (n := 4) (b := b18 (Ru (d + 6))) rfl rfl ?_
  unfold b18
  simp only [Ok_sSeq, Ok_sAsg, Ok_sRet, Ok_sExp, Ok_sPass, Ok_sIf, Ok_sFor, Ok_eV, Ok_eC, Ok_eAs1, Ok_eAs0, Ok_eTup, Ok_eNew, Ok_eOp, Ok_eUn, Ok_eCall, Ok_eAnd, Ok_eOr, Ok_eIf, Ok_eL, Ok_lComp, Ok_iSeq, Ok_eTuple, Ok_lOf, setS, start, List.map_cons, List.map_nil, List.length_cons, List.length_nil, Nat.zero_add, Nat.reduceAdd, Nat.reduceSub, List.replicate_succ, List.replicate_zero, List.cons_append, List.nil_append, List.set_cons_succ, List.set_cons_zero, List.getElem?_cons_succ, List.getElem?_cons_zero, Option.some.injEq, exists_eq_left', Ok_uNot, Br_t, Br_f, Bool.not_true, Bool.not_false]
  have e0 : ∀ o, Ru (d + 6) 8 [.ref j] M = o → eCallX (Ru (d + 6)) 8 [(eV 0)] [some (.ref j), some .non, some .non, none] M = o := fun o h => h
  rcases read_world (d := d) hj hl hn with ⟨D, h1, h2, h3⟩ | ⟨a, D, h1, h2⟩
  · have e : sTryAs ct_WishError 3 (sAsg (.one 1) (eCallX (Ru (d + 6)) 8 [(eV 0)])) (sAsg (.one 2) (eV 3)) [some (.ref j), some .non, some .non, none] M = some (.ok (.nx [some (.ref j), some (ww M.length), some .non, none]), M ++ d3 D) := by
      unfold sTryAs sAsg
      rw [e0 _ h3]
      rfl
    refine Ok.eq e ?_
    simp only [Ok_sSeq, Ok_sAsg, Ok_sRet, Ok_sExp, Ok_sPass, Ok_sIf, Ok_sFor, Ok_eV, Ok_eC, Ok_eAs1, Ok_eAs0, Ok_eTup, Ok_eNew, Ok_eOp, Ok_eUn, Ok_eCall, Ok_eAnd, Ok_eOr, Ok_eIf, Ok_eL, Ok_lComp, Ok_iSeq, Ok_eTuple, Ok_lOf, setS, start, List.map_cons, List.map_nil, List.length_cons, List.length_nil, Nat.zero_add, Nat.reduceAdd, Nat.reduceSub, List.replicate_succ, List.replicate_zero, List.cons_append, List.nil_append, List.set_cons_succ, List.set_cons_zero, List.getElem?_cons_succ, List.getElem?_cons_zero, Option.some.injEq, exists_eq_left', Ok_uNot, Br_t, Br_f, Bool.not_true, Bool.not_false, Ok_isN]
    rw [h1]
    simp only [decide_true, Br_t]
    exact ⟨rfl, rfl, h2⟩
  · have e : sTryAs ct_WishError 3 (sAsg (.one 1) (eCallX (Ru (d + 6)) 8 [(eV 0)])) (sAsg (.one 2) (eV 3)) [some (.ref j), some .non, some .non, none] M = some (.ok (.nx [some (.ref j), some .non, some (.ref (M ++ d3 D).length), none]), M ++ d3 D ++ [.exc 2 (.tup [.str [97, 116], .int (a : Int)])]) := by
      unfold sTryAs sAsg
      rw [e0 _ h2]
      rfl
    refine Ok.eq e ?_
    simp only [Ok_sSeq, Ok_sAsg, Ok_sRet, Ok_sExp, Ok_sPass, Ok_sIf, Ok_sFor, Ok_eV, Ok_eC, Ok_eAs1, Ok_eAs0, Ok_eTup, Ok_eNew, Ok_eOp, Ok_eUn, Ok_eCall, Ok_eAnd, Ok_eOr, Ok_eIf, Ok_eL, Ok_lComp, Ok_iSeq, Ok_eTuple, Ok_lOf, setS, start, List.map_cons, List.map_nil, List.length_cons, List.length_nil, Nat.zero_add, Nat.reduceAdd, Nat.reduceSub, List.replicate_succ, List.replicate_zero, List.cons_append, List.nil_append, List.set_cons_succ, List.set_cons_zero, List.getElem?_cons_succ, List.getElem?_cons_zero, Option.some.injEq, exists_eq_left', Ok_uNot, Br_t, Br_f, Bool.not_true, Bool.not_false, Ok_isN]
    rw [show decide (W.ref (M ++ d3 D).length = W.non) = false from rfl, Br_f, h1]
    have := res_lt h1
    exact (run_iff (refusal_text (d := d + 5) (by omega) get_new)).mpr ⟨rfl, _, List.append_assoc _ _ _⟩
end
end Sw.smallword_k85_lines_refused

set_option autoImplicit false
set_option linter.all false
set_option maxRecDepth 10000
set_option exponentiation.threshold 9000
/-! Lines made by draws. -/
namespace Sw.smallword_k85_lines_refused
open Sw
theorem draw {d : Nat} {ns : List Int} (hl : ns.length ≤ 63) {k many : Int} {M : Mem} (hk : 0 ≤ k ∧ k ≤ 1000000) (hm : 0 < many) : Ru (d + 1) 9 [.scr ns, .int k, .int many] M = some (.ok (.int (drawM ns k many)), M) := by
  show gcO M (body 5 bDraw [.scr ns, .int k, .int many] M) = _
  rw [draw_body ns hl k many M hk hm]
  show some (Except.ok (gc M (.int (drawM ns k many)) M).1, (gc M (.int (drawM ns k many)) M).2) = _
  rw [gc_nil' rfl]
theorem rdW_snoc {t : W} {D2 : D3} : ∀ {ts : List W} {n : Nat} {D D1 : D3}, rdW n ts D = .ok D1 → step D1 t = some D2 → rdW n (ts ++ [t]) D = .ok D2
  | [], n, D, D1, h, hs => by
    cases h
    show rdW n [t] D = _
    unfold rdW
    rw [hs]
    rfl
  | u :: r, n, D, D1, h, hs => by
    unfold rdW at h
    show rdW n (u :: (r ++ [t])) D = _
    unfold rdW
    cases hu : step D u with
    | none => rw [hu] at h; cases h
    | some D' => rw [hu] at h; exact rdW_snoc h hs
def mark : W → Nat
  | .str n => n.getLastD 0
  | .tup (.str n :: _) => n.getLastD 0
  | _ => 0
theorem dget_no {k : W} : ∀ {kvs : List (W × W)}, (∀ p ∈ kvs, p.1 ≠ k) → (dget kvs k).isSome = false
  | [], _ => rfl
  | (k', v) :: r, h => by
    unfold dget
    rw [if_neg (h (k', v) List.mem_cons_self)]
    exact dget_no fun p hp => h p (List.mem_cons_of_mem _ hp)
/-- a made line of the number k -/
def MadeL (k : Nat) (z : Tx) : Prop := z.length ≤ 60 ∧ ∃ (i : Nat) (key v : W), lineW z = .tup [.int i, key, v] ∧ i < 3 ∧ mark key = 97 + k
def vals : List Tx := [[48], [49], [45, 49, 47, 50], [55, 47, 51], [45, 49, 50]]
def places : List Tx := [[48], [51], [45, 51, 47, 52]]
def bases : List Tx := [[97], [97, 98], [98], [102]]
theorem vals_ok : ∀ v ∈ vals, (fracO v).isSome = true ∧ 32 ∉ v ∧ v.length ≤ 4 := by decide
theorem places_ok : ∀ v ∈ places, (fracO v).isSome = true ∧ 32 ∉ v ∧ v.length ≤ 4 := by decide
theorem bases_ok : ∀ b ∈ bases, ∀ k : Fin 6, nameB (b ++ [97 + k.val]) = true ∧ 32 ∉ b ++ [97 + k.val] ∧ (b ++ [97 + k.val]).length ≤ 3 ∧ (b ++ [97 + k.val]).getLastD 0 = 97 + k.val := by decide
theorem fr_some {z : Tx} (h : (fracO z).isSome = true) : ∃ f, fracO z = some f := Option.isSome_iff_exists.mp h
theorem lineW_words {z : Tx} {ws : List Tx} (e : z = TL.joinL [32] ws) (hne : ws ≠ []) (h : ∀ p ∈ ws, 32 ∉ p) : lineW z = lineWs ws := by
  unfold lineW
  rw [e, TL.spl_join hne h]
section
variable {n v p : Tx} {k : Nat} (h1 : nameB n = true) (h2 : 32 ∉ n) (h3 : n.length ≤ 3) (h4 : n.getLastD 0 = 97 + k) (v1 : (fracO v).isSome = true) (v2 : 32 ∉ v) (v3 : v.length ≤ 4) (p1 : (fracO p).isSome = true) (p2 : 32 ∉ p) (p3 : p.length ≤ 4)
include h1 h2 h3 h4
theorem made0 : MadeL k ([102, 108, 97, 103, 32] ++ n) := by
  refine ⟨by simp; omega, 0, .str n, .bl true, ?_, by decide, h4⟩
  rw [lineW_words (ws := [cFlag, n]) (by simp [TL.joinL]) (by simp) (by
    intro q hq
    simp only [List.mem_cons, List.not_mem_nil, or_false] at hq
    rcases hq with rfl | rfl
    · decide
    · exact h2)]
  unfold lineWs
  rw [if_pos ⟨rfl, rfl, h1⟩]
  rfl
include v1 v2 v3
theorem made1 : MadeL k ([110, 97, 109, 101, 32] ++ n ++ [32] ++ v) := by
  refine ⟨by simp; omega, 1, .str n, fr v, ?_, by decide, h4⟩
  rw [lineW_words (ws := [cName, n, v]) (by simp [TL.joinL]) (by simp) (by
    intro q hq
    simp only [List.mem_cons, List.not_mem_nil, or_false] at hq
    rcases hq with rfl | rfl | rfl
    · decide
    · exact h2
    · exact v2)]
  obtain ⟨f, hf⟩ := fr_some v1
  unfold lineWs
  rw [if_neg (by rintro ⟨e, _⟩; exact absurd (show cName = cFlag from e) (by decide)), if_pos ⟨rfl, rfl, h1⟩]
  show nameV n (fracO v) = _
  unfold fr
  rw [hf]
  rfl
include p1 p2 p3
theorem made2 : MadeL k ([99, 97, 108, 108, 32] ++ n ++ [32] ++ p ++ [32, 61, 32] ++ v) := by
  refine ⟨by simp; omega, 2, .tup [.str n, .tup [fr p]], fr v, ?_, by decide, h4⟩
  rw [lineW_words (ws := [cCall, n, p, [61], v]) (by simp [TL.joinL]) (by simp) (by
    intro q hq
    simp only [List.mem_cons, List.not_mem_nil, or_false] at hq
    rcases hq with rfl | rfl | rfl | rfl | rfl
    · decide
    · exact h2
    · exact p2
    · decide
    · exact v2)]
  unfold lineWs
  rw [if_neg (by rintro ⟨e, _⟩; exact absurd (show cCall = cFlag from e) (by decide)), if_neg (by rintro ⟨e, _⟩; exact absurd (show cCall = cName from e) (by decide)), if_pos (show [cCall, n, p, [61], v].getD 0 [] = cCall from rfl)]
  have : callW [cCall, n, p, [61], v] = callV n [p] [61] v := rfl
  rw [this]
  unfold callV
  rw [if_pos ⟨rfl, h1, v1, by simp [p1]⟩]
  rfl
theorem made3 : MadeL k (TL.joinL [32] [cCall, n, p, v, [48], [61], v]) := by
  refine ⟨by simp [TL.joinL]; omega, 2, .tup [.str n, .tup [fr p, fr v, fr [48]]], fr v, ?_, by decide, h4⟩
  rw [lineW_words (ws := [cCall, n, p, v, [48], [61], v]) rfl (by simp) (by
    intro q hq
    simp only [List.mem_cons, List.not_mem_nil, or_false] at hq
    rcases hq with rfl | rfl | rfl | rfl | rfl | rfl | rfl
    · decide
    · exact h2
    · exact p2
    · exact v2
    · decide
    · decide
    · exact v2)]
  unfold lineWs
  rw [if_neg (by rintro ⟨e, _⟩; exact absurd (show cCall = cFlag from e) (by decide)), if_neg (by rintro ⟨e, _⟩; exact absurd (show cCall = cName from e) (by decide)), if_pos (show [cCall, n, p, v, [48], [61], v].getD 0 [] = cCall from rfl)]
  have : callW [cCall, n, p, v, [48], [61], v] = callV n [p, v, [48]] [61] v := rfl
  rw [this]
  unfold callV
  rw [if_pos ⟨rfl, h1, v1, by simp [p1, v1]; decide⟩]
  rfl
end
/-- the lines made so far -/
def MadeLs (ls : List Tx) : Prop := (∀ z ∈ ls, z.length ≤ 60) ∧ ∃ D, res ls = .ok D ∧ ∀ i, i < 3 → ∀ p ∈ getK D i, mark p.1 < 97 + ls.length
theorem MadeLs.nil : MadeLs [] := ⟨by simp, ([], [], []), rfl, fun i hi p hp => by
  match i, hi with
  | 0, _ => simp [getK] at hp
  | 1, _ => simp [getK] at hp
  | 2, _ => simp [getK] at hp⟩
theorem MadeLs.snoc {ls : List Tx} {z : Tx} (h : MadeLs ls) (hz : MadeL ls.length z) : MadeLs (ls ++ [z]) := by
  obtain ⟨h1, D, h2, h3⟩ := h
  obtain ⟨z1, i, key, v, z2, z3, z4⟩ := hz
  refine ⟨fun y hy => ?_, putK D i key v, ?_, fun j hj p hp => ?_⟩
  · rcases List.mem_append.mp hy with hy | hy
    · exact h1 y hy
    · rw [List.mem_singleton.mp hy]; exact z1
  · unfold res
    rw [List.map_append]
    refine rdW_snoc h2 ?_
    rw [z2]
    unfold step
    simp only [Int.toNat_natCast]
    have no : (dget (getK D i) key).isSome = false := dget_no fun p hp e => by
      have := h3 i z3 p hp
      rw [e, z4] at this
      omega
    rw [no]
    rfl
  · rw [getK_put D i j key v z3 hj] at hp
    rw [List.length_append, List.length_singleton]
    split at hp
    · rcases dput_mem2 hp with hp | ⟨_, e⟩
      · have := h3 i z3 p hp; omega
      · rw [e, z4]; omega
    · have := h3 j hj p hp; omega
section
variable {d : Nat} {M : Mem} {ns : List Int} (hl : ns.length ≤ 63)
theorem Ok_ixS {z : Tx} {i c : Nat} {Q : W → Mem → Prop} (hz : z.length ≤ 1000000) (h : z[i]? = some c) : Ok (oIx (.str z) (.int i) M) Q ↔ Q (.str [c]) M := by
  have hi : i < z.length := (List.getElem?_eq_some_iff.mp h).1
  have e : oIx (.str z) (.int i) M = some (.ok (.str [c]), M) := by
    simp [oIx, ixW_nat hi, ok, many_iff.mpr hz, h]
  rw [e, Ok_some]
theorem texts_map : ∀ zs : List Tx, textsOf (zs.map W.str) = some zs
  | [] => rfl
  | z :: zs => by
    show (textsOf (zs.map W.str)).map (z :: ·) = _
    rw [texts_map zs]
    rfl
theorem Ok_join {a : EM} {l : LM} {s : Sl} {S : Tx} {zs : List Tx} {Q : W → Mem → Prop} (ha : a s M = ok (.str S) M) (hl : Ok (l s M) fun ws M' => ws = zs.map W.str ∧ M' = M) (hz : (zs.map List.length).sum + zs.length * S.length ≤ 1000000) (q : Q (.str (TL.joinL S zs)) M) : Ok (eJoin a l s M) Q := by
  unfold eJoin
  rw [ha]
  show Ok (bnd (l s M) _) Q
  rw [Ok_bnd]
  refine hl.mono fun ws M' ⟨e1, e2⟩ => ?_
  have e2 := e2.symm
  subst e1 e2
  rw [texts_map]
  dsimp only
  rw [if_pos hz]
  exact (Ok_ok _).mpr q
include hl
theorem made : Ok (Ru (d + 2) 10 [.scr ns] M) fun r M' => ∃ ws, r = .ref M.length ∧ M' = M ++ [.lst ws] ∧ isDs ws = true ∧ ∃ ls, ws = ls.map W.str ∧ MadeLs ls ∧ ls.length ≤ 6 := by
  refine run_listG (gcs := gcs) (T := T) (d := d + 1) (f := 10) (n := 8) (b := b10 (Ru (d + 1))) (M := M) (P := fun ws => ∃ ls, ws = ls.map W.str ∧ MadeLs ls ∧ ls.length ≤ 6) rfl rfl ?_
  unfold b10
  have g : ∀ {k m : Int}, 0 < m → 0 ≤ drawM ns k m ∧ drawM ns k m < m := drawM_lt
  simp only [Ok_sSeq, Ok_sAsg, Ok_sRet, Ok_sExp, Ok_sPass, Ok_sIf, Ok_sFor, Ok_eV, Ok_eC, Ok_eAs1, Ok_eAs0, Ok_eTup, Ok_eNew, Ok_eOp, Ok_eUn, Ok_eCall, Ok_eAnd, Ok_eOr, Ok_eIf, Ok_eL, Ok_lComp, Ok_iSeq, Ok_eTuple, Ok_lOf, setS, start, List.map_cons, List.map_nil, List.length_cons, List.length_nil, Nat.zero_add, Nat.reduceAdd, Nat.reduceSub, List.replicate_succ, List.replicate_zero, List.cons_append, List.nil_append, List.set_cons_succ, List.set_cons_zero, List.getElem?_cons_succ, List.getElem?_cons_zero, Option.some.injEq, exists_eq_left', Ok_uNot, Br_t, Br_f, Bool.not_true, Bool.not_false]
  refine Ok_iRange1.mpr ?_
  simp only [Ok_sSeq, Ok_sAsg, Ok_sRet, Ok_sExp, Ok_sPass, Ok_sIf, Ok_sFor, Ok_eV, Ok_eC, Ok_eAs1, Ok_eAs0, Ok_eTup, Ok_eNew, Ok_eOp, Ok_eUn, Ok_eCall, Ok_eAnd, Ok_eOr, Ok_eIf, Ok_eL, Ok_lComp, Ok_iSeq, Ok_eTuple, Ok_lOf, setS, start, List.map_cons, List.map_nil, List.length_cons, List.length_nil, Nat.zero_add, Nat.reduceAdd, Nat.reduceSub, List.replicate_succ, List.replicate_zero, List.cons_append, List.nil_append, List.set_cons_succ, List.set_cons_zero, List.getElem?_cons_succ, List.getElem?_cons_zero, Option.some.injEq, exists_eq_left', Ok_uNot, Br_t, Br_f, Bool.not_true, Bool.not_false]
  refine Ok.eq (draw hl (by omega) (by decide)) ?_
  have g7 := g (k := 0) (m := 7) (by decide)
  generalize drawM ns 0 7 = cnt at g7
  rw [Ok_rngW]
  refine ⟨by omega, ?_⟩
  refine Ok_for (fun rest s M' => ∃ X ls v2 v3 v4 v5 v6 v7 m, M' = M ++ X ∧ X[0]? = some (.lst (ls.map W.str)) ∧ s = [some (.scr ns), some (.ref M.length), v2, v3, v4, v5, v6, v7] ∧ rest = rangeW (ls.length : Int) m ∧ ls.length + m ≤ 6 ∧ MadeLs ls)
    (fun _ _ _ _ => rfl) (fun x rest s M' ⟨X, ls, v2, v3, v4, v5, v6, v7, m, e1, e2, e3, e4, e5, e6⟩ => ?_) (fun s M' ⟨X, ls, v2, v3, v4, v5, v6, v7, m, e1, e2, e3, e4, e5, e6⟩ => ?_) _ _ _
    ⟨[.lst []], [], none, none, none, none, none, none, (cnt - 0).toNat, rfl, rfl, rfl, rfl, by simp; omega, MadeLs.nil⟩
  · cases m with
    | zero => cases e4
    | succ m =>
      have e7 : rangeW (ls.length : Int) (m + 1) = .int (ls.length : Int) :: rangeW ((ls.length : Int) + 1) m := by
        unfold rangeW
        rw [List.range_succ_eq_map, List.map_cons, List.map_map]
        congr 1
        refine List.map_congr_left fun i _ => ?_
        simp
        omega
      rw [e7] at e4
      obtain ⟨rfl, rfl⟩ := List.cons.inj e4
      subst e1 e3
      refine ⟨_, rfl, ?_⟩
      have hk6 : ls.length < 6 := by omega
      have hm5 : (5 : Int).natAbs.log2 + (ls.length : Int).natAbs.log2 < 1000000 := by
        have := log_sm (a := 5) (by omega) (by omega)
        have := log_sm (a := (ls.length : Int)) (by omega) (by omega)
        omega
      simp only [Ok_sSeq, Ok_sAsg, Ok_sRet, Ok_sExp, Ok_sPass, Ok_sIf, Ok_sFor, Ok_eV, Ok_eC, Ok_eAs1, Ok_eAs0, Ok_eTup, Ok_eNew, Ok_eOp, Ok_eUn, Ok_eCall, Ok_eAnd, Ok_eOr, Ok_eIf, Ok_eL, Ok_lComp, Ok_iSeq, Ok_eTuple, Ok_lOf, setS, start, List.map_cons, List.map_nil, List.length_cons, List.length_nil, Nat.zero_add, Nat.reduceAdd, Nat.reduceSub, List.replicate_succ, List.replicate_zero, List.cons_append, List.nil_append, List.set_cons_succ, List.set_cons_zero, List.getElem?_cons_succ, List.getElem?_cons_zero, Option.some.injEq, exists_eq_left', Ok_uNot, Br_t, Br_f, Bool.not_true, Bool.not_false, Ok_add, Ok_mul]
      refine ⟨hm5, ?_⟩
      refine Ok.eq (draw hl (by omega) (by decide)) ?_
      refine (Ok_ixRef (ws := bases.map W.str) get_new).mpr ?_
      refine Ok_at_mem (g (by decide)).1 (g (by decide)).2 fun w hw => ?_
      obtain ⟨bb, hbb, rfl⟩ := List.mem_map.mp hw
      have six : ∀ i : Fin 6, ([97, 98, 99, 100, 101, 102] : Tx)[i.val]? = some (97 + i.val) := by decide
      rw [Ok_ixS (by decide) (six ⟨ls.length, hk6⟩)]
      obtain ⟨n1, n2, n3, n4⟩ := bases_ok bb hbb ⟨ls.length, hk6⟩
      dsimp only at n1 n2 n3 n4 ⊢
      rw [Ok_addS (by rw [List.length_append] at n3; simp at n3 ⊢; omega)]
      generalize bb ++ [97 + ls.length] = nm at n1 n2 n3 n4 ⊢
      refine ⟨hm5, ?_⟩
      refine Ok.eq (draw hl (by omega) (by decide)) ?_
      refine (Ok_ixRef (ws := vals.map W.str) get_new).mpr ?_
      refine Ok_at_mem (g (by decide)).1 (g (by decide)).2 fun w hw => ?_
      obtain ⟨vv, hvv, rfl⟩ := List.mem_map.mp hw
      obtain ⟨w1, w2, w3⟩ := vals_ok vv hvv
      refine ⟨hm5, ?_⟩
      refine Ok.eq (draw hl (by omega) (by decide)) ?_
      refine (Ok_ixRef (ws := places.map W.str) get_new).mpr ?_
      refine Ok_at_mem (g (by decide)).1 (g (by decide)).2 fun w hw => ?_
      obtain ⟨pp, hpp, rfl⟩ := List.mem_map.mp hw
      obtain ⟨p1, p2, p3⟩ := places_ok pp hpp
      refine ⟨hm5, ?_⟩
      refine Ok.eq (draw hl (by omega) (by decide)) ?_
      have g4 := g (k := 23 + 5 * (ls.length : Int)) (m := 4) (by decide)
      generalize drawM ns (23 + 5 * (ls.length : Int)) 4 = way at g4
      generalize hN : M ++ X ++ [O.lst (bases.map W.str)] ++ [O.lst (vals.map W.str)] ++ [O.lst (places.map W.str)] = N
      have hNX : ∃ Y, N = M ++ Y ∧ Y[0]? = some (.lst (ls.map W.str)) := ⟨X ++ ([O.lst (bases.map W.str)] ++ ([O.lst (vals.map W.str)] ++ [O.lst (places.map W.str)])), by rw [← hN]; simp only [List.append_assoc], get_app e2⟩
      obtain ⟨Y, hNY, hY⟩ := hNX
      have hj : ∀ {Z : Mem}, (N ++ Z)[M.length]? = some (.lst (ls.map W.str)) := fun {Z} => by
        rw [hNY]
        exact get_app (get_app_at (j := 0) rfl hY)
      have sm : ∀ {a b : Tx}, a.length ≤ 100 → b.length ≤ 100 → a.length + b.length ≤ 1000000 := fun h h' => by omega
      rw [Ok_addS (by simp; omega), Ok_addS (by simp; omega), Ok_addS (by simp; omega), Ok_addS (by simp; omega), Ok_addS (by simp; omega), Ok_addS (by simp; omega), Ok_addS (by simp; omega), Ok_addS (by simp; omega), Ok_addS (by simp; omega)]
      rw [Ok_eM, Ok_eV]
      refine ⟨_, rfl, kindW_L hj, ?_⟩
      simp only [Ok_sSeq, Ok_sAsg, Ok_sRet, Ok_sExp, Ok_sPass, Ok_sIf, Ok_sFor, Ok_eV, Ok_eC, Ok_eAs1, Ok_eAs0, Ok_eTup, Ok_eNew, Ok_eOp, Ok_eUn, Ok_eCall, Ok_eAnd, Ok_eOr, Ok_eIf, Ok_eL, Ok_lComp, Ok_iSeq, Ok_eTuple, Ok_lOf, setS, start, List.map_cons, List.map_nil, List.length_cons, List.length_nil, Nat.zero_add, Nat.reduceAdd, Nat.reduceSub, List.replicate_succ, List.replicate_zero, List.cons_append, List.nil_append, List.set_cons_succ, List.set_cons_zero, List.getElem?_cons_succ, List.getElem?_cons_zero, Option.some.injEq, exists_eq_left', Ok_uNot, Br_t, Br_f, Bool.not_true, Bool.not_false]
      refine Ok_join (zs := [cCall, nm, pp, vv, [48], [61], vv]) rfl (by simp only [Ok_sSeq, Ok_sAsg, Ok_sRet, Ok_sExp, Ok_sPass, Ok_sIf, Ok_sFor, Ok_eV, Ok_eC, Ok_eAs1, Ok_eAs0, Ok_eTup, Ok_eNew, Ok_eOp, Ok_eUn, Ok_eCall, Ok_eAnd, Ok_eOr, Ok_eIf, Ok_eL, Ok_lComp, Ok_iSeq, Ok_eTuple, Ok_lOf, setS, start, List.map_cons, List.map_nil, List.length_cons, List.length_nil, Nat.zero_add, Nat.reduceAdd, Nat.reduceSub, List.replicate_succ, List.replicate_zero, List.cons_append, List.nil_append, List.set_cons_succ, List.set_cons_zero, List.getElem?_cons_succ, List.getElem?_cons_zero, Option.some.injEq, exists_eq_left', Ok_uNot, Br_t, Br_f, Bool.not_true, Bool.not_false]; first | exact ⟨rfl, trivial⟩ | exact ⟨trivial, trivial⟩ | exact ⟨rfl, rfl⟩) (by simp; omega) ?_
      rw [Ok_addL (get_app get_new) get_new (by simp), Ok_ixRef get_new]
      refine Ok_at_mem g4.1 (by simpa using g4.2) fun w hw => ?_
      have hmade : ∃ z, w = .str z ∧ MadeL ls.length z := by
        simp only [List.cons_append, List.nil_append, List.mem_cons, List.not_mem_nil, or_false] at hw
        rcases hw with rfl | rfl | rfl | rfl
        · exact ⟨_, rfl, made0 n1 n2 n3 n4⟩
        · exact ⟨_, rfl, made1 n1 n2 n3 n4 w1 w2 w3⟩
        · exact ⟨_, rfl, made2 n1 n2 n3 n4 w1 w2 w3 p1 p2 p3⟩
        · exact ⟨_, rfl, made3 n1 n2 n3 n4 w1 w2 w3 p1 p2 p3⟩
      obtain ⟨z, rfl, hz⟩ := hmade
      rw [List.append_assoc N, List.append_assoc N]
      rw [Ok_app hj (by rw [List.length_map]; omega)]
      have es : ∀ Z : Mem, (N ++ Z).set M.length (.lst (ls.map W.str ++ [W.str z])) = M ++ (Y ++ Z).set 0 (.lst (ls.map W.str ++ [W.str z])) := fun Z => by
        rw [hNY, List.append_assoc]
        exact set_app_at (j := 0) rfl
      rw [es]
      refine ⟨_, ls ++ [z], _, _, _, _, _, _, m, rfl, ?_, rfl, ?_, ?_, e6.snoc hz⟩
      · rw [List.map_append]
        exact get_set (get_app hY)
      · rw [List.length_append]
        rfl
      · rw [List.length_append, List.length_singleton]
        omega
  · have hm : m = 0 := by
      cases m with
      | zero => rfl
      | succ m => unfold rangeW at e4; rw [List.range_succ_eq_map] at e4; cases e4
    subst e1 e3 hm
    simp only [Ok_sSeq, Ok_sAsg, Ok_sRet, Ok_sExp, Ok_sPass, Ok_sIf, Ok_sFor, Ok_eV, Ok_eC, Ok_eAs1, Ok_eAs0, Ok_eTup, Ok_eNew, Ok_eOp, Ok_eUn, Ok_eCall, Ok_eAnd, Ok_eOr, Ok_eIf, Ok_eL, Ok_lComp, Ok_iSeq, Ok_eTuple, Ok_lOf, setS, start, List.map_cons, List.map_nil, List.length_cons, List.length_nil, Nat.zero_add, Nat.reduceAdd, Nat.reduceSub, List.replicate_succ, List.replicate_zero, List.cons_append, List.nil_append, List.set_cons_succ, List.set_cons_zero, List.getElem?_cons_succ, List.getElem?_cons_zero, Option.some.injEq, exists_eq_left', Ok_uNot, Br_t, Br_f, Bool.not_true, Bool.not_false]
    exact ⟨ls.map W.str, X, 0, rfl, rfl, e2, isDs_mem.mpr fun w hw => by
      obtain ⟨z, _, rfl⟩ := List.mem_map.mp hw
      rfl, ls, rfl, e6, by omega⟩
end
end Sw.smallword_k85_lines_refused

set_option autoImplicit false
set_option linter.all false
set_option maxRecDepth 10000
set_option exponentiation.threshold 9000
/-! Lines spoiled by draws: they stay short. -/
namespace Sw.smallword_k85_lines_refused
open Sw
def odds : List Tx := [[], [102, 108, 97, 103], [102, 108, 97, 103, 32, 97], [102, 108, 97, 103, 32, 65], [110, 97, 109, 101, 32, 97], [110, 97, 109, 101, 32, 97, 32, 49, 47, 48], [110, 97, 109, 101, 32, 97, 32, 50, 47, 52], [110, 97, 109, 101, 32, 97, 32, 49, 32, 50]] ++
  [[99, 97, 108, 108, 32, 102, 32, 61, 32, 49], [99, 97, 108, 108, 32, 102, 32, 49, 32, 49, 32, 49, 32, 49, 32, 61, 32, 50], [99, 97, 108, 108, 32, 102, 32, 49, 32, 61, 32], [99, 97, 108, 108, 32, 102, 32, 49, 32, 50]] ++
  [[99, 97, 108, 108, 32, 102, 32, 49, 32, 61, 32, 49], [99, 97, 108, 108, 32, 102, 32, 48, 49, 32, 61, 32, 49], [102, 108, 97, 103, 32, 97, 98, 99, 100, 101, 102, 103, 104, 105], [32, 102, 108, 97, 103, 32, 97]]
theorem odds_ok : odds.length = 16 ∧ ∀ z ∈ odds, z.length ≤ 25 := by decide
def signs : Tx := [32, 33, 34, 35, 36, 38, 39, 40, 41, 42, 43, 44, 45, 46, 47, 48, 49, 50, 51, 52, 53, 54, 55, 56, 57, 58, 59, 60, 61, 62, 63, 64, 65, 66, 67, 68, 69, 70, 71, 72, 73, 74, 75, 76, 77, 78, 79, 80, 81, 82, 83, 84, 85, 86, 87, 88, 89, 90, 91, 92, 93, 94, 95, 96, 97, 98, 99, 100, 101, 102, 103, 104, 105, 106, 107, 108, 109, 110, 111, 112, 113, 114, 115, 116, 117, 118, 119, 120, 121, 122, 123, 124, 125, 126]
/-- lines that are short -/
def Short (B n : Nat) (ls : List Tx) : Prop := (∀ z ∈ ls, z.length ≤ B) ∧ ls.length ≤ n
section
variable {d : Nat} {M : Mem} {ns : List Int} (hl : ns.length ≤ 63)
theorem Ok_ixSm {z : Tx} {i : Int} {Q : W → Mem → Prop} (hz : z.length ≤ 1000000) (h0 : 0 ≤ i) (h1 : i < z.length) (h : ∀ c, Q (.str [c]) M) : Ok (oIx (.str z) (.int i) M) Q := by
  obtain ⟨n, rfl⟩ := Int.eq_ofNat_of_zero_le h0
  have hn : n < z.length := by omega
  rw [Ok_ixS hz (List.getElem?_eq_getElem hn)]
  exact h _
theorem Ok_insert {j : Nat} {ws : List W} {i : Int} {v : W} {Q : W → Mem → Prop} (hj : M[j]? = some (.lst ws)) (h0 : 0 ≤ i) (h1 : i ≤ 1000000) (h2 : ws.length < 1000000) : Ok (fInsert (.ref j) [.int i, v] M) Q ↔ Q .non (M.set j (.lst (ws.take i.toNat ++ [v] ++ ws.drop i.toNat))) := by
  have e : fInsert (.ref j) [.int i, v] M = some (.ok .non, M.set j (.lst (ws.take i.toNat ++ [v] ++ ws.drop i.toNat))) := by
    unfold fInsert onL
    simp only [hj]
    rw [if_pos ⟨h0, h1, h2⟩]
    rfl
  rw [e, Ok_some]
theorem Ok_popAt {j n : Nat} {ws : List W} {w : W} {Q : W → Mem → Prop} (hj : M[j]? = some (.lst ws)) (hw : ws[n]? = some w) (hl : ws.length ≤ 1000000) : Ok (fPopAt (.ref j) [.int (n : Int)] M) Q ↔ Q w (M.set j (.lst (ws.eraseIdx n))) := by
  have hn : n < ws.length := (List.getElem?_eq_some_iff.mp hw).1
  have e : fPopAt (.ref j) [.int (n : Int)] M = some (.ok w, M.set j (.lst (ws.eraseIdx n))) := by
    unfold fPopAt onL
    simp only [hj, ixW_nat hn, many_iff.mpr hl, if_true, hw]
    rfl
  rw [e, Ok_some]
theorem cut_hi {z : Tx} {n : Nat} (h : n ≤ z.length) : cutX z none (some (n : Int)) = z.take n := cutX_take h
theorem cut_lo {z : Tx} {n : Nat} : cutX z (some (n : Int)) none = z.drop n := by
  unfold cutX sIxW
  dsimp only
  rw [if_neg (by omega)]
  by_cases h : n ≤ z.length
  · rw [show min (Int.toNat (n : Int)) z.length = n by simp; omega, List.take_of_length_le]
    rw [List.length_drop]
    omega
  · rw [show min (Int.toNat (n : Int)) z.length = z.length by simp; omega, List.drop_of_length_le (Nat.le_refl _), List.drop_of_length_le (by omega)]
    simp
theorem Ok_addG {i j : Nat} {xs ys : List W} {K : W → Mem → Prop} (hi : M[i]? = some (.lst xs)) (hj : M[j]? = some (.lst ys)) (hl : xs.length + ys.length ≤ 1000000)
    (h : ∀ q N, N = M ++ [O.lst (xs ++ ys)] → N[q]? = some (.lst (xs ++ ys)) → K (.ref q) N) : Ok (oAdd (.ref i) (.ref j) M) K := by
  rw [Ok_addL hi hj hl]
  exact h _ _ rfl get_new
theorem app_ex3 {P N M Y a b c : Mem} {o : O} (h : N = M ++ Y) (hY : Y[0]? = some o) (hP : P = N ++ a ++ b ++ c) : ∃ Y', P = M ++ Y' ∧ Y'[0]? = some o := ⟨Y ++ a ++ b ++ c, by rw [hP, h]; simp only [List.append_assoc], get_app (get_app (get_app hY))⟩
theorem app_t {P M Y a b : Mem} (h : P = M ++ Y) : P ++ a ++ b = M ++ (Y ++ a ++ b) := by rw [h]; simp only [List.append_assoc]
theorem app_ex6 {N M b c e f g : Mem} {a : O} (h : N = M ++ [a] ++ b ++ c ++ e ++ f ++ g) : ∃ Y, N = M ++ Y ∧ Y[0]? = some a := ⟨[a] ++ (b ++ (c ++ (e ++ (f ++ g)))), by rw [h]; simp only [List.append_assoc], rfl⟩
theorem Short.mono {B n B' n' : Nat} {ls : List Tx} (h : Short B n ls) (h1 : B ≤ B') (h2 : n ≤ n') : Short B' n' ls := ⟨fun z hz => Nat.le_trans (h.1 z hz) h1, Nat.le_trans h.2 h2⟩
theorem Short.ins {B n i : Nat} {ls : List Tx} {v : Tx} (h : Short B n ls) (hv : v.length ≤ B) : Short B (n + 1) (ls.take i ++ [v] ++ ls.drop i) := by
  refine ⟨fun z hz => ?_, ?_⟩
  · rcases List.mem_append.mp hz with hz | hz
    · rcases List.mem_append.mp hz with hz | hz
      · exact h.1 z (List.mem_of_mem_take hz)
      · rw [List.mem_singleton.mp hz]; exact hv
    · exact h.1 z (List.mem_of_mem_drop hz)
  · have := h.2
    simp only [List.length_append, List.length_take, List.length_singleton, List.length_drop]
    omega
theorem Short.set {B n i : Nat} {ls : List Tx} {v : Tx} (h : Short B n ls) (hv : v.length ≤ B) : Short B n (ls.set i v) := by
  refine ⟨fun z hz => ?_, by rw [List.length_set]; exact h.2⟩
  rcases List.mem_or_eq_of_mem_set hz with hz | hz
  · exact h.1 z hz
  · rw [hz]; exact hv
theorem ins_map {ls : List Tx} {v : Tx} {i : Nat} : (ls.map W.str).take i ++ [W.str v] ++ (ls.map W.str).drop i = (ls.take i ++ [v] ++ ls.drop i).map W.str := by
  simp only [List.map_append, List.map_take, List.map_drop, List.map_cons, List.map_nil]
section
variable {N : Mem} {p q : Nat} {ls : List Tx} {k : Int} {B n : Nat} {a : Option W} {r : Sl} {Q : W → Mem → Prop}
  (hp : N[p]? = some (.lst (ls.map W.str))) (hq : N[q]? = some (.lst (odds.map W.str))) (hs : Short B n ls) (hn : n ≤ 50) (hk : 0 ≤ k ∧ k ≤ 900000)
include hl hp hq hs hn hk
theorem ins_odd (h : ∀ ls', Short (2 * B + 30) (n + 1) ls' → Q .non (N.set p (.lst (ls'.map W.str)))) : Ok (eM 2 fInsert (eV 3) [eCall (Ru (d + 1)) 9 [eV 0, eOp oAdd (eV 1) (eC (W.int 1)), eOp oAdd (eUn uLen (eV 3)) (eC (W.int 1))], eOp oIx (eV 4) (eCall (Ru (d + 1)) 9 [eV 0, eOp oAdd (eV 1) (eC (W.int 2)), eC (W.int 16)])]
    (some (.scr ns) :: some (.int k) :: a :: some (.ref p) :: some (.ref q) :: r) N) Q := by
  have g : ∀ {k m : Int}, 0 < m → 0 ≤ drawM ns k m ∧ drawM ns k m < m := drawM_lt
  have hs2 := hs.2
  rw [Ok_eM, Ok_eV]
  refine ⟨_, rfl, kindW_L hp, ?_⟩
  simp only [Ok_sSeq, Ok_sAsg, Ok_sRet, Ok_sExp, Ok_sPass, Ok_sIf, Ok_sFor, Ok_eV, Ok_eC, Ok_eAs1, Ok_eAs0, Ok_eTup, Ok_eNew, Ok_eOp, Ok_eUn, Ok_eCall, Ok_eAnd, Ok_eOr, Ok_eIf, Ok_eL, Ok_lComp, Ok_iSeq, Ok_eTuple, Ok_lOf, setS, start, List.map_cons, List.map_nil, List.length_cons, List.length_nil, Nat.zero_add, Nat.reduceAdd, Nat.reduceSub, List.replicate_succ, List.replicate_zero, List.cons_append, List.nil_append, List.set_cons_succ, List.set_cons_zero, List.getElem?_cons_succ, List.getElem?_cons_zero, Option.some.injEq, exists_eq_left', Ok_uNot, Br_t, Br_f, Bool.not_true, Bool.not_false]
  rw [Ok_add, Ok_lenRef hp, Ok_add, List.length_map]
  refine Ok.eq (draw hl (by omega) (by omega)) ?_
  have g1 := g (k := k + 1) (m := (ls.length : Int) + 1) (by omega)
  generalize drawM ns (k + 1) ((ls.length : Int) + 1) = u at g1
  rw [Ok_add]
  refine Ok.eq (draw hl (by omega) (by decide)) ?_
  rw [Ok_ixRef hq]
  refine Ok_at_mem (g (by decide)).1 (g (by decide)).2 fun w hw => ?_
  obtain ⟨o, ho, rfl⟩ := List.mem_map.mp hw
  have := odds_ok.2 o ho
  rw [Ok_insert hp g1.1 (by omega) (by rw [List.length_map]; omega), ins_map]
  exact h _ ((hs.mono (by omega) (Nat.le_refl _)).ins (by omega))
end
theorem putW_L {N : Mem} {p i : Nat} {ls : List Tx} {v : Tx} (hp : N[p]? = some (.lst (ls.map W.str))) (hi : i < ls.length) : putW (.ref p) (.int (i : Int)) (.str v) N = some (N.set p (.lst ((ls.set i v).map W.str))) := by
  unfold putW
  simp only [hp, ixW_nat (show i < (ls.map W.str).length by rw [List.length_map]; exact hi), Option.map_some, List.map_set]
theorem Ok_rep {N : Mem} {p : Nat} {ws : List W} {k : Int} {Q : W → Mem → Prop} (hp : N[p]? = some (.lst ws)) (h0 : 0 ≤ k) (h1 : k ≤ 10) (h2 : ws.length ≤ 10) : Ok (oRep (.ref p) (.int k) N) Q ↔ Q (.ref N.length) (N ++ [.lst (List.replicate k.toNat ws).flatten]) := by
  have h3 : ws.length * k.toNat ≤ 10 * 10 := Nat.mul_le_mul h2 (by omega)
  have e : oRep (.ref p) (.int k) N = some (.ok (.ref N.length), N ++ [.lst (List.replicate k.toNat ws).flatten]) := by
    unfold oRep
    simp only [hp]
    rw [decide_eq_true h0, decide_eq_true (show k ≤ 1000000 by omega), decide_eq_true (show ws.length * k.toNat ≤ 1000000 by omega)]
    rfl
  rw [e, Ok_some]
theorem br_both {b : Bool} {P R : Prop} (h1 : P) (h2 : R) : Br (.bl b) P R := by cases b <;> assumption
theorem spl_sum {S : Tx} : ∀ (z acc : Tx) (k : Nat), ((TL.spl S k acc z).map List.length).sum + (TL.spl S k acc z).length ≤ acc.length + z.length + 1 := by
  intro z
  induction z with
  | nil => intro acc k; rw [TL.spl_nil]; simp
  | cons c r ih =>
    intro acc k
    cases k with
    | zero =>
      unfold TL.spl
      split
      · have := ih [] (S.length - 1)
        simp only [List.map_cons, List.sum_cons, List.length_cons, List.length_nil] at this ⊢
        omega
      · have := ih (acc ++ [c]) 0
        simp only [List.length_append, List.length_cons, List.length_nil] at this ⊢
        omega
    | succ k =>
      unfold TL.spl
      have := ih acc k
      simp only [List.length_cons]
      omega
theorem joinL_le {S : Tx} : ∀ zs : List Tx, (TL.joinL S zs).length ≤ (zs.map List.length).sum + zs.length * S.length
  | [] => Nat.zero_le _
  | [p] => by
    show p.length ≤ _
    simp
  | p :: q :: r => by
    have e : TL.joinL S (p :: q :: r) = p ++ (S ++ TL.joinL S (q :: r)) := rfl
    have := joinL_le (S := S) (q :: r)
    rw [e, List.length_append, List.length_append]
    simp only [List.map_cons, List.sum_cons, List.length_cons, Nat.add_mul, Nat.one_mul] at this ⊢
    omega
theorem sum_set {v : Tx} : ∀ (zs : List Tx) (i : Nat), ((zs.set i v).map List.length).sum ≤ (zs.map List.length).sum + v.length
  | [], i => by simp
  | z :: zs, 0 => by simp; omega
  | z :: zs, i + 1 => by
    have := sum_set (v := v) zs i
    simp only [List.set_cons_succ, List.map_cons, List.sum_cons]
    omega
def strange : List Tx := [[], [61], [48], [97], [45, 49], [49, 47, 50], [99, 97, 108, 108], [48, 48], [45, 48], [51, 47, 51]]
theorem strange_ok : ∀ v ∈ strange, v.length ≤ 4 := by decide
theorem erase_map {ls : List Tx} {i : Nat} : (ls.map W.str).eraseIdx i = (ls.eraseIdx i).map W.str := by
  simp only [List.eraseIdx_eq_take_drop_succ, List.map_append, List.map_take, List.map_drop]
theorem Short.erase {B n i : Nat} {ls : List Tx} (h : Short B n ls) : Short B n (ls.eraseIdx i) := by
  refine ⟨fun z hz => h.1 z (List.mem_of_mem_eraseIdx hz), ?_⟩
  have := h.2
  have := List.length_eraseIdx_le ls i
  omega
include hl
theorem spoiled {j B n : Nat} {ls : List Tx} {k : Int} (hj : M[j]? = some (.lst (ls.map W.str))) (hs : Short B n ls) (hB : B ≤ 400) (hn : n ≤ 50) (hk : 0 ≤ k ∧ k ≤ 900000) : Ok (Ru (d + 2) 11 [.scr ns, .int k, .ref j] M) fun r M' => ∃ ws, r = .ref M.length ∧ M' = M ++ [.lst ws] ∧ isDs ws = true ∧ ∃ ls', ws = ls'.map W.str ∧ Short (2 * B + 30) (n + 1) ls' := by
  refine run_listG (gcs := gcs) (T := T) (d := d + 1) (f := 11) (n := 13) (b := b11 (Ru (d + 1))) (M := M) (P := fun ws => ∃ ls', ws = ls'.map W.str ∧ Short (2 * B + 30) (n + 1) ls') rfl rfl ?_
  have g : ∀ {k m : Int}, 0 < m → 0 ≤ drawM ns k m ∧ drawM ns k m < m := drawM_lt
  obtain ⟨s1, s2⟩ := hs
  unfold b11
  rw [Ok_sSeq, Ok_sAsg, Ok_eNew]
  refine Ok_lList ?_
  rw [Ok_lOf, Ok_eV]
  refine ⟨_, rfl, _, items_L hj, by rw [List.length_map]; omega, ?_⟩
  simp only [Ok_sSeq, Ok_sAsg, Ok_sRet, Ok_sExp, Ok_sPass, Ok_sIf, Ok_sFor, Ok_eV, Ok_eC, Ok_eAs1, Ok_eAs0, Ok_eTup, Ok_eNew, Ok_eOp, Ok_eUn, Ok_eCall, Ok_eAnd, Ok_eOr, Ok_eIf, Ok_eL, Ok_lComp, Ok_iSeq, Ok_eTuple, Ok_lOf, setS, start, List.map_cons, List.map_nil, List.length_cons, List.length_nil, Nat.zero_add, Nat.reduceAdd, Nat.reduceSub, List.replicate_succ, List.replicate_zero, List.cons_append, List.nil_append, List.set_cons_succ, List.set_cons_zero, List.getElem?_cons_succ, List.getElem?_cons_zero, Option.some.injEq, exists_eq_left', Ok_uNot, Br_t, Br_f, Bool.not_true, Bool.not_false]
  have q1 : ∀ {Z : Mem}, (M ++ [O.lst (ls.map W.str)] ++ Z)[M.length]? = some (.lst (ls.map W.str)) := fun {Z} => get_app get_new
  rw [Ok_addL (get_app get_new) get_new (by decide)]
  refine Ok_addG (get_app get_new) get_new (by decide) fun q N hN hq => ?_
  obtain ⟨Y, hNY, hY⟩ := app_ex6 hN
  clear hN q1
  have hq : N[q]? = some (.lst (odds.map W.str)) := hq
  have hj0 : N[M.length]? = some (.lst (ls.map W.str)) := by
    rw [hNY]
    exact get_app_at (j := 0) rfl hY
  have hlt : M.length < N.length := (List.getElem?_eq_some_iff.mp hj0).1
  refine Ok.eq (draw hl (by omega) (by decide)) ?_
  have g7 := g (k := k) (m := 7) (by decide)
  generalize drawM ns k 7 = way at g7
  have fin' : ∀ (N Y : Mem), N = M ++ Y → Y[0]? = some (.lst (ls.map W.str)) → ∀ ls' : List Tx, Short (2 * B + 30) (n + 1) ls' → ∃ ws X j, Fl.rt (W.ref M.length) = Fl.rt (W.ref (M.length + j)) ∧ N.set M.length (.lst (ls'.map W.str)) = M ++ X ∧ X[j]? = some (O.lst ws) ∧ isDs ws = true ∧ ∃ ls', ws = List.map W.str ls' ∧ Short (2 * B + 30) (n + 1) ls' := fun N Y hNY hY ls' h => by
    refine ⟨ls'.map W.str, Y.set 0 (.lst (ls'.map W.str)), 0, rfl, ?_, get_set hY, isDs_mem.mpr fun w hw => ?_, ls', rfl, h⟩
    · rw [hNY]
      exact set_app_at (j := 0) rfl
    · obtain ⟨z, _, rfl⟩ := List.mem_map.mp hw
      rfl
  have fin := fin' N Y hNY hY
  have ho : Short B n ls := ⟨s1, s2⟩
  rw [Ok_lenRef hj0, Ok_eqi]
  by_cases e0 : ls.length = 0
  · rw [List.length_map, show decide ((ls.length : Int) = 0) = true from decide_eq_true (by omega), Br_t]
    exact ins_odd hl hj0 hq ho hn hk fin
  rw [List.length_map, show decide ((ls.length : Int) = 0) = false from decide_eq_false (by omega), Br_f]
  rw [Ok_eqi]
  by_cases e1 : way = 0
  · rw [decide_eq_true e1, Br_t]
    exact ins_odd hl hj0 hq ho hn hk fin
  rw [decide_eq_false e1, Br_f]
  simp only [Ok_add, Ok_lenRef hj0, List.length_map]
  refine Ok.eq (draw hl (by omega) (by omega)) ?_
  have g2 := g (k := k + 1) (m := (ls.length : Int)) (by omega)
  generalize drawM ns (k + 1) (ls.length : Int) = at0 at g2
  obtain ⟨i, rfl⟩ := Int.eq_ofNat_of_zero_le g2.1
  have hi : i < ls.length := by omega
  have hzi : (ls.map W.str)[i]? = some (.str ls[i]) := by rw [List.getElem?_map, List.getElem?_eq_getElem hi]; rfl
  have hz := s1 ls[i] (List.getElem_mem hi)
  generalize ls[i] = z at hzi hz
  rw [Ok_ixRef hj0, Ok_atN hzi]
  rw [Ok_lenS (by omega), Ok_add]
  refine Ok.eq (draw hl (by omega) (by omega)) ?_
  have g3 := g (k := k + 2) (m := (z.length : Int) + 1) (by omega)
  generalize drawM ns (k + 2) ((z.length : Int) + 1) = pl at g3
  obtain ⟨c, rfl⟩ := Int.eq_ofNat_of_zero_le g3.1
  refine Ok.eq (draw hl (by omega) (by decide)) ?_
  refine Ok_ixSm (by decide) (g (by decide)).1 (g (by decide)).2 fun sg => ?_
  refine Ok.eq (draw hl (by omega) (by decide)) ?_
  have hw : way = 1 ∨ way = 2 ∨ way = 3 ∨ way = 4 ∨ way = 5 ∨ way = 6 := by omega
  have tail : ∀ sg : Nat, True := fun _ => trivial
  rw [Ok_eqi]
  refine br_both ?_ ?_
  · refine Ok.eq (draw hl (by omega) (by decide)) ?_
    refine Ok_ixSm (by decide) (g (by decide)).1 (g (by decide)).2 fun sg => ?_
    rcases hw with rfl | rfl | rfl | rfl | rfl | rfl
    all_goals simp only [Ok_eqi, Int.reduceEq, decide_true, decide_false, Br_t, Br_f]
    · rw [Ok_eM, Ok_eV]
      refine ⟨_, rfl, kindW_L hj0, ?_⟩
      simp only [Ok_sSeq, Ok_sAsg, Ok_sRet, Ok_sExp, Ok_sPass, Ok_sIf, Ok_sFor, Ok_eV, Ok_eC, Ok_eAs1, Ok_eAs0, Ok_eTup, Ok_eNew, Ok_eOp, Ok_eUn, Ok_eCall, Ok_eAnd, Ok_eOr, Ok_eIf, Ok_eL, Ok_lComp, Ok_iSeq, Ok_eTuple, Ok_lOf, setS, start, List.map_cons, List.map_nil, List.length_cons, List.length_nil, Nat.zero_add, Nat.reduceAdd, Nat.reduceSub, List.replicate_succ, List.replicate_zero, List.cons_append, List.nil_append, List.set_cons_succ, List.set_cons_zero, List.getElem?_cons_succ, List.getElem?_cons_zero, Option.some.injEq, exists_eq_left', Ok_uNot, Br_t, Br_f, Bool.not_true, Bool.not_false]
      rw [Ok_add, Ok_lenRef hj0, Ok_add, List.length_map]
      refine Ok.eq (draw hl (by omega) (by omega)) ?_
      have g4 := g (k := k + 2) (m := (ls.length : Int) + 1) (by omega)
      generalize drawM ns (k + 2) ((ls.length : Int) + 1) = u at g4
      rw [Ok_insert hj0 g4.1 (by omega) (by rw [List.length_map]; omega), ins_map]
      exact fin _ ((ho.mono (by omega) (Nat.le_refl _)).ins (by omega))
    · rw [Ok_eM, Ok_eV]
      refine ⟨_, rfl, kindW_L hj0, ?_⟩
      simp only [Ok_sSeq, Ok_sAsg, Ok_sRet, Ok_sExp, Ok_sPass, Ok_sIf, Ok_sFor, Ok_eV, Ok_eC, Ok_eAs1, Ok_eAs0, Ok_eTup, Ok_eNew, Ok_eOp, Ok_eUn, Ok_eCall, Ok_eAnd, Ok_eOr, Ok_eIf, Ok_eL, Ok_lComp, Ok_iSeq, Ok_eTuple, Ok_lOf, setS, start, List.map_cons, List.map_nil, List.length_cons, List.length_nil, Nat.zero_add, Nat.reduceAdd, Nat.reduceSub, List.replicate_succ, List.replicate_zero, List.cons_append, List.nil_append, List.set_cons_succ, List.set_cons_zero, List.getElem?_cons_succ, List.getElem?_cons_zero, Option.some.injEq, exists_eq_left', Ok_uNot, Br_t, Br_f, Bool.not_true, Bool.not_false]
      rw [Ok_popAt hj0 hzi (by rw [List.length_map]; omega), erase_map]
      exact fin _ (ho.mono (by omega) (by omega)).erase
    · simp only [Ok_sPut, Ok_eOp]
      refine Ok_slS (f := id) (z := z) (by rw [Ok_eV]; exact ⟨_, rfl, rfl, rfl⟩) (by omega) none (some (c : Int)) rfl rfl ?_
      rw [cut_hi (by omega)]
      rw [Ok_eV]
      refine ⟨_, rfl, ?_⟩
      rw [Ok_addS (by simp only [List.length_append, List.length_take, List.length_drop, List.length_cons, List.length_nil]; omega)]
      refine Ok_slS (f := id) (z := z) (by rw [Ok_eV]; exact ⟨_, rfl, rfl, rfl⟩) (by omega) (some (c : Int)) none rfl rfl ?_
      rw [cut_lo]
      rw [Ok_addS (by simp only [List.length_append, List.length_take, List.length_drop, List.length_cons, List.length_nil]; omega)]
      rw [Ok_eV]
      refine ⟨_, rfl, ?_⟩
      rw [Ok_eV]
      refine ⟨_, rfl, _, putW_L hj0 hi, ?_⟩
      simp only [Ok_sSeq, Ok_sAsg, Ok_sRet, Ok_sExp, Ok_sPass, Ok_sIf, Ok_sFor, Ok_eV, Ok_eC, Ok_eAs1, Ok_eAs0, Ok_eTup, Ok_eNew, Ok_eOp, Ok_eUn, Ok_eCall, Ok_eAnd, Ok_eOr, Ok_eIf, Ok_eL, Ok_lComp, Ok_iSeq, Ok_eTuple, Ok_lOf, setS, start, List.map_cons, List.map_nil, List.length_cons, List.length_nil, Nat.zero_add, Nat.reduceAdd, Nat.reduceSub, List.replicate_succ, List.replicate_zero, List.cons_append, List.nil_append, List.set_cons_succ, List.set_cons_zero, List.getElem?_cons_succ, List.getElem?_cons_zero, Option.some.injEq, exists_eq_left', Ok_uNot, Br_t, Br_f, Bool.not_true, Bool.not_false, Ok_eqi, Int.reduceEq, decide_true, decide_false]
      exact fin _ ((ho.mono (by omega) (by omega)).set (by simp only [List.length_append, List.length_take, List.length_drop, List.length_cons, List.length_nil]; omega))
    · simp only [Ok_sPut, Ok_eOp]
      refine Ok_slS (f := id) (z := z) (by rw [Ok_eV]; exact ⟨_, rfl, rfl, rfl⟩) (by omega) none (some (c : Int)) rfl rfl ?_
      rw [cut_hi (by omega)]
      refine Ok_slS (f := id) (z := z) (by rw [Ok_eV]; exact ⟨_, rfl, rfl, rfl⟩) (by omega) (some (((c + 1 : Nat) : Int))) none rfl rfl ?_
      rw [cut_lo]
      rw [Ok_addS (by simp only [List.length_append, List.length_take, List.length_drop, List.length_cons, List.length_nil]; omega)]
      rw [Ok_eV]
      refine ⟨_, rfl, ?_⟩
      rw [Ok_eV]
      refine ⟨_, rfl, _, putW_L hj0 hi, ?_⟩
      simp only [Ok_sSeq, Ok_sAsg, Ok_sRet, Ok_sExp, Ok_sPass, Ok_sIf, Ok_sFor, Ok_eV, Ok_eC, Ok_eAs1, Ok_eAs0, Ok_eTup, Ok_eNew, Ok_eOp, Ok_eUn, Ok_eCall, Ok_eAnd, Ok_eOr, Ok_eIf, Ok_eL, Ok_lComp, Ok_iSeq, Ok_eTuple, Ok_lOf, setS, start, List.map_cons, List.map_nil, List.length_cons, List.length_nil, Nat.zero_add, Nat.reduceAdd, Nat.reduceSub, List.replicate_succ, List.replicate_zero, List.cons_append, List.nil_append, List.set_cons_succ, List.set_cons_zero, List.getElem?_cons_succ, List.getElem?_cons_zero, Option.some.injEq, exists_eq_left', Ok_uNot, Br_t, Br_f, Bool.not_true, Bool.not_false, Ok_eqi, Int.reduceEq, decide_true, decide_false]
      exact fin _ ((ho.mono (by omega) (by omega)).set (by simp only [List.length_append, List.length_take, List.length_drop, List.length_cons, List.length_nil]; omega))
    · simp only [Ok_sPut, Ok_eOp]
      refine Ok_slS (f := id) (z := z) (by rw [Ok_eV]; exact ⟨_, rfl, rfl, rfl⟩) (by omega) none (some (c : Int)) rfl rfl ?_
      rw [cut_hi (by omega)]
      rw [Ok_eV]
      refine ⟨_, rfl, ?_⟩
      rw [Ok_addS (by simp only [List.length_append, List.length_take, List.length_drop, List.length_cons, List.length_nil]; omega)]
      refine Ok_slS (f := id) (z := z) (by rw [Ok_eV]; exact ⟨_, rfl, rfl, rfl⟩) (by omega) (some (((c + 1 : Nat) : Int))) none rfl rfl ?_
      rw [cut_lo]
      rw [Ok_addS (by simp only [List.length_append, List.length_take, List.length_drop, List.length_cons, List.length_nil]; omega)]
      rw [Ok_eV]
      refine ⟨_, rfl, ?_⟩
      rw [Ok_eV]
      refine ⟨_, rfl, _, putW_L hj0 hi, ?_⟩
      simp only [Ok_sSeq, Ok_sAsg, Ok_sRet, Ok_sExp, Ok_sPass, Ok_sIf, Ok_sFor, Ok_eV, Ok_eC, Ok_eAs1, Ok_eAs0, Ok_eTup, Ok_eNew, Ok_eOp, Ok_eUn, Ok_eCall, Ok_eAnd, Ok_eOr, Ok_eIf, Ok_eL, Ok_lComp, Ok_iSeq, Ok_eTuple, Ok_lOf, setS, start, List.map_cons, List.map_nil, List.length_cons, List.length_nil, Nat.zero_add, Nat.reduceAdd, Nat.reduceSub, List.replicate_succ, List.replicate_zero, List.cons_append, List.nil_append, List.set_cons_succ, List.set_cons_zero, List.getElem?_cons_succ, List.getElem?_cons_zero, Option.some.injEq, exists_eq_left', Ok_uNot, Br_t, Br_f, Bool.not_true, Bool.not_false, Ok_eqi, Int.reduceEq, decide_true, decide_false]
      exact fin _ ((ho.mono (by omega) (by omega)).set (by simp only [List.length_append, List.length_take, List.length_drop, List.length_cons, List.length_nil]; omega))
    · refine Ok_split (z := z) (S := [32]) rfl rfl (by decide) (by decide) (by omega) ?_
      refine Ok.eq (draw hl (by omega) (by decide)) ?_
      have g5 := g (k := k + 4) (m := 2) (by decide)
      generalize drawM ns (k + 4) 2 = tw at g5
      rw [Ok_rep get_new g5.1 (by omega) (by decide)]
      have hrep : ∃ e : List Tx, (List.replicate tw.toNat [W.str []]).flatten = e.map W.str ∧ e.length ≤ 1 ∧ (e.map List.length).sum = 0 := by
        rcases (show tw = 0 ∨ tw = 1 by omega) with rfl | rfl
        · exact ⟨[], rfl, by decide, rfl⟩
        · exact ⟨[[]], rfl, by decide, rfl⟩
      obtain ⟨e, he, he1, he2⟩ := hrep
      rw [he]
      have sp := spl_sum (S := [32]) z [] 0
      have sn := spl_ne [32] z (by decide)
      generalize TL.spl [32] 0 [] z = parts at sp sn
      rw [Ok_addL (get_app (get_app get_new)) get_new (by rw [List.length_map, List.length_map]; simp only [List.length_nil] at sp; omega), ← List.map_append]
      have z1 : ((parts ++ e).map List.length).sum + (parts ++ e).length ≤ B + 2 := by
        rw [List.map_append, List.sum_append, List.length_append]
        simp only [List.length_nil] at sp
        omega
      have z2 : 0 < (parts ++ e).length := by
        rw [List.length_append]
        have := List.length_pos_iff.mpr sn
        omega
      generalize parts ++ e = zs at z1 z2
      generalize hP : N ++ [O.lst (parts.map W.str)] ++ [O.lst [W.str []]] ++ [O.lst (e.map W.str)] = P
      obtain ⟨Y', hPY, hY'⟩ := app_ex3 hNY hY hP.symm
      clear hP
      have hP0 : P[M.length]? = some (.lst (ls.map W.str)) := by
        rw [hPY]
        exact get_app_at (j := 0) rfl hY'
      rw [Ok_sPut]
      simp only [Ok_sSeq, Ok_sAsg, Ok_sRet, Ok_sExp, Ok_sPass, Ok_sIf, Ok_sFor, Ok_eV, Ok_eC, Ok_eAs1, Ok_eAs0, Ok_eTup, Ok_eNew, Ok_eOp, Ok_eUn, Ok_eCall, Ok_eAnd, Ok_eOr, Ok_eIf, Ok_eL, Ok_lComp, Ok_iSeq, Ok_eTuple, Ok_lOf, setS, start, List.map_cons, List.map_nil, List.length_cons, List.length_nil, Nat.zero_add, Nat.reduceAdd, Nat.reduceSub, List.replicate_succ, List.replicate_zero, List.cons_append, List.nil_append, List.set_cons_succ, List.set_cons_zero, List.getElem?_cons_succ, List.getElem?_cons_zero, Option.some.injEq, exists_eq_left', Ok_uNot, Br_t, Br_f, Bool.not_true, Bool.not_false]
      rw [Ok_add]
      refine Ok.eq (draw hl (by omega) (by decide)) ?_
      refine (Ok_ixRef (ws := strange.map W.str) get_new).mpr ?_
      refine Ok_at_mem (g (by decide)).1 (g (by decide)).2 fun w hw => ?_
      obtain ⟨v, hv, rfl⟩ := List.mem_map.mp hw
      have hv := strange_ok v hv
      rw [Ok_add, Ok_lenRef (get_app get_new), List.length_map]
      refine Ok.eq (draw hl (by omega) (by omega)) ?_
      have g6 := g (k := k + 2) (m := (zs.length : Int)) (by omega)
      generalize drawM ns (k + 2) (zs.length : Int) = u at g6
      obtain ⟨u, rfl⟩ := Int.eq_ofNat_of_zero_le g6.1
      refine ⟨_, putW_L (get_app get_new) (by omega), ?_⟩
      have es : ∀ (o o' s : O), (P ++ [o] ++ [s]).set P.length o' = P ++ [o'] ++ [s] := fun o o' s => by
        rw [List.append_assoc]
        exact (set_app_at (j := 0) rfl).trans (List.append_assoc P [o'] [s]).symm
      rw [es]
      have z3 := sum_set (v := v) zs u
      have z4 : (zs.set u v).length = zs.length := List.length_set
      have z5 := joinL_le (S := [32]) (zs.set u v)
      generalize zs.set u v = zs' at z3 z4 z5
      simp only [List.length_cons, List.length_nil] at z5
      rw [Ok_sPut]
      refine Ok_join (zs := zs') rfl (by rw [Ok_lOf, Ok_eV]; exact ⟨_, rfl, _, items_L (get_app get_new), rfl, rfl⟩) (by simp only [List.length_cons, List.length_nil]; omega) ?_
      rw [Ok_eV]
      refine ⟨_, rfl, ?_⟩
      rw [Ok_eV]
      refine ⟨_, rfl, _, putW_L (get_app (get_app hP0)) hi, ?_⟩
      refine ⟨_, rfl, ?_⟩
      exact fin' _ _ (app_t hPY) (get_app (get_app hY')) _ ((ho.mono (by omega) (by omega)).set (by omega))
  · have _ := g7
    rcases hw with rfl | rfl | rfl | rfl | rfl | rfl
    all_goals simp only [Ok_eqi, Int.reduceEq, decide_true, decide_false, Br_t, Br_f]
    · rw [Ok_eM, Ok_eV]
      refine ⟨_, rfl, kindW_L hj0, ?_⟩
      simp only [Ok_sSeq, Ok_sAsg, Ok_sRet, Ok_sExp, Ok_sPass, Ok_sIf, Ok_sFor, Ok_eV, Ok_eC, Ok_eAs1, Ok_eAs0, Ok_eTup, Ok_eNew, Ok_eOp, Ok_eUn, Ok_eCall, Ok_eAnd, Ok_eOr, Ok_eIf, Ok_eL, Ok_lComp, Ok_iSeq, Ok_eTuple, Ok_lOf, setS, start, List.map_cons, List.map_nil, List.length_cons, List.length_nil, Nat.zero_add, Nat.reduceAdd, Nat.reduceSub, List.replicate_succ, List.replicate_zero, List.cons_append, List.nil_append, List.set_cons_succ, List.set_cons_zero, List.getElem?_cons_succ, List.getElem?_cons_zero, Option.some.injEq, exists_eq_left', Ok_uNot, Br_t, Br_f, Bool.not_true, Bool.not_false]
      rw [Ok_add, Ok_lenRef hj0, Ok_add, List.length_map]
      refine Ok.eq (draw hl (by omega) (by omega)) ?_
      have g4 := g (k := k + 2) (m := (ls.length : Int) + 1) (by omega)
      generalize drawM ns (k + 2) ((ls.length : Int) + 1) = u at g4
      rw [Ok_insert hj0 g4.1 (by omega) (by rw [List.length_map]; omega), ins_map]
      exact fin _ ((ho.mono (by omega) (Nat.le_refl _)).ins (by omega))
    · rw [Ok_eM, Ok_eV]
      refine ⟨_, rfl, kindW_L hj0, ?_⟩
      simp only [Ok_sSeq, Ok_sAsg, Ok_sRet, Ok_sExp, Ok_sPass, Ok_sIf, Ok_sFor, Ok_eV, Ok_eC, Ok_eAs1, Ok_eAs0, Ok_eTup, Ok_eNew, Ok_eOp, Ok_eUn, Ok_eCall, Ok_eAnd, Ok_eOr, Ok_eIf, Ok_eL, Ok_lComp, Ok_iSeq, Ok_eTuple, Ok_lOf, setS, start, List.map_cons, List.map_nil, List.length_cons, List.length_nil, Nat.zero_add, Nat.reduceAdd, Nat.reduceSub, List.replicate_succ, List.replicate_zero, List.cons_append, List.nil_append, List.set_cons_succ, List.set_cons_zero, List.getElem?_cons_succ, List.getElem?_cons_zero, Option.some.injEq, exists_eq_left', Ok_uNot, Br_t, Br_f, Bool.not_true, Bool.not_false]
      rw [Ok_popAt hj0 hzi (by rw [List.length_map]; omega), erase_map]
      exact fin _ (ho.mono (by omega) (by omega)).erase
    · simp only [Ok_sPut, Ok_eOp]
      refine Ok_slS (f := id) (z := z) (by rw [Ok_eV]; exact ⟨_, rfl, rfl, rfl⟩) (by omega) none (some (c : Int)) rfl rfl ?_
      rw [cut_hi (by omega)]
      rw [Ok_eV]
      refine ⟨_, rfl, ?_⟩
      rw [Ok_addS (by simp only [List.length_append, List.length_take, List.length_drop, List.length_cons, List.length_nil]; omega)]
      refine Ok_slS (f := id) (z := z) (by rw [Ok_eV]; exact ⟨_, rfl, rfl, rfl⟩) (by omega) (some (c : Int)) none rfl rfl ?_
      rw [cut_lo]
      rw [Ok_addS (by simp only [List.length_append, List.length_take, List.length_drop, List.length_cons, List.length_nil]; omega)]
      rw [Ok_eV]
      refine ⟨_, rfl, ?_⟩
      rw [Ok_eV]
      refine ⟨_, rfl, _, putW_L hj0 hi, ?_⟩
      simp only [Ok_sSeq, Ok_sAsg, Ok_sRet, Ok_sExp, Ok_sPass, Ok_sIf, Ok_sFor, Ok_eV, Ok_eC, Ok_eAs1, Ok_eAs0, Ok_eTup, Ok_eNew, Ok_eOp, Ok_eUn, Ok_eCall, Ok_eAnd, Ok_eOr, Ok_eIf, Ok_eL, Ok_lComp, Ok_iSeq, Ok_eTuple, Ok_lOf, setS, start, List.map_cons, List.map_nil, List.length_cons, List.length_nil, Nat.zero_add, Nat.reduceAdd, Nat.reduceSub, List.replicate_succ, List.replicate_zero, List.cons_append, List.nil_append, List.set_cons_succ, List.set_cons_zero, List.getElem?_cons_succ, List.getElem?_cons_zero, Option.some.injEq, exists_eq_left', Ok_uNot, Br_t, Br_f, Bool.not_true, Bool.not_false, Ok_eqi, Int.reduceEq, decide_true, decide_false]
      exact fin _ ((ho.mono (by omega) (by omega)).set (by simp only [List.length_append, List.length_take, List.length_drop, List.length_cons, List.length_nil]; omega))
    · simp only [Ok_sPut, Ok_eOp]
      refine Ok_slS (f := id) (z := z) (by rw [Ok_eV]; exact ⟨_, rfl, rfl, rfl⟩) (by omega) none (some (c : Int)) rfl rfl ?_
      rw [cut_hi (by omega)]
      refine Ok_slS (f := id) (z := z) (by rw [Ok_eV]; exact ⟨_, rfl, rfl, rfl⟩) (by omega) (some (((c + 1 : Nat) : Int))) none rfl rfl ?_
      rw [cut_lo]
      rw [Ok_addS (by simp only [List.length_append, List.length_take, List.length_drop, List.length_cons, List.length_nil]; omega)]
      rw [Ok_eV]
      refine ⟨_, rfl, ?_⟩
      rw [Ok_eV]
      refine ⟨_, rfl, _, putW_L hj0 hi, ?_⟩
      simp only [Ok_sSeq, Ok_sAsg, Ok_sRet, Ok_sExp, Ok_sPass, Ok_sIf, Ok_sFor, Ok_eV, Ok_eC, Ok_eAs1, Ok_eAs0, Ok_eTup, Ok_eNew, Ok_eOp, Ok_eUn, Ok_eCall, Ok_eAnd, Ok_eOr, Ok_eIf, Ok_eL, Ok_lComp, Ok_iSeq, Ok_eTuple, Ok_lOf, setS, start, List.map_cons, List.map_nil, List.length_cons, List.length_nil, Nat.zero_add, Nat.reduceAdd, Nat.reduceSub, List.replicate_succ, List.replicate_zero, List.cons_append, List.nil_append, List.set_cons_succ, List.set_cons_zero, List.getElem?_cons_succ, List.getElem?_cons_zero, Option.some.injEq, exists_eq_left', Ok_uNot, Br_t, Br_f, Bool.not_true, Bool.not_false, Ok_eqi, Int.reduceEq, decide_true, decide_false]
      exact fin _ ((ho.mono (by omega) (by omega)).set (by simp only [List.length_append, List.length_take, List.length_drop, List.length_cons, List.length_nil]; omega))
    · simp only [Ok_sPut, Ok_eOp]
      refine Ok_slS (f := id) (z := z) (by rw [Ok_eV]; exact ⟨_, rfl, rfl, rfl⟩) (by omega) none (some (c : Int)) rfl rfl ?_
      rw [cut_hi (by omega)]
      rw [Ok_eV]
      refine ⟨_, rfl, ?_⟩
      rw [Ok_addS (by simp only [List.length_append, List.length_take, List.length_drop, List.length_cons, List.length_nil]; omega)]
      refine Ok_slS (f := id) (z := z) (by rw [Ok_eV]; exact ⟨_, rfl, rfl, rfl⟩) (by omega) (some (((c + 1 : Nat) : Int))) none rfl rfl ?_
      rw [cut_lo]
      rw [Ok_addS (by simp only [List.length_append, List.length_take, List.length_drop, List.length_cons, List.length_nil]; omega)]
      rw [Ok_eV]
      refine ⟨_, rfl, ?_⟩
      rw [Ok_eV]
      refine ⟨_, rfl, _, putW_L hj0 hi, ?_⟩
      simp only [Ok_sSeq, Ok_sAsg, Ok_sRet, Ok_sExp, Ok_sPass, Ok_sIf, Ok_sFor, Ok_eV, Ok_eC, Ok_eAs1, Ok_eAs0, Ok_eTup, Ok_eNew, Ok_eOp, Ok_eUn, Ok_eCall, Ok_eAnd, Ok_eOr, Ok_eIf, Ok_eL, Ok_lComp, Ok_iSeq, Ok_eTuple, Ok_lOf, setS, start, List.map_cons, List.map_nil, List.length_cons, List.length_nil, Nat.zero_add, Nat.reduceAdd, Nat.reduceSub, List.replicate_succ, List.replicate_zero, List.cons_append, List.nil_append, List.set_cons_succ, List.set_cons_zero, List.getElem?_cons_succ, List.getElem?_cons_zero, Option.some.injEq, exists_eq_left', Ok_uNot, Br_t, Br_f, Bool.not_true, Bool.not_false, Ok_eqi, Int.reduceEq, decide_true, decide_false]
      exact fin _ ((ho.mono (by omega) (by omega)).set (by simp only [List.length_append, List.length_take, List.length_drop, List.length_cons, List.length_nil]; omega))
    · refine Ok_split (z := z) (S := [32]) rfl rfl (by decide) (by decide) (by omega) ?_
      refine Ok.eq (draw hl (by omega) (by decide)) ?_
      have g5 := g (k := k + 4) (m := 2) (by decide)
      generalize drawM ns (k + 4) 2 = tw at g5
      rw [Ok_rep get_new g5.1 (by omega) (by decide)]
      have hrep : ∃ e : List Tx, (List.replicate tw.toNat [W.str []]).flatten = e.map W.str ∧ e.length ≤ 1 ∧ (e.map List.length).sum = 0 := by
        rcases (show tw = 0 ∨ tw = 1 by omega) with rfl | rfl
        · exact ⟨[], rfl, by decide, rfl⟩
        · exact ⟨[[]], rfl, by decide, rfl⟩
      obtain ⟨e, he, he1, he2⟩ := hrep
      rw [he]
      have sp := spl_sum (S := [32]) z [] 0
      have sn := spl_ne [32] z (by decide)
      generalize TL.spl [32] 0 [] z = parts at sp sn
      rw [Ok_addL (get_app (get_app get_new)) get_new (by rw [List.length_map, List.length_map]; simp only [List.length_nil] at sp; omega), ← List.map_append]
      have z1 : ((parts ++ e).map List.length).sum + (parts ++ e).length ≤ B + 2 := by
        rw [List.map_append, List.sum_append, List.length_append]
        simp only [List.length_nil] at sp
        omega
      have z2 : 0 < (parts ++ e).length := by
        rw [List.length_append]
        have := List.length_pos_iff.mpr sn
        omega
      generalize parts ++ e = zs at z1 z2
      generalize hP : N ++ [O.lst (parts.map W.str)] ++ [O.lst [W.str []]] ++ [O.lst (e.map W.str)] = P
      obtain ⟨Y', hPY, hY'⟩ := app_ex3 hNY hY hP.symm
      clear hP
      have hP0 : P[M.length]? = some (.lst (ls.map W.str)) := by
        rw [hPY]
        exact get_app_at (j := 0) rfl hY'
      rw [Ok_sPut]
      simp only [Ok_sSeq, Ok_sAsg, Ok_sRet, Ok_sExp, Ok_sPass, Ok_sIf, Ok_sFor, Ok_eV, Ok_eC, Ok_eAs1, Ok_eAs0, Ok_eTup, Ok_eNew, Ok_eOp, Ok_eUn, Ok_eCall, Ok_eAnd, Ok_eOr, Ok_eIf, Ok_eL, Ok_lComp, Ok_iSeq, Ok_eTuple, Ok_lOf, setS, start, List.map_cons, List.map_nil, List.length_cons, List.length_nil, Nat.zero_add, Nat.reduceAdd, Nat.reduceSub, List.replicate_succ, List.replicate_zero, List.cons_append, List.nil_append, List.set_cons_succ, List.set_cons_zero, List.getElem?_cons_succ, List.getElem?_cons_zero, Option.some.injEq, exists_eq_left', Ok_uNot, Br_t, Br_f, Bool.not_true, Bool.not_false]
      rw [Ok_add]
      refine Ok.eq (draw hl (by omega) (by decide)) ?_
      refine (Ok_ixRef (ws := strange.map W.str) get_new).mpr ?_
      refine Ok_at_mem (g (by decide)).1 (g (by decide)).2 fun w hw => ?_
      obtain ⟨v, hv, rfl⟩ := List.mem_map.mp hw
      have hv := strange_ok v hv
      rw [Ok_add, Ok_lenRef (get_app get_new), List.length_map]
      refine Ok.eq (draw hl (by omega) (by omega)) ?_
      have g6 := g (k := k + 2) (m := (zs.length : Int)) (by omega)
      generalize drawM ns (k + 2) (zs.length : Int) = u at g6
      obtain ⟨u, rfl⟩ := Int.eq_ofNat_of_zero_le g6.1
      refine ⟨_, putW_L (get_app get_new) (by omega), ?_⟩
      have es : ∀ (o o' s : O), (P ++ [o] ++ [s]).set P.length o' = P ++ [o'] ++ [s] := fun o o' s => by
        rw [List.append_assoc]
        exact (set_app_at (j := 0) rfl).trans (List.append_assoc P [o'] [s]).symm
      rw [es]
      have z3 := sum_set (v := v) zs u
      have z4 : (zs.set u v).length = zs.length := List.length_set
      have z5 := joinL_le (S := [32]) (zs.set u v)
      generalize zs.set u v = zs' at z3 z4 z5
      simp only [List.length_cons, List.length_nil] at z5
      rw [Ok_sPut]
      refine Ok_join (zs := zs') rfl (by rw [Ok_lOf, Ok_eV]; exact ⟨_, rfl, _, items_L (get_app get_new), rfl, rfl⟩) (by simp only [List.length_cons, List.length_nil]; omega) ?_
      rw [Ok_eV]
      refine ⟨_, rfl, ?_⟩
      rw [Ok_eV]
      refine ⟨_, rfl, _, putW_L (get_app (get_app hP0)) hi, ?_⟩
      refine ⟨_, rfl, ?_⟩
      exact fin' _ _ (app_t hPY) (get_app (get_app hY')) _ ((ho.mono (by omega) (by omega)).set (by omega))
end
end Sw.smallword_k85_lines_refused

set_option autoImplicit false
set_option linter.all false
set_option maxRecDepth 10000
set_option exponentiation.threshold 9000
/-! The law. -/
namespace Sw.smallword_k85_lines_refused
open Sw
def rows0 : List (List Tx) := [[[99, 97, 108, 108, 32, 102, 32, 49, 32, 49, 32, 49, 32, 49, 32, 61, 32, 49]], [[99, 97, 108, 108, 32, 102, 32, 49, 32, 49, 32, 49, 32, 61, 32, 49]], [[99, 97, 108, 108, 32, 102, 32, 61, 32, 49]], [[99, 97, 108, 108, 32, 102, 32, 49, 32, 49]], [[99, 97, 108, 108, 32, 102, 32, 49, 32, 61, 32, 49, 32, 61, 32, 49]]]
def rows1 : List (List Tx) := [[[102, 108, 97, 103, 32, 112], [102, 108, 97, 103, 32, 112]], [[102, 108, 97, 103, 32, 112, 32, 49]], [[110, 97, 109, 101, 32, 97, 32, 49], [110, 97, 109, 101, 32, 97, 32, 49]], [[110, 97, 109, 101, 32, 97, 32, 61, 32, 49]]]
def rows2 : List (List Tx) := [[[110, 97, 109, 101, 32, 97, 32, 48], [110, 97, 109, 101, 32, 98, 32, 49]]]
def rows3 : List (List Tx) := [[[99, 97, 108, 108, 32, 102, 32, 49, 32, 61, 32, 50], [99, 97, 108, 108, 32, 102, 32, 49, 32, 50, 32, 61, 32, 50], [99, 97, 108, 108, 32, 102, 32, 49, 32, 61, 32, 48]], [[102, 108, 97, 103, 32, 112], [99, 97, 108, 108, 32, 112, 32, 49, 32, 61, 32, 49], [110, 97, 109, 101, 32, 112, 32, 49]]]
def rows4 : List (List Tx) := [[[99, 97, 108, 108, 32, 102, 32, 49, 32, 49, 32, 49, 32, 49, 32, 49, 32, 61, 32, 49]], [[99, 97, 108, 108, 32, 102]], [[99, 97, 108, 108]]]
def tail0 : List Tx := [[102, 108, 97, 103], [102, 108, 97, 103, 32], [102, 108, 97, 103, 32, 97, 98, 99, 100, 101, 102, 103, 104], [102, 108, 97, 103, 32, 97, 98, 99, 100, 101, 102, 103, 104, 105], [102, 108, 97, 103, 115, 32, 112], [102, 108, 97, 71, 32, 112], [110, 97, 109, 101, 32, 97], [110, 97, 109, 101, 32, 97, 32, 49, 32, 50]]
def tail1 : List Tx := [[110, 97, 109, 101, 32, 97, 98, 99, 100, 101, 102, 103, 104, 32, 49], [110, 97, 109, 101, 32, 97, 98, 99, 100, 101, 102, 103, 104, 105, 32, 49], [110, 97, 109, 101, 32, 97, 32, 48, 49], [110, 97, 109, 101, 32, 97, 32, 51, 47, 49], [110, 97, 109, 101, 32, 97, 32, 45, 48], [110, 97, 109, 101, 32, 97, 32, 49, 47, 48], [110, 97, 109, 101]]
def tail2 : List Tx := [[99, 97, 108, 108, 32, 97, 98, 99, 100, 101, 102, 103, 104, 32, 49, 32, 61, 32, 49], [99, 97, 108, 108, 32, 97, 98, 99, 100, 101, 102, 103, 104, 105, 32, 49, 32, 61, 32, 49], [99, 97, 108, 108, 32, 102, 32, 49, 32, 61, 32, 49, 32, 49], [99, 97, 108, 108, 32, 102, 32, 49, 32, 61], [99, 97, 108, 108, 32, 102, 32, 49, 32, 61, 49]]
/-- an answer that lies in the store -/
def Dat (M : Mem) (a : Nat) (D : D3) : Prop := M[a]? = some (.dic D.1) ∧ M[a + 1]? = some (.dic D.2.1) ∧ M[a + 2]? = some (.dic D.2.2)
def Got (R : Except Nat D3) (r : W) (M : Mem) : Prop := match R with
  | .ok D => ∃ a, r = ww a ∧ Dat M a D ∧ Gd 1000 D
  | .error a => r = .str (textN a)
theorem Got.more {R : Except Nat D3} {r : W} {M X : Mem} (h : Got R r M) : Got R r (M ++ X) := by
  cases R with
  | ok D =>
    obtain ⟨a, e, ⟨h1, h2, h3⟩, g⟩ := h
    exact ⟨a, e, ⟨get_app h1, get_app h2, get_app h3⟩, g⟩
  | error a => exact h
theorem Ans.got {R : Except Nat D3} {r : W} {M M' : Mem} (h : Ans R M r M') : Got R r M' ∧ ∃ X, M' = M ++ X := by
  cases R with
  | ok D =>
    obtain ⟨e, rfl, g⟩ := h
    exact ⟨⟨M.length, e, ⟨get_app_at (j := 0) rfl rfl, get_app_at (j := 1) rfl rfl, get_app_at (j := 2) rfl rfl⟩, g⟩, _, rfl⟩
  | error a =>
    obtain ⟨e, X, rfl⟩ := h
    exact ⟨e, X, rfl⟩
theorem all_D {n : Nat} {D : D3} (g : Gd n D) (i : Nat) (hi : i < 3) : ((getK D i).all fun p => isD p.2 && decide (dep p.2 ≤ 20)) = true := List.all_eq_true.mpr fun p hp => by
  have := g.va i hi p hp
  rw [this.1, decide_eq_true this.2]
  rfl
theorem got_eq {R : Except Nat D3} {r r' : W} {M : Mem} (h : Got R r M) (h' : Got R r' M) : eqT r r' M = some true := by
  cases R with
  | ok D =>
    obtain ⟨a, rfl, ⟨h1, h2, h3⟩, g⟩ := h
    obtain ⟨b, rfl, ⟨k1, k2, k3⟩, _⟩ := h'
    have a0 : (D.1.all fun p => isD p.2 && decide (dep p.2 ≤ 20)) = true := all_D g 0 (by decide)
    have a1 : (D.2.1.all fun p => isD p.2 && decide (dep p.2 ≤ 20)) = true := all_D g 1 (by decide)
    have a2 : (D.2.2.all fun p => isD p.2 && decide (dep p.2 ≤ 20)) = true := all_D g 2 (by decide)
    have e : sameDs M [.ref a, .ref (a + 1), .ref (a + 2)] [.ref b, .ref (b + 1), .ref (b + 2)] = true := by
      simp only [sameDs, h1, h2, h3, k1, k2, k3, decide_true, Bool.true_and, a0, a1, a2]
    show (if sameDs M _ _ then some true else none) = some true
    rw [if_pos e]
  | error a =>
    have h : r = .str (textN a) := h
    have h' : r' = .str (textN a) := h'
    rw [h, h']
    simp [eqT]
theorem Ok_gotNe {R : Except Nat D3} {r r' : W} {M : Mem} {Q : W → Mem → Prop} (h : Got R r M) (h' : Got R r' M) : Ok (oNeT r r' M) Q ↔ Q (.bl false) M := by
  unfold oNeT
  rw [got_eq h h']
  exact Ok_ok _
theorem Ok_gotEq {R : Except Nat D3} {r r' : W} {M : Mem} {Q : W → Mem → Prop} (h : Got R r M) (h' : Got R r' M) : Ok (oEqT r r' M) Q ↔ Q (.bl true) M := by
  unfold oEqT
  rw [got_eq h h']
  exact Ok_ok _
/-- rows of lines -/
def Row (M : Mem) (w : W) : Prop := ∃ i ls, w = .ref i ∧ M[i]? = some (.lst (ls.map W.str)) ∧ Short 60 6 ls
def Rows (M : Mem) (j n : Nat) : Prop := ∃ ws, M[j]? = some (.lst ws) ∧ ws.length = n ∧ ∀ w ∈ ws, Row M w ∧ w ≠ .ref j
theorem Row.more {M X : Mem} {w : W} (h : Row M w) : Row (M ++ X) w := by
  obtain ⟨i, ls, e, h1, h2⟩ := h
  exact ⟨i, ls, e, get_app h1, h2⟩
theorem Row.ne {M : Mem} {w : W} (h : Row M w) : w ≠ .ref M.length := by
  obtain ⟨i, ls, rfl, h1, h2⟩ := h
  have := get_lt h1
  intro e
  cases e
  omega
theorem Rows.more {M X : Mem} {j n : Nat} (h : Rows M j n) : Rows (M ++ X) j n := by
  obtain ⟨ws, h1, h2, h3⟩ := h
  exact ⟨ws, get_app h1, h2, fun w hw => ⟨(h3 w hw).1.more, (h3 w hw).2⟩⟩
theorem Rows.new {M : Mem} {ws : List W} (h : ∀ w ∈ ws, Row M w) : Rows (M ++ [.lst ws]) M.length ws.length := ⟨ws, get_new, rfl, fun w hw => ⟨(h w hw).more, (h w hw).ne⟩⟩
theorem Ok_addRows {M : Mem} {i j n m : Nat} {Q : W → Mem → Prop} (hi : Rows M i n) (hj : Rows M j m) (hn : n + m ≤ 1000) (q : ∀ N p, Rows N p (n + m) → Q (.ref p) N) : Ok (oAdd (.ref i) (.ref j) M) Q := by
  obtain ⟨xs, a1, a2, a3⟩ := hi
  obtain ⟨ys, b1, b2, b3⟩ := hj
  rw [Ok_addL a1 b1 (by omega)]
  refine q _ _ ?_
  rw [← a2, ← b2, ← List.length_append]
  refine Rows.new fun w hw => ?_
  rcases List.mem_append.mp hw with hw | hw
  · exact (a3 w hw).1
  · exact (b3 w hw).1
theorem consts {s : Sl} {M : Mem} : ∀ ts : List Tx, eAs (ts.map fun t => eC (.str t)) s M = ok (ts.map W.str) M
  | [] => rfl
  | t :: ts => by
    simp only [List.map_cons, eAs, consts ts]
    rfl
theorem rows_as {s : Sl} : ∀ (tss : List (List Tx)) (M : Mem), (∀ ts ∈ tss, Short 60 6 ts) → Ok (eAs (tss.map fun ts => eNew (eAs (ts.map fun t => eC (.str t)))) s M) fun ws N => ws.length = tss.length ∧ (∃ X, N = M ++ X) ∧ ∀ w ∈ ws, Row N w
  | [], M, h => by
    rw [List.map_nil, Ok_eAs0]
    exact ⟨rfl, ⟨[], by simp⟩, by simp⟩
  | ts :: tss, M, h => by
    rw [List.map_cons, Ok_eAs1, Ok_eNew, consts, Ok_ok]
    refine (rows_as tss _ fun t ht => h t (List.mem_cons_of_mem _ ht)).mono fun ws N ⟨e1, ⟨X, e2⟩, e3⟩ => ⟨by simp [e1], ⟨[.lst (ts.map W.str)] ++ X, by rw [e2, List.append_assoc]⟩, fun w hw => ?_⟩
    rcases List.mem_cons.mp hw with rfl | hw
    · refine ⟨_, ts, rfl, ?_, h ts List.mem_cons_self⟩
      rw [e2]
      exact get_app get_new
    · exact e3 w hw
theorem Ok_rows {s : Sl} {M : Mem} {Q : W → Mem → Prop} (tss : List (List Tx)) (h : ∀ ts ∈ tss, Short 60 6 ts) (q : ∀ N p X, N = M ++ X → Rows N p tss.length → Q (.ref p) N) : Ok (eNew (eAs (tss.map fun ts => eNew (eAs (ts.map fun t => eC (.str t))))) s M) Q := by
  rw [Ok_eNew]
  refine (rows_as tss M h).mono fun ws N ⟨e1, ⟨X, e2⟩, e3⟩ => ?_
  refine q _ _ (X ++ [.lst ws]) (by rw [e2, List.append_assoc]) ?_
  rw [← e1]
  exact Rows.new e3
theorem app_row {s : Sl} {M : Mem} {j n : Nat} {l : LM} {Q : W → Mem → Prop} (h6 : s[6]? = some (some (.ref j))) (hR : Rows M j n) (hn : n ≤ 1000) (hl : Ok (l s M) fun ws M' => M' = M ∧ ∃ ls, ws = ls.map W.str ∧ Short 60 6 ls)
    (q : ∀ N, Rows N j (n + 1) → Q .non N) : Ok (eM 2 fAppend (eV 6) [eNew l] s M) Q := by
  obtain ⟨ws, a1, a2, a3⟩ := hR
  rw [Ok_eM, Ok_eV]
  refine ⟨_, h6, kindW_L a1, ?_⟩
  rw [Ok_eAs1, Ok_eNew]
  refine hl.mono fun us M' ⟨e1, ls, e2, hs⟩ => ?_
  subst e1 e2
  rw [Ok_eAs0, Ok_app (get_app a1) (by omega)]
  refine q _ ⟨_, get_set (get_app a1), by rw [List.length_append, a2]; rfl, fun w hw => ?_⟩
  have key : Row (M' ++ [.lst (ls.map W.str)]) w ∧ w ≠ .ref j := by
    rcases List.mem_append.mp hw with hw | hw
    · exact ⟨(a3 w hw).1.more, (a3 w hw).2⟩
    · rw [List.mem_singleton.mp hw]
      refine ⟨⟨_, ls, rfl, get_new, hs⟩, fun e => ?_⟩
      have := get_lt a1
      cases e
      omega
  obtain ⟨⟨i, ls', rfl, h1, h2⟩, h3⟩ := key
  exact ⟨⟨i, ls', rfl, by rw [get_ne (fun e => h3 (by rw [e]))]; exact h1, h2⟩, h3⟩
theorem for_rows {a0 a1 a2 a3 a4 a5 a7 a8 : Option W} {M : Mem} {j n : Nat} {l : LM} {QF : Fl → Mem → Prop} (tl : List Tx) (hR : Rows M j n) (hn : n + tl.length ≤ 1000) (ht : ∀ z ∈ tl, z.length ≤ 60)
    (hl : ∀ (z : Tx) (M : Mem), z.length ≤ 60 → Ok (l [a0, a1, a2, a3, a4, a5, some (.ref j), some (.str z), a8] M) fun ws M' => M' = M ∧ ∃ ls, ws = ls.map W.str ∧ Short 60 6 ls)
    (q : ∀ N v7, Rows N j (n + tl.length) → QF (.nx [a0, a1, a2, a3, a4, a5, some (.ref j), v7, a8]) N) : Ok (sFor (.one 7) (iNew (eAs (tl.map fun t => eC (.str t)))) (sExp (eM 2 fAppend (eV 6) [eNew l])) [a0, a1, a2, a3, a4, a5, some (.ref j), a7, a8] M) QF := by
  rw [Ok_sFor, Ok_iNew, consts, Ok_ok]
  refine Ok_for (fun rest s M' => ∃ k v7, s = [a0, a1, a2, a3, a4, a5, some (.ref j), v7, a8] ∧ Rows M' j k ∧ k + rest.length = n + tl.length ∧ ∀ w ∈ rest, ∃ z : Tx, w = .str z ∧ z.length ≤ 60) (fun _ _ _ _ => rfl)
    (fun x rest s M' ⟨k, v7, e1, e2, e3, e4⟩ => ?_) (fun s M' ⟨k, v7, e1, e2, e3, e4⟩ => ?_) _ _ _ ⟨n, a7, rfl, hR, by rw [List.length_map], fun w hw => by
      obtain ⟨z, hz, rfl⟩ := List.mem_map.mp hw
      exact ⟨z, rfl, ht z hz⟩⟩
  · obtain ⟨z, rfl, hz⟩ := e4 x List.mem_cons_self
    subst e1
    refine ⟨_, rfl, ?_⟩
    rw [List.length_cons] at e3
    rw [Ok_sExp]
    refine app_row rfl e2 (by omega) (hl z M' hz) fun N hN => ?_
    exact ⟨k + 1, _, rfl, hN, by omega, fun w hw => e4 w (List.mem_cons_of_mem _ hw)⟩
  · subst e1
    rw [List.length_nil, Nat.add_zero] at e3
    rw [← e3] at q
    exact q _ _ e2
theorem rows_ok : ∀ r ∈ [rows0, rows1, rows2, rows3, rows4], ∀ ts ∈ r, Short 60 6 ts := by
  unfold Short
  decide
theorem tails_ok : ∀ z ∈ tail0 ++ tail1 ++ tail2, z.length ≤ 60 := by decide
section
variable {s : Sl} {M : Mem}
theorem st_asg {i : Nat} {e : EM} {b : SM} {QF : Fl → Mem → Prop} (h : Ok (e s M) fun w M' => Ok (b (s.set i (some w)) M') QF) : Ok (sSeq (sAsg (.one i) e) b s M) QF := by
  rw [Ok_sSeq, Ok_sAsg]
  exact h
theorem st_if {t : EM} {a b : SM} {QF : Fl → Mem → Prop} (h : Ok (t s M) fun x M' => x = .bl false ∧ Ok (b s M') QF) : Ok (sSeq (sIf t a sPass) b s M) QF := by
  rw [Ok_sSeq, Ok_sIf]
  refine h.mono fun x M' ⟨e, h⟩ => ?_
  subst e
  rw [Br_f, Ok_sPass]
  exact h
theorem st_any {c b : SM} {QF : Fl → Mem → Prop} (h : Ok (c s M) fun fl M' => ∃ s', fl = .nx s' ∧ Ok (b s' M') QF) : Ok (sSeq c b s M) QF := by
  rw [Ok_sSeq]
  refine h.mono fun fl M' ⟨s', e, h⟩ => ?_
  subst e
  exact h
variable {i p : Nat} {ls : List Tx} {Q : W → Mem → Prop} (hi : s[i]? = some (some (.ref p))) (hp : M[p]? = some (.lst (ls.map W.str))) (h1 : ∀ z ∈ ls, z.length ≤ 600) (h2 : ls.length ≤ 100)
include hi hp h1 h2
theorem askV (q : ∀ r X, Got (res ls) r (M ++ X) → Q r (M ++ X)) : Ok (eCall (Ru 29) 18 [eV i] s M) Q := by
  rw [Ok_eCall, Ok_eAs1, Ok_eV]
  refine ⟨_, hi, ?_⟩
  rw [Ok_eAs0]
  refine (asked (d := 22) hp h1 (by omega)).mono fun r M' h => ?_
  obtain ⟨g, X, rfl⟩ := h.got
  exact q _ _ g
theorem dueV (q : ∀ r X, Got (res ls) r (M ++ X) → Q r (M ++ X)) : Ok (eCall (Ru 29) 16 [eV i] s M) Q := by
  rw [Ok_eCall, Ok_eAs1, Ok_eV]
  refine ⟨_, hi, ?_⟩
  rw [Ok_eAs0]
  refine (due (d := 25) hp h1 (by omega)).mono fun r M' h => ?_
  obtain ⟨g, X, rfl⟩ := h.got
  exact q _ _ g
theorem copyV (q : Q (.ref M.length) (M ++ [.lst (ls.map W.str)])) : Ok (eNew (lList (lOf (eV i))) s M) Q := by
  rw [Ok_eNew]
  refine Ok_lList ?_
  rw [Ok_lOf, Ok_eV]
  exact ⟨_, hi, _, items_L hp, by rw [List.length_map]; omega, q⟩
theorem askL (q : ∀ r X, Got (res ls) r (M ++ X) → Q r (M ++ X)) : Ok (eCall (Ru 29) 18 [eNew (lList (lOf (eV i)))] s M) Q := by
  rw [Ok_eCall, Ok_eAs1]
  refine copyV hi hp h1 h2 ?_
  rw [Ok_eAs0]
  refine (asked (d := 22) get_new h1 (by omega)).mono fun r M' h => ?_
  obtain ⟨g, X, rfl⟩ := h.got
  rw [List.append_assoc] at g ⊢
  exact q _ _ g
end
theorem deps_trues : ∀ k : Nat, deps (List.replicate k (W.bl true)) ≤ 59
  | 0 => by decide
  | k + 1 => by
    rw [List.replicate_succ]
    unfold deps
    have := deps_trues k
    have h : dep (W.bl true) ≤ 59 := by decide
    omega
theorem Ok_niTrues {M : Mem} {p k : Nat} {Q : W → Mem → Prop} (hp : M[p]? = some (.lst (List.replicate k (W.bl true)))) : Ok (oNi (.bl false) (.ref p) M) Q ↔ Q (.bl true) M := by
  have e : inW (.bl false) (.ref p) M = some false := by
    unfold inW
    simp only [hp]
    have h1 : isDs (List.replicate k (W.bl true)) = true := isDs_mem.mpr fun w hw => by rw [List.eq_of_mem_replicate hw]; rfl
    have h2 : (List.replicate k (W.bl true)).any (fun z => eqD z (.bl false)) = false := by
      rw [List.any_eq_false]
      intro w hw
      rw [List.eq_of_mem_replicate hw]
      decide
    rw [h1, h2, decide_eq_true (deps_trues k), decide_eq_true (show dep (W.bl false) ≤ 60 by decide)]
    rfl
  unfold oNi
  rw [e]
  exact Ok_ok _
theorem still_at {M : Mem} {j : Nat} {o : O} (h : M[j]? = some o) : still (some (j, o)) M = true := decide_eq_true h
theorem answers {s : Sl} {M : Mem} {j n : Nat} (h6 : s[6]? = some (some (.ref j))) (hs : s.length = 9) (hR : Rows M j n) (hn : n ≤ 1000) :
    Ok (eOp oNi (eC (.bl false)) (eNew (lComp (iSeq (eV 6)) (.one 8) (eC (.bl true)) (eOp oEqT (eCall (Ru 29) 18 [(eNew (lList (lOf (eV 8))))]) (eCall (Ru 29) 16 [(eV 8)])))) s M) fun r _ => r = .bl true := by
  obtain ⟨ws, a1, a2, a3⟩ := hR
  rw [Ok_eOp, Ok_eC, Ok_eNew, Ok_lComp, Ok_iSeq, Ok_eV]
  refine ⟨_, h6, ?_⟩
  rw [Ok_seqRef a1]
  refine Ok_lc (fun rest acc M' => (∃ X, M' = M ++ X) ∧ (∀ w ∈ rest, w ∈ ws) ∧ (∃ k, acc = List.replicate k (W.bl true) ∧ k + rest.length = n)) (fun rest acc M' ⟨⟨X, e⟩, h2, k, e3, e4⟩ => ⟨still_at (by rw [e]; exact get_app a1), by rw [e3, List.length_replicate]; omega⟩)
    (fun w rest acc M' ⟨⟨X, e⟩, h2, k, e3, e4⟩ => ?_) (fun acc M' ⟨⟨X, e⟩, h2, k, e3, e4⟩ => ?_) ws [] M ⟨⟨[], by simp⟩, fun w h => h, 0, rfl, by omega⟩
  · obtain ⟨⟨i, ls, rfl, b1, b2⟩, b3⟩ := a3 w (h2 w List.mem_cons_self)
    have h8 : (s.set 8 (some (W.ref i)))[8]? = some (some (W.ref i)) := List.getElem?_set_self (by omega)
    refine ⟨s.set 8 (some (.ref i)), rfl, ?_⟩
    rw [Ok_eC, Br_t, Ok_eOp]
    subst e
    have c1 : ∀ z ∈ ls, z.length ≤ 600 := fun z hz => by have := b2.1 z hz; omega
    have c2 : ls.length ≤ 100 := by have := b2.2; omega
    refine askL h8 (get_app b1) c1 c2 fun r X1 g1 => ?_
    refine dueV h8 (get_app (get_app b1)) c1 c2 fun r' X2 g2 => ?_
    rw [Ok_gotEq g1.more g2]
    rw [List.length_cons] at e4
    exact ⟨⟨X ++ X1 ++ X2, by simp only [List.append_assoc]⟩, fun w hw => h2 w (List.mem_cons_of_mem _ hw), k + 1, by rw [e3, List.replicate_succ'], by omega⟩
  · subst e3
    rw [Ok_niTrues get_new]
def bd : Nat → Nat
  | 0 => 60
  | t + 1 => 2 * bd t + 30
section
variable {ns : List Int} (hl : ns.length ≤ 63)
include hl
theorem spoils {a1 a2 : Option W} {M : Mem} {p : Nat} {ls : List Tx} (hp : M[p]? = some (.lst (ls.map W.str))) (hs : Short 60 6 ls) :
    Ok (sFor (.one 4) (iRange1 (eOp oAdd (eC (.int 1)) (eCall (Ru 29) 9 [(eV 0), (eC (.int 1)), (eC (.int 2))]))) (sAsg (.one 3) (eCall (Ru 29) 11 [(eV 0), (eOp oAdd (eC (.int 100)) (eOp oMul (eC (.int 10)) (eV 4))), (eV 3)]))
      [some (.scr ns), a1, a2, some (.ref p), none, none, none, none, none] M) fun fl M' => ∃ j v4 ls', fl = .nx [some (.scr ns), a1, a2, some (.ref j), v4, none, none, none, none] ∧ M'[j]? = some (.lst (ls'.map W.str)) ∧ Short 330 8 ls' ∧ ∃ X, M' = M ++ X := by
  have g : ∀ {k m : Int}, 0 < m → 0 ≤ drawM ns k m ∧ drawM ns k m < m := drawM_lt
  rw [Ok_sFor]
  refine Ok_iRange1.mpr ?_
  simp only [Ok_sSeq, Ok_sAsg, Ok_sRet, Ok_sExp, Ok_sPass, Ok_sIf, Ok_sFor, Ok_eV, Ok_eC, Ok_eAs1, Ok_eAs0, Ok_eTup, Ok_eNew, Ok_eOp, Ok_eUn, Ok_eCall, Ok_eAnd, Ok_eOr, Ok_eIf, Ok_eL, Ok_lComp, Ok_iSeq, Ok_eTuple, Ok_lOf, setS, start, List.map_cons, List.map_nil, List.length_cons, List.length_nil, Nat.zero_add, Nat.reduceAdd, Nat.reduceSub, List.replicate_succ, List.replicate_zero, List.cons_append, List.nil_append, List.set_cons_succ, List.set_cons_zero, List.getElem?_cons_succ, List.getElem?_cons_zero, Option.some.injEq, exists_eq_left', Ok_uNot, Br_t, Br_f, Bool.not_true, Bool.not_false]
  refine Ok.eq (draw hl (by omega) (by decide)) ?_
  have g1 := g (k := 1) (m := 2) (by decide)
  generalize drawM ns 1 2 = cnt at g1
  rw [Ok_add, Ok_rngW]
  refine ⟨by omega, ?_⟩
  refine Ok_for (fun rest s M' => ∃ t j v4 ls', s = [some (.scr ns), a1, a2, some (.ref j), v4, none, none, none, none] ∧ M'[j]? = some (.lst (ls'.map W.str)) ∧ Short (bd t) (6 + t) ls' ∧ t + rest.length ≤ 2 ∧ (∀ x ∈ rest, ∃ i : Int, x = .int i ∧ 0 ≤ i ∧ i < 2) ∧ ∃ X, M' = M ++ X)
    (fun _ _ _ _ => rfl) (fun x rest s M' ⟨t, j, v4, ls', e1, e2, e3, e4, e5, X, e6⟩ => ?_) (fun s M' ⟨t, j, v4, ls', e1, e2, e3, e4, e5, X, e6⟩ => ?_) _ _ _
    ⟨0, p, none, ls, rfl, hp, hs, by rw [range_len]; omega, fun x hx => by obtain ⟨i, e, h1, h2⟩ := range_mem hx; exact ⟨i, e, h1, by omega⟩, [], by simp⟩
  · obtain ⟨i, rfl, i1, i2⟩ := e5 x List.mem_cons_self
    subst e1
    refine ⟨_, rfl, ?_⟩
    have hm : (10 : Int).natAbs.log2 + i.natAbs.log2 < 1000000 := by
      have := log_sm (a := 10) (by omega) (by omega)
      have := log_sm (a := i) (by omega) (by omega)
      omega
    simp only [Ok_sSeq, Ok_sAsg, Ok_sRet, Ok_sExp, Ok_sPass, Ok_sIf, Ok_sFor, Ok_eV, Ok_eC, Ok_eAs1, Ok_eAs0, Ok_eTup, Ok_eNew, Ok_eOp, Ok_eUn, Ok_eCall, Ok_eAnd, Ok_eOr, Ok_eIf, Ok_eL, Ok_lComp, Ok_iSeq, Ok_eTuple, Ok_lOf, setS, start, List.map_cons, List.map_nil, List.length_cons, List.length_nil, Nat.zero_add, Nat.reduceAdd, Nat.reduceSub, List.replicate_succ, List.replicate_zero, List.cons_append, List.nil_append, List.set_cons_succ, List.set_cons_zero, List.getElem?_cons_succ, List.getElem?_cons_zero, Option.some.injEq, exists_eq_left', Ok_uNot, Br_t, Br_f, Bool.not_true, Bool.not_false, Ok_mul, Ok_add]
    refine ⟨hm, ?_⟩
    rw [List.length_cons] at e4
    have hb : bd t ≤ 400 := by
      match t, (show t ≤ 1 by omega) with
      | 0, _ => decide
      | 1, _ => decide
    refine (spoiled hl (d := 27) e2 e3 hb (by omega) ⟨by omega, by omega⟩).mono fun r M2 ⟨ws, er, eM, _, ls2, hws, hs2⟩ => ?_
    subst er
    refine ⟨t + 1, _, _, ls2, rfl, by rw [eM, hws]; exact get_new, hs2, by omega, fun x hx => e5 x (List.mem_cons_of_mem _ hx), X ++ [.lst ws], by rw [eM, e6, List.append_assoc]⟩
  · subst e1
    have hb : bd t ≤ 330 := by
      match t, (show t ≤ 2 by simp at e4; omega) with
      | 0, _ => decide
      | 1, _ => decide
      | 2, _ => decide
    exact ⟨j, v4, ls', rfl, e2, e3.mono hb (by simp at e4; omega), X, e6⟩
theorem law_ok : Ok (Ru 30 19 [.scr ns] []) fun r _ => r = .bl true := by
  refine run_n (n := 9) (b := b19 (Ru 29)) rfl rfl ?_
  unfold b19
  refine st_asg ?_
  rw [Ok_eCall, Ok_eAs1, Ok_eV]
  refine ⟨_, rfl, ?_⟩
  rw [Ok_eAs0]
  refine (made hl (d := 27) (M := [])).mono fun r M1 ⟨ws, er, eM, hD, ls, hws, ⟨m1, D, m2, m3⟩, hlen⟩ => ?_
  have h1 : M1[([] : Mem).length]? = some (.lst (ls.map W.str)) := by rw [eM, hws]; exact get_new
  generalize ([] : Mem).length = p at er h1
  subst er
  clear eM hD hws
  have c1 : ∀ z ∈ ls, z.length ≤ 600 := fun z hz => by have := m1 z hz; omega
  have c2 : ls.length ≤ 100 := by omega
  refine st_asg ?_
  refine dueV rfl h1 c1 c2 fun r X1 g1 => ?_
  have ht : ∃ a, r = ww a := by
    rw [m2] at g1
    obtain ⟨a, e, _⟩ := g1
    exact ⟨a, e⟩
  refine st_if ?_
  rw [Ok_eOr, Ok_eUn, Ok_eUn, Ok_eV]
  refine ⟨_, rfl, ?_⟩
  rw [Ok_isA (t := "tuple") (by obtain ⟨a, e⟩ := ht; rw [e]; rfl)]
  rw [show ("tuple" == "tuple" || "tuple" == "bool" && "tuple" == "int") = true from by decide, Ok_uNot, Bool.not_true, Br_f]
  rw [Ok_eOp]
  refine askL rfl (get_app h1) c1 c2 fun r2 X2 g2 => ?_
  rw [Ok_eV]
  refine ⟨_, rfl, ?_⟩
  rw [Ok_gotNe g2 g1.more]
  refine ⟨rfl, ?_⟩
  refine st_asg ?_
  rw [Ok_eV]
  refine ⟨_, rfl, ?_⟩
  have h2 := get_app (X := X2) (get_app (X := X1) h1)
  have g3 := g1.more (X := X2)
  generalize M1 ++ X1 ++ X2 = M2 at h2 g3
  refine st_any ?_
  refine (spoils hl (a1 := some (.ref p)) (a2 := some r) h2 ⟨m1, hlen⟩).mono fun fl M3 ⟨j, v4, ls', e, hj, hs, X3, e3⟩ => ?_
  subst e e3
  refine ⟨_, rfl, ?_⟩
  have k1 : ∀ z ∈ ls', z.length ≤ 600 := fun z hz => by have := hs.1 z hz; omega
  have k2 : ls'.length ≤ 100 := by have := hs.2; omega
  refine st_asg ?_
  refine copyV rfl hj k1 k2 ?_
  have hh : (M2 ++ X3 ++ [O.lst (ls'.map W.str)])[(M2 ++ X3).length]? = some (.lst (ls'.map W.str)) := get_new
  have h4 := get_app (X := [O.lst (ls'.map W.str)]) (get_app (X := X3) h2)
  have hj4 := get_app (X := [O.lst (ls'.map W.str)]) hj
  have g4 := (g3.more (X := X3)).more (X := [O.lst (ls'.map W.str)])
  generalize (M2 ++ X3).length = h at hh
  generalize M2 ++ X3 ++ [O.lst (ls'.map W.str)] = M4 at hh h4 hj4 g4
  refine st_if ?_
  rw [Ok_eOr, Ok_eOp]
  refine askV rfl hh k1 k2 fun r5 X5 g5 => ?_
  refine dueV rfl (get_app hj4) k1 k2 fun r6 X6 g6 => ?_
  rw [Ok_gotNe g5.more g6, Br_f, Ok_eOr, Ok_eOp, Ok_eV]
  refine ⟨_, rfl, ?_⟩
  rw [Ok_eV]
  refine ⟨_, rfl, ?_⟩
  have hd : isDs (ls'.map W.str) = true := isDs_mem.mpr fun w hw => by
    obtain ⟨z, _, rfl⟩ := List.mem_map.mp hw
    rfl
  have hdp : ∀ w ∈ ls'.map W.str, dep w ≤ 50 := fun w hw => by
    obtain ⟨z, _, rfl⟩ := List.mem_map.mp hw
    simp [dep]
  rw [Ok_neL (get_app (get_app hh)) (get_app (get_app hj4)) hd hd hdp hdp, decide_eq_true rfl, Bool.not_true, Br_f]
  rw [Ok_eOp]
  refine askL rfl (get_app (get_app h4)) c1 c2 fun r7 X7 g7 => ?_
  rw [Ok_eV]
  refine ⟨_, rfl, ?_⟩
  rw [Ok_gotNe g7 (g4.more.more.more)]
  refine ⟨rfl, ?_⟩
  refine st_asg ?_
  refine Ok_rows rows0 (rows_ok _ (by simp)) fun N0 p0 Y0 _ R0 => ?_
  refine st_asg ?_
  rw [Ok_eOp, Ok_eV]
  refine ⟨_, rfl, ?_⟩
  refine Ok_rows rows1 (rows_ok _ (by simp)) fun N1 p1 Y1 e1 R1 => ?_
  refine Ok_addRows (by rw [e1]; exact R0.more) R1 (by decide) fun N2 p2 R2 => ?_
  refine st_asg ?_
  rw [Ok_eOp, Ok_eV]
  refine ⟨_, rfl, ?_⟩
  refine Ok_rows rows2 (rows_ok _ (by simp)) fun N3 p3 Y3 e3 R3 => ?_
  refine Ok_addRows (by rw [e3]; exact R2.more) R3 (by decide) fun N4 p4 R4 => ?_
  refine st_asg ?_
  rw [Ok_eOp, Ok_eV]
  refine ⟨_, rfl, ?_⟩
  refine Ok_rows rows3 (rows_ok _ (by simp)) fun N5 p5 Y5 e5 R5 => ?_
  refine Ok_addRows (by rw [e5]; exact R4.more) R5 (by decide) fun N6 p6 R6 => ?_
  refine st_any ?_
  refine for_rows tail0 R6 (by decide) (fun z hz => tails_ok z (by simp [hz])) (fun z M hz => ?_) fun N7 v7 R7 => ?_
  · rw [Ok_eAs1, Ok_eV]
    refine ⟨_, rfl, ?_⟩
    rw [Ok_eAs0]
    exact ⟨rfl, [z], rfl, by simpa [Short] using hz⟩
  refine ⟨_, rfl, ?_⟩
  refine st_any ?_
  refine for_rows tail1 R7 (by decide) (fun z hz => tails_ok z (by simp [hz])) (fun z M hz => ?_) fun N8 v8 R8 => ?_
  · rw [Ok_eAs1, Ok_eC, Ok_eAs1, Ok_eV]
    refine ⟨_, rfl, ?_⟩
    rw [Ok_eAs0]
    exact ⟨rfl, [_, z], rfl, by simpa [Short] using hz⟩
  refine ⟨_, rfl, ?_⟩
  refine st_any ?_
  refine for_rows tail2 R8 (by decide) (fun z hz => tails_ok z (by simp [hz])) (fun z M hz => ?_) fun N9 v9 R9 => ?_
  · rw [Ok_eAs1, Ok_eC, Ok_eAs1, Ok_eV]
    refine ⟨_, rfl, ?_⟩
    rw [Ok_eAs0]
    exact ⟨rfl, [_, z], rfl, by simpa [Short] using hz⟩
  refine ⟨_, rfl, ?_⟩
  refine st_asg ?_
  rw [Ok_eOp, Ok_eV]
  refine ⟨_, rfl, ?_⟩
  refine Ok_rows rows4 (rows_ok _ (by simp)) fun N10 p10 Y10 e10 R10 => ?_
  refine Ok_addRows (by rw [e10]; exact R9.more) R10 (by decide) fun N11 p11 R11 => ?_
  rw [Ok_sRet]
  refine (answers rfl rfl R11 (by decide)).mono fun r M h => ?_
  exact h
end
theorem law_true (ns : List Int) (hl : ns.length ≤ 63) (hb : ∀ z ∈ ns, PySem.Builtin.Int.intBits z ≤ 1048576) : ∃ M', runG gcs T 30 19 [.scr ns] [] = some (.ok (.bl true), M') := by
  obtain ⟨r, M', e, rfl⟩ := law_ok hl
  exact ⟨M', e⟩
end Sw.smallword_k85_lines_refused

set_option autoImplicit false
set_option Elab.async false
set_option linter.all false
set_option maxRecDepth 100000
set_option maxHeartbeats 0
open PySem PySem.W PySem.Calls PyProof.Rows
theorem PySem.Challenge.cw_smallword_k85_lines_refused_holds : PySem.Challenge.rw_smallword_k85_lines_refused.Holds := by
  w_on; o_law
  refine HandSHeadRun.head_any (r := OpenLaw.row PySem.Challenge.rw_smallword_k85_lines_refused) (q := view (OpenLaw.row PySem.Challenge.rw_smallword_k85_lines_refused).prog [37]) (H := Sw.smallword_k85_lines_refused.hk) (ob := Sw.smallword_k85_lines_refused.ob) (M := 3000) (loose := Sw.smallword_k85_lines_refused.loose) (d := HandSHeadRun.topDef (OpenLaw.row PySem.Challenge.rw_smallword_k85_lines_refused).prog 37) (kwd := []) Sw.smallword_k85_lines_refused.ob_eq
    (by kernel_rfl) (fun s => by kernel_rfl) Sw.smallword_k85_lines_refused.run (by kernel_rfl) (by kernel_rfl) (by kernel_rfl) (by rfl) (by first | assumption | decide +kernel) (by decide +kernel) ⟨rfl, rfl, rfl, rfl, rfl, by decide +kernel⟩ ?hw ?hc
  case hw => w_witness2
  case hc =>
    refine Sw.walkG (l := PySem.Challenge.rw_smallword_k85_lines_refused) (n := 63) (k := 2 * 30 + 2) (x := "script") (CX := fun w => L2.CX PySem.Challenge.rw_smallword_k85_lines_refused.prog w) rfl (by decide) (by kernel_rfl) ⟨rfl, by decide, by decide⟩ ?F (fun _ _ _ _ _ ⟨_, _, _, _, _, _, _, _, _, _, _, _, z⟩ => z)
    intro w mg fa h Y G hmg0
    obtain ⟨K, KX, c⟩ := Y
    have hmg : mg ("law" : PySem.Str) = some (.ref fa) := by
      have e : (HandSHeadRun.topDef (OpenLaw.row PySem.Challenge.rw_smallword_k85_lines_refused).prog 37).name = ("law" : PySem.Str) := by kernel_rfl
      rw [← e]
      exact hmg0
    obtain ⟨fd, Z⟩ := Sw.smallword_k85_lines_refused.facts KX G c
    have e := hmg.symm.trans Z.g19
    cases e
    have b := L2.FunD.bindsA (ps := ["script"]) Z.D19 fun _ _ _ _ _ _ us hl => match us, hl with | [_], _ => rfl
    refine ⟨K, fd 19, Sw.spF ⟨K, w, fun i => He.ga K (Sw.smallword_k85_lines_refused.cn i)⟩ (Sw.runG Sw.smallword_k85_lines_refused.gcs Sw.smallword_k85_lines_refused.T 30 19) 1, KX, fun s v => b s [v] rfl, fun H a ns hl hb hO hS => ?_, fun base kb nb => Sw.smallword_k85_lines_refused.all_ok Z 30 19 (by decide)⟩
    obtain ⟨M', e⟩ := Sw.smallword_k85_lines_refused.law_true ns hl hb
    refine ⟨rfl, [], [], [.scr ns], ⟨rfl, fun i a o h1 h2 => ?_, List.nodup_nil⟩, ⟨_, _, rfl, ⟨a, rfl, hl, hS⟩, rfl⟩, ?_⟩
    · simp at h1
    · rw [e]
      exact fun v H' r' x m q => q
