import PyProof.Rows.All
import Wide.All
import OpenK.AllK
import Wide.FinOn
import KE.KStateDown
import Lean
import HandS.ForMost
import HandS.ForExc
import HandS.Defaults
import HandS.Head0
import HandS.Head1
import HandS.Head2
import HandS.HeadEnd
import HandS.HeadHook1
import HandS.HeadHook2
import PyProof.ReprText
import HandS.Wide
import HandS.WideBits
import HandS.CallSlots
import HandS.IsInst
import HandS.SortInts
import HandS.Style
import HandS.Conv
import HandS.Star
import HandS.SortRule
import HandS.EndBits
import PyProof.Rows.ReprR
import HandS.MakeKwOnly
import PySem.Challenge.RW_nestboards_k01_teams_judged
set_option Elab.async false
set_option linter.all false
set_option maxRecDepth 100000
set_option maxHeartbeats 4000000
/-! The head by facts: a Hook whose facts are any Boolean looks at the written part. -/
namespace Hx
open PySem PySem.Spec PyProof.Rows L2 He
abbrev Look : Type := PySem.W.Frag → Bool
def obsX (fs : List Look) (fn : List DefD) (K : PySem.W.Frag) : AlD := ((fs.all fun f => f K) && fn.all fun d => d.ok K, fn.map fun d => fnW K d.at_)
def SaysX (fs : List Look) (fn : List DefD) (K : PySem.W.Frag) : Prop := obsX fs fn K = valD fn
def obsXG (n : Nat) (fs : List Look) (fn : List DefD) (g : Addr → Option Obj) : AlD := obsX fs fn (frG g (asD g n))
def hookX (n : Nat) (fs : List Look) (fn : List DefD) : PySem.W.Hook where
  α := AlD
  obs := fun s => obsXG n fs fn s.heap.get?
  val := fun _ => valD fn
  says := fun _ h => ∃ K : PySem.W.Frag, K.In h ∧ SaysX fs fn K
  of := fun _ _ e => ⟨_, frG_in, e⟩
  keeps := fun _ _ _ ⟨K, hK, c⟩ k => ⟨K, PySem.W.Frag.In.keeps hK k, c⟩
theorem obsXG_eq {n : Nat} {fs : List Look} {fn : List DefD} {g : Addr → Option Obj} {s : Shared} (h : ∀ a, g a = s.heap.get? a) : obsXG n fs fn g = (hookX n fs fn).obs s := by
  have e : g = s.heap.get? := funext h
  rw [e] <;> rfl
section
variable {fs : List Look} {fn : List DefD} {K : PySem.W.Frag}
theorem SaysX.fact (c : SaysX fs fn K) (i : Nat) {f : Look} (h : fs[i]? = some f := by rfl) : f K = true := by
  have c1 := (ba (show ((fs.all fun f => f K) && fn.all fun d => d.ok K) = true from congrArg (fun z : AlD => z.1) c)).1
  exact List.all_eq_true.mp c1 f (List.mem_of_getElem? h)
theorem SaysX.facts (c : SaysX fs fn K) {f : Look} (h : f ∈ fs) : f K = true := by
  have c1 := (ba (show ((fs.all fun f => f K) && fn.all fun d => d.ok K) = true from congrArg (fun z : AlD => z.1) c)).1
  exact List.all_eq_true.mp c1 f h
theorem SaysX.def_ (c : SaysX fs fn K) (i : Nat) {d : DefD} (h : fn[i]? = some d := by rfl) : ∃ fd, FunD K d.name d.qual d.params d.body d.scope (d.dvs K) (d.kws K) (fAd K d.at_) fd := by
  have c2 := (ba (show ((fs.all fun f => f K) && fn.all fun d => d.ok K) = true from congrArg (fun z : AlD => z.1) c)).2
  have e : fn.map (fun d => fnW K d.at_) = fn.map DefD.val := congrArg (fun z : AlD => z.2) c
  have e2 : (fn.map fun d => fnW K d.at_)[i]? = (fn.map DefD.val)[i]? := by rw [e]
  rw [List.getElem?_map, List.getElem?_map, h] at e2
  exact DefD.funD (Option.some.inj e2) (List.all_eq_true.mp c2 d (List.mem_of_getElem? h))
end
end Hx
/-! MCore: a small machine of our own: values, a heap by places, computations. Every def of the program becomes a function over it. -/
namespace M
abbrev Str := PySem.Str
def st (x : String) : Str := PySem.Str.ofString x

/-- values: a place of the heap, a name of the module (def or class), a built-in type -/
inductive W where
  | non | bl (b : Bool) | int (i : Int) | str (x : Str) | ref (n : Nat) | glob (x : Str) | ty (n : String)
  deriving DecidableEq
abbrev Key := Sum Int Str
inductive O where
  | lst (ws : List W) | tup (ws : List W) | fls (ws : List W) | dct (kvs : List (Key × W)) | ins (c : Str) (fs : List (Str × W))
abbrev G := List O
structure Ex where
  cls : Str
  fld : Option (Str × W)
inductive Res (α : Type) where
  | ok (a : α) (g : G) | ex (e : Ex) (g : G) | bad
def Res.bind {α β : Type} (r : Res α) (f : α → G → Res β) : Res β := match r with
  | .ok a g => f a g
  | .ex e g => .ex e g
  | .bad => .bad
abbrev Env := List (Option W)
abbrev ME := Env → G → Res W
abbrev MT := Env → G → Res Bool
abbrev MA := Env → G → Res (List W)
inductive Fl where
  | nx (ρ : Env) | rt (w : W) | bk (ρ : Env) | ct (ρ : Env)
inductive SR where
  | fl (f : Fl) (g : G) | ex (e : Ex) (ρ : Env) (g : G) | bad
abbrev MS := Env → G → SR
abbrev MG := W → Env → G → Res Env
abbrev Fn := List W → G → Res W
def SZ : Nat := 16777216

/-! ### expressions -/
def mVar (i : Nat) : ME := fun ρ g => match ρ[i]? with
  | some (some w) => .ok w g
  | _ => .bad
def mC (w : W) : ME := fun _ g => .ok w g
def mOp2 (f : W → W → G → Res W) (a b : ME) : ME := fun ρ g => (a ρ g).bind fun x g1 => (b ρ g1).bind fun y g2 => f x y g2
def mOp1 (f : W → G → Res W) (a : ME) : ME := fun ρ g => (a ρ g).bind fun x g1 => f x g1
def aNil : MA := fun _ g => .ok [] g
def aCons (a : ME) (r : MA) : MA := fun ρ g => (a ρ g).bind fun x g1 => (r ρ g1).bind fun xs g2 => .ok (x :: xs) g2
def mLst (a : MA) : ME := fun ρ g => (a ρ g).bind fun xs g1 => if xs.length ≤ SZ then .ok (.ref g1.length) (g1 ++ [.lst xs]) else .bad
def mTup (a : MA) : ME := fun ρ g => (a ρ g).bind fun xs g1 => if xs.length ≤ SZ then .ok (.ref g1.length) (g1 ++ [.tup xs]) else .bad
def mCall (f : Fn) (a : MA) : ME := fun ρ g => (a ρ g).bind fun xs g1 => f xs g1
/-- a call with positional values, keywords' values, and the places that the parameters take among them -/
def mCallK (f : Fn) (a k : MA) (p : List Nat) : ME := fun ρ g => (a ρ g).bind fun xs g1 => (k ρ g1).bind fun ys g2 => f (p.map fun i => (xs ++ ys).getD i .non) g2
/-- the values in another sequence -/
def pick {α : Type} (pm : List Nat) (l : List α) : List α := pm.filterMap fun i => l[i]?
/-- a call with keywords only -/
def mCallP (f : Fn) (n : Nat) (pm : List Nat) (a : MA) : ME := fun ρ g => (a ρ g).bind fun xs g1 => if xs.length = n then f (pick pm xs) g1 else .bad
/-- a call of a def that a name holds: the defs that may stand there -/
def lookF (tbl : List (Str × Fn)) (x : Str) : Option Fn := match tbl with
  | [] => none
  | (y, f) :: r => if y = x then some f else lookF r x
def mCallV (tbl : List (Str × Fn)) (v : ME) (a : MA) : ME := fun ρ g => (v ρ g).bind fun x g1 => match x with
  | .glob y => match lookF tbl y with
    | some f => (a ρ g1).bind fun xs g2 => f xs g2
    | none => .bad
  | _ => .bad
/-- the same with keywords only -/
def mCallVP (tbl : List (Str × Fn)) (n : Nat) (pm : List Nat) (v : ME) (a : MA) : ME := fun ρ g => (v ρ g).bind fun x g1 => match x with
  | .glob y => match lookF tbl y with
    | some f => (a ρ g1).bind fun xs g2 => if xs.length = n then f (pick pm xs) g2 else .bad
    | none => .bad
  | _ => .bad
/-- {} and {'x': i} -/
def mD0 : ME := fun _ g => .ok (.ref g.length) (g ++ [.dct []])
def mD1 (x : Str) (i : Int) : ME := fun _ g => .ok (.ref g.length) (g ++ [.dct [(.inr x, .int i)]])
def mIf (c : MT) (a b : ME) : ME := fun ρ g => (c ρ g).bind fun t g1 => if t then a ρ g1 else b ρ g1
/-- tests -/
def tVal (a : ME) : MT := fun ρ g => (a ρ g).bind fun x g1 => match x with
  | .bl b => .ok b g1
  | _ => .bad
def tNot (a : MT) : MT := fun ρ g => (a ρ g).bind fun t g1 => .ok (!t) g1
def tAnd (a b : MT) : MT := fun ρ g => (a ρ g).bind fun t g1 => if t then b ρ g1 else .ok false g1
def tOr (a b : MT) : MT := fun ρ g => (a ρ g).bind fun t g1 => if t then .ok true g1 else b ρ g1
def tYes : MT := fun _ g => .ok true g
/-- and, or, not of truth values as values -/
def mAnd (a b : ME) : ME := fun ρ g => (a ρ g).bind fun x g1 => match x with
  | .bl true => b ρ g1
  | .bl false => .ok (.bl false) g1
  | _ => .bad
def mOr (a b : ME) : ME := fun ρ g => (a ρ g).bind fun x g1 => match x with
  | .bl true => .ok (.bl true) g1
  | .bl false => b ρ g1
  | _ => .bad
def mNot (a : ME) : ME := fun ρ g => (a ρ g).bind fun x g1 => match x with
  | .bl b => .ok (.bl (!b)) g1
  | _ => .bad
/-- a op b op' c -/
def mChain (f f' : W → W → G → Res W) (a b c : ME) : ME := fun ρ g => (a ρ g).bind fun x g1 => (b ρ g1).bind fun y g2 => (f x y g2).bind fun z g3 => match z with
  | .bl true => (c ρ g3).bind fun w g4 => f' y w g4
  | .bl false => .ok (.bl false) g3
  | _ => .bad

/-! ### what is read -/
def lstAt (g : G) (n : Nat) : Option (List W) := match g[n]? with
  | some (.lst ws) => some ws
  | some (.fls ws) => some ws
  | _ => none
def tupAt (g : G) (n : Nat) : Option (List W) := match g[n]? with
  | some (.tup ws) => some ws
  | _ => none
def seqAt (g : G) (n : Nat) : Option (List W) := match g[n]? with
  | some (.lst ws) => some ws
  | some (.fls ws) => some ws
  | some (.tup ws) => some ws
  | _ => none
def intsL : List W → Option (List Int)
  | [] => some []
  | .int i :: r => match intsL r with
    | some l => some (i :: l)
    | none => none
  | _ :: _ => none
def bools : List W → Option (List Bool)
  | [] => some []
  | .bl i :: r => match bools r with
    | some l => some (i :: l)
    | none => none
  | _ :: _ => none
def strsL : List W → Option (List Str)
  | [] => some []
  | .str i :: r => match strsL r with
    | some l => some (i :: l)
    | none => none
  | _ :: _ => none

/-- *a in a display or a call -/
def aStar (a : ME) (r : MA) : MA := fun ρ g => (a ρ g).bind fun x g1 => match x with
  | .ref n => match seqAt g1 n with
    | some ws => (r ρ g1).bind fun xs g2 => .ok (ws ++ xs) g2
    | none => .bad
  | _ => .bad
/-! ### operators -/
/-- the bits of an int -/
def lg (i : Int) : Nat := i.natAbs.log2
def opAdd : W → W → G → Res W
  | .int i, .int j, g => .ok (.int (i + j)) g
  | .str x, .str y, g => if x.length + y.length ≤ SZ then .ok (.str (x ++ y)) g else .bad
  | .ref a, .ref b, g => match g[a]?, g[b]? with
    | some (.lst xs), some (.lst ys) => if xs.length + ys.length ≤ SZ then .ok (.ref g.length) (g ++ [.lst (xs ++ ys)]) else .bad
    | _, _ => .bad
  | _, _, _ => .bad
def opSub : W → W → G → Res W
  | .int i, .int j, g => .ok (.int (i - j)) g
  | _, _, _ => .bad
def opMul : W → W → G → Res W
  | .int i, .int j, g => if lg i + lg j < 1000000 then .ok (.int (i * j)) g else .bad
  | .ref a, .int k, g => match g[a]? with
    | some (.lst xs) => if -(2 ^ 63) ≤ k ∧ k < 2 ^ 63 ∧ xs.length * k.toNat ≤ SZ then .ok (.ref g.length) (g ++ [.lst (List.replicate k.toNat xs).flatten]) else .bad
    | _ => .bad
  | _, _, _ => .bad
/-- // and % by a positive divisor -/
def opDiv : W → W → G → Res W
  | .int i, .int j, g => if 0 < j ∧ lg j < 9000 then .ok (.int (i / j)) g else .bad
  | _, _, _ => .bad
def opMod : W → W → G → Res W
  | .int i, .int j, g => if 0 < j then .ok (.int (i % j)) g else .bad
  | _, _, _ => .bad
def opPow : W → W → G → Res W
  | .int i, .int j, g => if 0 ≤ j ∧ j ≤ 1000 ∧ lg i < 4096 then .ok (.int (i ^ j.toNat)) g else .bad
  | _, _, _ => .bad
def opNeg : W → G → Res W
  | .int i, g => .ok (.int (-i)) g
  | _, _ => .bad
def opLt : W → W → G → Res W
  | .int i, .int j, g => .ok (.bl (decide (i < j))) g
  | _, _, _ => .bad
def opLe : W → W → G → Res W
  | .int i, .int j, g => .ok (.bl (decide (i ≤ j))) g
  | _, _, _ => .bad
def opGt : W → W → G → Res W
  | .int i, .int j, g => .ok (.bl (decide (j < i))) g
  | _, _, _ => .bad
def opGe : W → W → G → Res W
  | .int i, .int j, g => .ok (.bl (decide (j ≤ i))) g
  | _, _, _ => .bad
/-! data as a whole -/
inductive D where
  | non | bl (b : Bool) | int (i : Int) | str (x : Str) | lst (ds : List D) | tup (ds : List D)
mutual
def eqD : D → D → Bool
  | .non, .non => true
  | .bl a, .bl b => a == b
  | .bl a, .int j => (if a then 1 else 0) == j
  | .int i, .bl b => i == (if b then 1 else 0)
  | .int i, .int j => i == j
  | .str x, .str y => x == y
  | .lst xs, .lst ys => eqDs xs ys
  | .tup xs, .tup ys => eqDs xs ys
  | _, _ => false
def eqDs : List D → List D → Bool
  | [], [] => true
  | x :: xs, y :: ys => eqD x y && eqDs xs ys
  | _, _ => false
end
def okS (x : Str) : Bool := x.cps.all (· < 0x110000)
mutual
/-- a value read to a depth -/
def rdD : Nat → G → W → Option D
  | _, _, .non => some .non
  | _, _, .bl b => some (.bl b)
  | _, _, .int i => some (.int i)
  | _, _, .str x => if okS x then some (.str x) else none
  | 0, _, .ref _ => none
  | n + 1, g, .ref a => match g[a]? with
    | some (.lst ws) => match rdDs n g ws with
      | some ds => some (.lst ds)
      | none => none
    | some (.fls ws) => match rdDs n g ws with
      | some ds => some (.lst ds)
      | none => none
    | some (.tup ws) => match rdDs n g ws with
      | some ds => some (.tup ds)
      | none => none
    | _ => none
  | _, _, _ => none
def rdDs : Nat → G → List W → Option (List D)
  | _, _, [] => some []
  | n, g, w :: ws => match rdD n g w with
    | some d => match rdDs n g ws with
      | some ds => some (d :: ds)
      | none => none
    | none => none
end
mutual
def toPy : D → PySem.PyData
  | .non => .none
  | .bl b => .bool b
  | .int i => .int i
  | .str x => .str x
  | .lst ds => .list (toPys ds)
  | .tup ds => .tuple (toPys ds)
def toPys : List D → List PySem.PyData
  | [] => []
  | d :: ds => toPy d :: toPys ds
end
def opEq : W → W → G → Res W := fun x y g => match x, y with
  | .str a, .str b => .ok (.bl (decide (a = b))) g
  | _, _ => match rdD 60 g x, rdD 60 g y with
    | some d, some e => .ok (.bl (eqD d e)) g
    | _, _ => .bad
def opNe : W → W → G → Res W := fun x y g => match x, y with
  | .str a, .str b => .ok (.bl (!decide (a = b))) g
  | _, _ => match rdD 60 g x, rdD 60 g y with
    | some d, some e => .ok (.bl (!eqD d e)) g
    | _, _ => .bad
/-- repr of data -/
def bRepr : Fn
  | [x], g => match rdD 60 g x with
    | some d => if (toPy d).showable && decide ((toPy d).shown.length ≤ SZ) then .ok (.str (toPy d).shown) g else .bad
    | none => .bad
  | _, _ => .bad
def flat : W → Bool
  | .non => true
  | .bl _ => true
  | .int _ => true
  | .str _ => true
  | _ => false
def eqF : W → W → Bool
  | .non, .non => true
  | .bl a, .bl b => a == b
  | .bl a, .int b => (if a then 1 else 0) == b
  | .int a, .bl b => a == (if b then 1 else 0)
  | .int a, .int b => a == b
  | .str a, .str b => a == b
  | _, _ => false
/-- x in xs: flat things -/
def inF (x : W) (xs : List W) : Bool := xs.any fun y => eqF y x
def opIn : W → W → G → Res W
  | x, .ref a, g => match seqAt g a with
    | some ws => if flat x && ws.all flat then .ok (.bl (inF x ws)) g else .bad
    | none => .bad
  | _, _, _ => .bad
def opNin : W → W → G → Res W
  | x, .ref a, g => match seqAt g a with
    | some ws => if flat x && ws.all flat then .ok (.bl (!inF x ws)) g else .bad
    | none => .bad
  | _, _, _ => .bad
/-- is None, is not None -/
def opIsN : W → G → Res W := fun x g => .ok (.bl (decide (x = .non))) g
def opNotN : W → G → Res W := fun x g => .ok (.bl (!decide (x = .non))) g
/-- is of two truths -/
def opIsB : W → W → G → Res W
  | .bl a, .bl b, g => .ok (.bl (decide (a = b))) g
  | _, _, _ => .bad
def opNotB : W → W → G → Res W
  | .bl a, .bl b, g => .ok (.bl (!decide (a = b))) g
  | _, _, _ => .bad
/-! ### subscripts -/
def ixN (n : Nat) (i : Int) : Option Nat := if 0 ≤ i then (if i < n then some i.toNat else none) else if -(n : Int) ≤ i then some (i + n).toNat else none
def atI {α : Type} (xs : List α) (i : Int) : Option α := (ixN xs.length i).bind fun j => xs[j]?
def opIx : W → W → G → Res W
  | .ref a, .int i, g => match seqAt g a with
    | some ws => match atI ws i with
      | some w => .ok w g
      | none => .bad
    | none => .bad
  | _, _, _ => .bad
def sIx (n d : Nat) : Option Int → Nat
  | none => d
  | some v => if v < 0 then (v + (n : Int)).toNat else min v.toNat n
def cut {α : Type} (xs : List α) (lo hi : Option Int) : List α := (xs.drop (sIx xs.length 0 lo)).take (sIx xs.length xs.length hi - sIx xs.length 0 lo)
/-- a part of a slice -/
abbrev MO := Env → G → Res (Option Int)
def oNone : MO := fun _ g => .ok none g
def oSome (a : ME) : MO := fun ρ g => (a ρ g).bind fun x g1 => match x with
  | .int i => .ok (some i) g1
  | _ => .bad
/-- a slice of a list -/
def mSl (a : ME) (lo hi : MO) : ME := fun ρ g => (a ρ g).bind fun x g1 => (lo ρ g1).bind fun l g2 => (hi ρ g2).bind fun h g3 => match x with
  | .ref n => match lstAt g3 n with
    | some ws => .ok (.ref g3.length) (g3 ++ [.lst (cut ws l h)])
    | none => .bad
  | _ => .bad
/-- xs[::-1] of a list -/
def mRev (a : ME) : ME := fun ρ g => (a ρ g).bind fun x g1 => match x with
  | .ref n => match lstAt g1 n with
    | some ws => .ok (.ref g1.length) (g1 ++ [.lst ws.reverse])
    | none => .bad
  | _ => .bad
/-! ### built-in functions, by values -/
def isort (l : List Int) : List Int := l.mergeSort (fun a b => decide (a ≤ b))
def bLen : Fn
  | [.ref a], g => match seqAt g a with
    | some ws => .ok (.int ws.length) g
    | none => .bad
  | [.str x], g => if x.length ≤ SZ then .ok (.int x.length) g else .bad
  | _, _ => .bad
def maxL : List Int → Int
  | [] => 0
  | [a] => a
  | a :: b :: r => max a (maxL (b :: r))
def minL : List Int → Int
  | [] => 0
  | [a] => a
  | a :: b :: r => min a (minL (b :: r))
def bMax : Fn
  | [.int i, .int j], g => .ok (.int (if j > i then j else i)) g
  | [.ref a], g => match lstAt g a with
    | some ws => match intsL ws with
      | some (n :: ns) => .ok (.int (maxL (n :: ns))) g
      | _ => .bad
    | none => .bad
  | _, _ => .bad
def bMin : Fn
  | [.int i, .int j], g => .ok (.int (if j < i then j else i)) g
  | [.ref a], g => match lstAt g a with
    | some ws => match intsL ws with
      | some (n :: ns) => .ok (.int (minL (n :: ns))) g
      | _ => .bad
    | none => .bad
  | _, _ => .bad
def bSum : Fn
  | [.ref a], g => match lstAt g a with
    | some ws => match intsL ws with
      | some ns => .ok (.int ns.sum) g
      | _ => .bad
    | none => .bad
  | _, _ => .bad
def bAll : Fn
  | [.ref a], g => match lstAt g a with
    | some ws => match bools ws with
      | some bs => .ok (.bl (bs.all id)) g
      | _ => .bad
    | none => .bad
  | _, _ => .bad
def bAny : Fn
  | [.ref a], g => match lstAt g a with
    | some ws => match bools ws with
      | some bs => .ok (.bl (bs.any id)) g
      | _ => .bad
    | none => .bad
  | _, _ => .bad
/-- pairs of ints -/
def pairAt (g : G) : W → Option (Int × Int)
  | .ref t => match g[t]? with
    | some (.tup [.int i, .int j]) => some (i, j)
    | _ => none
  | _ => none
def pairsL (g : G) : List W → Option (List (Int × Int))
  | [] => some []
  | w :: r => match pairAt g w with
    | some p => match pairsL g r with
      | some l => some (p :: l)
      | none => none
    | none => none
def leP (p q : Int × Int) : Bool := decide (p.1 < q.1) || (decide (p.1 = q.1) && decide (p.2 ≤ q.2))
/-- things by their pairs -/
def psort (l : List ((Int × Int) × W)) : List ((Int × Int) × W) := l.mergeSort fun a b => leP a.1 b.1
/-- sorted of a list of ints, of a list of pairs that all differ -/
def bSorted : Fn
  | [.ref a], g => match lstAt g a with
    | some ws => match intsL ws with
      | some ns => .ok (.ref g.length) (g ++ [.lst ((isort ns).map .int)])
      | none => match pairsL g ws with
        | some ps => if ps.Nodup then .ok (.ref g.length) (g ++ [.lst ((psort (ps.zip ws)).map (·.2))]) else .bad
        | none => .bad
    | none => .bad
  | _, _ => .bad
def bAbs : Fn
  | [.int i], g => .ok (.int (if i < 0 then -i else i)) g
  | _, _ => .bad
def bInt : Fn
  | [.int i], g => .ok (.int i) g
  | [.bl b], g => .ok (.int (if b then 1 else 0)) g
  | _, _ => .bad
/-- list(xs) of a list or tuple -/
def bList : Fn
  | [.ref a], g => match seqAt g a with
    | some ws => .ok (.ref g.length) (g ++ [.lst ws])
    | none => .bad
  | _, _ => .bad
/-- tuple(xs) of a list -/
def bTuple : Fn
  | [.ref a], g => match lstAt g a with
    | some ws => .ok (.ref g.length) (g ++ [.tup ws])
    | none => .bad
  | _, _ => .bad
/-- the built-in type of a value -/
def tyOf (g : G) : W → Option String
  | .non => some "NoneType"
  | .bl _ => some "bool"
  | .int _ => some "int"
  | .str _ => some "str"
  | .ref a => match g[a]? with
    | some (.lst _) => some "list"
    | some (.fls _) => some "list"
    | some (.tup _) => some "tuple"
    | some (.dct _) => some "dict"
    | _ => none
  | _ => none
def subTy (t n : String) : Bool := t == n || (t == "bool" && n == "int")
def kinds : List String := ["int", "bool", "list", "tuple", "str"]
/-- isinstance(x, T), T a built-in type -/
def bIsi : Fn
  | [x, .ty n], g => match tyOf g x with
    | some t => if kinds.contains n then .ok (.bl (subTy t n)) g else .bad
    | none => .bad
  | _, _ => .bad
/-! ### methods of lists -/
def mtAppend (x : W) (xs : List W) (g : G) : Res W := match x, xs with
  | .ref a, [y] => match g[a]? with
    | some (.lst ws) => if ws.length < SZ then .ok .non (g.set a (.lst (ws ++ [y]))) else .bad
    | _ => .bad
  | _, _ => .bad
def mtPop (x : W) (xs : List W) (g : G) : Res W := match x, xs with
  | .ref a, [.int i] => match g[a]? with
    | some (.lst ws) => match ixN ws.length i with
      | some k => match ws[k]? with
        | some y => if -(2 ^ 63) ≤ i ∧ i < 2 ^ 63 then .ok y (g.set a (.lst (ws.eraseIdx k))) else .bad
        | none => .bad
      | none => .bad
    | _ => .bad
  | _, _ => .bad
def mtExtend (x : W) (xs : List W) (g : G) : Res W := match x, xs with
  | .ref a, [.ref b] => match g[a]?, g[b]? with
    | some (.lst ws), some (.lst zs) => if ws.length + zs.length ≤ SZ then .ok .non (g.set a (.lst (ws ++ zs))) else .bad
    | _, _ => .bad
  | _, _ => .bad
def findF (x : W) : List W → Option Nat
  | [] => none
  | y :: r => if eqF y x then some 0 else (findF x r).map (· + 1)
def mtIndex (x : W) (xs : List W) (g : G) : Res W := match x, xs with
  | .ref a, [y] => match lstAt g a with
    | some ws => if flat y && ws.all flat then match findF y ws with
      | some k => .ok (.int k) g
      | none => .bad
      else .bad
    | none => .bad
  | _, _ => .bad
def isL (g : G) : W → Bool
  | .ref a => (lstAt g a).isSome
  | _ => false
/-- a method of a list -/
def mMt (f : W → List W → G → Res W) (o : ME) (a : MA) : ME := fun ρ g => (o ρ g).bind fun x g1 => if isL g1 x then (a ρ g1).bind fun xs g2 => f x xs g2 else .bad
/-- list(range(..)) -/
def rgW (a b : Int) : List W := (List.range (b - a).toNat).map fun i => .int (a + (i : Nat))
def inR2 (a b : Int) : Bool := decide (-(2 ^ 62) ≤ a) && decide (a < 2 ^ 62) && decide (-(2 ^ 62) ≤ b) && decide (b < 2 ^ 62) && decide ((b - a).toNat ≤ SZ)
def mLrg1 (a : ME) : ME := fun ρ g => (a ρ g).bind fun x g1 => match x with
  | .int n => if inR2 0 n then .ok (.ref g1.length) (g1 ++ [.lst (rgW 0 n)]) else .bad
  | _ => .bad
def mLrg2 (a b : ME) : ME := fun ρ g => (a ρ g).bind fun x g1 => (b ρ g1).bind fun y g2 => match x, y with
  | .int n, .int m => if inR2 n m then .ok (.ref g2.length) (g2 ++ [.lst (rgW n m)]) else .bad
  | _, _ => .bad

/-! ### iterators -/
inductive It where
  | lst (a : Nat) | tup (a : Nat) | rng (lo : Int) (n : Nat) | rngC (lo c : Int) (n : Nat) | enum (a : Nat) | zip (a b : Nat)
inductive Tn where
  | go (w : W) (g : G) | stop | bad
def itAt : It → Nat → G → Tn
  | .lst a, i, g => match lstAt g a with
    | some ws => match ws[i]? with
      | some w => .go w g
      | none => .stop
    | none => .bad
  | .tup a, i, g => match tupAt g a with
    | some ws => match ws[i]? with
      | some w => .go w g
      | none => .stop
    | none => .bad
  | .rng lo n, i, g => if i < n then .go (.int (lo + i)) g else .stop
  | .rngC lo c n, i, g => if i < n then .go (.int (lo + (i : Nat) * c)) g else .stop
  | .enum a, i, g => match lstAt g a with
    | some ws => match ws[i]? with
      | some w => .go (.ref g.length) (g ++ [.tup [.int i, w]])
      | none => .stop
    | none => .bad
  | .zip a b, i, g => match lstAt g a, lstAt g b with
    | some ws, some us => match ws[i]?, us[i]? with
      | some w, some u => .go (.ref g.length) (g ++ [.tup [w, u]])
      | _, _ => .stop
    | _, _ => .bad
def itLen : It → G → Nat
  | .lst a, g => ((lstAt g a).getD []).length
  | .tup a, g => ((tupAt g a).getD []).length
  | .rng _ n, _ => n
  | .rngC _ _ n, _ => n
  | .enum a, g => ((lstAt g a).getD []).length
  | .zip a b, g => min ((lstAt g a).getD []).length ((lstAt g b).getD []).length
abbrev MI := Env → G → Res It
def iLst (e : ME) : MI := fun ρ g => (e ρ g).bind fun x g1 => match x with
  | .ref a => match lstAt g1 a with
    | some _ => .ok (.lst a) g1
    | none => .bad
  | _ => .bad
def iTup (e : ME) : MI := fun ρ g => (e ρ g).bind fun x g1 => match x with
  | .ref a => match tupAt g1 a with
    | some _ => .ok (.tup a) g1
    | none => .bad
  | _ => .bad
def inR (i : Int) : Bool := decide (-(2 ^ 62) ≤ i) && decide (i < 2 ^ 62)
def iRng1 (a : MA) : MI := fun ρ g => (a ρ g).bind fun xs g1 => match xs with
  | [.int j] => if inR j then .ok (.rng 0 j.toNat) g1 else .bad
  | _ => .bad
def iRng2 (a : MA) : MI := fun ρ g => (a ρ g).bind fun xs g1 => match xs with
  | [.int i, .int j] => if inR i && inR j then .ok (.rng i (j - i).toNat) g1 else .bad
  | _ => .bad
/-- range(i, j, -1) -/
def iRng3 (a : MA) : MI := fun ρ g => (a ρ g).bind fun xs g1 => match xs with
  | [.int i, .int j, .int c] => if inR i && inR j && decide (c = -1) then .ok (.rngC i (-1) (i - j).toNat) g1 else .bad
  | _ => .bad
def iEnum (a : MA) : MI := fun ρ g => (a ρ g).bind fun xs g1 => match xs with
  | [.ref n] => match lstAt g1 n with
    | some _ => .ok (.enum n) g1
    | none => .bad
  | _ => .bad
def iZip (a : MA) : MI := fun ρ g => (a ρ g).bind fun xs g1 => match xs with
  | [.ref n, .ref m] => match lstAt g1 n, lstAt g1 m with
    | some _, some _ => .ok (.zip n m) g1
    | _, _ => .bad
  | _ => .bad
/-! ### comprehensions -/
def wipe (ρ : Env) : List Nat → Env
  | [] => ρ
  | v :: vs => (wipe ρ vs).set v none
def lcGo (it : It) (tgt : MG) (tt : MT) (el : ME) (ρ : Env) (d : Nat) : Nat → Nat → G → Res W
  | 0, i, g => match itAt it i g with
    | .stop => .ok (.ref d) g
    | _ => .bad
  | fuel + 1, i, g => match itAt it i g with
    | .stop => .ok (.ref d) g
    | .bad => .bad
    | .go w g1 => match tgt w ρ g1 with
      | .ok ρ1 g2 => match tt ρ1 g2 with
        | .ok true g3 => match el ρ1 g3 with
          | .ok y g4 => match g4[d]? with
            | some (.lst acc) => if acc.length < SZ then lcGo it tgt tt el ρ d fuel (i + 1) (g4.set d (.lst (acc ++ [y]))) else .bad
            | _ => .bad
          | _ => .bad
        | .ok false g3 => lcGo it tgt tt el ρ d fuel (i + 1) g3
        | _ => .bad
      | _ => .bad
def mLc (mi : MI) (own : List Nat) (tgt : MG) (tt : MT) (el : ME) : ME := fun ρ g => (mi ρ g).bind fun it g1 =>
  lcGo it tgt tt el (wipe ρ own) g1.length (itLen it g1) 0 (g1 ++ [.lst []])

/-! ### targets -/
def gName (i : Nat) : MG := fun w ρ g => .ok (ρ.set i (some w)) g
def gTups : List MG → List W → Env → G → Res Env
  | [], [], ρ, g => .ok ρ g
  | t :: ts, w :: ws, ρ, g => (t w ρ g).bind fun ρ1 g1 => gTups ts ws ρ1 g1
  | _, _, _, _ => .bad
def gTup (ts : List MG) : MG := fun w ρ g => match w with
  | .ref a => match tupAt g a with
    | some ws => if ws.length = ts.length then gTups ts ws ρ g else .bad
    | none => .bad
  | _ => .bad
/-- o[i] = v, o a list -/
def gSub (o i : ME) : MG := fun w ρ g => (o ρ g).bind fun x g1 => (i ρ g1).bind fun y g2 => match x, y with
  | .ref a, .int k => match g2[a]? with
    | some (.lst ws) => match ixN ws.length k with
      | some j => .ok ρ (g2.set a (.lst (ws.set j w)))
      | none => .bad
    | _ => .bad
  | _, _ => .bad
/-! ### statements -/
def sNop : MS := fun ρ g => .fl (.nx ρ) g
def sSeq (s t : MS) : MS := fun ρ g => match s ρ g with
  | .fl (.nx ρ1) g1 => t ρ1 g1
  | r => r
def sE (e : ME) : MS := fun ρ g => match e ρ g with
  | .ok _ g1 => .fl (.nx ρ) g1
  | .ex x g1 => .ex x ρ g1
  | .bad => .bad
def sRet (e : ME) : MS := fun ρ g => match e ρ g with
  | .ok w g1 => .fl (.rt w) g1
  | .ex x g1 => .ex x ρ g1
  | .bad => .bad
def sAsg (e : ME) (t : MG) : MS := fun ρ g => match e ρ g with
  | .ok w g1 => match t w ρ g1 with
    | .ok ρ1 g2 => .fl (.nx ρ1) g2
    | _ => .bad
  | .ex x g1 => .ex x ρ g1
  | .bad => .bad
def sIf (c : MT) (a b : MS) : MS := fun ρ g => match c ρ g with
  | .ok t g1 => if t then a ρ g1 else b ρ g1
  | .ex x g1 => .ex x ρ g1
  | .bad => .bad
/-- a name's slot i changed by an operator -/
def sAug (i : Nat) (f : W → W → G → Res W) (e : ME) : MS := fun ρ g => match ρ[i]? with
  | some (some x) => match e ρ g with
    | .ok y g1 => match f x y g1 with
      | .ok z g2 => .fl (.nx (ρ.set i (some z))) g2
      | .ex x g1 => .ex x ρ g1
      | .bad => .bad
    | .ex x g1 => .ex x ρ g1
    | .bad => .bad
  | _ => .bad
/-- a, b = x, y for locals -/
def putL : List Nat → List W → Env → Option Env
  | [], [], ρ => some ρ
  | i :: is, w :: ws, ρ => putL is ws (ρ.set i (some w))
  | _, _, _ => none
def sPar (is : List Nat) (a : MA) : MS := fun ρ g => match a ρ g with
  | .ok ws g1 => match putL is ws ρ with
    | some ρ1 => .fl (.nx ρ1) g1
    | none => .bad
  | .ex x g1 => .ex x ρ g1
  | .bad => .bad
def sRaise (c : Str) : MS := fun ρ g => .ex ⟨c, none⟩ ρ g
def sBrk : MS := fun ρ g => .fl (.bk ρ) g
def sCnt : MS := fun ρ g => .fl (.ct ρ) g
def forGo (it : It) (tgt : MG) (body : MS) : Nat → Nat → Env → G → SR
  | 0, i, ρ, g => match itAt it i g with
    | .stop => .fl (.nx ρ) g
    | _ => .bad
  | fuel + 1, i, ρ, g => match itAt it i g with
    | .stop => .fl (.nx ρ) g
    | .bad => .bad
    | .go w g1 => match tgt w ρ g1 with
      | .ok ρ1 g2 => match body ρ1 g2 with
        | .fl (.nx ρ2) g3 => forGo it tgt body fuel (i + 1) ρ2 g3
        | .fl (.ct ρ2) g3 => forGo it tgt body fuel (i + 1) ρ2 g3
        | .fl (.bk ρ2) g3 => .fl (.nx ρ2) g3
        | r => r
      | _ => .bad
def sFor (mi : MI) (tgt : MG) (body : MS) : MS := fun ρ g => match mi ρ g with
  | .ok it g1 => forGo it tgt body (itLen it g1) 0 ρ g1
  | .ex x g1 => .ex x ρ g1
  | .bad => .bad
def whileGo (c : MT) (body : MS) : Nat → Env → G → SR
  | 0, _, _ => .bad
  | fuel + 1, ρ, g => match c ρ g with
    | .ok true g1 => match body ρ g1 with
      | .fl (.nx ρ2) g3 => whileGo c body fuel ρ2 g3
      | .fl (.ct ρ2) g3 => whileGo c body fuel ρ2 g3
      | .fl (.bk ρ2) g3 => .fl (.nx ρ2) g3
      | r => r
    | .ok false g1 => .fl (.nx ρ) g1
    | .ex x g1 => .ex x ρ g1
    | .bad => .bad
def sWhile (c : MT) (body : MS) : MS := whileGo c body (2 ^ 64)
/-! ### defs -/
def startM (n : Nat) (ws : List W) : Env := ws.map some ++ List.replicate (n - ws.length) none
def endS : SR → Res W
  | .fl (.nx _) g => .ok .non g
  | .fl (.rt w) g => .ok w g
  | .ex e _ g => .ex e g
  | _ => .bad
/-- a def: p parameters, n names -/
def mDef (p n : Nat) (body : MS) : Fn := fun ws g => if ws.length = p then endS (body (startM n ws) g) else .bad
end M
/-! MRel: how the small machine's values and heap stand in the hand layer's; what a reading by the small machine is. -/
namespace M
open PySem PySem.Spec PyProof.Rows L2

abbrev Frag := PySem.W.Frag
def Pre (ι ι' : List Addr) : Prop := ∃ t, ι' = ι ++ t
theorem Pre.refl (ι : List Addr) : Pre ι ι := ⟨[], by simp⟩
theorem Pre.trans {a b c : List Addr} (h : Pre a b) (h' : Pre b c) : Pre a c := by
  obtain ⟨t, rfl⟩ := h
  obtain ⟨u, rfl⟩ := h'
  exact ⟨t ++ u, by simp⟩
theorem Pre.snoc (ι : List Addr) (p : Addr) : Pre ι (ι ++ [p]) := ⟨[p], rfl⟩
theorem Pre.at_ {ι ι' : List Addr} (h : Pre ι ι') {n : Nat} {a : Addr} (e : ι[n]? = some a) : ι'[n]? = some a := by
  obtain ⟨t, rfl⟩ := h
  have hl : n < ι.length := (List.getElem?_eq_some_iff.mp e).1
  rw [List.getElem?_append_left hl]
  exact e
def RelW (K : Frag) (ι : List Addr) : W → V → Prop
  | .non, v => v = .non
  | .bl b, v => v = .bl b
  | .int i, v => v = .int i
  | .str x, v => v = .str x
  | .ref n, v => ∃ a, ι[n]? = some a ∧ v = .ref a
  | .glob x, v => v = .ref (He.ga K x)
  | .ty n, v => v = .ty n
theorem RelW.mono {K : Frag} {ι ι' : List Addr} {w : W} {v : V} (p : Pre ι ι') (h : RelW K ι w v) : RelW K ι' w v := by
  cases w with
  | ref n =>
    obtain ⟨a, e, hv⟩ := h
    exact ⟨a, p.at_ e, hv⟩
  | _ => exact h
abbrev RelL (K : Frag) (ι : List Addr) : List W → List V → Prop := Paired (RelW K ι)
theorem RelL.mono {K : Frag} {ι ι' : List Addr} (p : Pre ι ι') : ∀ {ws : List W} {vs : List V}, RelL K ι ws vs → RelL K ι' ws vs
  | _, _, .nil => .nil
  | _, _, .cons r t => .cons (r.mono p) (RelL.mono p t)
theorem RelL.length {K : Frag} {ι : List Addr} {ws : List W} {vs : List V} (r : RelL K ι ws vs) : ws.length = vs.length := Paired.length r
theorem RelL.append {K : Frag} {ι : List Addr} : ∀ {ws us : List W} {vs xs : List V}, RelL K ι ws vs → RelL K ι us xs → RelL K ι (ws ++ us) (vs ++ xs)
  | _, _, _, _, .nil, s => s
  | _, _, _, _, .cons r t, s => .cons r (RelL.append t s)
theorem RelL.get {K : Frag} {ι : List Addr} : ∀ {ws : List W} {vs : List V} {i : Nat} {w : W}, RelL K ι ws vs → ws[i]? = some w → ∃ v, vs[i]? = some v ∧ RelW K ι w v
  | _, _, _, _, .nil, e => by simp at e
  | _, _, 0, _, .cons r _, e => by
    simp at e
    subst e
    exact ⟨_, rfl, r⟩
  | _, _, i + 1, w, .cons _ t, e => by
    obtain ⟨v, h1, h2⟩ := RelL.get (i := i) (w := w) t (by simpa using e)
    exact ⟨v, by simpa using h1, h2⟩
theorem RelL.getV {K : Frag} {ι : List Addr} : ∀ {ws : List W} {vs : List V} {i : Nat} {v : V}, RelL K ι ws vs → vs[i]? = some v → ∃ w, ws[i]? = some w ∧ RelW K ι w v
  | _, _, _, _, .nil, e => by simp at e
  | _, _, 0, _, .cons r _, e => by
    simp at e
    subst e
    exact ⟨_, rfl, r⟩
  | _, _, i + 1, w, .cons _ t, e => by
    obtain ⟨v, h1, h2⟩ := RelL.getV (i := i) (v := w) t (by simpa using e)
    exact ⟨v, by simpa using h1, h2⟩
theorem RelL.set {K : Frag} {ι : List Addr} {w : W} {v : V} (r : RelW K ι w v) : ∀ {ws : List W} {vs : List V} (i : Nat), RelL K ι ws vs → RelL K ι (ws.set i w) (vs.set i v)
  | _, _, _, .nil => .nil
  | _, _, 0, .cons _ t => .cons r t
  | _, _, i + 1, .cons q t => .cons q (RelL.set r i t)
theorem RelL.take {K : Frag} {ι : List Addr} : ∀ {ws : List W} {vs : List V} (n : Nat), RelL K ι ws vs → RelL K ι (ws.take n) (vs.take n)
  | _, _, 0, _ => .nil
  | _, _, _ + 1, .nil => .nil
  | _, _, n + 1, .cons r t => .cons r (RelL.take n t)
theorem RelL.drop {K : Frag} {ι : List Addr} : ∀ {ws : List W} {vs : List V} (n : Nat), RelL K ι ws vs → RelL K ι (ws.drop n) (vs.drop n)
  | _, _, 0, r => r
  | _, _, _ + 1, .nil => .nil
  | _, _, n + 1, .cons _ t => RelL.drop n t
theorem RelL.erase {K : Frag} {ι : List Addr} : ∀ {ws : List W} {vs : List V} (i : Nat), RelL K ι ws vs → RelL K ι (ws.eraseIdx i) (vs.eraseIdx i)
  | _, _, _, .nil => .nil
  | _, _, 0, .cons _ t => t
  | _, _, i + 1, .cons r t => .cons r (RelL.erase i t)
theorem RelL.reverse {K : Frag} {ι : List Addr} : ∀ {ws : List W} {vs : List V}, RelL K ι ws vs → RelL K ι ws.reverse vs.reverse
  | _, _, .nil => .nil
  | _, _, .cons r t => by
    rw [List.reverse_cons, List.reverse_cons]
    exact (RelL.reverse t).append (.cons r .nil)
theorem RelL.rep {K : Frag} {ι : List Addr} {ws : List W} {vs : List V} (h : RelL K ι ws vs) : ∀ k : Nat, RelL K ι (List.replicate k ws).flatten (List.replicate k vs).flatten
  | 0 => .nil
  | k + 1 => by
    rw [List.replicate_succ, List.replicate_succ, List.flatten_cons, List.flatten_cons]
    exact h.append (RelL.rep h k)
/-- what stands at a -/
def RelO (K : Frag) (H : Hp) (ι : List Addr) : O → Addr → Prop
  | .lst ws, a => ∃ vs, RelL K ι ws vs ∧ H a = some (.lst vs)
  | .tup ws, a => ∃ vs, RelL K ι ws vs ∧ H a = some (.tup vs)
  | .fls ws, a => ∃ vs, RelL K ι ws vs ∧ ((∃ o, H a = some (.frz o (.lst vs))) ∨ ∀ H', SqL K H' a vs)
  | .dct kvs, a => ∃ vs : List (L2.Key × V), Paired (fun (p : M.Key × W) (q : L2.Key × V) => p.1 = q.1 ∧ RelW K ι p.2 q.2) kvs vs ∧ H a = some (.dK vs)
  | .ins c fs, a => ∃ dx, ∃ vs : List (PySem.Str × V), Paired (fun (p : M.Str × W) (q : PySem.Str × V) => p.1 = q.1 ∧ RelW K ι p.2 q.2) fs vs ∧ H a = some (.ins (He.ga K c) dx vs)
def trk : O → Bool
  | .fls _ => false
  | _ => true
structure RelG (K : Frag) (ι : List Addr) (g : G) (H : Hp) : Prop where
  len : ι.length = g.length
  at_ : ∀ (i : Nat) (o : O) (a : Addr), g[i]? = some o → ι[i]? = some a → RelO K H ι o a
  nd : ∀ (i j : Nat) (oi oj : O) (a : Addr), g[i]? = some oi → g[j]? = some oj → trk oi = true → trk oj = true → ι[i]? = some a → ι[j]? = some a → i = j
theorem Paired.mono2 {α β : Type} {F F' : α → β → Prop} : ∀ {l : List α} {m : List β}, Paired F l m → (∀ a b, F a b → F' a b) → Paired F' l m
  | _, _, .nil, _ => .nil
  | _, _, .cons r t, f => .cons (f _ _ r) (Paired.mono2 t f)
theorem RelO.mono {K : Frag} {H : Hp} {ι ι' : List Addr} {o : O} {a : Addr} (p : Pre ι ι') (h : RelO K H ι o a) : RelO K H ι' o a := by
  cases o with
  | lst ws =>
    obtain ⟨vs, r, e⟩ := h
    exact ⟨vs, r.mono p, e⟩
  | tup ws =>
    obtain ⟨vs, r, e⟩ := h
    exact ⟨vs, r.mono p, e⟩
  | fls ws =>
    obtain ⟨vs, r, e⟩ := h
    exact ⟨vs, r.mono p, e⟩
  | dct kvs =>
    obtain ⟨vs, r, e⟩ := h
    exact ⟨vs, Paired.mono2 r fun _ _ q => ⟨q.1, q.2.mono p⟩, e⟩
  | ins c fs =>
    obtain ⟨dx, vs, r, e⟩ := h
    exact ⟨dx, vs, Paired.mono2 r fun _ _ q => ⟨q.1, q.2.mono p⟩, e⟩
/-- what stands at a tracked place is of the heap -/
theorem relO_some {K : Frag} {H : Hp} {ι : List Addr} {o : O} {a : Addr} (h : RelO K H ι o a) (t : trk o = true) : ∃ u, H a = some u ∧ ∀ ob x, u ≠ .frz ob x := by
  cases o with
  | lst ws => obtain ⟨vs, r, e⟩ := h; exact ⟨_, e, fun _ _ z => nomatch z⟩
  | tup ws => obtain ⟨vs, r, e⟩ := h; exact ⟨_, e, fun _ _ z => nomatch z⟩
  | fls ws => cases t
  | dct kvs => obtain ⟨vs, r, e⟩ := h; exact ⟨_, e, fun _ _ z => nomatch z⟩
  | ins c fs => obtain ⟨dx, vs, r, e⟩ := h; exact ⟨_, e, fun _ _ z => nomatch z⟩
/-- another object is written -/
theorem relO_upd {K : Frag} {H : Hp} {ι : List Addr} {o : O} {a b : Addr} {u : HO} (h : RelO K H ι o a) (t : trk o = true → a ≠ b) (f : ∀ ob x, H b ≠ some (.frz ob x)) : RelO K (upd H b u) ι o a := by
  have k : ∀ {z : HO}, trk o = true → H a = some z → (L2.upd H b u) a = some z := fun ht e => by
    rw [upd_ne (t ht)]
    exact e
  cases o with
  | lst ws => obtain ⟨vs, r, e⟩ := h; exact ⟨vs, r, k rfl e⟩
  | tup ws => obtain ⟨vs, r, e⟩ := h; exact ⟨vs, r, k rfl e⟩
  | fls ws =>
    obtain ⟨vs, r, e⟩ := h
    refine ⟨vs, r, ?_⟩
    rcases e with ⟨ob, e⟩ | e
    · refine .inl ⟨ob, ?_⟩
      have ne : a ≠ b := fun z => by
        rw [z] at e
        exact f _ _ e
      rw [upd_ne ne]
      exact e
    · exact .inr e
  | dct kvs => obtain ⟨vs, r, e⟩ := h; exact ⟨vs, r, k rfl e⟩
  | ins c fs => obtain ⟨dx, vs, r, e⟩ := h; exact ⟨dx, vs, r, k rfl e⟩
section
variable {K : Frag} {ι : List Addr} {g : G} {H : Hp}
theorem RelG.addr (h : RelG K ι g H) {i : Nat} {o : O} (e : g[i]? = some o) : ∃ a, ι[i]? = some a := by
  have hl : i < g.length := (List.getElem?_eq_some_iff.mp e).1
  have hl2 : i < ι.length := by rw [h.len]; exact hl
  exact ⟨ι[i], List.getElem?_eq_getElem hl2⟩
/-- a new object -/
theorem RelG.new (h : RelG K ι g H) {o : O} {u : HO} {p : Addr} (hp : H p = none) (ht : trk o = true) (ho : RelO K (upd H p u) (ι ++ [p]) o p) : RelG K (ι ++ [p]) (g ++ [o]) (upd H p u) := by
  have hf : ∀ ob x, H p ≠ some (.frz ob x) := fun _ _ z => by rw [hp] at z; cases z
  have old : ∀ (i : Nat) (oi : O) (a : Addr), i < g.length → g[i]? = some oi → ι[i]? = some a → RelO K (upd H p u) (ι ++ [p]) oi a := fun i oi a _ e1 e2 => by
    have r := h.at_ i oi a e1 e2
    refine relO_upd (RelO.mono (Pre.snoc ι p) r) (fun t => ?_) hf
    obtain ⟨x, hx, _⟩ := relO_some r t
    intro z
    rw [z, hp] at hx
    cases hx
  refine ⟨by simp [h.len], fun i oi a e1 e2 => ?_, fun i j oi oj a e1 e2 t1 t2 e3 e4 => ?_⟩
  · by_cases hi : i < g.length
    · rw [List.getElem?_append_left hi] at e1
      rw [List.getElem?_append_left (by rw [h.len]; exact hi)] at e2
      exact old i oi a hi e1 e2
    · have hi2 : i = g.length := by
        have := (List.getElem?_eq_some_iff.mp e1).1
        simp at this
        omega
      subst hi2
      have q1 : o = oi := by simpa using e1
      have q2 : p = a := by
        rw [← h.len] at e2
        simpa using e2
      subst q1 q2
      exact ho
  · by_cases hi : i < g.length
    · rw [List.getElem?_append_left hi] at e1
      rw [List.getElem?_append_left (by rw [h.len]; exact hi)] at e3
      by_cases hj : j < g.length
      · rw [List.getElem?_append_left hj] at e2
        rw [List.getElem?_append_left (by rw [h.len]; exact hj)] at e4
        exact h.nd i j oi oj a e1 e2 t1 t2 e3 e4
      · have hj2 : j = g.length := by
          have := (List.getElem?_eq_some_iff.mp e2).1
          simp at this
          omega
        subst hj2
        have q2 : p = a := by
          rw [← h.len] at e4
          simpa using e4
        subst q2
        obtain ⟨x, hx, _⟩ := relO_some (h.at_ i oi p e1 e3) t1
        rw [hp] at hx
        cases hx
    · have hi2 : i = g.length := by
        have := (List.getElem?_eq_some_iff.mp e1).1
        simp at this
        omega
      subst hi2
      have q2 : p = a := by
        rw [← h.len] at e3
        simpa using e3
      subst q2
      by_cases hj : j < g.length
      · rw [List.getElem?_append_left hj] at e2
        rw [List.getElem?_append_left (by rw [h.len]; exact hj)] at e4
        obtain ⟨x, hx, _⟩ := relO_some (h.at_ j oj p e2 e4) t2
        rw [hp] at hx
        cases hx
      · have hj2 : j = g.length := by
          have := (List.getElem?_eq_some_iff.mp e2).1
          simp at this
          omega
        omega
theorem RelG.newAt (h : RelG K ι g H) (p : Addr) : (ι ++ [p])[g.length]? = some p := by
  rw [← h.len]
  simp
theorem RelG.newW (h : RelG K ι g H) (p : Addr) : RelW K (ι ++ [p]) (.ref g.length) (.ref p) := ⟨p, h.newAt p, rfl⟩
/-- an object is written -/
theorem RelG.put (h : RelG K ι g H) {o o' : O} {u : HO} {i : Nat} {p : Addr} (e : g[i]? = some o) (ep : ι[i]? = some p) (t : trk o = true) (t' : trk o' = true) (ho : RelO K (upd H p u) ι o' p) : RelG K ι (g.set i o') (upd H p u) := by
  obtain ⟨x, hx, nf⟩ := relO_some (h.at_ i o p e ep) t
  have hf : ∀ ob x, H p ≠ some (.frz ob x) := fun ob y z => by
    rw [hx] at z
    exact nf ob y (Option.some.inj z)
  have hl : i < g.length := (List.getElem?_eq_some_iff.mp e).1
  have back : ∀ (j : Nat) (oj : O), trk oj = true → (g.set i o')[j]? = some oj → ∃ oj', g[j]? = some oj' ∧ trk oj' = true := fun j oj tj ej => by
    by_cases hij : i = j
    · subst hij
      exact ⟨o, e, t⟩
    · rw [List.getElem?_set_ne hij] at ej
      exact ⟨oj, ej, tj⟩
  refine ⟨by simp [h.len], fun j oj a e1 e2 => ?_, fun j k oj ok a e1 e2 t1 t2 e3 e4 => ?_⟩
  · by_cases hij : i = j
    · subst hij
      rw [List.getElem?_set_self hl] at e1
      cases e1
      rw [ep] at e2
      cases e2
      exact ho
    · rw [List.getElem?_set_ne hij] at e1
      have r := h.at_ j oj a e1 e2
      refine relO_upd r (fun tj z => ?_) hf
      subst z
      exact hij (h.nd i j o oj _ e e1 t tj ep e2)
  · obtain ⟨oj', f1, s1⟩ := back j oj t1 e1
    obtain ⟨ok', f2, s2⟩ := back k ok t2 e2
    exact h.nd j k oj' ok' a f1 f2 s1 s2 e3 e4
theorem RelG.newL (h : RelG K ι g H) {ws : List W} {vs : List V} {p : Addr} (hp : H p = none) (r : RelL K ι ws vs) : RelG K (ι ++ [p]) (g ++ [.lst ws]) (upd H p (.lst vs)) := h.new hp rfl ⟨vs, r.mono (Pre.snoc _ _), upd_same⟩
theorem RelG.putL (h : RelG K ι g H) {ws us : List W} {vs : List V} {i : Nat} {p : Addr} (e : g[i]? = some (.lst us)) (ep : ι[i]? = some p) (r : RelL K ι ws vs) : RelG K ι (g.set i (.lst ws)) (upd H p (.lst vs)) := h.put e ep rfl rfl ⟨vs, r, upd_same⟩
theorem RelG.lst (h : RelG K ι g H) {i : Nat} {ws : List W} {a : Addr} (e : g[i]? = some (.lst ws)) (ea : ι[i]? = some a) : ∃ vs, RelL K ι ws vs ∧ H a = some (.lst vs) := h.at_ i _ a e ea
theorem RelG.tup (h : RelG K ι g H) {i : Nat} {ws : List W} {a : Addr} (e : g[i]? = some (.tup ws)) (ea : ι[i]? = some a) : ∃ vs, RelL K ι ws vs ∧ H a = some (.tup vs) := h.at_ i _ a e ea
theorem RelG.lstAt (h : RelG K ι g H) {i : Nat} {ws : List W} {a : Addr} (e : lstAt g i = some ws) (ea : ι[i]? = some a) : ∃ vs, RelL K ι ws vs ∧ SqL K H a vs := by
  unfold M.lstAt at e
  split at e
  · rename_i us q
    cases e
    obtain ⟨vs, r, z⟩ := h.lst q ea
    exact ⟨vs, r, .inl (.inl z)⟩
  · rename_i us q
    cases e
    obtain ⟨vs, r, z⟩ := h.at_ i _ a q ea
    refine ⟨vs, r, ?_⟩
    rcases z with ⟨o, z⟩ | z
    · exact .inl (.inr ⟨o, z⟩)
    · exact z H
  · cases e
theorem RelG.tupAt (h : RelG K ι g H) {i : Nat} {ws : List W} {a : Addr} (e : tupAt g i = some ws) (ea : ι[i]? = some a) : ∃ vs, RelL K ι ws vs ∧ SqT K H a vs := by
  unfold M.tupAt at e
  split at e
  · rename_i us q
    cases e
    obtain ⟨vs, r, z⟩ := h.tup q ea
    exact ⟨vs, r, .inl (.inl z)⟩
  · cases e
theorem RelG.seqAt (h : RelG K ι g H) {i : Nat} {ws : List W} {a : Addr} (e : seqAt g i = some ws) (ea : ι[i]? = some a) : ∃ vs, RelL K ι ws vs ∧ (SqL K H a vs ∨ SqT K H a vs) := by
  unfold M.seqAt at e
  split at e
  · rename_i us q
    cases e
    obtain ⟨vs, r, z⟩ := h.lst q ea
    exact ⟨vs, r, .inl (.inl (.inl z))⟩
  · rename_i us q
    cases e
    obtain ⟨vs, r, z⟩ := h.lstAt (i := i) (ws := ws) (by unfold M.lstAt; rw [q]) ea
    exact ⟨vs, r, .inl z⟩
  · rename_i us q
    cases e
    obtain ⟨vs, r, z⟩ := h.tup q ea
    exact ⟨vs, r, .inr (.inl (.inl z))⟩
  · cases e
end
/-! ### frames -/
structure RelS (K : Frag) (ι : List Addr) (ρ : Env) (σ : L2.St) : Prop where
  len : ρ.length = σ.length
  at_ : ∀ (i : Nat) (w : W), ρ[i]? = some (some w) → ∃ v, σ[i]? = some (some v) ∧ RelW K ι w v
theorem RelS.mono {K : Frag} {ι ι' : List Addr} {ρ : Env} {σ : L2.St} (p : Pre ι ι') (h : RelS K ι ρ σ) : RelS K ι' ρ σ := ⟨h.len, fun i w e => by
  obtain ⟨v, e1, r⟩ := h.at_ i w e
  exact ⟨v, e1, r.mono p⟩⟩
theorem RelS.put {K : Frag} {ι : List Addr} {ρ : Env} {σ : L2.St} (h : RelS K ι ρ σ) (i : Nat) {w : W} {v : V} (r : RelW K ι w v) : RelS K ι (ρ.set i (some w)) (σ.set i (some v)) := ⟨by simp [h.len], fun j w' e => by
  by_cases hij : i = j
  · subst hij
    have hl : i < ρ.length := by
      have := (List.getElem?_eq_some_iff.mp e).1
      simpa using this
    rw [List.getElem?_set_self hl] at e
    cases e
    exact ⟨v, List.getElem?_set_self (by rw [← h.len]; exact hl), r⟩
  · rw [List.getElem?_set_ne hij] at e
    rw [List.getElem?_set_ne hij]
    exact h.at_ j w' e⟩
theorem RelS.drop1 {K : Frag} {ι : List Addr} {ρ : Env} {σ : L2.St} (h : RelS K ι ρ σ) (i : Nat) : RelS K ι (ρ.set i none) (σ.set i none) := ⟨by simp [h.len], fun j w' e => by
  by_cases hij : i = j
  · subst hij
    have hl : i < ρ.length := by
      have := (List.getElem?_eq_some_iff.mp e).1
      simpa using this
    rw [List.getElem?_set_self hl] at e
    cases e
  · rw [List.getElem?_set_ne hij] at e
    rw [List.getElem?_set_ne hij]
    exact h.at_ j w' e⟩
theorem RelS.wipe {K : Frag} {ι : List Addr} {ρ : Env} {σ : L2.St} (h : RelS K ι ρ σ) : ∀ vs : List Nat, RelS K ι (wipe ρ vs) (L2.wipe σ vs)
  | [] => h
  | v :: vs => (RelS.wipe h vs).drop1 v
/-! ### what is wanted behind -/
/-- an exception: its class, its own dict -/
def ExR (K : Frag) (ι : List Addr) (e : Ex) (c : Value) (d : Option Addr) (H : Hp) : Prop := c = .ref (He.ga K e.cls) ∧ match e.fld with
  | none => d = none
  | some (f, w) => ∃ dd v, d = some dd ∧ H dd = some (.xd [(f, v)]) ∧ RelW K ι w v
abbrev XW := Value → Option Addr → Hp → Prop
def Aft (K : Frag) (ι : List Addr) (Wx : XW) {α β : Type} (Rl : List Addr → α → β → Prop) (r : Res α) (Q : β → Hp → Prop) : Prop := match r with
  | .ok w g' => ∀ ι' v H', Pre ι ι' → Rl ι' w v → RelG K ι' g' H' → Q v H'
  | .ex e g' => ∀ ι' c d H', Pre ι ι' → ExR K ι' e c d H' → RelG K ι' g' H' → Wx c d H'
  | .bad => False
section
variable {K : Frag} {ι ι' : List Addr} {Wx : XW} {α β γ δ : Type} {Rl : List Addr → α → β → Prop} {Rl' : List Addr → γ → δ → Prop} {r : Res α} {Q Q' : β → Hp → Prop}
theorem Aft.pre (p : Pre ι ι') (h : Aft K ι Wx Rl r Q) : Aft K ι' Wx Rl r Q := by
  cases r with
  | ok w g => exact fun κ v H q => h κ v H (p.trans q)
  | ex e g => exact fun κ c d H q => h κ c d H (p.trans q)
  | bad => exact h
theorem Aft.mono (h : Aft K ι Wx Rl r Q) (hq : ∀ v H, Q v H → Q' v H) : Aft K ι Wx Rl r Q' := by
  cases r with
  | ok w g => exact fun κ v H q a b => hq v H (h κ v H q a b)
  | ex e g => exact h
  | bad => exact h
/-- a thing and the heap have come, and so it goes on -/
def Nxt (K : Frag) (ι : List Addr) (Wx : XW) (Rl : List Addr → α → β → Prop) (Rl' : List Addr → γ → δ → Prop) (f : α → G → Res γ) (Q : δ → Hp → Prop) (x : β) (H : Hp) : Prop :=
  ∃ ι1 w g1, Pre ι ι1 ∧ Rl ι1 w x ∧ RelG K ι1 g1 H ∧ Aft K ι1 Wx Rl' (f w g1) Q
theorem Aft.of_bind {f : α → G → Res γ} {Q : δ → Hp → Prop} (h : Aft K ι Wx Rl' (r.bind f) Q) : Aft K ι Wx Rl r (Nxt K ι Wx Rl Rl' f Q) := by
  cases r with
  | ok w g => exact fun κ v H p a b => ⟨κ, w, g, p, a, b, Aft.pre p h⟩
  | ex e g => exact h
  | bad => exact h
end
/-! ### readings by the small machine -/
def tM (K : Frag) (Wx : WX) (m : ME) : TE := fun σ H Q => ∃ ι ρ g, RelS K ι ρ σ ∧ RelG K ι g H ∧ Aft K ι (fun c d H => Wx c d σ H) (RelW K) (m ρ g) Q
abbrev rEqv {α : Type} : List Addr → α → α → Prop := fun _ a b => a = b
def tMt (K : Frag) (Wx : WX) (m : MT) : TT := fun σ H Q => ∃ ι ρ g, RelS K ι ρ σ ∧ RelG K ι g H ∧ Aft K ι (fun c d H => Wx c d σ H) rEqv (m ρ g) Q
def tMa (K : Frag) (Wx : WX) (m : MA) : TA := fun σ H Q => ∃ ι ρ g, RelS K ι ρ σ ∧ RelG K ι g H ∧ Aft K ι (fun c d H => Wx c d σ H) (RelL K) (m ρ g) Q
def tMo (K : Frag) (Wx : WX) (m : MO) : TO := fun σ H Q => ∃ ι ρ g, RelS K ι ρ σ ∧ RelG K ι g H ∧ Aft K ι (fun c d H => Wx c d σ H) rEqv (m ρ g) Q
def AftS (K : Frag) (ι : List Addr) (Wx : WX) (r : SR) (D : Ends) : Prop := match r with
  | .fl (.nx ρ) g => ∀ ι' σ H, Pre ι ι' → RelS K ι' ρ σ → RelG K ι' g H → D.nx σ H
  | .fl (.rt w) g => ∀ ι' v H, Pre ι ι' → RelW K ι' w v → RelG K ι' g H → D.rt v H
  | .fl (.bk ρ) g => ∀ ι' σ H, Pre ι ι' → RelS K ι' ρ σ → RelG K ι' g H → D.bk σ H
  | .fl (.ct ρ) g => ∀ ι' σ H, Pre ι ι' → RelS K ι' ρ σ → RelG K ι' g H → D.ct σ H
  | .ex e ρ g => ∀ ι' σ c d H, Pre ι ι' → RelS K ι' ρ σ → ExR K ι' e c d H → RelG K ι' g H → Wx c d σ H
  | .bad => False
def tMs (K : Frag) (Wx : WX) (m : MS) : TS := fun D σ H => ∃ ι ρ g, RelS K ι ρ σ ∧ RelG K ι g H ∧ AftS K ι Wx (m ρ g) D
/-- a target's reading (targets raise nothing) -/
def tMg (K : Frag) (t : MG) : TG := fun v σ H Q => ∃ ι w ρ g, RelW K ι w v ∧ RelS K ι ρ σ ∧ RelG K ι g H ∧ Aft K ι (fun _ _ _ => False) (RelS K) (t w ρ g) Q
theorem AftS.pre {K : Frag} {ι ι' : List Addr} {Wx : WX} {r : SR} {D : Ends} (p : Pre ι ι') (h : AftS K ι Wx r D) : AftS K ι' Wx r D := by
  cases r with
  | fl f g => cases f with
    | nx ρ => exact fun κ σ H q => h κ σ H (p.trans q)
    | rt w => exact fun κ σ H q => h κ σ H (p.trans q)
    | bk ρ => exact fun κ σ H q => h κ σ H (p.trans q)
    | ct ρ => exact fun κ σ H q => h κ σ H (p.trans q)
  | ex e ρ g => exact fun κ σ c d H q => h κ σ c d H (p.trans q)
  | bad => exact h
end M
/-! MRules: each construct read by the small machine. -/
namespace M
open PySem PySem.Spec PyProof.Rows L2
theorem pe_imp {X : Cx} {e : Expr} {t t' : TE} (h : PE X e t) (i : ∀ σ H Q, t' σ H Q → t σ H Q) : PE X e t' := ⟨fun pins s σ H Q I q => h.run pins s σ H Q I (i σ H Q q)⟩
theorem pt_imp {X : Cx} {e : Expr} {t t' : TT} (h : PT X e t) (i : ∀ σ H Q, t' σ H Q → t σ H Q) : PT X e t' := ⟨fun pins s σ H Q I q => h.run pins s σ H Q I (i σ H Q q)⟩
theorem pw_imp {X : Cx} {e : Expr} {t t' : TT} (h : PW X e t) (i : ∀ σ H Q, t' σ H Q → t σ H Q) : PW X e t' := ⟨fun wh pins s σ H Q I q => h.run wh pins s σ H Q I (i σ H Q q)⟩
theorem pa_imp {X : Cx} {e : List Expr} {t t' : TA} (h : PA X e t) (i : ∀ σ H Q, t' σ H Q → t σ H Q) : PA X e t' := ⟨fun pos pins s σ H Q I q => h.run pos pins s σ H Q I (i σ H Q q)⟩
theorem po_imp {X : Cx} {e : Option Expr} {t t' : TO} (h : PO X e t) (i : ∀ σ H Q, t' σ H Q → t σ H Q) : PO X e t' := ⟨fun pins s σ H Q I q => h.run pins s σ H Q I (i σ H Q q)⟩
theorem pk_imp {X : Cx} {e : List Keyword} {t t' : TA} (h : PK X e t) (i : ∀ σ H Q, t' σ H Q → t σ H Q) : PK X e t' := ⟨fun pos pins s σ H Q I q => h.run pos pins s σ H Q I (i σ H Q q)⟩
theorem ps_imp {X : Cx} {e : Stmt} {t t' : TS} (h : PS X e t) (i : ∀ D σ H, t' D σ H → t D σ H) : PS X e t' := ⟨fun pins s σ H D I q => h.run pins s σ H D I (i D σ H q)⟩
theorem pss_imp {X : Cx} {e : List Stmt} {t t' : TS} (h : PSs X e t) (i : ∀ D σ H, t' D σ H → t D σ H) : PSs X e t' := ⟨fun pins s σ H D I q => h.run pins s σ H D I (i D σ H q)⟩
theorem pg_imp {X : Cx} {e : Expr} {t t' : TG} (h : PG X e t) (i : ∀ v σ H Q, t' v σ H Q → t v σ H Q) : PG X e t' := ⟨fun pins s σ H v u Q I r q => h.run pins s σ H v u Q I r (i v σ H Q q)⟩
section
variable {X : Cx} {Wx : WX} {pos : Pos} {a b c e : Expr} {ma mb mc m : ME} {es : List Expr} {mas mks : MA}

/-! ### names, constants -/
theorem m_var (i : Nat) {x : PySem.Str} (hN : X.N[i]? = some x := by rfl) (hv : Vis X.env.scope x := by first | exact Or.inl rfl | exact Or.inr (Or.inl rfl) | exact Or.inr (Or.inr rfl)) (hd : (x == ("__debug__" : PySem.Str)) = false := by decide)
    (hcd : (x == ("__classdict__" : PySem.Str)) = false := by decide) : PE X (.Name x pos) (tM X.K Wx (mVar i)) := pe_imp (pe_var hN hv hd hcd) fun σ H Q ⟨ι, ρ, g, hs, hg, h⟩ => by
  unfold mVar at h
  split at h
  · rename_i w q
    obtain ⟨v, e1, r⟩ := hs.at_ i w q
    exact ⟨v, e1, h ι v H (Pre.refl ι) r hg⟩
  · exact h.elim
theorem m_con {w : W} {v : V} (h : PE X e (tC v)) (r : ∀ ι, RelW X.K ι w v) : PE X e (tM X.K Wx (mC w)) := pe_imp h fun σ H Q ⟨ι, ρ, g, hs, hg, h⟩ => h ι v H (Pre.refl ι) (r ι) hg
theorem m_int {i : Int} {j : Nat} : PE X (.Constant (.int i) j pos) (tM X.K Wx (mC (.int i))) := m_con pe_int fun _ => rfl
theorem m_bl {i : Bool} {j : Nat} : PE X (.Constant (.bool i) j pos) (tM X.K Wx (mC (.bl i))) := m_con pe_bl fun _ => rfl
theorem m_non {j : Nat} : PE X (.Constant .none j pos) (tM X.K Wx (mC .non)) := m_con pe_non fun _ => rfl
theorem m_str {x : PySem.Str} {j : Nat} : PE X (.Constant (.str x) j pos) (tM X.K Wx (mC (.str x))) := m_con pe_str fun _ => rfl
/-- a def, a class of the module -/
theorem m_glob {x : PySem.Str} (hm : X.mg x = some (.ref (He.ga X.K x))) (hg : Gl X x := by rfl) (hd : (x == ("__debug__" : PySem.Str)) = false := by decide) : PE X (.Name x pos) (tM X.K Wx (mC (.glob x))) := m_con (pe_glob (v := .ref (He.ga X.K x)) hg hm rfl hd) fun _ => rfl
theorem m_gint {x : PySem.Str} {i : Int} (hm : ∃ t, X.mg x = some (.int i t)) (hg : Gl X x := by rfl) (hd : (x == ("__debug__" : PySem.Str)) = false := by decide) : PE X (.Name x pos) (tM X.K Wx (mC (.int i))) := by
  obtain ⟨t, hm⟩ := hm
  exact m_con (pe_glob (v := .int i) hg hm ⟨t, rfl⟩ hd) fun _ => rfl
theorem m_ty {x : PySem.Str} {n : String} (hm : X.mg x = none) (hv : bootBuiltins x = some (.type n)) (hg : Gl X x := by rfl) (hn : x ≠ "__name__" := by decide) (hd : (x == ("__debug__" : PySem.Str)) = false := by decide) : PE X (.Name x pos) (tM X.K Wx (mC (.ty n))) :=
  m_con (pe_bltn (v := .ty n) hg hm hv rfl hn hd) fun _ => rfl
/-! ### operators by values -/
def rM1 (K : Frag) (f : W → G → Res W) : V → Hp → VK → Prop := fun x H Q => ∃ (Wx : XW) (ι : List Addr) (wx : W) (g : G), RelW K ι wx x ∧ RelG K ι g H ∧ Aft K ι Wx (RelW K) (f wx g) Q
def rM2 (K : Frag) (f : W → W → G → Res W) : R2 := fun x y H Q => ∃ (Wx : XW) (ι : List Addr) (wx wy : W) (g : G), RelW K ι wx x ∧ RelW K ι wy y ∧ RelG K ι g H ∧ Aft K ι Wx (RelW K) (f wx wy g) Q
def rMc (K : Frag) (f : Fn) : List V → Hp → VK → Prop := fun xs H Q => ∃ (Wx : XW) (ι : List Addr) (ws : List W) (g : G), RelL K ι ws xs ∧ RelG K ι g H ∧ Aft K ι Wx (RelW K) (f ws g) Q
def rMm (K : Frag) (f : W → List W → G → Res W) : V → List V → Hp → VK → Prop := fun x xs H Q => ∃ (Wx : XW) (ι : List Addr) (w : W) (ws : List W) (g : G), RelW K ι w x ∧ RelL K ι ws xs ∧ RelG K ι g H ∧ Aft K ι Wx (RelW K) (f w ws g) Q
/-- one part, then the rest -/
theorem go1 {K : Frag} {α β : Type} {Rl : List Addr → α → β → Prop} {f : W → G → Res α} {σ : L2.St} {H : Hp} {Q : β → Hp → Prop} {ι : List Addr} {ρ : Env} {g : G} (hs : RelS K ι ρ σ) (hg : RelG K ι g H)
    (h : Aft K ι (fun c d H => Wx c d σ H) Rl ((ma ρ g).bind f) Q) : tM K Wx ma σ H (Nxt K ι (fun c d H => Wx c d σ H) (RelW K) Rl f Q) := ⟨ι, ρ, g, hs, hg, h.of_bind⟩
theorem tM_mono {K : Frag} {σ : L2.St} {H : Hp} {Q Q' : VK} (h : tM K Wx m σ H Q) (q : ∀ v H, Q v H → Q' v H) : tM K Wx m σ H Q' := by
  obtain ⟨ι, ρ, g, hs, hg, h⟩ := h
  exact ⟨ι, ρ, g, hs, hg, h.mono q⟩
theorem tMt_mono {K : Frag} {m : MT} {σ : L2.St} {H : Hp} {Q Q' : Bool → Hp → Prop} (h : tMt K Wx m σ H Q) (q : ∀ v H, Q v H → Q' v H) : tMt K Wx m σ H Q' := by
  obtain ⟨ι, ρ, g, hs, hg, h⟩ := h
  exact ⟨ι, ρ, g, hs, hg, h.mono q⟩
theorem tMa_mono {K : Frag} {m : MA} {σ : L2.St} {H : Hp} {Q Q' : List V → Hp → Prop} (h : tMa K Wx m σ H Q) (q : ∀ v H, Q v H → Q' v H) : tMa K Wx m σ H Q' := by
  obtain ⟨ι, ρ, g, hs, hg, h⟩ := h
  exact ⟨ι, ρ, g, hs, hg, h.mono q⟩
theorem op2_imp {K : Frag} {f : W → W → G → Res W} {σ : L2.St} {H : Hp} {Q : VK} (h : tM K Wx (mOp2 f ma mb) σ H Q) : tOp (rM2 K f) (tM K Wx ma) (tM K Wx mb) σ H Q := by
  obtain ⟨ι, ρ, g, hs, hg, h⟩ := h
  refine tM_mono (go1 hs hg h) fun x H1 ⟨ι1, w1, g1, p1, r1, hg1, h1⟩ => ?_
  refine tM_mono (go1 (hs.mono p1) hg1 h1) fun y H2 ⟨ι2, w2, g2, p2, r2, hg2, h2⟩ => ?_
  exact ⟨_, ι2, w1, w2, g2, r1.mono p2, r2, hg2, h2⟩
theorem op1_imp {K : Frag} {f : W → G → Res W} {σ : L2.St} {H : Hp} {Q : VK} (h : tM K Wx (mOp1 f ma) σ H Q) : tM K Wx ma σ H fun x H1 => rM1 K f x H1 Q := by
  obtain ⟨ι, ρ, g, hs, hg, h⟩ := h
  exact tM_mono (go1 hs hg h) fun x H1 ⟨ι1, w1, g1, p1, r1, hg1, h1⟩ => ⟨_, ι1, w1, g1, r1, hg1, h1⟩
theorem m_bin {op : Operator} {f : W → W → G → Res W} (ho : OpR X (binaryOp op) (rM2 X.K f)) (ha : PE X a (tM X.K Wx ma)) (hb : PE X b (tM X.K Wx mb)) : PE X (.BinOp a op b pos) (tM X.K Wx (mOp2 f ma mb)) := pe_imp (pe_op ho ha hb) fun _ _ _ h => op2_imp h
theorem m_cmp {op : CmpOp} {f : W → W → G → Res W} (ho : OpR X (compareOp op) (rM2 X.K f)) (ha : PE X a (tM X.K Wx ma)) (hb : PE X b (tM X.K Wx mb)) (hm : behindInMarks op b = false := by first | exact nomark _ | rfl) : PE X (.Compare a [op] [b] pos) (tM X.K Wx (mOp2 f ma mb)) :=
  pe_imp (pe_cmpR ho ha hb hm) fun _ _ _ h => op2_imp h
theorem m_un {op : UnaryOp} {f : W → G → Res W} (ho : UnR X (unaryOp op) (rM1 X.K f)) (ha : PE X a (tM X.K Wx ma)) : PE X (.UnaryOp op a pos) (tM X.K Wx (mOp1 f ma)) := pe_imp (pe_un ho ha) fun _ _ _ h => op1_imp h
theorem relW_non {K : Frag} {ι : List Addr} {w : W} {v : V} (r : RelW K ι w v) : decide (w = .non) = decide (v = .non) := by
  cases w with
  | non => subst r; rfl
  | bl b => subst r; rfl
  | int i => subst r; rfl
  | str x => subst r; rfl
  | ref n => obtain ⟨a, _, rfl⟩ := r; rfl
  | glob x => subst r; rfl
  | ty n => subst r; rfl
theorem m_isN {j : Nat} {p : Pos} (ha : PE X a (tM X.K Wx ma)) : PE X (.Compare a [.Is] [.Constant .none j p] pos) (tM X.K Wx (mOp1 opIsN ma)) := pe_imp (pe_cmp (pc_isN ha) rfl) fun σ H Q h => by
  obtain ⟨ι, ρ, g, hs, hg, h⟩ := h
  refine tM_mono (go1 hs hg h) fun x H1 ⟨ι1, w1, g1, p1, r1, hg1, h1⟩ => ?_
  exact h1 ι1 _ H1 (Pre.refl _) (congrArg V.bl (relW_non r1).symm) hg1
theorem m_notN {j : Nat} {p : Pos} (ha : PE X a (tM X.K Wx ma)) : PE X (.Compare a [.IsNot] [.Constant .none j p] pos) (tM X.K Wx (mOp1 opNotN ma)) := pe_imp (pe_cmp (pc_notN ha) rfl) fun σ H Q h => by
  obtain ⟨ι, ρ, g, hs, hg, h⟩ := h
  refine tM_mono (go1 hs hg h) fun x H1 ⟨ι1, w1, g1, p1, r1, hg1, h1⟩ => ?_
  exact h1 ι1 _ H1 (Pre.refl _) (congrArg V.bl (congrArg (fun b => !b) (relW_non r1).symm)) hg1
theorem m_chain {op op' : CmpOp} {f f' : W → W → G → Res W} (ho : OpR X (compareOp op) (rM2 X.K f)) (ho' : OpR X (compareOp op') (rM2 X.K f')) (ha : PE X a (tM X.K Wx ma)) (hb : PE X b (tM X.K Wx mb)) (hc : PE X c (tM X.K Wx mc))
    (hm : lastMarks [op, op'] [b, c] = false := by with_unfolding_all rfl) : PE X (.Compare a [op, op'] [b, c] pos) (tM X.K Wx (mChain f f' ma mb mc)) := pe_imp (pe_chain ho ho' ha hb hc hm) fun σ H Q h => by
  obtain ⟨ι, ρ, g, hs, hg, h⟩ := h
  refine tM_mono (go1 hs hg h) fun x H1 ⟨ι1, w1, g1, p1, r1, hg1, h1⟩ => ?_
  refine tM_mono (go1 (hs.mono p1) hg1 h1) fun y H2 ⟨ι2, w2, g2, p2, r2, hg2, h2⟩ => ?_
  refine ⟨_, ι2, w1, w2, g2, r1.mono p2, r2, hg2, (Aft.of_bind h2).mono fun z H3 ⟨ι3, w3, g3, p3, r3, hg3, h3⟩ => ?_⟩
  cases w3 with
  | bl k =>
    subst r3
    refine ⟨k, rfl, ?_⟩
    cases k with
    | true =>
      rw [if_pos rfl]
      refine tM_mono (go1 (hs.mono ((p1.trans p2).trans p3)) hg3 h3) fun y H4 ⟨ι4, w4, g4, p4, r4, hg4, h4⟩ => ?_
      exact ⟨_, ι4, w2, w4, g4, r2.mono (p3.trans p4), r4, hg4, h4⟩
    | false =>
      rw [if_neg Bool.false_ne_true]
      exact h3 ι3 _ H3 (Pre.refl _) rfl hg3
  | _ => exact h3.elim
/-! ### tests -/
theorem m_tVal (ha : PE X a (tM X.K Wx ma)) (he : ∀ whole, isTrue a X.env whole = (do let v ← whole; standAt a.pos; holding [v] (truthy v)) := by intro _; rfl) : PT X a (tMt X.K Wx (tVal ma)) := pt_imp (pt_val ha he) fun σ H Q h => by
  obtain ⟨ι, ρ, g, hs, hg, h⟩ := h
  refine tM_mono (go1 hs hg h) fun x H1 ⟨ι1, w1, g1, p1, r1, hg1, h1⟩ => ?_
  cases w1 with
  | bl k =>
    subst r1
    exact ⟨k, rfl, h1 ι1 _ H1 (Pre.refl _) rfl hg1⟩
  | _ => exact h1.elim
/-- a comparison as a test -/
theorem m_tCmp {op : CmpOp} {f : W → W → G → Res W} (ho : OpR X (compareOp op) (rM2 X.K f)) (ha : PE X a (tM X.K Wx ma)) (hb : PE X b (tM X.K Wx mb)) (hm : behindInMarks op b = false := by first | exact nomark _ | rfl) : PT X (.Compare a [op] [b] pos) (tMt X.K Wx (tVal (mOp2 f ma mb))) :=
  pt_imp (pt_cmpR ho ha hb hm) fun σ H Q h => by
    obtain ⟨ι, ρ, g, hs, hg, h⟩ := h
    refine op2_imp (tM_mono (go1 hs hg h) fun x H1 ⟨ι1, w1, g1, p1, r1, hg1, h1⟩ => ?_)
    cases w1 with
    | bl k =>
      subst r1
      exact ⟨k, rfl, h1 ι1 _ H1 (Pre.refl _) rfl hg1⟩
    | _ => exact h1.elim
theorem m_tChain {op op' : CmpOp} {f f' : W → W → G → Res W} (ho : OpR X (compareOp op) (rM2 X.K f)) (ho' : OpR X (compareOp op') (rM2 X.K f')) (ha : PE X a (tM X.K Wx ma)) (hb : PE X b (tM X.K Wx mb)) (hc : PE X c (tM X.K Wx mc))
    (hm : lastMarks [op, op'] [b, c] = false := by with_unfolding_all rfl) : PT X (.Compare a [op, op'] [b, c] pos) (tMt X.K Wx (tVal (mChain f f' ma mb mc))) := pt_imp (pt_chain ho ho' ha hb hc hm) fun σ H Q h => by
  obtain ⟨ι, ρ, g, hs, hg, h⟩ := h
  have h := tM_mono (go1 (Wx := Wx) hs hg h) (fun x H1 q => q)
  obtain ⟨ι, ρ, g, hs, hg, h⟩ := h
  refine tM_mono (go1 hs hg h) fun x H1 ⟨ι1, w1, g1, p1, r1, hg1, h1⟩ => ?_
  refine tM_mono (go1 (hs.mono p1) hg1 h1) fun y H2 ⟨ι2, w2, g2, p2, r2, hg2, h2⟩ => ?_
  refine ⟨_, ι2, w1, w2, g2, r1.mono p2, r2, hg2, (Aft.of_bind h2).mono fun z H3 ⟨ι3, w3, g3, p3, r3, hg3, h3⟩ => ?_⟩
  have fin : ∀ (w : W) (v : V) (H' : Hp) (κ : List Addr) (g' : G), RelW X.K κ w v → RelG X.K κ g' H' → Nxt X.K ‹_› (fun c d H => Wx c d σ H) (RelW X.K) rEqv (fun x g1 => match x with
      | .bl b => .ok b g1
      | _ => .bad) Q v H' → ∃ k, v = .bl k ∧ Q k H' := fun w v H' κ g' r hg' ⟨ι5, w5, g5, p5, r5, hg5, h5⟩ => by
    cases w5 with
    | bl k =>
      subst r5
      exact ⟨k, rfl, h5 ι5 _ H' (Pre.refl _) rfl hg5⟩
    | _ => exact h5.elim
  cases w3 with
  | bl k =>
    subst r3
    refine ⟨k, rfl, ?_⟩
    cases k with
    | true =>
      rw [if_pos rfl]
      refine tM_mono (go1 (hs.mono ((p1.trans p2).trans p3)) hg3 h3) fun y H4 ⟨ι4, w4, g4, p4, r4, hg4, h4⟩ => ?_
      refine ⟨_, ι4, w2, w4, g4, r2.mono (p3.trans p4), r4, hg4, h4.mono fun v H' q => ?_⟩
      obtain ⟨ι5, w5, g5, p5, r5, hg5, h5⟩ := q
      cases w5 with
      | bl k =>
        subst r5
        exact ⟨k, rfl, h5 ι5 _ H' (Pre.refl _) rfl hg5⟩
      | _ => exact h5.elim
    | false =>
      rw [if_neg Bool.false_ne_true]
      obtain ⟨ι5, w5, g5, p5, r5, hg5, h5⟩ := h3 ι3 _ H3 (Pre.refl _) rfl hg3
      cases w5 with
      | bl k =>
        have e : V.bl false = V.bl k := r5
        cases e
        exact ⟨false, rfl, h5 ι5 _ H3 (Pre.refl _) rfl hg5⟩
      | _ => exact h5.elim
  | _ => exact h3.elim
theorem goT {K : Frag} {α β : Type} {Rl : List Addr → α → β → Prop} {f : Bool → G → Res α} {t : MT} {σ : L2.St} {H : Hp} {Q : β → Hp → Prop} {ι : List Addr} {ρ : Env} {g : G} (hs : RelS K ι ρ σ) (hg : RelG K ι g H)
    (h : Aft K ι (fun c d H => Wx c d σ H) Rl ((t ρ g).bind f) Q) : tMt K Wx t σ H (Nxt K ι (fun c d H => Wx c d σ H) rEqv Rl f Q) := ⟨ι, ρ, g, hs, hg, h.of_bind⟩
variable {ta tb : MT} {rest : List Expr}
theorem m_tNot (ha : PT X a (tMt X.K Wx ta)) : PT X (.UnaryOp .Not a pos) (tMt X.K Wx (tNot ta)) := pt_imp (pt_not ha) fun σ H Q h => by
  obtain ⟨ι, ρ, g, hs, hg, h⟩ := h
  refine tMt_mono (goT hs hg h) fun x H1 ⟨ι1, w1, g1, p1, r1, hg1, h1⟩ => ?_
  subst r1
  exact h1 ι1 _ H1 (Pre.refl _) rfl hg1
theorem m_and1 (ha : PT X a (tMt X.K Wx ta)) : PW X (.BoolOp .And [a] pos) (tMt X.K Wx ta) := pw_and1 ha
theorem m_or1 (ha : PT X a (tMt X.K Wx ta)) : PW X (.BoolOp .Or [a] pos) (tMt X.K Wx ta) := pw_or1 ha
theorem m_tAnd (ha : PT X a (tMt X.K Wx ta)) (hb : PW X (.BoolOp .And (b :: rest) pos) (tMt X.K Wx tb)) : PW X (.BoolOp .And (a :: b :: rest) pos) (tMt X.K Wx (M.tAnd ta tb)) := pw_imp (pw_and ha hb) fun σ H Q h => by
  obtain ⟨ι, ρ, g, hs, hg, h⟩ := h
  refine tMt_mono (goT hs hg h) fun x H1 ⟨ι1, w1, g1, p1, r1, hg1, h1⟩ => ?_
  subst r1
  cases w1 with
  | true =>
    rw [if_pos rfl]
    exact ⟨ι1, ρ, g1, hs.mono p1, hg1, h1⟩
  | false =>
    rw [if_neg Bool.false_ne_true]
    exact h1 ι1 _ H1 (Pre.refl _) rfl hg1
theorem m_tOr (ha : PT X a (tMt X.K Wx ta)) (hb : PW X (.BoolOp .Or (b :: rest) pos) (tMt X.K Wx tb)) : PW X (.BoolOp .Or (a :: b :: rest) pos) (tMt X.K Wx (M.tOr ta tb)) := pw_imp (pw_or ha hb) fun σ H Q h => by
  obtain ⟨ι, ρ, g, hs, hg, h⟩ := h
  refine tMt_mono (goT hs hg h) fun x H1 ⟨ι1, w1, g1, p1, r1, hg1, h1⟩ => ?_
  subst r1
  cases w1 with
  | true =>
    rw [if_pos rfl]
    exact h1 ι1 _ H1 (Pre.refl _) rfl hg1
  | false =>
    rw [if_neg Bool.false_ne_true]
    exact ⟨ι1, ρ, g1, hs.mono p1, hg1, h1⟩
/-! ### and, or, not as values; if as an expression -/
theorem m_one {op : BoolOp} (h : PE X a (tM X.K Wx ma)) : PE X (.BoolOp op [a] pos) (tM X.K Wx ma) := pe_one h
theorem m_and (ha : PE X a (tM X.K Wx ma)) (hb : PE X (.BoolOp .And (b :: rest) pos) (tM X.K Wx mb)) : PE X (.BoolOp .And (a :: b :: rest) pos) (tM X.K Wx (mAnd ma mb)) := pe_imp (pe_and ha hb) fun σ H Q h => by
  obtain ⟨ι, ρ, g, hs, hg, h⟩ := h
  refine tM_mono (go1 hs hg h) fun x H1 ⟨ι1, w1, g1, p1, r1, hg1, h1⟩ => ?_
  cases w1 with
  | bl k =>
    subst r1
    refine ⟨k, rfl, ?_⟩
    cases k with
    | true =>
      rw [if_pos rfl]
      exact ⟨ι1, ρ, g1, hs.mono p1, hg1, h1⟩
    | false =>
      rw [if_neg Bool.false_ne_true]
      exact h1 ι1 _ H1 (Pre.refl _) rfl hg1
  | _ => exact h1.elim
theorem m_or (ha : PE X a (tM X.K Wx ma)) (hb : PE X (.BoolOp .Or (b :: rest) pos) (tM X.K Wx mb)) : PE X (.BoolOp .Or (a :: b :: rest) pos) (tM X.K Wx (mOr ma mb)) := pe_imp (pe_or ha hb) fun σ H Q h => by
  obtain ⟨ι, ρ, g, hs, hg, h⟩ := h
  refine tM_mono (go1 hs hg h) fun x H1 ⟨ι1, w1, g1, p1, r1, hg1, h1⟩ => ?_
  cases w1 with
  | bl k =>
    subst r1
    refine ⟨k, rfl, ?_⟩
    cases k with
    | true =>
      rw [if_pos rfl]
      exact h1 ι1 _ H1 (Pre.refl _) rfl hg1
    | false =>
      rw [if_neg Bool.false_ne_true]
      exact ⟨ι1, ρ, g1, hs.mono p1, hg1, h1⟩
  | _ => exact h1.elim
theorem m_not (ha : PE X a (tM X.K Wx ma)) : PE X (.UnaryOp .Not a pos) (tM X.K Wx (mNot ma)) := pe_imp (pe_not ha) fun σ H Q h => by
  obtain ⟨ι, ρ, g, hs, hg, h⟩ := h
  refine tM_mono (go1 hs hg h) fun x H1 ⟨ι1, w1, g1, p1, r1, hg1, h1⟩ => ?_
  cases w1 with
  | bl k =>
    subst r1
    exact ⟨k, rfl, h1 ι1 _ H1 (Pre.refl _) rfl hg1⟩
  | _ => exact h1.elim
theorem m_ifE (hc : PT X c (tMt X.K Wx ta)) (ha : PE X a (tM X.K Wx ma)) (hb : PE X b (tM X.K Wx mb)) : PE X (.IfExp c a b pos) (tM X.K Wx (mIf ta ma mb)) := pe_imp (pe_ifExp hc ha hb) fun σ H Q h => by
  obtain ⟨ι, ρ, g, hs, hg, h⟩ := h
  refine tMt_mono (goT hs hg h) fun x H1 ⟨ι1, w1, g1, p1, r1, hg1, h1⟩ => ?_
  subst r1
  cases w1 with
  | true =>
    rw [if_pos rfl]
    exact ⟨ι1, ρ, g1, hs.mono p1, hg1, h1⟩
  | false =>
    rw [if_neg Bool.false_ne_true]
    exact ⟨ι1, ρ, g1, hs.mono p1, hg1, h1⟩
/-! ### arguments, displays -/
theorem m_anil : PA X [] (tMa X.K Wx aNil) := pa_imp pa_nil fun σ H Q ⟨ι, ρ, g, hs, hg, h⟩ => h ι _ H (Pre.refl _) .nil hg
theorem goA {K : Frag} {α β : Type} {Rl : List Addr → α → β → Prop} {f : List W → G → Res α} {t : MA} {σ : L2.St} {H : Hp} {Q : β → Hp → Prop} {ι : List Addr} {ρ : Env} {g : G} (hs : RelS K ι ρ σ) (hg : RelG K ι g H)
    (h : Aft K ι (fun c d H => Wx c d σ H) Rl ((t ρ g).bind f) Q) : tMa K Wx t σ H (Nxt K ι (fun c d H => Wx c d σ H) (RelL K) Rl f Q) := ⟨ι, ρ, g, hs, hg, h.of_bind⟩
theorem acons_imp {K : Frag} {σ : L2.St} {H : Hp} {Q : List V → Hp → Prop} (h : tMa K Wx (aCons ma mas) σ H Q) : tCons (tM K Wx ma) (tMa K Wx mas) σ H Q := by
  obtain ⟨ι, ρ, g, hs, hg, h⟩ := h
  refine tM_mono (go1 hs hg h) fun x H1 ⟨ι1, w1, g1, p1, r1, hg1, h1⟩ => ?_
  refine tMa_mono (goA (hs.mono p1) hg1 h1) fun xs H2 ⟨ι2, w2, g2, p2, r2, hg2, h2⟩ => ?_
  exact h2 ι2 _ H2 (Pre.refl _) (.cons (r1.mono p2) r2) hg2
theorem m_acons (ha : PE X e (tM X.K Wx ma)) (hr : PA X es (tMa X.K Wx mas)) (hs : starEach (e :: es) X.env = (false, eval e X.env) :: starEach es X.env := by rfl) : PA X (e :: es) (tMa X.K Wx (aCons ma mas)) := pa_imp (pa_cons ha hr hs) fun _ _ _ h => acons_imp h
theorem m_lst (h : PA X es (tMa X.K Wx mas)) : PE X (.List es pos) (tM X.K Wx (mLst mas)) := pe_imp (pe_lst h) fun σ H Q h => by
  obtain ⟨ι, ρ, g, hs, hg, h⟩ := h
  refine tMa_mono (goA hs hg h) fun x H1 ⟨ι1, w1, g1, p1, r1, hg1, h1⟩ => ?_
  dsimp only at h1
  split at h1
  · rename_i hz
    refine ⟨by rw [← r1.length, sizeLine_eq]; exact hz, fun p hp => ?_⟩
    exact h1 (ι1 ++ [p]) _ _ (Pre.snoc _ _) (hg1.newW p) (hg1.new hp rfl ⟨_, r1.mono (Pre.snoc _ _), upd_same⟩)
  · exact h1.elim
theorem m_tup {j : Nat} (h : PA X es (tMa X.K Wx mas)) : PE X (.Tuple es j pos) (tM X.K Wx (mTup mas)) := pe_imp (pe_tup h) fun σ H Q h => by
  obtain ⟨ι, ρ, g, hs, hg, h⟩ := h
  refine tMa_mono (goA hs hg h) fun x H1 ⟨ι1, w1, g1, p1, r1, hg1, h1⟩ => ?_
  dsimp only at h1
  split at h1
  · rename_i hz
    refine ⟨by rw [← r1.length, sizeLine_eq]; exact hz, fun p hp => ?_⟩
    exact h1 (ι1 ++ [p]) _ _ (Pre.snoc _ _) (hg1.newW p) (hg1.new hp rfl ⟨_, r1.mono (Pre.snoc _ _), upd_same⟩)
  · exact h1.elim
end
end M
/-! MOps: the operators, built-in functions and methods by values. -/
namespace M
open PySem PySem.Spec PyProof.Rows L2
theorem sz_eq {n : Nat} (h : n ≤ SZ) : n ≤ sizeLine := by rw [sizeLine_eq]; exact h
theorem sz_lt {n : Nat} (h : n < SZ) : n < sizeLine := by rw [sizeLine_eq]; exact h
theorem ints_rel {K : Frag} {ι : List Addr} : ∀ {ws : List W} {ns : List Int} {vs : List V}, M.intsL ws = some ns → RelL K ι ws vs → vs = ns.map V.int
  | [], ns, _, e, .nil => by
    have : ns = [] := by
      unfold M.intsL at e
      exact (Option.some.inj e).symm
    subst this
    rfl
  | w :: ws, ns, _, e, .cons r t => by
    cases w with
    | int i =>
      unfold M.intsL at e
      split at e
      · rename_i l q
        cases e
        have ih := ints_rel q t
        rw [ih]
        cases (show _ = V.int i from r)
        rfl
      · cases e
    | _ => unfold M.intsL at e; cases e
theorem bools_rel {K : Frag} {ι : List Addr} : ∀ {ws : List W} {ns : List Bool} {vs : List V}, bools ws = some ns → RelL K ι ws vs → vs = ns.map V.bl
  | [], ns, _, e, .nil => by
    have : ns = [] := by
      unfold bools at e
      exact (Option.some.inj e).symm
    subst this
    rfl
  | w :: ws, ns, _, e, .cons r t => by
    cases w with
    | bl i =>
      unfold bools at e
      split at e
      · rename_i l q
        cases e
        have ih := bools_rel q t
        rw [ih]
        cases (show _ = V.bl i from r)
        rfl
      · cases e
    | _ => unfold bools at e; cases e
theorem rel_ints {K : Frag} {ι : List Addr} : ∀ ns : List Int, RelL K ι (ns.map W.int) (ns.map V.int)
  | [] => .nil
  | n :: ns => .cons rfl (rel_ints ns)
theorem isort_eq {ns' ns : List Int} (p : ns'.Perm ns) (s : ns'.Pairwise (· ≤ ·)) : ns' = isort ns := by
  refine List.Perm.eq_of_pairwise (le := fun a b : Int => a ≤ b) (fun a b _ _ h1 h2 => Int.le_antisymm h1 h2) s ?_ (p.trans (List.mergeSort_perm ns _).symm)
  have h := List.pairwise_mergeSort (le := fun a b : Int => decide (a ≤ b)) (by intro a b c h1 h2; simp at *; omega) (by intro a b; simp; omega) ns
  exact h.imp fun h => by simpa using h
section
variable {X : Cx}
theorem o_add : OpR X (binaryOp .Add) (rM2 X.K opAdd) := by
  intro pins s σ H x y v u Q I rx ry ⟨Wx, ι, wx, wy, g, hx, hy, hg, h⟩
  unfold opAdd at h
  split at h
  · cases hx; cases hy
    exact op_add pins s σ H _ _ v u Q I rx ry ⟨_, _, rfl, rfl, h ι _ H (Pre.refl _) rfl hg⟩
  · cases hx; cases hy
    split at h
    · rename_i hz
      exact op_add_str pins s σ H _ _ v u Q I rx ry ⟨_, _, rfl, rfl, sz_eq hz, h ι _ H (Pre.refl _) rfl hg⟩
    · exact h.elim
  · obtain ⟨a', ea, rfl⟩ := hx
    obtain ⟨b', eb, rfl⟩ := hy
    split at h
    · rename_i xs ys q1 q2
      split at h
      · rename_i hz
        obtain ⟨vs, r1, h1⟩ := hg.lst q1 ea
        obtain ⟨us, r2, h2⟩ := hg.lst q2 eb
        refine op_cat pins s σ H _ _ v u Q I rx ry ⟨_, _, _, _, rfl, rfl, h1, h2, by rw [← r1.length, ← r2.length]; exact sz_eq hz, fun p hp => ?_⟩
        exact h (ι ++ [p]) _ _ (Pre.snoc _ _) (hg.newW p) (hg.new hp rfl ⟨_, (r1.append r2).mono (Pre.snoc _ _), upd_same⟩)
      · exact h.elim
    · exact h.elim
  · exact h.elim
theorem o_sub : OpR X (binaryOp .Sub) (rM2 X.K opSub) := by
  intro pins s σ H x y v u Q I rx ry ⟨Wx, ι, wx, wy, g, hx, hy, hg, h⟩
  unfold opSub at h
  split at h
  · cases hx; cases hy
    exact op_sub pins s σ H _ _ v u Q I rx ry ⟨_, _, rfl, rfl, h ι _ H (Pre.refl _) rfl hg⟩
  · exact h.elim
theorem o_mul : OpR X (binaryOp .Mult) (rM2 X.K opMul) := by
  intro pins s σ H x y v u Q I rx ry ⟨Wx, ι, wx, wy, g, hx, hy, hg, h⟩
  unfold opMul at h
  split at h
  · cases hx; cases hy
    split at h
    · rename_i hz
      exact op_mulW pins s σ H _ _ v u Q I rx ry ⟨_, _, rfl, rfl, hz, h ι _ H (Pre.refl _) rfl hg⟩
    · exact h.elim
  · obtain ⟨a', ea, rfl⟩ := hx
    cases hy
    split at h
    · rename_i xs q1
      split at h
      · rename_i hz
        obtain ⟨vs, r1, h1⟩ := hg.lst q1 ea
        refine op_rep pins s σ H _ _ v u Q I rx ry ⟨_, _, _, rfl, rfl, h1, hz.1, hz.2.1, by rw [← r1.length]; exact sz_eq hz.2.2, fun p hp => ?_⟩
        exact h (ι ++ [p]) _ _ (Pre.snoc _ _) (hg.newW p) (hg.new hp rfl ⟨_, (r1.rep _).mono (Pre.snoc _ _), upd_same⟩)
      · exact h.elim
    · exact h.elim
  · exact h.elim
theorem o_div : OpR X (binaryOp .FloorDiv) (rM2 X.K opDiv) := by
  intro pins s σ H x y v u Q I rx ry ⟨Wx, ι, wx, wy, g, hx, hy, hg, h⟩
  unfold opDiv at h
  split at h
  · cases hx; cases hy
    split at h
    · rename_i hz
      exact op_fdivW pins s σ H _ _ v u Q I rx ry ⟨_, _, rfl, rfl, hz, h ι _ H (Pre.refl _) rfl hg⟩
    · exact h.elim
  · exact h.elim
theorem o_mod : OpR X (binaryOp .Mod) (rM2 X.K opMod) := by
  intro pins s σ H x y v u Q I rx ry ⟨Wx, ι, wx, wy, g, hx, hy, hg, h⟩
  unfold opMod at h
  split at h
  · cases hx; cases hy
    split at h
    · rename_i hz
      exact op_mod pins s σ H _ _ v u Q I rx ry ⟨_, _, rfl, rfl, hz, h ι _ H (Pre.refl _) rfl hg⟩
    · exact h.elim
  · exact h.elim
theorem bits_of_lg {i : Int} {n : Nat} (h : lg i < n) : Builtin.Int.intBits i ≤ n := by
  have b : Builtin.Int.intBits i ≤ i.natAbs.log2 + 1 := by
    unfold Builtin.Int.intBits
    split <;> omega
  unfold lg at h
  omega
theorem op_powW : OpR X (binaryOp .Pow) (rI (fun i j => 0 ≤ j ∧ j ≤ 1000 ∧ lg i < 4096) fun i j => .int (i ^ j.toNat)) := opI fun i j _ _ _ _ _ hc q => pow_int hc.1 (by
  have h1 := bits_of_lg hc.2.2
  have h2 : (Builtin.Int.intBits i : Int) * j ≤ 4096 * 1000 := Int.mul_le_mul (by omega) hc.2.1 hc.1 (by omega)
  have h3 : (2 : Int) ^ 27 = 134217728 := by decide
  omega) q
theorem o_pow : OpR X (binaryOp .Pow) (rM2 X.K opPow) := by
  intro pins s σ H x y v u Q I rx ry ⟨Wx, ι, wx, wy, g, hx, hy, hg, h⟩
  unfold opPow at h
  split at h
  · cases hx; cases hy
    split at h
    · rename_i hz
      exact op_powW pins s σ H _ _ v u Q I rx ry ⟨_, _, rfl, rfl, hz, h ι _ H (Pre.refl _) rfl hg⟩
    · exact h.elim
  · exact h.elim
theorem o_neg : UnR X (unaryOp .USub) (rM1 X.K opNeg) := by
  intro pins s σ H x v Q I rx ⟨Wx, ι, wx, g, hx, hg, h⟩
  unfold opNeg at h
  split at h
  · cases hx
    exact un_neg pins s σ H _ v Q I rx ⟨_, rfl, h ι _ H (Pre.refl _) rfl hg⟩
  · exact h.elim
theorem o_lt : OpR X (compareOp .Lt) (rM2 X.K opLt) := by
  intro pins s σ H x y v u Q I rx ry ⟨Wx, ι, wx, wy, g, hx, hy, hg, h⟩
  unfold opLt at h
  split at h
  · cases hx; cases hy
    exact op_lt pins s σ H _ _ v u Q I rx ry ⟨_, _, rfl, rfl, h ι _ H (Pre.refl _) rfl hg⟩
  · exact h.elim
theorem o_le : OpR X (compareOp .LtE) (rM2 X.K opLe) := by
  intro pins s σ H x y v u Q I rx ry ⟨Wx, ι, wx, wy, g, hx, hy, hg, h⟩
  unfold opLe at h
  split at h
  · cases hx; cases hy
    exact op_le pins s σ H _ _ v u Q I rx ry ⟨_, _, rfl, rfl, h ι _ H (Pre.refl _) rfl hg⟩
  · exact h.elim
theorem o_gt : OpR X (compareOp .Gt) (rM2 X.K opGt) := by
  intro pins s σ H x y v u Q I rx ry ⟨Wx, ι, wx, wy, g, hx, hy, hg, h⟩
  unfold opGt at h
  split at h
  · cases hx; cases hy
    exact op_gt pins s σ H _ _ v u Q I rx ry ⟨_, _, rfl, rfl, h ι _ H (Pre.refl _) rfl hg⟩
  · exact h.elim
theorem o_ge : OpR X (compareOp .GtE) (rM2 X.K opGe) := by
  intro pins s σ H x y v u Q I rx ry ⟨Wx, ι, wx, wy, g, hx, hy, hg, h⟩
  unfold opGe at h
  split at h
  · cases hx; cases hy
    exact op_ge pins s σ H _ _ v u Q I rx ry ⟨_, _, rfl, rfl, h ι _ H (Pre.refl _) rfl hg⟩
  · exact h.elim
/-! data as a whole -/
mutual
theorem eqv_toPy : ∀ d e : D, PyData.eqv (toPy d) (toPy e) = eqD d e
  | .non, .non | .non, .bl _ | .non, .int _ | .non, .str _ | .non, .lst _ | .non, .tup _ => by simp [toPy, PyData.eqv, eqD]
  | .bl _, .non | .bl _, .bl _ | .bl _, .int _ | .bl _, .str _ | .bl _, .lst _ | .bl _, .tup _ => by simp [toPy, PyData.eqv, eqD]
  | .int _, .non | .int _, .bl _ | .int _, .int _ | .int _, .str _ | .int _, .lst _ | .int _, .tup _ => by simp [toPy, PyData.eqv, eqD]
  | .str _, .non | .str _, .bl _ | .str _, .int _ | .str _, .str _ | .str _, .lst _ | .str _, .tup _ => by simp [toPy, PyData.eqv, eqD]
  | .lst _, .non | .lst _, .bl _ | .lst _, .int _ | .lst _, .str _ | .lst _, .tup _ => by simp [toPy, PyData.eqv, eqD]
  | .lst xs, .lst ys => by
    rw [toPy, toPy, PyData.eqv, eqD]
    exact eqv_toPys xs ys
  | .tup _, .non | .tup _, .bl _ | .tup _, .int _ | .tup _, .str _ | .tup _, .lst _ => by simp [toPy, PyData.eqv, eqD]
  | .tup xs, .tup ys => by
    rw [toPy, toPy, PyData.eqv, eqD]
    exact eqv_toPys xs ys
theorem eqv_toPys : ∀ d e : List D, PyData.eqvAll (toPys d) (toPys e) = eqDs d e
  | [], [] => by simp [toPys, PyData.eqvAll, eqDs]
  | [], _ :: _ => by simp [toPys, PyData.eqvAll, eqDs]
  | _ :: _, [] => by simp [toPys, PyData.eqvAll, eqDs]
  | x :: xs, y :: ys => by
    rw [toPys, toPys, PyData.eqvAll, eqDs, eqv_toPy x y, eqv_toPys xs ys]
end
mutual
theorem rdD_dp {K : Frag} {ι : List Addr} {g : G} {H : Hp} (hg : RelG K ι g H) : ∀ (n : Nat) (w : W) (d : D) (v : V), rdD n g w = some d → RelW K ι w v → Dp K H v (toPy d) ∧ (toPy d).depth ≤ n + 1 ∧ (toPy d).canLay0 = true := by
  intro n w d v e r
  cases w with
  | non =>
    cases (show v = _ from r)
    cases n <;> (rw [rdD] at e; cases e; exact ⟨.non, by simp [toPy, PyData.depth], by simp [toPy, PyData.canLay0]⟩)
  | bl b =>
    cases (show v = _ from r)
    cases n <;> (rw [rdD] at e; cases e; exact ⟨.bl b, by simp [toPy, PyData.depth], by simp [toPy, PyData.canLay0]⟩)
  | int b =>
    cases (show v = _ from r)
    cases n <;> (rw [rdD] at e; cases e; exact ⟨.int b, by simp [toPy, PyData.depth], by simp [toPy, PyData.canLay0]⟩)
  | str b =>
    cases (show v = _ from r)
    have e2 : (if okS b then some (D.str b) else none) = some d := by
      cases n <;> (rw [rdD] at e; exact e)
    split at e2
    · rename_i hk
      cases e2
      exact ⟨.str b, by simp [toPy, PyData.depth], by rw [toPy, PyData.canLay0]; exact hk⟩
    · cases e2
  | glob x => cases n <;> simp [rdD] at e
  | ty x => cases n <;> simp [rdD] at e
  | ref a =>
    obtain ⟨a', ea, rfl⟩ := r
    cases n with
    | zero => rw [rdD] at e; cases e
    | succ n =>
      rw [rdD] at e
      split at e
      · rename_i ws q
        split at e
        · rename_i ds q2
          cases e
          obtain ⟨vs, rl, hl⟩ := hg.lst q ea
          obtain ⟨z1, z2, z3⟩ := rdDs_dp hg n ws ds vs q2 rl
          refine ⟨.lst (.inl (.inl hl)) z1, ?_, ?_⟩
          · rw [toPy, PyData.depth]; omega
          · rw [toPy, PyData.canLay0]; exact z3
        · cases e
      · rename_i ws q
        split at e
        · rename_i ds q2
          cases e
          obtain ⟨vs, rl, hl⟩ := hg.lstAt (i := a) (ws := ws) (by unfold M.lstAt; rw [q]) ea
          obtain ⟨z1, z2, z3⟩ := rdDs_dp hg n ws ds vs q2 rl
          refine ⟨.lst hl z1, ?_, ?_⟩
          · rw [toPy, PyData.depth]; omega
          · rw [toPy, PyData.canLay0]; exact z3
        · cases e
      · rename_i ws q
        split at e
        · rename_i ds q2
          cases e
          obtain ⟨vs, rl, hl⟩ := hg.tup q ea
          obtain ⟨z1, z2, z3⟩ := rdDs_dp hg n ws ds vs q2 rl
          refine ⟨.tup (.inl (.inl hl)) z1, ?_, ?_⟩
          · rw [toPy, PyData.depth]; omega
          · rw [toPy, PyData.canLay0]; exact z3
        · cases e
      · cases e
theorem rdDs_dp {K : Frag} {ι : List Addr} {g : G} {H : Hp} (hg : RelG K ι g H) : ∀ (n : Nat) (ws : List W) (ds : List D) (vs : List V), rdDs n g ws = some ds → RelL K ι ws vs → DpAll K H vs (toPys ds) ∧ PyData.depthAll (toPys ds) ≤ n + 1 ∧ PyData.canLayAll0 (toPys ds) = true := by
  intro n ws ds vs e r
  cases ws with
  | nil =>
    cases r
    rw [rdDs] at e
    cases e
    exact ⟨.nil, by simp [toPys, PyData.depthAll], by simp [toPys, PyData.canLayAll0]⟩
  | cons w ws =>
    cases r with
    | cons r t =>
      rw [rdDs] at e
      split at e
      · rename_i d q
        split at e
        · rename_i ds' q2
          cases e
          obtain ⟨x1, x2, x3⟩ := rdD_dp hg n w d _ q r
          obtain ⟨y1, y2, y3⟩ := rdDs_dp hg n ws ds' _ q2 t
          refine ⟨.cons x1 y1, ?_, ?_⟩
          · rw [toPys, PyData.depthAll]; omega
          · rw [toPys, PyData.canLayAll0, x3, y3]; rfl
        · cases e
      · cases e
end
theorem shaped_of {d : D} (h1 : (toPy d).depth ≤ 61) (h2 : (toPy d).canLay0 = true) : SeqAt.shaped (toPy d) = true := by
  unfold SeqAt.shaped
  rw [h2]
  simp
  omega
theorem o_eq (hu : X.A.units + 64 < cLine) : OpR X (compareOp .Eq) (rM2 X.K opEq) := by
  intro pins s σ H x y v u Q I rx ry ⟨Wx, ι, wx, wy, g, hx, hy, hg, h⟩
  unfold opEq at h
  split at h
  · cases (show x = _ from hx)
    cases (show y = _ from hy)
    refine op_eq pins s σ H _ _ v u Q I rx ry ⟨rfl, ?_⟩
    rw [dec_str]
    exact h ι _ H (Pre.refl _) rfl hg
  · split at h
    · rename_i d e q1 q2
      obtain ⟨a1, a2, a3⟩ := rdD_dp hg 60 _ _ _ q1 hx
      obtain ⟨b1, b2, b3⟩ := rdD_dp hg 60 _ _ _ q2 hy
      refine op_eqD hu pins s σ H _ _ v u Q I rx ry ⟨_, _, a1, b1, shaped_of a2 a3, shaped_of b2 b3, ?_⟩
      rw [eqv_toPy]
      exact h ι _ H (Pre.refl _) rfl hg
    · exact h.elim
theorem o_ne (hu : X.A.units + 64 < cLine) : OpR X (compareOp .NotEq) (rM2 X.K opNe) := by
  intro pins s σ H x y v u Q I rx ry ⟨Wx, ι, wx, wy, g, hx, hy, hg, h⟩
  unfold opNe at h
  split at h
  · cases (show x = _ from hx)
    cases (show y = _ from hy)
    refine op_ne pins s σ H _ _ v u Q I rx ry ⟨rfl, ?_⟩
    rw [dec_str]
    exact h ι _ H (Pre.refl _) rfl hg
  · split at h
    · rename_i d e q1 q2
      obtain ⟨a1, a2, a3⟩ := rdD_dp hg 60 _ _ _ q1 hx
      obtain ⟨b1, b2, b3⟩ := rdD_dp hg 60 _ _ _ q2 hy
      refine op_neD hu pins s σ H _ _ v u Q I rx ry ⟨_, _, a1, b1, shaped_of a2 a3, shaped_of b2 b3, ?_⟩
      rw [eqv_toPy]
      exact h ι _ H (Pre.refl _) rfl hg
    · exact h.elim
theorem flat_rel {K : Frag} {ι : List Addr} {w : W} {v : V} (r : RelW K ι w v) (f : flat w = true) : flatV v = true := by
  cases w with
  | non => cases (show v = _ from r); rfl
  | bl b => cases (show v = _ from r); rfl
  | int b => cases (show v = _ from r); rfl
  | str b => cases (show v = _ from r); rfl
  | ref n => cases f
  | glob x => cases f
  | ty n => cases f
theorem eqF_rel {K : Frag} {ι : List Addr} {w w' : W} {v v' : V} (r : RelW K ι w v) (r' : RelW K ι w' v') (f : flat w = true) (f' : flat w' = true) : eqV v v' = eqF w w' := by
  cases w <;> cases w' <;> first
    | exact absurd (show false = true from f) Bool.false_ne_true
    | exact absurd (show false = true from f') Bool.false_ne_true
    | (cases (show v = _ from r); cases (show v' = _ from r'); rfl)
theorem flats_rel {K : Frag} {ι : List Addr} : ∀ {ws : List W} {vs : List V}, RelL K ι ws vs → ws.all flat = true → vs.all flatV = true
  | _, _, .nil, _ => rfl
  | _, _, .cons r t, f => by
    rw [List.all_cons, Bool.and_eq_true] at f
    rw [List.all_cons, flat_rel r f.1, flats_rel t f.2]
    rfl
theorem inF_rel {K : Frag} {ι : List Addr} {w : W} {v : V} (r : RelW K ι w v) (f : flat w = true) : ∀ {ws : List W} {vs : List V}, RelL K ι ws vs → ws.all flat = true → inV v vs = inF w ws
  | _, _, .nil, _ => rfl
  | _, _, .cons r' t, f' => by
    rw [List.all_cons, Bool.and_eq_true] at f'
    have ih := inF_rel r f t f'.2
    unfold inV inF at *
    rw [List.any_cons, List.any_cons, eqF_rel r' r f'.1 f, ih]
theorem o_in : OpR X (compareOp .In) (rM2 X.K opIn) := by
  intro pins s σ H x y v u Q I rx ry ⟨Wx, ι, wx, wy, g, hx, hy, hg, h⟩
  unfold opIn at h
  split at h
  · obtain ⟨a', ea, rfl⟩ := hy
    split at h
    · rename_i ws q
      split at h
      · rename_i f
        rw [Bool.and_eq_true] at f
        obtain ⟨vs, rl, hl⟩ := hg.seqAt q ea
        refine op_in_seq pins s σ H _ _ v u Q I rx ry ⟨_, _, rfl, hl, flat_rel hx f.1, flats_rel rl f.2, ?_⟩
        rw [if_neg Bool.false_ne_true, inF_rel hx f.1 rl f.2]
        exact h ι _ H (Pre.refl _) rfl hg
      · exact h.elim
    · exact h.elim
  · exact h.elim
theorem o_nin : OpR X (compareOp .NotIn) (rM2 X.K opNin) := by
  intro pins s σ H x y v u Q I rx ry ⟨Wx, ι, wx, wy, g, hx, hy, hg, h⟩
  unfold opNin at h
  split at h
  · obtain ⟨a', ea, rfl⟩ := hy
    split at h
    · rename_i ws q
      split at h
      · rename_i f
        rw [Bool.and_eq_true] at f
        obtain ⟨vs, rl, hl⟩ := hg.seqAt q ea
        refine op_notIn_seq pins s σ H _ _ v u Q I rx ry ⟨_, _, rfl, hl, flat_rel hx f.1, flats_rel rl f.2, ?_⟩
        rw [if_pos rfl, inF_rel hx f.1 rl f.2]
        exact h ι _ H (Pre.refl _) rfl hg
      · exact h.elim
    · exact h.elim
  · exact h.elim
theorem o_isB : OpR X (compareOp .Is) (rM2 X.K opIsB) := by
  intro pins s σ H x y v u Q I rx ry ⟨Wx, ι, wx, wy, g, hx, hy, hg, h⟩
  unfold opIsB at h
  split at h
  · cases hx; cases hy
    exact op_isBl pins s σ H _ _ v u Q I rx ry ⟨_, _, rfl, rfl, h ι _ H (Pre.refl _) rfl hg⟩
  · exact h.elim
theorem o_notB : OpR X (compareOp .IsNot) (rM2 X.K opNotB) := by
  intro pins s σ H x y v u Q I rx ry ⟨Wx, ι, wx, wy, g, hx, hy, hg, h⟩
  unfold opNotB at h
  split at h
  · cases hx; cases hy
    exact op_notBl pins s σ H _ _ v u Q I rx ry ⟨_, _, rfl, rfl, h ι _ H (Pre.refl _) rfl hg⟩
  · exact h.elim
/-! ### subscripts, slices -/
theorem ixN_eq : M.ixN = L2.ixN := rfl
theorem atI_rel {K : Frag} {ι : List Addr} {ws : List W} {vs : List V} {i : Int} {w : W} (r : RelL K ι ws vs) (e : M.atI ws i = some w) : ∃ v, L2.atI vs i = some v ∧ RelW K ι w v := by
  unfold M.atI at e
  unfold L2.atI
  rw [← r.length, ← ixN_eq]
  cases q : M.ixN ws.length i with
  | none => rw [q] at e; cases e
  | some j =>
    rw [q] at e
    exact r.get e
theorem o_ix : IxR X (rM2 X.K opIx) := by
  intro value slice pins s σ H x y v u Q I rx ry ⟨Wx, ι, wx, wy, g, hx, hy, hg, h⟩ hs
  unfold opIx at h
  split at h
  · obtain ⟨a', ea, rfl⟩ := hx
    cases hy
    split at h
    · rename_i ws q
      split at h
      · rename_i w q2
        obtain ⟨vs, rl, hl⟩ := hg.seqAt q ea
        obtain ⟨z, e1, r1⟩ := atI_rel rl q2
        rcases hl with hl | hl
        · exact ix_list value slice pins s σ H _ _ v u Q I rx ry ⟨_, _, _, _, rfl, rfl, hl, e1, h ι _ H (Pre.refl _) r1 hg⟩ hs
        · exact ix_tup value slice pins s σ H _ _ v u Q I rx ry ⟨_, _, _, _, rfl, rfl, hl, e1, h ι _ H (Pre.refl _) r1 hg⟩ hs
      · exact h.elim
    · exact h.elim
  · exact h.elim
variable {Wx : WX} {pos p2 : Pos} {a b c e : Expr} {ma mb mc m : ME} {es : List Expr} {mas mks : MA} {lo hi : Option Expr} {ml mh : MO}
theorem m_ix (ha : PE X a (tM X.K Wx ma)) (hb : PE X b (tM X.K Wx mb)) (hs : PlainIx b := by exact fun _ _ => rfl) : PE X (.Subscript a b pos) (tM X.K Wx (mOp2 opIx ma mb)) := pe_imp (pe_ix o_ix ha hb hs) fun _ _ _ h => op2_imp h
theorem m_oNone : PO X none (tMo X.K Wx oNone) := po_imp po_none fun σ H Q ⟨ι, ρ, g, hs, hg, h⟩ => h ι _ H (Pre.refl _) rfl hg
theorem m_oSome (ha : PE X a (tM X.K Wx ma)) : PO X (some a) (tMo X.K Wx (oSome ma)) := po_imp (po_some ha) fun σ H Q ⟨ι, ρ, g, hs, hg, h⟩ => by
  refine tM_mono (go1 hs hg h) fun x H1 ⟨ι1, w1, g1, p1, r1, hg1, h1⟩ => ?_
  cases w1 with
  | int i =>
    subst r1
    exact ⟨i, rfl, h1 ι1 _ H1 (Pre.refl _) rfl hg1⟩
  | _ => exact h1.elim
theorem cut_rel {K : Frag} {ι : List Addr} {ws : List W} {vs : List V} (r : RelL K ι ws vs) (l h : Option Int) : RelL K ι (cut ws l h) (cutV vs l h) := by
  unfold cut cutV
  rw [← r.length]
  exact (r.drop _).take _
theorem goO {K : Frag} {α β : Type} {Rl : List Addr → α → β → Prop} {f : Option Int → G → Res α} {t : MO} {σ : L2.St} {H : Hp} {Q : β → Hp → Prop} {ι : List Addr} {ρ : Env} {g : G} (hs : RelS K ι ρ σ) (hg : RelG K ι g H)
    (h : Aft K ι (fun c d H => Wx c d σ H) Rl ((t ρ g).bind f) Q) : tMo K Wx t σ H (Nxt K ι (fun c d H => Wx c d σ H) rEqv Rl f Q) := ⟨ι, ρ, g, hs, hg, h.of_bind⟩
theorem tMo_mono {K : Frag} {m : MO} {σ : L2.St} {H : Hp} {Q Q' : Option Int → Hp → Prop} (h : tMo K Wx m σ H Q) (q : ∀ v H, Q v H → Q' v H) : tMo K Wx m σ H Q' := by
  obtain ⟨ι, ρ, g, hs, hg, h⟩ := h
  exact ⟨ι, ρ, g, hs, hg, h.mono q⟩
theorem m_sl (ha : PE X a (tM X.K Wx ma)) (hl : PO X lo (tMo X.K Wx ml)) (hh : PO X hi (tMo X.K Wx mh)) : PE X (.Subscript a (.Slice lo hi none p2) pos) (tM X.K Wx (mSl ma ml mh)) := pe_imp (pe_slice sl_list ha hl hh) fun σ H Q h => by
  obtain ⟨ι, ρ, g, hs, hg, h⟩ := h
  refine tM_mono (go1 hs hg h) fun x H1 ⟨ι1, w1, g1, p1, r1, hg1, h1⟩ => ?_
  refine tMo_mono (goO (hs.mono p1) hg1 h1) fun l H2 ⟨ι2, w2, g2, p2, r2, hg2, h2⟩ => ?_
  refine tMo_mono (goO (hs.mono (p1.trans p2)) hg2 h2) fun u H3 ⟨ι3, w3, g3, p3, r3, hg3, h3⟩ => ?_
  subst r2 r3
  dsimp only at h3
  split at h3
  · obtain ⟨a', ea, rfl⟩ := r1
    split at h3
    · rename_i ws q
      obtain ⟨vs, rl, hv⟩ := hg3.lstAt q ((p2.trans p3).at_ ea)
      refine ⟨_, _, rfl, hv, fun p hp => ?_⟩
      exact h3 (ι3 ++ [p]) _ _ (Pre.snoc _ _) (hg3.newW p) (hg3.new hp rfl ⟨_, (cut_rel rl _ _).mono (Pre.snoc _ _), upd_same⟩)
    · exact h3.elim
  · exact h3.elim
theorem m_rev {k : Nat} {q1 q2 q3 : Pos} (ha : PE X a (tM X.K Wx ma)) : PE X (.Subscript a (.Slice none none (some (.UnaryOp .USub (.Constant (.int 1) k q1) q2)) q3) pos) (tM X.K Wx (mRev ma)) := pe_imp (pe_revL ha) fun σ H Q h => by
  obtain ⟨ι, ρ, g, hs, hg, h⟩ := h
  refine tM_mono (go1 hs hg h) fun x H1 ⟨ι1, w1, g1, p1, r1, hg1, h1⟩ => ?_
  dsimp only at h1
  split at h1
  · obtain ⟨a', ea, rfl⟩ := r1
    split at h1
    · rename_i ws q
      obtain ⟨vs, rl, hv⟩ := hg1.lstAt q ea
      refine ⟨_, _, rfl, hv, fun p hp => ?_⟩
      exact h1 (ι1 ++ [p]) _ _ (Pre.snoc _ _) (hg1.newW p) (hg1.new hp rfl ⟨_, rl.reverse.mono (Pre.snoc _ _), upd_same⟩)
    · exact h1.elim
  · exact h1.elim
theorem m_astar {p : Pos} (ha : PE X e (tM X.K Wx ma)) (hr : PA X es (tMa X.K Wx mas)) (hs : starEach (.Starred e p :: es) X.env = (true, eval e X.env) :: starEach es X.env := by rfl) : PA X (.Starred e p :: es) (tMa X.K Wx (aStar ma mas)) :=
  pa_imp (StX.pa_star ha hr hs) fun σ H Q ⟨ι, ρ, g, hs, hg, h⟩ => by
    refine tM_mono (go1 hs hg h) fun x H1 ⟨ι1, w1, g1, p1, r1, hg1, h1⟩ => ?_
    dsimp only at h1
    split at h1
    · obtain ⟨a', ea, rfl⟩ := r1
      split at h1
      · rename_i ws q
        obtain ⟨vs, rl, hl⟩ := hg1.seqAt q ea
        refine ⟨a', vs, rfl, hl.symm, ?_⟩
        refine tMa_mono (goA (hs.mono p1) hg1 h1) fun xs H2 ⟨ι2, w2, g2, p2, r2, hg2, h2⟩ => ?_
        exact h2 ι2 _ H2 (Pre.refl _) ((rl.mono p2).append r2) hg2
      · exact h1.elim
    · exact h1.elim
theorem m_tIsN {j : Nat} {p : Pos} (ha : PE X a (tM X.K Wx ma)) : PT X (.Compare a [.Is] [.Constant .none j p] pos) (tMt X.K Wx (tVal (mOp1 opIsN ma))) := pt_imp (pt_cmp (pc_isN ha) rfl) fun σ H Q h => by
  obtain ⟨ι, ρ, g, hs, hg, h⟩ := h
  have h := go1 (Wx := Wx) hs hg h
  obtain ⟨ι, ρ, g, hs, hg, h⟩ := h
  refine tM_mono (go1 hs hg h) fun x H1 ⟨ι1, w1, g1, p1, r1, hg1, h1⟩ => ?_
  obtain ⟨ι5, w5, g5, p5, r5, hg5, h5⟩ := h1 ι1 (.bl (decide (x = .non))) H1 (Pre.refl _) (congrArg V.bl (relW_non r1).symm) hg1
  cases w5 with
  | bl k =>
    have e : V.bl (decide (x = .non)) = V.bl k := r5
    exact ⟨k, e, h5 ι5 _ H1 (Pre.refl _) rfl hg5⟩
  | _ => exact h5.elim
theorem m_tNotN {j : Nat} {p : Pos} (ha : PE X a (tM X.K Wx ma)) : PT X (.Compare a [.IsNot] [.Constant .none j p] pos) (tMt X.K Wx (tVal (mOp1 opNotN ma))) := pt_imp (pt_cmp (pc_notN ha) rfl) fun σ H Q h => by
  obtain ⟨ι, ρ, g, hs, hg, h⟩ := h
  have h := go1 (Wx := Wx) hs hg h
  obtain ⟨ι, ρ, g, hs, hg, h⟩ := h
  refine tM_mono (go1 hs hg h) fun x H1 ⟨ι1, w1, g1, p1, r1, hg1, h1⟩ => ?_
  obtain ⟨ι5, w5, g5, p5, r5, hg5, h5⟩ := h1 ι1 (.bl (!decide (x = .non))) H1 (Pre.refl _) (congrArg V.bl (congrArg (fun b => !b) (relW_non r1).symm)) hg1
  cases w5 with
  | bl k =>
    have e : V.bl (!decide (x = .non)) = V.bl k := r5
    exact ⟨k, e, h5 ι5 _ H1 (Pre.refl _) rfl hg5⟩
  | _ => exact h5.elim
/-! ### built-in functions -/
theorem relL1 {K : Frag} {ι : List Addr} {w : W} {vs : List V} (r : RelL K ι [w] vs) : ∃ v, vs = [v] ∧ RelW K ι w v := by
  cases r with
  | cons r t => cases t; exact ⟨_, rfl, r⟩
theorem relL2 {K : Frag} {ι : List Addr} {w w' : W} {vs : List V} (r : RelL K ι [w, w'] vs) : ∃ v v', vs = [v, v'] ∧ RelW K ι w v ∧ RelW K ι w' v' := by
  cases r with
  | cons r t =>
    cases t with
    | cons r' t' => cases t'; exact ⟨_, _, rfl, r, r'⟩
theorem c_len : CallR X (.builtin "len") (rMc X.K bLen) := by
  intro pins s σ H xs us Q I rv ⟨Wx, ι, ws, g, hx, hg, h⟩
  unfold bLen at h
  split at h
  · obtain ⟨v, rfl, r⟩ := relL1 hx
    obtain ⟨a', ea, rfl⟩ := r
    split at h
    · rename_i ws q
      obtain ⟨vs, rl, hl⟩ := hg.seqAt q ea
      refine call_len_seq pins s σ H _ us Q I rv ⟨_, _, rfl, hl, ?_⟩
      exact h ι _ H (Pre.refl _) (by rw [rl.length]; rfl) hg
    · exact h.elim
  · obtain ⟨v, rfl, r⟩ := relL1 hx
    cases (show v = _ from r)
    split at h
    · rename_i hz
      exact call_len_str pins s σ H _ us Q I rv ⟨_, rfl, sz_eq hz, h ι _ H (Pre.refl _) rfl hg⟩
    · exact h.elim
  · exact h.elim
theorem maxL_mem : ∀ {ns : List Int}, ns ≠ [] → maxL ns ∈ ns ∧ ∀ y ∈ ns, y ≤ maxL ns
  | [], h => absurd rfl h
  | [a], _ => ⟨by simp [maxL], by simp [maxL]⟩
  | a :: b :: r, _ => by
    obtain ⟨h1, h2⟩ := maxL_mem (ns := b :: r) (by simp)
    refine ⟨?_, fun y hy => ?_⟩
    · rw [maxL]
      by_cases q : a ≤ maxL (b :: r)
      · rw [Int.max_eq_right q]
        exact List.mem_cons_of_mem _ h1
      · rw [Int.max_eq_left (by omega)]
        exact List.mem_cons_self
    · rw [maxL]
      rcases List.mem_cons.mp hy with rfl | hy
      · omega
      · have := h2 y hy
        omega
theorem minL_mem : ∀ {ns : List Int}, ns ≠ [] → minL ns ∈ ns ∧ ∀ y ∈ ns, minL ns ≤ y
  | [], h => absurd rfl h
  | [a], _ => ⟨by simp [minL], by simp [minL]⟩
  | a :: b :: r, _ => by
    obtain ⟨h1, h2⟩ := minL_mem (ns := b :: r) (by simp)
    refine ⟨?_, fun y hy => ?_⟩
    · rw [minL]
      by_cases q : a ≤ minL (b :: r)
      · rw [Int.min_eq_left q]
        exact List.mem_cons_self
      · rw [Int.min_eq_right (by omega)]
        exact List.mem_cons_of_mem _ h1
    · rw [minL]
      rcases List.mem_cons.mp hy with rfl | hy
      · omega
      · have := h2 y hy
        omega
theorem c_max (hc : X.calm = true) : CallR X (.builtin "max") (rMc X.K bMax) := by
  intro pins s σ H xs us Q I rv ⟨Wx, ι, ws, g, hx, hg, h⟩
  unfold bMax at h
  split at h
  · obtain ⟨v, v', rfl, r, r'⟩ := relL2 hx
    cases (show v = _ from r)
    cases (show v' = _ from r')
    exact call_max2 hc pins s σ H _ us Q I rv ⟨_, _, rfl, h ι _ H (Pre.refl _) rfl hg⟩
  · obtain ⟨v, rfl, r⟩ := relL1 hx
    obtain ⟨a', ea, rfl⟩ := r
    split at h
    · rename_i ws q
      split at h
      · rename_i n ns q2
        obtain ⟨vs, rl, hl⟩ := hg.lstAt q ea
        have e := ints_rel q2 rl
        subst e
        obtain ⟨m1, m2⟩ := maxL_mem (ns := n :: ns) (by simp)
        refine cr_max hc pins s σ H _ us Q I rv ⟨_, _, rfl, hl, by simp, fun m h1 h2 => ?_⟩
        have e : m = maxL (n :: ns) := Int.le_antisymm (m2 m h1) (h2 _ m1)
        subst e
        exact h ι _ H (Pre.refl _) rfl hg
      · exact h.elim
    · exact h.elim
  · exact h.elim
theorem c_min (hc : X.calm = true) : CallR X (.builtin "min") (rMc X.K bMin) := by
  intro pins s σ H xs us Q I rv ⟨Wx, ι, ws, g, hx, hg, h⟩
  unfold bMin at h
  split at h
  · obtain ⟨v, v', rfl, r, r'⟩ := relL2 hx
    cases (show v = _ from r)
    cases (show v' = _ from r')
    exact call_min2 hc pins s σ H _ us Q I rv ⟨_, _, rfl, h ι _ H (Pre.refl _) rfl hg⟩
  · obtain ⟨v, rfl, r⟩ := relL1 hx
    obtain ⟨a', ea, rfl⟩ := r
    split at h
    · rename_i ws q
      split at h
      · rename_i n ns q2
        obtain ⟨vs, rl, hl⟩ := hg.lstAt q ea
        have e := ints_rel q2 rl
        subst e
        obtain ⟨m1, m2⟩ := minL_mem (ns := n :: ns) (by simp)
        refine cr_min hc pins s σ H _ us Q I rv ⟨_, _, rfl, hl, by simp, fun m h1 h2 => ?_⟩
        have e : m = minL (n :: ns) := Int.le_antisymm (h2 _ m1) (m2 m h1)
        subst e
        exact h ι _ H (Pre.refl _) rfl hg
      · exact h.elim
    · exact h.elim
  · exact h.elim
theorem c_sum (hc : X.calm = true) : CallR X (.builtin "sum") (rMc X.K bSum) := by
  intro pins s σ H xs us Q I rv ⟨Wx, ι, ws, g, hx, hg, h⟩
  unfold bSum at h
  split at h
  · obtain ⟨v, rfl, r⟩ := relL1 hx
    obtain ⟨a', ea, rfl⟩ := r
    split at h
    · rename_i ws q
      split at h
      · rename_i ns q2
        obtain ⟨vs, rl, hl⟩ := hg.lstAt q ea
        have e := ints_rel q2 rl
        subst e
        exact cr_sum hc pins s σ H _ us Q I rv ⟨_, _, rfl, hl, h ι _ H (Pre.refl _) rfl hg⟩
      · exact h.elim
    · exact h.elim
  · exact h.elim
theorem c_all (hc : X.calm = true) : CallR X (.builtin "all") (rMc X.K bAll) := by
  intro pins s σ H xs us Q I rv ⟨Wx, ι, ws, g, hx, hg, h⟩
  unfold bAll at h
  split at h
  · obtain ⟨v, rfl, r⟩ := relL1 hx
    obtain ⟨a', ea, rfl⟩ := r
    split at h
    · rename_i ws q
      split at h
      · rename_i ns q2
        obtain ⟨vs, rl, hl⟩ := hg.lstAt q ea
        have e := bools_rel q2 rl
        subst e
        exact cr_all hc pins s σ H _ us Q I rv ⟨_, _, rfl, hl, h ι _ H (Pre.refl _) rfl hg⟩
      · exact h.elim
    · exact h.elim
  · exact h.elim
theorem c_any (hc : X.calm = true) : CallR X (.builtin "any") (rMc X.K bAny) := by
  intro pins s σ H xs us Q I rv ⟨Wx, ι, ws, g, hx, hg, h⟩
  unfold bAny at h
  split at h
  · obtain ⟨v, rfl, r⟩ := relL1 hx
    obtain ⟨a', ea, rfl⟩ := r
    split at h
    · rename_i ws q
      split at h
      · rename_i ns q2
        obtain ⟨vs, rl, hl⟩ := hg.lstAt q ea
        have e := bools_rel q2 rl
        subst e
        exact cr_any hc pins s σ H _ us Q I rv ⟨_, _, rfl, hl, h ι _ H (Pre.refl _) rfl hg⟩
      · exact h.elim
    · exact h.elim
  · exact h.elim
/-! sorted of pairs -/
def keyV (H : Hp) : V → Int × Int
  | .ref t => match H t with
    | some (.tup [.int i, .int j]) => (i, j)
    | _ => (0, 0)
  | _ => (0, 0)
theorem pairAt_rel {K : Frag} {ι : List Addr} {g : G} {H : Hp} (hg : RelG K ι g H) {w : W} {v : V} {p : Int × Int} (r : RelW K ι w v) (e : pairAt g w = some p) : ∃ t, v = .ref t ∧ H t = some (.tup [.int p.1, .int p.2]) ∧ keyV H v = p := by
  unfold pairAt at e
  split at e
  · rename_i n
    obtain ⟨a, ea, rfl⟩ := r
    split at e
    · rename_i i j q
      cases e
      obtain ⟨vs, rl, hl⟩ := hg.at_ _ _ _ q ea
      obtain ⟨v1, v2, rfl, r1, r2⟩ := relL2 rl
      cases (show v1 = _ from r1)
      cases (show v2 = _ from r2)
      exact ⟨a, rfl, hl, by unfold keyV; dsimp only; rw [hl]⟩
    · cases e
  · cases e
theorem pairsL_rel {K : Frag} {ι : List Addr} {g : G} {H : Hp} (hg : RelG K ι g H) : ∀ {ws : List W} {vs : List V} {ps : List (Int × Int)}, RelL K ι ws vs → pairsL g ws = some ps →
    ps = vs.map (keyV H) ∧ ∀ x ∈ vs, ∃ t, x = V.ref t ∧ H t = some (.tup [.int (keyV H x).1, .int (keyV H x).2])
  | _, _, _, .nil, e => by cases e; exact ⟨rfl, fun x hx => nomatch hx⟩
  | _, _, ps, .cons r t, e => by
    unfold pairsL at e
    split at e
    · rename_i p q
      split at e
      · rename_i l q2
        cases e
        obtain ⟨t1, h1, h2, h3⟩ := pairAt_rel hg r q
        obtain ⟨h4, h5⟩ := pairsL_rel hg t q2
        refine ⟨by rw [List.map_cons, h3, ← h4], fun x hx => ?_⟩
        rcases List.mem_cons.mp hx with rfl | hx
        · exact ⟨t1, h1, by rw [h3]; exact h2⟩
        · exact h5 x hx
      · cases e
    · cases e
theorem nodup_key {κ : V → Int × Int} : ∀ {vs : List V}, (vs.map κ).Nodup → ∀ a ∈ vs, ∀ b ∈ vs, κ a = κ b → a = b := by
  intro vs
  induction vs with
  | nil => intro _ a ha; cases ha
  | cons v vs ih =>
    intro h a ha b hb e
    rw [List.map_cons, List.nodup_cons] at h
    rcases List.mem_cons.mp ha with e1 | ha2
    · rcases List.mem_cons.mp hb with e2 | hb2
      · rw [e1, e2]
      · exact absurd (by rw [← e1, e]; exact List.mem_map_of_mem hb2) h.1
    · rcases List.mem_cons.mp hb with e2 | hb2
      · exact absurd (by rw [← e2, ← e]; exact List.mem_map_of_mem ha2) h.1
      · exact ih h.2 a ha2 b hb2 e
theorem leP_lex (p q : Int × Int) : leP p q = !SrtO.lexB q p := by
  have hi := SrtO.lexB_iff (p := q) (q := p)
  cases hb : SrtO.lexB q p with
  | true =>
    have := hi.mp hb
    unfold leP
    simp
    omega
  | false =>
    have : ¬ (q.1 < p.1 ∨ (q.1 = p.1 ∧ q.2 < p.2)) := fun z => by rw [hi.mpr z] at hb; cases hb
    unfold leP
    simp
    omega
theorem zip3 {R : W → V → Prop} (κ : V → Int × Int) : ∀ {ws : List W} {vs : List V}, Paired R ws vs → ∃ T : List ((Int × Int) × W × V), T.map (fun t => (t.1, t.2.1)) = (vs.map κ).zip ws ∧ T.map (fun t => t.2.2) = vs ∧ ∀ t ∈ T, R t.2.1 t.2.2 ∧ t.1 = κ t.2.2
  | _, _, .nil => ⟨[], rfl, rfl, fun t ht => nomatch ht⟩
  | _, _, .cons (a := w) (b := v) r h => by
    obtain ⟨T, h1, h2, h3⟩ := zip3 κ h
    refine ⟨(κ v, w, v) :: T, ?_, ?_, fun t ht => ?_⟩
    · rw [List.map_cons, List.map_cons, List.zip_cons_cons, h1]
    · rw [List.map_cons, h2]
    · rcases List.mem_cons.mp ht with rfl | ht
      · exact ⟨r, rfl⟩
      · exact h3 t ht
theorem paired_map {R : W → V → Prop} : ∀ (M : List ((Int × Int) × W × V)), (∀ t ∈ M, R t.2.1 t.2.2) → Paired R (M.map fun t => t.2.1) (M.map fun t => t.2.2)
  | [], _ => .nil
  | t :: M, h => .cons (h t List.mem_cons_self) (paired_map M fun x hx => h x (List.mem_cons_of_mem _ hx))
theorem psort_rel {R : W → V → Prop} {κ : V → Int × Int} {ws : List W} {vs ys : List V} (r : Paired R ws vs) (nd : (vs.map κ).Nodup) (pm : ys.Perm vs) (so : ys.Pairwise fun x y => SrtO.lexB (κ y) (κ x) = false) : Paired R ((psort ((vs.map κ).zip ws)).map (·.2)) ys := by
  obtain ⟨T, h1, h2, h3⟩ := zip3 κ r
  have hM : (T.mergeSort fun a b => leP a.1 b.1).map (fun t => (t.1, t.2.1)) = psort ((vs.map κ).zip ws) := by
    unfold psort
    rw [← h1]
    exact List.map_mergeSort fun a _ b _ => rfl
  have hp := List.mergeSort_perm T fun a b => leP a.1 b.1
  have trans_ : ∀ a b c : (Int × Int) × W × V, leP a.1 b.1 = true → leP b.1 c.1 = true → leP a.1 c.1 = true := by
    intro a b c
    unfold leP
    simp
    omega
  have total_ : ∀ a b : (Int × Int) × W × V, (leP a.1 b.1 || leP b.1 a.1) = true := by
    intro a b
    unfold leP
    simp
    omega
  have hs := List.pairwise_mergeSort trans_ total_ T
  generalize hMe : T.mergeSort (fun a b => leP a.1 b.1) = M at *
  have hin : ∀ t ∈ M, R t.2.1 t.2.2 ∧ t.1 = κ t.2.2 := fun t ht => h3 t (hp.mem_iff.mp ht)
  have hy : M.map (fun t => t.2.2) = ys := by
    have p1 : (M.map fun t => t.2.2).Perm vs := by rw [← h2]; exact hp.map _
    refine List.Perm.eq_of_pairwise (le := fun x y => SrtO.lexB (κ y) (κ x) = false) (fun a b ha hb e1 e2 => ?_) ?_ so (p1.trans pm.symm)
    · refine nodup_key nd a (p1.mem_iff.mp ha) b (pm.mem_iff.mp hb) ?_
      have q1 := leP_lex (κ a) (κ b)
      have q2 := leP_lex (κ b) (κ a)
      rw [e1] at q1
      rw [e2] at q2
      unfold leP at q1 q2
      simp at q1 q2
      refine Prod.ext ?_ ?_ <;> omega
    · rw [List.pairwise_map]
      refine hs.imp_of_mem fun {a b} ha hb e => ?_
      rw [(hin a ha).2, (hin b hb).2, leP_lex] at e
      simpa using e
  rw [← hy]
  have : (psort ((vs.map κ).zip ws)).map (·.2) = M.map fun t => t.2.1 := by rw [← hM, List.map_map]; rfl
  rw [this]
  exact paired_map M fun t ht => (hin t ht).1
theorem c_sorted : CallR X (.builtin "sorted") (rMc X.K bSorted) := by
  intro pins s σ H xs us Q I rv ⟨Wx, ι, ws, g, hx, hg, h⟩
  unfold bSorted at h
  split at h
  · obtain ⟨v, rfl, r⟩ := relL1 hx
    obtain ⟨a', ea, rfl⟩ := r
    split at h
    · rename_i ws q
      split at h
      · rename_i ns q2
        obtain ⟨vs, rl, hl⟩ := hg.lstAt q ea
        have e := ints_rel q2 rl
        subst e
        refine cr_sortedI pins s σ H _ us Q I rv ⟨_, _, rfl, hl, fun ns' p hp hs hn => ?_⟩
        have e := isort_eq hp hs
        subst e
        exact h (ι ++ [p]) _ _ (Pre.snoc _ _) (hg.newW p) (hg.new hn rfl ⟨_, rel_ints _, upd_same⟩)
      · split at h
        · rename_i ps q3
          split at h
          · rename_i hnd
            obtain ⟨vs, rl, hl⟩ := hg.lstAt q ea
            obtain ⟨hk, hall⟩ := pairsL_rel hg rl q3
            refine cr_sortedPO pins s σ H _ us Q I rv ⟨_, _, keyV H, rfl, hl, hall, fun ys p hs hst hn => ?_⟩
            subst hk
            exact h (ι ++ [p]) _ _ (Pre.snoc _ _) (hg.newW p) (hg.new hn rfl ⟨_, (psort_rel rl hnd hst.perm hs).mono fun _ _ r => r.mono (Pre.snoc _ _), upd_same⟩)
          · exact h.elim
        · exact h.elim
    · exact h.elim
  · exact h.elim
theorem c_tuple : CallR X (.type "tuple") (rMc X.K bTuple) := by
  intro pins s σ H xs us Q I rv ⟨Wx, ι, ws, g, hx, hg, h⟩
  unfold bTuple at h
  split at h
  · obtain ⟨v, rfl, r⟩ := relL1 hx
    obtain ⟨a', ea, rfl⟩ := r
    split at h
    · rename_i ws q
      obtain ⟨vs, rl, hl⟩ := hg.lstAt q ea
      refine call_tuple_of pins s σ H _ us Q I rv ⟨_, _, rfl, .inl ⟨hl, fun p hn => ?_⟩⟩
      exact h (ι ++ [p]) _ _ (Pre.snoc _ _) (hg.newW p) (hg.new hn rfl ⟨_, rl.mono (Pre.snoc _ _), upd_same⟩)
    · exact h.elim
  · exact h.elim
theorem c_abs : CallR X (.builtin "abs") (rMc X.K bAbs) := by
  intro pins s σ H xs us Q I rv ⟨Wx, ι, ws, g, hx, hg, h⟩
  unfold bAbs at h
  split at h
  · obtain ⟨v, rfl, r⟩ := relL1 hx
    cases (show v = _ from r)
    exact call_abs pins s σ H _ us Q I rv ⟨_, rfl, h ι _ H (Pre.refl _) rfl hg⟩
  · exact h.elim
theorem c_int : CallR X (.type "int") (rMc X.K bInt) := by
  intro pins s σ H xs us Q I rv ⟨Wx, ι, ws, g, hx, hg, h⟩
  unfold bInt at h
  split at h
  · obtain ⟨v, rfl, r⟩ := relL1 hx
    cases (show v = _ from r)
    exact call_int1 pins s σ H _ us Q I rv (.inl ⟨_, rfl, h ι _ H (Pre.refl _) rfl hg⟩)
  · obtain ⟨v, rfl, r⟩ := relL1 hx
    cases (show v = _ from r)
    exact call_int1 pins s σ H _ us Q I rv (.inr ⟨_, rfl, h ι _ H (Pre.refl _) rfl hg⟩)
  · exact h.elim
theorem c_list : CallR X (.type "list") (rMc X.K bList) := by
  intro pins s σ H xs us Q I rv ⟨Wx, ι, ws, g, hx, hg, h⟩
  unfold bList at h
  split at h
  · obtain ⟨v, rfl, r⟩ := relL1 hx
    obtain ⟨a', ea, rfl⟩ := r
    split at h
    · rename_i ws q
      obtain ⟨vs, rl, hl⟩ := hg.seqAt q ea
      refine call_list_of pins s σ H _ us Q I rv ⟨_, _, rfl, hl, fun p hn => ?_⟩
      exact h (ι ++ [p]) _ _ (Pre.snoc _ _) (hg.newW p) (hg.new hn rfl ⟨_, rl.mono (Pre.snoc _ _), upd_same⟩)
    · exact h.elim
  · exact h.elim
theorem kit_all : (["NoneType", "bool", "int", "str", "list", "tuple", "dict"].all fun t => kinds.all fun n => decide (kitB t n = some (subTy t n))) = true := by decide +kernel
theorem kit_tys {K : Frag} {t n : String} (ht : t ∈ ["NoneType", "bool", "int", "str", "list", "tuple", "dict"]) (hn : n ∈ kinds) : PySem.W.kitOne K (.type t) (.type n) = some (subTy t n) :=
  kit_ty (of_decide_eq_true (List.all_eq_true.mp (List.all_eq_true.mp kit_all t ht) n hn))
theorem tyOf_rel {K : Frag} {ι : List Addr} {g : G} {H : Hp} (hg : RelG K ι g H) {w : W} {v : V} {t : String} (r : RelW K ι w v) (e : tyOf g w = some t) : t ∈ ["NoneType", "bool", "int", "str", "list", "tuple", "dict"] ∧ TyX K H v (.type t) := by
  cases w with
  | non => cases (show v = _ from r); cases e; exact ⟨by decide, .base .non⟩
  | bl b => cases (show v = _ from r); cases e; exact ⟨by decide, .base (.bl b)⟩
  | int b => cases (show v = _ from r); cases e; exact ⟨by decide, .base (.int b)⟩
  | str b => cases (show v = _ from r); cases e; exact ⟨by decide, .base (.str b)⟩
  | glob x => cases e
  | ty x => cases e
  | ref a =>
    obtain ⟨a', ea, rfl⟩ := r
    dsimp only [tyOf] at e
    split at e
    · rename_i ws q
      cases e
      obtain ⟨vs, rl, hl⟩ := hg.lst q ea
      exact ⟨by decide, .base (.lst hl)⟩
    · rename_i ws q
      cases e
      obtain ⟨vs, rl, hl⟩ := hg.at_ _ _ _ q ea
      rcases hl with ⟨o, hl⟩ | hl
      · exact ⟨by decide, .base (.frz hl)⟩
      · rcases hl (fun _ => none) with (z | ⟨o, z⟩) | ⟨o, its, n, hk, hc, _⟩
        · cases z
        · cases z
        · exact ⟨by decide, .kList hk hc⟩
    · rename_i ws q
      cases e
      obtain ⟨vs, rl, hl⟩ := hg.tup q ea
      exact ⟨by decide, .base (.tup hl)⟩
    · rename_i ws q
      cases e
      obtain ⟨vs, rl, hl⟩ := hg.at_ _ _ _ q ea
      exact ⟨by decide, .base (.dK hl)⟩
    · cases e
theorem c_isi : CallR X (.builtin "isinstance") (rMc X.K bIsi) := by
  intro pins s σ H xs us Q I rv ⟨Wx, ι, ws, g, hx, hg, h⟩
  unfold bIsi at h
  split at h
  · obtain ⟨v, v', rfl, r, r'⟩ := relL2 hx
    cases (show v' = _ from r')
    split at h
    · rename_i t q
      split at h
      · rename_i hn
        obtain ⟨h1, h2⟩ := tyOf_rel hg r q
        have hn' := List.contains_iff_mem.mp hn
        exact call_isi pins s σ H _ us Q I rv ⟨_, _, _, _, _, rfl, .ty _, h2, kit_tys h1 hn', h ι _ H (Pre.refl _) rfl hg⟩
      · exact h.elim
    · exact h.elim
  · exact h.elim
/-- f(e, ..), f a built-in function -/
theorem m_callB {x : PySem.Str} {id : String} {f : Fn} {p : Pos} (hc : CallR X (.builtin id) (rMc X.K f)) (hm : X.mg x = none) (ha : PA X (e :: es) (tMa X.K Wx mas)) (hv : bootBuiltins x = some (.builtin id) := by decide +kernel) (hg : Gl X x := by rfl) (hn : x ≠ "__name__" := by decide) (hdb : (x == ("__debug__" : PySem.Str)) = false := by decide)
    (he : starEach (e :: es) X.env = (false, eval e X.env) :: starEach es X.env := by rfl) (hpl : (backTo pos (starEach es X.env)).any (·.1) = false := by rfl) : PE X (.Call (.Name x p) (e :: es) [] pos) (tM X.K Wx (mCall f mas)) :=
  pe_imp (pe_callB hc hg hm hv ha hn hdb he hpl) fun σ H Q h => by
    obtain ⟨ι, ρ, g, hs, hg, h⟩ := h
    exact tMa_mono (goA hs hg h) fun xs H1 ⟨ι1, w1, g1, p1, r1, hg1, h1⟩ => ⟨_, ι1, w1, g1, r1, hg1, h1⟩
theorem m_callTy {x : PySem.Str} {T : String} {f : Fn} {p : Pos} (hc : CallR X (.type T) (rMc X.K f)) (hm : X.mg x = none) (ha : PA X (e :: es) (tMa X.K Wx mas)) (hv : bootBuiltins x = some (.type T) := by decide +kernel) (hg : Gl X x := by rfl) (hn : x ≠ "__name__" := by decide) (hdb : (x == ("__debug__" : PySem.Str)) = false := by decide)
    (he : starEach (e :: es) X.env = (false, eval e X.env) :: starEach es X.env := by rfl) (hpl : (backTo pos (starEach es X.env)).any (·.1) = false := by rfl) : PE X (.Call (.Name x p) (e :: es) [] pos) (tM X.K Wx (mCall f mas)) :=
  pe_imp (pe_callTy hc hg hm hv ha hn hdb he hpl) fun σ H Q h => by
    obtain ⟨ι, ρ, g, hs, hg, h⟩ := h
    exact tMa_mono (goA hs hg h) fun xs H1 ⟨ι1, w1, g1, p1, r1, hg1, h1⟩ => ⟨_, ι1, w1, g1, r1, hg1, h1⟩
/-! ### list(range(..)) -/
theorem rel_rg {K : Frag} {ι : List Addr} (a b : Int) : RelL K ι (rgW a b) (rgV a b) := by
  unfold rgW rgV
  have : ∀ l : List Nat, RelL K ι (l.map fun i => W.int (a + (i : Nat))) (l.map fun i => V.int (a + (i : Nat))) := fun l => by
    induction l with
    | nil => exact .nil
    | cons x r ih => exact .cons rfl ih
  exact this _
theorem rgOk_of {a b : Int} (h : inR2 a b = true) : RgOk a b := by
  unfold inR2 at h
  simp only [Bool.and_eq_true, decide_eq_true_eq] at h
  exact ⟨h.1.1.1.1, h.1.1.1.2, h.1.1.2, h.1.2, h.2⟩
theorem m_lrg1 {p q pos' : Pos} (hm : X.mg "list" = none) (hm2 : X.mg "range" = none) (ha : PE X a (tM X.K Wx ma)) (hc : X.calm = true := by rfl) (hg : Gl X "list" := by rfl) (hg2 : Gl X "range" := by rfl)
    (na : starEach [a] X.env = (false, eval a X.env) :: starEach [] X.env := by rfl) (nb : starEach [.Call (.Name "range" q) [a] [] pos'] X.env = (false, eval (.Call (.Name "range" q) [a] [] pos') X.env) :: starEach [] X.env := by rfl) :
    PE X (.Call (.Name "list" p) [.Call (.Name "range" q) [a] [] pos'] [] pos) (tM X.K Wx (mLrg1 ma)) := pe_imp (pe_listRg hc hg hm (prg_1 hg2 hm2 ha na) nb) fun σ H Q h => by
  obtain ⟨ι, ρ, g, hs, hg, h⟩ := h
  refine tM_mono (go1 hs hg h) fun x H1 ⟨ι1, w1, g1, p1, r1, hg1, h1⟩ => ?_
  dsimp only at h1
  split at h1
  · cases (show x = _ from r1)
    split at h1
    · rename_i hz
      refine ⟨_, rfl, rgOk_of hz, fun p hp => ?_⟩
      exact h1 (ι1 ++ [p]) _ _ (Pre.snoc _ _) (hg1.newW p) (hg1.new hp rfl ⟨_, rel_rg _ _, upd_same⟩)
    · exact h1.elim
  · exact h1.elim
theorem m_lrg2 {p q pos' : Pos} (hm : X.mg "list" = none) (hm2 : X.mg "range" = none) (ha : PE X a (tM X.K Wx ma)) (hb : PE X b (tM X.K Wx mb)) (hc : X.calm = true := by rfl) (hg : Gl X "list" := by rfl) (hg2 : Gl X "range" := by rfl)
    (na : starEach [a, b] X.env = (false, eval a X.env) :: starEach [b] X.env := by rfl) (nb : starEach [b] X.env = (false, eval b X.env) :: starEach [] X.env := by rfl) (hp : (backTo pos' (starEach [b] X.env)).any (·.1) = false := by rfl)
    (nc : starEach [.Call (.Name "range" q) [a, b] [] pos'] X.env = (false, eval (.Call (.Name "range" q) [a, b] [] pos') X.env) :: starEach [] X.env := by rfl) :
    PE X (.Call (.Name "list" p) [.Call (.Name "range" q) [a, b] [] pos'] [] pos) (tM X.K Wx (mLrg2 ma mb)) := pe_imp (pe_listRg hc hg hm (prg_2 hg2 hm2 ha hb na nb hp) nc) fun σ H Q h => by
  obtain ⟨ι, ρ, g, hs, hg, h⟩ := h
  refine tM_mono (go1 hs hg h) fun x H1 ⟨ι1, w1, g1, p1, r1, hg1, h1⟩ => ?_
  refine tM_mono (go1 (hs.mono p1) hg1 h1) fun y H2 ⟨ι2, w2, g2, p2, r2, hg2, h2⟩ => ?_
  dsimp only at h2
  split at h2
  · cases (show x = _ from r1)
    cases (show y = _ from r2)
    split at h2
    · rename_i hz
      refine ⟨_, _, rfl, rfl, rgOk_of hz, fun p hp => ?_⟩
      exact h2 (ι2 ++ [p]) _ _ (Pre.snoc _ _) (hg2.newW p) (hg2.new hp rfl ⟨_, rel_rg _ _, upd_same⟩)
    · exact h2.elim
  · exact h2.elim
/-! ### methods of lists -/
theorem t_append : MtR X "list.append" (rMm X.K mtAppend) := by
  intro pins s σ H x xs v us Q I rx rv ⟨Wx, ι, w, ws, g, hx, hxs, hg, h⟩
  unfold mtAppend at h
  split at h
  · obtain ⟨a', ea, rfl⟩ := hx
    obtain ⟨y, rfl, ry⟩ := relL1 hxs
    split at h
    · rename_i ws q
      split at h
      · rename_i hz
        obtain ⟨vs, rl, hl⟩ := hg.lst q ea
        refine mt_append pins s σ H _ _ v us Q I rx rv ⟨_, _, _, rfl, rfl, hl, by rw [← rl.length]; exact sz_lt hz, ?_⟩
        exact h ι _ _ (Pre.refl _) rfl (hg.put q ea rfl rfl ⟨_, rl.append (.cons ry .nil), upd_same⟩)
      · exact h.elim
    · exact h.elim
  · exact h.elim
theorem t_pop : MtR X "list.pop" (rMm X.K mtPop) := by
  intro pins s σ H x xs v us Q I rx rv ⟨Wx, ι, w, ws, g, hx, hxs, hg, h⟩
  unfold mtPop at h
  split at h
  · obtain ⟨a', ea, rfl⟩ := hx
    obtain ⟨y, rfl, ry⟩ := relL1 hxs
    cases (show y = _ from ry)
    split at h
    · rename_i ws q
      split at h
      · rename_i k q2
        split at h
        · rename_i y q3
          split at h
          · rename_i hz
            obtain ⟨vs, rl, hl⟩ := hg.lst q ea
            obtain ⟨z, e1, r1⟩ := rl.get q3
            have e2 := q2
            rw [ixN_eq, rl.length] at e2
            refine mt_popAt pins s σ H _ _ v us Q I rx rv ⟨_, _, _, _, _, rfl, rfl, hl, hz.1, hz.2, (ixN_seq e2).1, e1, ?_⟩
            exact h ι _ _ (Pre.refl _) r1 (hg.put q ea rfl rfl ⟨_, rl.erase k, upd_same⟩)
          · exact h.elim
        · exact h.elim
      · exact h.elim
    · exact h.elim
  · exact h.elim
theorem t_extend : MtR X "list.extend" (rMm X.K mtExtend) := by
  intro pins s σ H x xs v us Q I rx rv ⟨Wx, ι, w, ws, g, hx, hxs, hg, h⟩
  unfold mtExtend at h
  split at h
  · obtain ⟨a', ea, rfl⟩ := hx
    obtain ⟨y, rfl, ry⟩ := relL1 hxs
    obtain ⟨b', eb, rfl⟩ := ry
    split at h
    · rename_i ws zs q q2
      split at h
      · rename_i hz
        obtain ⟨vs, rl, hl⟩ := hg.lst q ea
        obtain ⟨us', rl2, hl2⟩ := hg.lst q2 eb
        refine mt_extend pins s σ H _ _ v us Q I rx rv ⟨_, _, _, _, rfl, rfl, hl, hl2, by rw [← rl.length, ← rl2.length]; exact sz_eq hz, ?_⟩
        exact h ι _ _ (Pre.refl _) rfl (hg.put q ea rfl rfl ⟨_, rl.append rl2, upd_same⟩)
      · exact h.elim
    · exact h.elim
  · exact h.elim
theorem findF_spec {x : W} : ∀ {ws : List W} {k : Nat}, findF x ws = some k → ∃ z, ws[k]? = some z ∧ eqF z x = true ∧ ∀ m z', m < k → ws[m]? = some z' → eqF z' x = false
  | [], _, e => by cases e
  | y :: r, k, e => by
    unfold findF at e
    split at e
    · rename_i hy
      cases e
      exact ⟨y, rfl, hy, fun m z' hm => absurd hm (Nat.not_lt_zero m)⟩
    · rename_i hy
      cases q : findF x r with
      | none => rw [q] at e; cases e
      | some j =>
        rw [q] at e
        cases e
        obtain ⟨z, h1, h2, h3⟩ := findF_spec q
        refine ⟨z, by simpa using h1, h2, fun m z' hm e' => ?_⟩
        cases m with
        | zero =>
          simp at e'
          subst e'
          simpa using hy
        | succ m => exact h3 m z' (by have : m + 1 < j + 1 := hm; omega) (by simpa using e')
theorem t_index : MtR X "list.index" (rMm X.K mtIndex) := by
  intro pins s σ H x xs v us Q I rx rv ⟨Wx, ι, w, ws, g, hx, hxs, hg, h⟩
  unfold mtIndex at h
  split at h
  · obtain ⟨a', ea, rfl⟩ := hx
    obtain ⟨y, rfl, ry⟩ := relL1 hxs
    split at h
    · rename_i ws q
      split at h
      · rename_i f
        rw [Bool.and_eq_true] at f
        split at h
        · rename_i k q2
          obtain ⟨z, h1, h2, h3⟩ := findF_spec q2
          obtain ⟨vs, rl, hl⟩ := hg.lstAt q ea
          obtain ⟨z', e1, r1⟩ := rl.get h1
          have fz : flat z = true := List.all_eq_true.mp f.2 z (List.mem_of_getElem? h1)
          refine mt_index pins s σ H _ _ v us Q I rx rv ⟨_, _, _, _, _, rfl, rfl, hl, flat_rel ry f.1, flats_rel rl f.2, e1, ?_, fun m zz hm em => ?_, h ι _ _ (Pre.refl _) rfl hg⟩
          · rw [eqF_rel r1 ry fz f.1]
            exact h2
          · obtain ⟨ww, ew, rw'⟩ := rl.getV em
            rw [eqF_rel rw' ry (List.all_eq_true.mp f.2 ww (List.mem_of_getElem? ew)) f.1]
            exact h3 m ww hm ew
        · exact h.elim
      · exact h.elim
    · exact h.elim
  · exact h.elim
theorem isL_rel {K : Frag} {ι : List Addr} {g : G} {H : Hp} (hg : RelG K ι g H) {w : W} {v : V} (r : RelW K ι w v) (h : isL g w = true) : tyV K "list" v H := by
  cases w with
  | ref n =>
    obtain ⟨a', ea, rfl⟩ := r
    unfold isL at h
    cases q : lstAt g n with
    | none =>
      have h' : (lstAt g n).isSome = true := h
      rw [q] at h'
      cases h'
    | some ws =>
      obtain ⟨vs, rl, hl⟩ := hg.lstAt q ea
      exact .inl ⟨rfl, _, hl⟩
  | _ => cases h
/-- xs.m(e, ..), xs a list -/
theorem m_mt {o : Expr} {mo : ME} {name : PySem.Str} {id : String} {f : W → List W → G → Res W} {apos cpos : Pos} (hm : MtR X id (rMm X.K f)) (slot : Slot "list" name id) (hty : typeOf (.builtin id) = pure (.type "method_descriptor")) (ho : PE X o (tM X.K Wx mo)) (ha : PA X (e :: es) (tMa X.K Wx mas))
    (hbase : attributeBase o name X.env (eval o X.env) = eval o X.env := by rfl)
    (hfew : ((backTo cpos (starEach (e :: es) X.env)).all (fun x => !x.1) && (backToKw cpos (keywordEach [] X.env)).all (fun x => x.1.isSome)
      && decide ((e :: es).length + ([] : List Keyword).length + (if ([] : List Keyword).isEmpty then 0 else 1) < 30)) = true := by rfl)
    (hline : (apos.endLine == cpos.line) = true := by rfl) (hs : starEach (e :: es) X.env = (false, eval e X.env) :: starEach es X.env := by rfl) (hplain : (backTo cpos (starEach es X.env)).any (·.1) = false := by rfl) :
    PE X (.Call (.Attribute o name apos) (e :: es) [] cpos) (tM X.K Wx (mMt f mo mas)) := pe_imp (pe_bm PySem.F.plainAttrs_list slot hty hm ho ha hbase hfew hline hs hplain) fun σ H Q h => by
  obtain ⟨ι, ρ, g, hs, hg, h⟩ := h
  refine tM_mono (go1 hs hg h) fun x H1 ⟨ι1, w1, g1, p1, r1, hg1, h1⟩ => ?_
  dsimp only at h1
  split at h1
  · rename_i hl
    refine ⟨isL_rel hg1 r1 hl, ?_⟩
    refine tMa_mono (goA (hs.mono p1) hg1 h1) fun xs H2 ⟨ι2, w2, g2, p2, r2, hg2, h2⟩ => ?_
    exact ⟨_, ι2, w1, w2, g2, r1.mono p2, r2, hg2, h2⟩
  · exact h1.elim
end
end M
/-! MLoops: iterators, comprehensions, targets, statements, defs. -/
namespace M
open PySem PySem.Spec PyProof.Rows L2
/-! ### iterators -/
def ItR (K : Frag) (ι : List Addr) (it : M.It) (J : L2.It) : Prop := ∀ (ι' : List Addr) (g : G) (H : Hp), Pre ι ι' → RelG K ι' g H → ∀ i : Nat, match itAt it i g with
  | .stop => J.stop i H
  | .go w g' => J.go i H ∧ ∀ x H', J.yld i H x H' → ∃ κ, Pre ι' κ ∧ RelW K κ w x ∧ RelG K κ g' H'
  | .bad => True
def tMi (K : Frag) (Wx : WX) (m : MI) : TI := fun σ H R => ∃ ι ρ g, RelS K ι ρ σ ∧ RelG K ι g H ∧ Aft K ι (fun c d H => Wx c d σ H) (ItR K) (m ρ g) R
theorem pi_imp {X : Cx} {tg e : Expr} {t t' : TI} (h : PI X tg e t) (i : ∀ σ H R, t' σ H R → t σ H R) : PI X tg e t' := ⟨fun pins s σ H R I q => h.run pins s σ H R I (i σ H R q)⟩
theorem itR_lst {K : Frag} {ι : List Addr} {n : Nat} {a : Addr} (ea : ι[n]? = some a) : ItR K ι (.lst n) (Itl K a) := fun ι' g H p hg i => by
  dsimp only [itAt]
  split
  · rename_i heq
    split at heq
    · rename_i ws q
      split at heq
      · cases heq
      · rename_i q2
        obtain ⟨vs, rl, hl⟩ := hg.lstAt q (p.at_ ea)
        exact ⟨vs, hl, by rw [← rl.length]; exact List.getElem?_eq_none_iff.mp q2⟩
    · cases heq
  · rename_i w g' heq
    split at heq
    · rename_i ws q
      split at heq
      · rename_i w' q2
        cases heq
        obtain ⟨vs, rl, hl⟩ := hg.lstAt q (p.at_ ea)
        obtain ⟨v, e1, r1⟩ := rl.get q2
        refine ⟨⟨vs, v, hl, e1⟩, fun x H' hy => ?_⟩
        obtain ⟨rfl, hy⟩ := hy
        have e2 := hy vs hl
        rw [e1] at e2
        cases e2
        exact ⟨ι', Pre.refl _, r1, hg⟩
      · cases heq
    · cases heq
  · trivial
theorem itR_tup {K : Frag} {ι : List Addr} {n : Nat} {a : Addr} (ea : ι[n]? = some a) : ItR K ι (.tup n) (Itt K a) := fun ι' g H p hg i => by
  dsimp only [itAt]
  split
  · rename_i heq
    split at heq
    · rename_i ws q
      split at heq
      · cases heq
      · rename_i q2
        obtain ⟨vs, rl, hl⟩ := hg.tupAt q (p.at_ ea)
        exact ⟨vs, hl, by rw [← rl.length]; exact List.getElem?_eq_none_iff.mp q2⟩
    · cases heq
  · rename_i w g' heq
    split at heq
    · rename_i ws q
      split at heq
      · rename_i w' q2
        cases heq
        obtain ⟨vs, rl, hl⟩ := hg.tupAt q (p.at_ ea)
        obtain ⟨v, e1, r1⟩ := rl.get q2
        refine ⟨⟨vs, v, hl, e1⟩, fun x H' hy => ?_⟩
        obtain ⟨rfl, hy⟩ := hy
        have e2 := hy vs hl
        rw [e1] at e2
        cases e2
        exact ⟨ι', Pre.refl _, r1, hg⟩
      · cases heq
    · cases heq
  · trivial
theorem itR_rng {K : Frag} {ι : List Addr} (lo : Int) (n : Nat) : ItR K ι (.rng lo n) (Itr lo n) := fun ι' g H p hg i => by
  dsimp only [itAt]
  by_cases h : i < n
  · rw [if_pos h]
    refine ⟨h, fun x H' hy => ?_⟩
    obtain ⟨rfl, rfl⟩ := hy
    exact ⟨ι', Pre.refl _, rfl, hg⟩
  · rw [if_neg h]
    exact Nat.le_of_not_lt h
theorem itR_rngC {K : Frag} {ι : List Addr} (lo c : Int) (n : Nat) : ItR K ι (.rngC lo c n) (Itc lo c n) := fun ι' g H p hg i => by
  dsimp only [itAt]
  by_cases h : i < n
  · rw [if_pos h]
    refine ⟨h, fun x H' hy => ?_⟩
    obtain ⟨rfl, rfl⟩ := hy
    exact ⟨ι', Pre.refl _, rfl, hg⟩
  · rw [if_neg h]
    exact Nat.le_of_not_lt h
theorem itR_enum {K : Frag} {ι : List Addr} {n : Nat} {a : Addr} (ea : ι[n]? = some a) : ItR K ι (.enum n) (Ite K a) := fun ι' g H p hg i => by
  dsimp only [itAt]
  split
  · rename_i heq
    split at heq
    · rename_i ws q
      split at heq
      · cases heq
      · rename_i q2
        obtain ⟨vs, rl, hl⟩ := hg.lstAt q (p.at_ ea)
        exact ⟨vs, hl, by rw [← rl.length]; exact List.getElem?_eq_none_iff.mp q2⟩
    · cases heq
  · rename_i w g' heq
    split at heq
    · rename_i ws q
      split at heq
      · rename_i w' q2
        cases heq
        obtain ⟨vs, rl, hl⟩ := hg.lstAt q (p.at_ ea)
        obtain ⟨v, e1, r1⟩ := rl.get q2
        refine ⟨⟨vs, v, hl, e1⟩, fun x H' hy => ?_⟩
        obtain ⟨T, z, rfl, hT, rfl, hy⟩ := hy
        have e2 := hy vs hl
        rw [e1] at e2
        cases e2
        exact ⟨ι' ++ [T], Pre.snoc _ _, hg.newW T, hg.new hT rfl ⟨_, .cons rfl (.cons (r1.mono (Pre.snoc _ _)) .nil), upd_same⟩⟩
      · cases heq
    · cases heq
  · trivial
theorem itR_zip {K : Frag} {ι : List Addr} {n m : Nat} {a b : Addr} (ea : ι[n]? = some a) (eb : ι[m]? = some b) : ItR K ι (.zip n m) (Itz K a b) := fun ι' g H p hg i => by
  dsimp only [itAt]
  split
  · rename_i heq
    split at heq
    · rename_i ws us q q'
      obtain ⟨vs, rl, hl⟩ := hg.lstAt q (p.at_ ea)
      obtain ⟨xs, rl', hl'⟩ := hg.lstAt q' (p.at_ eb)
      split at heq
      · cases heq
      · rename_i q2
        refine ⟨vs, xs, hl, hl', ?_⟩
        rw [← rl.length, ← rl'.length]
        cases e1 : ws[i]? with
        | none => exact .inl (List.getElem?_eq_none_iff.mp e1)
        | some w =>
          cases e2 : us[i]? with
          | none => exact .inr (List.getElem?_eq_none_iff.mp e2)
          | some u => exact absurd e2 (q2 w u e1)
    · cases heq
  · rename_i w g' heq
    split at heq
    · rename_i ws us q q'
      obtain ⟨vs, rl, hl⟩ := hg.lstAt q (p.at_ ea)
      obtain ⟨xs, rl', hl'⟩ := hg.lstAt q' (p.at_ eb)
      split at heq
      · rename_i w' u' q2 q3
        cases heq
        obtain ⟨v, e1, r1⟩ := rl.get q2
        obtain ⟨v', e1', r1'⟩ := rl'.get q3
        refine ⟨⟨vs, xs, v, v', hl, hl', e1, e1'⟩, fun x H' hy => ?_⟩
        obtain ⟨T, z, z', rfl, hT, rfl, hy, hy'⟩ := hy
        have e2 := hy vs hl
        rw [e1] at e2
        cases e2
        have e2 := hy' xs hl'
        rw [e1'] at e2
        cases e2
        exact ⟨ι' ++ [T], Pre.snoc _ _, hg.newW T, hg.new hT rfl ⟨_, .cons (r1.mono (Pre.snoc _ _)) (.cons (r1'.mono (Pre.snoc _ _)) .nil), upd_same⟩⟩
      · cases heq
    · cases heq
  · trivial
section
variable {X : Cx} {Wx : WX} {pos p2 p : Pos} {a b c e tg : Expr} {ma mb mc m : ME} {es : List Expr} {mas mks : MA}
theorem m_iLst (he : PE X e (tM X.K Wx m)) : PI X tg e (tMi X.K Wx (iLst m)) := pi_imp (pi_list he) fun σ H R ⟨ι, ρ, g, hs, hg, h⟩ => by
  refine tM_mono (go1 hs hg h) fun x H1 ⟨ι1, w1, g1, p1, r1, hg1, h1⟩ => ?_
  dsimp only at h1
  split at h1
  · obtain ⟨a', ea, rfl⟩ := r1
    split at h1
    · rename_i ws q
      obtain ⟨vs, rl, hl⟩ := hg1.lstAt q ea
      exact ⟨a', rfl, ⟨vs, hl⟩, h1 ι1 _ _ (Pre.refl _) (itR_lst ea) hg1⟩
    · exact h1.elim
  · exact h1.elim
theorem m_iTup (he : PE X e (tM X.K Wx m)) : PI X tg e (tMi X.K Wx (iTup m)) := pi_imp (pi_tup he) fun σ H R ⟨ι, ρ, g, hs, hg, h⟩ => by
  refine tM_mono (go1 hs hg h) fun x H1 ⟨ι1, w1, g1, p1, r1, hg1, h1⟩ => ?_
  dsimp only at h1
  split at h1
  · obtain ⟨a', ea, rfl⟩ := r1
    split at h1
    · rename_i ws q
      obtain ⟨vs, rl, hl⟩ := hg1.tupAt q ea
      exact ⟨a', rfl, ⟨vs, hl⟩, h1 ι1 _ _ (Pre.refl _) (itR_tup ea) hg1⟩
    · exact h1.elim
  · exact h1.elim
theorem inR_of {i : Int} (h : inR i = true) : -(2 ^ 62) ≤ i ∧ i < 2 ^ 62 := by
  unfold inR at h
  simp only [Bool.and_eq_true, decide_eq_true_eq] at h
  exact h
theorem m_iRng1 (hm : X.mg "range" = none) (ha : PA X [a] (tMa X.K Wx mas)) (hg : Gl X "range" := by rfl) (hs : starEach [a] X.env = [(false, eval a X.env)] := by rfl) : PI X tg (.Call (.Name "range" p) [a] [] pos) (tMi X.K Wx (iRng1 mas)) :=
  pi_imp (pi_range1 hg hm ha hs) fun σ H R ⟨ι, ρ, g, hs, hg, h⟩ => by
    refine tMa_mono (goA hs hg h) fun x H1 ⟨ι1, w1, g1, p1, r1, hg1, h1⟩ => ?_
    dsimp only at h1
    split at h1
    · obtain ⟨v, rfl, r⟩ := relL1 r1
      cases (show v = _ from r)
      split at h1
      · rename_i hz
        obtain ⟨z1, z2⟩ := inR_of hz
        exact ⟨_, rfl, z1, z2, h1 ι1 _ _ (Pre.refl _) (itR_rng _ _) hg1⟩
      · exact h1.elim
    · exact h1.elim
theorem m_iRng2 (hm : X.mg "range" = none) (ha : PA X [a, b] (tMa X.K Wx mas)) (hg : Gl X "range" := by rfl) (hs : starEach [a, b] X.env = [(false, eval a X.env), (false, eval b X.env)] := by rfl) (hs2 : starEach [b] X.env = [(false, eval b X.env)] := by rfl) :
    PI X tg (.Call (.Name "range" p) [a, b] [] pos) (tMi X.K Wx (iRng2 mas)) :=
  pi_imp (pi_range2 hg hm ha hs hs2) fun σ H R ⟨ι, ρ, g, hs, hg, h⟩ => by
    refine tMa_mono (goA hs hg h) fun x H1 ⟨ι1, w1, g1, p1, r1, hg1, h1⟩ => ?_
    dsimp only at h1
    split at h1
    · obtain ⟨v, v', rfl, r, r'⟩ := relL2 r1
      cases (show v = _ from r)
      cases (show v' = _ from r')
      split at h1
      · rename_i hz
        rw [Bool.and_eq_true] at hz
        obtain ⟨z1, z2⟩ := inR_of hz.1
        obtain ⟨z3, z4⟩ := inR_of hz.2
        exact ⟨_, _, rfl, ⟨z1, z2, z3, z4⟩, h1 ι1 _ _ (Pre.refl _) (itR_rng _ _) hg1⟩
      · exact h1.elim
    · exact h1.elim
theorem relL3 {K : Frag} {ι : List Addr} {w w' w'' : W} {vs : List V} (r : RelL K ι [w, w', w''] vs) : ∃ v v' v'', vs = [v, v', v''] ∧ RelW K ι w v ∧ RelW K ι w' v' ∧ RelW K ι w'' v'' := by
  cases r with
  | cons r t =>
    obtain ⟨v', v'', rfl, r', r''⟩ := relL2 t
    exact ⟨_, _, _, rfl, r, r', r''⟩
theorem m_iRng3 (hm : X.mg "range" = none) (ha : PA X [a, b, c] (tMa X.K Wx mas)) (hg : Gl X "range" := by rfl) (hs : starEach [a, b, c] X.env = (false, eval a X.env) :: starEach [b, c] X.env := by rfl) (hpl : (backTo pos (starEach [b, c] X.env)).any (·.1) = false := by rfl) :
    PI X tg (.Call (.Name "range" p) [a, b, c] [] pos) (tMi X.K Wx (iRng3 mas)) :=
  pi_imp (pi_range3 hg hm ha hs hpl) fun σ H R ⟨ι, ρ, g, hs, hg, h⟩ => by
    refine tMa_mono (goA hs hg h) fun x H1 ⟨ι1, w1, g1, p1, r1, hg1, h1⟩ => ?_
    dsimp only at h1
    split at h1
    · obtain ⟨v, v', v'', rfl, r, r', r''⟩ := relL3 r1
      cases (show v = _ from r)
      cases (show v' = _ from r')
      cases (show v'' = _ from r'')
      split at h1
      · rename_i hz
        rw [Bool.and_eq_true, Bool.and_eq_true] at hz
        obtain ⟨z1, z2⟩ := inR_of hz.1.1
        obtain ⟨z3, z4⟩ := inR_of hz.1.2
        have z5 := of_decide_eq_true hz.2
        subst z5
        exact ⟨_, _, _, _, rfl, RgC.neg z1 z2 z3 z4, h1 ι1 _ _ (Pre.refl _) (itR_rngC _ _ _) hg1⟩
      · exact h1.elim
    · exact h1.elim
theorem m_iEnum {elts : List Expr} {kk : Nat} {tpos : Pos} (hm : X.mg "enumerate" = none) (ha : PA X [e] (tMa X.K Wx mas)) (hg : Gl X "enumerate" := by rfl) (hs : starEach [e] X.env = [(false, eval e X.env)] := by rfl) : PI X (.Tuple elts kk tpos) (.Call (.Name "enumerate" p) [e] [] pos) (tMi X.K Wx (iEnum mas)) :=
  pi_imp (pi_enum hg hm ha hs) fun σ H R ⟨ι, ρ, g, hs, hg, h⟩ => by
    refine tMa_mono (goA hs hg h) fun x H1 ⟨ι1, w1, g1, p1, r1, hg1, h1⟩ => ?_
    dsimp only at h1
    split at h1
    · obtain ⟨v, rfl, r⟩ := relL1 r1
      obtain ⟨a', ea, rfl⟩ := r
      split at h1
      · rename_i ws q
        obtain ⟨vs, rl, hl⟩ := hg1.lstAt q ea
        exact ⟨_, _, rfl, hl, h1 ι1 _ _ (Pre.refl _) (itR_enum ea) hg1⟩
      · exact h1.elim
    · exact h1.elim
theorem m_iZip {elts : List Expr} {kk : Nat} {tpos : Pos} (hm : X.mg "zip" = none) (ha : PA X [a, b] (tMa X.K Wx mas)) (hg : Gl X "zip" := by rfl) (hs : starEach [a, b] X.env = (false, eval a X.env) :: starEach [b] X.env := by rfl) (hpl : (backTo pos (starEach [b] X.env)).any (·.1) = false := by rfl) :
    PI X (.Tuple elts kk tpos) (.Call (.Name "zip" p) [a, b] [] pos) (tMi X.K Wx (iZip mas)) :=
  pi_imp (pi_zip hg hm ha hs hpl) fun σ H R ⟨ι, ρ, g, hs, hg, h⟩ => by
    refine tMa_mono (goA hs hg h) fun x H1 ⟨ι1, w1, g1, p1, r1, hg1, h1⟩ => ?_
    dsimp only at h1
    split at h1
    · obtain ⟨v, v', rfl, r, r'⟩ := relL2 r1
      obtain ⟨a', ea, rfl⟩ := r
      obtain ⟨b', eb, rfl⟩ := r'
      split at h1
      · rename_i ws us q q'
        obtain ⟨vs, rl, hl⟩ := hg1.lstAt q ea
        obtain ⟨xs, rl', hl'⟩ := hg1.lstAt q' eb
        exact ⟨_, _, _, _, rfl, hl, hl', h1 ι1 _ _ (Pre.refl _) (itR_zip ea eb) hg1⟩
      · exact h1.elim
    · exact h1.elim
/-! ### targets -/
/-- only the slots vs may have changed -/
def Ch (vs : List Nat) (σ σ' : L2.St) : Prop := σ'.length = σ.length ∧ ∀ i, i ∉ vs → σ'[i]? = σ[i]?
theorem Ch.refl (vs : List Nat) (σ : L2.St) : Ch vs σ σ := ⟨rfl, fun _ _ => rfl⟩
theorem Ch.trans {vs : List Nat} {a b c : L2.St} (h : Ch vs a b) (h' : Ch vs b c) : Ch vs a c := ⟨h'.1.trans h.1, fun i hi => (h'.2 i hi).trans (h.2 i hi)⟩
theorem Ch.set {vs : List Nat} {σ : L2.St} {i : Nat} (hi : i ∈ vs) (v : Option V) : Ch vs σ (σ.set i v) := ⟨by simp, fun j hj => by
  have : i ≠ j := fun z => hj (z ▸ hi)
  rw [List.getElem?_set_ne this]⟩
theorem wipe_in {σ : L2.St} {i : Nat} : ∀ {vs : List Nat}, i ∈ vs → i < σ.length → (L2.wipe σ vs)[i]? = some none
  | [], h, _ => nomatch h
  | v :: vs, h, hl => by
    show ((L2.wipe σ vs).set v none)[i]? = some none
    by_cases q : v = i
    · subst q
      rw [List.getElem?_set_self (by rw [wipe_length]; exact hl)]
    · rw [List.getElem?_set_ne q]
      rcases List.mem_cons.mp h with rfl | h
      · exact absurd rfl q
      · exact wipe_in h hl
theorem Ch.wipe {vs : List Nat} {σ σ' : L2.St} (h : Ch vs σ σ') : L2.wipe σ' vs = L2.wipe σ vs := by
  apply List.ext_getElem?
  intro i
  by_cases hi : i ∈ vs
  · by_cases hl : i < σ.length
    · rw [wipe_in hi hl, wipe_in hi (by rw [h.1]; exact hl)]
    · rw [List.getElem?_eq_none_iff.mpr (by rw [wipe_length, h.1]; omega), List.getElem?_eq_none_iff.mpr (by rw [wipe_length]; omega)]
  · rw [wipe_out hi, wipe_out hi, h.2 i hi]
theorem wipe_wipe (σ : L2.St) (vs : List Nat) : L2.wipe (L2.wipe σ vs) vs = L2.wipe σ vs := Ch.wipe ⟨wipe_length σ vs, fun i hi => wipe_out hi⟩
def tMgV (K : Frag) (vs : List Nat) (t : MG) : TG := fun v σ H Q => ∃ ι w ρ g, RelW K ι w v ∧ RelS K ι ρ σ ∧ RelG K ι g H ∧ Aft K ι (fun _ _ _ => False) (fun κ (ρ' : Env) (σ' : L2.St) => RelS K κ ρ' σ' ∧ Ch vs σ σ') (t w ρ g) Q
variable {vs : List Nat} {g1 : MG} {gs : List MG}
theorem m_gName (i : Nat) {x : PySem.Str} (hN : X.N.Nodup) (hi : X.N[i]? = some x := by rfl) (hx : Loc X.env.scope x := by first | exact Or.inl rfl | exact Or.inr rfl) (hv : i ∈ vs := by decide) (hf : X.fn x = true ∨ X.env.scope.names.lookup x = some .local := by first | exact .inl rfl | exact .inr rfl | assumption) :
    PG X (.Name x pos) (tMgV X.K vs (M.gName i)) := pg_imp (pg_name hN hi hx hf) fun v σ H Q ⟨ι, w, ρ, g, r, hs, hg, h⟩ => h ι _ _ (Pre.refl _) ⟨hs.put i r, Ch.set hv _⟩ hg
def tMgs (K : Frag) (vs : List Nat) (ts : List MG) : TGs := fun xs σ H Q => ∃ ι ws ρ g, RelL K ι ws xs ∧ RelS K ι ρ σ ∧ RelG K ι g H ∧ Aft K ι (fun _ _ _ => False) (fun κ (ρ' : Env) (σ' : L2.St) => RelS K κ ρ' σ' ∧ Ch vs σ σ') (gTups ts ws ρ g) Q
theorem pgs_imp {es : List Expr} {t t' : TGs} (h : PGs X es t) (i : ∀ xs σ H Q, t' xs σ H Q → t xs σ H Q) : PGs X es t' := ⟨fun pins s σ H xs us Q I r q => h.run pins s σ H xs us Q I r (i xs σ H Q q)⟩
theorem m_gnil : PGs X [] (tMgs X.K vs []) := pgs_imp pgs_nil fun xs σ H Q ⟨ι, ws, ρ, g, r, hs, hg, h⟩ => by
  cases r with
  | nil => exact ⟨rfl, h ι _ _ (Pre.refl _) ⟨hs, Ch.refl _ _⟩ hg⟩
  | cons r t => exact h.elim
theorem m_gcons (h1 : PG X e (tMgV X.K vs g1)) (h2 : PGs X es (tMgs X.K vs gs)) (hs : (assignEach (e :: es) X.env).map (·.2) = assign e X.env :: (assignEach es X.env).map (·.2) := by rfl) : PGs X (e :: es) (tMgs X.K vs (g1 :: gs)) :=
  pgs_imp (pgs_cons h1 h2 hs) fun xs σ H Q ⟨ι, ws, ρ, g, r, hs, hg, h⟩ => by
    cases r with
    | nil => exact h.elim
    | cons r t =>
      have h : Aft X.K ι (fun _ _ _ => False) (fun κ (ρ' : Env) (σ' : L2.St) => RelS X.K κ ρ' σ' ∧ Ch vs σ σ') ((g1 _ ρ g).bind fun ρ1 g1 => gTups gs _ ρ1 g1) Q := h
      refine ⟨_, _, rfl, ι, _, ρ, g, r, hs, hg, ?_⟩
      refine Aft.mono (Aft.of_bind (Rl := fun κ (ρ' : Env) (σ' : L2.St) => RelS X.K κ ρ' σ' ∧ Ch vs σ σ') h) fun σ1 H1 ⟨ι1, ρ1, g1', p1, r1, hg1, h1⟩ => ?_
      refine ⟨ι1, _, ρ1, g1', RelL.mono p1 t, r1.1, hg1, ?_⟩
      dsimp only at h1
      revert h1
      generalize gTups gs _ ρ1 g1' = rr
      intro h1
      cases rr with
      | ok w g => exact fun κ v H p q z => h1 κ v H p ⟨q.1, r1.2.trans q.2⟩ z
      | ex e g => exact h1
      | bad => exact h1
theorem gTups_len {gs : List MG} {ws : List W} {ρ : Env} {g : G} : True := trivial
theorem m_gTup {k : Nat} (hc : X.calm = true) (h : PGs X es (tMgs X.K vs gs)) (hl : gs.length = es.length := by rfl) (hn : (assignEach es X.env).length = es.length := by rfl) (hst : (assignEach es X.env).findIdx? (·.1) = none := by rfl) : PG X (.Tuple es k pos) (tMgV X.K vs (M.gTup gs)) :=
  pg_imp (pg_tup hc h hn hst) fun v σ H Q ⟨ι, w, ρ, g, r, hs, hg, h⟩ => by
    unfold M.gTup at h
    split at h
    · obtain ⟨a', ea, rfl⟩ := r
      split at h
      · rename_i ws q
        split at h
        · rename_i hz
          obtain ⟨us, rl, hu⟩ := hg.tupAt q ea
          exact ⟨a', us, rfl, hu, by rw [← rl.length, hz, hl], ι, ws, ρ, g, rl, hs, hg, h⟩
        · exact h.elim
      · exact h.elim
    · exact h.elim
theorem m_gSub (ho : PE X a (tM X.K (fun _ _ _ _ => False) ma)) (hi : PE X b (tM X.K (fun _ _ _ _ => False) mb)) (ha : ∀ v, assign (.Subscript a b pos) X.env v = (do
      let ov ← holding [v] (eval a X.env)
      let iv ← holding [v, ov] (eval b X.env)
      standAt pos
      holding [v, ov, iv] (setItem ov iv v)
      release [v, ov, iv] []) := by intro _; rfl) : PG X (.Subscript a b pos) (tMgV X.K vs (M.gSub ma mb)) := pg_imp (pg_sub ho hi set_list ha) fun v σ H Q ⟨ι, w, ρ, g, r, hs, hg, h⟩ => by
  refine tM_mono (go1 (Wx := fun _ _ _ _ => False) hs hg h) fun x H1 ⟨ι1, w1, g1, p1, r1, hg1, h1⟩ => ?_
  refine tM_mono (go1 (Wx := fun _ _ _ _ => False) (hs.mono p1) hg1 h1) fun y H2 ⟨ι2, w2, g2, p2, r2, hg2, h2⟩ => ?_
  dsimp only at h2
  split at h2
  · obtain ⟨a', ea, rfl⟩ := r1
    cases (show y = _ from r2)
    split at h2
    · rename_i ws q
      split at h2
      · rename_i j q2
        obtain ⟨us, rl, hl⟩ := hg2.lst q (p2.at_ ea)
        refine ⟨_, _, _, j, rfl, rfl, hl, by rw [← rl.length]; exact q2, ?_⟩
        exact h2 ι2 _ _ (Pre.refl _) ⟨hs.mono (p1.trans p2), Ch.refl _ _⟩ (hg2.put q (p2.at_ ea) rfl rfl ⟨_, RelL.set (r.mono (p1.trans p2)) j rl, upd_same⟩)
      · exact h2.elim
    · exact h2.elim
  · exact h2.elim
/-! ### comprehensions -/
abbrev WF : WX := fun _ _ _ _ => False
theorem lc_imp {K : Frag} {mi : MI} {own : List Nat} {tgt : MG} {tt : MT} {el : ME} {σ : L2.St} {H : Hp} {Q : VK} (h : tM K Wx (mLc mi own tgt tt el) σ H Q) : tLc (tMi K Wx mi) (tMgV K own tgt) (tMt K WF tt) (tM K WF el) own σ H Q := by
  obtain ⟨ι, ρ, g, hs, hg, h⟩ := h
  refine ⟨ι, ρ, g, hs, hg, (Aft.of_bind (Rl := ItR K) h).mono fun J H1 ⟨ι1, it, g1, p1, rJ, hg1, h1⟩ D hD => ?_⟩
  have hs0 : RelS K ι1 (M.wipe ρ own) (L2.wipe σ own) := (hs.mono p1).wipe own
  refine ⟨fun i m H => ∃ ι' g', Pre ι1 ι' ∧ RelG K ι' g' H ∧ ι'[g1.length]? = some D ∧ Aft K ι' (fun c d H => Wx c d σ H) (RelW K) (lcGo it tgt tt el (M.wipe ρ own) g1.length m i g') Q, ⟨_, ι1 ++ [D], _, Pre.snoc _ _, hg1.newL hD .nil, hg1.newAt D, h1.pre (Pre.snoc _ _)⟩, fun i m H2 hW => ?_⟩
  obtain ⟨ι2, g2, p2, hg2, eD, h2⟩ := hW
  have hJ := rJ ι2 g2 H2 p2 hg2 i
  cases m with
  | zero =>
    unfold lcGo at h2
    split at h2
    · rename_i q
      rw [q] at hJ
      exact .inl ⟨hJ, h2 ι2 _ _ (Pre.refl _) ⟨D, eD, rfl⟩ hg2⟩
    · exact h2.elim
  | succ m =>
    unfold lcGo at h2
    split at h2
    · rename_i q
      rw [q] at hJ
      exact .inl ⟨hJ, h2 ι2 _ _ (Pre.refl _) ⟨D, eD, rfl⟩ hg2⟩
    · exact h2.elim
    · rename_i w g3 q
      rw [q] at hJ
      obtain ⟨hgo, hy⟩ := hJ
      refine .inr ⟨hgo, fun H' => ∃ ι' g', Pre ι1 ι' ∧ RelG K ι' g' H' ∧ ι'[g1.length]? = some D ∧ Aft K ι' (fun c d H => Wx c d σ H) (RelW K) (lcGo it tgt tt el (M.wipe ρ own) g1.length m (i + 1) g') Q, fun H' hN => ⟨m, Nat.lt_succ_self m, hN⟩, fun x H' hyld => ?_⟩
      obtain ⟨ι3, p3, r3, hg3⟩ := hy x H' hyld
      split at h2
      · rename_i ρ1 g4 q4
        refine ⟨ι3, w, _, g3, r3, hs0.mono (p2.trans p3), hg3, ?_⟩
        rw [q4]
        intro ι4 σ2 H4 p4 r4 hg4
        refine ⟨by rw [r4.2.wipe, wipe_wipe], ι4, ρ1, g4, r4.1, hg4, ?_⟩
        split at h2
        · rename_i g5 q5
          rw [q5]
          intro ι5 b H5 p5 r5 hg5
          subst r5
          rw [if_pos rfl]
          split at h2
          · rename_i y g6 q6
            refine ⟨ι5, ρ1, g5, r4.1.mono p5, hg5, ?_⟩
            rw [q6]
            intro ι6 v H6 p6 r6 hg6
            split at h2
            · rename_i acc q7
              split at h2
              · rename_i hz
                have e6 : ι6[g1.length]? = some D := p6.at_ (p5.at_ (p4.at_ (p3.at_ eD)))
                obtain ⟨us, rl, hl⟩ := hg6.lst q7 e6
                refine ⟨us, hl, by rw [← rl.length]; exact sz_lt hz, ι6, _, p2.trans (p3.trans (p4.trans (p5.trans p6))), hg6.putL q7 e6 (rl.append (.cons r6 .nil)), e6, h2.pre (p3.trans (p4.trans (p5.trans p6)))⟩
              · exact h2.elim
            · exact h2.elim
          · exact h2.elim
        · rename_i g5 q5
          rw [q5]
          intro ι5 b H5 p5 r5 hg5
          subst r5
          rw [if_neg Bool.false_ne_true]
          exact ⟨ι5, g5, p2.trans (p3.trans (p4.trans p5)), hg5, p5.at_ (p4.at_ (p3.at_ eD)), h2.pre (p3.trans (p4.trans p5))⟩
        · exact h2.elim
      · exact h2.elim
theorem m_lc {elt iter : Expr} {ifs : List Expr} {scope : Scope} {own : List (PySem.Str × Nat)} {mi : MI} {tgt : MG} {tt : MT} {el : ME} (hN : X.N.Nodup) (hi : PI X tg iter (tMi X.K Wx mi)) (ok : BlkOk X.N X.env.scope scope own)
    (hg : ∀ (s : Shared) (H : Hp) (C : Addr) (cl : List (PySem.Str × Addr)) (fp : List Addr), PG (X.blk s H scope (compEnvC scope cl C X.env) fp) tg (tMgV X.K (own.map (·.2)) tgt)) (ht : ∀ (s : Shared) (H : Hp) (C : Addr) (cl : List (PySem.Str × Addr)) (fp : List Addr), PTs (X.blk s H scope (compEnvC scope cl C X.env) fp) ifs (tMt X.K WF tt))
    (he : ∀ (s : Shared) (H : Hp) (C : Addr) (cl : List (PySem.Str × Addr)) (fp : List Addr), PE (X.blk s H scope (compEnvC scope cl C X.env) fp) elt (tM X.K WF el)) (hc : X.calm = true := by rfl) (hs : ∀ x, foldedSetIterable iter X.env x = pure x := by intro _; rfl) :
    PE X (.ListComp elt [⟨tg, iter, ifs, 0⟩] scope pos) (tM X.K Wx (mLc mi (own.map (·.2)) tgt tt el)) := pe_imp (pe_lc hc hN hi ok hg ht he hs) fun _ _ _ h => lc_imp h
theorem pts_imp {ifs : List Expr} {t t' : TT} (h : PTs X ifs t) (i : ∀ σ H Q, t' σ H Q → t σ H Q) : PTs X ifs t' := ⟨fun pins s σ H Q I q => h.run pins s σ H Q I (i σ H Q q)⟩
theorem m_tsNil : PTs X [] (tMt X.K Wx M.tYes) := pts_imp pts_nil fun σ H Q ⟨ι, ρ, g, hs, hg, h⟩ => h ι _ _ (Pre.refl _) rfl hg
theorem m_tsOne {tt : MT} (h : PT X c (tMt X.K Wx tt)) : PTs X [c] (tMt X.K Wx tt) := pts_one h
/-! ### statements -/
variable {st : Stmt} {rest sa sb : List Stmt} {s1 s2 sm : MS} {tt : MT}
theorem m_nil : PSs X [] (tMs X.K Wx sNop) := pss_imp pss_nil fun D σ H ⟨ι, ρ, g, hs, hg, h⟩ => h ι _ _ (Pre.refl _) hs hg
theorem m_pass : PS X (.Pass pos) (tMs X.K Wx sNop) := ps_imp ps_pass fun D σ H ⟨ι, ρ, g, hs, hg, h⟩ => h ι _ _ (Pre.refl _) hs hg
theorem AftS.mono {K : Frag} {ι : List Addr} {r : SR} {D D' : Ends} (h : AftS K ι Wx r D) (h1 : ∀ σ H, D.nx σ H → D'.nx σ H) (h2 : ∀ v H, D.rt v H → D'.rt v H) (h3 : ∀ σ H, D.bk σ H → D'.bk σ H) (h4 : ∀ σ H, D.ct σ H → D'.ct σ H) : AftS K ι Wx r D' := by
  cases r with
  | fl f g => cases f with
    | nx ρ => exact fun κ σ H q a b => h1 σ H (h κ σ H q a b)
    | rt w => exact fun κ σ H q a b => h2 σ H (h κ σ H q a b)
    | bk ρ => exact fun κ σ H q a b => h3 σ H (h κ σ H q a b)
    | ct ρ => exact fun κ σ H q a b => h4 σ H (h κ σ H q a b)
  | ex e ρ g => exact h
  | bad => exact h
theorem m_cons (h1 : PS X st (tMs X.K Wx s1)) (h2 : PSs X rest (tMs X.K Wx s2)) : PSs X (st :: rest) (tMs X.K Wx (sSeq s1 s2)) := pss_imp (pss_cons h1 h2) fun D σ H ⟨ι, ρ, g, hs, hg, h⟩ => by
  refine ⟨ι, ρ, g, hs, hg, ?_⟩
  unfold sSeq at h
  split at h
  · rename_i ρ1 g1 q
    rw [q]
    exact fun κ σ' H' p r hg' => ⟨κ, ρ1, g1, r, hg', h.pre p⟩
  · rename_i r q
    revert h
    cases rr : s1 ρ g with
    | fl f g => cases f with
      | nx ρ => exact absurd rr (q _ _)
      | rt w => exact fun h => h
      | bk ρ => exact fun h => h
      | ct ρ => exact fun h => h
    | ex e ρ g => exact fun h => h
    | bad => exact fun h => h
theorem m_sone (h1 : PS X st (tMs X.K Wx s1)) : PSs X [st] (tMs X.K Wx s1) := pss_one h1
theorem m_doc {x : PySem.Str} {j : Nat} {pos' : Pos} : PS X (.Expr (.Constant (.str x) j pos) pos') (tMs X.K Wx sNop) := ps_imp ps_doc fun D σ H ⟨ι, ρ, g, hs, hg, h⟩ => h ι _ _ (Pre.refl _) hs hg
theorem m_expr (he : PE X e (tM X.K Wx m)) (hs : swapsWith e none pos.line X.env = pure false := by rfl) : PS X (.Expr e pos) (tMs X.K Wx (sE m)) := ps_imp (ps_expr he hs) fun D σ H ⟨ι, ρ, g, hs, hg, h⟩ => by
  refine ⟨ι, ρ, g, hs, hg, ?_⟩
  unfold sE at h
  split at h
  · rename_i w g1 q
    rw [q]
    exact fun κ v H' p r hg' => h κ σ H' p (hs.mono p) hg'
  · rename_i x g1 q
    rw [q]
    exact fun κ c d H' p r hg' => h κ σ c d H' p (hs.mono p) r hg'
  · exact h.elim
theorem m_ret (he : PE X e (tM X.K Wx m)) : PS X (.Return (some e) pos) (tMs X.K Wx (sRet m)) := ps_imp (ps_ret he) fun D σ H ⟨ι, ρ, g, hs, hg, h⟩ => by
  refine ⟨ι, ρ, g, hs, hg, ?_⟩
  unfold sRet at h
  split at h
  · rename_i w g1 q
    rw [q]
    exact h
  · rename_i x g1 q
    rw [q]
    exact fun κ c d H' p r hg' => h κ σ c d H' p (hs.mono p) r hg'
  · exact h.elim
theorem m_if (hc : PT X c (tMt X.K Wx tt)) (ha : PSs X sa (tMs X.K Wx s1)) (hb : PSs X sb (tMs X.K Wx s2)) : PS X (.If c sa sb pos) (tMs X.K Wx (sIf tt s1 s2)) := ps_imp (ps_if hc ha hb) fun D σ H ⟨ι, ρ, g, hs, hg, h⟩ => by
  refine ⟨ι, ρ, g, hs, hg, ?_⟩
  unfold sIf at h
  split at h
  · rename_i w g1 q
    rw [q]
    intro κ v H' p r hg'
    subst r
    cases w with
    | true =>
      rw [if_pos rfl]
      exact ⟨κ, ρ, g1, hs.mono p, hg', h.pre p⟩
    | false =>
      rw [if_neg Bool.false_ne_true]
      exact ⟨κ, ρ, g1, hs.mono p, hg', h.pre p⟩
  · rename_i x g1 q
    rw [q]
    exact fun κ c d H' p r hg' => h κ σ c d H' p (hs.mono p) r hg'
  · exact h.elim
theorem asg_imp {K : Frag} {tgt : MG} {D : Ends} {σ : L2.St} {H : Hp} (h : tMs K Wx (sAsg m tgt) D σ H) : tAsg (tM K Wx m) (tMgV K vs tgt) D σ H := by
  obtain ⟨ι, ρ, g, hs, hg, h⟩ := h
  refine ⟨ι, ρ, g, hs, hg, ?_⟩
  unfold sAsg at h
  split at h
  · rename_i w g1 q
    rw [q]
    intro κ v H' p r hg'
    refine ⟨κ, w, ρ, g1, r, hs.mono p, hg', ?_⟩
    split at h
    · rename_i ρ1 g2 q2
      rw [q2]
      exact fun κ' σ' H' p' r' hg' => h κ' σ' H' (p.trans p') r'.1 hg'
    · exact h.elim
  · rename_i x g1 q
    rw [q]
    exact fun κ c d H' p r hg' => h κ σ c d H' p (hs.mono p) r hg'
  · exact h.elim
theorem m_asg {tgt : MG} (he : PE X e (tM X.K Wx m)) (hg : PG X tg (tMgV X.K vs tgt)) (hs : swapsWithSole [tg] e pos.line X.env = pure false := by rfl) (hw : swappedStores [tg] e X.env = pure none := by rfl)
    (h1 : (assignEach [tg] X.env).map (·.2) = [assign tg X.env] := by rfl) : PS X (.Assign [tg] e pos) (tMs X.K Wx (sAsg m tgt)) := ps_imp (ps_asg he hg hs hw h1) fun _ _ _ h => asg_imp h
theorem set_imp {K : Frag} {i : Nat} {D : Ends} {σ : L2.St} {H : Hp} (h : tMs K Wx (sAsg m (M.gName i)) D σ H) : tAsg (tM K Wx m) (L2.gName i) D σ H := by
  obtain ⟨ι, ρ, g, hs, hg, h⟩ := h
  refine ⟨ι, ρ, g, hs, hg, ?_⟩
  unfold sAsg M.gName at h
  split at h
  · rename_i w g1 q
    rw [q]
    exact fun κ v H' p r hg' => h κ _ H' p ((hs.mono p).put i r) hg'
  · rename_i x g1 q
    rw [q]
    exact fun κ c d H' p r hg' => h κ σ c d H' p (hs.mono p) r hg'
  · exact h.elim
theorem m_set (i : Nat) {x : PySem.Str} {pos' : Pos} (hN : X.N.Nodup) (he : PE X e (tM X.K Wx m)) (hi : X.N[i]? = some x := by rfl) (hx : Loc X.env.scope x := by first | exact Or.inl rfl | exact Or.inr rfl) (hs : swapsWith e (some (.Name x pos')) pos.line X.env = pure false := by rfl) (hf : X.fn x = true ∨ X.env.scope.names.lookup x = some .local := by first | exact .inl rfl | exact .inr rfl | assumption) :
    PS X (.Assign [.Name x pos'] e pos) (tMs X.K Wx (sAsg m (M.gName i))) := ps_imp (ps_set hN hi hx he hs hf) fun _ _ _ h => set_imp h
/-- y = [..] on one line, y a local that no block captures -/
theorem m_setLc (i : Nat) {y : PySem.Str} {py spos : Pos} {elt iter : Expr} {ifs : List Expr} {scope : Scope} {own : List (PySem.Str × Nat)} {mi : MI} {tgt : MG} {tt : MT} {el : ME} (hN : X.N.Nodup) (hi : PI X tg iter (tMi X.K Wx mi)) (ok : BlkOk X.N X.env.scope scope own)
    (hg : ∀ (s : Shared) (H : Hp) (C : Addr) (cl : List (PySem.Str × Addr)) (fp : List Addr), PG (X.blk s H scope (compEnvC scope cl C X.env) fp) tg (tMgV X.K (own.map (·.2)) tgt)) (ht : ∀ (s : Shared) (H : Hp) (C : Addr) (cl : List (PySem.Str × Addr)) (fp : List Addr), PTs (X.blk s H scope (compEnvC scope cl C X.env) fp) ifs (tMt X.K WF tt))
    (he : ∀ (s : Shared) (H : Hp) (C : Addr) (cl : List (PySem.Str × Addr)) (fp : List Addr), PE (X.blk s H scope (compEnvC scope cl C X.env) fp) elt (tM X.K WF el))
    (hsw : swapsWith (.ListComp elt [⟨tg, iter, ifs, 0⟩] scope pos) (some (.Name y py)) spos.line X.env = pure true := by exact sw_true rfl rfl rfl (by decide +kernel)) (hy : X.N[i]? = some y := by rfl) (hyl : X.env.scope.names.lookup y = some .local := by rfl) (hc : X.calm = true := by rfl) (hs : ∀ x, foldedSetIterable iter X.env x = pure x := by intro _; rfl) :
    PS X (.Assign [.Name y py] (.ListComp elt [⟨tg, iter, ifs, 0⟩] scope pos) spos) (tMs X.K Wx (sAsg (mLc mi (own.map (·.2)) tgt tt el) (M.gName i))) :=
  ps_imp (ps_setLc hc hN hy hyl hsw hi ok hg ht he hs) fun D σ H h => by
    have h2 := set_imp h
    unfold tAsg at h2 ⊢
    exact lc_imp h2
theorem m_aug (i : Nat) {x : PySem.Str} {op : Operator} {f : W → W → G → Res W} {pos' : Pos} (hN : X.N.Nodup) (he : PE X e (tM X.K Wx m)) (ho : PIp X op (rM2 X.K f)) (hi : X.N[i]? = some x := by rfl) (hx : Loc X.env.scope x := by first | exact Or.inl rfl | exact Or.inr rfl) (hf : X.fn x = true ∨ X.env.scope.names.lookup x = some .local := by first | exact .inl rfl | exact .inr rfl | assumption) :
    PS X (.AugAssign (.Name x pos') op e pos) (tMs X.K Wx (sAug i f m)) := ps_imp (ps_aug hN hi hx he ho hf) fun D σ H ⟨ι, ρ, g, hs, hg, h⟩ => by
  unfold sAug at h
  split at h
  · rename_i w q0
    obtain ⟨v0, e0, r0⟩ := hs.at_ i w q0
    refine ⟨v0, e0, ι, ρ, g, hs, hg, ?_⟩
    split at h
    · rename_i y g1 q
      rw [q]
      intro κ v H' p r hg'
      refine ⟨fun c d H => Wx c d σ H, κ, w, y, g1, r0.mono p, r, hg', ?_⟩
      split at h
      · rename_i z g2 q2
        rw [q2]
        exact fun κ' v' H' p' r' hg' => h κ' _ H' (p.trans p') ((hs.mono (p.trans p')).put i r') hg'
      · rename_i x g2 q2
        rw [q2]
        exact fun κ' c d H' p' r' hg' => h κ' σ c d H' (p.trans p') (hs.mono (p.trans p')) r' hg'
      · exact h.elim
    · rename_i x g1 q
      rw [q]
      exact fun κ c d H' p r hg' => h κ σ c d H' p (hs.mono p) r hg'
    · exact h.elim
  · exact h.elim
/-- a, b = x, y, both locals -/
theorem m_par (i j : Nat) {x y : PySem.Str} {px py pt : Pos} {kt k2 : Nat} {pt2 : Pos} (hN : X.N.Nodup) (ha : PA X [a, b] (tMa X.K Wx mas)) (hij : i ≠ j := by decide)
    (hw : swappedStores [.Tuple [.Name x px, .Name y py] kt pt] (.Tuple [a, b] k2 pt2) X.env = pure (some [x, y]) := by rfl) (hi : X.N[i]? = some x := by rfl) (hj : X.N[j]? = some y := by rfl) (hx : X.env.scope.names.lookup x = some .local := by rfl) (hy : X.env.scope.names.lookup y = some .local := by rfl) (hc : X.calm = true := by rfl)
    (hs : swapsWithSole [.Tuple [.Name x px, .Name y py] kt pt] (.Tuple [a, b] k2 pt2) pos.line X.env = pure false := by rfl) : PS X (.Assign [.Tuple [.Name x px, .Name y py] kt pt] (.Tuple [a, b] k2 pt2) pos) (tMs X.K Wx (sPar [i, j] mas)) :=
  ps_imp (ps_par hc hN hi hj hij hx hy ha hw hs) fun D σ H ⟨ι, ρ, g, hs, hg, h⟩ => by
    refine ⟨ι, ρ, g, hs, hg, ?_⟩
    unfold sPar at h
    split at h
    · rename_i ws g1 q
      rw [q]
      intro κ vs H' p r hg'
      cases r with
      | nil => exact h.elim
      | cons r t =>
        cases t with
        | nil => exact h.elim
        | cons r' t =>
          cases t with
          | nil => exact ⟨_, _, rfl, h κ _ H' p (((hs.mono p).put i r).put j r') hg'⟩
          | cons _ _ => exact h.elim
    · rename_i x g1 q
      rw [q]
      exact fun κ c d H' p r hg' => h κ σ c d H' p (hs.mono p) r hg'
    · exact h.elim
theorem m_par3 (i j l : Nat) {x y z : PySem.Str} {px py pz pt : Pos} {kt k2 : Nat} {pt2 : Pos} (hN : X.N.Nodup) (ha : PA X [a, b, c] (tMa X.K Wx mas)) (hij : i ≠ j := by decide) (hil : i ≠ l := by decide) (hjl : j ≠ l := by decide)
    (hw : swappedStores [.Tuple [.Name x px, .Name y py, .Name z pz] kt pt] (.Tuple [a, b, c] k2 pt2) X.env = pure (some [x, y, z]) := by rfl) (hi : X.N[i]? = some x := by rfl) (hj : X.N[j]? = some y := by rfl) (hl : X.N[l]? = some z := by rfl) (hx : X.env.scope.names.lookup x = some .local := by rfl) (hy : X.env.scope.names.lookup y = some .local := by rfl) (hz : X.env.scope.names.lookup z = some .local := by rfl) (hc : X.calm = true := by rfl)
    (hs : swapsWithSole [.Tuple [.Name x px, .Name y py, .Name z pz] kt pt] (.Tuple [a, b, c] k2 pt2) pos.line X.env = pure false := by rfl) : PS X (.Assign [.Tuple [.Name x px, .Name y py, .Name z pz] kt pt] (.Tuple [a, b, c] k2 pt2) pos) (tMs X.K Wx (sPar [i, j, l] mas)) :=
  ps_imp (ps_par3 hc hN hi hj hl hij hil hjl hx hy hz ha hw hs) fun D σ H ⟨ι, ρ, g, hs, hg, h⟩ => by
    refine ⟨ι, ρ, g, hs, hg, ?_⟩
    unfold sPar at h
    split at h
    · rename_i ws g1 q
      rw [q]
      intro κ vs H' p r hg'
      cases r with
      | nil => exact h.elim
      | cons r t =>
        cases t with
        | nil => exact h.elim
        | cons r' t =>
          cases t with
          | nil => exact h.elim
          | cons r'' t =>
            cases t with
            | nil => exact ⟨_, _, _, rfl, h κ _ H' p ((((hs.mono p).put i r).put j r').put l r'') hg'⟩
            | cons _ _ => exact h.elim
    · rename_i x g1 q
      rw [q]
      exact fun κ c d H' p r hg' => h κ σ c d H' p (hs.mono p) r hg'
    · exact h.elim
theorem m_break : PS X (.Break pos) (tMs X.K Wx sBrk) := ps_imp ps_break fun D σ H ⟨ι, ρ, g, hs, hg, h⟩ => h ι _ _ (Pre.refl _) hs hg
theorem m_cont : PS X (.Continue pos) (tMs X.K Wx sCnt) := ps_imp ps_continue fun D σ H ⟨ι, ρ, g, hs, hg, h⟩ => h ι _ _ (Pre.refl _) hs hg
theorem m_for {iter : Expr} {body : List Stmt} {mi : MI} {tgt : MG} (hp : PassesOwn (model X.prog X.w) X.A X.env X.xe) (hi : PI X tg iter (tMi X.K Wx mi)) (hg : PG X tg (tMgV X.K vs tgt)) (hb : PSs X body (tMs X.K Wx sm)) (hc : X.calm = true := by rfl) (hs : ∀ x, foldedSetIterable iter X.env x = pure x := by intro _; rfl) :
    PS X (.For tg iter body [] pos) (tMs X.K Wx (sFor mi tgt sm)) := ps_imp (ps_for hp hc hi hg hb hs) fun D σ H ⟨ι, ρ, g, hs, hg, h⟩ => by
  refine ⟨ι, ρ, g, hs, hg, ?_⟩
  unfold sFor at h
  split at h
  · rename_i it g1 q
    rw [q]
    intro ι1 J H1 p1 rJ hg1
    refine ⟨fun i m σ H => ∃ ι' ρ' g', Pre ι1 ι' ∧ RelS X.K ι' ρ' σ ∧ RelG X.K ι' g' H ∧ AftS X.K ι' Wx (forGo it tgt sm m i ρ' g') D, ⟨_, ι1, ρ, g1, Pre.refl _, hs.mono p1, hg1, h.pre p1⟩, fun i m σ2 H2 hW => ?_⟩
    obtain ⟨ι2, ρ2, g2, p2, hs2, hg2, h2⟩ := hW
    have hJ := rJ ι2 g2 H2 p2 hg2 i
    cases m with
    | zero =>
      unfold forGo at h2
      split at h2
      · rename_i q
        rw [q] at hJ
        exact .inl ⟨hJ, h2 ι2 _ _ (Pre.refl _) hs2 hg2⟩
      · exact h2.elim
    | succ m =>
      unfold forGo at h2
      split at h2
      · rename_i q
        rw [q] at hJ
        exact .inl ⟨hJ, h2 ι2 _ _ (Pre.refl _) hs2 hg2⟩
      · exact h2.elim
      · rename_i w g3 q
        rw [q] at hJ
        obtain ⟨hgo, hy⟩ := hJ
        refine .inr ⟨hgo, fun σ' H' => ∃ ι' ρ' g', Pre ι1 ι' ∧ RelS X.K ι' ρ' σ' ∧ RelG X.K ι' g' H' ∧ AftS X.K ι' Wx (forGo it tgt sm m (i + 1) ρ' g') D, fun σ' H' hN => ⟨m, Nat.lt_succ_self m, hN⟩, fun x H' hyld => ?_⟩
        obtain ⟨ι3, p3, r3, hg3⟩ := hy x H' hyld
        split at h2
        · rename_i ρ1 g4 q4
          refine ⟨ι3, w, _, g3, r3, hs2.mono p3, hg3, ?_⟩
          rw [q4]
          intro ι4 σ4 H4 p4 r4 hg4
          refine ⟨ι4, ρ1, g4, r4.1, hg4, ?_⟩
          split at h2
          · rename_i ρ5 g5 q5
            rw [q5]
            exact fun κ σ' H' p r hg' => ⟨κ, ρ5, g5, p2.trans (p3.trans (p4.trans p)), r, hg', h2.pre (p3.trans (p4.trans p))⟩
          · rename_i ρ5 g5 q5
            rw [q5]
            exact fun κ σ' H' p r hg' => ⟨κ, ρ5, g5, p2.trans (p3.trans (p4.trans p)), r, hg', h2.pre (p3.trans (p4.trans p))⟩
          · rename_i ρ5 g5 q5
            rw [q5]
            exact fun κ σ' H' p r hg' => h2 κ σ' H' (p3.trans (p4.trans p)) r hg'
          · rename_i r n1 n2 n3
            have h2 := h2.pre (p3.trans p4)
            revert h2
            cases rr : sm ρ1 g4 with
            | fl f g => cases f with
              | nx ρ => exact absurd rr (n1 _ _)
              | rt w => exact fun h => h
              | bk ρ => exact absurd rr (n3 _ _)
              | ct ρ => exact absurd rr (n2 _ _)
            | ex e ρ g => exact fun h => h
            | bad => exact fun h => h
        · exact h2.elim
  · rename_i x g1 q
    rw [q]
    exact fun κ c d H' p r hg' => h κ σ c d H' p (hs.mono p) r hg'
  · exact h.elim
theorem m_while {body : List Stmt} (hp : PassesOwn (model X.prog X.w) X.A X.env X.xe) (hc : PT X c (tMt X.K Wx tt)) (hb : PSs X body (tMs X.K Wx sm)) : PS X (.While c body [] pos) (tMs X.K Wx (sWhile tt sm)) := ps_imp (ps_while hp hc hb) fun D σ H ⟨ι, ρ, g, hs, hg, h⟩ => by
  refine ⟨fun m σ H => ∃ ι' ρ' g', RelS X.K ι' ρ' σ ∧ RelG X.K ι' g' H ∧ AftS X.K ι' Wx (whileGo tt sm m ρ' g') D, ⟨_, ι, ρ, g, hs, hg, h⟩, fun m σ1 H1 hW => ?_⟩
  obtain ⟨ι1, ρ1, g1, hs1, hg1, h1⟩ := hW
  cases m with
  | zero => exact h1.elim
  | succ m =>
    unfold whileGo at h1
    refine ⟨ι1, ρ1, g1, hs1, hg1, ?_⟩
    split at h1
    · rename_i g2 q
      rw [q]
      intro ι2 b H2 p2 r2 hg2
      subst r2
      rw [if_pos rfl]
      refine ⟨fun σ' H' => ∃ ι' ρ' g', RelS X.K ι' ρ' σ' ∧ RelG X.K ι' g' H' ∧ AftS X.K ι' Wx (whileGo tt sm m ρ' g') D, fun σ' H' hN => ⟨m, Nat.lt_succ_self m, hN⟩, ι2, ρ1, g2, hs1.mono p2, hg2, ?_⟩
      split at h1
      · rename_i ρ5 g5 q5
        rw [q5]
        exact fun κ σ' H' p r hg' => ⟨κ, ρ5, g5, r, hg', h1.pre (p2.trans p)⟩
      · rename_i ρ5 g5 q5
        rw [q5]
        exact fun κ σ' H' p r hg' => ⟨κ, ρ5, g5, r, hg', h1.pre (p2.trans p)⟩
      · rename_i ρ5 g5 q5
        rw [q5]
        exact fun κ σ' H' p r hg' => h1 κ σ' H' (p2.trans p) r hg'
      · rename_i r n1 n2 n3
        have h1 := h1.pre p2
        revert h1
        cases rr : sm ρ1 g2 with
        | fl f g => cases f with
          | nx ρ => exact absurd rr (n1 _ _)
          | rt w => exact fun h => h
          | bk ρ => exact absurd rr (n3 _ _)
          | ct ρ => exact absurd rr (n2 _ _)
        | ex e ρ g => exact fun h => h
        | bad => exact fun h => h
    · rename_i g2 q
      rw [q]
      intro ι2 b H2 p2 r2 hg2
      subst r2
      rw [if_neg Bool.false_ne_true]
      exact h1 ι2 σ1 H2 p2 (hs1.mono p2) hg2
    · rename_i x g2 q
      rw [q]
      exact fun κ c d H' p r hg' => h1 κ σ1 c d H' p (hs1.mono p) r hg'
    · exact h1.elim
/-! ### in-place operators -/
theorem ip_of {op : Operator} {f : W → W → G → Res W} {k : Int → Int → Int} (hr : OpR X (inplaceOp op) (rI0 fun i j => .int (k i j))) (hf : ∀ x y g, f x y g = match x, y with
    | .int i, .int j => .ok (.int (k i j)) g
    | _, _ => .bad) : PIp X op (rM2 X.K f) := by
  intro pins s σ H x y v u Q I rx ry ⟨Wx, ι, wx, wy, g, hx, hy, hg, h⟩
  rw [hf] at h
  split at h
  · cases (show x = _ from hx)
    cases (show y = _ from hy)
    exact hr pins s σ H _ _ v u Q I rx ry ⟨_, _, rfl, rfl, h ι _ H (Pre.refl _) rfl hg⟩
  · exact h.elim
def ipAdd : W → W → G → Res W := fun x y g => match x, y with
  | .int i, .int j => .ok (.int (i + j)) g
  | _, _ => .bad
theorem i_add : PIp X .Add (rM2 X.K ipAdd) := ip_of (k := fun i j => i + j) iop_add fun _ _ _ => rfl
theorem i_sub : PIp X .Sub (rM2 X.K opSub) := ip_of (k := fun i j => i - j) iop_sub fun x y g => by
  unfold opSub
  cases x <;> cases y <;> rfl
end
/-! ### defs -/
def spM (K : Frag) (n : Nat) (f : Fn) : Sp := fun vs H Q E => ∃ ι ws g, RelL K ι ws vs ∧ RelG K ι g H ∧ ws.length = n ∧ Aft K ι E (RelW K) (f ws g) Q
structure DefOk (P : Program) (w : World) (K : Frag) (mg : PySem.Str → Option Value) (base : Heap) (x : PySem.Str) (ps : List PySem.Str) (lv : Nat) (f : Fn) : Prop where
  mg_ : mg x = some (.ref (He.ga K x))
  kp : PySem.W.keepIn K (.ref (He.ga K x)) = true
  ar : ∀ ws g, ws.length ≠ ps.length → f ws g = .bad
  ok : ∃ fd, (some fd = (match K.lookup (He.ga K x) with
      | some ⟨_, _, .func fd, _⟩ => some fd
      | _ => none) ∧ ∀ (s : Shared) (us : List Value), us.length = ps.length → BindsTo s fd ⟨us, []⟩ (ps.zip us)) ∧ FnOk P w K mg base (L2.CX P w) lv (He.ga K x) fd ps (spM K ps.length f)
theorem relS_start {K : Frag} {ι : List Addr} {N : List PySem.Str} {ws : List W} {vs : List V} (r : RelL K ι ws vs) : RelS K ι (startM N.length ws) (L2.start N vs) := by
  unfold startM L2.start
  rw [← r.length]
  refine ⟨by simp [r.length], fun i w e => ?_⟩
  by_cases hi : i < ws.length
  · rw [List.getElem?_append_left (by simpa using hi)] at e
    rw [List.getElem?_append_left (by simpa [← r.length] using hi)]
    rw [List.getElem?_map] at e ⊢
    cases q : ws[i]? with
    | none => rw [q] at e; cases e
    | some u =>
      rw [q] at e
      cases e
      obtain ⟨v, e1, r1⟩ := r.get q
      exact ⟨v, by rw [e1]; rfl, r1⟩
  · rw [List.getElem?_append_right (by simpa using hi)] at e
    have := List.mem_of_getElem? e
    have := List.eq_of_mem_replicate this
    cases this
theorem m_def {P : Program} {w : World} {K : Frag} {mg : PySem.Str → Option Value} {base : Heap} {x qual : PySem.Str} {params : Arguments} {body : List Stmt} {scope : Scope} {f : Addr} {fd : FuncData} {dvs : List V} {kws : List (PySem.Str × V)} {N ps : List PySem.Str} {k : Nat} {ms : MS}
    (F : FunD K x qual params body scope dvs kws f fd) (S : FnScope N ps scope)
    (hb : ∀ (cdv : Value) (A : Around) (outer : List PySem.Env) (s : Shared) (H : Hp) (E : XK), Room k (A.deeper (envOfC qual scope s.heap.objs.size f cdv)) → PSs (cxOf (L2.CX P w) P w K mg base N qual scope f cdv A outer s H E) body (tMs K (fun c d _ H => E c d H) ms)) :
    FnOk P w K mg base (L2.CX P w) (k + 1) f fd ps (spM K ps.length (mDef ps.length N.length ms)) := by
  refine F.ok S (fun vs H Q E ⟨ι, ws, g, r, hg, hl, h⟩ => by rw [← r.length, hl]) fun cdv A outer s H vs Q E hr ⟨ι, ws, g, r, hg, hl, h⟩ => ⟨_, hb cdv A outer s H E hr, ι, startM N.length ws, g, relS_start r, hg, ?_⟩
  unfold mDef at h
  rw [if_pos hl] at h
  revert h
  generalize ms (startM N.length ws) g = rr
  intro h
  cases rr with
  | fl f g => cases f with
    | nx ρ => exact fun κ σ H p a b => h κ _ H p rfl b
    | rt w => exact h
    | bk ρ => exact h.elim
    | ct ρ => exact h.elim
  | ex e ρ g => exact fun κ σ c d H p _ a b => h κ c d H p a b
  | bad => exact h.elim
section
variable {X : Cx} {Wx : WX} {pos p2 p : Pos} {a b c e tg : Expr} {es : List Expr} {mas mks : MA}
theorem m_call {x : PySem.Str} {ps : List PySem.Str} {lv : Nat} {f : Fn} (F : DefOk X.prog X.w X.K X.mg X.base x ps lv f) (hr : Room lv X.A) (tk : Takes X Wx) (ha : PA X (e :: es) (tMa X.K Wx mas)) (hl : (e :: es).length = ps.length := by rfl) (hg : Gl X x := by rfl)
    (hdb : (x == ("__debug__" : PySem.Str)) = false := by decide) (he : starEach (e :: es) X.env = (false, eval e X.env) :: starEach es X.env := by rfl) (hpl : (backTo pos (starEach es X.env)).any (·.1) = false := by rfl) :
    PE X (.Call (.Name x p) (e :: es) [] pos) (tM X.K Wx (mCall f mas)) := by
  obtain ⟨fd, hB, hF⟩ := F.ok
  have hB' : Binds X.K fd ps [] := fun s us _ hl => by
    rw [List.append_nil] at hl ⊢
    exact hB.2 s us hl
  refine pe_imp (pe_callS (E := WE Wx) hF hr hg F.mg_ F.kp hB' (fun σ => passAt tk σ) ha hdb he hpl) fun σ H Q h => ?_
  obtain ⟨ι, ρ, g, hs, hg, h⟩ := h
  refine tMa_mono (goA hs hg h) fun xs H1 ⟨ι1, w1, g1, p1, r1, hg1, h1⟩ => ?_
  by_cases hz : w1.length = ps.length
  · exact ⟨ι1, w1, g1, r1, hg1, hz, h1⟩
  · dsimp only at h1
    rw [F.ar w1 g1 hz] at h1
    exact h1.elim
end
theorem FunD.self {K : Frag} {x qual : PySem.Str} {params : Arguments} {body : List Stmt} {scope : Scope} {dvs : List V} {kws : List (PySem.Str × V)} {f : Addr} {fd : FuncData} (F : FunD K x qual params body scope dvs kws f fd) : some fd = (match K.lookup f with
      | some ⟨_, _, .func fd, _⟩ => some fd
      | _ => none) := by
  obtain ⟨_, _, _, _, _, _, _, _, _, _, _, lk, _⟩ := F.ex
  rw [lk]
/-- an own exception class over ValueError (perhaps by another own one), without an __init__ -/
structure ExcOk (K : Frag) (mg : PySem.Str → Option Value) (x : PySem.Str) : Prop where
  mg_ : mg x = some (.ref (He.ga K x))
  ex : PySem.W.excIn K (He.ga K x) He.veBase "ValueError.__new__" = true
  kp : PySem.W.keepIn K (.ref (He.ga K x)) = true
  sub : PySem.W.subIn K (.ref (He.ga K x)) (.type "BaseException") = some true
  ty : PySem.W.typeIn K (.ref (He.ga K x)) = some (.type "type")
section
variable {X : Cx} {Wx : WX} {pos pos' p p2 : Pos}
theorem m_raise {x m : PySem.Str} {j : Nat} (E : ExcOk X.K X.mg x) (tk : Takes X Wx) (hc : X.calm = true := by rfl) (hg : Gl X x := by rfl) (hdb : (x == ("__debug__" : PySem.Str)) = false := by decide) :
    PS X (.Raise (some (.Call (.Name x p) [.Constant (.str m) j p2] [] pos)) none pos') (tMs X.K Wx (sRaise x)) :=
  ps_imp (ps_raise hc tk (pmk_own PySem.F.excBase_ValueError E.ex E.mg_ E.kp (raises_own E.sub E.ty) hg hdb)) fun D σ H ⟨ι, ρ, g, hs, hg, h⟩ => h ι σ _ _ H (Pre.refl _) hs ⟨rfl, rfl⟩ hg
end
theorem mDef_ar (n m : Nat) (ms : MS) : ∀ ws g, ws.length ≠ n → mDef n m ms ws g = .bad := fun ws g h => by
  unfold mDef
  rw [if_neg h]
end M
/-! MEnd: a law's end by the small machine. -/
namespace M
open PySem PySem.Spec PyProof.Rows L2
theorem walk_M {l : PySem.W.OpenLaw} {n : Nat} {q : Program} {loose : List PySem.Str} {XP : (PySem.Str → Option Value) → Heap → Prop} {d : DefRec} {fs : List Hx.Look} {fn : List He.DefD} {k : Nat} {f : Fn}
    (hn : l.most = some 63) (hdf : d.params.defaults = []) (hr : Room k callerA) (hnm : d.name = ("law" : PySem.Str))
    (F : ∀ (w : World) (K : Frag) (mg : PySem.Str → Option Value) (h : Heap), K.In h → h.Ns mainGlobals mg → Hx.SaysX fs fn K → ∀ base : Heap, K.In base → base.Ns mainGlobals mg → DefOk l.prog w K mg base "law" ["script"] k f)
    (hM : ∀ ns : List Int, ns.length ≤ 63 → (∀ z ∈ ns, lg z ≤ 1048576) → ∃ g, f [.ref 0] [.fls (ns.map .int)] = .ok (.bl true) g) :
    PySem.W.WalkO q loose XP (Hx.hookX n fs fn).says l.row.toRowW d [] (fun f vs => PySem.call f vs) := by
  refine Att.attach_callB hn hdf fun w s₀ s₁ mg mb fa o pm cd doc a vs ns G Y ho hd hcd hmg hobj hints hlen hbits hg => ?_
  obtain ⟨K, KX, c⟩ := Y
  rw [hnm] at hmg
  have D := F w K mg _ KX G.T.g c
  have e := hmg.symm.trans (D _ KX G.T.g).mg_
  cases e
  obtain ⟨fd, hB, _⟩ := (D _ KX G.T.g).ok
  refine law_call (fd := fd) (x := "script") (sp := spM K 1 f) KX G.T.g G.T.b G.T.builtins G.T.nolimit hg hobj hints (Nat.le_trans hlen (by decide)) hr (fun base h1 h2 => ?_) (fun s u => hB.2 s [u] rfl) (fun H hO hS => ?_) (CX := L2.CX l.prog w) fun H e s' hx => ?_
  · obtain ⟨fd', hB', hF⟩ := (D base h1 h2).ok
    have : fd' = fd := Option.some.inj (hB'.1.trans hB.1.symm)
    subst this
    exact hF
  · obtain ⟨g, hg⟩ := hM ns hlen fun z hz => by
      have := hbits z hz
      unfold lg
      unfold Builtin.Int.intBits at this
      split at this
      · rename_i h0
        rw [beq_iff_eq.mp h0]
        decide
      · omega
    refine ⟨[a], [.ref 0], [.fls (ns.map .int)], .cons ⟨a, rfl, rfl⟩ .nil, ⟨rfl, fun i o b e1 e2 => ?_, fun i j oi oj b e1 e2 t1 => ?_⟩, rfl, ?_⟩
    · cases i with
      | zero =>
        cases e1
        cases e2
        refine ⟨_, rel_ints ns, ?_⟩
        rcases hS with (z | ⟨o, z⟩) | z
        · rcases hO a with y | ⟨o, xs, y⟩
          · rw [y] at z
            cases z
          · rw [y] at z
            cases z
        · exact .inl ⟨o, z⟩
        · exact .inr fun H' => .inr z
      | succ i => simp at e1
    · cases i with
      | zero => cases e1; cases t1
      | succ i => simp at e1
    · rw [hg]
      exact fun ι' v H' _ r _ => r
  · obtain ⟨_, _, _, _, _, _, _, _, _, _, _, _, z⟩ := hx
    exact z
end M
/-! MGuard: promises of defs that are entered with no repr under way (so that repr may be asked), and the law's end by them. -/
namespace M
open PySem PySem.Spec PyProof.Rows L2
/-- a def's promise where no guard is set -/
structure FnG (P : Program) (w : World) (K : Frag) (mg : PySem.Str → Option Value) (base : Heap) (CX : CXT) (k : Nat) (f : Addr) (fd : FuncData) (ps : List PySem.Str) (sp : Sp) : Prop where
  len : ∀ vs H Q E, sp vs H Q E → vs.length = ps.length
  run : ∀ (A : Around) (outer : List PySem.Env) (s : Shared) (H : Hp) (args : Args) (us : List Value) (vs : List V) (Q : VK) (E : XK), A.guards = some [] → Room k A → Env0 P w K mg base A outer s H →
    BindsTo s fd args (ps.zip us) → Vals vs us → sp vs H Q E → codeAny (model P w) A (.call (.ref f) args) (CR CX outer P w H s Q E) s
theorem FnG.of_fn {P : Program} {w : World} {K : Frag} {mg : PySem.Str → Option Value} {base : Heap} {CX : CXT} {k : Nat} {f : Addr} {fd : FuncData} {ps : List PySem.Str} {sp : Sp} (F : FnOk P w K mg base CX k f fd ps sp) : FnG P w K mg base CX k f fd ps sp :=
  ⟨F.len, fun A outer s H args us vs Q E _ => F.run A outer s H args us vs Q E⟩
theorem deeper_guards {A : Around} {env : PySem.Env} (h : A.guards = some []) : (A.deeper env).guards = some [] := h
/-- a def of the text by its body, no guard set -/
theorem fnG_of {CX : CXT} {P : Program} {w : World} {K : Frag} {mg : PySem.Str → Option Value} {base : Heap} {x qual : PySem.Str} {params : Arguments} {body : List Stmt} {scope : Scope} {dvs : List V} {kws : List (PySem.Str × V)} {f : Addr} {fd : FuncData} {N ps : List PySem.Str} {k : Nat} {sp : Sp}
    (D : FunD K x qual params body scope dvs kws f fd) (S : FnScope N ps scope) (len : ∀ vs H Q E, sp vs H Q E → vs.length = ps.length)
    (hb : ∀ (cdv : Value) (A : Around) (outer : List PySem.Env) (s : Shared) (H : Hp) (vs : List V) (Q : VK) (E : XK), A.guards = some [] → Room k (A.deeper (envOfC qual scope s.heap.objs.size f cdv)) → sp vs H Q E →
      ∃ t, PSs (cxOf CX P w K mg base N qual scope f cdv A outer s H E) body t ∧ t { nx := fun _ H' => Q .non H', rt := Q } (start N vs) H) : FnG P w K mg base CX (k + 1) f fd ps sp := by
  obtain ⟨oc, od, dV, kV, doc, pm, an, cdv, ct, osl, rfl, hlk, hcode, _, _⟩ := D.ex
  constructor
  · exact len
  · intro A outer s H args us vs Q E hgu hroom henv hbind hvals hspec
    obtain ⟨t, hbody, hstart⟩ := hb cdv A outer s H vs Q E hgu (hroom.deeper _) hspec
    have inK : K.In s.heap := henv.mod.kin.keeps fun b o z => (henv.bs b o z).1
    have nolim : s.heap.NoLimit := henv.mod.nolimit.keeps fun b o z => (henv.bs b o z).1
    have kinds : ∀ y ∈ ps.zip us, scope.names.lookup y.1 = some .local ∨ (scope.names.lookup y.1 = some .cell ∧ ((cellsFrom (s.heap.objs.size + 1) scope.names []).lookup y.1).isSome = true) := by
      intro y hy
      rcases S.par y.1 (List.of_mem_zip (a := y.1) (b := y.2) hy).1 with z | z
      · exact Or.inl z
      · exact Or.inr ⟨z, PySem.W.cellsFrom_some _ _ _ (Or.inl z)⟩
    apply codeAny_call_function hroom.depth (inK _ _ hlk) rfl S.co S.gen rfl (PySem.W.codeRec_of inK hcode)
    apply hbind
    apply wpAny_newFunctionEnv_cells S.kind kinds
    intro env henv2 s1 hin
    subst henv2
    constructor
    · exact nolim.keeps hin.toInCall.keep
    · apply codeAny_func
      have J := inv_start (CX := CX) (E := E) S hroom.hd henv (len _ _ _ _ hspec) hvals hin
      apply wpAny_mono (hbody.run [] s1 (start N vs) H _ J hstart)
      · intro fl s' hs
        match fl, hs with
        | .ret u, ⟨v, _, H', J', rv, q⟩ => exact ⟨v, H', J'.os, J'.bare, J'.base, J'.hok, rv, q⟩
        | .next, ⟨_, H', J', q⟩ => exact ⟨V.non, H', J'.os, J'.bare, J'.base, J'.hok, rfl, q⟩
        | .brk, ⟨_, _, _, q⟩ => exact q.elim
        | .cont, ⟨_, _, _, q⟩ => exact q.elim
      · exact fun e s' hs => hs
structure DefG (P : Program) (w : World) (K : Frag) (mg : PySem.Str → Option Value) (base : Heap) (x : PySem.Str) (ps : List PySem.Str) (lv : Nat) (f : Fn) : Prop where
  mg_ : mg x = some (.ref (He.ga K x))
  kp : PySem.W.keepIn K (.ref (He.ga K x)) = true
  ar : ∀ ws g, ws.length ≠ ps.length → f ws g = .bad
  ok : ∃ fd, (some fd = (match K.lookup (He.ga K x) with
      | some ⟨_, _, .func fd, _⟩ => some fd
      | _ => none) ∧ ∀ (s : Shared) (us : List Value), us.length = ps.length → BindsTo s fd ⟨us, []⟩ (ps.zip us)) ∧ FnG P w K mg base (L2.CX P w) lv (He.ga K x) fd ps (spM K ps.length f)
theorem DefOk.g {P : Program} {w : World} {K : Frag} {mg : PySem.Str → Option Value} {base : Heap} {x : PySem.Str} {ps : List PySem.Str} {lv : Nat} {f : Fn} (F : DefOk P w K mg base x ps lv f) : DefG P w K mg base x ps lv f := by
  obtain ⟨fd, h1, h2⟩ := F.ok
  exact ⟨F.mg_, F.kp, F.ar, fd, h1, FnG.of_fn h2⟩
theorem m_defG {P : Program} {w : World} {K : Frag} {mg : PySem.Str → Option Value} {base : Heap} {x qual : PySem.Str} {params : Arguments} {body : List Stmt} {scope : Scope} {f : Addr} {fd : FuncData} {dvs : List V} {kws : List (PySem.Str × V)} {N ps : List PySem.Str} {k : Nat} {ms : MS}
    (F : FunD K x qual params body scope dvs kws f fd) (S : FnScope N ps scope)
    (hb : ∀ (cdv : Value) (A : Around) (outer : List PySem.Env) (s : Shared) (H : Hp) (E : XK), A.guards = some [] → Room k (A.deeper (envOfC qual scope s.heap.objs.size f cdv)) → PSs (cxOf (L2.CX P w) P w K mg base N qual scope f cdv A outer s H E) body (tMs K (fun c d _ H => E c d H) ms)) :
    FnG P w K mg base (L2.CX P w) (k + 1) f fd ps (spM K ps.length (mDef ps.length N.length ms)) := by
  refine fnG_of F S (fun vs H Q E ⟨ι, ws, g, r, hg, hl, h⟩ => by rw [← r.length, hl]) fun cdv A outer s H vs Q E hgu hr ⟨ι, ws, g, r, hg, hl, h⟩ => ⟨_, hb cdv A outer s H E hgu hr, ι, startM N.length ws, g, relS_start r, hg, ?_⟩
  unfold mDef at h
  rw [if_pos hl] at h
  revert h
  generalize ms (startM N.length ws) g = rr
  intro h
  cases rr with
  | fl f g => cases f with
    | nx ρ => exact fun κ σ H p a b => h κ _ H p rfl b
    | rt w => exact h
    | bk ρ => exact h.elim
    | ct ρ => exact h.elim
  | ex e ρ g => exact fun κ σ c d H p _ a b => h κ c d H p a b
  | bad => exact h.elim
section
variable {X : Cx} {Wx : WX} {pos p : Pos} {e : Expr} {es : List Expr} {mas : MA}
theorem run_G {CX : CXT} {k : Nat} {f : Addr} {fd : FuncData} {ps : List PySem.Str} {sp : Sp} {E : XK} {args : Args} {pins : List (Addr × Obj)} {σ : L2.St} {H : Hp} {s : Shared} {Q : VK} {us : List Value} {vs : List V}
    (F : FnG X.prog X.w X.K X.mg X.base CX k f fd ps sp) (hgu : X.A.guards = some []) (hr : Room k X.A) (b : BindsTo s fd args (ps.zip us)) (hx : PassesAt CX X σ E)
    (I : Inv X pins σ H s) (r : Vals vs us) (h : sp vs H Q E) : codeAny (model X.prog X.w) X.A (.call (.ref f) args) (fun r s' => match r with
      | .ok (.ret u) => EP X pins σ Q u s'
      | .ok _ => False
      | .error e => X.xe e s') s :=
  codeAny_mono (F.run X.A X.stack s H args us vs Q E hgu hr I.env0 b r h) fun res s' hq => match res, hq with
    | .ok (.ret _), hq => I.after hq
    | .ok .next, hq => hq.elim
    | .ok .brk, hq => hq.elim
    | .ok .cont, hq => hq.elim
    | .error e, hq => hx pins H s e s' I hq
end
section
variable {X : Cx} {Wx : WX} {pos p : Pos} {e : Expr} {es : List Expr} {mas : MA}
theorem call_G {CX : CXT} {k : Nat} {f : Addr} {fd : FuncData} {ps : List PySem.Str} {sp : Sp} {E : XK} {ks : List (PySem.Str × Value)} {pins : List (Addr × Obj)} {σ : L2.St} {H : Hp} {s : Shared} {Q : VK} {as us : List Value} {vs : List V}
    (F : FnG X.prog X.w X.K X.mg X.base CX k f fd ps sp) (hgu : X.A.guards = some []) (hr : Room k X.A) (b : BindsTo s fd ⟨as, ks⟩ (ps.zip us)) (hx : PassesAt CX X σ E)
    (I : Inv X pins σ H s) (r : Vals vs us) (h : sp vs H Q E) : wpAny (model X.prog X.w) X.A (call (.ref f) as ks) (EP X pins σ Q) X.xe s := by
  apply wpAny_call
  apply codeAny_mono (run_G F hgu hr b hx I r h)
  intro res s' hq
  match res, hq with
  | .ok (.ret _), hq => exact hq
  | .ok .next, hq => exact hq.elim
  | .ok .brk, hq => exact hq.elim
  | .ok .cont, hq => exact hq.elim
  | .error _, hq => exact hq
theorem m_callG {x : PySem.Str} {ps : List PySem.Str} {lv : Nat} {f : Fn} (F : DefG X.prog X.w X.K X.mg X.base x ps lv f) (hgu : X.A.guards = some []) (hr : Room lv X.A) (tk : Takes X Wx) (ha : PA X (e :: es) (tMa X.K Wx mas)) (hg : Gl X x := by rfl)
    (hdb : (x == ("__debug__" : PySem.Str)) = false := by decide) (he : starEach (e :: es) X.env = (false, eval e X.env) :: starEach es X.env := by rfl) (hpl : (backTo pos (starEach es X.env)).any (·.1) = false := by rfl) :
    PE X (.Call (.Name x p) (e :: es) [] pos) (tM X.K Wx (mCall f mas)) := by
  obtain ⟨fd, hB, hF⟩ := F.ok
  constructor
  intro pins s σ H Q I ⟨ι, ρ, g, hs, hg1, h⟩
  apply wpAny_Call_Name_kw (ld_glob I hg F.mg_ ?_ hdb)
  refine PySem.W.callWith_K (h₀ := X.base) I.ok.mod.kin F.kp (thn (ha.run pos pins s σ H _ I (goA hs hg1 h)) fun us s1 ⟨vs, H1, I1, r, ι1, w1, g1, p1, r1, hg2, h1⟩ => ⟨I1.kIn, ?_⟩) he hpl
  by_cases hz : w1.length = ps.length
  · exact call_G (ks := []) hF hgu hr (hB.2 s1 us (by rw [← r.length, ← r1.length, hz])) (passAt tk σ) I1 r ⟨ι1, w1, g1, r1, hg2, hz, h1⟩
  · dsimp only at h1
    rw [F.ar w1 g1 hz] at h1
    exact h1.elim
/-- f() -/
theorem m_callG0 {x : PySem.Str} {lv : Nat} {f : Fn} (F : DefG X.prog X.w X.K X.mg X.base x [] lv f) (hgu : X.A.guards = some []) (hr : Room lv X.A) (tk : Takes X Wx) (hg : Gl X x := by rfl) (hdb : (x == ("__debug__" : PySem.Str)) = false := by decide) :
    PE X (.Call (.Name x p) [] [] pos) (tM X.K Wx (mCall f aNil)) := by
  obtain ⟨fd, hB, hF⟩ := F.ok
  constructor
  intro pins s σ H Q I ⟨ι, ρ, g, hs, hg1, h⟩
  apply wpAny_Call_Name_kw (ld_glob I hg F.mg_ ?_ hdb)
  exact PySem.W.callWith_K0 I.kIn F.kp (call_G (ks := []) hF hgu hr (hB.2 s [] rfl) (passAt tk σ) I .nil ⟨ι, [], g, .nil, hg1, rfl, h⟩)
/-! ### keywords only, in the parameters' order -/
theorem m_knil : PK X [] (tMa X.K Wx aNil) := pk_imp pk_nil fun σ H Q ⟨ι, ρ, g, hs, hg, h⟩ => h ι _ H (Pre.refl _) .nil hg
theorem m_kcons {nm : Option PySem.Str} {kpos : Pos} {kws : List Keyword} {ma : ME} (ha : PE X e (tM X.K Wx ma)) (hr : PK X kws (tMa X.K Wx mas)) : PK X (⟨nm, e, kpos⟩ :: kws) (tMa X.K Wx (aCons ma mas)) := pk_imp (pk_cons ha hr) fun _ _ _ h => acons_imp h
theorem pick_rel {α β : Type} {R : α → β → Prop} {l : List α} {m : List β} (h : Paired R l m) (pm : List Nat) : Paired R (pick pm l) (pick pm m) := by
  have at_ : ∀ {l : List α} {m : List β}, Paired R l m → ∀ i : Nat, (∃ a b, l[i]? = some a ∧ m[i]? = some b ∧ R a b) ∨ (l[i]? = none ∧ m[i]? = none) := by
    intro l m h
    induction h with
    | nil => exact fun i => .inr ⟨rfl, rfl⟩
    | cons r _ ih =>
      intro i
      cases i with
      | zero => exact .inl ⟨_, _, rfl, rfl, r⟩
      | succ i => exact ih i
  induction pm with
  | nil => exact .nil
  | cons i pm ih =>
    unfold pick at *
    rcases at_ h i with ⟨a, b, e1, e2, r⟩ | ⟨e1, e2⟩
    · rw [List.filterMap_cons_some e1, List.filterMap_cons_some e2]
      exact .cons r ih
    · rw [List.filterMap_cons_none e1, List.filterMap_cons_none e2]
      exact ih
theorem m_callKw {x qual : PySem.Str} {params : Arguments} {body : List Stmt} {scope : Scope} {fd0 : FuncData} {ps ks : List PySem.Str} {lv : Nat} {f : Fn} {kws : List Keyword} (pm : List Nat)
    (F : DefG X.prog X.w X.K X.mg X.base x ps lv f) (D : FunD X.K x qual params body scope [] [] (He.ga X.K x) fd0)
    (hb : ∀ (kV doc pm' : Value) (an : Option Addr) (cdv ct : Value) (ws : List Value), ws.length = ks.length → bindArgs (PySem.W.fnOf x qual params body scope .none kV doc pm' an cdv ct) ⟨[], ks.zip ws⟩ = pure (ps.zip (pick pm ws)))
    (hgu : X.A.guards = some []) (hr : Room lv X.A) (tk : Takes X Wx) (hkw : PK X kws (tMa X.K Wx mas)) (hl : ks.length = kws.length := by rfl)
    (hall : (backToKw pos (keywordEach kws X.env)).all (·.1.isSome) = true := by rfl) (hks : (backToKw pos (keywordEach kws X.env)).filterMap (·.1) = ks := by rfl) (hg : Gl X x := by rfl)
    (hdb : (x == ("__debug__" : PySem.Str)) = false := by decide) (hpl : ((backTo pos (starEach [] X.env)).any (·.1) || (backToKw pos (keywordEach kws X.env)).any (·.1.isNone)) = false := by rfl) :
    PE X (.Call (.Name x p) [] kws pos) (tM X.K Wx (mCallP f ks.length pm mas)) := by
  obtain ⟨fd, hB, hF⟩ := F.ok
  have e0 : fd = fd0 := Option.some.inj (hB.1.trans (FunD.self D).symm)
  subst e0
  have hbind : ∀ (s : Shared) (ws : List Value), ws.length = ks.length → BindsTo s fd ⟨[], ks.zip ws⟩ (ps.zip (pick pm ws)) := by
    intro s ws hw
    obtain ⟨_, _, dV, kV, doc, pm', an, cdv, ct, _, rfl, _, _, hD, _⟩ := D.ex
    rcases hD with ⟨_, rfl⟩ | ⟨z, _⟩
    · exact .of_eq (hb kV doc pm' an cdv ct ws hw)
    · exact absurd rfl z
  constructor
  intro pins s σ H Q I ⟨ι, ρ, g, hs, hg1, h⟩
  apply wpAny_Call_Name_kw (ld_glob I hg F.mg_ ?_ hdb)
  apply PySem.W.callWith_KW0 (h₀ := X.base) I.ok.mod.kin F.kp hall ?_ hpl
  refine thn (hkw.run pos pins s σ H _ I (goA hs hg1 h)) fun ws s1 ⟨zs, H1, I1, r, ι1, w1, g1', p1, r1, hg2, h1⟩ => ⟨I1.kIn, ?_⟩
  dsimp only at h1
  split at h1
  · rename_i hz
    have hw : ws.length = ks.length := by rw [← r.length, ← r1.length, hz]
    rw [hks]
    by_cases hz2 : (pick pm w1).length = ps.length
    · exact call_G hF hgu hr (hbind s1 ws hw) (passAt tk σ) I1 (pick_rel r pm) ⟨ι1, pick pm w1, g1', pick_rel r1 pm, hg2, hz2, h1⟩
    · rw [F.ar _ g1' hz2] at h1
      exact h1.elim
  · exact h1.elim
end
/-! ### repr -/
theorem c_repr (hgu : X.A.guards = some []) (hu : X.A.units + 64 < cLine) : CallR X (.builtin "repr") (rMc X.K bRepr) := by
  intro pins s σ H xs us Q I rv ⟨Wx, ι, ws, g, hx, hg, h⟩
  unfold bRepr at h
  split at h
  · obtain ⟨v, rfl, r⟩ := relL1 hx
    split at h
    · rename_i d q
      split at h
      · rename_i hz
        rw [Bool.and_eq_true, decide_eq_true_eq] at hz
        obtain ⟨a1, a2, a3⟩ := rdD_dp hg 60 _ _ _ q r
        obtain ⟨u, rfl, hu1⟩ := vals1 rv
        have hnd := PyData.hasDict_of_canLay (toPy d) a3
        have hf := h ι (V.str (toPy d).shown) H (Pre.refl _) rfl hg
        clear h
        generalize toPy d = pd at *
        cases a1 with
        | non =>
          cases (show u = Value.none from hu1)
          exact PySem.P.repr_of_none ⟨.str _, H, I.tok _, ⟨_, rfl⟩, hf⟩
        | bl b =>
          cases (show u = Value.bool b from hu1)
          exact PySem.P.repr_of_bool ⟨.str _, H, I.tok _, ⟨_, by cases b <;> rfl⟩, hf⟩
        | int i =>
          obtain ⟨t, rfl⟩ := (show ∃ t, u = Value.int i t from hu1)
          exact PySem.P.repr_of_int (by have := hz.1; simpa [PyData.showable] using this) ⟨.str _, H, I.tok _, ⟨_, rfl⟩, hf⟩
        | str x =>
          obtain ⟨t, rfl⟩ := (show ∃ t, u = Value.str x t from hu1)
          exact PySem.P.repr_of_str ⟨.str _, H, I.tok _, ⟨_, rfl⟩, hf⟩ (sz_eq hz.2)
        | lst h1 h2 =>
          obtain ⟨as, rd⟩ := Dp.reads I _ _ _ (Dp.lst h1 h2) hu1
          cases (show u = _ from hu1)
          exact repr_of_reads' rd hz.1 (PyData.noDict_hsm hnd) hgu (by omega) (fun _ _ e => e) (fun h' t tk hk => ⟨.str _, H, I.kept hk, ⟨_, rfl⟩, hf⟩) (sz_eq hz.2)
        | tup h1 h2 =>
          obtain ⟨as, rd⟩ := Dp.reads I _ _ _ (Dp.tup h1 h2) hu1
          cases (show u = _ from hu1)
          exact repr_of_reads' rd hz.1 (PyData.noDict_hsm hnd) hgu (by omega) (fun _ _ e => e) (fun h' t tk hk => ⟨.str _, H, I.kept hk, ⟨_, rfl⟩, hf⟩) (sz_eq hz.2)
      · exact h.elim
    · exact h.elim
  · exact h.elim
section
variable {X : Cx} {Wx : WX} {pos : Pos}
theorem m_d0 : PE X (.Dict [] [] pos) (tM X.K Wx mD0) := pe_imp pe_dnewK fun σ H Q ⟨ι, ρ, g, hs, hg, h⟩ p hp =>
  h (ι ++ [p]) _ _ (Pre.snoc _ _) (hg.newW p) (hg.new hp rfl ⟨[], .nil, upd_same⟩)
theorem m_d1 {x : PySem.Str} {i : Int} {j1 j2 : Nat} {p1 p2 : Pos} : PE X (.Dict [some (.Constant (.str x) j1 p1)] [.Constant (.int i) j2 p2] pos) (tM X.K Wx (mD1 x i)) :=
  pe_imp (pe_disp (pps_cons pe_str pe_int pps_nil) rfl rfl (by simp) (by simp)) fun σ H Q ⟨ι, ρ, g, hs, hg, h⟩ p hp =>
    ⟨upd_same, [(.inr x, .int i)], rfl, by simp, by
      rw [upd_upd]
      exact h (ι ++ [p]) _ _ (Pre.snoc _ _) (hg.newW p) (hg.new hp rfl ⟨[(.inr x, .int i)], .cons ⟨rfl, rfl⟩ .nil, upd_same⟩)⟩
end
/-! ### the law's end -/
theorem env_law {P : Program} {w : World} {K : Frag} {mg mb : PySem.Str → Option Value} {s : Shared} {H : Hp} (inK : K.In s.heap) (ns : s.heap.Ns mainGlobals mg) (nb : s.heap.Ns builtinsNs mb) (eb : ∀ x : PySem.Str, x ≠ "__name__" → mb x = bootBuiltins x)
    (nl : s.heap.NoLimit) (ng : s.gens = #[]) (hok : HOk P w H s.heap) (keyK : ∀ b o, K.lookup b = some o → H b = none) (dictH : ∀ b o es ep, s.heap.get? b = some o → o.data = .dict es ep → H b = none) :
    Env0 P w K mg (hidT s.heap H) callerA [] s H ∧ K.In (hidT s.heap H) ∧ (hidT s.heap H).Ns mainGlobals mg := by
  have hideNs : ∀ {b : Addr} {m : PySem.Str → Option Value}, s.heap.Ns b m → (hidT s.heap H).Ns b m := by
    intro b m hb
    obtain ⟨o, es, ep, e1, e2, e3⟩ := hb
    exact ⟨o, es, ep, hidT_get e1 (dictH b o es ep e1 e2), e2, e3⟩
  have inK2 : K.In (hidT s.heap H) := by
    intro b o hb
    exact hidT_get (inK b o hb) (keyK b o hb)
  refine ⟨?_, inK2, hideNs ns⟩
  constructor
  · rfl
  · constructor
    · exact inK2
    · exact hideNs ns
    · exact ⟨mb, hideNs nb, eb⟩
    · obtain ⟨mc, l1, l2⟩ := nl
      exact ⟨mc, hideNs l1, l2⟩
  · intro b o hb
    exact of_hidT hb
  · rw [hidT_size]
    exact Nat.le_refl _
  · trivial
  · intro b hb
    cases hb
  · exact hok
  · exact .of_eq ng
/-- the run of the law's def at a heap where the script lies -/
theorem run_law {P : Program} {w : World} {K : Frag} {mg mb : PySem.Str → Option Value} {s : Shared} {H : Hp} {a : Addr} {ns : List Int} {k : Nat} {f : Fn} (inK : K.In s.heap) (n1 : s.heap.Ns mainGlobals mg) (nb : s.heap.Ns builtinsNs mb) (eb : ∀ x : PySem.Str, x ≠ "__name__" → mb x = bootBuiltins x)
    (nl : s.heap.NoLimit) (ng : s.gens = #[]) (hok : HOk P w H s.heap) (keyK : ∀ b o, K.lookup b = some o → H b = none) (dictH : ∀ b o es ep, s.heap.get? b = some o → o.data = .dict es ep → H b = none)
    (frozen : ∀ b, H b = none ∨ ∃ o vs, H b = some (.frz o (.lst vs)) ∧ s.heap.get? b = some o) (sq : (∃ o, H a = some (.frz o (.lst (ns.map V.int)))) ∨ ∀ H', SqL K H' a (ns.map V.int))
    (hr : Room k callerA) (F : ∀ base : Heap, K.In base → base.Ns mainGlobals mg → DefG P w K mg base "law" ["script"] k f) (res : ∃ g, f [.ref 0] [.fls (ns.map .int)] = .ok (.bl true) g) :
    codeAny (model P w) callerA (.call (.ref (He.ga K "law")) ⟨[.ref a], []⟩) (fun r s' => r = .ok (.ret (.bool true)) ∧ OldK s.heap s'.heap ∧ s'.os = s.os ∧ AllBare s'.gens) s := by
  obtain ⟨e0, inK2, ns2⟩ := env_law inK n1 nb eb nl ng hok keyK dictH
  obtain ⟨fd, hB, hF⟩ := (F _ inK2 ns2).ok
  obtain ⟨g, hres⟩ := res
  have hspec : spM K 1 f [.ref a] H (fun v _ => v = .bl true) fun _ _ _ => False := by
    refine ⟨[a], [.ref 0], [.fls (ns.map .int)], .cons ⟨a, rfl, rfl⟩ .nil, ⟨rfl, ?_, ?_⟩, rfl, ?_⟩
    · intro i o b e1 e2
      cases i with
      | zero =>
        cases e1
        cases e2
        exact ⟨_, rel_ints ns, sq⟩
      | succ i => simp at e1
    · intro i j oi oj b e1 e2 t1
      cases i with
      | zero => cases e1; cases t1
      | succ i => simp at e1
    · rw [hres]
      exact fun ι' v H' _ r _ => r
  have run := hF.run callerA [] s H ⟨[.ref a], []⟩ [.ref a] [.ref a] _ _ rfl hr e0 (hB.2 s [.ref a] rfl) (.cons rfl .nil) hspec
  apply codeAny_mono run
  intro r s' h
  match r, h with
  | .error e, h =>
    obtain ⟨_, _, _, _, _, _, _, _, _, _, _, _, z⟩ := h
    exact z.elim
  | .ok .next, h => exact h.elim
  | .ok .brk, h => exact h.elim
  | .ok .cont, h => exact h.elim
  | .ok (.ret u), ⟨v, H', os, bare, un, hok', rv, q⟩ =>
    have q' : v = .bl true := q
    subst q'
    cases (show u = Value.bool true from rv)
    refine ⟨rfl, OldK.of_keep ?_, os, bare⟩
    intro b o hb
    rcases frozen b with z | ⟨o2, vs, z, z2⟩
    · exact un.keep b o hb z (by intro y; cases y) (by intro y; cases y)
    · have y := hok' b _ (un.frzs b o2 _ z)
      rw [hb] at z2
      cases z2
      exact y.1
theorem walk_MG {l : PySem.W.OpenLaw} {n : Nat} {q : Program} {loose : List PySem.Str} {XP : (PySem.Str → Option Value) → Heap → Prop} {d : DefRec} {fs : List Hx.Look} {fn : List He.DefD} {k : Nat} {f : Fn}
    (hn : l.most = some 63) (hdf : d.params.defaults = []) (hr : Room k callerA) (hnm : d.name = ("law" : PySem.Str))
    (F : ∀ (w : World) (K : Frag) (mg : PySem.Str → Option Value) (h : Heap), K.In h → h.Ns mainGlobals mg → Hx.SaysX fs fn K → ∀ base : Heap, K.In base → base.Ns mainGlobals mg → DefG l.prog w K mg base "law" ["script"] k f)
    (hM : ∀ ns : List Int, ns.length ≤ 63 → (∀ z ∈ ns, lg z ≤ 1048576) → ∃ g, f [.ref 0] [.fls (ns.map .int)] = .ok (.bl true) g) :
    PySem.W.WalkO q loose XP (Hx.hookX n fs fn).says l.row.toRowW d [] (fun f vs => PySem.call f vs) := by
  refine Att.attach_callB hn hdf fun w s₀ s₁ mg mb fa o pm cd doc a vs ns G Y ho hd hcd hmg hobj hints hlen hbits hg => ?_
  obtain ⟨K, KX, c⟩ := Y
  rw [hnm] at hmg
  have D := F w K mg _ KX G.T.g c
  have e := hmg.symm.trans (D _ KX G.T.g).mg_
  cases e
  have res := hM ns hlen fun z hz => by
    have := hbits z hz
    unfold lg
    unfold Builtin.Int.intBits at this
    split at this
    · rename_i h0
      rw [beq_iff_eq.mp h0]
      decide
    · omega
  have hsz : ns.length ≤ sizeLine := Nat.le_trans hlen (by decide)
  have rv := vals_ints hints
  cases hk : K.lookup a with
  | some o2 =>
    have z := KX a o2 hk
    rw [hobj] at z
    cases z
    refine run_law (H := fun _ => none) KX G.T.g G.T.b G.T.builtins G.T.nolimit hg (fun b u z => nomatch z) (fun _ _ _ => rfl) (fun _ _ _ _ _ _ => rfl) (fun _ => .inl rfl) (.inr fun H' => .inr ⟨_, vs.toArray, _, hk, rfl, rfl, rfl, by rw [List.size_toArray, hints.length]; exact hsz, by simpa using rv⟩) hr D res
  | none =>
    generalize hH : (fun b : Addr => if b = a then some (HO.frz { cls := .type "list", data := .seq vs.toArray } (.lst (ns.map V.int))) else none) = H
    have at_ : H a = some (.frz { cls := .type "list", data := .seq vs.toArray } (.lst (ns.map V.int))) := by rw [← hH]; exact if_pos rfl
    have off : ∀ b, b ≠ a → H b = none := fun b hb => by rw [← hH]; exact if_neg hb
    refine run_law (H := H) KX G.T.g G.T.b G.T.builtins G.T.nolimit hg (fun b u z => ?_) (fun b o2 z => off b fun e => ?_) (fun b o2 es ep z z2 => off b fun e => ?_) (fun b => ?_) (.inl ⟨_, at_⟩) hr D res
    · by_cases hb : b = a
      · subst hb
        rw [at_] at z
        cases z
        exact ⟨hobj, by rw [List.length_map]; exact hsz, vs, _, rv, hobj⟩
      · rw [off b hb] at z
        cases z
    · rw [e, hk] at z
      cases z
    · rw [e, hobj] at z
      cases z
      cases z2
    · by_cases hb : b = a
      · subst hb
        exact .inr ⟨_, _, at_, hobj⟩
      · exact .inl (off b hb)
end M
/-! MDoor: calls of defs that a name holds. -/
namespace M
open PySem PySem.Spec PyProof.Rows L2
theorem FnG.mono {P : Program} {w : World} {K : Frag} {mg : PySem.Str → Option Value} {base : Heap} {CX : CXT} {j k : Nat} {f : Addr} {fd : FuncData} {ps : List PySem.Str} {sp : Sp} (F : FnG P w K mg base CX j f fd ps sp) (h : j ≤ k) : FnG P w K mg base CX k f fd ps sp :=
  ⟨F.len, fun A outer s H args us vs Q E hgu hr => F.run A outer s H args us vs Q E hgu (hr.mono h)⟩
theorem DefG.mono {P : Program} {w : World} {K : Frag} {mg : PySem.Str → Option Value} {base : Heap} {x : PySem.Str} {ps : List PySem.Str} {j k : Nat} {f : Fn} (F : DefG P w K mg base x ps j f) (h : j ≤ k) : DefG P w K mg base x ps k f := by
  obtain ⟨fd, h1, h2⟩ := F.ok
  exact ⟨F.mg_, F.kp, F.ar, fd, h1, h2.mono h⟩
theorem lookF_mem {tbl : List (M.Str × Fn)} {x : M.Str} {f : Fn} (h : lookF tbl x = some f) : (x, f) ∈ tbl := by
  induction tbl with
  | nil => cases h
  | cons q r ih =>
    obtain ⟨y, f'⟩ := q
    unfold lookF at h
    split at h
    · rename_i e
      cases h
      rw [e]
      exact List.mem_cons_self
    · exact List.mem_cons_of_mem _ (ih h)
section
variable {X : Cx} {Wx : WX} {pos p : Pos} {e : Expr} {es : List Expr} {mas : MA} {mv : ME}
theorem m_callV {x : PySem.Str} {ps : List PySem.Str} {lv : Nat} {tbl : List (M.Str × Fn)} (TB : ∀ q ∈ tbl, DefG X.prog X.w X.K X.mg X.base q.1 ps lv q.2) (hgu : X.A.guards = some []) (hr : Room lv X.A) (tk : Takes X Wx) (hv : PE X (.Name x p) (tM X.K Wx mv)) (ha : PA X (e :: es) (tMa X.K Wx mas))
    (he : starEach (e :: es) X.env = (false, eval e X.env) :: starEach es X.env := by rfl) (hpl : (backTo pos (starEach es X.env)).any (·.1) = false := by rfl) :
    PE X (.Call (.Name x p) (e :: es) [] pos) (tM X.K Wx (mCallV tbl mv mas)) := by
  constructor
  intro pins s σ H Q I ⟨ι, ρ, g, hs, hg1, h⟩
  apply wpAny_Call_Name_kw
  refine thn (hv.run pins s σ H _ I (go1 hs hg1 h)) fun u s1 ⟨v, H1, I1, rv, ι1, w1, g1, p1, r1, hg2, h1⟩ => ?_
  dsimp only at h1
  split at h1
  · rename_i y
    split at h1
    · rename_i f hf
      have F : DefG X.prog X.w X.K X.mg X.base y ps lv f := TB _ (lookF_mem hf)
      obtain ⟨fd, hB, hF⟩ := F.ok
      cases (show v = .ref (He.ga X.K y) from r1)
      cases (show u = Value.ref (He.ga X.K y) from rv)
      refine PySem.W.callWith_K (h₀ := X.base) I1.ok.mod.kin F.kp (thn (ha.run pos pins s1 σ H1 _ I1 (goA (hs.mono p1) hg2 h1)) fun us s2 ⟨vs, H2, I2, r, ι2, w2, g2, p2, r2, hg3, h2⟩ => ⟨I2.kIn, ?_⟩) he hpl
      by_cases hz : w2.length = ps.length
      · exact call_G (ks := []) hF hgu hr (hB.2 s2 us (by rw [← r.length, ← r2.length, hz])) (passAt tk σ) I2 r ⟨ι2, w2, g2, r2, hg3, hz, h2⟩
      · dsimp only at h2
        rw [F.ar w2 g2 hz] at h2
        exact h2.elim
    · exact h1.elim
  · exact h1.elim
/-- how a def binds keywords only -/
def KwB (K : Frag) (x : PySem.Str) (ps ks : List PySem.Str) (pm : List Nat) : Prop := ∃ fd0, (some fd0 = (match K.lookup (He.ga K x) with
      | some ⟨_, _, .func fd, _⟩ => some fd
      | _ => none)) ∧ ∀ (s : Shared) (ws : List Value), ws.length = ks.length → BindsTo s fd0 ⟨[], ks.zip ws⟩ (ps.zip (pick pm ws))
theorem KwB.of {K : Frag} {x qual : PySem.Str} {params : Arguments} {body : List Stmt} {scope : Scope} {ps ks : List PySem.Str} {pm : List Nat} (D : ∃ fd0, FunD K x qual params body scope [] [] (He.ga K x) fd0)
    (hb : ∀ (kV doc pm' : Value) (an : Option Addr) (cdv ct : Value) (ws : List Value), ws.length = ks.length → bindArgs (PySem.W.fnOf x qual params body scope .none kV doc pm' an cdv ct) ⟨[], ks.zip ws⟩ = pure (ps.zip (pick pm ws))) : KwB K x ps ks pm := by
  obtain ⟨fd0, D⟩ := D
  refine ⟨fd0, FunD.self D, fun s ws hw => ?_⟩
  obtain ⟨_, _, dV, kV, doc, pm', an, cdv, ct, _, rfl, _, _, hD, _⟩ := D.ex
  rcases hD with ⟨_, rfl⟩ | ⟨z, _⟩
  · exact .of_eq (hb kV doc pm' an cdv ct ws hw)
  · exact absurd rfl z
theorem m_callVKw {x : PySem.Str} {ps ks : List PySem.Str} {lv : Nat} {tbl : List (M.Str × Fn)} {kws : List Keyword} (pm : List Nat) (TB : ∀ q ∈ tbl, DefG X.prog X.w X.K X.mg X.base q.1 ps lv q.2) (TK : ∀ q ∈ tbl, KwB X.K q.1 ps ks pm) (hgu : X.A.guards = some []) (hr : Room lv X.A) (tk : Takes X Wx)
    (hv : PE X (.Name x p) (tM X.K Wx mv)) (hkw : PK X kws (tMa X.K Wx mas))
    (hall : (backToKw pos (keywordEach kws X.env)).all (·.1.isSome) = true := by rfl) (hks : (backToKw pos (keywordEach kws X.env)).filterMap (·.1) = ks := by rfl)
    (hpl : ((backTo pos (starEach [] X.env)).any (·.1) || (backToKw pos (keywordEach kws X.env)).any (·.1.isNone)) = false := by rfl) :
    PE X (.Call (.Name x p) [] kws pos) (tM X.K Wx (mCallVP tbl ks.length pm mv mas)) := by
  constructor
  intro pins s σ H Q I ⟨ι, ρ, g, hs, hg1, h⟩
  apply wpAny_Call_Name_kw
  refine thn (hv.run pins s σ H _ I (go1 hs hg1 h)) fun u s1 ⟨v, H1, I1, rv, ι1, w1, g1, p1, r1, hg2, h1⟩ => ?_
  dsimp only at h1
  split at h1
  · rename_i y
    split at h1
    · rename_i f hf
      have F : DefG X.prog X.w X.K X.mg X.base y ps lv f := TB _ (lookF_mem hf)
      obtain ⟨fd0, e0, hbind⟩ := TK _ (lookF_mem hf)
      obtain ⟨fd, hB, hF⟩ := F.ok
      have e1 : fd = fd0 := Option.some.inj (hB.1.trans e0.symm)
      subst e1
      cases (show v = .ref (He.ga X.K y) from r1)
      cases (show u = Value.ref (He.ga X.K y) from rv)
      apply PySem.W.callWith_KW0 (h₀ := X.base) I1.ok.mod.kin F.kp hall ?_ hpl
      refine thn (hkw.run pos pins s1 σ H1 _ I1 (goA (hs.mono p1) hg2 h1)) fun ws s2 ⟨zs, H2, I2, r, ι2, w2, g2, p2, r2, hg3, h2⟩ => ⟨I2.kIn, ?_⟩
      dsimp only at h2
      split at h2
      · rename_i hz
        have hw : ws.length = ks.length := by rw [← r.length, ← r2.length, hz]
        rw [hks]
        by_cases hz2 : (pick pm w2).length = ps.length
        · exact call_G hF hgu hr (hbind s2 ws hw) (passAt tk σ) I2 (pick_rel r pm) ⟨ι2, pick pm w2, g2, pick_rel r2 pm, hg3, hz2, h2⟩
        · rw [F.ar _ g2 hz2] at h2
          exact h2.elim
      · exact h2.elim
    · exact h1.elim
  · exact h1.elim
end
end M
/-! MWp: what a computation of the small machine ends in, step by step. -/
namespace M
def Ok {α : Type} (r : Res α) (Q : α → G → Prop) : Prop := ∃ a g, r = .ok a g ∧ Q a g
def OkS (r : SR) (Q : Fl → G → Prop) : Prop := ∃ f g, r = .fl f g ∧ Q f g
theorem Ok.mono {α : Type} {r : Res α} {Q Q' : α → G → Prop} (h : Ok r Q) (q : ∀ a g, Q a g → Q' a g) : Ok r Q' := by
  obtain ⟨a, g, e, h⟩ := h
  exact ⟨a, g, e, q a g h⟩
theorem OkS.mono {r : SR} {Q Q' : Fl → G → Prop} (h : OkS r Q) (q : ∀ a g, Q a g → Q' a g) : OkS r Q' := by
  obtain ⟨a, g, e, h⟩ := h
  exact ⟨a, g, e, q a g h⟩
theorem ok_ok {α : Type} {a : α} {g : G} {Q : α → G → Prop} : Ok (.ok a g) Q ↔ Q a g := ⟨fun ⟨_, _, e, h⟩ => by cases e; exact h, fun h => ⟨a, g, rfl, h⟩⟩
theorem ok_bad {α : Type} {Q : α → G → Prop} : Ok (.bad : Res α) Q ↔ False := ⟨fun ⟨_, _, e, _⟩ => (nomatch e), False.elim⟩
theorem ok_ex {α : Type} {e : Ex} {g : G} {Q : α → G → Prop} : Ok (.ex e g : Res α) Q ↔ False := ⟨fun ⟨_, _, e, _⟩ => (nomatch e), False.elim⟩
theorem ok_ite {α : Type} {c : Prop} [Decidable c] {a b : Res α} {Q : α → G → Prop} : Ok (if c then a else b) Q ↔ if c then Ok a Q else Ok b Q := by split <;> rfl
theorem ok_iteB {α : Type} {c : Prop} [Decidable c] {a : Res α} {Q : α → G → Prop} : Ok (if c then a else .bad) Q ↔ c ∧ Ok a Q := by
  split
  · rename_i h; exact ⟨fun q => ⟨h, q⟩, fun q => q.2⟩
  · rename_i h; exact ⟨fun q => (ok_bad.mp q).elim, fun q => absurd q.1 h⟩
theorem ok_bind {α β : Type} {r : Res α} {f : α → G → Res β} {Q : β → G → Prop} : Ok (r.bind f) Q ↔ Ok r fun a g => Ok (f a g) Q := by
  cases r with
  | ok a g => rw [ok_ok]; rfl
  | ex e g => exact ⟨fun h => (ok_ex.mp h).elim, fun h => (ok_ex.mp h).elim⟩
  | bad => exact ⟨fun h => (ok_bad.mp h).elim, fun h => (ok_bad.mp h).elim⟩
theorem okS_fl {f : Fl} {g : G} {Q : Fl → G → Prop} : OkS (.fl f g) Q ↔ Q f g := ⟨fun ⟨_, _, e, h⟩ => by cases e; exact h, fun h => ⟨f, g, rfl, h⟩⟩
theorem okS_bad {Q : Fl → G → Prop} : OkS .bad Q ↔ False := ⟨fun ⟨_, _, e, _⟩ => (nomatch e), False.elim⟩
theorem okS_ex {e : Ex} {ρ : Env} {g : G} {Q : Fl → G → Prop} : OkS (.ex e ρ g) Q ↔ False := ⟨fun ⟨_, _, e, _⟩ => (nomatch e), False.elim⟩
section
variable {ρ : Env} {g : G} {a b c : ME} {t u : MT} {as : MA} {Q : W → G → Prop} {QT : Bool → G → Prop} {QA : List W → G → Prop} {f f' : W → W → G → Res W} {fn : Fn}
theorem ok_var {i : Nat} : Ok (mVar i ρ g) Q ↔ ∃ w, ρ[i]? = some (some w) ∧ Q w g := by
  unfold mVar
  split
  · rename_i w q
    rw [ok_ok, q]
    exact ⟨fun h => ⟨w, rfl, h⟩, fun ⟨w', e, h⟩ => by cases e; exact h⟩
  · rename_i q
    exact ⟨fun h => (ok_bad.mp h).elim, fun ⟨w, e, _⟩ => absurd e (q w)⟩
theorem ok_C {w : W} : Ok (mC w ρ g) Q ↔ Q w g := ok_ok
theorem ok_op2 : Ok (mOp2 f a b ρ g) Q ↔ Ok (a ρ g) fun x g1 => Ok (b ρ g1) fun y g2 => Ok (f x y g2) Q := by
  unfold mOp2
  simp only [ok_bind]
theorem ok_op1 {f : W → G → Res W} : Ok (mOp1 f a ρ g) Q ↔ Ok (a ρ g) fun x g1 => Ok (f x g1) Q := by
  unfold mOp1
  simp only [ok_bind]
theorem ok_anil : Ok (aNil ρ g) QA ↔ QA [] g := ok_ok
theorem ok_acons : Ok (aCons a as ρ g) QA ↔ Ok (a ρ g) fun x g1 => Ok (as ρ g1) fun xs g2 => QA (x :: xs) g2 := by
  unfold aCons
  simp only [ok_bind, ok_ok]
theorem ok_call : Ok (mCall fn as ρ g) Q ↔ Ok (as ρ g) fun xs g1 => Ok (fn xs g1) Q := by
  unfold mCall
  simp only [ok_bind]
theorem ok_lst : Ok (mLst as ρ g) Q ↔ Ok (as ρ g) fun xs g1 => xs.length ≤ SZ ∧ Q (.ref g1.length) (g1 ++ [.lst xs]) := by
  unfold mLst
  simp only [ok_bind, ok_iteB, ok_ok]
theorem ok_tup : Ok (mTup as ρ g) Q ↔ Ok (as ρ g) fun xs g1 => xs.length ≤ SZ ∧ Q (.ref g1.length) (g1 ++ [.tup xs]) := by
  unfold mTup
  simp only [ok_bind, ok_iteB, ok_ok]
theorem ok_if : Ok (mIf t a b ρ g) Q ↔ Ok (t ρ g) fun k g1 => if k = true then Ok (a ρ g1) Q else Ok (b ρ g1) Q := by
  unfold mIf
  simp only [ok_bind, ok_ite]
theorem ok_tVal : Ok (tVal a ρ g) QT ↔ Ok (a ρ g) fun x g1 => ∃ k, x = .bl k ∧ QT k g1 := by
  unfold tVal
  rw [ok_bind]
  constructor
  · intro h
    refine h.mono fun x g1 h => ?_
    cases x with
    | bl k => exact ⟨k, rfl, ok_ok.mp h⟩
    | _ => exact (ok_bad.mp h).elim
  · intro h
    refine h.mono fun x g1 ⟨k, e, h⟩ => ?_
    subst e
    exact ok_ok.mpr h
theorem ok_tNot : Ok (tNot t ρ g) QT ↔ Ok (t ρ g) fun k g1 => QT (!k) g1 := by
  unfold tNot
  simp only [ok_bind, ok_ok]
theorem ok_tAnd : Ok (tAnd t u ρ g) QT ↔ Ok (t ρ g) fun k g1 => if k = true then Ok (u ρ g1) QT else QT false g1 := by
  unfold tAnd
  simp only [ok_bind, ok_ite, ok_ok]
theorem ok_tOr : Ok (tOr t u ρ g) QT ↔ Ok (t ρ g) fun k g1 => if k = true then QT true g1 else Ok (u ρ g1) QT := by
  unfold tOr
  simp only [ok_bind, ok_ite, ok_ok]
theorem ok_tYes : Ok (tYes ρ g) QT ↔ QT true g := ok_ok
theorem ok_mAnd : Ok (mAnd a b ρ g) Q ↔ Ok (a ρ g) fun x g1 => ∃ k, x = .bl k ∧ if k = true then Ok (b ρ g1) Q else Q (.bl false) g1 := by
  unfold mAnd
  rw [ok_bind]
  constructor
  · intro h
    refine h.mono fun x g1 h => ?_
    cases x with
    | bl k =>
      cases k
      · exact ⟨false, rfl, by rw [if_neg Bool.false_ne_true]; exact ok_ok.mp h⟩
      · exact ⟨true, rfl, by rw [if_pos rfl]; exact h⟩
    | _ => exact (ok_bad.mp h).elim
  · intro h
    refine h.mono fun x g1 ⟨k, e, h⟩ => ?_
    subst e
    cases k
    · rw [if_neg Bool.false_ne_true] at h; exact ok_ok.mpr h
    · rw [if_pos rfl] at h; exact h
theorem ok_mOr : Ok (mOr a b ρ g) Q ↔ Ok (a ρ g) fun x g1 => ∃ k, x = .bl k ∧ if k = true then Q (.bl true) g1 else Ok (b ρ g1) Q := by
  unfold mOr
  rw [ok_bind]
  constructor
  · intro h
    refine h.mono fun x g1 h => ?_
    cases x with
    | bl k =>
      cases k
      · exact ⟨false, rfl, by rw [if_neg Bool.false_ne_true]; exact h⟩
      · exact ⟨true, rfl, by rw [if_pos rfl]; exact ok_ok.mp h⟩
    | _ => exact (ok_bad.mp h).elim
  · intro h
    refine h.mono fun x g1 ⟨k, e, h⟩ => ?_
    subst e
    cases k
    · rw [if_neg Bool.false_ne_true] at h; exact h
    · rw [if_pos rfl] at h; exact ok_ok.mpr h
theorem ok_mNot : Ok (mNot a ρ g) Q ↔ Ok (a ρ g) fun x g1 => ∃ k, x = .bl k ∧ Q (.bl (!k)) g1 := by
  unfold mNot
  rw [ok_bind]
  constructor
  · intro h
    refine h.mono fun x g1 h => ?_
    cases x with
    | bl k => exact ⟨k, rfl, ok_ok.mp h⟩
    | _ => exact (ok_bad.mp h).elim
  · intro h
    refine h.mono fun x g1 ⟨k, e, h⟩ => ?_
    subst e
    exact ok_ok.mpr h
theorem ok_chain : Ok (mChain f f' a b c ρ g) Q ↔ Ok (a ρ g) fun x g1 => Ok (b ρ g1) fun y g2 => Ok (f x y g2) fun z g3 => ∃ k, z = .bl k ∧ if k = true then Ok (c ρ g3) fun w g4 => Ok (f' y w g4) Q else Q (.bl false) g3 := by
  unfold mChain
  simp only [ok_bind]
  constructor
  · intro h
    refine h.mono fun x g1 h => h.mono fun y g2 h => h.mono fun z g3 h => ?_
    cases z with
    | bl k =>
      cases k
      · exact ⟨false, rfl, by rw [if_neg Bool.false_ne_true]; exact ok_ok.mp h⟩
      · exact ⟨true, rfl, by rw [if_pos rfl]; exact ok_bind.mp h⟩
    | _ => exact (ok_bad.mp h).elim
  · intro h
    refine h.mono fun x g1 h => h.mono fun y g2 h => h.mono fun z g3 ⟨k, e, h⟩ => ?_
    subst e
    cases k
    · rw [if_neg Bool.false_ne_true] at h; exact ok_ok.mpr h
    · rw [if_pos rfl] at h; exact ok_bind.mpr h
theorem ok_star : Ok (aStar a as ρ g) QA ↔ Ok (a ρ g) fun x g1 => ∃ n ws, x = .ref n ∧ seqAt g1 n = some ws ∧ Ok (as ρ g1) fun xs g2 => QA (ws ++ xs) g2 := by
  unfold aStar
  rw [ok_bind]
  constructor
  · intro h
    refine h.mono fun x g1 h => ?_
    cases x with
    | ref n =>
      dsimp only at h
      split at h
      · rename_i ws q
        rw [ok_bind] at h
        exact ⟨n, ws, rfl, q, h.mono fun xs g2 h => ok_ok.mp h⟩
      · exact (ok_bad.mp h).elim
    | _ => exact (ok_bad.mp h).elim
  · intro h
    refine h.mono fun x g1 ⟨n, ws, e, q, h⟩ => ?_
    subst e
    dsimp only
    rw [q]
    rw [ok_bind]
    exact h.mono fun xs g2 h => ok_ok.mpr h
theorem ok_oNone {Q : Option Int → G → Prop} : Ok (oNone ρ g) Q ↔ Q none g := ok_ok
theorem ok_oSome {Q : Option Int → G → Prop} : Ok (oSome a ρ g) Q ↔ Ok (a ρ g) fun x g1 => ∃ i, x = .int i ∧ Q (some i) g1 := by
  unfold oSome
  rw [ok_bind]
  constructor
  · intro h
    refine h.mono fun x g1 h => ?_
    cases x with
    | int k => exact ⟨k, rfl, ok_ok.mp h⟩
    | _ => exact (ok_bad.mp h).elim
  · intro h
    refine h.mono fun x g1 ⟨k, e, h⟩ => ?_
    subst e
    exact ok_ok.mpr h
theorem ok_sl {lo hi : MO} : Ok (mSl a lo hi ρ g) Q ↔ Ok (a ρ g) fun x g1 => Ok (lo ρ g1) fun l g2 => Ok (hi ρ g2) fun h g3 => ∃ n ws, x = .ref n ∧ lstAt g3 n = some ws ∧ Q (.ref g3.length) (g3 ++ [.lst (cut ws l h)]) := by
  unfold mSl
  simp only [ok_bind]
  constructor
  · intro h
    refine h.mono fun x g1 h => h.mono fun y g2 h => h.mono fun z g3 h => ?_
    cases x with
    | ref n =>
      dsimp only at h
      split at h
      · rename_i ws q
        exact ⟨n, ws, rfl, q, ok_ok.mp h⟩
      · exact (ok_bad.mp h).elim
    | _ => exact (ok_bad.mp h).elim
  · intro h
    refine h.mono fun x g1 h => h.mono fun y g2 h => h.mono fun z g3 h => ?_
    obtain ⟨n, ws, e, q, hq⟩ := h
    subst e
    dsimp only
    rw [q]
    exact ok_ok.mpr hq
theorem ok_rev : Ok (mRev a ρ g) Q ↔ Ok (a ρ g) fun x g1 => ∃ n ws, x = .ref n ∧ lstAt g1 n = some ws ∧ Q (.ref g1.length) (g1 ++ [.lst ws.reverse]) := by
  unfold mRev
  simp only [ok_bind]
  constructor
  · intro h
    refine h.mono fun x g1 h => ?_
    cases x with
    | ref n =>
      dsimp only at h
      split at h
      · rename_i ws q
        exact ⟨n, ws, rfl, q, ok_ok.mp h⟩
      · exact (ok_bad.mp h).elim
    | _ => exact (ok_bad.mp h).elim
  · intro h
    refine h.mono fun x g1 ⟨n, ws, e, q, h⟩ => ?_
    subst e
    dsimp only
    rw [q]
    exact ok_ok.mpr h
theorem ok_mt {f : W → List W → G → Res W} : Ok (mMt f a as ρ g) Q ↔ Ok (a ρ g) fun x g1 => isL g1 x = true ∧ Ok (as ρ g1) fun xs g2 => Ok (f x xs g2) Q := by
  unfold mMt
  simp only [ok_bind, ok_iteB]
end
/-! ### statements -/
section
variable {ρ : Env} {g : G} {e : ME} {t : MT} {s s1 s2 : MS} {as : MA} {Q : Fl → G → Prop}
/-- what follows a statement -/
def nxt (Q : Fl → G → Prop) (s : MS) : Fl → G → Prop := fun f g => match f with
  | .nx ρ => OkS (s ρ g) Q
  | .rt w => Q (.rt w) g
  | .bk ρ => Q (.bk ρ) g
  | .ct ρ => Q (.ct ρ) g
theorem nxt_nx {Q : Fl → G → Prop} {s : MS} {ρ : Env} {g : G} : nxt Q s (.nx ρ) g ↔ OkS (s ρ g) Q := Iff.rfl
theorem nxt_rt {Q : Fl → G → Prop} {s : MS} {w : W} {g : G} : nxt Q s (.rt w) g ↔ Q (.rt w) g := Iff.rfl
theorem nxt_bk {Q : Fl → G → Prop} {s : MS} {ρ : Env} {g : G} : nxt Q s (.bk ρ) g ↔ Q (.bk ρ) g := Iff.rfl
theorem nxt_ct {Q : Fl → G → Prop} {s : MS} {ρ : Env} {g : G} : nxt Q s (.ct ρ) g ↔ Q (.ct ρ) g := Iff.rfl
theorem okS_nop : OkS (sNop ρ g) Q ↔ Q (.nx ρ) g := okS_fl
theorem okS_brk : OkS (sBrk ρ g) Q ↔ Q (.bk ρ) g := okS_fl
theorem okS_cnt : OkS (sCnt ρ g) Q ↔ Q (.ct ρ) g := okS_fl
theorem okS_seq : OkS (sSeq s1 s2 ρ g) Q ↔ OkS (s1 ρ g) (nxt Q s2) := by
  unfold sSeq
  cases r : s1 ρ g with
  | fl f g1 =>
    cases f with
    | nx ρ1 => rw [okS_fl]; rfl
    | rt w => rw [okS_fl, okS_fl]; rfl
    | bk ρ1 => rw [okS_fl, okS_fl]; rfl
    | ct ρ1 => rw [okS_fl, okS_fl]; rfl
  | ex e ρ g => exact ⟨fun h => (okS_ex.mp h).elim, fun h => (okS_ex.mp h).elim⟩
  | bad => exact ⟨fun h => (okS_bad.mp h).elim, fun h => (okS_bad.mp h).elim⟩
theorem okS_E : OkS (sE e ρ g) Q ↔ Ok (e ρ g) fun _ g1 => Q (.nx ρ) g1 := by
  unfold sE
  cases r : e ρ g with
  | ok w g1 => simp only [okS_fl, ok_ok]
  | ex x g1 => exact ⟨fun h => (okS_ex.mp h).elim, fun h => (ok_ex.mp h).elim⟩
  | bad => exact ⟨fun h => (okS_bad.mp h).elim, fun h => (ok_bad.mp h).elim⟩
theorem okS_ret : OkS (sRet e ρ g) Q ↔ Ok (e ρ g) fun w g1 => Q (.rt w) g1 := by
  unfold sRet
  cases r : e ρ g with
  | ok w g1 => simp only [okS_fl, ok_ok]
  | ex x g1 => exact ⟨fun h => (okS_ex.mp h).elim, fun h => (ok_ex.mp h).elim⟩
  | bad => exact ⟨fun h => (okS_bad.mp h).elim, fun h => (ok_bad.mp h).elim⟩
theorem okS_asg {t : MG} : OkS (sAsg e t ρ g) Q ↔ Ok (e ρ g) fun w g1 => Ok (t w ρ g1) fun ρ1 g2 => Q (.nx ρ1) g2 := by
  unfold sAsg
  cases r : e ρ g with
  | ok w g1 =>
    rw [ok_ok]
    dsimp only
    cases r2 : t w ρ g1 with
    | ok ρ1 g2 => simp only [okS_fl, ok_ok]
    | ex x g2 => exact ⟨fun h => (okS_bad.mp h).elim, fun h => (ok_ex.mp h).elim⟩
    | bad => exact ⟨fun h => (okS_bad.mp h).elim, fun h => (ok_bad.mp h).elim⟩
  | ex x g1 => exact ⟨fun h => (okS_ex.mp h).elim, fun h => (ok_ex.mp h).elim⟩
  | bad => exact ⟨fun h => (okS_bad.mp h).elim, fun h => (ok_bad.mp h).elim⟩
theorem ok_gName {i : Nat} {w : W} {Q : Env → G → Prop} : Ok (gName i w ρ g) Q ↔ Q (ρ.set i (some w)) g := ok_ok
theorem okS_if : OkS (sIf t s1 s2 ρ g) Q ↔ Ok (t ρ g) fun k g1 => if k = true then OkS (s1 ρ g1) Q else OkS (s2 ρ g1) Q := by
  unfold sIf
  cases r : t ρ g with
  | ok w g1 => cases w <;> simp [ok_ok]
  | ex x g1 => exact ⟨fun h => (okS_ex.mp h).elim, fun h => (ok_ex.mp h).elim⟩
  | bad => exact ⟨fun h => (okS_bad.mp h).elim, fun h => (ok_bad.mp h).elim⟩
theorem okS_aug {i : Nat} {f : W → W → G → Res W} : OkS (sAug i f e ρ g) Q ↔ ∃ x, ρ[i]? = some (some x) ∧ Ok (e ρ g) fun y g1 => Ok (f x y g1) fun z g2 => Q (.nx (ρ.set i (some z))) g2 := by
  unfold sAug
  split
  · rename_i x q
    cases r : e ρ g with
    | ok y g1 =>
      simp only [ok_ok]
      cases r2 : f x y g1 with
      | ok z g2 =>
        rw [okS_fl]
        exact ⟨fun h => ⟨x, q, by rw [r2, ok_ok]; exact h⟩, fun ⟨x', e, h⟩ => by rw [q] at e; cases e; rw [r2, ok_ok] at h; exact h⟩
      | ex x1 g2 => exact ⟨fun h => (okS_ex.mp h).elim, fun ⟨x', e, h⟩ => by rw [q] at e; cases e; rw [r2] at h; exact (ok_ex.mp h).elim⟩
      | bad => exact ⟨fun h => (okS_bad.mp h).elim, fun ⟨x', e, h⟩ => by rw [q] at e; cases e; rw [r2] at h; exact (ok_bad.mp h).elim⟩
    | ex x1 g1 => exact ⟨fun h => (okS_ex.mp h).elim, fun ⟨x', e, h⟩ => (ok_ex.mp h).elim⟩
    | bad => exact ⟨fun h => (okS_bad.mp h).elim, fun ⟨x', e, h⟩ => (ok_bad.mp h).elim⟩
  · rename_i q
    exact ⟨fun h => (okS_bad.mp h).elim, fun ⟨x, e, _⟩ => absurd e (q x)⟩
theorem okS_par {is : List Nat} : OkS (sPar is as ρ g) Q ↔ Ok (as ρ g) fun ws g1 => ∃ ρ1, putL is ws ρ = some ρ1 ∧ Q (.nx ρ1) g1 := by
  unfold sPar
  cases r : as ρ g with
  | ok ws g1 =>
    rw [ok_ok]
    dsimp only
    cases q : putL is ws ρ with
    | some ρ1 => exact ⟨fun h => ⟨ρ1, rfl, okS_fl.mp h⟩, fun ⟨_, e, h⟩ => by cases e; exact okS_fl.mpr h⟩
    | none => exact ⟨fun h => (okS_bad.mp h).elim, fun ⟨_, e, _⟩ => by cases e⟩
  | ex x g1 => exact ⟨fun h => (okS_ex.mp h).elim, fun h => (ok_ex.mp h).elim⟩
  | bad => exact ⟨fun h => (okS_bad.mp h).elim, fun h => (ok_bad.mp h).elim⟩
theorem ok_def {p n : Nat} {b : MS} {ws : List W} {Q : W → G → Prop} : Ok (mDef p n b ws g) Q ↔ ws.length = p ∧ OkS (b (startM n ws) g) fun f g' => match f with
    | .nx _ => Q .non g'
    | .rt w => Q w g'
    | _ => False := by
  unfold mDef
  rw [ok_iteB]
  refine and_congr_right fun _ => ?_
  cases r : b (startM n ws) g with
  | fl f g1 =>
    cases f with
    | nx ρ1 => simp only [endS, okS_fl, ok_ok]
    | rt w => simp only [endS, okS_fl, ok_ok]
    | bk ρ1 => simp only [endS, okS_fl, ok_bad]
    | ct ρ1 => simp only [endS, okS_fl, ok_bad]
  | ex e ρ g => exact ⟨fun h => (ok_ex.mp h).elim, fun h => (okS_ex.mp h).elim⟩
  | bad => exact ⟨fun h => (ok_bad.mp h).elim, fun h => (okS_bad.mp h).elim⟩
theorem okS_for {mi : MI} {tg : MG} : OkS (sFor mi tg s ρ g) Q ↔ Ok (mi ρ g) fun it g1 => OkS (forGo it tg s (itLen it g1) 0 ρ g1) Q := by
  unfold sFor
  cases r : mi ρ g with
  | ok w g1 => rw [ok_ok]
  | ex x g1 => exact ⟨fun h => (okS_ex.mp h).elim, fun h => (ok_ex.mp h).elim⟩
  | bad => exact ⟨fun h => (okS_bad.mp h).elim, fun h => (ok_bad.mp h).elim⟩
end
/-! ### heaps -/
def Ext (g g' : G) : Prop := ∃ t, g' = g ++ t
theorem Ext.refl (g : G) : Ext g g := ⟨[], by simp⟩
theorem Ext.trans {a b c : G} (h : Ext a b) (h' : Ext b c) : Ext a c := by
  obtain ⟨t, rfl⟩ := h
  obtain ⟨u, rfl⟩ := h'
  exact ⟨t ++ u, by simp⟩
theorem Ext.snoc (g : G) (o : O) : Ext g (g ++ [o]) := ⟨[o], rfl⟩
theorem Ext.len {g g' : G} (h : Ext g g') : g.length ≤ g'.length := by
  obtain ⟨t, rfl⟩ := h
  simp
theorem Ext.get {g g' : G} (h : Ext g g') {n : Nat} {o : O} (e : g[n]? = some o) : g'[n]? = some o := by
  obtain ⟨t, rfl⟩ := h
  have hl : n < g.length := (List.getElem?_eq_some_iff.mp e).1
  rw [List.getElem?_append_left hl]
  exact e
theorem Ext.set {g g' : G} (h : Ext g g') {n : Nat} (hn : g.length ≤ n) (o : O) : Ext g (g'.set n o) := by
  obtain ⟨t, rfl⟩ := h
  exact ⟨t.set (n - g.length) o, by rw [List.set_append_right _ _ hn]⟩
theorem get_new (g : G) (o : O) : (g ++ [o])[g.length]? = some o := by simp
theorem lstAt_of {g : G} {n : Nat} {ws : List W} (h : g[n]? = some (.lst ws)) : lstAt g n = some ws := by unfold lstAt; rw [h]
theorem lstAt_ofF {g : G} {n : Nat} {ws : List W} (h : g[n]? = some (.fls ws)) : lstAt g n = some ws := by unfold lstAt; rw [h]
theorem tupAt_of {g : G} {n : Nat} {ws : List W} (h : g[n]? = some (.tup ws)) : tupAt g n = some ws := by unfold tupAt; rw [h]
theorem Ext.lst {g g' : G} (h : Ext g g') {n : Nat} {ws : List W} (e : lstAt g n = some ws) : lstAt g' n = some ws := by
  unfold lstAt at *
  cases q : g[n]? with
  | none => rw [q] at e; cases e
  | some o => rw [h.get q]; rw [q] at e; exact e
theorem Ext.seq {g g' : G} (h : Ext g g') {n : Nat} {ws : List W} (e : seqAt g n = some ws) : seqAt g' n = some ws := by
  unfold seqAt at *
  cases q : g[n]? with
  | none => rw [q] at e; cases e
  | some o => rw [h.get q]; rw [q] at e; exact e
theorem Ext.tup {g g' : G} (h : Ext g g') {n : Nat} {ws : List W} (e : tupAt g n = some ws) : tupAt g' n = some ws := by
  unfold tupAt at *
  cases q : g[n]? with
  | none => rw [q] at e; cases e
  | some o => rw [h.get q]; rw [q] at e; exact e
theorem seq_of_lst {g : G} {n : Nat} {ws : List W} (e : lstAt g n = some ws) : seqAt g n = some ws := by
  unfold lstAt at e
  unfold seqAt
  split at e
  · rename_i us q; rw [q]; exact e
  · rename_i us q; rw [q]; exact e
  · cases e
theorem seq_of_tup {g : G} {n : Nat} {ws : List W} (e : tupAt g n = some ws) : seqAt g n = some ws := by
  unfold tupAt at e
  unfold seqAt
  split at e
  · rename_i us q; rw [q]; exact e
  · cases e
theorem isL_of {g : G} {n : Nat} {ws : List W} (e : lstAt g n = some ws) : isL g (.ref n) = true := by
  unfold isL
  dsimp only
  rw [e]
  rfl
theorem lt_of_lst {g : G} {n : Nat} {ws : List W} (e : lstAt g n = some ws) : n < g.length := by
  unfold lstAt at e
  cases q : g[n]? with
  | none => rw [q] at e; cases e
  | some o => exact (List.getElem?_eq_some_iff.mp q).1
theorem lt_of_get {g : G} {n : Nat} {o : O} (q : g[n]? = some o) : n < g.length := (List.getElem?_eq_some_iff.mp q).1
theorem ints_map (ns : List Int) : intsL (ns.map .int) = some ns := by
  induction ns with
  | nil => rfl
  | cons n ns ih => rw [List.map_cons, intsL, ih]
theorem bools_map (ns : List Bool) : bools (ns.map .bl) = some ns := by
  induction ns with
  | nil => rfl
  | cons n ns ih => rw [List.map_cons, bools, ih]
/-! ### loops -/
/-- a comprehension whose turns leave what stood: val i is the i-th turn's item, if there is one -/
theorem lcGo_map {it : It} {tg : MG} {tt : MT} {el : ME} {ρ : Env} {g0 : G} (n : Nat) (val : Nat → Option W) (hn : n ≤ SZ)
    (step : ∀ i g', i < n → Ext g0 g' → g0.length < g'.length → ∃ w g1, itAt it i g' = .go w g1 ∧ Ok (tg w ρ g1) fun ρ1 g2 => Ok (tt ρ1 g2) fun k g3 => if k = true then Ok (el ρ1 g3) fun y g4 => Ext g' g4 ∧ val i = some y else Ext g' g3 ∧ val i = none)
    (stop : ∀ g', Ext g0 g' → g0.length < g'.length → itAt it n g' = .stop) :
    ∀ (m i : Nat) (acc : List W) (g' : G), i + m = n → Ext g0 g' → g'[g0.length]? = some (.lst acc) → acc.length ≤ i → acc = (List.range i).filterMap val →
      Ok (lcGo it tg tt el ρ g0.length m i g') fun w g2 => w = .ref g0.length ∧ Ext g0 g2 ∧ g2[g0.length]? = some (.lst ((List.range n).filterMap val)) := by
  intro m
  induction m with
  | zero =>
    intro i acc g' e hx hd hl ha
    have : i = n := by omega
    subst this
    unfold lcGo
    rw [stop g' hx (lt_of_get hd), ok_ok]
    exact ⟨rfl, hx, by rw [hd, ha]⟩
  | succ m ih =>
    intro i acc g' e hx hd hl ha
    unfold lcGo
    obtain ⟨w, g1, e1, h1⟩ := step i g' (by omega) hx (lt_of_get hd)
    rw [e1]
    dsimp only
    obtain ⟨ρ1, g2, e2, h2⟩ := h1
    rw [e2]
    dsimp only
    obtain ⟨k, g3, e3, h3⟩ := h2
    rw [e3]
    cases k with
    | true =>
      dsimp only
      rw [if_pos rfl] at h3
      obtain ⟨y, g4, e4, h4, h5⟩ := h3
      rw [e4]
      dsimp only
      rw [h4.get hd]
      dsimp only
      rw [if_pos (by omega)]
      refine ih (i + 1) (acc ++ [y]) _ (by omega) ((hx.trans h4).set (Nat.le_refl _) _) ?_ (by simp; omega) ?_
      · rw [List.getElem?_set_self (lt_of_get (h4.get hd))]
      · rw [List.range_succ, List.filterMap_append, ← ha]
        simp [h5]
    | false =>
      dsimp only
      rw [if_neg Bool.false_ne_true] at h3
      refine ih (i + 1) acc _ (by omega) (hx.trans h3.1) (h3.1.get hd) (by omega) ?_
      rw [List.range_succ, List.filterMap_append, ← ha]
      simp [h3.2]
theorem ok_lc {mi : MI} {own : List Nat} {tg : MG} {tt : MT} {el : ME} {ρ : Env} {g : G} {Q : W → G → Prop} : Ok (mLc mi own tg tt el ρ g) Q ↔ Ok (mi ρ g) fun it g1 => Ok (lcGo it tg tt el (wipe ρ own) g1.length (itLen it g1) 0 (g1 ++ [.lst []])) Q := by
  unfold mLc
  rw [ok_bind]
/-- the same, from the block's start -/
theorem lc_map {it : It} {tg : MG} {tt : MT} {el : ME} {ρ : Env} {g0 : G} {Q : W → G → Prop} (n : Nat) (val : Nat → Option W) (hn : n ≤ SZ) (hl : itLen it g0 = n)
    (step : ∀ i g', i < n → Ext g0 g' → g0.length < g'.length → ∃ w g1, itAt it i g' = .go w g1 ∧ Ok (tg w ρ g1) fun ρ1 g2 => Ok (tt ρ1 g2) fun k g3 => if k = true then Ok (el ρ1 g3) fun y g4 => Ext g' g4 ∧ val i = some y else Ext g' g3 ∧ val i = none)
    (stop : ∀ g', Ext g0 g' → g0.length < g'.length → itAt it n g' = .stop)
    (q : ∀ g2, Ext g0 g2 → g2[g0.length]? = some (.lst ((List.range n).filterMap val)) → Q (.ref g0.length) g2) :
    Ok (lcGo it tg tt el ρ g0.length (itLen it g0) 0 (g0 ++ [.lst []])) Q := by
  rw [hl]
  exact (lcGo_map n val hn step stop n 0 [] _ (by omega) (Ext.snoc _ _) (get_new _ _) (by simp) (by simp)).mono fun w g2 ⟨e, h1, h2⟩ => by
    subst e
    exact q g2 h1 h2
/-- a for by an invariant -/
theorem forGo_inv {it : It} {tg : MG} {s : MS} {Q : Fl → G → Prop} (n : Nat) (P : Nat → Env → G → Prop)
    (step : ∀ i ρ g, i < n → P i ρ g → ∃ w g1, itAt it i g = .go w g1 ∧ Ok (tg w ρ g1) fun ρ1 g2 => OkS (s ρ1 g2) fun f g3 => match f with
      | .nx ρ2 => P (i + 1) ρ2 g3
      | .ct ρ2 => P (i + 1) ρ2 g3
      | .bk ρ2 => Q (.nx ρ2) g3
      | .rt w => Q (.rt w) g3)
    (stop : ∀ ρ g, P n ρ g → itAt it n g = .stop ∧ Q (.nx ρ) g) :
    ∀ (m i : Nat) (ρ : Env) (g : G), i + m = n → P i ρ g → OkS (forGo it tg s m i ρ g) Q := by
  intro m
  induction m with
  | zero =>
    intro i ρ g e h
    have : i = n := by omega
    subst this
    unfold forGo
    rw [(stop ρ g h).1, okS_fl]
    exact (stop ρ g h).2
  | succ m ih =>
    intro i ρ g e h
    unfold forGo
    obtain ⟨w, g1, e1, h1⟩ := step i ρ g (by omega) h
    rw [e1]
    dsimp only
    obtain ⟨ρ1, g2, e2, h2⟩ := h1
    rw [e2]
    dsimp only
    obtain ⟨f, g3, e3, h3⟩ := h2
    rw [e3]
    cases f with
    | nx ρ2 => exact ih (i + 1) ρ2 g3 (by omega) h3
    | ct ρ2 => exact ih (i + 1) ρ2 g3 (by omega) h3
    | bk ρ2 => exact okS_fl.mpr h3
    | rt w => exact okS_fl.mpr h3
/-- a while by an invariant and a measure -/
theorem while_inv {c : MT} {s : MS} {Q : Fl → G → Prop} (P : Env → G → Prop) (μ : Env → G → Nat)
    (step : ∀ ρ g, P ρ g → Ok (c ρ g) fun k g1 => if k = true then OkS (s ρ g1) fun f g3 => (match f with
      | .nx ρ2 => P ρ2 g3 ∧ μ ρ2 g3 < μ ρ g
      | .ct ρ2 => P ρ2 g3 ∧ μ ρ2 g3 < μ ρ g
      | .bk ρ2 => Q (.nx ρ2) g3
      | .rt w => Q (.rt w) g3) else Q (.nx ρ) g1) :
    ∀ (m : Nat) (ρ : Env) (g : G), P ρ g → μ ρ g < m → OkS (whileGo c s m ρ g) Q := by
  intro m
  induction m with
  | zero => intro ρ g _ h; exact absurd h (Nat.not_lt_zero _)
  | succ m ih =>
    intro ρ g h hm
    unfold whileGo
    obtain ⟨k, g1, e1, h1⟩ := step ρ g h
    rw [e1]
    cases k with
    | true =>
      dsimp only
      rw [if_pos rfl] at h1
      obtain ⟨f, g3, e3, h3⟩ := h1
      rw [e3]
      cases f with
      | nx ρ2 => exact ih ρ2 g3 h3.1 (by have := h3.2; omega)
      | ct ρ2 => exact ih ρ2 g3 h3.1 (by have := h3.2; omega)
      | bk ρ2 => exact okS_fl.mpr h3
      | rt w => exact okS_fl.mpr h3
    | false =>
      dsimp only
      rw [if_neg Bool.false_ne_true] at h1
      exact okS_fl.mpr h1
end M
namespace M
def b_is_integer : MS := sRet (mAnd (mCall bIsi (aCons (mVar 0) (aCons (mC (.ty "int")) (aNil)))) (mNot (mCall bIsi (aCons (mVar 0) (aCons (mC (.ty "bool")) (aNil))))))
def m_is_integer : Fn := mDef 1 1 b_is_integer
def b_spare_by : MS := sRet (mLc (iEnum (aCons (mVar 0) (aNil))) [1, 2] (M.gTup [M.gName 1, M.gName 2]) (M.tYes) (mOp2 opSub (mVar 2) (mVar 1)))
def m_spare_by : Fn := mDef 1 3 b_spare_by
def b_is_team : MS := sSeq (sIf (M.tOr (M.tNot (tVal (mCall bIsi (aCons (mVar 0) (aCons (mC (.ty "list")) (aNil)))))) (M.tNot (tVal (mChain opLe opLe (mC (.int 1)) (mCall bLen (aCons (mVar 0) (aNil))) (mC (.int 20)))))) (sRet (mC (.bl false))) (sNop)) (sSeq (sIf (M.tNot (tVal (mCall bAll (aCons (mLc (iLst (mVar 0)) [1] (M.gName 1) (M.tYes) (mAnd (mCall m_is_integer (aCons (mVar 1) (aNil))) (mOp2 opGe (mVar 1) (mC (.int 0))))) (aNil))))) (sRet (mC (.bl false))) (sNop)) (sRet (mOp2 opLe (mCall bMax (aCons (mCall m_spare_by (aCons (mCall bSorted (aCons (mVar 0) (aNil))) (aNil))) (aNil))) (mC (.int 40)))))
def m_is_team : Fn := mDef 1 2 b_is_team
def b_need_team : MS := sIf (M.tNot (tVal (mCall m_is_team (aCons (mVar 0) (aNil))))) (sRaise (PySem.Str.ofString "InvalidTeam")) (sNop)
def m_need_team : Fn := mDef 1 1 b_need_team
def b_need_worker : MS := sIf (M.tNot (tVal (mChain opLe opLt (mC (.int 0)) (mVar 1) (mCall bLen (aCons (mVar 0) (aNil)))))) (sRaise (PySem.Str.ofString "InvalidWorker")) (sNop)
def m_need_worker : Fn := mDef 2 2 b_need_worker
def b_need_job : MS := sIf (M.tNot (tVal (mChain opLe opLe (mC (.int 0)) (mVar 0) (mC (.int 59))))) (sRaise (PySem.Str.ofString "InvalidJob")) (sNop)
def m_need_job : Fn := mDef 1 1 b_need_job
def b_levels_along : MS := sRet (mCall bSorted (aCons (mVar 0) (aNil)))
def m_levels_along : Fn := mDef 1 1 b_levels_along
def b_line_of : MS := sRet (mLc (iLst (mCall bSorted (aCons (mLc (iEnum (aCons (mVar 0) (aNil))) [2, 1] (M.gTup [M.gName 2, M.gName 1]) (M.tYes) (mTup (aCons (mVar 1) (aCons (mVar 2) (aNil))))) (aNil)))) [1, 2] (M.gTup [M.gName 1, M.gName 2]) (M.tYes) (mVar 2))
def m_line_of : Fn := mDef 1 3 b_line_of
def b_line : MS := sSeq (sE (mCall m_need_team (aCons (mVar 0) (aNil)))) (sRet (mCall m_line_of (aCons (mVar 0) (aNil))))
def m_line : Fn := mDef 1 1 b_line
def b_spare_numbers : MS := sSeq (sE (mCall m_need_team (aCons (mVar 0) (aNil)))) (sRet (mCall m_spare_by (aCons (mCall m_levels_along (aCons (mVar 0) (aNil))) (aNil))))
def m_spare_numbers : Fn := mDef 1 1 b_spare_numbers
def b_can_do : MS := sSeq (sE (mCall m_need_team (aCons (mVar 0) (aNil)))) (sSeq (sE (mCall m_need_worker (aCons (mVar 0) (aCons (mVar 1) (aNil))))) (sSeq (sE (mCall m_need_job (aCons (mVar 2) (aNil)))) (sRet (mOp2 opLt (mVar 2) (mOp2 opIx (mVar 0) (mVar 1))))))
def m_can_do : Fn := mDef 3 3 b_can_do
def b_able_counts : MS := sSeq (sE (mCall m_need_team (aCons (mVar 0) (aNil)))) (sRet (mLc (iRng1 (aCons (mCall bMax (aCons (mVar 0) (aNil))) (aNil))) [1] (M.gName 1) (M.tYes) (mCall bLen (aCons (mLc (iLst (mVar 0)) [2] (M.gName 2) (tVal (mOp2 opGt (mVar 2) (mVar 1))) (mVar 2)) (aNil)))))
def m_able_counts : Fn := mDef 1 3 b_able_counts
def b_others : MS := sSeq (sE (mCall m_need_team (aCons (mVar 0) (aNil)))) (sSeq (sIf (M.tNot (tVal (mChain opLe opLe (mCall bMax (aCons (mVar 0) (aNil))) (mVar 1) (mC (.int 40))))) (sRaise (PySem.Str.ofString "InvalidNumber")) (sNop)) (sRet (mLc (iLst (mVar 0)) [2] (M.gName 2) (M.tYes) (mOp2 opSub (mVar 1) (mVar 2)))))
def m_others : Fn := mDef 2 3 b_others
def b__law_purse : MS := sSeq (sAsg (mIf (tVal (mOp2 opLt (mVar 1) (mCall bLen (aCons (mVar 0) (aNil))))) (mOp2 opIx (mVar 0) (mVar 1)) (mC (.int 0))) (M.gName 2)) (sRet (mLst (aCons (mCall bMax (aCons (mC (.int 0)) (aCons (mOp2 opSub (mCall bAbs (aCons (mVar 2) (aNil))) (mOp2 opPow (mC (.int 10)) (mC (.int 18)))) (aNil)))) (aCons (mOp2 opAdd (mOp2 opMul (mOp2 opMod (mCall bInt (aCons (mVar 2) (aNil))) (mOp2 opAdd (mOp2 opPow (mC (.int 10)) (mC (.int 41))) (mC (.int 37)))) (mC (.int 89))) (mOp2 opMul (mC (.int 60013)) (mVar 1))) (aCons (mC (.int 0)) (aNil))))))
def m__law_purse : Fn := mDef 2 3 b__law_purse
def b__law_toss : MS := sSeq (sIf (tVal (mOp2 opGt (mOp2 opIx (mVar 0) (mC (.int 0))) (mC (.int 0)))) (sSeq (sAsg (mOp2 opMod (mCall bInt (aCons (mOp2 opIx (mVar 0) (mC (.int 0))) (aNil))) (mVar 1)) (M.gName 3)) (sSeq (sAsg (mOp2 opDiv (mOp2 opIx (mVar 0) (mC (.int 0))) (mVar 1)) (M.gSub (mVar 0) (mC (.int 0)))) (sRet (mVar 3)))) (sNop)) (sSeq (sAsg (mOp2 opAdd (mOp2 opIx (mVar 0) (mC (.int 2))) (mC (.int 1))) (M.gSub (mVar 0) (mC (.int 2)))) (sSeq (sAsg (mOp2 opMod (mCall bInt (aCons (mOp2 opPow (mOp2 opAdd (mOp2 opIx (mVar 0) (mC (.int 1))) (mOp2 opMul (mC (.int 50000017)) (mOp2 opIx (mVar 0) (mC (.int 2))))) (mC (.int 3))) (aNil))) (mOp2 opAdd (mOp2 opPow (mC (.int 10)) (mC (.int 45))) (mC (.int 9)))) (M.gName 2)) (sSeq (sAsg (mOp2 opMod (mCall bInt (aCons (mOp2 opPow (mOp2 opAdd (mVar 2) (mOp2 opMul (mC (.int 25000009)) (mOp2 opIx (mVar 0) (mC (.int 2))))) (mC (.int 3))) (aNil))) (mOp2 opAdd (mOp2 opPow (mC (.int 10)) (mC (.int 46))) (mC (.int 121)))) (M.gName 2)) (sRet (mOp2 opMod (mCall bInt (aCons (mOp2 opDiv (mVar 2) (mC (.int 1073741789))) (aNil))) (mVar 1))))))
def m__law_toss : Fn := mDef 2 4 b__law_toss
def b__law_team : MS := sSeq (sPar [5, 6, 7] (aCons (mOp2 opAdd (mC (.int 1)) (mCall m__law_toss (aCons (mVar 0) (aCons (mVar 1) (aNil))))) (aCons (mCall m__law_toss (aCons (mVar 0) (aCons (mC (.int 6)) (aNil)))) (aCons (mCall m__law_toss (aCons (mVar 0) (aCons (mOp2 opAdd (mVar 2) (mC (.int 1))) (aNil)))) (aNil))))) (sSeq (sAsg (mLst (aNil)) (M.gName 3)) (sSeq (sFor (iRng1 (aCons (mVar 5) (aNil))) (M.gName 4) (sSeq (sAsg (mLst (aCons (mCall m__law_toss (aCons (mVar 0) (aCons (mOp2 opAdd (mVar 2) (mC (.int 1))) (aNil)))) (aCons (mCall m__law_toss (aCons (mVar 0) (aCons (mCall bMin (aCons (mC (.int 4)) (aCons (mOp2 opAdd (mVar 2) (mC (.int 1))) (aNil)))) (aNil)))) (aCons (mCall m__law_toss (aCons (mVar 0) (aCons (mOp2 opAdd (mOp2 opAdd (mVar 2) (mVar 4)) (mC (.int 1))) (aNil)))) (aNil))))) (M.gName 8)) (sE (mMt mtAppend (mVar 3) (aCons (mOp2 opIx (mOp2 opAdd (mVar 8) (mLst (aCons (mCall bMax (aCons (mC (.int 0)) (aCons (mOp2 opSub (mOp2 opAdd (mVar 2) (mVar 4)) (mCall m__law_toss (aCons (mVar 0) (aCons (mC (.int 3)) (aNil))))) (aNil)))) (aCons (mVar 7) (aCons (mOp2 opAdd (mCall bMin (aCons (mVar 2) (aCons (mCall m__law_toss (aCons (mVar 0) (aCons (mC (.int 3)) (aNil)))) (aNil)))) (mVar 4)) (aNil)))))) (mVar 6)) (aNil)))))) (sRet (mLc (iRng1 (aCons (mVar 5) (aNil))) [4] (M.gName 4) (M.tYes) (mMt mtPop (mVar 3) (aCons (mCall m__law_toss (aCons (mVar 0) (aCons (mCall bLen (aCons (mVar 3) (aNil))) (aNil)))) (aNil)))))))
def m__law_team : Fn := mDef 3 9 b__law_team
def b__law_line : MS := sRet (mLc (iLst (mCall bSorted (aCons (mLc (iEnum (aCons (mVar 0) (aNil))) [2, 1] (M.gTup [M.gName 2, M.gName 1]) (M.tYes) (mTup (aCons (mVar 1) (aCons (mVar 2) (aNil))))) (aNil)))) [1, 2] (M.gTup [M.gName 1, M.gName 2]) (M.tYes) (mVar 2))
def m__law_line : Fn := mDef 1 3 b__law_line
def b__law_deep : MS := sSeq (sFor (iRng1 (aCons (mVar 1) (aNil))) (M.gName 2) (sAsg (mLst (aCons (mVar 0) (aNil))) (M.gName 0))) (sRet (mVar 0))
def m__law_deep : Fn := mDef 2 3 b__law_deep
def b__law_bad_teams : MS := sSeq (sAsg (mLst (aCons (mC .non) (aCons (mC (.int 0)) (aCons (mC (.bl true)) (aCons (mC (.str (PySem.Str.ofString ""))) (aCons (mC (.str (PySem.Str.ofString "2 1"))) (aCons (mD0) (aCons (mTup (aNil)) (aCons (mCall bTuple (aCons (mVar 1) (aNil))) (aCons (mLst (aCons (mVar 1) (aNil))) (aCons (mD1 (PySem.Str.ofString "0") 1) (aCons (mLst (aNil)) (aCons (mLst (aCons (mC .non) (aNil))) (aCons (mLst (aCons (mC (.bl true)) (aNil))) (aCons (mLst (aCons (mC (.int 0)) (aCons (mC (.bl false)) (aNil)))) (aCons (mLst (aCons (mOp1 opNeg (mC (.int 1))) (aNil))) (aNil))))))))))))))))) (M.gName 2)) (sSeq (sAsg (mOp2 opAdd (mVar 2) (mLst (aCons (mLst (aCons (mC (.str (PySem.Str.ofString "1"))) (aNil))) (aCons (mLst (aCons (mTup (aCons (mC (.int 1)) (aNil))) (aNil))) (aCons (mLst (aCons (mLst (aCons (mC (.int 1)) (aNil))) (aNil))) (aCons (mOp2 opMul (mLst (aCons (mC (.int 0)) (aNil))) (mC (.int 21))) (aCons (mLst (aCons (mC (.int 41)) (aNil))) (aCons (mLst (aCons (mC (.int 42)) (aCons (mC (.int 0)) (aNil)))) (aCons (mLst (aCons (mC (.int 59)) (aNil))) (aCons (mOp2 opAdd (mOp2 opMul (mLst (aCons (mC (.int 0)) (aNil))) (mC (.int 18))) (mLst (aCons (mC (.int 59)) (aNil)))) (aCons (mLst (aCons (mOp2 opPow (mC (.int 10)) (mC (.int 30))) (aNil))) (aCons (mLst (aCons (mC (.int 0)) (aCons (mOp2 opPow (mC (.int 10)) (mC (.int 30))) (aNil)))) (aNil))))))))))))) (M.gName 2)) (sSeq (sAsg (mOp2 opAdd (mVar 2) (mLst (aCons (mLrg2 (mC (.int 41)) (mC (.int 61))) (aCons (mLst (aCons (mC (.int 0)) (aCons (mOp1 opNeg (mOp2 opPow (mC (.int 10)) (mC (.int 30)))) (aNil)))) (aCons (mOp2 opMul (mLst (aCons (mC (.int 41)) (aNil))) (mC (.int 20))) (aCons (mCall m__law_deep (aCons (mVar 1) (aCons (mC (.int 17)) (aNil)))) (aNil))))))) (M.gName 2)) (sSeq (sAsg (mCall m__law_toss (aCons (mVar 0) (aCons (mCall bLen (aCons (mVar 1) (aNil))) (aNil)))) (M.gName 3)) (sSeq (sFor (iTup (mTup (aCons (mC .non) (aCons (mC (.bl true)) (aCons (mC (.str (PySem.Str.ofString "1"))) (aCons (mOp1 opNeg (mC (.int 1))) (aCons (mLst (aCons (mOp2 opIx (mVar 1) (mVar 3)) (aNil))) (aCons (mTup (aCons (mOp2 opIx (mVar 1) (mVar 3)) (aNil))) (aCons (mC (.int 61)) (aCons (mOp2 opPow (mC (.int 10)) (mC (.int 30))) (aNil))))))))))) (M.gName 4) (sE (mMt mtAppend (mVar 2) (aCons (mOp2 opAdd (mOp2 opAdd (mSl (mVar 1) (oNone) (oSome (mVar 3))) (mLst (aCons (mVar 4) (aNil)))) (mSl (mVar 1) (oSome (mOp2 opAdd (mVar 3) (mC (.int 1)))) (oNone))) (aNil))))) (sRet (mVar 2))))))
def m__law_bad_teams : Fn := mDef 2 5 b__law_bad_teams
def b__law_is : MS := sSeq (sIf (M.tOr (M.tNot (tVal (mCall bIsi (aCons (mVar 0) (aCons (mC (.ty "list")) (aNil)))))) (M.tNot (tVal (mChain opLe opLe (mC (.int 1)) (mCall bLen (aCons (mVar 0) (aNil))) (mC (.int 20)))))) (sRet (mC (.bl false))) (sNop)) (sSeq (sFor (iLst (mVar 0)) (M.gName 1) (sIf (M.tOr (tVal (mCall bIsi (aCons (mVar 1) (aCons (mC (.ty "bool")) (aNil))))) (M.tOr (M.tNot (tVal (mCall bIsi (aCons (mVar 1) (aCons (mC (.ty "int")) (aNil)))))) (tVal (mOp2 opLt (mVar 1) (mC (.int 0)))))) (sRet (mC (.bl false))) (sNop))) (sRet (mOp2 opEq (mLc (iEnum (aCons (mCall bSorted (aCons (mVar 0) (aNil))) (aNil))) [2, 1] (M.gTup [M.gName 2, M.gName 1]) (tVal (mOp2 opGt (mOp2 opSub (mVar 1) (mVar 2)) (mC (.int 40)))) (mVar 2)) (mLst (aNil)))))
def m__law_is : Fn := mDef 1 3 b__law_is
def b__law_again : MS := sSeq (sAsg (mCallV [((PySem.Str.ofString "able_counts"), m_able_counts), ((PySem.Str.ofString "line"), m_line), ((PySem.Str.ofString "spare_numbers"), m_spare_numbers)] (mVar 0) (aCons (mVar 1) (aNil))) (M.gName 3)) (sSeq (sIf (tVal (mOp2 opNe (mCall bRepr (aCons (mVar 3) (aNil))) (mCall bRepr (aCons (mVar 2) (aNil))))) (sRet (mC (.bl false))) (sNop)) (sSeq (sE (mMt mtAppend (mVar 3) (aCons (mC .non) (aNil)))) (sRet (mOp2 opEq (mCall bRepr (aCons (mCallVP [((PySem.Str.ofString "able_counts"), m_able_counts), ((PySem.Str.ofString "line"), m_line), ((PySem.Str.ofString "spare_numbers"), m_spare_numbers)] 1 [0] (mVar 0) (aCons (mVar 1) (aNil))) (aNil))) (mCall bRepr (aCons (mVar 2) (aNil)))))))
def m__law_again : Fn := mDef 3 4 b__law_again
def b__law_right : MS := sSeq (sPar [5, 6] (aCons (mCall bRepr (aCons (mVar 1) (aNil))) (aCons (mCall m__law_line (aCons (mVar 1) (aNil))) (aNil)))) (sSeq (sAsg (mLc (iEnum (aCons (mVar 6) (aNil))) [11, 7] (M.gTup [M.gName 11, M.gName 7]) (M.tYes) (mOp2 opSub (mOp2 opIx (mVar 1) (mVar 7)) (mVar 11))) (M.gName 2)) (sSeq (sAsg (mLc (iRng1 (aCons (mCall bMax (aCons (mVar 1) (aNil))) (aNil))) [8] (M.gName 8) (M.tYes) (mCall bLen (aCons (mLc (iLst (mVar 1)) [12] (M.gName 12) (tVal (mOp2 opGt (mVar 12) (mVar 8))) (mVar 12)) (aNil)))) (M.gName 3)) (sSeq (sIf (M.tOr (M.tNot (tVal (mCall m__law_again (aCons (mC (.glob (PySem.Str.ofString "line"))) (aCons (mVar 1) (aCons (mVar 6) (aNil))))))) (M.tNot (tVal (mCall m__law_again (aCons (mC (.glob (PySem.Str.ofString "spare_numbers"))) (aCons (mVar 1) (aCons (mVar 2) (aNil)))))))) (sRet (mC (.bl false))) (sNop)) (sSeq (sIf (M.tNot (tVal (mCall m__law_again (aCons (mC (.glob (PySem.Str.ofString "able_counts"))) (aCons (mVar 1) (aCons (mVar 3) (aNil))))))) (sRet (mC (.bl false))) (sNop)) (sSeq (sFor (iRng1 (aCons (mC (.int 4)) (aNil))) (M.gName 4) (sSeq (sAsg (mCall m__law_toss (aCons (mVar 0) (aCons (mCall bLen (aCons (mVar 1) (aNil))) (aNil)))) (M.gName 7)) (sSeq (sAsg (mOp2 opIx (mLst (aCons (mCall m__law_toss (aCons (mVar 0) (aCons (mC (.int 60)) (aNil)))) (aCons (mOp2 opIx (mVar 1) (mVar 7)) (aCons (mCall bMax (aCons (mC (.int 0)) (aCons (mOp2 opSub (mOp2 opIx (mVar 1) (mVar 7)) (mC (.int 1))) (aNil)))) (aCons (mC (.int 0)) (aNil)))))) (mVar 4)) (M.gName 8)) (sIf (tVal (mOp2 opNe (mCall bRepr (aCons (mCallP m_can_do 3 [2, 1, 0] (aCons (mCall bMin (aCons (mC (.int 59)) (aCons (mVar 8) (aNil)))) (aCons (mVar 7) (aCons (mVar 1) (aNil))))) (aNil))) (mCall bRepr (aCons (mOp2 opLt (mCall bMin (aCons (mC (.int 59)) (aCons (mVar 8) (aNil)))) (mOp2 opIx (mVar 1) (mVar 7))) (aNil))))) (sRet (mC (.bl false))) (sNop))))) (sSeq (sIf (tVal (mOp2 opLe (mCall bMax (aCons (mVar 1) (aNil))) (mC (.int 40)))) (sFor (iTup (mTup (aCons (mCall bMax (aCons (mVar 1) (aNil))) (aCons (mOp2 opAdd (mCall bMax (aCons (mVar 1) (aNil))) (mCall m__law_toss (aCons (mVar 0) (aCons (mOp2 opSub (mC (.int 41)) (mCall bMax (aCons (mVar 1) (aNil)))) (aNil))))) (aCons (mC (.int 40)) (aNil)))))) (M.gName 9) (sSeq (sAsg (mCallP m_others 2 [1, 0] (aCons (mVar 9) (aCons (mVar 1) (aNil)))) (M.gName 10)) (sSeq (sIf (tVal (mOp2 opNe (mCall bRepr (aCons (mVar 10) (aNil))) (mCall bRepr (aCons (mLc (iLst (mVar 1)) [12] (M.gName 12) (M.tYes) (mOp2 opSub (mVar 9) (mVar 12))) (aNil))))) (sRet (mC (.bl false))) (sNop)) (sSeq (sE (mMt mtAppend (mVar 10) (aCons (mC .non) (aNil)))) (sIf (tVal (mOp2 opNe (mCall bLen (aCons (mCall m_others (aCons (mVar 1) (aCons (mVar 9) (aNil)))) (aNil))) (mCall bLen (aCons (mVar 1) (aNil))))) (sRet (mC (.bl false))) (sNop)))))) (sNop)) (sRet (mOp2 opEq (mCall bRepr (aCons (mVar 1) (aNil))) (mVar 5)))))))))
def m__law_right : Fn := mDef 2 13 b__law_right
def b_law : MS := sSeq (sFor (iRng1 (aCons (mCall bMax (aCons (mC (.int 1)) (aCons (mCall bMin (aCons (mC (.int 4)) (aCons (mCall bLen (aCons (mVar 0) (aNil))) (aNil)))) (aNil)))) (aNil))) (M.gName 1) (sSeq (sAsg (mCall m__law_purse (aCons (mVar 0) (aCons (mVar 1) (aNil)))) (M.gName 3)) (sFor (iTup (mTup (aCons (mTup (aCons (mC (.int 5)) (aCons (mC (.int 6)) (aNil)))) (aCons (mTup (aCons (mC (.int 20)) (aCons (mC (.int 40)) (aNil)))) (aCons (mTup (aCons (mC (.int 20)) (aCons (mC (.int 3)) (aNil)))) (aCons (mTup (aCons (mC (.int 1)) (aCons (mC (.int 40)) (aNil)))) (aNil))))))) (M.gTup [M.gName 4, M.gName 5]) (sSeq (sAsg (mCall m__law_team (aCons (mVar 3) (aCons (mVar 4) (aCons (mVar 5) (aNil))))) (M.gName 6)) (sSeq (sIf (M.tOr (M.tNot (tVal (mCall m__law_right (aCons (mVar 3) (aCons (mVar 6) (aNil)))))) (tVal (mOp2 opNe (mCall bRepr (aCons (mCall m_is_team (aCons (mVar 6) (aNil))) (aNil))) (mC (.str (PySem.Str.ofString "True")))))) (sRet (mC (.bl false))) (sNop)) (sFor (iLst (mCall m__law_bad_teams (aCons (mVar 3) (aCons (mVar 6) (aNil))))) (M.gName 7) (sIf (tVal (mOp2 opNe (mCall bRepr (aCons (mCallP m_is_team 1 [0] (aCons (mVar 7) (aNil))) (aNil))) (mCall bRepr (aCons (mCall m__law_is (aCons (mVar 7) (aNil))) (aNil))))) (sRet (mC (.bl false))) (sNop)))))))) (sSeq (sAsg (mLc (iTup (mTup (aCons (mLst (aCons (mC (.int 40)) (aNil))) (aCons (mLst (aCons (mC (.int 41)) (aNil))) (aCons (mLst (aCons (mC (.int 0)) (aCons (mC (.int 41)) (aNil)))) (aCons (mLst (aCons (mC (.int 0)) (aCons (mC (.int 42)) (aNil)))) (aCons (mLrg2 (mC (.int 40)) (mC (.int 60))) (aCons (mOp2 opAdd (mOp2 opMul (mLst (aCons (mC (.int 0)) (aNil))) (mC (.int 19))) (mLst (aCons (mC (.int 59)) (aNil)))) (aCons (mOp2 opMul (mLst (aCons (mC (.int 0)) (aNil))) (mC (.int 21))) (aNil)))))))))) [7] (M.gName 7) (M.tYes) (mCall m_is_team (aCons (mVar 7) (aNil)))) (M.gName 2)) (sSeq (sIf (tVal (mOp2 opNe (mVar 2) (mLst (aCons (mC (.bl true)) (aCons (mC (.bl false)) (aCons (mC (.bl true)) (aCons (mC (.bl false)) (aCons (mC (.bl true)) (aCons (mC (.bl true)) (aCons (mC (.bl false)) (aNil))))))))))) (sRet (mC (.bl false))) (sNop)) (sRet (mOp2 opEq (mLst (aCons (mCall m_line (aCons (mLst (aCons (mC (.int 2)) (aCons (mC (.int 1)) (aCons (mC (.int 2)) (aNil))))) (aNil))) (aCons (mCall m_spare_numbers (aCons (mLst (aCons (mC (.int 2)) (aCons (mC (.int 1)) (aCons (mC (.int 2)) (aNil))))) (aNil))) (aCons (mCall m_able_counts (aCons (mLst (aCons (mC (.int 2)) (aCons (mC (.int 1)) (aCons (mC (.int 2)) (aNil))))) (aNil))) (aNil))))) (mLst (aCons (mLst (aCons (mC (.int 1)) (aCons (mC (.int 0)) (aCons (mC (.int 2)) (aNil))))) (aCons (mLst (aCons (mC (.int 1)) (aCons (mC (.int 1)) (aCons (mC (.int 0)) (aNil))))) (aCons (mLst (aCons (mC (.int 3)) (aCons (mC (.int 2)) (aNil)))) (aNil)))))))))
def m_law : Fn := mDef 1 8 b_law

end M
/-! MathA: falling factorials, counts by rising levels, and the counts of the others. -/
namespace M
def ff (x : Int) : Nat → Int
  | 0 => 1
  | k + 1 => ff x k * (x - k)
theorem ff_succ' (x : Int) (k : Nat) : ff x (k + 1) = x * ff (x - 1) k := by
  induction k generalizing x with
  | zero => simp [ff]
  | succ k ih =>
    have h : ff x (k + 2) = ff x (k + 1) * (x - ((k + 1 : Nat) : Int)) := rfl
    have h2 : ff (x - 1) (k + 1) = ff (x - 1) k * (x - 1 - (k : Int)) := rfl
    rw [h, ih, h2]
    grind
theorem ff_zero (k : Nat) : ff 0 (k + 1) = 0 := by rw [ff_succ']; simp
def sg : Nat → Int
  | 0 => 1
  | n + 1 => - sg n
theorem sg_sq (n : Nat) : sg n * sg n = 1 := by
  induction n with
  | zero => rfl
  | succ n ih => simp only [sg]; grind
/-- reflection -/
theorem ff_neg (y : Int) (m : Nat) : ff (m - 1 - y) m = sg m * ff y m := by
  induction m generalizing y with
  | zero => simp [ff, sg]
  | succ m ih =>
    have h : ff y (m + 1) = ff y m * (y - m) := rfl
    rw [ff_succ', h]
    have e : (((m + 1 : Nat) : Int) - 1 - y) - 1 = (m : Int) - 1 - y := by omega
    rw [e, ih]
    simp only [sg]
    have e2 : (((m + 1 : Nat) : Int) - 1 - y) = -(y - m) := by omega
    rw [e2]
    grind
def ev : List Int → Int → Int
  | [], _ => 0
  | r :: t, x => r * ff x t.length + ev t x
theorem ev_snoc (R : List Int) (a x : Int) : ev (R ++ [a]) x = a + x * ev R (x - 1) := by
  induction R with
  | nil => simp [ev, ff]
  | cons r t ih =>
    rw [List.cons_append, ev, ih, ev, List.length_append, List.length_singleton, ff_succ']
    grind
theorem ev_uniq : ∀ (n : Nat) (R S : List Int), R.length = n → S.length = n → (∀ x : Int, 0 ≤ x → ev R x = ev S x) → R = S := by
  intro n
  induction n with
  | zero =>
    intro R S h1 h2 _
    rw [List.length_eq_zero_iff.mp h1, List.length_eq_zero_iff.mp h2]
  | succ n ih =>
    intro R S h1 h2 h
    have hR : R ≠ [] := by intro e; rw [e] at h1; cases h1
    have hS : S ≠ [] := by intro e; rw [e] at h2; cases h2
    obtain ⟨R', a, rfl⟩ : ∃ R' a, R = R' ++ [a] := ⟨R.dropLast, R.getLast hR, (List.dropLast_concat_getLast hR).symm⟩
    obtain ⟨S', b, rfl⟩ : ∃ R' a, S = R' ++ [a] := ⟨S.dropLast, S.getLast hS, (List.dropLast_concat_getLast hS).symm⟩
    simp only [ev_snoc] at h
    have hab : a = b := by have := h 0 (by omega); simpa using this
    subst hab
    rw [ih R' S' (by simpa using h1) (by simpa using h2)]
    intro x hx
    have h3 := h (x + 1) (by omega)
    have e : x + 1 - 1 = x := by omega
    rw [e] at h3
    have h4 : (x + 1) * ev R' x = (x + 1) * ev S' x := by omega
    exact Int.eq_of_mul_eq_mul_left (by omega) h4
/-- one worker more, behind all others -/
def go (c : Int) : Nat → Int → List Int → List Int
  | _, p, [] => [p]
  | i, p, r :: t => (r + p) :: go c (i + 1) (r * (c - i)) t
theorem go_len (c : Int) (R : List Int) : ∀ i p, (go c i p R).length = R.length + 1 := by
  induction R with
  | nil => intro i p; rfl
  | cons r t ih => intro i p; rw [go, List.length_cons, ih, List.length_cons]
theorem ev_go (c x : Int) (R : List Int) : ∀ (i : Nat) (p : Int), ev (go c i p R) x = p * ff x R.length + ev R x * (x + c - (R.length - 1 + i)) := by
  induction R with
  | nil => intro i p; simp [go, ev, ff]
  | cons r t ih =>
    intro i p
    rw [go, ev, ih, go_len, ev, List.length_cons]
    have h : ff x (t.length + 1) = ff x t.length * (x - t.length) := rfl
    rw [h]
    have e : (((t.length + 1 : Nat) : Int)) = t.length + 1 := by omega
    have e2 : (((i + 1 : Nat) : Int)) = i + 1 := by omega
    rw [e, e2]
    grind
theorem go_get (c : Int) (R : List Int) : ∀ (i : Nat) (p : Int) (k : Nat), (go c i p R)[k]? = if k ≤ R.length then some (R.getD k 0 + if k = 0 then p else R.getD (k - 1) 0 * (c - ((i + (k - 1) : Nat) : Int))) else none := by
  induction R with
  | nil =>
    intro i p k
    cases k with
    | zero => simp [go]
    | succ k => simp [go]
  | cons r t ih =>
    intro i p k
    cases k with
    | zero => simp [go]
    | succ k =>
      rw [go, List.getElem?_cons_succ, ih]
      simp only [List.length_cons, Nat.add_le_add_iff_right, List.getD_cons_succ, Nat.add_sub_cancel]
      split
      · congr 1
        cases k with
        | zero => simp
        | succ k =>
          have e : (((i + 1 + (k + 1 - 1) : Nat) : Int)) = ((i + (k + 1 + 1 - 1) : Nat) : Int) := by omega
          rw [e, if_neg (by omega), if_neg (by omega)]
          simp only [Nat.add_sub_cancel, List.getD_cons_succ]
      · rfl
/-- counts of a list of levels, rising -/
def cnt (l : List Int) : List Int := l.foldl (fun R c => go c 0 0 R) [1]
theorem cnt_snoc (l : List Int) (c : Int) : cnt (l ++ [c]) = go c 0 0 (cnt l) := by
  unfold cnt
  rw [List.foldl_append]
  rfl
theorem snoc_ind {P : List Int → Prop} (h0 : P []) (h1 : ∀ l c, P l → P (l ++ [c])) : ∀ l, P l := by
  intro l
  have : ∀ n (l : List Int), l.length = n → P l := by
    intro n
    induction n with
    | zero => intro l h; rw [List.length_eq_zero_iff.mp h]; exact h0
    | succ n ih =>
      intro l h
      have hl : l ≠ [] := by intro e; rw [e] at h; cases h
      rw [← List.dropLast_concat_getLast hl]
      exact h1 _ _ (ih _ (by simp [h]))
  exact this _ l rfl
theorem cnt_len (l : List Int) : (cnt l).length = l.length + 1 := by
  induction l using snoc_ind with
  | h0 => rfl
  | h1 l c ih => rw [cnt_snoc, go_len, ih]; simp
/-- the product of all x + spare numbers -/
def pr (x : Int) : Nat → List Int → Int
  | _, [] => 1
  | i, c :: t => (x + c - i) * pr x (i + 1) t
theorem pr_snoc (x c : Int) (l : List Int) : ∀ i, pr x i (l ++ [c]) = pr x i l * (x + c - (i + l.length)) := by
  induction l with
  | nil => intro i; simp [pr]
  | cons a t ih =>
    intro i
    rw [List.cons_append, pr, ih, pr, List.length_cons]
    have e : (((i + 1 : Nat) : Int)) = i + 1 := by omega
    have e2 : (((t.length + 1 : Nat) : Int)) = t.length + 1 := by omega
    rw [e, e2]
    grind
theorem ev_cnt (l : List Int) (x : Int) : ev (cnt l) x = pr x 0 l := by
  induction l using snoc_ind with
  | h0 => simp [cnt, ev, pr, ff]
  | h1 l c ih =>
    rw [cnt_snoc, ev_go, pr_snoc, cnt_len, ih]
    have e : (((l.length + 1 : Nat) : Int)) = l.length + 1 := by omega
    rw [e]
    simp
/-- the levels left of a greatest one, rising again -/
def oth (h : Int) (l : List Int) : List Int := (l.map fun c => h - c).reverse
theorem pr_reflect (h x : Int) (l : List Int) : ∀ i : Nat, pr x i (oth h l) = sg l.length * pr (l.length - 1 + i - h - x) 0 l
    ∧ True := by
  intro i
  refine ⟨?_, trivial⟩
  induction l using snoc_ind generalizing i with
  | h0 => simp [oth, pr, sg]
  | h1 l c ih =>
    have e : oth h (l ++ [c]) = (h - c) :: oth h l := by simp [oth]
    rw [e, pr, ih, pr_snoc, List.length_append, List.length_singleton, sg]
    have e1 : (l.length : Int) - 1 + ((i + 1 : Nat) : Int) - h - x = ((l.length + 1 : Nat) : Int) - 1 + i - h - x := by omega
    rw [e1]
    have e2 : (((l.length + 1 : Nat) : Int) - 1 + i - h - x + c - (((0 : Nat) : Int) + l.length)) = -(x + (h - c) - i) := by omega
    rw [e2]
    grind
/-! ### sums with signs -/
def ch : Nat → Nat → Int
  | _, 0 => 1
  | 0, _ + 1 => 0
  | n + 1, k + 1 => ch n k + ch n (k + 1)
theorem ch_zero (n : Nat) : ch n 0 = 1 := by cases n <;> rfl
theorem ch_big : ∀ (n k : Nat), n < k → ch n k = 0 := by
  intro n
  induction n with
  | zero => intro k h; cases k with
    | zero => omega
    | succ k => rfl
  | succ n ih => intro k h; cases k with
    | zero => omega
    | succ k => rw [ch, ih _ (by omega), ih _ (by omega)]; rfl
theorem ch_step : ∀ (n k : Nat), ch n (k + 1) * (k + 1) = ch n k * (n - k) := by
  intro n
  induction n with
  | zero => intro k; cases k with
    | zero => simp [ch]
    | succ k => simp [ch]
  | succ n ih =>
    intro k
    cases k with
    | zero =>
      have hc : ch (n + 1) (0 + 1) = ch n 0 + ch n (0 + 1) := rfl
      rw [hc, ch_zero, ch_zero]
      have := ih 0
      rw [ch_zero] at this
      have e : (((n + 1 : Nat) : Int)) = n + 1 := by omega
      rw [e]
      simp at this ⊢
      omega
    | succ k =>
      have h1 := ih k
      have h2 := ih (k + 1)
      rw [ch, ch]
      have e : (((n + 1 : Nat) : Int)) = n + 1 := by omega
      have e2 : (((k + 1 : Nat) : Int)) = k + 1 := by omega
      rw [e2] at h2 ⊢
      rw [e]
      grind
/-- twins -/
def tw (m : Nat) (h : Int) : List Int := cnt (List.replicate m h)
theorem tw_len (m : Nat) (h : Int) : (tw m h).length = m + 1 := by rw [tw, cnt_len]; simp
theorem tw_get (h : Int) : ∀ (m k : Nat), k ≤ m → (tw m h).getD k 0 = ch m k * ff h k := by
  intro m
  induction m with
  | zero => intro k hk; have : k = 0 := by omega
            subst this; simp [tw, cnt, ch, ff]
  | succ m ih =>
    intro k hk
    have e : tw (m + 1) h = go h 0 0 (tw m h) := by
      unfold tw
      rw [List.replicate_succ', cnt_snoc]
    rw [e, List.getD_eq_getElem?_getD, go_get, tw_len, if_pos (by omega)]
    cases k with
    | zero => simp only [Option.getD_some]; rw [ih 0 (by omega), ch_zero, ch_zero]; simp
    | succ k =>
      simp only [Option.getD_some]
      rw [if_neg (by omega), Nat.add_sub_cancel, ih k (by omega)]
      have hf : ff h (k + 1) = ff h k * (h - k) := rfl
      have hc : ch (m + 1) (k + 1) = ch m k + ch m (k + 1) := rfl
      by_cases hm : k + 1 ≤ m
      · rw [ih (k + 1) hm, hf, hc]
        have e3 : (((0 + k : Nat) : Int)) = k := by omega
        rw [e3]
        grind
      · have hkm : k = m := by omega
        subst hkm
        have hg : (tw k h).getD (k + 1) 0 = 0 := by
          rw [List.getD_eq_getElem?_getD, List.getElem?_eq_none (by rw [tw_len]; omega)]; rfl
        rw [hg, hc, ch_big k (k + 1) (by omega), hf]
        have e3 : (((0 + k : Nat) : Int)) = k := by omega
        rw [e3]
        grind
theorem ev_tw (m : Nat) (h x : Int) : ev (tw m h) x = ff (x + h) m := by
  unfold tw
  rw [ev_cnt]
  induction m with
  | zero => rfl
  | succ m ih =>
    rw [List.replicate_succ', pr_snoc, ih]
    have : ff (x + h) (m + 1) = ff (x + h) m * (x + h - m) := rfl
    rw [this]
    simp
theorem ev_map_mul (r x : Int) (l : List Int) : ev (l.map (r * ·)) x = r * ev l x := by
  induction l with
  | nil => simp [ev]
  | cons a t ih => rw [List.map_cons, ev, ih, ev, List.length_map]; grind
theorem ev_map_neg (x : Int) (l : List Int) : ev (l.map (- ·)) x = - ev l x := by
  induction l with
  | nil => simp [ev]
  | cons a t ih => rw [List.map_cons, ev, ih, ev, List.length_map]; grind
theorem ev_add (x : Int) : ∀ (l m : List Int), l.length = m.length → ev (List.zipWith (· + ·) l m) x = ev l x + ev m x := by
  intro l
  induction l with
  | nil => intro m h; cases m with
    | nil => simp [ev]
    | cons => cases h
  | cons a t ih => intro m h; cases m with
    | nil => cases h
    | cons b u =>
      have hl : t.length = u.length := by simpa using h
      rw [List.zipWith_cons_cons, ev, ih u hl, ev, ev, List.length_zipWith, ← hl, Nat.min_self]
      grind
/-- what the sums with signs come to -/
def due : List Int → Int → List Int
  | [], _ => []
  | r :: t, h => List.zipWith (· + ·) ((tw t.length h).map (r * ·)) (0 :: (due t (h - 1)).map (- ·))
theorem due_len : ∀ (R : List Int) (h : Int), (due R h).length = R.length := by
  intro R
  induction R with
  | nil => intro h; rfl
  | cons r t ih => intro h; simp [due, tw_len, ih]
theorem ev_due (x : Int) : ∀ (R : List Int) (h : Int), ev (due R h) x = sg (R.length - 1) * ev R ((R.length : Int) - 1 - 1 - h - x) := by
  intro R
  induction R with
  | nil => intro h; simp [due, ev]
  | cons r t ih =>
    intro h
    rw [due, ev_add _ _ _ (by simp [tw_len, due_len]), ev_map_mul, ev_tw, ev]
    rw [ev_map_neg, ih, ev]
    have e : (((t.length + 1 : Nat) : Int)) = t.length + 1 := by omega
    simp only [List.length_cons, List.length_map, Nat.add_sub_cancel]
    rw [e]
    have e1 : (t.length : Int) + 1 - 1 - 1 - h - x = t.length - 1 - (x + h) := by omega
    have e2 : (t.length : Int) - 1 - 1 - (h - 1) - x = t.length - 1 - (x + h) := by omega
    rw [e1, e2, ff_neg]
    cases t with
    | nil => simp [ev, sg, ff]
    | cons s u =>
      have e3 : sg (s :: u).length = - sg u.length := rfl
      have e4 : (s :: u).length - 1 = u.length := by simp
      rw [e3, e4]
      have := sg_sq u.length
      grind
theorem due_cnt (l : List Int) (h : Int) : cnt (oth h l) = due (cnt l) h := by
  refine ev_uniq (l.length + 1) _ _ (by rw [cnt_len]; simp [oth]) (by rw [due_len, cnt_len]) fun x _ => ?_
  rw [ev_cnt, (pr_reflect h x l 0).1, ev_due, ev_cnt, cnt_len, Nat.add_sub_cancel]
  have e : (((l.length + 1 : Nat) : Int)) - 1 - 1 - h - x = l.length - 1 + ((0 : Nat) : Int) - h - x := by omega
  rw [e]
theorem oth_oth (h : Int) (l : List Int) : oth h (oth h l) = l := by
  unfold oth
  rw [List.map_reverse, List.reverse_reverse, List.map_map]
  have : ((fun c => h - c) ∘ fun c => h - c) = (id : Int → Int) := by funext c; simp; omega
  rw [this, List.map_id]
/-- one item of it -/
def dueT (R : List Int) (h : Int) (k j : Nat) : Int := R.getD j 0 * ch (R.length - 1 - j) (k - j) * ff (h - j) (k - j) * sg j
theorem due_get : ∀ (R : List Int) (h : Int) (k : Nat), k < R.length → (due R h).getD k 0 = ((List.range (k + 1)).map (dueT R h k)).sum := by
  intro R
  induction R with
  | nil => intro h k hk; cases hk
  | cons r t ih =>
    intro h k hk
    rw [List.length_cons] at hk
    have ht := tw_get h t.length k (by omega)
    have hl := tw_len t.length h
    rw [due, List.range_succ_eq_map, List.map_cons, List.sum_cons, List.map_map]
    have h0 : dueT (r :: t) h k 0 = r * (ch t.length k * ff h k) := by
      unfold dueT
      simp [sg]
      grind
    rw [h0, ← ht]
    cases k with
    | zero =>
      cases q : tw t.length h with
      | nil => rw [q] at hl; cases hl
      | cons a u => simp
    | succ k =>
      have hg : ((due t (h - 1)).map (- ·)).getD k 0 = - (due t (h - 1)).getD k 0 := by
        rw [List.getD_eq_getElem?_getD, List.getD_eq_getElem?_getD, List.getElem?_map]
        cases (due t (h - 1))[k]? <;> simp
      have hs : ∀ (l : List Nat), (l.map (dueT (r :: t) h (k + 1) ∘ Nat.succ)).sum = - (l.map (dueT t (h - 1) k)).sum := by
        intro l
        induction l with
        | nil => rfl
        | cons j l ihl =>
          rw [List.map_cons, List.sum_cons, ihl, List.map_cons, List.sum_cons]
          have : (dueT (r :: t) h (k + 1) ∘ Nat.succ) j = - dueT t (h - 1) k j := by
            unfold dueT
            have e1 : (r :: t).length - 1 - j.succ = t.length - 1 - j := by simp; omega
            have e2 : k + 1 - j.succ = k - j := by omega
            have e3 : h - ((j.succ : Nat) : Int) = h - 1 - j := by omega
            simp only [Function.comp]
            rw [e1, e2, e3]
            simp only [Nat.succ_eq_add_one, List.getD_cons_succ, sg]
            grind
          rw [this]
          omega
      rw [hs, ← ih (h - 1) k (by omega), ← hg]
      cases q : tw t.length h with
      | nil => rw [q] at hl; cases hl
      | cons a u =>
        have hu : u.length = t.length := by rw [q] at hl; simpa using hl
        rw [List.map_cons, List.zipWith_cons_cons, List.getD_cons_succ, List.getD_cons_succ]
        simp only [List.getD_eq_getElem?_getD, List.getElem?_zipWith, List.getElem?_map]
        have hk1 : k < u.length := by omega
        have hk2 : k < (due t (h - 1)).length := by rw [due_len]; omega
        rw [List.getElem?_eq_getElem hk1, List.getElem?_eq_getElem hk2]
        simp
/-! ### the greatest size -/
def more (t : Int) (l : List Int) : Nat := (l.filter fun c => decide (c > t)).length
theorem more_both (h t u : Int) (l : List Int) (d : t + u < h) : l.length ≤ more t l + more u (l.map fun c => h - c) := by
  induction l with
  | nil => simp
  | cons c l ih =>
    unfold more at *
    rw [List.map_cons, List.filter_cons, List.filter_cons, List.length_cons]
    by_cases h1 : c > t
    · rw [if_pos (by simpa using h1), List.length_cons]
      split <;> (try rw [List.length_cons]) <;> omega
    · rw [if_neg (by simpa using h1), if_pos (by simp; omega), List.length_cons]
      omega
/-! ### sorting -/
theorem isort_perm (l : List Int) : (isort l).Perm l := List.mergeSort_perm _ _
theorem isort_up (l : List Int) : (isort l).Pairwise (· ≤ ·) := by
  have := List.pairwise_mergeSort (le := fun a b : Int => decide (a ≤ b)) (by intro a b c; simp; omega) (by intro a b; simp; omega) l
  unfold isort
  exact this.imp fun h => by simpa using h
theorem isort_len (l : List Int) : (isort l).length = l.length := (isort_perm l).length_eq
theorem isort_oth (h : Int) (l : List Int) : isort (l.map fun c => h - c) = oth h (isort l) := by
  refine List.Perm.eq_of_pairwise (le := (· ≤ ·)) (fun a b _ _ h1 h2 => Int.le_antisymm h1 h2) (isort_up _) ?_ ?_
  · unfold oth
    rw [List.pairwise_reverse, List.pairwise_map]
    exact (isort_up l).imp fun h => by omega
  · refine (isort_perm _).trans ?_
    unfold oth
    exact ((isort_perm l).symm.map _).trans (List.reverse_perm _).symm
def spare (l : List Int) : List Int := (List.range l.length).map fun i => l.getD i 0 - i
theorem spare_len (l : List Int) : (spare l).length = l.length := by simp [spare]
theorem spare_get (l : List Int) (k : Nat) (h : k < l.length) : (spare l).getD k 0 = l.getD k 0 - k := by
  unfold spare
  rw [List.getD_eq_getElem?_getD, List.getElem?_map, List.getElem?_range h]
  rfl
theorem spare_both (h : Int) (l : List Int) (k : Nat) (hk : k < l.length) : (spare l).getD k 0 + (spare (oth h l)).reverse.getD k 0 = h - l.length + 1 := by
  have ho : (oth h l).length = l.length := by simp [oth]
  rw [spare_get l k hk]
  have e : (spare (oth h l)).reverse.getD k 0 = (spare (oth h l)).getD (l.length - 1 - k) 0 := by
    rw [List.getD_eq_getElem?_getD, List.getD_eq_getElem?_getD, List.getElem?_reverse (by rw [spare_len, ho]; exact hk), spare_len, ho]
  rw [e, spare_get _ _ (by rw [ho]; omega)]
  have e2 : (oth h l).getD (l.length - 1 - k) 0 = h - l.getD k 0 := by
    unfold oth
    rw [List.getD_eq_getElem?_getD, List.getElem?_reverse (by simp; omega), List.getElem?_map, List.length_map]
    have : l.length - 1 - (l.length - 1 - k) = k := by omega
    rw [this, List.getD_eq_getElem?_getD, List.getElem?_eq_getElem hk]
    rfl
  rw [e2]
  omega
end M
/-! MWpB: operators and loops over ints. -/
namespace M
section
variable {g : G} {i j : Int} {Q : W → G → Prop}
theorem ok_add : Ok (opAdd (.int i) (.int j) g) Q ↔ Q (.int (i + j)) g := ok_ok
theorem ok_sub : Ok (opSub (.int i) (.int j) g) Q ↔ Q (.int (i - j)) g := ok_ok
theorem ok_neg : Ok (opNeg (.int i) g) Q ↔ Q (.int (-i)) g := ok_ok
theorem ok_lt : Ok (opLt (.int i) (.int j) g) Q ↔ Q (.bl (decide (i < j))) g := ok_ok
theorem ok_le : Ok (opLe (.int i) (.int j) g) Q ↔ Q (.bl (decide (i ≤ j))) g := ok_ok
theorem ok_gt : Ok (opGt (.int i) (.int j) g) Q ↔ Q (.bl (decide (j < i))) g := ok_ok
theorem ok_ge : Ok (opGe (.int i) (.int j) g) Q ↔ Q (.bl (decide (j ≤ i))) g := ok_ok
theorem ok_mul : Ok (opMul (.int i) (.int j) g) Q ↔ lg i + lg j < 1000000 ∧ Q (.int (i * j)) g := ok_iteB.trans (and_congr_right fun _ => ok_ok)
theorem ok_div : Ok (opDiv (.int i) (.int j) g) Q ↔ (0 < j ∧ lg j < 9000) ∧ Q (.int (i / j)) g := ok_iteB.trans (and_congr_right fun _ => ok_ok)
theorem ok_mod : Ok (opMod (.int i) (.int j) g) Q ↔ 0 < j ∧ Q (.int (i % j)) g := ok_iteB.trans (and_congr_right fun _ => ok_ok)
theorem ok_pow : Ok (opPow (.int i) (.int j) g) Q ↔ (0 ≤ j ∧ j ≤ 1000 ∧ lg i < 4096) ∧ Q (.int (i ^ j.toNat)) g := ok_iteB.trans (and_congr_right fun _ => ok_ok)
theorem ok_max2 : Ok (bMax [.int i, .int j] g) Q ↔ Q (.int (max i j)) g := by
  have : (if j > i then j else i) = max i j := by split <;> omega
  unfold bMax
  rw [ok_ok, this]
theorem ok_min2 : Ok (bMin [.int i, .int j] g) Q ↔ Q (.int (min i j)) g := by
  have : (if j < i then j else i) = min i j := by split <;> omega
  unfold bMin
  rw [ok_ok, this]
theorem ok_abs : Ok (bAbs [.int i] g) Q ↔ Q (.int (i.natAbs : Int)) g := by
  have : (if i < 0 then -i else i) = (i.natAbs : Int) := by split <;> omega
  unfold bAbs
  rw [ok_ok, this]
theorem ok_int : Ok (bInt [.int i] g) Q ↔ Q (.int i) g := ok_ok
end
/-- a list of ints -/
def IL (g : G) (a : Nat) (ns : List Int) : Prop := lstAt g a = some (ns.map .int)
theorem IL.ext {g g' : G} {a : Nat} {ns : List Int} (h : IL g a ns) (e : Ext g g') : IL g' a ns := e.lst h
theorem IL.lt {g : G} {a : Nat} {ns : List Int} (h : IL g a ns) : a < g.length := lt_of_lst h
theorem IL.new {g : G} {a : Nat} {ns : List Int} (h : g[a]? = some (.lst (ns.map .int))) : IL g a ns := lstAt_of h
section
variable {g : G} {a : Nat} {i j : Int} {ns : List Int} {Q : W → G → Prop}
theorem ok_len (h : IL g a ns) : Ok (bLen [.ref a] g) Q ↔ Q (.int ns.length) g := by
  unfold bLen
  dsimp only
  rw [seq_of_lst h, ok_ok]
  simp
theorem atI_get {α : Type} {xs : List α} {i : Int} (h0 : 0 ≤ i) (h1 : i < xs.length) : atI xs i = xs[i.toNat]? := by
  unfold atI ixN
  rw [if_pos h0, if_pos h1]
  rfl
theorem ok_ix (h : IL g a ns) (h0 : 0 ≤ i) (h1 : i < ns.length) : Ok (opIx (.ref a) (.int i) g) Q ↔ Q (.int (ns.getD i.toNat 0)) g := by
  unfold opIx
  dsimp only
  rw [seq_of_lst h]
  dsimp only
  rw [atI_get h0 (by simpa using h1), List.getElem?_map, List.getD_eq_getElem?_getD]
  have : i.toNat < ns.length := by omega
  rw [List.getElem?_eq_getElem this]
  exact ok_ok
theorem ok_maxL (h : IL g a ns) (h1 : ns ≠ []) : Ok (bMax [.ref a] g) Q ↔ Q (.int (maxL ns)) g := by
  unfold bMax
  dsimp only
  rw [show lstAt g a = some (ns.map .int) from h]
  dsimp only
  rw [ints_map]
  cases ns with
  | nil => exact absurd rfl h1
  | cons n ns => exact ok_ok
theorem ok_minL (h : IL g a ns) (h1 : ns ≠ []) : Ok (bMin [.ref a] g) Q ↔ Q (.int (minL ns)) g := by
  unfold bMin
  dsimp only
  rw [show lstAt g a = some (ns.map .int) from h]
  dsimp only
  rw [ints_map]
  cases ns with
  | nil => exact absurd rfl h1
  | cons n ns => exact ok_ok
theorem ok_sorted (h : IL g a ns) : Ok (bSorted [.ref a] g) Q ↔ Q (.ref g.length) (g ++ [.lst ((isort ns).map .int)]) := by
  unfold bSorted
  dsimp only
  rw [show lstAt g a = some (ns.map .int) from h]
  dsimp only
  rw [ints_map]
  exact ok_ok
theorem ok_iLst {e : ME} {ρ : Env} {Q : It → G → Prop} : Ok (iLst e ρ g) Q ↔ Ok (e ρ g) fun x g1 => ∃ a ws, x = .ref a ∧ lstAt g1 a = some ws ∧ Q (.lst a) g1 := by
  unfold iLst
  rw [ok_bind]
  constructor
  · intro h
    refine h.mono fun x g1 h => ?_
    cases x with
    | ref n =>
      dsimp only at h
      split at h
      · rename_i ws q
        exact ⟨n, ws, rfl, q, ok_ok.mp h⟩
      · exact (ok_bad.mp h).elim
    | _ => exact (ok_bad.mp h).elim
  · intro h
    refine h.mono fun x g1 ⟨n, ws, e, q, h⟩ => ?_
    subst e
    dsimp only
    rw [q]
    exact ok_ok.mpr h
theorem ok_iTup {e : ME} {ρ : Env} {Q : It → G → Prop} : Ok (iTup e ρ g) Q ↔ Ok (e ρ g) fun x g1 => ∃ a ws, x = .ref a ∧ tupAt g1 a = some ws ∧ Q (.tup a) g1 := by
  unfold iTup
  rw [ok_bind]
  constructor
  · intro h
    refine h.mono fun x g1 h => ?_
    cases x with
    | ref n =>
      dsimp only at h
      split at h
      · rename_i ws q
        exact ⟨n, ws, rfl, q, ok_ok.mp h⟩
      · exact (ok_bad.mp h).elim
    | _ => exact (ok_bad.mp h).elim
  · intro h
    refine h.mono fun x g1 ⟨n, ws, e, q, h⟩ => ?_
    subst e
    dsimp only
    rw [q]
    exact ok_ok.mpr h
theorem ok_iEnum {e : MA} {ρ : Env} {Q : It → G → Prop} : Ok (iEnum e ρ g) Q ↔ Ok (e ρ g) fun x g1 => ∃ a ws, x = [.ref a] ∧ lstAt g1 a = some ws ∧ Q (.enum a) g1 := by
  unfold iEnum
  rw [ok_bind]
  constructor
  · intro h
    refine h.mono fun x g1 h => ?_
    try dsimp only at h
    split at h
    · split at h
      · rename_i n _ ws q
        exact ⟨n, ws, rfl, q, ok_ok.mp h⟩
      · exact (ok_bad.mp h).elim
    · exact (ok_bad.mp h).elim
  · intro h
    refine h.mono fun x g1 ⟨n, ws, e, q, h⟩ => ?_
    subst e
    try dsimp only
    rw [q]
    exact ok_ok.mpr h
theorem ok_iZip {e : MA} {ρ : Env} {Q : It → G → Prop} : Ok (iZip e ρ g) Q ↔ Ok (e ρ g) fun x g1 => ∃ a b ws us, x = [.ref a, .ref b] ∧ lstAt g1 a = some ws ∧ lstAt g1 b = some us ∧ Q (.zip a b) g1 := by
  unfold iZip
  rw [ok_bind]
  constructor
  · intro h
    refine h.mono fun x g1 h => ?_
    try dsimp only at h
    split at h
    · split at h
      · rename_i n m _ _ ws us q1 q2
        exact ⟨n, m, ws, us, rfl, q1, q2, ok_ok.mp h⟩
      · exact (ok_bad.mp h).elim
    · exact (ok_bad.mp h).elim
  · intro h
    refine h.mono fun x g1 ⟨n, m, ws, us, e, q, q2, h⟩ => ?_
    subst e
    try dsimp only
    rw [q, q2]
    exact ok_ok.mpr h
theorem ok_iRng1 {e : MA} {ρ : Env} {Q : It → G → Prop} : Ok (iRng1 e ρ g) Q ↔ Ok (e ρ g) fun x g1 => ∃ j, x = [.int j] ∧ inR j = true ∧ Q (.rng 0 j.toNat) g1 := by
  unfold iRng1
  rw [ok_bind]
  constructor
  · intro h
    refine h.mono fun x g1 h => ?_
    try dsimp only at h
    split at h
    · rw [ok_iteB] at h
      exact ⟨_, rfl, h.1, ok_ok.mp h.2⟩
    · exact (ok_bad.mp h).elim
  · intro h
    refine h.mono fun x g1 ⟨n, e, q, h⟩ => ?_
    subst e
    try dsimp only
    rw [if_pos q]
    exact ok_ok.mpr h
end
theorem inR_le {j : Int} (h : 0 ≤ j) (h1 : j < 1000000) : inR j = true := by
  unfold inR
  rw [Bool.and_eq_true, decide_eq_true_eq, decide_eq_true_eq]
  omega
theorem exists_list1 {α : Type} {a : α} {P : α → Prop} : (∃ j, [a] = [j] ∧ P j) ↔ P a := ⟨fun ⟨j, e, h⟩ => by cases e; exact h, fun h => ⟨a, rfl, h⟩⟩
/-- tuples as targets -/
theorem ok_gTup2 {s t : Nat} {a : Nat} {g : G} {ρ : Env} {x y : W} {Q : Env → G → Prop} (h : tupAt g a = some [x, y]) : Ok (gTup [gName s, gName t] (.ref a) ρ g) Q ↔ Q ((ρ.set s (some x)).set t (some y)) g := by
  unfold gTup
  dsimp only
  rw [h]
  exact ok_ok
theorem tup_new (g : G) (ws : List W) : tupAt (g ++ [.tup ws]) g.length = some ws := tupAt_of (get_new _ _)
theorem lst_new (g : G) (ws : List W) : lstAt (g ++ [.lst ws]) g.length = some ws := lstAt_of (get_new _ _)
theorem seq_new (g : G) (ws : List W) : seqAt (g ++ [.lst ws]) g.length = some ws := seq_of_lst (lst_new g ws)
theorem filterMap_all {α β : Type} (f : α → β) (l : List α) : l.filterMap (fun x => some (f x)) = l.map f := by
  induction l with
  | nil => rfl
  | cons a l ih => simp [ih]
theorem map_getD (f : Int → W) (ns : List Int) : (List.range ns.length).map (fun i => f (ns.getD i 0)) = ns.map f := by
  refine List.ext_getElem (by simp) fun i h1 h2 => ?_
  have : i < ns.length := by simpa using h1
  simp [List.getD_eq_getElem?_getD, List.getElem?_eq_getElem this]
theorem IL.at {g : G} {a : Nat} {ns : List Int} (h : IL g a ns) {i : Nat} (hi : i < ns.length) : itAt (.lst a) i g = .go (.int (ns.getD i 0)) g := by
  unfold itAt
  dsimp only
  rw [show lstAt g a = some (ns.map .int) from h]
  dsimp only
  rw [List.getElem?_map, List.getElem?_eq_getElem hi, List.getD_eq_getElem?_getD, List.getElem?_eq_getElem hi]
  rfl
theorem IL.stop {g : G} {a : Nat} {ns : List Int} (h : IL g a ns) : itAt (.lst a) ns.length g = .stop := by
  unfold itAt
  dsimp only
  rw [show lstAt g a = some (ns.map .int) from h]
  dsimp only
  rw [List.getElem?_eq_none (by simp)]
theorem IL.itl {g : G} {a : Nat} {ns : List Int} (h : IL g a ns) : itLen (.lst a) g = ns.length := by
  unfold itLen
  dsimp only
  rw [show lstAt g a = some (ns.map .int) from h]
  simp
theorem IL.itl_enum {g : G} {a : Nat} {ns : List Int} (h : IL g a ns) : itLen (.enum a) g = ns.length := by
  unfold itLen
  dsimp only
  rw [show lstAt g a = some (ns.map .int) from h]
  simp
theorem IL.at_enum {g : G} {a : Nat} {ns : List Int} (h : IL g a ns) {i : Nat} (hi : i < ns.length) : itAt (.enum a) i g = .go (.ref g.length) (g ++ [.tup [.int i, .int (ns.getD i 0)]]) := by
  unfold itAt
  dsimp only
  rw [show lstAt g a = some (ns.map .int) from h]
  dsimp only
  rw [List.getElem?_map, List.getElem?_eq_getElem hi, List.getD_eq_getElem?_getD, List.getElem?_eq_getElem hi]
  rfl
theorem IL.stop_enum {g : G} {a : Nat} {ns : List Int} (h : IL g a ns) : itAt (.enum a) ns.length g = .stop := by
  unfold itAt
  dsimp only
  rw [show lstAt g a = some (ns.map .int) from h]
  dsimp only
  rw [List.getElem?_eq_none (by simp)]
theorem IL.at_zip {g : G} {a b : Nat} {ns ms : List Int} (h : IL g a ns) (h' : IL g b ms) {i : Nat} (hi : i < ns.length) (hj : i < ms.length) : itAt (.zip a b) i g = .go (.ref g.length) (g ++ [.tup [.int (ns.getD i 0), .int (ms.getD i 0)]]) := by
  unfold itAt
  dsimp only
  rw [show lstAt g a = some (ns.map .int) from h, show lstAt g b = some (ms.map .int) from h']
  dsimp only
  rw [List.getElem?_map, List.getElem?_map, List.getElem?_eq_getElem hi, List.getElem?_eq_getElem hj, List.getD_eq_getElem?_getD, List.getElem?_eq_getElem hi, List.getD_eq_getElem?_getD, List.getElem?_eq_getElem hj]
  rfl
theorem IL.stop_zip {g : G} {a b : Nat} {ns ms : List Int} (h : IL g a ns) (h' : IL g b ms) (e : ms.length = ns.length) : itAt (.zip a b) ns.length g = .stop := by
  unfold itAt
  dsimp only
  rw [show lstAt g a = some (ns.map .int) from h, show lstAt g b = some (ms.map .int) from h']
  dsimp only
  rw [List.getElem?_eq_none (by simp)]
theorem IL.itl_zip {g : G} {a b : Nat} {ns ms : List Int} (h : IL g a ns) (h' : IL g b ms) (e : ms.length = ns.length) : itLen (.zip a b) g = ns.length := by
  unfold itLen
  dsimp only
  rw [show lstAt g a = some (ns.map .int) from h, show lstAt g b = some (ms.map .int) from h']
  simp [e]
/-- a comprehension over ints whose turns leave what stood -/
theorem lc_ints {it : It} {tg : MG} {tt : MT} {el : ME} {ρ : Env} {g0 : G} {Q : W → G → Prop} (n : Nat) (val : Nat → W) (hn : n ≤ SZ) (hl : itLen it g0 = n)
    (step : ∀ i g', i < n → Ext g0 g' → ∃ w g1, itAt it i g' = .go w g1 ∧ Ok (tg w ρ g1) fun ρ1 g2 => Ok (tt ρ1 g2) fun k g3 => k = true ∧ Ok (el ρ1 g3) fun y g4 => Ext g' g4 ∧ y = val i)
    (stop : ∀ g', Ext g0 g' → itAt it n g' = .stop)
    (q : ∀ g2, Ext g0 g2 → g2[g0.length]? = some (.lst ((List.range n).map val)) → Q (.ref g0.length) g2) :
    Ok (lcGo it tg tt el ρ g0.length (itLen it g0) 0 (g0 ++ [.lst []])) Q := by
  refine lc_map n (fun i => some (val i)) hn hl (fun i g' hi hx _ => ?_) (fun g' hx _ => stop g' hx) fun g2 hx h => ?_
  · obtain ⟨w, g1, e, h⟩ := step i g' hi hx
    refine ⟨w, g1, e, h.mono fun ρ1 g2 h => h.mono fun k g3 h => ?_⟩
    rw [if_pos h.1]
    exact h.2.mono fun y g4 h => ⟨h.1, by rw [h.2]⟩
  · rw [filterMap_all] at h
    exact q g2 hx h
/-- a comprehension by an invariant of the heap -/
theorem lc_inv {it : It} {tg : MG} {tt : MT} {el : ME} {ρ : Env} {d : Nat} {Q : W → G → Prop} (n : Nat) (P : Nat → List W → G → Prop) (hn : n ≤ SZ)
    (step : ∀ i acc g', i < n → g'[d]? = some (.lst acc) → P i acc g' → acc.length ≤ i → ∃ w g1, itAt it i g' = .go w g1 ∧ Ok (tg w ρ g1) fun ρ1 g2 => Ok (tt ρ1 g2) fun k g3 => k = true ∧ Ok (el ρ1 g3) fun y g4 => g4[d]? = some (.lst acc) ∧ P (i + 1) (acc ++ [y]) (g4.set d (.lst (acc ++ [y]))))
    (stop : ∀ acc g', g'[d]? = some (.lst acc) → P n acc g' → itAt it n g' = .stop ∧ Q (.ref d) g') :
    ∀ (m i : Nat) (acc : List W) (g' : G), i + m = n → g'[d]? = some (.lst acc) → P i acc g' → acc.length ≤ i → Ok (lcGo it tg tt el ρ d m i g') Q := by
  intro m
  induction m with
  | zero =>
    intro i acc g' e hd hp hl
    have : i = n := by omega
    subst this
    unfold lcGo
    rw [(stop acc g' hd hp).1, ok_ok]
    exact (stop acc g' hd hp).2
  | succ m ih =>
    intro i acc g' e hd hp hl
    unfold lcGo
    obtain ⟨w, g1, e1, h1⟩ := step i acc g' (by omega) hd hp hl
    rw [e1]
    dsimp only
    obtain ⟨ρ1, g2, e2, h2⟩ := h1
    rw [e2]
    dsimp only
    obtain ⟨k, g3, e3, h3⟩ := h2
    rw [e3]
    obtain ⟨rfl, y, g4, e4, h4, h5⟩ := h3
    dsimp only
    rw [e4]
    dsimp only
    rw [h4]
    dsimp only
    rw [if_pos (by omega)]
    exact ih (i + 1) (acc ++ [y]) _ (by omega) (List.getElem?_set_self (lt_of_get h4)) h5 (by simp; omega)
theorem rng_at {lo : Int} {n i : Nat} {g : G} (h : i < n) : itAt (.rng lo n) i g = .go (.int (lo + i)) g := if_pos h
theorem rng_stop {lo : Int} {n i : Nat} {g : G} (h : n ≤ i) : itAt (.rng lo n) i g = .stop := if_neg (by omega)
theorem ok_addL {g : G} {a b : Nat} {xs ys : List W} {Q : W → G → Prop} (h : g[a]? = some (.lst xs)) (h' : g[b]? = some (.lst ys)) (hs : xs.length + ys.length ≤ SZ) : Ok (opAdd (.ref a) (.ref b) g) Q ↔ Q (.ref g.length) (g ++ [.lst (xs ++ ys)]) := by
  unfold opAdd
  dsimp only
  rw [h, h']
  dsimp only
  rw [if_pos hs]
  exact ok_ok
theorem ok_append {g : G} {a : Nat} {xs : List W} {y : W} {Q : W → G → Prop} (h : g[a]? = some (.lst xs)) (hs : xs.length < SZ) : Ok (mtAppend (.ref a) [y] g) Q ↔ Q .non (g.set a (.lst (xs ++ [y]))) := by
  unfold mtAppend
  dsimp only
  rw [h]
  dsimp only
  rw [if_pos hs]
  exact ok_ok
theorem tup_at {g : G} {a i : Nat} {ws : List W} {w : W} (h : tupAt g a = some ws) (hw : ws[i]? = some w) : itAt (.tup a) i g = .go w g := by
  unfold itAt
  dsimp only
  rw [h]
  dsimp only
  rw [hw]
theorem tup_stop {g : G} {a i : Nat} {ws : List W} (h : tupAt g a = some ws) (hw : ws.length ≤ i) : itAt (.tup a) i g = .stop := by
  unfold itAt
  dsimp only
  rw [h]
  dsimp only
  rw [List.getElem?_eq_none hw]
theorem tup_len {g : G} {a : Nat} {ws : List W} (h : tupAt g a = some ws) : itLen (.tup a) g = ws.length := by
  unfold itLen
  dsimp only
  rw [h]
  rfl
theorem lt_of_tup {g : G} {n : Nat} {ws : List W} (e : tupAt g n = some ws) : n < g.length := by
  unfold tupAt at e
  cases q : g[n]? with
  | none => rw [q] at e; cases e
  | some o => exact (List.getElem?_eq_some_iff.mp q).1
/-! ### sizes -/
theorem lg_lt {i : Int} {k : Nat} (h : i.natAbs < 2 ^ k) (h0 : 0 < k) : lg i < k := by
  unfold lg
  by_cases hz : i.natAbs = 0
  · rw [hz]; exact h0
  · exact (Nat.log2_lt hz).mpr h
def Sm (k : Nat) (i : Int) : Prop := i.natAbs < 2 ^ k
theorem Sm.zero (k : Nat) : Sm k 0 := Nat.two_pow_pos k
theorem Sm.mono {k l : Nat} {i : Int} (h : Sm k i) (e : k ≤ l) : Sm l i := Nat.lt_of_lt_of_le h (Nat.pow_le_pow_right (by omega) e)
theorem Sm.lg {k : Nat} {i : Int} (h : Sm k i) : lg i ≤ k := by
  have := lg_lt (h.mono (Nat.le_succ k)) (by omega)
  omega
theorem Sm.mul {k l : Nat} {i j : Int} (h : Sm k i) (h' : Sm l j) : Sm (k + l) (i * j) := by
  unfold Sm at *
  rw [Int.natAbs_mul, Nat.pow_add]
  exact Nat.mul_lt_mul'' h h'
theorem Sm.add {k : Nat} {i j : Int} (h : Sm k i) (h' : Sm k j) : Sm (k + 1) (i + j) := by
  unfold Sm at *
  rw [Nat.pow_succ]
  omega
/-! ### heaps with one place that changes -/
def Fr (p : Nat) (g g' : G) : Prop := g.length ≤ g'.length ∧ ∀ q, q < g.length → q ≠ p → g'[q]? = g[q]?
theorem Fr.refl (p : Nat) (g : G) : Fr p g g := ⟨Nat.le_refl _, fun _ _ _ => rfl⟩
theorem Fr.trans {p : Nat} {a b c : G} (h : Fr p a b) (h' : Fr p b c) : Fr p a c := ⟨Nat.le_trans h.1 h'.1, fun q h1 h2 => by rw [h'.2 q (Nat.lt_of_lt_of_le h1 h.1) h2, h.2 q h1 h2]⟩
theorem Ext.fr {g g' : G} (h : Ext g g') (p : Nat) : Fr p g g' := ⟨h.len, fun q h1 _ => by
  obtain ⟨t, rfl⟩ := h
  rw [List.getElem?_append_left h1]⟩
theorem Fr.set {p : Nat} (g : G) (o : O) : Fr p g (g.set p o) := ⟨by simp, fun q _ h2 => by rw [List.getElem?_set_ne (Ne.symm h2)]⟩
theorem Fr.setNew {p : Nat} {g g' : G} (h : Fr p g g') {n : Nat} (hn : g.length ≤ n) (o : O) : Fr p g (g'.set n o) := ⟨by simp [h.1], fun q h1 h2 => by rw [List.getElem?_set_ne (by omega), h.2 q h1 h2]⟩
theorem Fr.snoc {p : Nat} (g : G) (o : O) : Fr p g (g ++ [o]) := (Ext.snoc g o).fr p
theorem Fr.get {p : Nat} {g g' : G} (h : Fr p g g') {q : Nat} {o : O} (e : g[q]? = some o) (hq : q ≠ p) : g'[q]? = some o := by rw [h.2 q (lt_of_get e) hq, e]
theorem Fr.lst {p : Nat} {g g' : G} (h : Fr p g g') {q : Nat} {ws : List W} (e : lstAt g q = some ws) (hq : q ≠ p) : lstAt g' q = some ws := by
  unfold lstAt at *
  cases z : g[q]? with
  | none => rw [z] at e; cases e
  | some o => rw [h.get z hq]; rw [z] at e; exact e
theorem Fr.tup {p : Nat} {g g' : G} (h : Fr p g g') {q : Nat} {ws : List W} (e : tupAt g q = some ws) (hq : q ≠ p) : tupAt g' q = some ws := by
  unfold tupAt at *
  cases z : g[q]? with
  | none => rw [z] at e; cases e
  | some o => rw [h.get z hq]; rw [z] at e; exact e
theorem IL.fr {p : Nat} {g g' : G} {a : Nat} {ns : List Int} (h : IL g a ns) (e : Fr p g g') (hq : a ≠ p) : IL g' a ns := e.lst h hq
/-! ### data as a whole -/
theorem rdDs_ints (n : Nat) (g : G) (ns : List Int) : rdDs n g (ns.map .int) = some (ns.map .int) := by
  induction ns with
  | nil => simp [rdDs]
  | cons a ns ih => rw [List.map_cons, rdDs]; simp only [rdD]; rw [ih]; rfl
theorem rdD_IL {n : Nat} {g : G} {a : Nat} {ns : List Int} (h : IL g a ns) : rdD (n + 1) g (.ref a) = some (.lst (ns.map .int)) := by
  unfold IL lstAt at h
  rw [rdD]
  split at h
  · rename_i ws q
    rw [q]
    dsimp only
    rw [Option.some.inj h, rdDs_ints]
  · rename_i ws q
    rw [q]
    dsimp only
    rw [Option.some.inj h, rdDs_ints]
  · cases h
theorem eqDs_ints : ∀ ns ms : List Int, eqDs (ns.map .int) (ms.map .int) = decide (ns = ms) := by
  intro ns
  induction ns with
  | nil => intro ms; cases ms <;> simp [eqDs]
  | cons a ns ih =>
    intro ms
    cases ms with
    | nil => simp [eqDs]
    | cons b ms =>
      rw [List.map_cons, List.map_cons, eqDs, ih]
      simp [eqD]
      by_cases h : a = b <;> simp [h]
theorem ok_eqL {g : G} {a b : Nat} {ns ms : List Int} {Q : W → G → Prop} (h : IL g a ns) (h' : IL g b ms) : Ok (opEq (.ref a) (.ref b) g) Q ↔ Q (.bl (decide (ns = ms))) g := by
  unfold opEq
  rw [rdD_IL h, rdD_IL h']
  dsimp only
  rw [ok_ok, eqD, eqDs_ints]
theorem ok_neL {g : G} {a b : Nat} {ns ms : List Int} {Q : W → G → Prop} (h : IL g a ns) (h' : IL g b ms) : Ok (opNe (.ref a) (.ref b) g) Q ↔ Q (.bl (!decide (ns = ms))) g := by
  unfold opNe
  rw [rdD_IL h, rdD_IL h']
  dsimp only
  rw [ok_ok, eqD, eqDs_ints]
theorem ok_neI {g : G} {i j : Int} {Q : W → G → Prop} : Ok (opNe (.int i) (.int j) g) Q ↔ Q (.bl (!decide (i = j))) g := by
  unfold opNe
  simp only [rdD, eqD]
  rw [ok_ok]
  rfl
theorem ok_eqB {g : G} {i j : Bool} {Q : W → G → Prop} : Ok (opEq (.bl i) (.bl j) g) Q ↔ Q (.bl (decide (i = j))) g := by
  unfold opEq
  simp only [rdD, eqD]
  rw [ok_ok]
  have : (i == j) = decide (i = j) := by cases i <;> cases j <;> rfl
  rw [this]
/-! ### a slot of a list -/
theorem ok_gSub {o ie : ME} {ρ : Env} {g : G} {w : W} {Q : Env → G → Prop} : Ok (gSub o ie w ρ g) Q ↔ Ok (o ρ g) fun x g1 => Ok (ie ρ g1) fun y g2 => ∃ a k ws j, x = .ref a ∧ y = .int k ∧ g2[a]? = some (.lst ws) ∧ ixN ws.length k = some j ∧ Q ρ (g2.set a (.lst (ws.set j w))) := by
  unfold gSub
  simp only [ok_bind]
  constructor
  · intro h
    refine h.mono fun x g1 h => h.mono fun y g2 h => ?_
    split at h
    · split at h
      · split at h
        · rename_i a k _ _ ws q _ j q2
          exact ⟨a, k, ws, j, rfl, rfl, q, q2, ok_ok.mp h⟩
        · exact (ok_bad.mp h).elim
      · exact (ok_bad.mp h).elim
    · exact (ok_bad.mp h).elim
  · intro h
    refine h.mono fun x g1 h1 => h1.mono fun y g2 ⟨a, k, ws, j, e1, e2, q, q2, h2⟩ => ?_
    subst e1 e2
    dsimp only
    rw [q]
    dsimp only
    rw [q2]
    exact ok_ok.mpr h2
end M
/-! PurseA: the purse, its tosses, its teams (laws k01 to k26). -/
namespace M
def PU (g : G) (p n : Nat) : Prop := ∃ a b c : Int, g[p]? = some (.lst [.int a, .int b, .int c]) ∧ 0 ≤ a ∧ 0 ≤ b ∧ b < 2 ^ 200 ∧ 0 ≤ c ∧ c + n ≤ 2 ^ 60
theorem PU.mono {g : G} {p n m : Nat} (h : PU g p n) (e : m ≤ n) : PU g p m := by
  obtain ⟨a, b, c, h1, h2, h3, h4, h5, h6⟩ := h
  exact ⟨a, b, c, h1, h2, h3, h4, h5, by omega⟩
theorem PU.ext {g g' : G} {p n : Nat} (h : PU g p n) (e : Ext g g') : PU g' p n := by
  obtain ⟨a, b, c, h1, h2⟩ := h
  exact ⟨a, b, c, e.get h1, h2⟩
theorem PU.lt {g : G} {p n : Nat} (h : PU g p n) : p < g.length := by
  obtain ⟨_, _, _, q, _⟩ := h
  exact lt_of_get q
theorem PU.set {g : G} {p n q : Nat} (h : PU g p n) (e : q ≠ p) (o : O) : PU (g.set q o) p n := by
  obtain ⟨a, b, c, h1, h2⟩ := h
  exact ⟨a, b, c, by rw [List.getElem?_set_ne e]; exact h1, h2⟩
theorem ixPU {g : G} {p : Nat} {ws : List W} {i : Nat} {w : W} {Q : W → G → Prop} (h : g[p]? = some (.lst ws)) (hi : ws[i]? = some w) : Ok (opIx (.ref p) (.int (i : Int)) g) Q ↔ Q w g := by
  have hl : i < ws.length := (List.getElem?_eq_some_iff.mp hi).1
  unfold opIx
  dsimp only
  rw [seq_of_lst (lstAt_of h)]
  dsimp only
  rw [atI_get (by omega) (by omega), Int.toNat_natCast, hi]
  exact ok_ok
theorem ix0 {g : G} {p : Nat} {a b c : Int} {Q : W → G → Prop} (h : g[p]? = some (.lst [.int a, .int b, .int c])) : Ok (opIx (.ref p) (.int 0) g) Q ↔ Q (.int a) g := ixPU (i := 0) h rfl
theorem ix1 {g : G} {p : Nat} {a b c : Int} {Q : W → G → Prop} (h : g[p]? = some (.lst [.int a, .int b, .int c])) : Ok (opIx (.ref p) (.int 1) g) Q ↔ Q (.int b) g := ixPU (i := 1) h rfl
theorem ix2 {g : G} {p : Nat} {a b c : Int} {Q : W → G → Prop} (h : g[p]? = some (.lst [.int a, .int b, .int c])) : Ok (opIx (.ref p) (.int 2) g) Q ↔ Q (.int c) g := ixPU (i := 2) h rfl
theorem Sm_of {k : Nat} {i : Int} (h0 : 0 ≤ i) (h : i < 2 ^ k) : Sm k i := by
  unfold Sm
  have h1 : (((2 : Nat) ^ k : Nat) : Int) = 2 ^ k := by rw [Int.natCast_pow]; rfl
  omega
theorem getD_mem {ns : List Int} {i : Nat} (h : i < ns.length) : ns.getD i 0 ∈ ns := by
  rw [List.getD_eq_getElem?_getD, List.getElem?_eq_getElem h]
  exact List.getElem_mem h
theorem lgs {i : Int} (a : 0 ≤ i) (b : i < 1000) : lg i < 9000 := by
  have : Sm 10 i := by unfold Sm; omega
  have := this.lg
  omega
theorem s_toss {g : G} {p n : Nat} {wd : Int} (h : PU g p (n + 1)) (h0 : 0 < wd) (h1 : lg wd < 9000) : Ok (m__law_toss [.ref p, .int wd] g) fun w g' => ∃ t, w = .int t ∧ 0 ≤ t ∧ t < wd ∧ Fr p g g' ∧ PU g' p n := by
  obtain ⟨a, b, c, hp, ha, hb, hb2, hc, hc2⟩ := h
  have hpl := lt_of_get hp
  unfold m__law_toss b__law_toss
  simp only [ok_def, okS_seq, okS_ret, okS_asg, okS_if, okS_E, okS_par, okS_aug, okS_nop, nxt_nx, nxt_rt, okS_brk, okS_cnt, ok_var, ok_C, ok_op2, ok_op1, ok_call, ok_acons, ok_anil, ok_lst, ok_tup, ok_tVal, ok_mAnd, ok_mOr, ok_mNot, ok_if, ok_tNot, ok_tAnd, ok_tOr, ok_tYes, ok_chain, ok_star, ok_gName, ok_oNone, ok_oSome, ok_sl, ok_rev, ok_mt, ok_ok, ok_lc, okS_for, putL, wipe, startM, List.map_cons, List.map_nil, List.length_cons, List.length_nil, List.replicate, List.cons_append, List.nil_append, Nat.reduceAdd, Nat.reduceSub, List.getElem?_cons_zero, List.getElem?_cons_succ, List.set_cons_succ, List.set_cons_zero, Option.some.injEq, W.bl.injEq, W.int.injEq, W.ref.injEq, exists_eq_left', exists_eq_left, decide_eq_true_eq, true_and, and_true, ok_add, ok_sub, ok_lt, ok_le, ok_gt, ok_ge, ok_neg, ok_mul, ok_div, ok_mod, ok_pow, ok_max2, ok_min2, ok_abs, ok_int, ok_iLst, ok_iTup, ok_iEnum, ok_iZip, ok_iRng1, exists_list1, List.cons.injEq, exists_and_left, exists_const, exists_eq, if_true, if_false, Bool.not_true, Bool.not_false, Bool.false_eq_true, decide_true, decide_false, ix0 hp]
  by_cases q : 0 < a
  · rw [if_pos q]
    simp only [ok_def, okS_seq, okS_ret, okS_asg, okS_if, okS_E, okS_par, okS_aug, okS_nop, nxt_nx, nxt_rt, okS_brk, okS_cnt, ok_var, ok_C, ok_op2, ok_op1, ok_call, ok_acons, ok_anil, ok_lst, ok_tup, ok_tVal, ok_mAnd, ok_mOr, ok_mNot, ok_if, ok_tNot, ok_tAnd, ok_tOr, ok_tYes, ok_chain, ok_star, ok_gName, ok_oNone, ok_oSome, ok_sl, ok_rev, ok_mt, ok_ok, ok_lc, okS_for, putL, wipe, startM, List.map_cons, List.map_nil, List.length_cons, List.length_nil, List.replicate, List.cons_append, List.nil_append, Nat.reduceAdd, Nat.reduceSub, List.getElem?_cons_zero, List.getElem?_cons_succ, List.set_cons_succ, List.set_cons_zero, Option.some.injEq, W.bl.injEq, W.int.injEq, W.ref.injEq, exists_eq_left', exists_eq_left, decide_eq_true_eq, true_and, and_true, ok_add, ok_sub, ok_lt, ok_le, ok_gt, ok_ge, ok_neg, ok_mul, ok_div, ok_mod, ok_pow, ok_max2, ok_min2, ok_abs, ok_int, ok_iLst, ok_iTup, ok_iEnum, ok_iZip, ok_iRng1, exists_list1, List.cons.injEq, exists_and_left, exists_const, exists_eq, if_true, if_false, Bool.not_true, Bool.not_false, Bool.false_eq_true, decide_true, decide_false, ix0 hp, ok_gSub]
    refine ⟨h0, ⟨h0, h1⟩, _, hp, 0, rfl, ?_⟩
    refine ⟨Int.emod_nonneg _ (by omega), Int.emod_lt_of_pos _ h0, Fr.set _ _, ?_⟩
    refine ⟨_, _, _, List.getElem?_set_self hpl, ?_, hb, hb2, hc, by omega⟩
    exact Int.ediv_nonneg ha (by omega)
  · rw [if_neg q]
    simp only [ok_def, okS_seq, okS_ret, okS_asg, okS_if, okS_E, okS_par, okS_aug, okS_nop, nxt_nx, nxt_rt, okS_brk, okS_cnt, ok_var, ok_C, ok_op2, ok_op1, ok_call, ok_acons, ok_anil, ok_lst, ok_tup, ok_tVal, ok_mAnd, ok_mOr, ok_mNot, ok_if, ok_tNot, ok_tAnd, ok_tOr, ok_tYes, ok_chain, ok_star, ok_gName, ok_oNone, ok_oSome, ok_sl, ok_rev, ok_mt, ok_ok, ok_lc, okS_for, putL, wipe, startM, List.map_cons, List.map_nil, List.length_cons, List.length_nil, List.replicate, List.cons_append, List.nil_append, Nat.reduceAdd, Nat.reduceSub, List.getElem?_cons_zero, List.getElem?_cons_succ, List.set_cons_succ, List.set_cons_zero, Option.some.injEq, W.bl.injEq, W.int.injEq, W.ref.injEq, exists_eq_left', exists_eq_left, decide_eq_true_eq, true_and, and_true, ok_add, ok_sub, ok_lt, ok_le, ok_gt, ok_ge, ok_neg, ok_mul, ok_div, ok_mod, ok_pow, ok_max2, ok_min2, ok_abs, ok_int, ok_iLst, ok_iTup, ok_iEnum, ok_iZip, ok_iRng1, exists_list1, List.cons.injEq, exists_and_left, exists_const, exists_eq, if_true, if_false, Bool.not_true, Bool.not_false, Bool.false_eq_true, decide_true, decide_false, ix2 hp, ok_gSub]
    refine ⟨_, hp, 2, rfl, ?_⟩
    have hp2 : (g.set p (.lst [W.int a, W.int b, W.int (c + 1)]))[p]? = some (.lst [.int a, .int b, .int (c + 1)]) := List.getElem?_set_self hpl
    simp only [ok_def, okS_seq, okS_ret, okS_asg, okS_if, okS_E, okS_par, okS_aug, okS_nop, nxt_nx, nxt_rt, okS_brk, okS_cnt, ok_var, ok_C, ok_op2, ok_op1, ok_call, ok_acons, ok_anil, ok_lst, ok_tup, ok_tVal, ok_mAnd, ok_mOr, ok_mNot, ok_if, ok_tNot, ok_tAnd, ok_tOr, ok_tYes, ok_chain, ok_star, ok_gName, ok_oNone, ok_oSome, ok_sl, ok_rev, ok_mt, ok_ok, ok_lc, okS_for, putL, wipe, startM, List.map_cons, List.map_nil, List.length_cons, List.length_nil, List.replicate, List.cons_append, List.nil_append, Nat.reduceAdd, Nat.reduceSub, List.getElem?_cons_zero, List.getElem?_cons_succ, List.set_cons_succ, List.set_cons_zero, Option.some.injEq, W.bl.injEq, W.int.injEq, W.ref.injEq, exists_eq_left', exists_eq_left, decide_eq_true_eq, true_and, and_true, ok_add, ok_sub, ok_lt, ok_le, ok_gt, ok_ge, ok_neg, ok_mul, ok_div, ok_mod, ok_pow, ok_max2, ok_min2, ok_abs, ok_int, ok_iLst, ok_iTup, ok_iEnum, ok_iZip, ok_iRng1, exists_list1, List.cons.injEq, exists_and_left, exists_const, exists_eq, if_true, if_false, Bool.not_true, Bool.not_false, Bool.false_eq_true, decide_true, decide_false, ix1 hp2, ix2 hp2]
    have s1 : Sm 61 (c + 1) := Sm_of (by omega) (by omega)
    have s2 : Sm 26 50000017 := by unfold Sm; decide
    have s3 : Sm 26 25000009 := by unfold Sm; decide
    have s4 : Sm 200 b := Sm_of hb hb2
    have l1 := s1.lg
    have l2 := s2.lg
    have l3 := s3.lg
    have l4 := ((s4.mono (show 200 ≤ 200 by omega)).add ((s2.mul s1).mono (show 26 + 61 ≤ 200 by omega))).lg
    have hm := Int.emod_lt_of_pos ((b + 50000017 * (c + 1)) ^ Int.toNat 3) (show (0 : Int) < 10 ^ Int.toNat 45 + 9 by decide)
    have hm0 := Int.emod_nonneg ((b + 50000017 * (c + 1)) ^ Int.toNat 3) (show ((10 : Int) ^ Int.toNat 45 + 9) ≠ 0 by decide)
    have s5 := Sm_of (k := 200) hm0 (Int.lt_trans hm (by decide))
    have l5 := (s5.add ((s3.mul s1).mono (show 26 + 61 ≤ 200 by omega))).lg
    refine ⟨by omega, ⟨by decide, by decide, by omega⟩, ⟨by decide, by decide, by decide⟩, by decide, by omega, ⟨by decide, by decide, by omega⟩, ⟨by decide, by decide, by decide⟩, by decide, ⟨by decide, by decide⟩, h0, ?_⟩
    refine ⟨Int.emod_nonneg _ (by omega), Int.emod_lt_of_pos _ h0, Fr.set _ _, ?_⟩
    exact ⟨_, _, _, hp2, ha, hb, hb2, by omega, by omega⟩
theorem s_purse {g : G} {a k : Nat} {ns : List Int} (h : IL g a ns) (hk : k ≤ 100) : Ok (m__law_purse [.ref a, .int k] g) fun w g' => Ext g g' ∧ w = .ref g.length ∧ PU g' g.length (2 ^ 59) := by
  have hp : ∀ c : Int, PU (g ++ [.lst [.int (max 0 ((c.natAbs : Int) - 10 ^ Int.toNat 18)), .int (c % (10 ^ Int.toNat 41 + 37) * 89 + 60013 * k), .int 0]]) g.length (2 ^ 59) := by
    intro c
    have h1 := Int.emod_lt_of_pos c (show (0 : Int) < 10 ^ Int.toNat 41 + 37 by decide)
    have h2 := Int.emod_nonneg c (show ((10 : Int) ^ Int.toNat 41 + 37) ≠ 0 by decide)
    have h3 : (10 : Int) ^ Int.toNat 41 + 37 < 2 ^ 150 := by decide
    generalize (10 : Int) ^ Int.toNat 41 + 37 = z at *
    exact ⟨_, _, _, get_new _ _, by omega, by omega, by omega, by omega, by omega⟩
  have hm : ∀ c : Int, lg (c % (10 ^ Int.toNat 41 + 37)) + lg 89 < 1000000 := by
    intro c
    have h1 := Int.emod_lt_of_pos c (show (0 : Int) < 10 ^ Int.toNat 41 + 37 by decide)
    have h2 := Int.emod_nonneg c (show ((10 : Int) ^ Int.toNat 41 + 37) ≠ 0 by decide)
    have h3 := (Sm_of (k := 150) h2 (Int.lt_trans h1 (by decide))).lg
    have h4 : lg 89 = 6 := by decide
    omega
  have hk2 : lg 60013 + lg k < 1000000 := by
    have h3 : Sm 7 (k : Int) := by unfold Sm; omega
    have := h3.lg
    have h4 : lg 60013 = 15 := by decide
    omega
  unfold m__law_purse b__law_purse
  simp only [ok_def, okS_seq, okS_ret, okS_asg, okS_if, okS_E, okS_par, okS_aug, okS_nop, nxt_nx, nxt_rt, okS_brk, okS_cnt, ok_var, ok_C, ok_op2, ok_op1, ok_call, ok_acons, ok_anil, ok_lst, ok_tup, ok_tVal, ok_mAnd, ok_mOr, ok_mNot, ok_if, ok_tNot, ok_tAnd, ok_tOr, ok_tYes, ok_chain, ok_star, ok_gName, ok_oNone, ok_oSome, ok_sl, ok_rev, ok_mt, ok_ok, ok_lc, okS_for, putL, wipe, startM, List.map_cons, List.map_nil, List.length_cons, List.length_nil, List.replicate, List.cons_append, List.nil_append, Nat.reduceAdd, Nat.reduceSub, List.getElem?_cons_zero, List.getElem?_cons_succ, List.set_cons_succ, List.set_cons_zero, Option.some.injEq, W.bl.injEq, W.int.injEq, W.ref.injEq, exists_eq_left', exists_eq_left, decide_eq_true_eq, true_and, and_true, ok_add, ok_sub, ok_lt, ok_le, ok_gt, ok_ge, ok_neg, ok_mul, ok_div, ok_mod, ok_pow, ok_max2, ok_min2, ok_abs, ok_int, ok_iLst, ok_iTup, ok_iEnum, ok_iZip, ok_iRng1, exists_list1, List.cons.injEq, exists_and_left, exists_const, exists_eq, if_true, if_false, Bool.not_true, Bool.not_false, Bool.false_eq_true, decide_true, decide_false, ok_len h]
  by_cases q : (k : Int) < ns.length
  · rw [if_pos q]
    simp only [ok_ix h (by omega) q, ok_def, okS_seq, okS_ret, okS_asg, okS_if, okS_E, okS_par, okS_aug, okS_nop, nxt_nx, nxt_rt, okS_brk, okS_cnt, ok_var, ok_C, ok_op2, ok_op1, ok_call, ok_acons, ok_anil, ok_lst, ok_tup, ok_tVal, ok_mAnd, ok_mOr, ok_mNot, ok_if, ok_tNot, ok_tAnd, ok_tOr, ok_tYes, ok_chain, ok_star, ok_gName, ok_oNone, ok_oSome, ok_sl, ok_rev, ok_mt, ok_ok, ok_lc, okS_for, putL, wipe, startM, List.map_cons, List.map_nil, List.length_cons, List.length_nil, List.replicate, List.cons_append, List.nil_append, Nat.reduceAdd, Nat.reduceSub, List.getElem?_cons_zero, List.getElem?_cons_succ, List.set_cons_succ, List.set_cons_zero, Option.some.injEq, W.bl.injEq, W.int.injEq, W.ref.injEq, exists_eq_left', exists_eq_left, decide_eq_true_eq, true_and, and_true, ok_add, ok_sub, ok_lt, ok_le, ok_gt, ok_ge, ok_neg, ok_mul, ok_div, ok_mod, ok_pow, ok_max2, ok_min2, ok_abs, ok_int, ok_iLst, ok_iTup, ok_iEnum, ok_iZip, ok_iRng1, exists_list1, List.cons.injEq, exists_and_left, exists_const, exists_eq, if_true, if_false, Bool.not_true, Bool.not_false, Bool.false_eq_true, decide_true, decide_false]
    exact ⟨⟨by decide, by decide, by decide⟩, ⟨by decide, by decide, by decide⟩, by decide, hm _, hk2, by decide, Ext.snoc _ _, hp _⟩
  · rw [if_neg q]
    exact ⟨⟨by decide, by decide, by decide⟩, ⟨by decide, by decide, by decide⟩, by decide, hm _, hk2, by decide, Ext.snoc _ _, hp _⟩
theorem ok_pop {g : G} {a : Nat} {xs : List W} {i : Int} {y : W} {Q : W → G → Prop} (h : g[a]? = some (.lst xs)) (h0 : 0 ≤ i) (h1 : i < xs.length) (hb : i < 2 ^ 63) (hy : xs[i.toNat]? = some y) : Ok (mtPop (.ref a) [.int i] g) Q ↔ Q y (g.set a (.lst (xs.eraseIdx i.toNat))) := by
  unfold mtPop
  dsimp only
  rw [h]
  dsimp only
  unfold ixN
  rw [if_pos h0, if_pos h1]
  dsimp only
  rw [hy]
  dsimp only
  rw [if_pos ⟨by omega, hb⟩]
  exact ok_ok
theorem perm_erase {ns : List Int} {k : Nat} (h : k < ns.length) : (ns.getD k 0 :: ns.eraseIdx k).Perm ns := by
  rw [List.getD_eq_getElem?_getD, List.getElem?_eq_getElem h, List.eraseIdx_eq_take_drop_succ]
  have e : ns = ns.take k ++ ns[k] :: ns.drop (k + 1) := by rw [← List.drop_eq_getElem_cons h, List.take_append_drop]
  conv => rhs; rw [e]
  exact List.perm_middle.symm
theorem lc_pops {p K n s L sp sl : Nat} {ls : List Int} {g1 : G} {ρ : Env} {Q : W → G → Prop} (hn : n ≤ 900) (u : PU g1 p (K + n)) (hL : g1[L]? = some (.lst (ls.map .int))) (hLp : L ≠ p) (hl : ls.length = n)
    (r1 : ∀ v, (ρ.set s v)[sp]? = some (some (.ref p))) (r2 : ∀ v, (ρ.set s v)[sl]? = some (some (.ref L)))
    (q : ∀ (g2 : G) (as : List Int) (z : O), Fr p g1 (g2.set L z) → L < g2.length → PU g2 p K → g2[g1.length]? = some (.lst (as.map .int)) → as.Perm ls → Q (.ref g1.length) g2) :
    Ok (lcGo (.rng 0 n) (gName s) tYes (mMt mtPop (mVar sl) (aCons (mCall m__law_toss (aCons (mVar sp) (aCons (mCall bLen (aCons (mVar sl) aNil)) aNil))) aNil)) ρ g1.length (itLen (.rng 0 n) g1) 0 (g1 ++ [.lst []])) Q := by
  have hp := u.lt
  have hLl := lt_of_get hL
  refine lc_inv n (fun i acc g2 => ∃ (rs as : List Int), Fr p g1 (g2.set L (.lst (ls.map .int))) ∧ PU g2 p (K + (n - i)) ∧ g2[L]? = some (.lst (rs.map .int)) ∧ (as ++ rs).Perm ls ∧ rs.length = n - i ∧ acc = as.map .int) (Nat.le_trans hn (by decide)) (fun i acc g2 hi hd hp2 hal => ?_) (fun acc g2 hd hp2 => ?_) _ 0 [] _ (Nat.zero_add _) (get_new _ _) ⟨ls, [], ?_, u.ext (Ext.snoc _ _), (Ext.snoc _ _).get hL, List.Perm.refl _, hl, rfl⟩ (Nat.le_refl _)
  · obtain ⟨rs, as, f, uu, hrs, hpm, hrl, rfl⟩ := hp2
    have hfl : g1.length ≤ g2.length := by have := f.1; simpa using this
    refine ⟨_, _, rng_at hi, ?_⟩
    have hIL : IL g2 L rs := lstAt_of hrs
    simp only [ok_def, okS_seq, okS_ret, okS_asg, okS_if, okS_E, okS_par, okS_aug, okS_nop, nxt_nx, nxt_rt, okS_brk, okS_cnt, ok_var, ok_C, ok_op2, ok_op1, ok_call, ok_acons, ok_anil, ok_lst, ok_tup, ok_tVal, ok_mAnd, ok_mOr, ok_mNot, ok_if, ok_tNot, ok_tAnd, ok_tOr, ok_tYes, ok_chain, ok_star, ok_gName, ok_oNone, ok_oSome, ok_sl, ok_rev, ok_mt, ok_ok, ok_lc, okS_for, putL, wipe, startM, List.map_cons, List.map_nil, List.length_cons, List.length_nil, List.replicate, List.cons_append, List.nil_append, Nat.reduceAdd, Nat.reduceSub, List.getElem?_cons_zero, List.getElem?_cons_succ, List.set_cons_succ, List.set_cons_zero, Option.some.injEq, W.bl.injEq, W.int.injEq, W.ref.injEq, exists_eq_left', exists_eq_left, decide_eq_true_eq, true_and, and_true, ok_add, ok_sub, ok_lt, ok_le, ok_gt, ok_ge, ok_neg, ok_mul, ok_div, ok_mod, ok_pow, ok_max2, ok_min2, ok_abs, ok_int, ok_iLst, ok_iTup, ok_iEnum, ok_iZip, ok_iRng1, exists_list1, List.cons.injEq, exists_and_left, exists_const, exists_eq, if_true, if_false, Bool.not_true, Bool.not_false, Bool.false_eq_true, decide_true, decide_false, r1, r2]
    refine ⟨isL_of hIL, ?_⟩
    rw [ok_len hIL]
    refine (s_toss (n := K + (n - (i + 1))) (uu.mono (by omega)) (by omega) (lgs (by omega) (by omega))).mono fun w g5 ⟨t, e, ta, tb, f5, u5⟩ => ?_
    subst e
    have hrs5 := f5.get hrs hLp
    have hd5 := f5.get hd (by omega)
    have ht : t.toNat < rs.length := by omega
    have hy : (rs.map W.int)[t.toNat]? = some (.int (rs.getD t.toNat 0)) := by
      rw [List.getElem?_map, List.getD_eq_getElem?_getD, List.getElem?_eq_getElem ht]
      rfl
    rw [ok_pop hrs5 ta (by simpa using tb) (by omega) hy]
    have he : (rs.map W.int).eraseIdx t.toNat = (rs.eraseIdx t.toNat).map .int := by
      simp only [List.eraseIdx_eq_take_drop_succ, List.map_append, List.map_take, List.map_drop]
    rw [he]
    have h5l := f5.1
    have key : Fr p g1 (((g5.set L (.lst ((rs.eraseIdx t.toNat).map .int))).set g1.length (.lst (as.map .int ++ [.int (rs.getD t.toNat 0)]))).set L (.lst (ls.map .int))) := by
      refine ⟨by simp; omega, fun z hz1 hz2 => ?_⟩
      have := f.2 z hz1 hz2
      by_cases hzL : z = L
      · subst hzL
        rw [List.getElem?_set_self (by simp; omega), hL]
      · rw [List.getElem?_set_ne (Ne.symm hzL)] at this ⊢
        rw [List.getElem?_set_ne (by omega), List.getElem?_set_ne (Ne.symm hzL), f5.2 z (by omega) hz2, this]
    have hall : ((as ++ [rs.getD t.toNat 0]) ++ rs.eraseIdx t.toNat).Perm ls := by
      rw [List.append_assoc]
      exact (List.Perm.append_left as (perm_erase ht)).trans hpm
    refine ⟨?_, key, (u5.set hLp _).set (by omega) _, rs.eraseIdx t.toNat, ?_, as ++ [rs.getD t.toNat 0], hall, ?_, by simp⟩
    · rw [List.getElem?_set_ne (by omega)]; exact hd5
    · rw [List.getElem?_set_ne (by omega), List.getElem?_set_self (lt_of_get hrs5)]
    · rw [List.length_eraseIdx_of_lt ht]; omega
  · obtain ⟨rs, as, f, uu, hrs, hpm, hrl, rfl⟩ := hp2
    have e : rs = [] := List.length_eq_zero_iff.mp (by omega)
    subst e
    rw [List.append_nil] at hpm
    exact ⟨rng_stop (Nat.le_refl _), q g2 as _ f (lt_of_get hrs) (uu.mono (by omega)) hd hpm⟩
  · refine ⟨by simp, fun z hz1 hz2 => ?_⟩
    by_cases hzL : z = L
    · subst hzL
      rw [List.getElem?_set_self (by simp; omega), hL]
    · rw [List.getElem?_set_ne (Ne.symm hzL), List.getElem?_append_left hz1]
theorem Fr.unset {p L : Nat} {g g1 g2 : G} {z : O} (f : Fr p g g1) (hL : g.length ≤ L) (h : Fr p g1 (g2.set L z)) : Fr p g g2 := by
  have h1 := f.1
  have h2 := h.1
  rw [List.length_set] at h2
  refine ⟨by omega, fun q h3 h4 => ?_⟩
  rw [← f.2 q h3 h4, ← h.2 q (by omega) h4, List.getElem?_set_ne (by omega)]
def Team (ns : List Int) : Prop := 1 ≤ ns.length ∧ ns.length ≤ 20 ∧ (∀ x ∈ ns, 0 ≤ x) ∧ maxL (spare (isort ns)) ≤ 40
theorem maxL_ge : ∀ (ns : List Int), ∀ x ∈ ns, x ≤ maxL ns := by
  intro ns
  induction ns with
  | nil => intro x h; cases h
  | cons a r ih =>
    cases r with
    | nil => intro x h; rw [List.mem_singleton.mp h]; simp [maxL]
    | cons b r =>
      intro x h
      rw [maxL]
      rcases List.mem_cons.mp h with rfl | h
      · omega
      · have := ih x h; omega
theorem maxL_in : ∀ (ns : List Int), ns ≠ [] → maxL ns ∈ ns := by
  intro ns
  induction ns with
  | nil => intro h; exact absurd rfl h
  | cons a r ih =>
    cases r with
    | nil => intro h; simp [maxL]
    | cons b r =>
      intro h
      rw [maxL]
      have := ih (by simp)
      by_cases q : a ≤ maxL (b :: r)
      · rw [Int.max_eq_right q]; exact List.mem_cons_of_mem _ this
      · rw [Int.max_eq_left (by omega)]; exact List.mem_cons_self
theorem Team.ne {ns : List Int} (t : Team ns) : ns ≠ [] := by intro e; have := t.1; rw [e] at this; simp at this
theorem Team.lt {ns : List Int} (t : Team ns) : ∀ c ∈ ns, 0 ≤ c ∧ c ≤ 59 := by
  intro c hc
  refine ⟨t.2.2.1 c hc, ?_⟩
  have h1 := (isort_perm ns).mem_iff.mpr hc
  obtain ⟨k, hk, e⟩ := List.mem_iff_getElem.mp h1
  have h2 := maxL_ge (spare (isort ns)) _ (getD_mem (i := k) (by rw [spare_len]; exact hk))
  rw [spare_get _ _ hk, List.getD_eq_getElem?_getD, List.getElem?_eq_getElem hk, Option.getD_some, e] at h2
  have := t.2.2.2
  have := t.2.1
  rw [isort_len] at hk
  omega
theorem spare_max {ns : List Int} (h : 1 ≤ ns.length) (hb : ∀ k, k < ns.length → (isort ns).getD k 0 ≤ 40 + k) : maxL (spare (isort ns)) ≤ 40 := by
  have hne : spare (isort ns) ≠ [] := by intro e; have := spare_len (isort ns); rw [e, isort_len] at this; simp at this; omega
  have hm := maxL_in _ hne
  obtain ⟨k, hk, e⟩ := List.mem_iff_getElem.mp hm
  rw [spare_len] at hk
  have h2 := spare_get (isort ns) k hk
  rw [List.getD_eq_getElem?_getD, List.getElem?_eq_getElem (by rw [spare_len]; exact hk), Option.getD_some, e] at h2
  have := hb k (by rw [isort_len] at hk; exact hk)
  omega
theorem team_low {ns : List Int} (h1 : 1 ≤ ns.length) (h2 : ns.length ≤ 20) (h : ∀ x ∈ ns, 0 ≤ x ∧ x ≤ 40) : Team ns := by
  refine ⟨h1, h2, fun x hx => (h x hx).1, spare_max h1 fun k hk => ?_⟩
  have := (h _ ((isort_perm ns).mem_iff.mp (getD_mem (i := k) (by rw [isort_len]; exact hk)))).2
  omega
theorem filter_take (p : Int → Bool) : ∀ (l : List Int) (k : Nat), (∀ i, i < k → i < l.length → p (l.getD i 0) = true) → k ≤ l.length → k ≤ (l.filter p).length := by
  intro l
  induction l with
  | nil => intro k _ h; simpa using h
  | cons a l ih =>
    intro k h hk
    cases k with
    | zero => omega
    | succ k =>
      have h0 := h 0 (by omega) (by simp)
      rw [List.getD_cons_zero] at h0
      rw [List.filter_cons_of_pos h0, List.length_cons]
      have := ih k (fun i h1 h2 => by have := h (i + 1) (by omega) (by simp; omega); rwa [List.getD_cons_succ] at this) (by simpa using hk)
      omega
theorem filter_drop (p : Int → Bool) : ∀ (l : List Int) (k : Nat), (∀ i, k ≤ i → i < l.length → p (l.getD i 0) = false) → (l.filter p).length ≤ k := by
  intro l
  induction l with
  | nil => intro k _; simp
  | cons a l ih =>
    intro k h
    cases k with
    | zero =>
      have h0 := h 0 (by omega) (by simp)
      rw [List.getD_cons_zero] at h0
      rw [List.filter_cons_of_neg (by rw [h0]; decide)]
      exact ih 0 fun i h1 h2 => by have := h (i + 1) (by omega) (by simp; omega); rwa [List.getD_cons_succ] at this
    | succ k =>
      have := ih k fun i h1 h2 => by have := h (i + 1) (by omega) (by simp; omega); rwa [List.getD_cons_succ] at this
      have h3 : ((a :: l).filter p).length ≤ (l.filter p).length + 1 := by
        by_cases q : p a = true
        · rw [List.filter_cons_of_pos q, List.length_cons]; omega
        · rw [List.filter_cons_of_neg q]; omega
      omega
theorem sorted_at {l : List Int} (h : l.Pairwise (· ≤ ·)) {i j : Nat} (hij : i ≤ j) (hj : j < l.length) : l.getD i 0 ≤ l.getD j 0 := by
  rw [List.getD_eq_getElem?_getD, List.getD_eq_getElem?_getD, List.getElem?_eq_getElem hj, List.getElem?_eq_getElem (by omega)]
  simp only [Option.getD_some]
  by_cases e : i = j
  · subst e; exact Int.le_refl _
  · exact List.pairwise_iff_getElem.mp h i j (by omega) hj (by omega)
theorem team_high {ls as : List Int} (h1 : 1 ≤ ls.length) (h2 : ls.length ≤ 20) (h : ∀ k, k < ls.length → 0 ≤ ls.getD k 0 ∧ ls.getD k 0 ≤ 40 + k) (pm : as.Perm ls) : Team as := by
  have hl := pm.length_eq
  refine ⟨by omega, by omega, fun x hx => ?_, spare_max (by omega) fun k hk => ?_⟩
  · obtain ⟨k, hk, e⟩ := List.mem_iff_getElem.mp (pm.mem_iff.mp hx)
    have := (h k hk).1
    rw [List.getD_eq_getElem?_getD, List.getElem?_eq_getElem hk, Option.getD_some, e] at this
    exact this
  · apply Classical.byContradiction
    intro hc
    have c1 := filter_take (fun x => decide (x ≤ 40 + k)) ls (k + 1) (fun i h3 h4 => decide_eq_true (by have := (h i h4).2; omega)) (by omega)
    have c2 := filter_drop (fun x => decide (x ≤ 40 + k)) (isort as) k (fun i h3 h4 => decide_eq_false (by have := sorted_at (isort_up as) h3 h4; omega))
    have c3 := ((isort_perm as).trans pm).filter (fun x => decide (x ≤ 40 + (k : Int)))
    have c4 := c3.length_eq
    omega
theorem team_low2 {top : Int} {ls as : List Int} (ht : top ≤ 40) (h1 : 1 ≤ ls.length) (h2 : ls.length ≤ 20) (h : ∀ k, k < ls.length → 0 ≤ ls.getD k 0 ∧ ls.getD k 0 ≤ top + k) (pm : as.Perm ls) : Team as :=
  team_high h1 h2 (fun k hk => by have := h k hk; omega) pm
theorem s_team {g : G} {p m : Nat} {most top : Int} (h : PU g p (m + 200)) (h0 : 1 ≤ most) (h1 : most ≤ 20) (h2 : 0 ≤ top) (h3 : top ≤ 40) : Ok (m__law_team [.ref p, .int most, .int top] g) fun w g' => ∃ b ns, w = .ref b ∧ g.length ≤ b ∧ Fr p g g' ∧ PU g' p m ∧ IL g' b ns ∧ Team ns := by
  have hpg := h.lt
  unfold m__law_team b__law_team
  simp only [ok_def, okS_seq, okS_ret, okS_asg, okS_if, okS_E, okS_par, okS_aug, okS_nop, nxt_nx, nxt_rt, okS_brk, okS_cnt, ok_var, ok_C, ok_op2, ok_op1, ok_call, ok_acons, ok_anil, ok_lst, ok_tup, ok_tVal, ok_mAnd, ok_mOr, ok_mNot, ok_if, ok_tNot, ok_tAnd, ok_tOr, ok_tYes, ok_chain, ok_star, ok_gName, ok_oNone, ok_oSome, ok_sl, ok_rev, ok_mt, ok_ok, ok_lc, okS_for, putL, wipe, startM, List.map_cons, List.map_nil, List.length_cons, List.length_nil, List.replicate, List.cons_append, List.nil_append, Nat.reduceAdd, Nat.reduceSub, List.getElem?_cons_zero, List.getElem?_cons_succ, List.set_cons_succ, List.set_cons_zero, Option.some.injEq, W.bl.injEq, W.int.injEq, W.ref.injEq, exists_eq_left', exists_eq_left, decide_eq_true_eq, true_and, and_true, ok_add, ok_sub, ok_lt, ok_le, ok_gt, ok_ge, ok_neg, ok_mul, ok_div, ok_mod, ok_pow, ok_max2, ok_min2, ok_abs, ok_int, ok_iLst, ok_iTup, ok_iEnum, ok_iZip, ok_iRng1, exists_list1, List.cons.injEq, exists_and_left, exists_const, exists_eq, if_true, if_false, Bool.not_true, Bool.not_false, Bool.false_eq_true, decide_true, decide_false]
  refine (s_toss (n := m + 199) (h.mono (by omega)) (by omega) (lgs (by omega) (by omega))).mono fun w g1 ⟨sz, e, z1, z2, f1, u1⟩ => ?_
  subst e
  rw [ok_add]
  refine (s_toss (n := m + 198) (u1.mono (by omega)) (by omega) (lgs (by omega) (by omega))).mono fun w g2 ⟨sty, e, y1, y2, f2, u2⟩ => ?_
  subst e
  refine (s_toss (n := m + 120) (u2.mono (by omega)) (by omega) (lgs (by omega) (by omega))).mono fun w g3 ⟨high, e, x1, x2, f3, u3⟩ => ?_
  subst e
  try simp only [ok_def, okS_seq, okS_ret, okS_asg, okS_if, okS_E, okS_par, okS_aug, okS_nop, nxt_nx, nxt_rt, okS_brk, okS_cnt, ok_var, ok_C, ok_op2, ok_op1, ok_call, ok_acons, ok_anil, ok_lst, ok_tup, ok_tVal, ok_mAnd, ok_mOr, ok_mNot, ok_if, ok_tNot, ok_tAnd, ok_tOr, ok_tYes, ok_chain, ok_star, ok_gName, ok_oNone, ok_oSome, ok_sl, ok_rev, ok_mt, ok_ok, ok_lc, okS_for, putL, wipe, startM, List.map_cons, List.map_nil, List.length_cons, List.length_nil, List.replicate, List.cons_append, List.nil_append, Nat.reduceAdd, Nat.reduceSub, List.getElem?_cons_zero, List.getElem?_cons_succ, List.set_cons_succ, List.set_cons_zero, Option.some.injEq, W.bl.injEq, W.int.injEq, W.ref.injEq, exists_eq_left', exists_eq_left, decide_eq_true_eq, true_and, and_true, ok_add, ok_sub, ok_lt, ok_le, ok_gt, ok_ge, ok_neg, ok_mul, ok_div, ok_mod, ok_pow, ok_max2, ok_min2, ok_abs, ok_int, ok_iLst, ok_iTup, ok_iEnum, ok_iZip, ok_iRng1, exists_list1, List.cons.injEq, exists_and_left, exists_const, exists_eq, if_true, if_false, Bool.not_true, Bool.not_false, Bool.false_eq_true, decide_true, decide_false]
  refine ⟨by decide, inR_le (by omega) (by omega), ?_⟩
  obtain ⟨n, hn⟩ : ∃ n : Nat, 1 + sz = n := ⟨(1 + sz).toNat, by omega⟩
  rw [hn, Int.toNat_natCast]
  have f4 := (f1.trans f2).trans f3
  have hl4 := f4.1
  have u4 := u3.ext (Ext.snoc g3 (.lst []))
  refine forGo_inv n (fun i ρ g' => ∃ (r4 r8 : Option W) (ls : List Int), ρ = [some (.ref p), some (.int most), some (.int top), some (.ref g3.length), r4, some (.int n), some (.int sty), some (.int high), r8] ∧ Fr p g g' ∧ PU g' p (m + 20 + 5 * (20 - i)) ∧ g'[g3.length]? = some (.lst (ls.map .int)) ∧ ls.length = i ∧ (∀ q, q < ls.length → 0 ≤ ls.getD q 0 ∧ ls.getD q 0 ≤ top + q)) (fun i ρ g' hi hp => ?_) (fun ρ g' hp => ?_) _ 0 _ _ (Nat.zero_add _) ?_
  · obtain ⟨r4, r8, ls, rfl, f, u, hL, hll, hpos⟩ := hp
    refine ⟨_, _, rng_at hi, ?_⟩
    simp only [ok_def, okS_seq, okS_ret, okS_asg, okS_if, okS_E, okS_par, okS_aug, okS_nop, nxt_nx, nxt_rt, okS_brk, okS_cnt, ok_var, ok_C, ok_op2, ok_op1, ok_call, ok_acons, ok_anil, ok_lst, ok_tup, ok_tVal, ok_mAnd, ok_mOr, ok_mNot, ok_if, ok_tNot, ok_tAnd, ok_tOr, ok_tYes, ok_chain, ok_star, ok_gName, ok_oNone, ok_oSome, ok_sl, ok_rev, ok_mt, ok_ok, ok_lc, okS_for, putL, wipe, startM, List.map_cons, List.map_nil, List.length_cons, List.length_nil, List.replicate, List.cons_append, List.nil_append, Nat.reduceAdd, Nat.reduceSub, List.getElem?_cons_zero, List.getElem?_cons_succ, List.set_cons_succ, List.set_cons_zero, Option.some.injEq, W.bl.injEq, W.int.injEq, W.ref.injEq, exists_eq_left', exists_eq_left, decide_eq_true_eq, true_and, and_true, ok_add, ok_sub, ok_lt, ok_le, ok_gt, ok_ge, ok_neg, ok_mul, ok_div, ok_mod, ok_pow, ok_max2, ok_min2, ok_abs, ok_int, ok_iLst, ok_iTup, ok_iEnum, ok_iZip, ok_iRng1, exists_list1, List.cons.injEq, exists_and_left, exists_const, exists_eq, if_true, if_false, Bool.not_true, Bool.not_false, Bool.false_eq_true, decide_true, decide_false]
    refine (s_toss (n := m + 20 + 5 * (20 - i) - 1) (u.mono (by omega)) (by omega) (lgs (by omega) (by omega))).mono fun w g5 ⟨t1, e, t1a, t1b, f5, u5⟩ => ?_
    subst e
    refine (s_toss (n := m + 20 + 5 * (20 - i) - 2) (u5.mono (by omega)) (by omega) (lgs (by omega) (by omega))).mono fun w g6 ⟨t2, e, t2a, t2b, f6, u6⟩ => ?_
    subst e
    refine (s_toss (n := m + 20 + 5 * (20 - i) - 3) (u6.mono (by omega)) (by omega) (lgs (by omega) (by omega))).mono fun w g7 ⟨t3, e, t3a, t3b, f7, u7⟩ => ?_
    subst e
    try simp only [ok_def, okS_seq, okS_ret, okS_asg, okS_if, okS_E, okS_par, okS_aug, okS_nop, nxt_nx, nxt_rt, okS_brk, okS_cnt, ok_var, ok_C, ok_op2, ok_op1, ok_call, ok_acons, ok_anil, ok_lst, ok_tup, ok_tVal, ok_mAnd, ok_mOr, ok_mNot, ok_if, ok_tNot, ok_tAnd, ok_tOr, ok_tYes, ok_chain, ok_star, ok_gName, ok_oNone, ok_oSome, ok_sl, ok_rev, ok_mt, ok_ok, ok_lc, okS_for, putL, wipe, startM, List.map_cons, List.map_nil, List.length_cons, List.length_nil, List.replicate, List.cons_append, List.nil_append, Nat.reduceAdd, Nat.reduceSub, List.getElem?_cons_zero, List.getElem?_cons_succ, List.set_cons_succ, List.set_cons_zero, Option.some.injEq, W.bl.injEq, W.int.injEq, W.ref.injEq, exists_eq_left', exists_eq_left, decide_eq_true_eq, true_and, and_true, ok_add, ok_sub, ok_lt, ok_le, ok_gt, ok_ge, ok_neg, ok_mul, ok_div, ok_mod, ok_pow, ok_max2, ok_min2, ok_abs, ok_int, ok_iLst, ok_iTup, ok_iEnum, ok_iZip, ok_iRng1, exists_list1, List.cons.injEq, exists_and_left, exists_const, exists_eq, if_true, if_false, Bool.not_true, Bool.not_false, Bool.false_eq_true, decide_true, decide_false]
    have f8 := ((f.trans f5).trans f6).trans f7
    have hL7 := ((f5.trans f6).trans f7).get hL (by omega)
    have hS0 := get_new g7 (O.lst [W.int t1, W.int t2, W.int t3])
    have hL8 := (Ext.snoc g7 (O.lst [W.int t1, W.int t2, W.int t3])).get hL7
    have u8 := u7.ext (Ext.snoc g7 (O.lst [W.int t1, W.int t2, W.int t3]))
    have f8' := f8.trans (Fr.snoc g7 (O.lst [W.int t1, W.int t2, W.int t3]))
    have hpS : g7.length ≠ p := by have := f8.1; have := f4.1; omega
    refine ⟨by decide, isL_of (lstAt_of hL8), ?_⟩
    refine (s_toss (n := m + 20 + 5 * (20 - i) - 4) (u8.mono (by omega)) (by omega) (by decide)).mono fun w g9 ⟨t4, e, t4a, t4b, f9, u9⟩ => ?_
    subst e
    rw [ok_sub, ok_max2]
    refine (s_toss (n := m + 20 + 5 * (20 - i) - 5) (u9.mono (by omega)) (by omega) (by decide)).mono fun w g10 ⟨t5, e, t5a, t5b, f10, u10⟩ => ?_
    subst e
    rw [ok_min2, ok_add]
    have hS := (Ext.snoc g10 (O.lst [W.int (max 0 (top + (0 + (i : Int)) - t4)), W.int high, W.int (min top t5 + (0 + (i : Int)))])).get ((f9.trans f10).get hS0 hpS)
    have hL10 := (Ext.snoc g10 (O.lst [W.int (max 0 (top + (0 + (i : Int)) - t4)), W.int high, W.int (min top t5 + (0 + (i : Int)))])).get ((f9.trans f10).get hL8 (by omega))
    have hN := get_new g10 (O.lst [W.int (max 0 (top + (0 + (i : Int)) - t4)), W.int high, W.int (min top t5 + (0 + (i : Int)))])
    refine ⟨by decide, ?_⟩
    rw [ok_addL hS hN (show 3 + 3 ≤ SZ by decide)]
    have f10' := (f8'.trans (f9.trans f10)).trans (Fr.snoc g10 (O.lst [W.int (max 0 (top + (0 + (i : Int)) - t4)), W.int high, W.int (min top t5 + (0 + (i : Int)))]))
    have u10' := u10.ext (Ext.snoc g10 (O.lst [W.int (max 0 (top + (0 + (i : Int)) - t4)), W.int high, W.int (min top t5 + (0 + (i : Int)))]))
    generalize g10 ++ [O.lst [W.int (max 0 (top + (0 + (i : Int)) - t4)), W.int high, W.int (min top t5 + (0 + (i : Int)))]] = g11 at *
    have hsix : IL (g11 ++ [O.lst ([W.int t1, W.int t2, W.int t3] ++ [W.int (max 0 (top + (0 + (i : Int)) - t4)), W.int high, W.int (min top t5 + (0 + (i : Int)))])]) g11.length [t1, t2, t3, max 0 (top + (0 + (i : Int)) - t4), high, min top t5 + (0 + (i : Int))] := lst_new _ _
    have hL12 := (Ext.snoc g11 (O.lst ([W.int t1, W.int t2, W.int t3] ++ [W.int (max 0 (top + (0 + (i : Int)) - t4)), W.int high, W.int (min top t5 + (0 + (i : Int)))]))).get hL10
    rw [ok_ix hsix y1 (by simp; omega)]
    have hpick : 0 ≤ [t1, t2, t3, max 0 (top + (0 + (i : Int)) - t4), high, min top t5 + (0 + (i : Int))].getD sty.toNat 0 ∧ [t1, t2, t3, max 0 (top + (0 + (i : Int)) - t4), high, min top t5 + (0 + (i : Int))].getD sty.toNat 0 ≤ top + i := by
      have : ∀ x ∈ [t1, t2, t3, max 0 (top + (0 + (i : Int)) - t4), high, min top t5 + (0 + (i : Int))], 0 ≤ x ∧ x ≤ top + i := by
        intro x hx
        simp only [List.mem_cons, List.not_mem_nil, or_false] at hx
        omega
      exact this _ (getD_mem (by simp; omega))
    generalize [t1, t2, t3, max 0 (top + (0 + (i : Int)) - t4), high, min top t5 + (0 + (i : Int))].getD sty.toNat 0 = y at *
    rw [ok_append hL12 (Nat.lt_of_le_of_lt (show _ ≤ 20 by simp; omega) (by decide))]
    refine ⟨_, _, ⟨rfl, rfl⟩, ((f10'.trans (Fr.snoc _ _)).setNew (by omega) _), ?_, ls ++ [y], ?_, by simp [hll], ?_⟩
    · refine PU.mono (n := m + 20 + 5 * (20 - i) - 5) (PU.set (u10'.ext (Ext.snoc _ _)) (by omega) _) (by omega)
    · rw [List.getElem?_set_self (lt_of_get hL12)]
      simp
    · intro q hq
      rw [List.length_append, List.length_singleton] at hq
      by_cases hq2 : q < ls.length
      · have := hpos q hq2
        rw [List.getD_eq_getElem?_getD, List.getElem?_append_left hq2, ← List.getD_eq_getElem?_getD]
        exact this
      · have : q = ls.length := by omega
        subst this
        rw [List.getD_eq_getElem?_getD, List.getElem?_append_right (Nat.le_refl _)]
        simp
        rw [hll]
        exact hpick
  · obtain ⟨r4, r8, ls, rfl, f, u, hL, hll, hpos⟩ := hp
    refine ⟨rng_stop (Nat.le_refl _), ?_⟩
    simp only [ok_def, okS_seq, okS_ret, okS_asg, okS_if, okS_E, okS_par, okS_aug, okS_nop, nxt_nx, nxt_rt, okS_brk, okS_cnt, ok_var, ok_C, ok_op2, ok_op1, ok_call, ok_acons, ok_anil, ok_lst, ok_tup, ok_tVal, ok_mAnd, ok_mOr, ok_mNot, ok_if, ok_tNot, ok_tAnd, ok_tOr, ok_tYes, ok_chain, ok_star, ok_gName, ok_oNone, ok_oSome, ok_sl, ok_rev, ok_mt, ok_ok, ok_lc, okS_for, putL, wipe, startM, List.map_cons, List.map_nil, List.length_cons, List.length_nil, List.replicate, List.cons_append, List.nil_append, Nat.reduceAdd, Nat.reduceSub, List.getElem?_cons_zero, List.getElem?_cons_succ, List.set_cons_succ, List.set_cons_zero, Option.some.injEq, W.bl.injEq, W.int.injEq, W.ref.injEq, exists_eq_left', exists_eq_left, decide_eq_true_eq, true_and, and_true, ok_add, ok_sub, ok_lt, ok_le, ok_gt, ok_ge, ok_neg, ok_mul, ok_div, ok_mod, ok_pow, ok_max2, ok_min2, ok_abs, ok_int, ok_iLst, ok_iTup, ok_iEnum, ok_iZip, ok_iRng1, exists_list1, List.cons.injEq, exists_and_left, exists_const, exists_eq, if_true, if_false, Bool.not_true, Bool.not_false, Bool.false_eq_true, decide_true, decide_false]
    refine ⟨inR_le (by omega) (by omega), ?_⟩
    rw [Int.toNat_natCast]
    refine lc_pops (p := p) (K := m) (ls := ls) (L := g3.length) (by omega) (u.mono (by omega)) hL (by omega) hll (fun v => rfl) (fun v => rfl) (fun g6 cs z f6 hL6 u6 hd6 pm => ?_)
    have := f.1
    exact ⟨_, rfl, by omega, f.unset (by omega) f6, u6, cs, lstAt_of hd6, team_low2 h3 (by omega) (by omega) hpos pm⟩
  · exact ⟨_, _, [], rfl, f4.trans (Fr.snoc _ _), u4.mono (by omega), get_new _ _, rfl, fun x hx => (nomatch hx)⟩
end M
/-! K01a: the functions of teams and the texts, by values (k01). -/
namespace M
theorem filterMap_ite {α : Type} (p : α → Bool) (f : α → W) (l : List α) : l.filterMap (fun x => if p x = true then some (f x) else none) = (l.filter p).map f := by
  induction l with
  | nil => rfl
  | cons a l ih =>
    rw [List.filterMap_cons, List.filter_cons]
    by_cases q : p a = true
    · simp [q, ih]
    · simp [q, ih]
theorem range_getD (ns : List Int) : (List.range ns.length).map (fun i => ns.getD i 0) = ns := by
  refine List.ext_getElem (by simp) fun i h1 h2 => ?_
  simp [List.getD_eq_getElem?_getD, List.getElem?_eq_getElem h2]
theorem lc_filter {a s : Nat} {ns : List Int} {p : Int → Bool} {ρ : Env} {g : G} {tt : MT} {Q : W → G → Prop} (h : IL g a ns) (hs : ns.length ≤ SZ) (hv : ∀ v, (ρ.set s v)[s]? = some v)
    (step : ∀ x g', x ∈ ns → Ext g g' → Ok (tt (ρ.set s (some (.int x))) g') fun k g3 => Ext g' g3 ∧ k = p x)
    (q : ∀ g2, Ext g g2 → IL g2 g.length (ns.filter p) → g2[g.length]? = some (.lst ((ns.filter p).map .int)) → Q (.ref g.length) g2) :
    Ok (lcGo (.lst a) (gName s) tt (mVar s) ρ g.length (itLen (.lst a) g) 0 (g ++ [.lst []])) Q := by
  refine lc_map ns.length (fun i => if p (ns.getD i 0) = true then some (.int (ns.getD i 0)) else none) hs h.itl (fun i g' hi hx _ => ?_) (fun g' hx _ => (h.ext hx).stop) fun g2 hx hg => ?_
  · refine ⟨_, _, (h.ext hx).at hi, ?_⟩
    rw [ok_gName]
    refine (step _ g' (getD_mem hi) hx).mono fun k g3 ⟨hx3, e⟩ => ?_
    subst e
    split
    · rename_i hk
      rw [ok_var]
      exact ⟨_, hv _, hx3, rfl⟩
    · exact ⟨hx3, rfl⟩
  · have e : (List.range ns.length).filterMap (fun i => if p (ns.getD i 0) = true then some (W.int (ns.getD i 0)) else none) = (ns.filter p).map .int := by
      have h1 := filterMap_ite p W.int ns
      rw [← h1]
      conv => rhs; rw [← range_getD ns]
      rw [List.filterMap_map]
      rfl
    rw [e] at hg
    exact q g2 hx (lstAt_of hg) hg
theorem lc_filterR {n s : Nat} {p : Nat → Bool} {ρ : Env} {g : G} {tt : MT} {Q : W → G → Prop} (hs : n ≤ SZ) (hv : ∀ v, (ρ.set s v)[s]? = some v)
    (step : ∀ (k : Nat) g', k < n → Ext g g' → Ok (tt (ρ.set s (some (.int (k : Int)))) g') fun b g3 => Ext g' g3 ∧ b = p k)
    (q : ∀ g2, Ext g g2 → IL g2 g.length (((List.range n).filter p).map fun k : Nat => (k : Int)) → g2[g.length]? = some (.lst ((((List.range n).filter p).map fun k : Nat => (k : Int)).map .int)) → Q (.ref g.length) g2) :
    Ok (lcGo (.rng 0 n) (gName s) tt (mVar s) ρ g.length (itLen (.rng 0 n) g) 0 (g ++ [.lst []])) Q := by
  refine lc_map n (fun i => if p i = true then some (.int (i : Int)) else none) hs rfl (fun i g' hi hx _ => ?_) (fun g' hx _ => rng_stop (Nat.le_refl _)) fun g2 hx hg => ?_
  · refine ⟨_, _, rng_at hi, ?_⟩
    have e0 : (0 : Int) + i = i := by omega
    rw [ok_gName, e0]
    refine (step i g' hi hx).mono fun k g3 ⟨hx3, e⟩ => ?_
    subst e
    split
    · rename_i hk
      rw [ok_var]
      exact ⟨_, hv _, hx3, rfl⟩
    · exact ⟨hx3, rfl⟩
  · rw [filterMap_ite p (fun i : Nat => W.int (i : Int)) (List.range n)] at hg
    have e : ((List.range n).filter p).map (fun i : Nat => W.int (i : Int)) = (((List.range n).filter p).map fun k : Nat => (k : Int)).map .int := by rw [List.map_map]; rfl
    rw [e] at hg
    exact q g2 hx (lstAt_of hg) hg
theorem s_is_integer (g : G) (i : Int) : m_is_integer [.int i] g = .ok (.bl true) g := rfl
theorem okI_is_integer {g : G} {i : Int} {Q : W → G → Prop} : Ok (m_is_integer [.int i] g) Q ↔ Q (.bl true) g := by rw [s_is_integer, ok_ok]
theorem ok_isiL {g : G} {a : Nat} {ns : List Int} {Q : W → G → Prop} (h : IL g a ns) : Ok (bIsi [.ref a, .ty "list"] g) Q ↔ Q (.bl true) g := by
  have : tyOf g (.ref a) = some "list" := by
    unfold IL lstAt at h
    unfold tyOf
    split at h
    · rename_i q; dsimp only; rw [q]
    · rename_i q; dsimp only; rw [q]
    · cases h
  unfold bIsi
  dsimp only
  rw [this]
  exact ok_ok
theorem ok_all {g : G} {a n : Nat} {Q : W → G → Prop} (h : g[a]? = some (.lst ((List.range n).map fun _ => W.bl true))) : Ok (bAll [.ref a] g) Q ↔ Q (.bl true) g := by
  unfold bAll
  dsimp only
  rw [lstAt_of h]
  dsimp only
  have : (List.range n).map (fun _ => W.bl true) = ((List.range n).map fun _ => true).map .bl := by simp
  rw [this, bools_map]
  dsimp only
  rw [ok_ok, show (((List.range n).map fun _ => true).all id) = true from by rw [List.all_eq_true]; intro x hx; obtain ⟨_, _, rfl⟩ := List.mem_map.mp hx; rfl]
theorem s_spare_by {g : G} {a : Nat} {ns : List Int} (h : IL g a ns) (hs : ns.length ≤ SZ) : Ok (m_spare_by [.ref a] g) fun w g' => Ext g g' ∧ ∃ b, w = .ref b ∧ g.length ≤ b ∧ IL g' b (spare ns) := by
  unfold m_spare_by b_spare_by
  simp only [ok_def, okS_seq, okS_ret, okS_asg, okS_if, okS_E, okS_par, okS_aug, okS_nop, nxt_nx, nxt_rt, okS_brk, okS_cnt, ok_var, ok_C, ok_op2, ok_op1, ok_call, ok_acons, ok_anil, ok_lst, ok_tup, ok_tVal, ok_mAnd, ok_mOr, ok_mNot, ok_if, ok_tNot, ok_tAnd, ok_tOr, ok_tYes, ok_chain, ok_star, ok_gName, ok_oNone, ok_oSome, ok_sl, ok_rev, ok_mt, ok_ok, ok_lc, okS_for, putL, wipe, startM, List.map_cons, List.map_nil, List.length_cons, List.length_nil, List.replicate, List.cons_append, List.nil_append, Nat.reduceAdd, Nat.reduceSub, List.getElem?_cons_zero, List.getElem?_cons_succ, List.set_cons_succ, List.set_cons_zero, Option.some.injEq, W.bl.injEq, W.int.injEq, W.ref.injEq, exists_eq_left', exists_eq_left, decide_eq_true_eq, true_and, and_true, ok_add, ok_sub, ok_lt, ok_le, ok_gt, ok_ge, ok_neg, ok_mul, ok_div, ok_mod, ok_pow, ok_max2, ok_min2, ok_abs, ok_int, ok_iLst, ok_iTup, ok_iEnum, ok_iZip, ok_iRng1, exists_list1, List.cons.injEq, exists_and_left, exists_const, exists_eq, if_true, if_false, Bool.not_true, Bool.not_false, Bool.false_eq_true, decide_true, decide_false]
  refine ⟨_, h, ?_⟩
  refine lc_ints ns.length (fun i => .int (ns.getD i 0 - i)) hs h.itl_enum (fun i g' hi hx => ?_) (fun g' hx => (h.ext hx).stop_enum) fun g2 hx hg => ?_
  · refine ⟨_, _, (h.ext hx).at_enum hi, ?_⟩
    rw [ok_gTup2 (tup_new _ _)]
    simp only [ok_def, okS_seq, okS_ret, okS_asg, okS_if, okS_E, okS_par, okS_aug, okS_nop, nxt_nx, nxt_rt, okS_brk, okS_cnt, ok_var, ok_C, ok_op2, ok_op1, ok_call, ok_acons, ok_anil, ok_lst, ok_tup, ok_tVal, ok_mAnd, ok_mOr, ok_mNot, ok_if, ok_tNot, ok_tAnd, ok_tOr, ok_tYes, ok_chain, ok_star, ok_gName, ok_oNone, ok_oSome, ok_sl, ok_rev, ok_mt, ok_ok, ok_lc, okS_for, putL, wipe, startM, List.map_cons, List.map_nil, List.length_cons, List.length_nil, List.replicate, List.cons_append, List.nil_append, Nat.reduceAdd, Nat.reduceSub, List.getElem?_cons_zero, List.getElem?_cons_succ, List.set_cons_succ, List.set_cons_zero, Option.some.injEq, W.bl.injEq, W.int.injEq, W.ref.injEq, exists_eq_left', exists_eq_left, decide_eq_true_eq, true_and, and_true, ok_add, ok_sub, ok_lt, ok_le, ok_gt, ok_ge, ok_neg, ok_mul, ok_div, ok_mod, ok_pow, ok_max2, ok_min2, ok_abs, ok_int, ok_iLst, ok_iTup, ok_iEnum, ok_iZip, ok_iRng1, exists_list1, List.cons.injEq, exists_and_left, exists_const, exists_eq, if_true, if_false, Bool.not_true, Bool.not_false, Bool.false_eq_true, decide_true, decide_false]
    exact Ext.snoc _ _
  · exact ⟨hx, _, rfl, Nat.le_refl _, lstAt_of (by rw [hg, spare, List.map_map]; rfl)⟩
theorem s_is_team {g : G} {a : Nat} {ns : List Int} (h : IL g a ns) (t : Team ns) : Ok (m_is_team [.ref a] g) fun w g' => Ext g g' ∧ w = .bl true := by
  obtain ⟨t1, t2, t3, t4⟩ := t
  have hS : ns.length ≤ SZ := Nat.le_trans t2 (by decide)
  unfold m_is_team b_is_team
  simp only [ok_def, okS_seq, okS_ret, okS_asg, okS_if, okS_E, okS_par, okS_aug, okS_nop, nxt_nx, nxt_rt, okS_brk, okS_cnt, ok_var, ok_C, ok_op2, ok_op1, ok_call, ok_acons, ok_anil, ok_lst, ok_tup, ok_tVal, ok_mAnd, ok_mOr, ok_mNot, ok_if, ok_tNot, ok_tAnd, ok_tOr, ok_tYes, ok_chain, ok_star, ok_gName, ok_oNone, ok_oSome, ok_sl, ok_rev, ok_mt, ok_ok, ok_lc, okS_for, putL, wipe, startM, List.map_cons, List.map_nil, List.length_cons, List.length_nil, List.replicate, List.cons_append, List.nil_append, Nat.reduceAdd, Nat.reduceSub, List.getElem?_cons_zero, List.getElem?_cons_succ, List.set_cons_succ, List.set_cons_zero, Option.some.injEq, W.bl.injEq, W.int.injEq, W.ref.injEq, exists_eq_left', exists_eq_left, decide_eq_true_eq, true_and, and_true, ok_add, ok_sub, ok_lt, ok_le, ok_gt, ok_ge, ok_neg, ok_mul, ok_div, ok_mod, ok_pow, ok_max2, ok_min2, ok_abs, ok_int, ok_iLst, ok_iTup, ok_iEnum, ok_iZip, ok_iRng1, exists_list1, List.cons.injEq, exists_and_left, exists_const, exists_eq, if_true, if_false, Bool.not_true, Bool.not_false, Bool.false_eq_true, decide_true, decide_false, ok_isiL h, ok_len h, show (1 : Int) ≤ ns.length by omega, show (ns.length : Int) ≤ 20 by omega]
  refine ⟨_, h, ?_⟩
  refine lc_ints ns.length (fun i => .bl true) hS h.itl (fun i g' hi hx => ?_) (fun g' hx => (h.ext hx).stop) fun g2 hx hg => ?_
  · refine ⟨_, _, (h.ext hx).at hi, ?_⟩
    simp only [ok_def, okS_seq, okS_ret, okS_asg, okS_if, okS_E, okS_par, okS_aug, okS_nop, nxt_nx, nxt_rt, okS_brk, okS_cnt, ok_var, ok_C, ok_op2, ok_op1, ok_call, ok_acons, ok_anil, ok_lst, ok_tup, ok_tVal, ok_mAnd, ok_mOr, ok_mNot, ok_if, ok_tNot, ok_tAnd, ok_tOr, ok_tYes, ok_chain, ok_star, ok_gName, ok_oNone, ok_oSome, ok_sl, ok_rev, ok_mt, ok_ok, ok_lc, okS_for, putL, wipe, startM, List.map_cons, List.map_nil, List.length_cons, List.length_nil, List.replicate, List.cons_append, List.nil_append, Nat.reduceAdd, Nat.reduceSub, List.getElem?_cons_zero, List.getElem?_cons_succ, List.set_cons_succ, List.set_cons_zero, Option.some.injEq, W.bl.injEq, W.int.injEq, W.ref.injEq, exists_eq_left', exists_eq_left, decide_eq_true_eq, true_and, and_true, ok_add, ok_sub, ok_lt, ok_le, ok_gt, ok_ge, ok_neg, ok_mul, ok_div, ok_mod, ok_pow, ok_max2, ok_min2, ok_abs, ok_int, ok_iLst, ok_iTup, ok_iEnum, ok_iZip, ok_iRng1, exists_list1, List.cons.injEq, exists_and_left, exists_const, exists_eq, if_true, if_false, Bool.not_true, Bool.not_false, Bool.false_eq_true, decide_true, decide_false, okI_is_integer]
    exact ⟨Ext.refl _, t3 _ (getD_mem hi)⟩
  · rw [ok_all hg]
    refine ⟨_, rfl, ?_⟩
    simp only [ok_def, okS_seq, okS_ret, okS_asg, okS_if, okS_E, okS_par, okS_aug, okS_nop, nxt_nx, nxt_rt, okS_brk, okS_cnt, ok_var, ok_C, ok_op2, ok_op1, ok_call, ok_acons, ok_anil, ok_lst, ok_tup, ok_tVal, ok_mAnd, ok_mOr, ok_mNot, ok_if, ok_tNot, ok_tAnd, ok_tOr, ok_tYes, ok_chain, ok_star, ok_gName, ok_oNone, ok_oSome, ok_sl, ok_rev, ok_mt, ok_ok, ok_lc, okS_for, putL, wipe, startM, List.map_cons, List.map_nil, List.length_cons, List.length_nil, List.replicate, List.cons_append, List.nil_append, Nat.reduceAdd, Nat.reduceSub, List.getElem?_cons_zero, List.getElem?_cons_succ, List.set_cons_succ, List.set_cons_zero, Option.some.injEq, W.bl.injEq, W.int.injEq, W.ref.injEq, exists_eq_left', exists_eq_left, decide_eq_true_eq, true_and, and_true, ok_add, ok_sub, ok_lt, ok_le, ok_gt, ok_ge, ok_neg, ok_mul, ok_div, ok_mod, ok_pow, ok_max2, ok_min2, ok_abs, ok_int, ok_iLst, ok_iTup, ok_iEnum, ok_iZip, ok_iRng1, exists_list1, List.cons.injEq, exists_and_left, exists_const, exists_eq, if_true, if_false, Bool.not_true, Bool.not_false, Bool.false_eq_true, decide_true, decide_false, ok_sorted (h.ext hx)]
    refine (s_spare_by (IL.new (get_new _ _)) (by rw [isort_len]; exact hS)).mono fun w g3 ⟨hx3, b, e, _, hb⟩ => ?_
    subst e
    have hne : spare (isort ns) ≠ [] := by intro e; have := spare_len (isort ns); rw [e, isort_len] at this; simp at this; omega
    simp only [ok_maxL hb hne, ok_def, okS_seq, okS_ret, okS_asg, okS_if, okS_E, okS_par, okS_aug, okS_nop, nxt_nx, nxt_rt, okS_brk, okS_cnt, ok_var, ok_C, ok_op2, ok_op1, ok_call, ok_acons, ok_anil, ok_lst, ok_tup, ok_tVal, ok_mAnd, ok_mOr, ok_mNot, ok_if, ok_tNot, ok_tAnd, ok_tOr, ok_tYes, ok_chain, ok_star, ok_gName, ok_oNone, ok_oSome, ok_sl, ok_rev, ok_mt, ok_ok, ok_lc, okS_for, putL, wipe, startM, List.map_cons, List.map_nil, List.length_cons, List.length_nil, List.replicate, List.cons_append, List.nil_append, Nat.reduceAdd, Nat.reduceSub, List.getElem?_cons_zero, List.getElem?_cons_succ, List.set_cons_succ, List.set_cons_zero, Option.some.injEq, W.bl.injEq, W.int.injEq, W.ref.injEq, exists_eq_left', exists_eq_left, decide_eq_true_eq, true_and, and_true, ok_add, ok_sub, ok_lt, ok_le, ok_gt, ok_ge, ok_neg, ok_mul, ok_div, ok_mod, ok_pow, ok_max2, ok_min2, ok_abs, ok_int, ok_iLst, ok_iTup, ok_iEnum, ok_iZip, ok_iRng1, exists_list1, List.cons.injEq, exists_and_left, exists_const, exists_eq, if_true, if_false, Bool.not_true, Bool.not_false, Bool.false_eq_true, decide_true, decide_false]
    exact ⟨(hx.trans (Ext.snoc _ _)).trans hx3, t4⟩
theorem s_need_team {g : G} {a : Nat} {ns : List Int} (h : IL g a ns) (t : Team ns) : Ok (m_need_team [.ref a] g) fun w g' => Ext g g' := by
  unfold m_need_team b_need_team
  simp only [ok_def, okS_seq, okS_ret, okS_asg, okS_if, okS_E, okS_par, okS_aug, okS_nop, nxt_nx, nxt_rt, okS_brk, okS_cnt, ok_var, ok_C, ok_op2, ok_op1, ok_call, ok_acons, ok_anil, ok_lst, ok_tup, ok_tVal, ok_mAnd, ok_mOr, ok_mNot, ok_if, ok_tNot, ok_tAnd, ok_tOr, ok_tYes, ok_chain, ok_star, ok_gName, ok_oNone, ok_oSome, ok_sl, ok_rev, ok_mt, ok_ok, ok_lc, okS_for, putL, wipe, startM, List.map_cons, List.map_nil, List.length_cons, List.length_nil, List.replicate, List.cons_append, List.nil_append, Nat.reduceAdd, Nat.reduceSub, List.getElem?_cons_zero, List.getElem?_cons_succ, List.set_cons_succ, List.set_cons_zero, Option.some.injEq, W.bl.injEq, W.int.injEq, W.ref.injEq, exists_eq_left', exists_eq_left, decide_eq_true_eq, true_and, and_true, ok_add, ok_sub, ok_lt, ok_le, ok_gt, ok_ge, ok_neg, ok_mul, ok_div, ok_mod, ok_pow, ok_max2, ok_min2, ok_abs, ok_int, ok_iLst, ok_iTup, ok_iEnum, ok_iZip, ok_iRng1, exists_list1, List.cons.injEq, exists_and_left, exists_const, exists_eq, if_true, if_false, Bool.not_true, Bool.not_false, Bool.false_eq_true, decide_true, decide_false]
  refine (s_is_team h t).mono fun w g' ⟨hx, e⟩ => ?_
  subst e
  refine ⟨_, rfl, ?_⟩
  simp only [ok_def, okS_seq, okS_ret, okS_asg, okS_if, okS_E, okS_par, okS_aug, okS_nop, nxt_nx, nxt_rt, okS_brk, okS_cnt, ok_var, ok_C, ok_op2, ok_op1, ok_call, ok_acons, ok_anil, ok_lst, ok_tup, ok_tVal, ok_mAnd, ok_mOr, ok_mNot, ok_if, ok_tNot, ok_tAnd, ok_tOr, ok_tYes, ok_chain, ok_star, ok_gName, ok_oNone, ok_oSome, ok_sl, ok_rev, ok_mt, ok_ok, ok_lc, okS_for, putL, wipe, startM, List.map_cons, List.map_nil, List.length_cons, List.length_nil, List.replicate, List.cons_append, List.nil_append, Nat.reduceAdd, Nat.reduceSub, List.getElem?_cons_zero, List.getElem?_cons_succ, List.set_cons_succ, List.set_cons_zero, Option.some.injEq, W.bl.injEq, W.int.injEq, W.ref.injEq, exists_eq_left', exists_eq_left, decide_eq_true_eq, true_and, and_true, ok_add, ok_sub, ok_lt, ok_le, ok_gt, ok_ge, ok_neg, ok_mul, ok_div, ok_mod, ok_pow, ok_max2, ok_min2, ok_abs, ok_int, ok_iLst, ok_iTup, ok_iEnum, ok_iZip, ok_iRng1, exists_list1, List.cons.injEq, exists_and_left, exists_const, exists_eq, if_true, if_false, Bool.not_true, Bool.not_false, Bool.false_eq_true, decide_true, decide_false]
  exact hx
theorem s_need_worker {g : G} {a : Nat} {ns : List Int} (h : IL g a ns) {i : Int} (h0 : 0 ≤ i) (h1 : i < ns.length) : Ok (m_need_worker [.ref a, .int i] g) fun w g' => g' = g := by
  unfold m_need_worker b_need_worker
  simp only [ok_def, okS_seq, okS_ret, okS_asg, okS_if, okS_E, okS_par, okS_aug, okS_nop, nxt_nx, nxt_rt, okS_brk, okS_cnt, ok_var, ok_C, ok_op2, ok_op1, ok_call, ok_acons, ok_anil, ok_lst, ok_tup, ok_tVal, ok_mAnd, ok_mOr, ok_mNot, ok_if, ok_tNot, ok_tAnd, ok_tOr, ok_tYes, ok_chain, ok_star, ok_gName, ok_oNone, ok_oSome, ok_sl, ok_rev, ok_mt, ok_ok, ok_lc, okS_for, putL, wipe, startM, List.map_cons, List.map_nil, List.length_cons, List.length_nil, List.replicate, List.cons_append, List.nil_append, Nat.reduceAdd, Nat.reduceSub, List.getElem?_cons_zero, List.getElem?_cons_succ, List.set_cons_succ, List.set_cons_zero, Option.some.injEq, W.bl.injEq, W.int.injEq, W.ref.injEq, exists_eq_left', exists_eq_left, decide_eq_true_eq, true_and, and_true, ok_add, ok_sub, ok_lt, ok_le, ok_gt, ok_ge, ok_neg, ok_mul, ok_div, ok_mod, ok_pow, ok_max2, ok_min2, ok_abs, ok_int, ok_iLst, ok_iTup, ok_iEnum, ok_iZip, ok_iRng1, exists_list1, List.cons.injEq, exists_and_left, exists_const, exists_eq, if_true, if_false, Bool.not_true, Bool.not_false, Bool.false_eq_true, decide_true, decide_false, ok_len h, h0, h1]
theorem s_need_job {g : G} {i : Int} (h0 : 0 ≤ i) (h1 : i ≤ 59) : Ok (m_need_job [.int i] g) fun w g' => g' = g := by
  unfold m_need_job b_need_job
  simp only [ok_def, okS_seq, okS_ret, okS_asg, okS_if, okS_E, okS_par, okS_aug, okS_nop, nxt_nx, nxt_rt, okS_brk, okS_cnt, ok_var, ok_C, ok_op2, ok_op1, ok_call, ok_acons, ok_anil, ok_lst, ok_tup, ok_tVal, ok_mAnd, ok_mOr, ok_mNot, ok_if, ok_tNot, ok_tAnd, ok_tOr, ok_tYes, ok_chain, ok_star, ok_gName, ok_oNone, ok_oSome, ok_sl, ok_rev, ok_mt, ok_ok, ok_lc, okS_for, putL, wipe, startM, List.map_cons, List.map_nil, List.length_cons, List.length_nil, List.replicate, List.cons_append, List.nil_append, Nat.reduceAdd, Nat.reduceSub, List.getElem?_cons_zero, List.getElem?_cons_succ, List.set_cons_succ, List.set_cons_zero, Option.some.injEq, W.bl.injEq, W.int.injEq, W.ref.injEq, exists_eq_left', exists_eq_left, decide_eq_true_eq, true_and, and_true, ok_add, ok_sub, ok_lt, ok_le, ok_gt, ok_ge, ok_neg, ok_mul, ok_div, ok_mod, ok_pow, ok_max2, ok_min2, ok_abs, ok_int, ok_iLst, ok_iTup, ok_iEnum, ok_iZip, ok_iRng1, exists_list1, List.cons.injEq, exists_and_left, exists_const, exists_eq, if_true, if_false, Bool.not_true, Bool.not_false, Bool.false_eq_true, decide_true, decide_false, h0, h1]
theorem s_spare_numbers {g : G} {a : Nat} {ns : List Int} (h : IL g a ns) (t : Team ns) : Ok (m_spare_numbers [.ref a] g) fun w g' => Ext g g' ∧ ∃ b, w = .ref b ∧ g.length ≤ b ∧ IL g' b (spare (isort ns)) := by
  unfold m_spare_numbers b_spare_numbers m_levels_along b_levels_along
  try simp only [ok_def, okS_seq, okS_ret, okS_asg, okS_if, okS_E, okS_par, okS_aug, okS_nop, nxt_nx, nxt_rt, okS_brk, okS_cnt, ok_var, ok_C, ok_op2, ok_op1, ok_call, ok_acons, ok_anil, ok_lst, ok_tup, ok_tVal, ok_mAnd, ok_mOr, ok_mNot, ok_if, ok_tNot, ok_tAnd, ok_tOr, ok_tYes, ok_chain, ok_star, ok_gName, ok_oNone, ok_oSome, ok_sl, ok_rev, ok_mt, ok_ok, ok_lc, okS_for, putL, wipe, startM, List.map_cons, List.map_nil, List.length_cons, List.length_nil, List.replicate, List.cons_append, List.nil_append, Nat.reduceAdd, Nat.reduceSub, List.getElem?_cons_zero, List.getElem?_cons_succ, List.set_cons_succ, List.set_cons_zero, Option.some.injEq, W.bl.injEq, W.int.injEq, W.ref.injEq, exists_eq_left', exists_eq_left, decide_eq_true_eq, true_and, and_true, ok_add, ok_sub, ok_lt, ok_le, ok_gt, ok_ge, ok_neg, ok_mul, ok_div, ok_mod, ok_pow, ok_max2, ok_min2, ok_abs, ok_int, ok_iLst, ok_iTup, ok_iEnum, ok_iZip, ok_iRng1, exists_list1, List.cons.injEq, exists_and_left, exists_const, exists_eq, if_true, if_false, Bool.not_true, Bool.not_false, Bool.false_eq_true, decide_true, decide_false]
  refine (s_need_team h t).mono fun w g' hx => ?_
  simp only [ok_def, okS_seq, okS_ret, okS_asg, okS_if, okS_E, okS_par, okS_aug, okS_nop, nxt_nx, nxt_rt, okS_brk, okS_cnt, ok_var, ok_C, ok_op2, ok_op1, ok_call, ok_acons, ok_anil, ok_lst, ok_tup, ok_tVal, ok_mAnd, ok_mOr, ok_mNot, ok_if, ok_tNot, ok_tAnd, ok_tOr, ok_tYes, ok_chain, ok_star, ok_gName, ok_oNone, ok_oSome, ok_sl, ok_rev, ok_mt, ok_ok, ok_lc, okS_for, putL, wipe, startM, List.map_cons, List.map_nil, List.length_cons, List.length_nil, List.replicate, List.cons_append, List.nil_append, Nat.reduceAdd, Nat.reduceSub, List.getElem?_cons_zero, List.getElem?_cons_succ, List.set_cons_succ, List.set_cons_zero, Option.some.injEq, W.bl.injEq, W.int.injEq, W.ref.injEq, exists_eq_left', exists_eq_left, decide_eq_true_eq, true_and, and_true, ok_add, ok_sub, ok_lt, ok_le, ok_gt, ok_ge, ok_neg, ok_mul, ok_div, ok_mod, ok_pow, ok_max2, ok_min2, ok_abs, ok_int, ok_iLst, ok_iTup, ok_iEnum, ok_iZip, ok_iRng1, exists_list1, List.cons.injEq, exists_and_left, exists_const, exists_eq, if_true, if_false, Bool.not_true, Bool.not_false, Bool.false_eq_true, decide_true, decide_false, ok_sorted (h.ext hx)]
  refine (s_spare_by (IL.new (get_new _ _)) (by rw [isort_len]; exact Nat.le_trans t.2.1 (by decide))).mono fun w g3 ⟨hx3, b, e, hl, hb⟩ => ?_
  exact ⟨(hx.trans (Ext.snoc _ _)).trans hx3, b, e, Nat.le_trans hx.len (Nat.le_trans (Ext.snoc g' _).len hl), hb⟩
theorem s_can_do {g : G} {a : Nat} {ns : List Int} (h : IL g a ns) (t : Team ns) {i j : Int} (h0 : 0 ≤ i) (h1 : i < ns.length) (h2 : 0 ≤ j) (h3 : j ≤ 59) : Ok (m_can_do [.ref a, .int i, .int j] g) fun w g' => Ext g g' ∧ w = .bl (decide (j < ns.getD i.toNat 0)) := by
  unfold m_can_do b_can_do
  try simp only [ok_def, okS_seq, okS_ret, okS_asg, okS_if, okS_E, okS_par, okS_aug, okS_nop, nxt_nx, nxt_rt, okS_brk, okS_cnt, ok_var, ok_C, ok_op2, ok_op1, ok_call, ok_acons, ok_anil, ok_lst, ok_tup, ok_tVal, ok_mAnd, ok_mOr, ok_mNot, ok_if, ok_tNot, ok_tAnd, ok_tOr, ok_tYes, ok_chain, ok_star, ok_gName, ok_oNone, ok_oSome, ok_sl, ok_rev, ok_mt, ok_ok, ok_lc, okS_for, putL, wipe, startM, List.map_cons, List.map_nil, List.length_cons, List.length_nil, List.replicate, List.cons_append, List.nil_append, Nat.reduceAdd, Nat.reduceSub, List.getElem?_cons_zero, List.getElem?_cons_succ, List.set_cons_succ, List.set_cons_zero, Option.some.injEq, W.bl.injEq, W.int.injEq, W.ref.injEq, exists_eq_left', exists_eq_left, decide_eq_true_eq, true_and, and_true, ok_add, ok_sub, ok_lt, ok_le, ok_gt, ok_ge, ok_neg, ok_mul, ok_div, ok_mod, ok_pow, ok_max2, ok_min2, ok_abs, ok_int, ok_iLst, ok_iTup, ok_iEnum, ok_iZip, ok_iRng1, exists_list1, List.cons.injEq, exists_and_left, exists_const, exists_eq, if_true, if_false, Bool.not_true, Bool.not_false, Bool.false_eq_true, decide_true, decide_false]
  refine (s_need_team h t).mono fun w g' hx => ?_
  try simp only [ok_def, okS_seq, okS_ret, okS_asg, okS_if, okS_E, okS_par, okS_aug, okS_nop, nxt_nx, nxt_rt, okS_brk, okS_cnt, ok_var, ok_C, ok_op2, ok_op1, ok_call, ok_acons, ok_anil, ok_lst, ok_tup, ok_tVal, ok_mAnd, ok_mOr, ok_mNot, ok_if, ok_tNot, ok_tAnd, ok_tOr, ok_tYes, ok_chain, ok_star, ok_gName, ok_oNone, ok_oSome, ok_sl, ok_rev, ok_mt, ok_ok, ok_lc, okS_for, putL, wipe, startM, List.map_cons, List.map_nil, List.length_cons, List.length_nil, List.replicate, List.cons_append, List.nil_append, Nat.reduceAdd, Nat.reduceSub, List.getElem?_cons_zero, List.getElem?_cons_succ, List.set_cons_succ, List.set_cons_zero, Option.some.injEq, W.bl.injEq, W.int.injEq, W.ref.injEq, exists_eq_left', exists_eq_left, decide_eq_true_eq, true_and, and_true, ok_add, ok_sub, ok_lt, ok_le, ok_gt, ok_ge, ok_neg, ok_mul, ok_div, ok_mod, ok_pow, ok_max2, ok_min2, ok_abs, ok_int, ok_iLst, ok_iTup, ok_iEnum, ok_iZip, ok_iRng1, exists_list1, List.cons.injEq, exists_and_left, exists_const, exists_eq, if_true, if_false, Bool.not_true, Bool.not_false, Bool.false_eq_true, decide_true, decide_false]
  refine (s_need_worker (h.ext hx) h0 h1).mono fun w g2 e => ?_
  subst e
  try simp only [ok_def, okS_seq, okS_ret, okS_asg, okS_if, okS_E, okS_par, okS_aug, okS_nop, nxt_nx, nxt_rt, okS_brk, okS_cnt, ok_var, ok_C, ok_op2, ok_op1, ok_call, ok_acons, ok_anil, ok_lst, ok_tup, ok_tVal, ok_mAnd, ok_mOr, ok_mNot, ok_if, ok_tNot, ok_tAnd, ok_tOr, ok_tYes, ok_chain, ok_star, ok_gName, ok_oNone, ok_oSome, ok_sl, ok_rev, ok_mt, ok_ok, ok_lc, okS_for, putL, wipe, startM, List.map_cons, List.map_nil, List.length_cons, List.length_nil, List.replicate, List.cons_append, List.nil_append, Nat.reduceAdd, Nat.reduceSub, List.getElem?_cons_zero, List.getElem?_cons_succ, List.set_cons_succ, List.set_cons_zero, Option.some.injEq, W.bl.injEq, W.int.injEq, W.ref.injEq, exists_eq_left', exists_eq_left, decide_eq_true_eq, true_and, and_true, ok_add, ok_sub, ok_lt, ok_le, ok_gt, ok_ge, ok_neg, ok_mul, ok_div, ok_mod, ok_pow, ok_max2, ok_min2, ok_abs, ok_int, ok_iLst, ok_iTup, ok_iEnum, ok_iZip, ok_iRng1, exists_list1, List.cons.injEq, exists_and_left, exists_const, exists_eq, if_true, if_false, Bool.not_true, Bool.not_false, Bool.false_eq_true, decide_true, decide_false]
  refine (s_need_job h2 h3).mono fun w g2 e => ?_
  subst e
  simp only [ok_def, okS_seq, okS_ret, okS_asg, okS_if, okS_E, okS_par, okS_aug, okS_nop, nxt_nx, nxt_rt, okS_brk, okS_cnt, ok_var, ok_C, ok_op2, ok_op1, ok_call, ok_acons, ok_anil, ok_lst, ok_tup, ok_tVal, ok_mAnd, ok_mOr, ok_mNot, ok_if, ok_tNot, ok_tAnd, ok_tOr, ok_tYes, ok_chain, ok_star, ok_gName, ok_oNone, ok_oSome, ok_sl, ok_rev, ok_mt, ok_ok, ok_lc, okS_for, putL, wipe, startM, List.map_cons, List.map_nil, List.length_cons, List.length_nil, List.replicate, List.cons_append, List.nil_append, Nat.reduceAdd, Nat.reduceSub, List.getElem?_cons_zero, List.getElem?_cons_succ, List.set_cons_succ, List.set_cons_zero, Option.some.injEq, W.bl.injEq, W.int.injEq, W.ref.injEq, exists_eq_left', exists_eq_left, decide_eq_true_eq, true_and, and_true, ok_add, ok_sub, ok_lt, ok_le, ok_gt, ok_ge, ok_neg, ok_mul, ok_div, ok_mod, ok_pow, ok_max2, ok_min2, ok_abs, ok_int, ok_iLst, ok_iTup, ok_iEnum, ok_iZip, ok_iRng1, exists_list1, List.cons.injEq, exists_and_left, exists_const, exists_eq, if_true, if_false, Bool.not_true, Bool.not_false, Bool.false_eq_true, decide_true, decide_false, ok_ix (h.ext hx) h0 h1]
  exact hx
theorem s_others {g : G} {a : Nat} {ns : List Int} (h : IL g a ns) (t : Team ns) {i : Int} (h0 : maxL ns ≤ i) (h1 : i ≤ 40) : Ok (m_others [.ref a, .int i] g) fun w g' => Ext g g' ∧ ∃ b, w = .ref b ∧ g.length ≤ b ∧ IL g' b (ns.map fun c => i - c) := by
  have hne : ns ≠ [] := by intro e; have := t.1; rw [e] at this; simp at this
  unfold m_others b_others
  try simp only [ok_def, okS_seq, okS_ret, okS_asg, okS_if, okS_E, okS_par, okS_aug, okS_nop, nxt_nx, nxt_rt, okS_brk, okS_cnt, ok_var, ok_C, ok_op2, ok_op1, ok_call, ok_acons, ok_anil, ok_lst, ok_tup, ok_tVal, ok_mAnd, ok_mOr, ok_mNot, ok_if, ok_tNot, ok_tAnd, ok_tOr, ok_tYes, ok_chain, ok_star, ok_gName, ok_oNone, ok_oSome, ok_sl, ok_rev, ok_mt, ok_ok, ok_lc, okS_for, putL, wipe, startM, List.map_cons, List.map_nil, List.length_cons, List.length_nil, List.replicate, List.cons_append, List.nil_append, Nat.reduceAdd, Nat.reduceSub, List.getElem?_cons_zero, List.getElem?_cons_succ, List.set_cons_succ, List.set_cons_zero, Option.some.injEq, W.bl.injEq, W.int.injEq, W.ref.injEq, exists_eq_left', exists_eq_left, decide_eq_true_eq, true_and, and_true, ok_add, ok_sub, ok_lt, ok_le, ok_gt, ok_ge, ok_neg, ok_mul, ok_div, ok_mod, ok_pow, ok_max2, ok_min2, ok_abs, ok_int, ok_iLst, ok_iTup, ok_iEnum, ok_iZip, ok_iRng1, exists_list1, List.cons.injEq, exists_and_left, exists_const, exists_eq, if_true, if_false, Bool.not_true, Bool.not_false, Bool.false_eq_true, decide_true, decide_false]
  refine (s_need_team h t).mono fun w g' hx => ?_
  simp only [ok_def, okS_seq, okS_ret, okS_asg, okS_if, okS_E, okS_par, okS_aug, okS_nop, nxt_nx, nxt_rt, okS_brk, okS_cnt, ok_var, ok_C, ok_op2, ok_op1, ok_call, ok_acons, ok_anil, ok_lst, ok_tup, ok_tVal, ok_mAnd, ok_mOr, ok_mNot, ok_if, ok_tNot, ok_tAnd, ok_tOr, ok_tYes, ok_chain, ok_star, ok_gName, ok_oNone, ok_oSome, ok_sl, ok_rev, ok_mt, ok_ok, ok_lc, okS_for, putL, wipe, startM, List.map_cons, List.map_nil, List.length_cons, List.length_nil, List.replicate, List.cons_append, List.nil_append, Nat.reduceAdd, Nat.reduceSub, List.getElem?_cons_zero, List.getElem?_cons_succ, List.set_cons_succ, List.set_cons_zero, Option.some.injEq, W.bl.injEq, W.int.injEq, W.ref.injEq, exists_eq_left', exists_eq_left, decide_eq_true_eq, true_and, and_true, ok_add, ok_sub, ok_lt, ok_le, ok_gt, ok_ge, ok_neg, ok_mul, ok_div, ok_mod, ok_pow, ok_max2, ok_min2, ok_abs, ok_int, ok_iLst, ok_iTup, ok_iEnum, ok_iZip, ok_iRng1, exists_list1, List.cons.injEq, exists_and_left, exists_const, exists_eq, if_true, if_false, Bool.not_true, Bool.not_false, Bool.false_eq_true, decide_true, decide_false, ok_maxL (h.ext hx) hne, h0, h1]
  refine ⟨_, h.ext hx, ?_⟩
  refine lc_ints ns.length (fun k => .int (i - ns.getD k 0)) (Nat.le_trans t.2.1 (by decide)) (h.ext hx).itl (fun k g2 hi hx2 => ?_) (fun g2 hx2 => (h.ext (hx.trans hx2)).stop) fun g2 hx2 hg => ?_
  · refine ⟨_, _, (h.ext (hx.trans hx2)).at hi, ?_⟩
    try simp only [ok_def, okS_seq, okS_ret, okS_asg, okS_if, okS_E, okS_par, okS_aug, okS_nop, nxt_nx, nxt_rt, okS_brk, okS_cnt, ok_var, ok_C, ok_op2, ok_op1, ok_call, ok_acons, ok_anil, ok_lst, ok_tup, ok_tVal, ok_mAnd, ok_mOr, ok_mNot, ok_if, ok_tNot, ok_tAnd, ok_tOr, ok_tYes, ok_chain, ok_star, ok_gName, ok_oNone, ok_oSome, ok_sl, ok_rev, ok_mt, ok_ok, ok_lc, okS_for, putL, wipe, startM, List.map_cons, List.map_nil, List.length_cons, List.length_nil, List.replicate, List.cons_append, List.nil_append, Nat.reduceAdd, Nat.reduceSub, List.getElem?_cons_zero, List.getElem?_cons_succ, List.set_cons_succ, List.set_cons_zero, Option.some.injEq, W.bl.injEq, W.int.injEq, W.ref.injEq, exists_eq_left', exists_eq_left, decide_eq_true_eq, true_and, and_true, ok_add, ok_sub, ok_lt, ok_le, ok_gt, ok_ge, ok_neg, ok_mul, ok_div, ok_mod, ok_pow, ok_max2, ok_min2, ok_abs, ok_int, ok_iLst, ok_iTup, ok_iEnum, ok_iZip, ok_iRng1, exists_list1, List.cons.injEq, exists_and_left, exists_const, exists_eq, if_true, if_false, Bool.not_true, Bool.not_false, Bool.false_eq_true, decide_true, decide_false]
    exact Ext.refl _
  · refine ⟨hx.trans hx2, _, rfl, hx.len, lstAt_of ?_⟩
    rw [hg, map_getD (fun c => .int (i - c)), List.map_map]
    rfl
theorem join_len (ts : List PySem.Str) (c : Nat) (h : ∀ t ∈ ts, t.length ≤ c) : (PySem.Str.join (PySem.Str.ofString ", ") ts).length ≤ (c + 2) * ts.length := by
  have e2 : (PySem.Str.ofString ", ").length = 2 := by decide
  have ap : ∀ a b : PySem.Str, (a ++ b).length = a.length + b.length := fun a b => Array.size_append
  induction ts with
  | nil => show (PySem.Str.empty).length ≤ _; simp [PySem.Str.empty, PySem.Str.length]
  | cons t ts ih =>
    have h1 := h t List.mem_cons_self
    have ih := ih fun x hx => h x (List.mem_cons_of_mem _ hx)
    cases ts with
    | nil => show t.length ≤ _; simp; omega
    | cons u r =>
      show (t ++ PySem.Str.ofString ", " ++ PySem.Str.join (PySem.Str.ofString ", ") (u :: r)).length ≤ _
      rw [ap, ap, e2]
      rw [List.length_cons (a := t), Nat.mul_add]
      omega
theorem list_len (ds : List PySem.PyData) (c : Nat) (h : ∀ d ∈ ds, d.shown.length ≤ c) : (PySem.PyData.list ds).shown.length ≤ (c + 2) * ds.length + 2 := by
  have ap : ∀ a b : PySem.Str, (a ++ b).length = a.length + b.length := fun a b => Array.size_append
  rw [PySem.PyData.shown_list, ap, ap]
  have hall : ∀ ds : List PySem.PyData, (∀ d ∈ ds, d.shown.length ≤ c) → ∀ t ∈ PySem.PyData.shownAll ds, t.length ≤ c := by
    intro ds
    induction ds with
    | nil => intro _ t ht; cases ht
    | cons d ds ih =>
      intro h t ht
      rcases List.mem_cons.mp ht with rfl | ht
      · exact h d List.mem_cons_self
      · exact ih (fun x hx => h x (List.mem_cons_of_mem _ hx)) t ht
  have := join_len (PySem.PyData.shownAll ds) c (hall ds h)
  rw [PySem.PyData.shownAll_length] at this
  have e1 : (PySem.Str.ofString "[").length = 1 := by decide
  have e2 : (PySem.Str.ofString "]").length = 1 := by decide
  show (PySem.Str.ofString "[").length + _ + (PySem.Str.ofString "]").length ≤ _
  omega
def SD (c : Nat) (d : D) : Prop := (toPy d).showable = true ∧ (toPy d).shown.length ≤ c
theorem SD.mono {c e : Nat} {d : D} (h : SD c d) (l : c ≤ e) : SD e d := ⟨h.1, Nat.le_trans h.2 l⟩
theorem SD_bl (b : Bool) : SD 6 (.bl b) := ⟨by cases b <;> rfl, by cases b <;> decide⟩
theorem SD_non : SD 6 .non := ⟨rfl, by decide⟩
theorem toPys_map (ds : List D) : toPys ds = ds.map toPy := by
  induction ds with
  | nil => rfl
  | cons d ds ih => rw [toPys, ih]; rfl
theorem SD_lst {c k : Nat} {ds : List D} (h : ∀ d ∈ ds, SD c d) (hk : ds.length ≤ k) : SD ((c + 2) * k + 2) (.lst ds) := by
  refine ⟨?_, ?_⟩
  · show PySem.PyData.showableAll (toPys ds) = true
    rw [toPys_map]
    exact PySem.Spec.showableAll_of fun x hx => by obtain ⟨d, hd, rfl⟩ := List.mem_map.mp hx; exact (h d hd).1
  · show (PySem.PyData.list (toPys ds)).shown.length ≤ _
    rw [toPys_map]
    have := list_len (ds.map toPy) c fun x hx => by obtain ⟨d, hd, rfl⟩ := List.mem_map.mp hx; exact (h d hd).2
    rw [List.length_map] at this
    exact Nat.le_trans this (Nat.add_le_add_right (Nat.mul_le_mul_left _ hk) 2)
theorem ok_repr {g : G} {w : W} {d : D} {c : Nat} {Q : W → G → Prop} (h : rdD 60 g w = some d) (s : SD c d) (hc : c ≤ 100000) : Ok (bRepr [w] g) Q ↔ Q (.str (toPy d).shown) g := by
  unfold bRepr
  dsimp only
  rw [h]
  dsimp only
  rw [s.1, decide_eq_true (Nat.le_trans s.2 (Nat.le_trans hc (by decide)))]
  exact ok_ok
theorem rd_lst {n z : Nat} {g : G} {ws : List W} {ds : List D} (h : g[z]? = some (.lst ws)) (hd : rdDs n g ws = some ds) : rdD (n + 1) g (.ref z) = some (.lst ds) := by
  rw [rdD, h]
  dsimp only
  rw [hd]
theorem ok_neS {g : G} {a b : PySem.Str} {Q : W → G → Prop} : Ok (opNe (.str a) (.str b) g) Q ↔ Q (.bl (!decide (a = b))) g := by
  unfold opNe
  exact ok_ok
theorem ok_eqS {g : G} {a b : PySem.Str} {Q : W → G → Prop} : Ok (opEq (.str a) (.str b) g) Q ↔ Q (.bl (decide (a = b))) g := by
  unfold opEq
  exact ok_ok
theorem ok_callP {f : Fn} {n : Nat} {pm : List Nat} {as : MA} {ρ : Env} {g : G} {Q : W → G → Prop} : Ok (mCallP f n pm as ρ g) Q ↔ Ok (as ρ g) fun xs g1 => xs.length = n ∧ Ok (f (pick pm xs) g1) Q := by
  unfold mCallP
  simp only [ok_bind, ok_iteB]
theorem pick2 {α : Type} (a b : α) : pick [0, 1] [a, b] = [a, b] := rfl
theorem pick3 {α : Type} (a b c : α) : pick [0, 1, 2] [a, b, c] = [a, b, c] := rfl
theorem ok_D0 {ρ : Env} {g : G} {Q : W → G → Prop} : Ok (mD0 ρ g) Q ↔ Q (.ref g.length) (g ++ [.dct []]) := ok_ok
theorem ok_D1 {x : M.Str} {i : Int} {ρ : Env} {g : G} {Q : W → G → Prop} : Ok (mD1 x i ρ g) Q ↔ Q (.ref g.length) (g ++ [.dct [(.inr x, .int i)]]) := ok_ok
theorem rd_bl (n : Nat) (g : G) (b : Bool) : rdD n g (.bl b) = some (.bl b) := by cases n <;> rw [rdD]
theorem ok_reprB {g : G} {b : Bool} {Q : W → G → Prop} : Ok (bRepr [.bl b] g) Q ↔ Q (.str (toPy (.bl b)).shown) g := ok_repr (rd_bl 60 g b) (SD_bl b) (by omega)
def rg (a b : Int) : List Int := (List.range (b - a).toNat).map fun i : Nat => a + i
theorem rgW_eq (a b : Int) : rgW a b = (rg a b).map .int := by
  unfold rgW rg
  rw [List.map_map]
  rfl
theorem ok_lrg1c {n : Int} {ρ : Env} {g : G} {Q : W → G → Prop} (h : inR2 0 n = true) : Ok (mLrg1 (mC (.int n)) ρ g) Q ↔ Q (.ref g.length) (g ++ [.lst ((rg 0 n).map .int)]) := by
  unfold mLrg1
  rw [ok_bind, ok_C]
  dsimp only
  rw [if_pos h, ok_ok, rgW_eq]
theorem ok_lrg2c {n k : Int} {ρ : Env} {g : G} {Q : W → G → Prop} (h : inR2 n k = true) : Ok (mLrg2 (mC (.int n)) (mC (.int k)) ρ g) Q ↔ Q (.ref g.length) (g ++ [.lst ((rg n k).map .int)]) := by
  unfold mLrg2
  rw [ok_bind, ok_C, ok_bind, ok_C]
  dsimp only
  rw [if_pos h, ok_ok, rgW_eq]
theorem rg_len (a b : Int) : (rg a b).length = (b - a).toNat := by simp [rg]
theorem rg_mem {a b x : Int} (h : x ∈ rg a b) : a ≤ x ∧ x < b := by
  unfold rg at h
  obtain ⟨i, hi, rfl⟩ := List.mem_map.mp h
  have := List.mem_range.mp hi
  omega
theorem W_at {g : G} {a i : Nat} {ws : List W} {w : W} (h : g[a]? = some (.lst ws)) (hi : ws[i]? = some w) : itAt (.lst a) i g = .go w g := by
  unfold itAt
  dsimp only
  rw [lstAt_of h]
  dsimp only
  rw [hi]
theorem W_stop {g : G} {a i : Nat} {ws : List W} (h : g[a]? = some (.lst ws)) (hi : ws.length ≤ i) : itAt (.lst a) i g = .stop := by
  unfold itAt
  dsimp only
  rw [lstAt_of h]
  dsimp only
  rw [List.getElem?_eq_none hi]
theorem W_len {g : G} {a : Nat} {ws : List W} (h : g[a]? = some (.lst ws)) : itLen (.lst a) g = ws.length := by
  unfold itLen
  dsimp only
  rw [lstAt_of h]
  rfl
theorem small_int2 : ∀ n : Fin 201, (PySem.PyData.int (((n.val : Nat) : Int) - 100)).shown.length ≤ 8 ∧ (((n.val : Nat) : Int) - 100).natAbs.log2 < 1920 := by decide +kernel
theorem SD_int2 {i : Int} (h0 : -100 ≤ i) (h1 : i ≤ 100) : SD 8 (.int i) := by
  have := small_int2 ⟨(i + 100).toNat, by omega⟩
  have e : (((i + 100).toNat : Nat) : Int) - 100 = i := by omega
  simp only [e] at this
  exact ⟨by simp [toPy, PySem.PyData.showable]; exact this.2, this.1⟩
theorem SD_ints2 {ns : List Int} (h : ∀ x ∈ ns, -100 ≤ x ∧ x ≤ 100) (hl : ns.length ≤ 100) : SD 2000 (.lst (ns.map .int)) :=
  (SD_lst (c := 8) (k := 100) (fun d hd => by obtain ⟨x, hx, rfl⟩ := List.mem_map.mp hd; exact SD_int2 (h x hx).1 (h x hx).2) (by simpa using hl)).mono (by decide)
/-- the text of a list of ints -/
def shL (ns : List Int) : PySem.Str := (toPy (.lst (ns.map .int))).shown
theorem ok_reprL {g : G} {a : Nat} {ns : List Int} {Q : W → G → Prop} (h : IL g a ns) (hs : ∀ x ∈ ns, -100 ≤ x ∧ x ≤ 100) (hl : ns.length ≤ 100) : Ok (bRepr [.ref a] g) Q ↔ Q (.str (shL ns)) g := ok_repr (rdD_IL h) (SD_ints2 hs hl) (by omega)
/-- how many can do each job -/
def able (ns : List Int) : List Int := (List.range (maxL ns).toNat).map fun t : Nat => (more t ns : Int)
theorem s_able {g : G} {a : Nat} {ns : List Int} (h : IL g a ns) (t : Team ns) : Ok (m_able_counts [.ref a] g) fun w g' => Ext g g' ∧ ∃ b, w = .ref b ∧ g.length ≤ b ∧ g'[b]? = some (.lst ((able ns).map .int)) := by
  have hm := t.lt _ (maxL_in ns t.ne)
  unfold m_able_counts b_able_counts
  simp only [ok_def, okS_seq, okS_ret, okS_asg, okS_if, okS_E, okS_par, okS_aug, okS_nop, nxt_nx, nxt_rt, okS_brk, okS_cnt, ok_var, ok_C, ok_op2, ok_op1, ok_call, ok_acons, ok_anil, ok_lst, ok_tup, ok_tVal, ok_mAnd, ok_mOr, ok_mNot, ok_if, ok_tNot, ok_tAnd, ok_tOr, ok_tYes, ok_chain, ok_star, ok_gName, ok_oNone, ok_oSome, ok_sl, ok_rev, ok_mt, ok_ok, ok_lc, okS_for, putL, wipe, startM, List.map_cons, List.map_nil, List.length_cons, List.length_nil, List.replicate, List.cons_append, List.nil_append, Nat.reduceAdd, Nat.reduceSub, List.getElem?_cons_zero, List.getElem?_cons_succ, List.set_cons_succ, List.set_cons_zero, Option.some.injEq, W.bl.injEq, W.int.injEq, W.ref.injEq, exists_eq_left', exists_eq_left, decide_eq_true_eq, true_and, and_true, ok_add, ok_sub, ok_lt, ok_le, ok_gt, ok_ge, ok_neg, ok_mul, ok_div, ok_mod, ok_pow, ok_max2, ok_min2, ok_abs, ok_int, ok_iLst, ok_iTup, ok_iEnum, ok_iZip, ok_iRng1, exists_list1, List.cons.injEq, exists_and_left, exists_const, exists_eq, if_true, if_false, Bool.not_true, Bool.not_false, Bool.false_eq_true, decide_true, decide_false]
  refine (s_need_team h t).mono fun w g1 x1 => ?_
  rw [ok_maxL (h.ext x1) t.ne]
  refine ⟨_, rfl, inR_le (by omega) (by omega), ?_⟩
  refine lc_ints (maxL ns).toNat (fun k => .int (more k ns)) (Nat.le_trans (show _ ≤ 60 by omega) (by decide)) rfl (fun k g' hk hx => ?_) (fun g' hx => rng_stop (Nat.le_refl _)) fun g2 hx hg => ?_
  · refine ⟨_, _, rng_at hk, ?_⟩
    have e0 : (0 : Int) + k = k := by omega
    simp only [ok_def, okS_seq, okS_ret, okS_asg, okS_if, okS_E, okS_par, okS_aug, okS_nop, nxt_nx, nxt_rt, okS_brk, okS_cnt, ok_var, ok_C, ok_op2, ok_op1, ok_call, ok_acons, ok_anil, ok_lst, ok_tup, ok_tVal, ok_mAnd, ok_mOr, ok_mNot, ok_if, ok_tNot, ok_tAnd, ok_tOr, ok_tYes, ok_chain, ok_star, ok_gName, ok_oNone, ok_oSome, ok_sl, ok_rev, ok_mt, ok_ok, ok_lc, okS_for, putL, wipe, startM, List.map_cons, List.map_nil, List.length_cons, List.length_nil, List.replicate, List.cons_append, List.nil_append, Nat.reduceAdd, Nat.reduceSub, List.getElem?_cons_zero, List.getElem?_cons_succ, List.set_cons_succ, List.set_cons_zero, Option.some.injEq, W.bl.injEq, W.int.injEq, W.ref.injEq, exists_eq_left', exists_eq_left, decide_eq_true_eq, true_and, and_true, ok_add, ok_sub, ok_lt, ok_le, ok_gt, ok_ge, ok_neg, ok_mul, ok_div, ok_mod, ok_pow, ok_max2, ok_min2, ok_abs, ok_int, ok_iLst, ok_iTup, ok_iEnum, ok_iZip, ok_iRng1, exists_list1, List.cons.injEq, exists_and_left, exists_const, exists_eq, if_true, if_false, Bool.not_true, Bool.not_false, Bool.false_eq_true, decide_true, decide_false, e0]
    refine ⟨_, (h.ext x1).ext hx, ?_⟩
    refine lc_filter (p := fun c => decide (c > (k : Int))) ((h.ext x1).ext hx) (Nat.le_trans t.2.1 (by decide)) (fun v => rfl) (fun x g4 hx1 hx2 => ?_) fun g4 hx4 hl4 _ => ?_
    · simp only [ok_def, okS_seq, okS_ret, okS_asg, okS_if, okS_E, okS_par, okS_aug, okS_nop, nxt_nx, nxt_rt, okS_brk, okS_cnt, ok_var, ok_C, ok_op2, ok_op1, ok_call, ok_acons, ok_anil, ok_lst, ok_tup, ok_tVal, ok_mAnd, ok_mOr, ok_mNot, ok_if, ok_tNot, ok_tAnd, ok_tOr, ok_tYes, ok_chain, ok_star, ok_gName, ok_oNone, ok_oSome, ok_sl, ok_rev, ok_mt, ok_ok, ok_lc, okS_for, putL, wipe, startM, List.map_cons, List.map_nil, List.length_cons, List.length_nil, List.replicate, List.cons_append, List.nil_append, Nat.reduceAdd, Nat.reduceSub, List.getElem?_cons_zero, List.getElem?_cons_succ, List.set_cons_succ, List.set_cons_zero, Option.some.injEq, W.bl.injEq, W.int.injEq, W.ref.injEq, exists_eq_left', exists_eq_left, decide_eq_true_eq, true_and, and_true, ok_add, ok_sub, ok_lt, ok_le, ok_gt, ok_ge, ok_neg, ok_mul, ok_div, ok_mod, ok_pow, ok_max2, ok_min2, ok_abs, ok_int, ok_iLst, ok_iTup, ok_iEnum, ok_iZip, ok_iRng1, exists_list1, List.cons.injEq, exists_and_left, exists_const, exists_eq, if_true, if_false, Bool.not_true, Bool.not_false, Bool.false_eq_true, decide_true, decide_false]
      exact Ext.refl _
    · rw [ok_len hl4]
      exact ⟨hx4, rfl⟩
  · exact ⟨x1.trans hx, _, rfl, x1.len, by rw [hg, able, List.map_map]; rfl⟩
/-! ### the line -/
def prs (ns : List Int) : List (Int × Int) := (List.range ns.length).map fun i : Nat => (ns.getD i 0, (i : Int))
def lineL (ns : List Int) : List Int := ((prs ns).mergeSort leP).map (·.2)
theorem leP_trans (a b c : Int × Int) : leP a b = true → leP b c = true → leP a c = true := by
  unfold leP
  simp
  omega
theorem leP_total (a b : Int × Int) : (leP a b || leP b a) = true := by
  unfold leP
  simp
  omega
theorem prs_mem {ns : List Int} {p : Int × Int} (h : p ∈ prs ns) : 0 ≤ p.2 ∧ p.2 < ns.length ∧ p.1 = ns.getD p.2.toNat 0 := by
  unfold prs at h
  obtain ⟨i, hi, rfl⟩ := List.mem_map.mp h
  have := List.mem_range.mp hi
  exact ⟨by simp, by simpa using this, by simp⟩
theorem prs_nodup (ns : List Int) : (prs ns).Nodup := by
  unfold prs
  rw [List.nodup_iff_pairwise_ne, List.pairwise_map]
  exact List.nodup_range.imp fun h e => h (by have := congrArg Prod.snd e; simp at this; omega)
theorem lineL_len (ns : List Int) : (lineL ns).length = ns.length := by
  unfold lineL
  rw [List.length_map, (List.mergeSort_perm _ _).length_eq]
  simp [prs]
theorem lineL_mem {ns : List Int} {x : Int} (h : x ∈ lineL ns) : 0 ≤ x ∧ x < ns.length := by
  unfold lineL at h
  obtain ⟨p, hp, rfl⟩ := List.mem_map.mp h
  have := prs_mem ((List.mergeSort_perm _ _).mem_iff.mp hp)
  omega
theorem lineL_sorted (ns : List Int) : (lineL ns).map (fun x => ns.getD x.toNat 0) = isort ns := by
  have hp := List.mergeSort_perm (prs ns) leP
  have e1 : (lineL ns).map (fun x => ns.getD x.toNat 0) = ((prs ns).mergeSort leP).map (·.1) := by
    unfold lineL
    rw [List.map_map]
    refine List.map_congr_left fun p h => ?_
    exact (prs_mem (hp.mem_iff.mp h)).2.2.symm
  rw [e1]
  refine List.Perm.eq_of_pairwise (le := (· ≤ ·)) (fun a b _ _ h1 h2 => Int.le_antisymm h1 h2) ?_ (isort_up _) ?_
  · rw [List.pairwise_map]
    refine (List.pairwise_mergeSort leP_trans leP_total (prs ns)).imp fun {a b} h => ?_
    unfold leP at h
    simp at h
    omega
  · refine (hp.map _).trans ?_
    have : (prs ns).map (·.1) = ns := by unfold prs; rw [List.map_map]; exact range_getD ns
    rw [this]
    exact (isort_perm ns).symm
theorem ok_sortedP {g : G} {a : Nat} {ws : List W} {ps : List (Int × Int)} {Q : W → G → Prop} (h : g[a]? = some (.lst ws)) (h1 : intsL ws = none) (h2 : pairsL g ws = some ps) (h3 : ps.Nodup) : Ok (bSorted [.ref a] g) Q ↔ Q (.ref g.length) (g ++ [.lst ((psort (ps.zip ws)).map (·.2))]) := by
  unfold bSorted
  dsimp only
  rw [lstAt_of h]
  dsimp only
  rw [h1]
  dsimp only
  rw [h2]
  dsimp only
  rw [if_pos h3]
  exact ok_ok
theorem pairsL_of {g : G} : ∀ {as : List Nat} {ps : List (Int × Int)}, as.length = ps.length → (∀ j (h : j < as.length) (h' : j < ps.length), g[as[j]]? = some (.tup [.int ps[j].1, .int ps[j].2])) → pairsL g (as.map .ref) = some ps := by
  intro as
  induction as with
  | nil => intro ps hl _; cases ps with
    | nil => rfl
    | cons => cases hl
  | cons a as ih =>
    intro ps hl h
    cases ps with
    | nil => cases hl
    | cons p ps =>
      have h0 := h 0 (by simp) (by simp)
      simp only [List.getElem_cons_zero] at h0
      rw [List.map_cons, pairsL]
      have : pairAt g (.ref a) = some p := by unfold pairAt; dsimp only; rw [h0]
      rw [this]
      dsimp only
      rw [ih (by simpa using hl) fun j h1 h2 => by have := h (j + 1) (by simpa using h1) (by simpa using h2); simpa using this]
end M
/-! K01b: the line. -/
namespace M
theorem s_line_of {g : G} {a : Nat} {ns : List Int} (h : IL g a ns) (hn : ns.length ≤ 20) (h1n : 1 ≤ ns.length) : Ok (m_line_of [.ref a] g) fun w g' => Ext g g' ∧ ∃ b, w = .ref b ∧ g.length ≤ b ∧ g'[b]? = some (.lst ((lineL ns).map .int)) := by
  unfold m_line_of b_line_of
  simp only [ok_def, okS_seq, okS_ret, okS_asg, okS_if, okS_E, okS_par, okS_aug, okS_nop, nxt_nx, nxt_rt, okS_brk, okS_cnt, ok_var, ok_C, ok_op2, ok_op1, ok_call, ok_acons, ok_anil, ok_lst, ok_tup, ok_tVal, ok_mAnd, ok_mOr, ok_mNot, ok_if, ok_tNot, ok_tAnd, ok_tOr, ok_tYes, ok_chain, ok_star, ok_gName, ok_oNone, ok_oSome, ok_sl, ok_rev, ok_mt, ok_ok, ok_lc, okS_for, putL, wipe, startM, List.map_cons, List.map_nil, List.length_cons, List.length_nil, List.replicate, List.cons_append, List.nil_append, Nat.reduceAdd, Nat.reduceSub, List.getElem?_cons_zero, List.getElem?_cons_succ, List.set_cons_succ, List.set_cons_zero, Option.some.injEq, W.bl.injEq, W.int.injEq, W.ref.injEq, exists_eq_left', exists_eq_left, decide_eq_true_eq, true_and, and_true, ok_add, ok_sub, ok_lt, ok_le, ok_gt, ok_ge, ok_neg, ok_mul, ok_div, ok_mod, ok_pow, ok_max2, ok_min2, ok_abs, ok_int, ok_iLst, ok_iTup, ok_iEnum, ok_iZip, ok_iRng1, exists_list1, List.cons.injEq, exists_and_left, exists_const, exists_eq, if_true, if_false, Bool.not_true, Bool.not_false, Bool.false_eq_true, decide_true, decide_false]
  refine ⟨_, h, ?_⟩
  rw [h.itl_enum]
  refine lc_inv ns.length (fun i acc k => ∃ as : List Nat, Ext g k ∧ g.length < k.length ∧ acc = as.map .ref ∧ as.length = i ∧ ∀ j (hj : j < as.length), k[as[j]]? = some (.tup [.int (ns.getD j 0), .int (j : Int)]) ∧ g.length < as[j]) (Nat.le_trans hn (by decide)) (fun i acc k hi hd hp hal => ?_) (fun acc k hd hp => ?_) _ 0 [] _ (Nat.zero_add _) (get_new _ _) ⟨[], Ext.snoc _ _, by simp, rfl, rfl, fun j hj => nomatch hj⟩ (Nat.le_refl _)
  · obtain ⟨as, hx, hgk, rfl, hl, hall⟩ := hp
    refine ⟨_, _, (h.ext hx).at_enum hi, ?_⟩
    rw [ok_gTup2 (tup_new _ _)]
    simp only [ok_def, okS_seq, okS_ret, okS_asg, okS_if, okS_E, okS_par, okS_aug, okS_nop, nxt_nx, nxt_rt, okS_brk, okS_cnt, ok_var, ok_C, ok_op2, ok_op1, ok_call, ok_acons, ok_anil, ok_lst, ok_tup, ok_tVal, ok_mAnd, ok_mOr, ok_mNot, ok_if, ok_tNot, ok_tAnd, ok_tOr, ok_tYes, ok_chain, ok_star, ok_gName, ok_oNone, ok_oSome, ok_sl, ok_rev, ok_mt, ok_ok, ok_lc, okS_for, putL, wipe, startM, List.map_cons, List.map_nil, List.length_cons, List.length_nil, List.replicate, List.cons_append, List.nil_append, Nat.reduceAdd, Nat.reduceSub, List.getElem?_cons_zero, List.getElem?_cons_succ, List.set_cons_succ, List.set_cons_zero, Option.some.injEq, W.bl.injEq, W.int.injEq, W.ref.injEq, exists_eq_left', exists_eq_left, decide_eq_true_eq, true_and, and_true, ok_add, ok_sub, ok_lt, ok_le, ok_gt, ok_ge, ok_neg, ok_mul, ok_div, ok_mod, ok_pow, ok_max2, ok_min2, ok_abs, ok_int, ok_iLst, ok_iTup, ok_iEnum, ok_iZip, ok_iRng1, exists_list1, List.cons.injEq, exists_and_left, exists_const, exists_eq, if_true, if_false, Bool.not_true, Bool.not_false, Bool.false_eq_true, decide_true, decide_false]
    have x1 := Ext.snoc k (O.tup [W.int i, W.int (ns.getD i 0)])
    have x2 := Ext.snoc (k ++ [O.tup [W.int i, W.int (ns.getD i 0)]]) (O.tup [W.int (ns.getD i 0), W.int i])
    have hN := get_new (k ++ [O.tup [W.int i, W.int (ns.getD i 0)]]) (O.tup [W.int (ns.getD i 0), W.int i])
    have hl1 : (k ++ [O.tup [W.int i, W.int (ns.getD i 0)]]).length = k.length + 1 := by simp
    generalize k ++ [O.tup [W.int i, W.int (ns.getD i 0)]] = k1 at *
    have hl2 : (k1 ++ [O.tup [W.int (ns.getD i 0), W.int i]]).length = k1.length + 1 := by simp
    generalize k1 ++ [O.tup [W.int (ns.getD i 0), W.int i]] = k2 at *
    refine ⟨by decide, (x1.trans x2).get hd, ?_, ?_, as ++ [k1.length], by simp, by simp [hl], fun j hj => ?_⟩
    · exact ((hx.trans x1).trans x2).set (Nat.le_refl _) _
    · simp; omega
    · rw [List.length_append, List.length_singleton] at hj
      by_cases hj2 : j < as.length
      · rw [List.getElem_append_left hj2]
        have := hall j hj2
        refine ⟨?_, this.2⟩
        rw [List.getElem?_set_ne (by omega)]
        exact (x1.trans x2).get this.1
      · have : j = as.length := by omega
        subst this
        rw [List.getElem_append_right (Nat.le_refl _)]
        simp only [Nat.sub_self, List.getElem_cons_zero]
        refine ⟨?_, by omega⟩
        rw [List.getElem?_set_ne (by omega), hl]
        exact hN
  · obtain ⟨as, hx, hgk, rfl, hl, hall⟩ := hp
    refine ⟨(h.ext hx).stop_enum, ?_⟩
    have hpl : (prs ns).length = ns.length := by simp [prs]
    have hget : ∀ j (hj : j < as.length) (hj' : j < (prs ns).length), k[as[j]]? = some (.tup [.int (prs ns)[j].1, .int (prs ns)[j].2]) := by
      intro j hj hj'
      rw [(hall j hj).1]
      simp [prs]
    have hint : intsL (as.map W.ref) = none := by
      cases as with
      | nil => simp at hl; omega
      | cons q r => rfl
    rw [ok_sortedP hd hint (pairsL_of (by omega) hget) (prs_nodup ns)]
    have x3 := Ext.snoc k (O.lst ((psort ((prs ns).zip (as.map W.ref))).map (·.2)))
    have hS := get_new k (O.lst ((psort ((prs ns).zip (as.map W.ref))).map (·.2)))
    have hzl : ((prs ns).zip (as.map W.ref)).length = ns.length := by simp [hpl, hl]
    have hMp := List.mergeSort_perm ((prs ns).zip (as.map W.ref)) fun a b => leP a.1 b.1
    have hM1 : ((psort ((prs ns).zip (as.map W.ref))).map (·.1)) = (prs ns).mergeSort leP := by
      unfold psort
      rw [List.map_mergeSort (s := leP) (f := fun q : (Int × Int) × W => q.1) (fun a _ b _ => rfl), List.map_fst_zip (by simp; omega)]
    have hMm : ∀ q ∈ psort ((prs ns).zip (as.map W.ref)), ∃ t, q.2 = .ref t ∧ k[t]? = some (.tup [.int q.1.1, .int q.1.2]) := by
      intro q hq
      have hq2 := hMp.mem_iff.mp hq
      obtain ⟨j, hj, e⟩ := List.mem_iff_getElem.mp hq2
      rw [hzl] at hj
      rw [List.getElem_zip] at e
      refine ⟨as[j]'(by omega), ?_, ?_⟩
      · rw [← e]; simp
      · rw [← e]; exact hget j (by omega) (by omega)
    generalize hMe : psort ((prs ns).zip (as.map W.ref)) = M at *
    have hMl : M.length = ns.length := by rw [← hMe]; unfold psort; rw [List.length_mergeSort, hzl]
    generalize k ++ [O.lst (M.map (·.2))] = k3 at *
    refine ⟨_, rfl, _, lstAt_of hS, ?_⟩
    have hil : itLen (.lst k.length) k3 = ns.length := by
      unfold itLen
      dsimp only
      rw [lstAt_of hS]
      simp [hMl]
    refine lc_ints ns.length (fun j => .int ((M.map (fun q => q.1.2)).getD j 0)) (Nat.le_trans hn (by decide)) hil (fun j k4 hj hx4 => ?_) (fun k4 hx4 => W_stop (hx4.get hS) (by simp [hMl])) fun k5 hx5 hk5 => ?_
    · have hj' : j < M.length := by omega
      obtain ⟨t, e1, e2⟩ := hMm M[j] (List.getElem_mem hj')
      refine ⟨.ref t, k4, W_at (hx4.get hS) (by rw [List.getElem?_map, List.getElem?_eq_getElem hj', ← e1]; rfl), ?_⟩
      rw [ok_gTup2 (tupAt_of ((x3.trans hx4).get e2))]
      simp only [ok_def, okS_seq, okS_ret, okS_asg, okS_if, okS_E, okS_par, okS_aug, okS_nop, nxt_nx, nxt_rt, okS_brk, okS_cnt, ok_var, ok_C, ok_op2, ok_op1, ok_call, ok_acons, ok_anil, ok_lst, ok_tup, ok_tVal, ok_mAnd, ok_mOr, ok_mNot, ok_if, ok_tNot, ok_tAnd, ok_tOr, ok_tYes, ok_chain, ok_star, ok_gName, ok_oNone, ok_oSome, ok_sl, ok_rev, ok_mt, ok_ok, ok_lc, okS_for, putL, wipe, startM, List.map_cons, List.map_nil, List.length_cons, List.length_nil, List.replicate, List.cons_append, List.nil_append, Nat.reduceAdd, Nat.reduceSub, List.getElem?_cons_zero, List.getElem?_cons_succ, List.set_cons_succ, List.set_cons_zero, Option.some.injEq, W.bl.injEq, W.int.injEq, W.ref.injEq, exists_eq_left', exists_eq_left, decide_eq_true_eq, true_and, and_true, ok_add, ok_sub, ok_lt, ok_le, ok_gt, ok_ge, ok_neg, ok_mul, ok_div, ok_mod, ok_pow, ok_max2, ok_min2, ok_abs, ok_int, ok_iLst, ok_iTup, ok_iEnum, ok_iZip, ok_iRng1, exists_list1, List.cons.injEq, exists_and_left, exists_const, exists_eq, if_true, if_false, Bool.not_true, Bool.not_false, Bool.false_eq_true, decide_true, decide_false]
      refine ⟨Ext.refl _, ?_⟩
      rw [List.getD_eq_getElem?_getD, List.getElem?_map, List.getElem?_eq_getElem hj']
      rfl
    · have hX := (hx.trans x3).trans hx5
      refine ⟨hX, _, rfl, (hx.trans x3).len, ?_⟩
      rw [hk5]
      have e3 : M.map (fun q => q.1.2) = lineL ns := by
        unfold lineL
        rw [← hM1, List.map_map]
        rfl
      rw [e3]
      have := map_getD .int (lineL ns)
      rw [lineL_len] at this
      rw [this]
theorem s_law_line {g : G} {a : Nat} {ns : List Int} (h : IL g a ns) (hn : ns.length ≤ 20) (h1n : 1 ≤ ns.length) : Ok (m__law_line [.ref a] g) fun w g' => Ext g g' ∧ ∃ b, w = .ref b ∧ g.length ≤ b ∧ g'[b]? = some (.lst ((lineL ns).map .int)) := s_line_of h hn h1n
theorem s_line {g : G} {a : Nat} {ns : List Int} (h : IL g a ns) (t : Team ns) : Ok (m_line [.ref a] g) fun w g' => Ext g g' ∧ ∃ b, w = .ref b ∧ g.length ≤ b ∧ g'[b]? = some (.lst ((lineL ns).map .int)) := by
  unfold m_line b_line
  simp only [ok_def, okS_seq, okS_ret, okS_asg, okS_if, okS_E, okS_par, okS_aug, okS_nop, nxt_nx, nxt_rt, okS_brk, okS_cnt, ok_var, ok_C, ok_op2, ok_op1, ok_call, ok_acons, ok_anil, ok_lst, ok_tup, ok_tVal, ok_mAnd, ok_mOr, ok_mNot, ok_if, ok_tNot, ok_tAnd, ok_tOr, ok_tYes, ok_chain, ok_star, ok_gName, ok_oNone, ok_oSome, ok_sl, ok_rev, ok_mt, ok_ok, ok_lc, okS_for, putL, wipe, startM, List.map_cons, List.map_nil, List.length_cons, List.length_nil, List.replicate, List.cons_append, List.nil_append, Nat.reduceAdd, Nat.reduceSub, List.getElem?_cons_zero, List.getElem?_cons_succ, List.set_cons_succ, List.set_cons_zero, Option.some.injEq, W.bl.injEq, W.int.injEq, W.ref.injEq, exists_eq_left', exists_eq_left, decide_eq_true_eq, true_and, and_true, ok_add, ok_sub, ok_lt, ok_le, ok_gt, ok_ge, ok_neg, ok_mul, ok_div, ok_mod, ok_pow, ok_max2, ok_min2, ok_abs, ok_int, ok_iLst, ok_iTup, ok_iEnum, ok_iZip, ok_iRng1, exists_list1, List.cons.injEq, exists_and_left, exists_const, exists_eq, if_true, if_false, Bool.not_true, Bool.not_false, Bool.false_eq_true, decide_true, decide_false]
  refine (s_need_team h t).mono fun w g1 x1 => ?_
  exact (s_line_of (h.ext x1) t.2.1 t.1).mono fun w g2 ⟨x2, b, e, hl, hb⟩ => ⟨x1.trans x2, b, e, Nat.le_trans x1.len hl, hb⟩
end M
/-! K01c: what is a team, by both. -/
namespace M
def isI : W → Bool
  | .int _ => true
  | _ => false
def okB : W → Bool
  | .int i => decide (0 ≤ i)
  | _ => false
theorem isi_ty {g : G} {x : W} {t : String} (h : tyOf g x = some t) (n : String) {Q : W → G → Prop} (hn : kinds.contains n = true) : Ok (bIsi [x, .ty n] g) Q ↔ Q (.bl (subTy t n)) g := by
  unfold bIsi
  dsimp only
  rw [h]
  dsimp only
  rw [if_pos hn]
  exact ok_ok
theorem ty_int {g : G} {x : W} {t : String} (h : tyOf g x = some t) : (subTy t "int" && !subTy t "bool") = isI x ∧ (subTy t "bool" = true → isI x = false) ∧ (subTy t "int" = false → isI x = false) := by
  cases x with
  | non => cases h; exact ⟨by show _ = false; decide, fun _ => rfl, fun _ => rfl⟩
  | bl b => cases h; exact ⟨by show _ = false; decide, fun _ => rfl, fun _ => rfl⟩
  | int i => cases h; exact ⟨by show _ = true; decide, fun h => absurd h (by decide), fun h => absurd h (by decide)⟩
  | str s => cases h; exact ⟨by show _ = false; decide, fun _ => rfl, fun _ => rfl⟩
  | ref a =>
    unfold tyOf at h
    dsimp only at h
    split at h <;> cases h <;> exact ⟨by show _ = false; decide, fun _ => rfl, fun _ => rfl⟩
  | glob y => cases h
  | ty y => cases h
theorem ok_isint {g : G} {x : W} {t : String} (h : tyOf g x = some t) {Q : W → G → Prop} : (Q (.bl (isI x)) g) → Ok (m_is_integer [x] g) Q := by
  intro hq
  unfold m_is_integer b_is_integer
  simp only [ok_def, okS_seq, okS_ret, okS_asg, okS_if, okS_E, okS_par, okS_aug, okS_nop, nxt_nx, nxt_rt, okS_brk, okS_cnt, ok_var, ok_C, ok_op2, ok_op1, ok_call, ok_acons, ok_anil, ok_lst, ok_tup, ok_tVal, ok_mAnd, ok_mOr, ok_mNot, ok_if, ok_tNot, ok_tAnd, ok_tOr, ok_tYes, ok_chain, ok_star, ok_gName, ok_oNone, ok_oSome, ok_sl, ok_rev, ok_mt, ok_ok, ok_lc, okS_for, putL, wipe, startM, List.map_cons, List.map_nil, List.length_cons, List.length_nil, List.replicate, List.cons_append, List.nil_append, Nat.reduceAdd, Nat.reduceSub, List.getElem?_cons_zero, List.getElem?_cons_succ, List.set_cons_succ, List.set_cons_zero, Option.some.injEq, W.bl.injEq, W.int.injEq, W.ref.injEq, exists_eq_left', exists_eq_left, decide_eq_true_eq, true_and, and_true, ok_add, ok_sub, ok_lt, ok_le, ok_gt, ok_ge, ok_neg, ok_mul, ok_div, ok_mod, ok_pow, ok_max2, ok_min2, ok_abs, ok_int, ok_iLst, ok_iTup, ok_iEnum, ok_iZip, ok_iRng1, exists_list1, List.cons.injEq, exists_and_left, exists_const, exists_eq, if_true, if_false, Bool.not_true, Bool.not_false, Bool.false_eq_true, decide_true, decide_false, isi_ty h "int" (by decide), isi_ty h "bool" (by decide)]
  have := (ty_int h).1
  rw [← this] at hq
  revert hq
  cases subTy t "int" <;> cases subTy t "bool" <;> exact fun hq => hq
theorem okB_int {ws : List W} (h : ∀ x ∈ ws, okB x = true) : ∃ ns : List Int, ws = ns.map .int ∧ ∀ x ∈ ns, 0 ≤ x := by
  induction ws with
  | nil => exact ⟨[], rfl, fun x hx => nomatch hx⟩
  | cons w ws ih =>
    obtain ⟨ns, rfl, h2⟩ := ih fun x hx => h x (List.mem_cons_of_mem _ hx)
    have hw := h w List.mem_cons_self
    cases w with
    | int i => exact ⟨i :: ns, rfl, fun x hx => by
        rcases List.mem_cons.mp hx with rfl | hx
        · simpa [okB] using hw
        · exact h2 x hx⟩
    | _ => cases hw
theorem ok_allB {g : G} {a : Nat} {bs : List Bool} {Q : W → G → Prop} (h : g[a]? = some (.lst (bs.map .bl))) : Ok (bAll [.ref a] g) Q ↔ Q (.bl (bs.all id)) g := by
  unfold bAll
  dsimp only
  rw [lstAt_of h]
  dsimp only
  rw [bools_map]
  exact ok_ok
theorem ok_isi_list {g : G} {a : Nat} {ws : List W} {Q : W → G → Prop} (h : lstAt g a = some ws) : Ok (bIsi [.ref a, .ty "list"] g) Q ↔ Q (.bl true) g := by
  have : tyOf g (.ref a) = some "list" := by
    unfold lstAt at h
    unfold tyOf
    split at h
    · rename_i q; dsimp only; rw [q]
    · rename_i q; dsimp only; rw [q]
    · cases h
  exact isi_ty this "list" (by decide)
theorem ok_lenW {g : G} {a : Nat} {ws : List W} {Q : W → G → Prop} (h : lstAt g a = some ws) : Ok (bLen [.ref a] g) Q ↔ Q (.int ws.length) g := by
  unfold bLen
  dsimp only
  rw [seq_of_lst h]
  exact ok_ok
theorem itW {g : G} {a i : Nat} {ws : List W} {w : W} (h : lstAt g a = some ws) (hi : ws[i]? = some w) : itAt (.lst a) i g = .go w g := by
  unfold itAt
  dsimp only
  rw [h]
  dsimp only
  rw [hi]
theorem itW_stop {g : G} {a i : Nat} {ws : List W} (h : lstAt g a = some ws) (hi : ws.length ≤ i) : itAt (.lst a) i g = .stop := by
  unfold itAt
  dsimp only
  rw [h]
  dsimp only
  rw [List.getElem?_eq_none hi]
theorem itW_len {g : G} {a : Nat} {ws : List W} (h : lstAt g a = some ws) : itLen (.lst a) g = ws.length := by
  unfold itLen
  dsimp only
  rw [h]
  rfl
/-- things that have types, lists with all their items -/
def JD (g : G) (w : W) : Prop := ∃ t, tyOf g w = some t ∧ ∀ a, w = .ref a → t = "list" → ∃ ws, lstAt g a = some ws ∧ ws.length ≤ SZ ∧ ∀ x ∈ ws, ∃ s, tyOf g x = some s
theorem ty_ext {g g' : G} (h : Ext g g') {w : W} {t : String} (e : tyOf g w = some t) : tyOf g' w = some t := by
  cases w with
  | ref a =>
    unfold tyOf at e ⊢
    dsimp only at e ⊢
    cases q : g[a]? with
    | none => rw [q] at e; cases e
    | some o => rw [h.get q]; rw [q] at e; exact e
  | _ => exact e
theorem JD.ext {g g' : G} {w : W} (h : JD g w) (e : Ext g g') : JD g' w := by
  obtain ⟨t, h1, h2⟩ := h
  refine ⟨t, ty_ext e h1, fun a ha ht => ?_⟩
  obtain ⟨ws, h3, h4, h5⟩ := h2 a ha ht
  exact ⟨ws, e.lst h3, h4, fun x hx => by obtain ⟨s, hs⟩ := h5 x hx; exact ⟨s, ty_ext e hs⟩⟩
def goodL (ws : List W) : Bool := decide (1 ≤ ws.length) && decide (ws.length ≤ 20) && ws.all okB && (match intsL ws with
  | some ns => decide (maxL (spare (isort ns)) ≤ 40)
  | none => false)
theorem isT_list {g : G} {a : Nat} {ws : List W} (h : lstAt g a = some ws) (hs : ws.length ≤ SZ) (ht : ∀ x ∈ ws, ∃ s, tyOf g x = some s) : Ok (m_is_team [.ref a] g) fun w g' => Ext g g' ∧ w = .bl (goodL ws) := by
  unfold m_is_team b_is_team
  simp only [ok_def, okS_seq, okS_ret, okS_asg, okS_if, okS_E, okS_par, okS_aug, okS_nop, nxt_nx, nxt_rt, okS_brk, okS_cnt, ok_var, ok_C, ok_op2, ok_op1, ok_call, ok_acons, ok_anil, ok_lst, ok_tup, ok_tVal, ok_mAnd, ok_mOr, ok_mNot, ok_if, ok_tNot, ok_tAnd, ok_tOr, ok_tYes, ok_chain, ok_star, ok_gName, ok_oNone, ok_oSome, ok_sl, ok_rev, ok_mt, ok_ok, ok_lc, okS_for, putL, wipe, startM, List.map_cons, List.map_nil, List.length_cons, List.length_nil, List.replicate, List.cons_append, List.nil_append, Nat.reduceAdd, Nat.reduceSub, List.getElem?_cons_zero, List.getElem?_cons_succ, List.set_cons_succ, List.set_cons_zero, Option.some.injEq, W.bl.injEq, W.int.injEq, W.ref.injEq, exists_eq_left', exists_eq_left, decide_eq_true_eq, true_and, and_true, ok_add, ok_sub, ok_lt, ok_le, ok_gt, ok_ge, ok_neg, ok_mul, ok_div, ok_mod, ok_pow, ok_max2, ok_min2, ok_abs, ok_int, ok_iLst, ok_iTup, ok_iEnum, ok_iZip, ok_iRng1, exists_list1, List.cons.injEq, exists_and_left, exists_const, exists_eq, if_true, if_false, Bool.not_true, Bool.not_false, Bool.false_eq_true, decide_true, decide_false, ok_isi_list h, ok_lenW h]
  by_cases c1 : (1 : Int) ≤ ws.length
  · by_cases c2 : (ws.length : Int) ≤ 20
    · simp only [c1, c2, ok_def, okS_seq, okS_ret, okS_asg, okS_if, okS_E, okS_par, okS_aug, okS_nop, nxt_nx, nxt_rt, okS_brk, okS_cnt, ok_var, ok_C, ok_op2, ok_op1, ok_call, ok_acons, ok_anil, ok_lst, ok_tup, ok_tVal, ok_mAnd, ok_mOr, ok_mNot, ok_if, ok_tNot, ok_tAnd, ok_tOr, ok_tYes, ok_chain, ok_star, ok_gName, ok_oNone, ok_oSome, ok_sl, ok_rev, ok_mt, ok_ok, ok_lc, okS_for, putL, wipe, startM, List.map_cons, List.map_nil, List.length_cons, List.length_nil, List.replicate, List.cons_append, List.nil_append, Nat.reduceAdd, Nat.reduceSub, List.getElem?_cons_zero, List.getElem?_cons_succ, List.set_cons_succ, List.set_cons_zero, Option.some.injEq, W.bl.injEq, W.int.injEq, W.ref.injEq, exists_eq_left', exists_eq_left, decide_eq_true_eq, true_and, and_true, ok_add, ok_sub, ok_lt, ok_le, ok_gt, ok_ge, ok_neg, ok_mul, ok_div, ok_mod, ok_pow, ok_max2, ok_min2, ok_abs, ok_int, ok_iLst, ok_iTup, ok_iEnum, ok_iZip, ok_iRng1, exists_list1, List.cons.injEq, exists_and_left, exists_const, exists_eq, if_true, if_false, Bool.not_true, Bool.not_false, Bool.false_eq_true, decide_true, decide_false]
      refine ⟨_, h, ?_⟩
      refine lc_ints ws.length (fun i => .bl (okB (ws.getD i .non))) hs (itW_len h) (fun i g' hi hx => ?_) (fun g' hx => itW_stop (hx.lst h) (Nat.le_refl _)) fun g2 hx hg => ?_
      · refine ⟨_, _, itW (hx.lst h) (List.getElem?_eq_getElem hi), ?_⟩
        obtain ⟨s, hs1⟩ := ht _ (List.getElem_mem hi)
        simp only [ok_def, okS_seq, okS_ret, okS_asg, okS_if, okS_E, okS_par, okS_aug, okS_nop, nxt_nx, nxt_rt, okS_brk, okS_cnt, ok_var, ok_C, ok_op2, ok_op1, ok_call, ok_acons, ok_anil, ok_lst, ok_tup, ok_tVal, ok_mAnd, ok_mOr, ok_mNot, ok_if, ok_tNot, ok_tAnd, ok_tOr, ok_tYes, ok_chain, ok_star, ok_gName, ok_oNone, ok_oSome, ok_sl, ok_rev, ok_mt, ok_ok, ok_lc, okS_for, putL, wipe, startM, List.map_cons, List.map_nil, List.length_cons, List.length_nil, List.replicate, List.cons_append, List.nil_append, Nat.reduceAdd, Nat.reduceSub, List.getElem?_cons_zero, List.getElem?_cons_succ, List.set_cons_succ, List.set_cons_zero, Option.some.injEq, W.bl.injEq, W.int.injEq, W.ref.injEq, exists_eq_left', exists_eq_left, decide_eq_true_eq, true_and, and_true, ok_add, ok_sub, ok_lt, ok_le, ok_gt, ok_ge, ok_neg, ok_mul, ok_div, ok_mod, ok_pow, ok_max2, ok_min2, ok_abs, ok_int, ok_iLst, ok_iTup, ok_iEnum, ok_iZip, ok_iRng1, exists_list1, List.cons.injEq, exists_and_left, exists_const, exists_eq, if_true, if_false, Bool.not_true, Bool.not_false, Bool.false_eq_true, decide_true, decide_false]
        refine ok_isint (ty_ext hx hs1) ?_
        have e1 : ws.getD i .non = ws[i] := by rw [List.getD_eq_getElem?_getD, List.getElem?_eq_getElem hi]; rfl
        rw [e1]
        generalize ws[i] = x at *
        refine ⟨_, rfl, ?_⟩
        cases x with
        | int j => rw [if_pos (show isI (W.int j) = true from rfl), ok_ge]; exact ⟨Ext.refl _, rfl⟩
        | _ => rw [if_neg (by simp [isI])]; exact ⟨Ext.refl _, rfl⟩
      · have e2 : (List.range ws.length).map (fun i => W.bl (okB (ws.getD i .non))) = (ws.map okB).map .bl := by
          refine List.ext_getElem (by simp) fun i h1 h2 => ?_
          have : i < ws.length := by simpa using h1
          simp [List.getD_eq_getElem?_getD, List.getElem?_eq_getElem this]
        rw [e2] at hg
        rw [ok_allB hg]
        refine ⟨_, rfl, ?_⟩
        have e3 : (ws.map okB).all id = ws.all okB := by rw [List.all_map]; rfl
        rw [e3]
        cases ha : ws.all okB with
        | false =>
          rw [if_pos (by decide)]
          exact ⟨hx, by unfold goodL; rw [ha]; simp⟩
        | true =>
          rw [if_neg (by decide)]
          obtain ⟨ns, rfl, hp⟩ := okB_int (List.all_eq_true.mp ha)
          have hI : IL g2 a ns := hx.lst h
          have hl : (ns.map W.int).length = ns.length := List.length_map _
          rw [ok_sorted hI]
          refine (s_spare_by (IL.new (get_new _ _)) (by rw [isort_len]; omega)).mono fun w g3 ⟨hx3, b, e, _, hb⟩ => ?_
          subst e
          have hne : spare (isort ns) ≠ [] := by intro e; have := spare_len (isort ns); rw [e, isort_len] at this; simp at this; omega
          rw [ok_maxL hb hne, ok_le]
          refine ⟨(hx.trans (Ext.snoc _ _)).trans hx3, ?_⟩
          unfold goodL
          rw [ha, ints_map, decide_eq_true (show 1 ≤ (ns.map W.int).length by omega), decide_eq_true (show (ns.map W.int).length ≤ 20 by omega)]
          simp
    · simp only [c1, c2, ok_def, okS_seq, okS_ret, okS_asg, okS_if, okS_E, okS_par, okS_aug, okS_nop, nxt_nx, nxt_rt, okS_brk, okS_cnt, ok_var, ok_C, ok_op2, ok_op1, ok_call, ok_acons, ok_anil, ok_lst, ok_tup, ok_tVal, ok_mAnd, ok_mOr, ok_mNot, ok_if, ok_tNot, ok_tAnd, ok_tOr, ok_tYes, ok_chain, ok_star, ok_gName, ok_oNone, ok_oSome, ok_sl, ok_rev, ok_mt, ok_ok, ok_lc, okS_for, putL, wipe, startM, List.map_cons, List.map_nil, List.length_cons, List.length_nil, List.replicate, List.cons_append, List.nil_append, Nat.reduceAdd, Nat.reduceSub, List.getElem?_cons_zero, List.getElem?_cons_succ, List.set_cons_succ, List.set_cons_zero, Option.some.injEq, W.bl.injEq, W.int.injEq, W.ref.injEq, exists_eq_left', exists_eq_left, decide_eq_true_eq, true_and, and_true, ok_add, ok_sub, ok_lt, ok_le, ok_gt, ok_ge, ok_neg, ok_mul, ok_div, ok_mod, ok_pow, ok_max2, ok_min2, ok_abs, ok_int, ok_iLst, ok_iTup, ok_iEnum, ok_iZip, ok_iRng1, exists_list1, List.cons.injEq, exists_and_left, exists_const, exists_eq, if_true, if_false, Bool.not_true, Bool.not_false, Bool.false_eq_true, decide_true, decide_false]
      refine ⟨Ext.refl _, ?_⟩
      unfold goodL
      rw [decide_eq_false (show ¬ ws.length ≤ 20 by omega)]
      simp
  · simp only [c1, ok_def, okS_seq, okS_ret, okS_asg, okS_if, okS_E, okS_par, okS_aug, okS_nop, nxt_nx, nxt_rt, okS_brk, okS_cnt, ok_var, ok_C, ok_op2, ok_op1, ok_call, ok_acons, ok_anil, ok_lst, ok_tup, ok_tVal, ok_mAnd, ok_mOr, ok_mNot, ok_if, ok_tNot, ok_tAnd, ok_tOr, ok_tYes, ok_chain, ok_star, ok_gName, ok_oNone, ok_oSome, ok_sl, ok_rev, ok_mt, ok_ok, ok_lc, okS_for, putL, wipe, startM, List.map_cons, List.map_nil, List.length_cons, List.length_nil, List.replicate, List.cons_append, List.nil_append, Nat.reduceAdd, Nat.reduceSub, List.getElem?_cons_zero, List.getElem?_cons_succ, List.set_cons_succ, List.set_cons_zero, Option.some.injEq, W.bl.injEq, W.int.injEq, W.ref.injEq, exists_eq_left', exists_eq_left, decide_eq_true_eq, true_and, and_true, ok_add, ok_sub, ok_lt, ok_le, ok_gt, ok_ge, ok_neg, ok_mul, ok_div, ok_mod, ok_pow, ok_max2, ok_min2, ok_abs, ok_int, ok_iLst, ok_iTup, ok_iEnum, ok_iZip, ok_iRng1, exists_list1, List.cons.injEq, exists_and_left, exists_const, exists_eq, if_true, if_false, Bool.not_true, Bool.not_false, Bool.false_eq_true, decide_true, decide_false]
    refine ⟨Ext.refl _, ?_⟩
    unfold goodL
    rw [decide_eq_false (show ¬ 1 ≤ ws.length by omega)]
    simp
theorem spare_filter {ns : List Int} (h1 : 1 ≤ ns.length) : (((List.range (isort ns).length).filter fun k : Nat => decide ((40 : Int) < (isort ns).getD k 0 - k)) = []) ↔ maxL (spare (isort ns)) ≤ 40 := by
  have hne : spare (isort ns) ≠ [] := by intro e; have := spare_len (isort ns); rw [e, isort_len] at this; simp at this; omega
  rw [List.filter_eq_nil_iff]
  constructor
  · intro h
    obtain ⟨k, hk, e⟩ := List.mem_iff_getElem.mp (maxL_in _ hne)
    rw [spare_len] at hk
    have h2 := spare_get (isort ns) k hk
    rw [List.getD_eq_getElem?_getD, List.getElem?_eq_getElem (by rw [spare_len]; exact hk), Option.getD_some, e] at h2
    have := h k (List.mem_range.mpr hk)
    simp at this
    rw [List.getD_eq_getElem?_getD] at h2
    omega
  · intro h k hk
    have hk := List.mem_range.mp hk
    have h2 := spare_get (isort ns) k hk
    have h3 := maxL_ge (spare (isort ns)) _ (getD_mem (i := k) (by rw [spare_len]; exact hk))
    simp
    rw [List.getD_eq_getElem?_getD (l := isort ns)] at h2
    omega
theorem okB_isI {x : W} (h : isI x = false) : okB x = false := by
  cases x with
  | int i => cases h
  | _ => rfl
theorem isT_law {g : G} {a : Nat} {ws : List W} (h : lstAt g a = some ws) (hs : ws.length ≤ SZ) (ht : ∀ x ∈ ws, ∃ s, tyOf g x = some s) : Ok (m__law_is [.ref a] g) fun w g' => Ext g g' ∧ w = .bl (goodL ws) := by
  unfold m__law_is b__law_is
  simp only [ok_def, okS_seq, okS_ret, okS_asg, okS_if, okS_E, okS_par, okS_aug, okS_nop, nxt_nx, nxt_rt, okS_brk, okS_cnt, ok_var, ok_C, ok_op2, ok_op1, ok_call, ok_acons, ok_anil, ok_lst, ok_tup, ok_tVal, ok_mAnd, ok_mOr, ok_mNot, ok_if, ok_tNot, ok_tAnd, ok_tOr, ok_tYes, ok_chain, ok_star, ok_gName, ok_oNone, ok_oSome, ok_sl, ok_rev, ok_mt, ok_ok, ok_lc, okS_for, putL, wipe, startM, List.map_cons, List.map_nil, List.length_cons, List.length_nil, List.replicate, List.cons_append, List.nil_append, Nat.reduceAdd, Nat.reduceSub, List.getElem?_cons_zero, List.getElem?_cons_succ, List.set_cons_succ, List.set_cons_zero, Option.some.injEq, W.bl.injEq, W.int.injEq, W.ref.injEq, exists_eq_left', exists_eq_left, decide_eq_true_eq, true_and, and_true, ok_add, ok_sub, ok_lt, ok_le, ok_gt, ok_ge, ok_neg, ok_mul, ok_div, ok_mod, ok_pow, ok_max2, ok_min2, ok_abs, ok_int, ok_iLst, ok_iTup, ok_iEnum, ok_iZip, ok_iRng1, exists_list1, List.cons.injEq, exists_and_left, exists_const, exists_eq, if_true, if_false, Bool.not_true, Bool.not_false, Bool.false_eq_true, decide_true, decide_false, ok_isi_list h, ok_lenW h]
  by_cases c1 : (1 : Int) ≤ ws.length
  · by_cases c2 : (ws.length : Int) ≤ 20
    · simp only [c1, c2, ok_def, okS_seq, okS_ret, okS_asg, okS_if, okS_E, okS_par, okS_aug, okS_nop, nxt_nx, nxt_rt, okS_brk, okS_cnt, ok_var, ok_C, ok_op2, ok_op1, ok_call, ok_acons, ok_anil, ok_lst, ok_tup, ok_tVal, ok_mAnd, ok_mOr, ok_mNot, ok_if, ok_tNot, ok_tAnd, ok_tOr, ok_tYes, ok_chain, ok_star, ok_gName, ok_oNone, ok_oSome, ok_sl, ok_rev, ok_mt, ok_ok, ok_lc, okS_for, putL, wipe, startM, List.map_cons, List.map_nil, List.length_cons, List.length_nil, List.replicate, List.cons_append, List.nil_append, Nat.reduceAdd, Nat.reduceSub, List.getElem?_cons_zero, List.getElem?_cons_succ, List.set_cons_succ, List.set_cons_zero, Option.some.injEq, W.bl.injEq, W.int.injEq, W.ref.injEq, exists_eq_left', exists_eq_left, decide_eq_true_eq, true_and, and_true, ok_add, ok_sub, ok_lt, ok_le, ok_gt, ok_ge, ok_neg, ok_mul, ok_div, ok_mod, ok_pow, ok_max2, ok_min2, ok_abs, ok_int, ok_iLst, ok_iTup, ok_iEnum, ok_iZip, ok_iRng1, exists_list1, List.cons.injEq, exists_and_left, exists_const, exists_eq, if_true, if_false, Bool.not_true, Bool.not_false, Bool.false_eq_true, decide_true, decide_false]
      refine ⟨_, h, ?_⟩
      rw [itW_len h]
      generalize hT : nxt _ _ = T
      have hbad : ∀ g', Ext g g' → ws.all okB = false → T (.rt (.bl false)) g' := by
        intro g' hx ha
        rw [← hT]
        exact ⟨hx, by unfold goodL; rw [ha]; simp⟩
      refine forGo_inv ws.length (fun i ρ k => ∃ r1 r2 : Option W, ρ = [some (.ref a), r1, r2] ∧ Ext g k ∧ ∀ j, j < i → okB (ws.getD j .non) = true) (fun i ρ k hi hp => ?_) (fun ρ k hp => ?_) _ 0 _ _ (Nat.zero_add _) ⟨_, _, rfl, Ext.refl _, fun j hj => absurd hj (Nat.not_lt_zero _)⟩
      · obtain ⟨r1, r2, rfl, hx, hall⟩ := hp
        refine ⟨_, _, itW (hx.lst h) (List.getElem?_eq_getElem hi), ?_⟩
        obtain ⟨s, hs1⟩ := ht _ (List.getElem_mem hi)
        have hm := List.getElem_mem hi
        have e1 : ws.getD i .non = ws[i] := by rw [List.getD_eq_getElem?_getD, List.getElem?_eq_getElem hi]; rfl
        have hne : okB ws[i] = false → ws.all okB = false := fun hq => by
          rw [List.all_eq_false]
          exact ⟨ws[i], hm, by rw [hq]; decide⟩
        have hnext : okB ws[i] = true → ∀ j, j < i + 1 → okB (ws.getD j .non) = true := fun hq j hj => by
          by_cases hji : j < i
          · exact hall j hji
          · have : j = i := by omega
            subst this
            rw [e1]; exact hq
        generalize ws[i] = x at *
        have hty := ty_int (ty_ext hx hs1)
        simp only [ok_def, okS_seq, okS_ret, okS_asg, okS_if, okS_E, okS_par, okS_aug, okS_nop, nxt_nx, nxt_rt, okS_brk, okS_cnt, ok_var, ok_C, ok_op2, ok_op1, ok_call, ok_acons, ok_anil, ok_lst, ok_tup, ok_tVal, ok_mAnd, ok_mOr, ok_mNot, ok_if, ok_tNot, ok_tAnd, ok_tOr, ok_tYes, ok_chain, ok_star, ok_gName, ok_oNone, ok_oSome, ok_sl, ok_rev, ok_mt, ok_ok, ok_lc, okS_for, putL, wipe, startM, List.map_cons, List.map_nil, List.length_cons, List.length_nil, List.replicate, List.cons_append, List.nil_append, Nat.reduceAdd, Nat.reduceSub, List.getElem?_cons_zero, List.getElem?_cons_succ, List.set_cons_succ, List.set_cons_zero, Option.some.injEq, W.bl.injEq, W.int.injEq, W.ref.injEq, exists_eq_left', exists_eq_left, decide_eq_true_eq, true_and, and_true, ok_add, ok_sub, ok_lt, ok_le, ok_gt, ok_ge, ok_neg, ok_mul, ok_div, ok_mod, ok_pow, ok_max2, ok_min2, ok_abs, ok_int, ok_iLst, ok_iTup, ok_iEnum, ok_iZip, ok_iRng1, exists_list1, List.cons.injEq, exists_and_left, exists_const, exists_eq, if_true, if_false, Bool.not_true, Bool.not_false, Bool.false_eq_true, decide_true, decide_false, isi_ty (ty_ext hx hs1) "bool" (by decide), isi_ty (ty_ext hx hs1) "int" (by decide)]
        cases hb : subTy s "bool" with
        | true =>
          rw [if_pos rfl]
          exact hbad k hx (hne (okB_isI (hty.2.1 hb)))
        | false =>
          rw [if_neg (by decide)]
          cases hc : subTy s "int" with
          | false =>
            rw [if_pos (by decide)]
            exact hbad k hx (hne (okB_isI (hty.2.2 hc)))
          | true =>
            rw [if_neg (by decide)]
            have hI := hty.1
            rw [hb, hc] at hI
            cases x with
            | int j =>
              rw [ok_lt]
              refine ⟨_, rfl, ?_⟩
              by_cases hj : j < 0
              · rw [if_pos (by simpa using hj)]
                exact hbad k hx (hne (by unfold okB; simpa using hj))
              · rw [if_neg (by simpa using hj)]
                exact ⟨_, _, ⟨rfl, rfl⟩, hx, hnext (by unfold okB; simp; omega)⟩
            | _ => cases hI
      · obtain ⟨r1, r2, rfl, hx, hall⟩ := hp
        refine ⟨itW_stop (hx.lst h) (Nat.le_refl _), ?_⟩
        have hA : ws.all okB = true := by
          rw [List.all_eq_true]
          intro x hm
          obtain ⟨j, hj, e⟩ := List.mem_iff_getElem.mp hm
          have := hall j hj
          rw [List.getD_eq_getElem?_getD, List.getElem?_eq_getElem hj, Option.getD_some, e] at this
          exact this
        rw [← hT]
        obtain ⟨ns, rfl, hp⟩ := okB_int (List.all_eq_true.mp hA)
        have hI : IL k a ns := hx.lst h
        have hl : (ns.map W.int).length = ns.length := List.length_map _
        simp only [ok_def, okS_seq, okS_ret, okS_asg, okS_if, okS_E, okS_par, okS_aug, okS_nop, nxt_nx, nxt_rt, okS_brk, okS_cnt, ok_var, ok_C, ok_op2, ok_op1, ok_call, ok_acons, ok_anil, ok_lst, ok_tup, ok_tVal, ok_mAnd, ok_mOr, ok_mNot, ok_if, ok_tNot, ok_tAnd, ok_tOr, ok_tYes, ok_chain, ok_star, ok_gName, ok_oNone, ok_oSome, ok_sl, ok_rev, ok_mt, ok_ok, ok_lc, okS_for, putL, wipe, startM, List.map_cons, List.map_nil, List.length_cons, List.length_nil, List.replicate, List.cons_append, List.nil_append, Nat.reduceAdd, Nat.reduceSub, List.getElem?_cons_zero, List.getElem?_cons_succ, List.set_cons_succ, List.set_cons_zero, Option.some.injEq, W.bl.injEq, W.int.injEq, W.ref.injEq, exists_eq_left', exists_eq_left, decide_eq_true_eq, true_and, and_true, ok_add, ok_sub, ok_lt, ok_le, ok_gt, ok_ge, ok_neg, ok_mul, ok_div, ok_mod, ok_pow, ok_max2, ok_min2, ok_abs, ok_int, ok_iLst, ok_iTup, ok_iEnum, ok_iZip, ok_iRng1, exists_list1, List.cons.injEq, exists_and_left, exists_const, exists_eq, if_true, if_false, Bool.not_true, Bool.not_false, Bool.false_eq_true, decide_true, decide_false]
        rw [ok_sorted hI]
        have x2 := Ext.snoc k (O.lst ((isort ns).map .int))
        have hS : IL (k ++ [O.lst ((isort ns).map .int)]) k.length (isort ns) := lst_new _ _
        generalize k ++ [O.lst ((isort ns).map .int)] = k2 at *
        refine ⟨_, rfl, _, hS, ?_⟩
        refine lc_map (isort ns).length (fun i => if decide ((40 : Int) < (isort ns).getD i 0 - i) = true then some (.int (i : Int)) else none) (by rw [isort_len]; omega) hS.itl_enum (fun i k3 hi hx3 _ => ?_) (fun k3 hx3 _ => (hS.ext hx3).stop_enum) fun k4 hx4 hk4 => ?_
        · refine ⟨_, _, (hS.ext hx3).at_enum hi, ?_⟩
          rw [ok_gTup2 (tup_new _ _)]
          simp only [ok_def, okS_seq, okS_ret, okS_asg, okS_if, okS_E, okS_par, okS_aug, okS_nop, nxt_nx, nxt_rt, okS_brk, okS_cnt, ok_var, ok_C, ok_op2, ok_op1, ok_call, ok_acons, ok_anil, ok_lst, ok_tup, ok_tVal, ok_mAnd, ok_mOr, ok_mNot, ok_if, ok_tNot, ok_tAnd, ok_tOr, ok_tYes, ok_chain, ok_star, ok_gName, ok_oNone, ok_oSome, ok_sl, ok_rev, ok_mt, ok_ok, ok_lc, okS_for, putL, wipe, startM, List.map_cons, List.map_nil, List.length_cons, List.length_nil, List.replicate, List.cons_append, List.nil_append, Nat.reduceAdd, Nat.reduceSub, List.getElem?_cons_zero, List.getElem?_cons_succ, List.set_cons_succ, List.set_cons_zero, Option.some.injEq, W.bl.injEq, W.int.injEq, W.ref.injEq, exists_eq_left', exists_eq_left, decide_eq_true_eq, true_and, and_true, ok_add, ok_sub, ok_lt, ok_le, ok_gt, ok_ge, ok_neg, ok_mul, ok_div, ok_mod, ok_pow, ok_max2, ok_min2, ok_abs, ok_int, ok_iLst, ok_iTup, ok_iEnum, ok_iZip, ok_iRng1, exists_list1, List.cons.injEq, exists_and_left, exists_const, exists_eq, if_true, if_false, Bool.not_true, Bool.not_false, Bool.false_eq_true, decide_true, decide_false]
          have xs := Ext.snoc k3 (O.tup [W.int i, W.int ((isort ns).getD i 0)])
          split
          · rename_i hq
            exact ⟨xs, rfl⟩
          · rename_i hq
            exact ⟨xs, rfl⟩
        · rw [filterMap_ite (fun i : Nat => decide ((40 : Int) < (isort ns).getD i 0 - i)) (fun i : Nat => W.int (i : Int))] at hk4
          have e4 : ((List.range (isort ns).length).filter fun i : Nat => decide ((40 : Int) < (isort ns).getD i 0 - i)).map (fun i : Nat => W.int (i : Int)) = (((List.range (isort ns).length).filter fun i : Nat => decide ((40 : Int) < (isort ns).getD i 0 - i)).map fun i : Nat => (i : Int)).map .int := by rw [List.map_map]; rfl
          rw [e4] at hk4
          have x5 := Ext.snoc k4 (O.lst [])
          have hE : IL (k4 ++ [O.lst []]) k4.length [] := lst_new _ _
          have hF : IL k4 k2.length (((List.range (isort ns).length).filter fun i : Nat => decide ((40 : Int) < (isort ns).getD i 0 - i)).map fun i : Nat => (i : Int)) := lstAt_of hk4
          refine ⟨by decide, ?_⟩
          rw [ok_eqL (hF.ext x5) hE]
          refine ⟨hx.trans (x2.trans (hx4.trans x5)), ?_⟩
          unfold goodL
          rw [hA, ints_map, decide_eq_true (show 1 ≤ (ns.map W.int).length by omega), decide_eq_true (show (ns.map W.int).length ≤ 20 by omega)]
          have := spare_filter (ns := ns) (by omega)
          simp only [List.map_eq_nil_iff, this, Bool.and_self, Bool.true_and]
    · simp only [c1, c2, ok_def, okS_seq, okS_ret, okS_asg, okS_if, okS_E, okS_par, okS_aug, okS_nop, nxt_nx, nxt_rt, okS_brk, okS_cnt, ok_var, ok_C, ok_op2, ok_op1, ok_call, ok_acons, ok_anil, ok_lst, ok_tup, ok_tVal, ok_mAnd, ok_mOr, ok_mNot, ok_if, ok_tNot, ok_tAnd, ok_tOr, ok_tYes, ok_chain, ok_star, ok_gName, ok_oNone, ok_oSome, ok_sl, ok_rev, ok_mt, ok_ok, ok_lc, okS_for, putL, wipe, startM, List.map_cons, List.map_nil, List.length_cons, List.length_nil, List.replicate, List.cons_append, List.nil_append, Nat.reduceAdd, Nat.reduceSub, List.getElem?_cons_zero, List.getElem?_cons_succ, List.set_cons_succ, List.set_cons_zero, Option.some.injEq, W.bl.injEq, W.int.injEq, W.ref.injEq, exists_eq_left', exists_eq_left, decide_eq_true_eq, true_and, and_true, ok_add, ok_sub, ok_lt, ok_le, ok_gt, ok_ge, ok_neg, ok_mul, ok_div, ok_mod, ok_pow, ok_max2, ok_min2, ok_abs, ok_int, ok_iLst, ok_iTup, ok_iEnum, ok_iZip, ok_iRng1, exists_list1, List.cons.injEq, exists_and_left, exists_const, exists_eq, if_true, if_false, Bool.not_true, Bool.not_false, Bool.false_eq_true, decide_true, decide_false]
      refine ⟨Ext.refl _, ?_⟩
      unfold goodL
      rw [decide_eq_false (show ¬ ws.length ≤ 20 by omega)]
      simp
  · simp only [c1, ok_def, okS_seq, okS_ret, okS_asg, okS_if, okS_E, okS_par, okS_aug, okS_nop, nxt_nx, nxt_rt, okS_brk, okS_cnt, ok_var, ok_C, ok_op2, ok_op1, ok_call, ok_acons, ok_anil, ok_lst, ok_tup, ok_tVal, ok_mAnd, ok_mOr, ok_mNot, ok_if, ok_tNot, ok_tAnd, ok_tOr, ok_tYes, ok_chain, ok_star, ok_gName, ok_oNone, ok_oSome, ok_sl, ok_rev, ok_mt, ok_ok, ok_lc, okS_for, putL, wipe, startM, List.map_cons, List.map_nil, List.length_cons, List.length_nil, List.replicate, List.cons_append, List.nil_append, Nat.reduceAdd, Nat.reduceSub, List.getElem?_cons_zero, List.getElem?_cons_succ, List.set_cons_succ, List.set_cons_zero, Option.some.injEq, W.bl.injEq, W.int.injEq, W.ref.injEq, exists_eq_left', exists_eq_left, decide_eq_true_eq, true_and, and_true, ok_add, ok_sub, ok_lt, ok_le, ok_gt, ok_ge, ok_neg, ok_mul, ok_div, ok_mod, ok_pow, ok_max2, ok_min2, ok_abs, ok_int, ok_iLst, ok_iTup, ok_iEnum, ok_iZip, ok_iRng1, exists_list1, List.cons.injEq, exists_and_left, exists_const, exists_eq, if_true, if_false, Bool.not_true, Bool.not_false, Bool.false_eq_true, decide_true, decide_false]
    refine ⟨Ext.refl _, ?_⟩
    unfold goodL
    rw [decide_eq_false (show ¬ 1 ≤ ws.length by omega)]
    simp
theorem s_judge {g : G} {w : W} (h : JD g w) : ∃ b, Ok (m_is_team [w] g) (fun v g' => Ext g g' ∧ v = .bl b) ∧ ∀ g1, Ext g g1 → Ok (m__law_is [w] g1) (fun v g' => Ext g1 g' ∧ v = .bl b) := by
  obtain ⟨t, ht, hl⟩ := h
  by_cases e : t = "list"
  · have hw : ∃ a, w = .ref a := by
      subst e
      cases w with
      | ref a => exact ⟨a, rfl⟩
      | _ => first | exact absurd (Option.some.inj ht) (by decide) | cases ht
    obtain ⟨a, rfl⟩ := hw
    obtain ⟨ws, h1, h2, h3⟩ := hl a rfl e
    exact ⟨goodL ws, isT_list h1 h2 h3, fun g1 hx => isT_law (hx.lst h1) h2 fun x hx2 => by obtain ⟨s, hs⟩ := h3 x hx2; exact ⟨s, ty_ext hx hs⟩⟩
  · have hs : subTy t "list" = false := by
      unfold subTy
      simp [e]
    refine ⟨false, ?_, fun g1 hx => ?_⟩
    · unfold m_is_team b_is_team
      simp only [ok_def, okS_seq, okS_ret, okS_asg, okS_if, okS_E, okS_par, okS_aug, okS_nop, nxt_nx, nxt_rt, okS_brk, okS_cnt, ok_var, ok_C, ok_op2, ok_op1, ok_call, ok_acons, ok_anil, ok_lst, ok_tup, ok_tVal, ok_mAnd, ok_mOr, ok_mNot, ok_if, ok_tNot, ok_tAnd, ok_tOr, ok_tYes, ok_chain, ok_star, ok_gName, ok_oNone, ok_oSome, ok_sl, ok_rev, ok_mt, ok_ok, ok_lc, okS_for, putL, wipe, startM, List.map_cons, List.map_nil, List.length_cons, List.length_nil, List.replicate, List.cons_append, List.nil_append, Nat.reduceAdd, Nat.reduceSub, List.getElem?_cons_zero, List.getElem?_cons_succ, List.set_cons_succ, List.set_cons_zero, Option.some.injEq, W.bl.injEq, W.int.injEq, W.ref.injEq, exists_eq_left', exists_eq_left, decide_eq_true_eq, true_and, and_true, ok_add, ok_sub, ok_lt, ok_le, ok_gt, ok_ge, ok_neg, ok_mul, ok_div, ok_mod, ok_pow, ok_max2, ok_min2, ok_abs, ok_int, ok_iLst, ok_iTup, ok_iEnum, ok_iZip, ok_iRng1, exists_list1, List.cons.injEq, exists_and_left, exists_const, exists_eq, if_true, if_false, Bool.not_true, Bool.not_false, Bool.false_eq_true, decide_true, decide_false, isi_ty ht "list" (by decide), hs]
      exact Ext.refl _
    · unfold m__law_is b__law_is
      simp only [ok_def, okS_seq, okS_ret, okS_asg, okS_if, okS_E, okS_par, okS_aug, okS_nop, nxt_nx, nxt_rt, okS_brk, okS_cnt, ok_var, ok_C, ok_op2, ok_op1, ok_call, ok_acons, ok_anil, ok_lst, ok_tup, ok_tVal, ok_mAnd, ok_mOr, ok_mNot, ok_if, ok_tNot, ok_tAnd, ok_tOr, ok_tYes, ok_chain, ok_star, ok_gName, ok_oNone, ok_oSome, ok_sl, ok_rev, ok_mt, ok_ok, ok_lc, okS_for, putL, wipe, startM, List.map_cons, List.map_nil, List.length_cons, List.length_nil, List.replicate, List.cons_append, List.nil_append, Nat.reduceAdd, Nat.reduceSub, List.getElem?_cons_zero, List.getElem?_cons_succ, List.set_cons_succ, List.set_cons_zero, Option.some.injEq, W.bl.injEq, W.int.injEq, W.ref.injEq, exists_eq_left', exists_eq_left, decide_eq_true_eq, true_and, and_true, ok_add, ok_sub, ok_lt, ok_le, ok_gt, ok_ge, ok_neg, ok_mul, ok_div, ok_mod, ok_pow, ok_max2, ok_min2, ok_abs, ok_int, ok_iLst, ok_iTup, ok_iEnum, ok_iZip, ok_iRng1, exists_list1, List.cons.injEq, exists_and_left, exists_const, exists_eq, if_true, if_false, Bool.not_true, Bool.not_false, Bool.false_eq_true, decide_true, decide_false, isi_ty (ty_ext hx ht) "list" (by decide), hs]
      exact Ext.refl _
end M
/-! K01d: told again; the law of one team. -/
namespace M
theorem ok_callV {tbl : List (M.Str × Fn)} {y : M.Str} {f : Fn} {i : Nat} {as : MA} {ρ : Env} {g : G} {Q : W → G → Prop} (hv : ρ[i]? = some (some (.glob y))) (hf : lookF tbl y = some f) : Ok (mCallV tbl (mVar i) as ρ g) Q ↔ Ok (as ρ g) fun xs g1 => Ok (f xs g1) Q := by
  unfold mCallV
  rw [ok_bind, ok_var]
  constructor
  · rintro ⟨w, e, h⟩
    rw [hv] at e
    cases e
    dsimp only at h
    rw [hf] at h
    exact ok_bind.mp h
  · intro h
    refine ⟨_, hv, ?_⟩
    dsimp only
    rw [hf]
    exact ok_bind.mpr h
theorem ok_callVP {tbl : List (M.Str × Fn)} {y : M.Str} {f : Fn} {i n : Nat} {pm : List Nat} {as : MA} {ρ : Env} {g : G} {Q : W → G → Prop} (hv : ρ[i]? = some (some (.glob y))) (hf : lookF tbl y = some f) : Ok (mCallVP tbl n pm (mVar i) as ρ g) Q ↔ Ok (as ρ g) fun xs g1 => xs.length = n ∧ Ok (f (pick pm xs) g1) Q := by
  unfold mCallVP
  rw [ok_bind, ok_var]
  constructor
  · rintro ⟨w, e, h⟩
    rw [hv] at e
    cases e
    dsimp only at h
    rw [hf, ok_bind] at h
    exact h.mono fun xs g1 h => ok_iteB.mp h
  · intro h
    refine ⟨_, hv, ?_⟩
    dsimp only
    rw [hf, ok_bind]
    exact h.mono fun xs g1 h => ok_iteB.mpr h
theorem pick1 {α : Type} (a : α) : pick [0] [a] = [a] := rfl
theorem pick21 {α : Type} (a b : α) : pick [1, 0] [a, b] = [b, a] := rfl
theorem pick321 {α : Type} (a b c : α) : pick [2, 1, 0] [a, b, c] = [c, b, a] := rfl
/-- what a door tells of a team -/
def Door (f : Fn) (a : Nat) (ns L : List Int) : Prop := ∀ g, IL g a ns → Ok (f [.ref a] g) fun w g' => Ext g g' ∧ ∃ b, w = .ref b ∧ g.length ≤ b ∧ g'[b]? = some (.lst (L.map .int))
theorem s_again {g : G} {a d : Nat} {ns L : List Int} {y : M.Str} {f : Fn} (hf : lookF [((PySem.Str.ofString "able_counts"), m_able_counts), ((PySem.Str.ofString "line"), m_line), ((PySem.Str.ofString "spare_numbers"), m_spare_numbers)] y = some f) (hd : Door f a ns L) (h : IL g a ns) (hL : IL g d L) (hs : ∀ x ∈ L, -100 ≤ x ∧ x ≤ 100) (hl : L.length ≤ 100) :
    Ok (m__law_again [.glob y, .ref a, .ref d] g) fun w g' => Ext g g' ∧ w = .bl true := by
  unfold m__law_again b__law_again
  simp only [ok_def, okS_seq, okS_ret, okS_asg, okS_if, okS_E, okS_par, okS_aug, okS_nop, nxt_nx, nxt_rt, okS_brk, okS_cnt, ok_var, ok_C, ok_op2, ok_op1, ok_call, ok_acons, ok_anil, ok_lst, ok_tup, ok_tVal, ok_mAnd, ok_mOr, ok_mNot, ok_if, ok_tNot, ok_tAnd, ok_tOr, ok_tYes, ok_chain, ok_star, ok_gName, ok_oNone, ok_oSome, ok_sl, ok_rev, ok_mt, ok_ok, ok_lc, okS_for, putL, wipe, startM, List.map_cons, List.map_nil, List.length_cons, List.length_nil, List.replicate, List.cons_append, List.nil_append, Nat.reduceAdd, Nat.reduceSub, List.getElem?_cons_zero, List.getElem?_cons_succ, List.set_cons_succ, List.set_cons_zero, Option.some.injEq, W.bl.injEq, W.int.injEq, W.ref.injEq, exists_eq_left', exists_eq_left, decide_eq_true_eq, true_and, and_true, ok_add, ok_sub, ok_lt, ok_le, ok_gt, ok_ge, ok_neg, ok_mul, ok_div, ok_mod, ok_pow, ok_max2, ok_min2, ok_abs, ok_int, ok_iLst, ok_iTup, ok_iEnum, ok_iZip, ok_iRng1, exists_list1, List.cons.injEq, exists_and_left, exists_const, exists_eq, if_true, if_false, Bool.not_true, Bool.not_false, Bool.false_eq_true, decide_true, decide_false]
  rw [ok_callV (y := y) (f := f) rfl hf]
  simp only [ok_def, okS_seq, okS_ret, okS_asg, okS_if, okS_E, okS_par, okS_aug, okS_nop, nxt_nx, nxt_rt, okS_brk, okS_cnt, ok_var, ok_C, ok_op2, ok_op1, ok_call, ok_acons, ok_anil, ok_lst, ok_tup, ok_tVal, ok_mAnd, ok_mOr, ok_mNot, ok_if, ok_tNot, ok_tAnd, ok_tOr, ok_tYes, ok_chain, ok_star, ok_gName, ok_oNone, ok_oSome, ok_sl, ok_rev, ok_mt, ok_ok, ok_lc, okS_for, putL, wipe, startM, List.map_cons, List.map_nil, List.length_cons, List.length_nil, List.replicate, List.cons_append, List.nil_append, Nat.reduceAdd, Nat.reduceSub, List.getElem?_cons_zero, List.getElem?_cons_succ, List.set_cons_succ, List.set_cons_zero, Option.some.injEq, W.bl.injEq, W.int.injEq, W.ref.injEq, exists_eq_left', exists_eq_left, decide_eq_true_eq, true_and, and_true, ok_add, ok_sub, ok_lt, ok_le, ok_gt, ok_ge, ok_neg, ok_mul, ok_div, ok_mod, ok_pow, ok_max2, ok_min2, ok_abs, ok_int, ok_iLst, ok_iTup, ok_iEnum, ok_iZip, ok_iRng1, exists_list1, List.cons.injEq, exists_and_left, exists_const, exists_eq, if_true, if_false, Bool.not_true, Bool.not_false, Bool.false_eq_true, decide_true, decide_false]
  refine (hd g h).mono fun w g1 ⟨x1, b, e, hb1, hb⟩ => ?_
  subst e
  have hbL : IL g1 b L := lstAt_of hb
  rw [ok_reprL hbL hs hl, ok_reprL (hL.ext x1) hs hl, ok_neS]
  refine ⟨_, rfl, ?_⟩
  rw [decide_eq_true rfl, if_neg (by decide)]
  refine ⟨isL_of hbL, ?_⟩
  rw [ok_append hb (Nat.lt_of_le_of_lt (show _ ≤ 100 by simpa using hl) (by decide))]
  have x2 := x1.set hb1 (.lst (L.map .int ++ [W.non]))
  rw [ok_callVP (y := y) (f := f) rfl hf]
  simp only [ok_def, okS_seq, okS_ret, okS_asg, okS_if, okS_E, okS_par, okS_aug, okS_nop, nxt_nx, nxt_rt, okS_brk, okS_cnt, ok_var, ok_C, ok_op2, ok_op1, ok_call, ok_acons, ok_anil, ok_lst, ok_tup, ok_tVal, ok_mAnd, ok_mOr, ok_mNot, ok_if, ok_tNot, ok_tAnd, ok_tOr, ok_tYes, ok_chain, ok_star, ok_gName, ok_oNone, ok_oSome, ok_sl, ok_rev, ok_mt, ok_ok, ok_lc, okS_for, putL, wipe, startM, List.map_cons, List.map_nil, List.length_cons, List.length_nil, List.replicate, List.cons_append, List.nil_append, Nat.reduceAdd, Nat.reduceSub, List.getElem?_cons_zero, List.getElem?_cons_succ, List.set_cons_succ, List.set_cons_zero, Option.some.injEq, W.bl.injEq, W.int.injEq, W.ref.injEq, exists_eq_left', exists_eq_left, decide_eq_true_eq, true_and, and_true, ok_add, ok_sub, ok_lt, ok_le, ok_gt, ok_ge, ok_neg, ok_mul, ok_div, ok_mod, ok_pow, ok_max2, ok_min2, ok_abs, ok_int, ok_iLst, ok_iTup, ok_iEnum, ok_iZip, ok_iRng1, exists_list1, List.cons.injEq, exists_and_left, exists_const, exists_eq, if_true, if_false, Bool.not_true, Bool.not_false, Bool.false_eq_true, decide_true, decide_false, pick1]
  refine (hd _ (h.ext x2)).mono fun w g3 ⟨x3, c, e, hc1, hc⟩ => ?_
  subst e
  have hcL : IL g3 c L := lstAt_of hc
  rw [ok_reprL hcL hs hl, ok_reprL (hL.ext (x2.trans x3)) hs hl, ok_eqS, decide_eq_true rfl]
  exact ⟨x2.trans x3, rfl⟩
theorem able_small {ns : List Int} (t : Team ns) : (∀ x ∈ able ns, -100 ≤ x ∧ x ≤ 100) ∧ (able ns).length ≤ 100 := by
  have hm := t.lt _ (maxL_in ns t.ne)
  have h2 := t.2.1
  constructor
  · intro x hx
    unfold able at hx
    obtain ⟨k, _, rfl⟩ := List.mem_map.mp hx
    have : more k ns ≤ ns.length := List.length_filter_le _ _
    omega
  · unfold able
    simp
    omega
theorem line_small {ns : List Int} (t : Team ns) : (∀ x ∈ lineL ns, -100 ≤ x ∧ x ≤ 100) ∧ (lineL ns).length ≤ 100 := by
  have h2 := t.2.1
  exact ⟨fun x hx => by have := lineL_mem hx; omega, by rw [lineL_len]; omega⟩
theorem spare_small {ns : List Int} (t : Team ns) : (∀ x ∈ spare (isort ns), -100 ≤ x ∧ x ≤ 100) ∧ (spare (isort ns)).length ≤ 100 := by
  have h2 := t.2.1
  constructor
  · intro x hx
    have h1 := maxL_ge _ x hx
    have h4 := t.2.2.2
    unfold spare at hx
    obtain ⟨k, hk, rfl⟩ := List.mem_map.mp hx
    have hk := List.mem_range.mp hk
    have := t.2.2.1 _ ((isort_perm ns).mem_iff.mp (getD_mem hk))
    rw [isort_len] at hk
    omega
  · rw [spare_len, isort_len]
    omega
theorem spare_line (ns : List Int) : (List.range ns.length).map (fun i : Nat => ns.getD ((lineL ns).getD i 0).toNat 0 - (i : Int)) = spare (isort ns) := by
  unfold spare
  rw [isort_len]
  refine List.map_congr_left fun i hi => ?_
  have hi := List.mem_range.mp hi
  have := lineL_sorted ns
  rw [← this]
  have hl : i < (lineL ns).length := by rw [lineL_len]; exact hi
  simp only [List.getD_eq_getElem?_getD, List.getElem?_map, List.getElem?_eq_getElem hl]
  simp
theorem door_line {a : Nat} {ns : List Int} (t : Team ns) : Door m_line a ns (lineL ns) := fun g h => s_line h t
theorem door_able {a : Nat} {ns : List Int} (t : Team ns) : Door m_able_counts a ns (able ns) := fun g h => s_able h t
theorem s_spare_by2 {g : G} {a : Nat} {ns : List Int} (h : IL g a ns) (hs : ns.length ≤ SZ) : Ok (m_spare_by [.ref a] g) fun w g' => Ext g g' ∧ ∃ b, w = .ref b ∧ g.length ≤ b ∧ g'[b]? = some (.lst ((spare ns).map .int)) := by
  unfold m_spare_by b_spare_by
  simp only [ok_def, okS_seq, okS_ret, okS_asg, okS_if, okS_E, okS_par, okS_aug, okS_nop, nxt_nx, nxt_rt, okS_brk, okS_cnt, ok_var, ok_C, ok_op2, ok_op1, ok_call, ok_acons, ok_anil, ok_lst, ok_tup, ok_tVal, ok_mAnd, ok_mOr, ok_mNot, ok_if, ok_tNot, ok_tAnd, ok_tOr, ok_tYes, ok_chain, ok_star, ok_gName, ok_oNone, ok_oSome, ok_sl, ok_rev, ok_mt, ok_ok, ok_lc, okS_for, putL, wipe, startM, List.map_cons, List.map_nil, List.length_cons, List.length_nil, List.replicate, List.cons_append, List.nil_append, Nat.reduceAdd, Nat.reduceSub, List.getElem?_cons_zero, List.getElem?_cons_succ, List.set_cons_succ, List.set_cons_zero, Option.some.injEq, W.bl.injEq, W.int.injEq, W.ref.injEq, exists_eq_left', exists_eq_left, decide_eq_true_eq, true_and, and_true, ok_add, ok_sub, ok_lt, ok_le, ok_gt, ok_ge, ok_neg, ok_mul, ok_div, ok_mod, ok_pow, ok_max2, ok_min2, ok_abs, ok_int, ok_iLst, ok_iTup, ok_iEnum, ok_iZip, ok_iRng1, exists_list1, List.cons.injEq, exists_and_left, exists_const, exists_eq, if_true, if_false, Bool.not_true, Bool.not_false, Bool.false_eq_true, decide_true, decide_false]
  refine ⟨_, h, ?_⟩
  refine lc_ints ns.length (fun i => .int (ns.getD i 0 - i)) hs h.itl_enum (fun i g' hi hx => ?_) (fun g' hx => (h.ext hx).stop_enum) fun g2 hx hg => ?_
  · refine ⟨_, _, (h.ext hx).at_enum hi, ?_⟩
    rw [ok_gTup2 (tup_new _ _)]
    simp only [ok_def, okS_seq, okS_ret, okS_asg, okS_if, okS_E, okS_par, okS_aug, okS_nop, nxt_nx, nxt_rt, okS_brk, okS_cnt, ok_var, ok_C, ok_op2, ok_op1, ok_call, ok_acons, ok_anil, ok_lst, ok_tup, ok_tVal, ok_mAnd, ok_mOr, ok_mNot, ok_if, ok_tNot, ok_tAnd, ok_tOr, ok_tYes, ok_chain, ok_star, ok_gName, ok_oNone, ok_oSome, ok_sl, ok_rev, ok_mt, ok_ok, ok_lc, okS_for, putL, wipe, startM, List.map_cons, List.map_nil, List.length_cons, List.length_nil, List.replicate, List.cons_append, List.nil_append, Nat.reduceAdd, Nat.reduceSub, List.getElem?_cons_zero, List.getElem?_cons_succ, List.set_cons_succ, List.set_cons_zero, Option.some.injEq, W.bl.injEq, W.int.injEq, W.ref.injEq, exists_eq_left', exists_eq_left, decide_eq_true_eq, true_and, and_true, ok_add, ok_sub, ok_lt, ok_le, ok_gt, ok_ge, ok_neg, ok_mul, ok_div, ok_mod, ok_pow, ok_max2, ok_min2, ok_abs, ok_int, ok_iLst, ok_iTup, ok_iEnum, ok_iZip, ok_iRng1, exists_list1, List.cons.injEq, exists_and_left, exists_const, exists_eq, if_true, if_false, Bool.not_true, Bool.not_false, Bool.false_eq_true, decide_true, decide_false]
    exact Ext.snoc _ _
  · exact ⟨hx, _, rfl, Nat.le_refl _, by rw [hg, spare, List.map_map]; rfl⟩
theorem door_spare {a : Nat} {ns : List Int} (t : Team ns) : Door m_spare_numbers a ns (spare (isort ns)) := fun g h => by
  unfold m_spare_numbers b_spare_numbers m_levels_along b_levels_along
  simp only [ok_def, okS_seq, okS_ret, okS_asg, okS_if, okS_E, okS_par, okS_aug, okS_nop, nxt_nx, nxt_rt, okS_brk, okS_cnt, ok_var, ok_C, ok_op2, ok_op1, ok_call, ok_acons, ok_anil, ok_lst, ok_tup, ok_tVal, ok_mAnd, ok_mOr, ok_mNot, ok_if, ok_tNot, ok_tAnd, ok_tOr, ok_tYes, ok_chain, ok_star, ok_gName, ok_oNone, ok_oSome, ok_sl, ok_rev, ok_mt, ok_ok, ok_lc, okS_for, putL, wipe, startM, List.map_cons, List.map_nil, List.length_cons, List.length_nil, List.replicate, List.cons_append, List.nil_append, Nat.reduceAdd, Nat.reduceSub, List.getElem?_cons_zero, List.getElem?_cons_succ, List.set_cons_succ, List.set_cons_zero, Option.some.injEq, W.bl.injEq, W.int.injEq, W.ref.injEq, exists_eq_left', exists_eq_left, decide_eq_true_eq, true_and, and_true, ok_add, ok_sub, ok_lt, ok_le, ok_gt, ok_ge, ok_neg, ok_mul, ok_div, ok_mod, ok_pow, ok_max2, ok_min2, ok_abs, ok_int, ok_iLst, ok_iTup, ok_iEnum, ok_iZip, ok_iRng1, exists_list1, List.cons.injEq, exists_and_left, exists_const, exists_eq, if_true, if_false, Bool.not_true, Bool.not_false, Bool.false_eq_true, decide_true, decide_false]
  refine (s_need_team h t).mono fun w g' hx => ?_
  rw [ok_sorted (h.ext hx)]
  refine (s_spare_by2 (IL.new (get_new _ _)) (by rw [isort_len]; exact Nat.le_trans t.2.1 (by decide))).mono fun w g3 ⟨hx3, b, e, hl, hb⟩ => ?_
  exact ⟨(hx.trans (Ext.snoc _ _)).trans hx3, b, e, Nat.le_trans hx.len (Nat.le_trans (Ext.snoc g' _).len hl), hb⟩
theorem s_others2 {g : G} {a : Nat} {ns : List Int} (h : IL g a ns) (t : Team ns) {i : Int} (h0 : maxL ns ≤ i) (h1 : i ≤ 40) : Ok (m_others [.ref a, .int i] g) fun w g' => Ext g g' ∧ ∃ b, w = .ref b ∧ g.length ≤ b ∧ g'[b]? = some (.lst ((ns.map fun c => i - c).map .int)) := by
  unfold m_others b_others
  simp only [ok_def, okS_seq, okS_ret, okS_asg, okS_if, okS_E, okS_par, okS_aug, okS_nop, nxt_nx, nxt_rt, okS_brk, okS_cnt, ok_var, ok_C, ok_op2, ok_op1, ok_call, ok_acons, ok_anil, ok_lst, ok_tup, ok_tVal, ok_mAnd, ok_mOr, ok_mNot, ok_if, ok_tNot, ok_tAnd, ok_tOr, ok_tYes, ok_chain, ok_star, ok_gName, ok_oNone, ok_oSome, ok_sl, ok_rev, ok_mt, ok_ok, ok_lc, okS_for, putL, wipe, startM, List.map_cons, List.map_nil, List.length_cons, List.length_nil, List.replicate, List.cons_append, List.nil_append, Nat.reduceAdd, Nat.reduceSub, List.getElem?_cons_zero, List.getElem?_cons_succ, List.set_cons_succ, List.set_cons_zero, Option.some.injEq, W.bl.injEq, W.int.injEq, W.ref.injEq, exists_eq_left', exists_eq_left, decide_eq_true_eq, true_and, and_true, ok_add, ok_sub, ok_lt, ok_le, ok_gt, ok_ge, ok_neg, ok_mul, ok_div, ok_mod, ok_pow, ok_max2, ok_min2, ok_abs, ok_int, ok_iLst, ok_iTup, ok_iEnum, ok_iZip, ok_iRng1, exists_list1, List.cons.injEq, exists_and_left, exists_const, exists_eq, if_true, if_false, Bool.not_true, Bool.not_false, Bool.false_eq_true, decide_true, decide_false]
  refine (s_need_team h t).mono fun w g' hx => ?_
  rw [ok_maxL (h.ext hx) t.ne, ok_le, decide_eq_true h0]
  refine ⟨_, rfl, ?_⟩
  rw [if_pos rfl, decide_eq_true h1, if_neg (by decide)]
  refine ⟨_, h.ext hx, ?_⟩
  refine lc_ints ns.length (fun k => .int (i - ns.getD k 0)) (Nat.le_trans t.2.1 (by decide)) (h.ext hx).itl (fun k g2 hi hx2 => ?_) (fun g2 hx2 => (h.ext (hx.trans hx2)).stop) fun g2 hx2 hg => ?_
  · refine ⟨_, _, (h.ext (hx.trans hx2)).at hi, ?_⟩
    simp only [ok_def, okS_seq, okS_ret, okS_asg, okS_if, okS_E, okS_par, okS_aug, okS_nop, nxt_nx, nxt_rt, okS_brk, okS_cnt, ok_var, ok_C, ok_op2, ok_op1, ok_call, ok_acons, ok_anil, ok_lst, ok_tup, ok_tVal, ok_mAnd, ok_mOr, ok_mNot, ok_if, ok_tNot, ok_tAnd, ok_tOr, ok_tYes, ok_chain, ok_star, ok_gName, ok_oNone, ok_oSome, ok_sl, ok_rev, ok_mt, ok_ok, ok_lc, okS_for, putL, wipe, startM, List.map_cons, List.map_nil, List.length_cons, List.length_nil, List.replicate, List.cons_append, List.nil_append, Nat.reduceAdd, Nat.reduceSub, List.getElem?_cons_zero, List.getElem?_cons_succ, List.set_cons_succ, List.set_cons_zero, Option.some.injEq, W.bl.injEq, W.int.injEq, W.ref.injEq, exists_eq_left', exists_eq_left, decide_eq_true_eq, true_and, and_true, ok_add, ok_sub, ok_lt, ok_le, ok_gt, ok_ge, ok_neg, ok_mul, ok_div, ok_mod, ok_pow, ok_max2, ok_min2, ok_abs, ok_int, ok_iLst, ok_iTup, ok_iEnum, ok_iZip, ok_iRng1, exists_list1, List.cons.injEq, exists_and_left, exists_const, exists_eq, if_true, if_false, Bool.not_true, Bool.not_false, Bool.false_eq_true, decide_true, decide_false]
    exact Ext.refl _
  · refine ⟨hx.trans hx2, _, rfl, hx.len, ?_⟩
    rw [hg, map_getD (fun c => .int (i - c)), List.map_map]
    rfl
theorem s_right {g : G} {p a m : Nat} {ns : List Int} (u : PU g p (m + 20)) (h : IL g a ns) (hap : a ≠ p) (t : Team ns) : Ok (m__law_right [.ref p, .ref a] g) fun w g' => w = .bl true ∧ Fr p g g' ∧ PU g' p m := by
  have sN : ∀ x ∈ ns, -100 ≤ x ∧ x ≤ 100 := fun x hx => by have := t.lt x hx; omega
  have lN : ns.length ≤ 100 := by have := t.2.1; omega
  have hm := t.lt _ (maxL_in ns t.ne)
  have hn := t.2.1
  have h1 := t.1
  unfold m__law_right b__law_right
  simp only [ok_def, okS_seq, okS_ret, okS_asg, okS_if, okS_E, okS_par, okS_aug, okS_nop, nxt_nx, nxt_rt, okS_brk, okS_cnt, ok_var, ok_C, ok_op2, ok_op1, ok_call, ok_acons, ok_anil, ok_lst, ok_tup, ok_tVal, ok_mAnd, ok_mOr, ok_mNot, ok_if, ok_tNot, ok_tAnd, ok_tOr, ok_tYes, ok_chain, ok_star, ok_gName, ok_oNone, ok_oSome, ok_sl, ok_rev, ok_mt, ok_ok, ok_lc, okS_for, putL, wipe, startM, List.map_cons, List.map_nil, List.length_cons, List.length_nil, List.replicate, List.cons_append, List.nil_append, Nat.reduceAdd, Nat.reduceSub, List.getElem?_cons_zero, List.getElem?_cons_succ, List.set_cons_succ, List.set_cons_zero, Option.some.injEq, W.bl.injEq, W.int.injEq, W.ref.injEq, exists_eq_left', exists_eq_left, decide_eq_true_eq, true_and, and_true, ok_add, ok_sub, ok_lt, ok_le, ok_gt, ok_ge, ok_neg, ok_mul, ok_div, ok_mod, ok_pow, ok_max2, ok_min2, ok_abs, ok_int, ok_iLst, ok_iTup, ok_iEnum, ok_iZip, ok_iRng1, exists_list1, List.cons.injEq, exists_and_left, exists_const, exists_eq, if_true, if_false, Bool.not_true, Bool.not_false, Bool.false_eq_true, decide_true, decide_false]
  rw [ok_reprL h sN lN]
  refine (s_law_line h hn h1).mono fun w g1 ⟨x1, b, e, hb1, hb⟩ => ?_
  subst e
  have hline : IL g1 b (lineL ns) := lstAt_of hb
  refine ⟨_, rfl, ?_⟩
  refine ⟨_, hline, ?_⟩
  have hla := h.ext x1
  refine lc_ints (lineL ns).length (fun i => .int (ns.getD ((lineL ns).getD i 0).toNat 0 - i)) (by rw [lineL_len]; exact Nat.le_trans hn (by decide)) hline.itl_enum (fun i k hi hx => ?_) (fun k hx => (hline.ext hx).stop_enum) fun g2 x2 hs2 => ?_
  · refine ⟨_, _, (hline.ext hx).at_enum hi, ?_⟩
    rw [ok_gTup2 (tup_new _ _)]
    simp only [ok_def, okS_seq, okS_ret, okS_asg, okS_if, okS_E, okS_par, okS_aug, okS_nop, nxt_nx, nxt_rt, okS_brk, okS_cnt, ok_var, ok_C, ok_op2, ok_op1, ok_call, ok_acons, ok_anil, ok_lst, ok_tup, ok_tVal, ok_mAnd, ok_mOr, ok_mNot, ok_if, ok_tNot, ok_tAnd, ok_tOr, ok_tYes, ok_chain, ok_star, ok_gName, ok_oNone, ok_oSome, ok_sl, ok_rev, ok_mt, ok_ok, ok_lc, okS_for, putL, wipe, startM, List.map_cons, List.map_nil, List.length_cons, List.length_nil, List.replicate, List.cons_append, List.nil_append, Nat.reduceAdd, Nat.reduceSub, List.getElem?_cons_zero, List.getElem?_cons_succ, List.set_cons_succ, List.set_cons_zero, Option.some.injEq, W.bl.injEq, W.int.injEq, W.ref.injEq, exists_eq_left', exists_eq_left, decide_eq_true_eq, true_and, and_true, ok_add, ok_sub, ok_lt, ok_le, ok_gt, ok_ge, ok_neg, ok_mul, ok_div, ok_mod, ok_pow, ok_max2, ok_min2, ok_abs, ok_int, ok_iLst, ok_iTup, ok_iEnum, ok_iZip, ok_iRng1, exists_list1, List.cons.injEq, exists_and_left, exists_const, exists_eq, if_true, if_false, Bool.not_true, Bool.not_false, Bool.false_eq_true, decide_true, decide_false]
    have xs := Ext.snoc k (O.tup [W.int i, W.int ((lineL ns).getD i 0)])
    have hm2 := lineL_mem (getD_mem hi)
    rw [ok_ix ((hla.ext hx).ext xs) hm2.1 hm2.2, ok_sub]
    exact ⟨xs, rfl⟩
  have hsp : IL g2 g1.length (spare (isort ns)) := by
    refine lstAt_of ?_
    rw [hs2, ← spare_line, List.map_map, lineL_len]
    rfl
  rw [ok_maxL (hla.ext x2) t.ne]
  refine ⟨_, rfl, inR_le (by omega) (by omega), ?_⟩
  refine lc_ints (maxL ns).toNat (fun k => .int (more k ns)) (Nat.le_trans (show _ ≤ 60 by omega) (by decide)) rfl (fun k g' hk hx => ?_) (fun g' hx => rng_stop (Nat.le_refl _)) fun g3 x3 hs3 => ?_
  · refine ⟨_, _, rng_at hk, ?_⟩
    have e0 : (0 : Int) + k = k := by omega
    simp only [ok_def, okS_seq, okS_ret, okS_asg, okS_if, okS_E, okS_par, okS_aug, okS_nop, nxt_nx, nxt_rt, okS_brk, okS_cnt, ok_var, ok_C, ok_op2, ok_op1, ok_call, ok_acons, ok_anil, ok_lst, ok_tup, ok_tVal, ok_mAnd, ok_mOr, ok_mNot, ok_if, ok_tNot, ok_tAnd, ok_tOr, ok_tYes, ok_chain, ok_star, ok_gName, ok_oNone, ok_oSome, ok_sl, ok_rev, ok_mt, ok_ok, ok_lc, okS_for, putL, wipe, startM, List.map_cons, List.map_nil, List.length_cons, List.length_nil, List.replicate, List.cons_append, List.nil_append, Nat.reduceAdd, Nat.reduceSub, List.getElem?_cons_zero, List.getElem?_cons_succ, List.set_cons_succ, List.set_cons_zero, Option.some.injEq, W.bl.injEq, W.int.injEq, W.ref.injEq, exists_eq_left', exists_eq_left, decide_eq_true_eq, true_and, and_true, ok_add, ok_sub, ok_lt, ok_le, ok_gt, ok_ge, ok_neg, ok_mul, ok_div, ok_mod, ok_pow, ok_max2, ok_min2, ok_abs, ok_int, ok_iLst, ok_iTup, ok_iEnum, ok_iZip, ok_iRng1, exists_list1, List.cons.injEq, exists_and_left, exists_const, exists_eq, if_true, if_false, Bool.not_true, Bool.not_false, Bool.false_eq_true, decide_true, decide_false, e0]
    refine ⟨_, (hla.ext x2).ext hx, ?_⟩
    refine lc_filter (p := fun c => decide (c > (k : Int))) ((hla.ext x2).ext hx) (Nat.le_trans hn (by decide)) (fun v => rfl) (fun x g4 hx1 hx2 => ?_) fun g4 hx4 hl4 _ => ?_
    · simp only [ok_def, okS_seq, okS_ret, okS_asg, okS_if, okS_E, okS_par, okS_aug, okS_nop, nxt_nx, nxt_rt, okS_brk, okS_cnt, ok_var, ok_C, ok_op2, ok_op1, ok_call, ok_acons, ok_anil, ok_lst, ok_tup, ok_tVal, ok_mAnd, ok_mOr, ok_mNot, ok_if, ok_tNot, ok_tAnd, ok_tOr, ok_tYes, ok_chain, ok_star, ok_gName, ok_oNone, ok_oSome, ok_sl, ok_rev, ok_mt, ok_ok, ok_lc, okS_for, putL, wipe, startM, List.map_cons, List.map_nil, List.length_cons, List.length_nil, List.replicate, List.cons_append, List.nil_append, Nat.reduceAdd, Nat.reduceSub, List.getElem?_cons_zero, List.getElem?_cons_succ, List.set_cons_succ, List.set_cons_zero, Option.some.injEq, W.bl.injEq, W.int.injEq, W.ref.injEq, exists_eq_left', exists_eq_left, decide_eq_true_eq, true_and, and_true, ok_add, ok_sub, ok_lt, ok_le, ok_gt, ok_ge, ok_neg, ok_mul, ok_div, ok_mod, ok_pow, ok_max2, ok_min2, ok_abs, ok_int, ok_iLst, ok_iTup, ok_iEnum, ok_iZip, ok_iRng1, exists_list1, List.cons.injEq, exists_and_left, exists_const, exists_eq, if_true, if_false, Bool.not_true, Bool.not_false, Bool.false_eq_true, decide_true, decide_false]
      exact Ext.refl _
    · rw [ok_len hl4]
      exact ⟨hx4, rfl⟩
  have hab : IL g3 g2.length (able ns) := lstAt_of (by rw [hs3, able, List.map_map]; rfl)
  have h3 := (hla.ext x2).ext x3
  refine (s_again (f := m_line) rfl (door_line t) h3 ((hline.ext x2).ext x3) (line_small t).1 (line_small t).2).mono fun w g4 ⟨x4, e⟩ => ?_
  subst e
  refine ⟨_, rfl, ?_⟩
  rw [if_neg (by decide)]
  refine (s_again (f := m_spare_numbers) rfl (door_spare t) (h3.ext x4) ((hsp.ext x3).ext x4) (spare_small t).1 (spare_small t).2).mono fun w g5 ⟨x5, e⟩ => ?_
  subst e
  refine ⟨_, rfl, ?_⟩
  rw [if_neg (by decide)]
  refine (s_again (f := m_able_counts) rfl (door_able t) ((h3.ext x4).ext x5) ((hab.ext x4).ext x5) (able_small t).1 (able_small t).2).mono fun w g6 ⟨x6, e⟩ => ?_
  subst e
  refine ⟨_, rfl, ?_⟩
  rw [if_neg (by decide)]
  have X6 := x1.trans (x2.trans (x3.trans (x4.trans (x5.trans x6))))
  have h6 := h.ext X6
  have u6 := u.ext X6
  refine ⟨by decide, ?_⟩
  generalize hT : nxt _ _ = T
  have hEnd : ∀ (ρ : Env) (k : G), ρ[1]? = some (some (.ref a)) → ρ[5]? = some (some (.str (shL ns))) → IL k a ns → Fr p g k → PU k p m → OkS ((sRet (mOp2 opEq (mCall bRepr (aCons (mVar 1) (aNil))) (mVar 5))) ρ k) fun f g' => match f with
      | .nx _ => W.non = W.bl true ∧ Fr p g g' ∧ PU g' p m
      | .rt w => w = .bl true ∧ Fr p g g' ∧ PU g' p m
      | _ => False := by
    intro ρ k e1 e2 hk hf hu
    simp only [okS_ret, ok_op2, ok_call, ok_acons, ok_anil, ok_var, e1, e2, Option.some.injEq, exists_eq_left']
    rw [ok_reprL hk sN lN, ok_eqS, decide_eq_true rfl]
    exact ⟨rfl, hf, hu⟩
  refine forGo_inv 4 (fun i ρ k => ∃ r4 r7 r8 : Option W, ρ = [some (.ref p), some (.ref a), some (.ref g1.length), some (.ref g2.length), r4, some (.str (shL ns)), some (.ref b), r7, r8, none, none, none, none] ∧ Fr p g6 k ∧ PU k p (m + 2 + 2 * (4 - i))) (fun i ρ k hi hp => ?_) (fun ρ k hp => ?_) _ 0 _ _ (Nat.zero_add _) ⟨_, _, _, rfl, Fr.refl _ _, u6.mono (by omega)⟩
  · obtain ⟨r4, r7, r8, rfl, f, uu⟩ := hp
    refine ⟨_, _, rng_at hi, ?_⟩
    have hk := h6.fr f hap
    simp only [ok_def, okS_seq, okS_ret, okS_asg, okS_if, okS_E, okS_par, okS_aug, okS_nop, nxt_nx, nxt_rt, okS_brk, okS_cnt, ok_var, ok_C, ok_op2, ok_op1, ok_call, ok_acons, ok_anil, ok_lst, ok_tup, ok_tVal, ok_mAnd, ok_mOr, ok_mNot, ok_if, ok_tNot, ok_tAnd, ok_tOr, ok_tYes, ok_chain, ok_star, ok_gName, ok_oNone, ok_oSome, ok_sl, ok_rev, ok_mt, ok_ok, ok_lc, okS_for, putL, wipe, startM, List.map_cons, List.map_nil, List.length_cons, List.length_nil, List.replicate, List.cons_append, List.nil_append, Nat.reduceAdd, Nat.reduceSub, List.getElem?_cons_zero, List.getElem?_cons_succ, List.set_cons_succ, List.set_cons_zero, Option.some.injEq, W.bl.injEq, W.int.injEq, W.ref.injEq, exists_eq_left', exists_eq_left, decide_eq_true_eq, true_and, and_true, ok_add, ok_sub, ok_lt, ok_le, ok_gt, ok_ge, ok_neg, ok_mul, ok_div, ok_mod, ok_pow, ok_max2, ok_min2, ok_abs, ok_int, ok_iLst, ok_iTup, ok_iEnum, ok_iZip, ok_iRng1, exists_list1, List.cons.injEq, exists_and_left, exists_const, exists_eq, if_true, if_false, Bool.not_true, Bool.not_false, Bool.false_eq_true, decide_true, decide_false, ok_callP, pick321]
    rw [ok_len hk]
    refine (s_toss (n := m + 2 + 2 * (4 - (i + 1)) + 1) (uu.mono (by omega)) (by omega) (lgs (by omega) (by omega))).mono fun w k1 ⟨sp, e, sp0, sp1, fa, ua⟩ => ?_
    subst e
    refine (s_toss (n := m + 2 + 2 * (4 - (i + 1))) (ua.mono (by omega)) (by omega) (by decide)).mono fun w k2 ⟨tk, e, tk0, tk1, fb, ub⟩ => ?_
    subst e
    have hk2 := (hk.fr fa hap).fr fb hap
    rw [ok_ix hk2 sp0 sp1, ok_ix hk2 sp0 sp1, ok_sub, ok_max2]
    have hc := t.2.2.1 _ (getD_mem (ns := ns) (i := sp.toNat) (by omega))
    refine ⟨by decide, ?_⟩
    have xs := Ext.snoc k2 (O.lst [W.int tk, W.int (ns.getD sp.toNat 0), W.int (max 0 (ns.getD sp.toNat 0 - 1)), W.int 0])
    have hL : IL (k2 ++ [O.lst [W.int tk, W.int (ns.getD sp.toNat 0), W.int (max 0 (ns.getD sp.toNat 0 - 1)), W.int 0]]) k2.length [tk, ns.getD sp.toNat 0, max 0 (ns.getD sp.toNat 0 - 1), 0] := lst_new _ _
    have e0 : (0 : Int) + i = i := by omega
    rw [e0, ok_ix hL (by omega) (by simp; omega)]
    have hv : 0 ≤ [tk, ns.getD sp.toNat 0, max 0 (ns.getD sp.toNat 0 - 1), 0].getD (i : Int).toNat 0 := by
      have : ∀ x ∈ [tk, ns.getD sp.toNat 0, max 0 (ns.getD sp.toNat 0 - 1), 0], 0 ≤ x := by
        intro x hx
        simp only [List.mem_cons, List.not_mem_nil, or_false] at hx
        omega
      exact this _ (getD_mem (by simp; omega))
    generalize [tk, ns.getD sp.toNat 0, max 0 (ns.getD sp.toNat 0 - 1), 0].getD (i : Int).toNat 0 = v at *
    rw [ok_min2]
    refine (s_can_do (hk2.ext xs) t sp0 sp1 (j := min 59 v) (by omega) (by omega)).mono fun w k3 ⟨x3', e⟩ => ?_
    subst e
    rw [ok_reprB, ok_min2, ok_ix ((hk2.ext xs).ext x3') sp0 sp1, ok_lt, ok_reprB, ok_neS]
    refine ⟨_, rfl, ?_⟩
    rw [decide_eq_true rfl, if_neg (by decide)]
    exact ⟨_, _, _, ⟨rfl, rfl, rfl⟩, ((f.trans fa).trans fb).trans ((xs.trans x3').fr p), ub.ext (xs.trans x3')⟩
  · obtain ⟨r4, r7, r8, rfl, f, uu⟩ := hp
    refine ⟨rng_stop (Nat.le_refl _), ?_⟩
    rw [← hT]
    have hk := h6.fr f hap
    have F := (X6.fr p).trans f
    simp only [ok_def, okS_seq, okS_ret, okS_asg, okS_if, okS_E, okS_par, okS_aug, okS_nop, nxt_nx, nxt_rt, okS_brk, okS_cnt, ok_var, ok_C, ok_op2, ok_op1, ok_call, ok_acons, ok_anil, ok_lst, ok_tup, ok_tVal, ok_mAnd, ok_mOr, ok_mNot, ok_if, ok_tNot, ok_tAnd, ok_tOr, ok_tYes, ok_chain, ok_star, ok_gName, ok_oNone, ok_oSome, ok_sl, ok_rev, ok_mt, ok_ok, ok_lc, okS_for, putL, wipe, startM, List.map_cons, List.map_nil, List.length_cons, List.length_nil, List.replicate, List.cons_append, List.nil_append, Nat.reduceAdd, Nat.reduceSub, List.getElem?_cons_zero, List.getElem?_cons_succ, List.set_cons_succ, List.set_cons_zero, Option.some.injEq, W.bl.injEq, W.int.injEq, W.ref.injEq, exists_eq_left', exists_eq_left, decide_eq_true_eq, true_and, and_true, ok_add, ok_sub, ok_lt, ok_le, ok_gt, ok_ge, ok_neg, ok_mul, ok_div, ok_mod, ok_pow, ok_max2, ok_min2, ok_abs, ok_int, ok_iLst, ok_iTup, ok_iEnum, ok_iZip, ok_iRng1, exists_list1, List.cons.injEq, exists_and_left, exists_const, exists_eq, if_true, if_false, Bool.not_true, Bool.not_false, Bool.false_eq_true, decide_true, decide_false]
    rw [ok_maxL hk t.ne, ok_le]
    refine ⟨_, rfl, ?_⟩
    split
    · rename_i hq
      have hq : maxL ns ≤ 40 := by simpa using hq
      rw [ok_maxL hk t.ne, ok_maxL hk t.ne, ok_maxL hk t.ne, ok_sub]
      refine (s_toss (n := m) (uu.mono (by omega)) (by omega) (lgs (by omega) (by omega))).mono fun w k1 ⟨tk, e, tk0, tk1, fa, ua⟩ => ?_
      subst e
      rw [ok_add]
      have hk1 := hk.fr fa hap
      have xs := Ext.snoc k1 (O.tup [W.int (maxL ns), W.int (maxL ns + tk), W.int 40])
      have hT3 := tup_new k1 [W.int (maxL ns), W.int (maxL ns + tk), W.int 40]
      have F1 := (F.trans fa).trans (xs.fr p)
      have u1 := ua.ext xs
      have hk2 := hk1.ext xs
      refine ⟨by decide, _, hT3, ?_⟩
      generalize k1 ++ [O.tup [W.int (maxL ns), W.int (maxL ns + tk), W.int 40]] = k2 at *
      rw [tup_len hT3]
      have hsel : ∀ j, j < 3 → ∃ v : Int, [W.int (maxL ns), W.int (maxL ns + tk), W.int 40][j]? = some (.int v) ∧ maxL ns ≤ v ∧ v ≤ 40 := by
        intro j hj
        rcases (show j = 0 ∨ j = 1 ∨ j = 2 by omega) with rfl | rfl | rfl
        · exact ⟨_, rfl, by omega, by omega⟩
        · exact ⟨_, rfl, by omega, by omega⟩
        · exact ⟨_, rfl, by omega, by omega⟩
      have hlen : [W.int (maxL ns), W.int (maxL ns + tk), W.int 40].length = 3 := rfl
      generalize [W.int (maxL ns), W.int (maxL ns + tk), W.int 40] = us at *
      rw [hlen]
      refine forGo_inv 3 (fun i ρ q => ∃ r9 r10 : Option W, ρ = [some (.ref p), some (.ref a), some (.ref g1.length), some (.ref g2.length), r4, some (.str (shL ns)), some (.ref b), r7, r8, r9, r10, none, none] ∧ Ext k2 q) (fun i ρ q hi hp => ?_) (fun ρ q hp => ?_) _ 0 _ _ (Nat.zero_add _) ⟨_, _, rfl, Ext.refl _⟩
      · obtain ⟨r9, r10, rfl, hx⟩ := hp
        obtain ⟨v, hv, hv1, hv2⟩ := hsel i hi
        refine ⟨_, _, tup_at (hx.tup hT3) hv, ?_⟩
        have ha := hk2.ext hx
        simp only [ok_def, okS_seq, okS_ret, okS_asg, okS_if, okS_E, okS_par, okS_aug, okS_nop, nxt_nx, nxt_rt, okS_brk, okS_cnt, ok_var, ok_C, ok_op2, ok_op1, ok_call, ok_acons, ok_anil, ok_lst, ok_tup, ok_tVal, ok_mAnd, ok_mOr, ok_mNot, ok_if, ok_tNot, ok_tAnd, ok_tOr, ok_tYes, ok_chain, ok_star, ok_gName, ok_oNone, ok_oSome, ok_sl, ok_rev, ok_mt, ok_ok, ok_lc, okS_for, putL, wipe, startM, List.map_cons, List.map_nil, List.length_cons, List.length_nil, List.replicate, List.cons_append, List.nil_append, Nat.reduceAdd, Nat.reduceSub, List.getElem?_cons_zero, List.getElem?_cons_succ, List.set_cons_succ, List.set_cons_zero, Option.some.injEq, W.bl.injEq, W.int.injEq, W.ref.injEq, exists_eq_left', exists_eq_left, decide_eq_true_eq, true_and, and_true, ok_add, ok_sub, ok_lt, ok_le, ok_gt, ok_ge, ok_neg, ok_mul, ok_div, ok_mod, ok_pow, ok_max2, ok_min2, ok_abs, ok_int, ok_iLst, ok_iTup, ok_iEnum, ok_iZip, ok_iRng1, exists_list1, List.cons.injEq, exists_and_left, exists_const, exists_eq, if_true, if_false, Bool.not_true, Bool.not_false, Bool.false_eq_true, decide_true, decide_false, ok_callP, pick21]
        refine (s_others2 ha t hv1 hv2).mono fun w q1 ⟨y1, d, e, hd1, hd⟩ => ?_
        subst e
        have hdL : IL q1 d (ns.map fun c => v - c) := lstAt_of hd
        have sM : ∀ x ∈ ns.map (fun c => v - c), -100 ≤ x ∧ x ≤ 100 := fun x hx => by
          obtain ⟨c, hc, rfl⟩ := List.mem_map.mp hx
          have := t.lt c hc
          omega
        have lM : (ns.map fun c => v - c).length ≤ 100 := by simpa using lN
        rw [ok_reprL hdL sM lM]
        refine ⟨_, ha.ext y1, ?_⟩
        refine lc_ints ns.length (fun k => .int (v - ns.getD k 0)) (Nat.le_trans hn (by decide)) (ha.ext y1).itl (fun k q2 hi2 hx2 => ?_) (fun q2 hx2 => ((ha.ext y1).ext hx2).stop) fun q2 hx2 hg => ?_
        · refine ⟨_, _, ((ha.ext y1).ext hx2).at hi2, ?_⟩
          simp only [ok_def, okS_seq, okS_ret, okS_asg, okS_if, okS_E, okS_par, okS_aug, okS_nop, nxt_nx, nxt_rt, okS_brk, okS_cnt, ok_var, ok_C, ok_op2, ok_op1, ok_call, ok_acons, ok_anil, ok_lst, ok_tup, ok_tVal, ok_mAnd, ok_mOr, ok_mNot, ok_if, ok_tNot, ok_tAnd, ok_tOr, ok_tYes, ok_chain, ok_star, ok_gName, ok_oNone, ok_oSome, ok_sl, ok_rev, ok_mt, ok_ok, ok_lc, okS_for, putL, wipe, startM, List.map_cons, List.map_nil, List.length_cons, List.length_nil, List.replicate, List.cons_append, List.nil_append, Nat.reduceAdd, Nat.reduceSub, List.getElem?_cons_zero, List.getElem?_cons_succ, List.set_cons_succ, List.set_cons_zero, Option.some.injEq, W.bl.injEq, W.int.injEq, W.ref.injEq, exists_eq_left', exists_eq_left, decide_eq_true_eq, true_and, and_true, ok_add, ok_sub, ok_lt, ok_le, ok_gt, ok_ge, ok_neg, ok_mul, ok_div, ok_mod, ok_pow, ok_max2, ok_min2, ok_abs, ok_int, ok_iLst, ok_iTup, ok_iEnum, ok_iZip, ok_iRng1, exists_list1, List.cons.injEq, exists_and_left, exists_const, exists_eq, if_true, if_false, Bool.not_true, Bool.not_false, Bool.false_eq_true, decide_true, decide_false]
          exact Ext.refl _
        · have hO : IL q2 q1.length (ns.map fun c => v - c) := by
            refine lstAt_of ?_
            rw [hg, map_getD (fun c => .int (v - c)), List.map_map]
            rfl
          rw [ok_reprL hO sM lM, ok_neS]
          refine ⟨_, rfl, ?_⟩
          rw [decide_eq_true rfl, if_neg (by decide)]
          have hd2 := hx2.get hd
          refine ⟨isL_of (lstAt_of hd2), ?_⟩
          rw [ok_append hd2 (Nat.lt_of_le_of_lt (show _ ≤ 100 by simpa using lN) (by decide))]
          have z := (y1.trans hx2).set hd1 (.lst ((ns.map fun c => v - c).map .int ++ [W.non]))
          refine (s_others2 (ha.ext z) t hv1 hv2).mono fun w q3 ⟨y3, d3, e, _, hd3⟩ => ?_
          subst e
          have hd3L : IL q3 d3 (ns.map fun c => v - c) := lstAt_of hd3
          rw [ok_len hd3L, ok_len ((ha.ext z).ext y3), ok_neI]
          refine ⟨_, rfl, ?_⟩
          rw [List.length_map, decide_eq_true rfl, if_neg (by decide)]
          exact ⟨_, _, ⟨rfl, rfl⟩, (hx.trans z).trans y3⟩
      · obtain ⟨r9, r10, rfl, hx⟩ := hp
        exact ⟨tup_stop (hx.tup hT3) (by omega), hEnd _ q rfl rfl (hk2.ext hx) (F1.trans (hx.fr p)) (u1.ext hx)⟩
    · rw [ok_reprL hk sN lN, ok_eqS, decide_eq_true rfl]
      exact ⟨rfl, F, uu.mono (by omega)⟩
end M
/-! K01e: things that are no teams. -/
namespace M
theorem cut_map {α β : Type} (f : α → β) (xs : List α) (lo hi : Option Int) : cut (xs.map f) lo hi = (cut xs lo hi).map f := by
  unfold cut
  rw [List.length_map, List.map_take, List.map_drop]
theorem cut_len {α : Type} (xs : List α) (lo hi : Option Int) : (cut xs lo hi).length ≤ xs.length := ((List.take_sublist _ _).trans (List.drop_sublist _ _)).length_le
def TX (P : Nat → Prop) (g : G) (x : W) : Prop := (∃ s, tyOf g x = some s) ∧ ∀ b, x = .ref b → P b
def JX (P : Nat → Prop) (g : G) (w : W) : Prop := TX P g w ∧ ∀ a, w = .ref a → tyOf g w = some "list" → ∃ ws, lstAt g a = some ws ∧ ws.length ≤ SZ ∧ ∀ x ∈ ws, TX P g x
theorem JX.jd {P : Nat → Prop} {g : G} {w : W} (h : JX P g w) : JD g w := by
  obtain ⟨⟨⟨t, ht⟩, _⟩, h2⟩ := h
  refine ⟨t, ht, fun a ha e => ?_⟩
  obtain ⟨ws, h3, h4, h5⟩ := h2 a ha (by rw [ht, e])
  exact ⟨ws, h3, h4, fun x hx => (h5 x hx).1⟩
theorem ty_get {g : G} {b : Nat} {s : String} (h : tyOf g (.ref b) = some s) : ∃ o, g[b]? = some o := by
  unfold tyOf at h
  dsimp only at h
  cases q : g[b]? with
  | none => rw [q] at h; cases h
  | some o => exact ⟨o, rfl⟩
theorem ty_pres {P : Nat → Prop} {g g' : G} {x : W} (h : ∀ q o, P q → g[q]? = some o → g'[q]? = some o) (hx : TX P g x) : tyOf g' x = tyOf g x := by
  cases x with
  | ref b =>
    obtain ⟨⟨s, hs⟩, hp⟩ := hx
    obtain ⟨o, ho⟩ := ty_get hs
    unfold tyOf
    dsimp only
    rw [h b o (hp b rfl) ho, ho]
  | _ => rfl
theorem TX.pres {P : Nat → Prop} {g g' : G} {x : W} (h : ∀ q o, P q → g[q]? = some o → g'[q]? = some o) (hx : TX P g x) : TX P g' x := by
  obtain ⟨s, hs⟩ := hx.1
  exact ⟨⟨s, by rw [ty_pres h hx, hs]⟩, hx.2⟩
theorem JX.pres {P : Nat → Prop} {g g' : G} {w : W} (hw : JX P g w) (h : ∀ q o, P q → g[q]? = some o → g'[q]? = some o) : JX P g' w := by
  refine ⟨hw.1.pres h, fun a ha ht => ?_⟩
  rw [ty_pres h hw.1] at ht
  obtain ⟨ws, h1, h2, h3⟩ := hw.2 a ha ht
  refine ⟨ws, ?_, h2, fun x hx => (h3 x hx).pres h⟩
  have hp := hw.1.2 a ha
  unfold lstAt at h1 ⊢
  cases q : g[a]? with
  | none => rw [q] at h1; cases h1
  | some o => rw [h a o hp q]; rw [q] at h1; exact h1
theorem TX.weak {P R : Nat → Prop} {g : G} {x : W} (hx : TX P g x) (h : ∀ b o, P b → g[b]? = some o → R b) : TX R g x := by
  refine ⟨hx.1, fun b hb => ?_⟩
  obtain ⟨s, hs⟩ := hx.1
  subst hb
  obtain ⟨o, ho⟩ := ty_get hs
  exact h b o (hx.2 b rfl) ho
theorem JX.weak {P R : Nat → Prop} {g : G} {w : W} (hw : JX P g w) (h : ∀ b o, P b → g[b]? = some o → R b) : JX R g w := by
  refine ⟨hw.1.weak h, fun a ha ht => ?_⟩
  obtain ⟨ws, h1, h2, h3⟩ := hw.2 a ha ht
  exact ⟨ws, h1, h2, fun x hx => (h3 x hx).weak h⟩
theorem JX.ext {P : Nat → Prop} {g g' : G} {w : W} (hw : JX P g w) (h : Ext g g') : JX P g' w := hw.pres fun q o _ e => h.get e
theorem tx_flat {P : Nat → Prop} {g : G} {w : W} {t : String} (h : tyOf g w = some t) (hn : ∀ b, w ≠ .ref b) : TX P g w := ⟨⟨t, h⟩, fun b e => absurd e (hn b)⟩
theorem jx_flat {P : Nat → Prop} {g : G} {w : W} {t : String} (h : tyOf g w = some t) (hn : ∀ b, w ≠ .ref b) : JX P g w := ⟨tx_flat h hn, fun a e => absurd e (hn a)⟩
theorem tx_int {P : Nat → Prop} {g : G} {i : Int} : TX P g (.int i) := tx_flat rfl (fun _ => nofun)
theorem tx_ref {P : Nat → Prop} {g : G} {a : Nat} {o : O} (h : g[a]? = some o) (ho : ∀ c fs, o ≠ .ins c fs) (hp : P a) : TX P g (.ref a) := by
  refine ⟨?_, fun b e => by cases e; exact hp⟩
  unfold tyOf
  dsimp only
  rw [h]
  cases o with
  | ins c fs => exact absurd rfl (ho c fs)
  | _ => exact ⟨_, rfl⟩
theorem jx_tup {P : Nat → Prop} {g : G} {a : Nat} {ws : List W} (h : g[a]? = some (.tup ws)) (hp : P a) : JX P g (.ref a) := by
  refine ⟨tx_ref h (fun _ _ => nofun) hp, fun b e ht => ?_⟩
  cases e
  unfold tyOf at ht
  dsimp only at ht
  rw [h] at ht
  exact absurd (Option.some.inj ht) (by decide)
theorem jx_dct {P : Nat → Prop} {g : G} {a : Nat} {ws : List (Key × W)} (h : g[a]? = some (.dct ws)) (hp : P a) : JX P g (.ref a) := by
  refine ⟨tx_ref h (fun _ _ => nofun) hp, fun b e ht => ?_⟩
  cases e
  unfold tyOf at ht
  dsimp only at ht
  rw [h] at ht
  exact absurd (Option.some.inj ht) (by decide)
theorem jx_lst {P : Nat → Prop} {g : G} {a : Nat} {ws : List W} (h : g[a]? = some (.lst ws)) (hp : P a) (hl : ws.length ≤ 1000) (hw : ∀ x ∈ ws, TX P g x) : JX P g (.ref a) :=
  ⟨tx_ref h (fun _ _ => nofun) hp, fun b e _ => by cases e; exact ⟨ws, lstAt_of h, Nat.le_trans hl (by decide), hw⟩⟩
theorem jx_ints {P : Nat → Prop} {g : G} {a : Nat} {ns : List Int} (h : g[a]? = some (.lst (ns.map .int))) (hp : P a) (hl : ns.length ≤ 1000) : JX P g (.ref a) :=
  jx_lst h hp (by simpa using hl) fun x hx => by obtain ⟨i, _, rfl⟩ := List.mem_map.mp hx; exact tx_int
theorem s_deep {P : Nat → Prop} {g : G} {a : Nat} (hT : TX P g (.ref a)) (hP : ∀ b, g.length ≤ b → P b) : Ok (m__law_deep [.ref a, .int 17] g) fun w g' => Ext g g' ∧ JX P g' w := by
  unfold m__law_deep b__law_deep
  simp only [ok_def, okS_seq, okS_ret, okS_asg, okS_if, okS_E, okS_par, okS_aug, okS_nop, nxt_nx, nxt_rt, okS_brk, okS_cnt, ok_var, ok_C, ok_op2, ok_op1, ok_call, ok_acons, ok_anil, ok_lst, ok_tup, ok_tVal, ok_mAnd, ok_mOr, ok_mNot, ok_if, ok_tNot, ok_tAnd, ok_tOr, ok_tYes, ok_chain, ok_star, ok_gName, ok_oNone, ok_oSome, ok_sl, ok_rev, ok_mt, ok_ok, ok_lc, okS_for, putL, wipe, startM, List.map_cons, List.map_nil, List.length_cons, List.length_nil, List.replicate, List.cons_append, List.nil_append, Nat.reduceAdd, Nat.reduceSub, List.getElem?_cons_zero, List.getElem?_cons_succ, List.set_cons_succ, List.set_cons_zero, Option.some.injEq, W.bl.injEq, W.int.injEq, W.ref.injEq, exists_eq_left', exists_eq_left, decide_eq_true_eq, true_and, and_true, ok_add, ok_sub, ok_lt, ok_le, ok_gt, ok_ge, ok_neg, ok_mul, ok_div, ok_mod, ok_pow, ok_max2, ok_min2, ok_abs, ok_int, ok_iLst, ok_iTup, ok_iEnum, ok_iZip, ok_iRng1, exists_list1, List.cons.injEq, exists_and_left, exists_const, exists_eq, if_true, if_false, Bool.not_true, Bool.not_false, Bool.false_eq_true, decide_true, decide_false]
  refine ⟨by decide, ?_⟩
  refine forGo_inv 17 (fun i ρ k => ∃ (x : Nat) (r2 : Option W), ρ = [some (.ref x), some (.int 17), r2] ∧ Ext g k ∧ TX P k (.ref x) ∧ (0 < i → JX P k (.ref x))) (fun i ρ k hi hp => ?_) (fun ρ k hp => ?_) _ 0 _ _ (Nat.zero_add _) ⟨_, _, rfl, Ext.refl _, hT, fun h => absurd h (Nat.lt_irrefl _)⟩
  · obtain ⟨x, r2, rfl, hx, ht, _⟩ := hp
    refine ⟨_, _, rng_at hi, ?_⟩
    simp only [ok_def, okS_seq, okS_ret, okS_asg, okS_if, okS_E, okS_par, okS_aug, okS_nop, nxt_nx, nxt_rt, okS_brk, okS_cnt, ok_var, ok_C, ok_op2, ok_op1, ok_call, ok_acons, ok_anil, ok_lst, ok_tup, ok_tVal, ok_mAnd, ok_mOr, ok_mNot, ok_if, ok_tNot, ok_tAnd, ok_tOr, ok_tYes, ok_chain, ok_star, ok_gName, ok_oNone, ok_oSome, ok_sl, ok_rev, ok_mt, ok_ok, ok_lc, okS_for, putL, wipe, startM, List.map_cons, List.map_nil, List.length_cons, List.length_nil, List.replicate, List.cons_append, List.nil_append, Nat.reduceAdd, Nat.reduceSub, List.getElem?_cons_zero, List.getElem?_cons_succ, List.set_cons_succ, List.set_cons_zero, Option.some.injEq, W.bl.injEq, W.int.injEq, W.ref.injEq, exists_eq_left', exists_eq_left, decide_eq_true_eq, true_and, and_true, ok_add, ok_sub, ok_lt, ok_le, ok_gt, ok_ge, ok_neg, ok_mul, ok_div, ok_mod, ok_pow, ok_max2, ok_min2, ok_abs, ok_int, ok_iLst, ok_iTup, ok_iEnum, ok_iZip, ok_iRng1, exists_list1, List.cons.injEq, exists_and_left, exists_const, exists_eq, if_true, if_false, Bool.not_true, Bool.not_false, Bool.false_eq_true, decide_true, decide_false]
    have xs := Ext.snoc k (O.lst [W.ref x])
    have hj : JX P (k ++ [O.lst [W.ref x]]) (.ref k.length) := jx_lst (get_new _ _) (hP _ hx.len) (by simp) fun y hy => by
      rw [List.mem_singleton.mp hy]
      exact ht.pres fun q o _ e => xs.get e
    exact ⟨by decide, k.length, _, ⟨rfl, rfl⟩, hx.trans xs, hj.1, fun _ => hj⟩
  · obtain ⟨x, r2, rfl, hx, ht, hj⟩ := hp
    refine ⟨rng_stop (Nat.le_refl _), ?_⟩
    simp only [ok_def, okS_seq, okS_ret, okS_asg, okS_if, okS_E, okS_par, okS_aug, okS_nop, nxt_nx, nxt_rt, okS_brk, okS_cnt, ok_var, ok_C, ok_op2, ok_op1, ok_call, ok_acons, ok_anil, ok_lst, ok_tup, ok_tVal, ok_mAnd, ok_mOr, ok_mNot, ok_if, ok_tNot, ok_tAnd, ok_tOr, ok_tYes, ok_chain, ok_star, ok_gName, ok_oNone, ok_oSome, ok_sl, ok_rev, ok_mt, ok_ok, ok_lc, okS_for, putL, wipe, startM, List.map_cons, List.map_nil, List.length_cons, List.length_nil, List.replicate, List.cons_append, List.nil_append, Nat.reduceAdd, Nat.reduceSub, List.getElem?_cons_zero, List.getElem?_cons_succ, List.set_cons_succ, List.set_cons_zero, Option.some.injEq, W.bl.injEq, W.int.injEq, W.ref.injEq, exists_eq_left', exists_eq_left, decide_eq_true_eq, true_and, and_true, ok_add, ok_sub, ok_lt, ok_le, ok_gt, ok_ge, ok_neg, ok_mul, ok_div, ok_mod, ok_pow, ok_max2, ok_min2, ok_abs, ok_int, ok_iLst, ok_iTup, ok_iEnum, ok_iZip, ok_iRng1, exists_list1, List.cons.injEq, exists_and_left, exists_const, exists_eq, if_true, if_false, Bool.not_true, Bool.not_false, Bool.false_eq_true, decide_true, decide_false]
    exact ⟨hx, hj (by omega)⟩
theorem ok_tuple {g : G} {a : Nat} {ws : List W} {Q : W → G → Prop} (h : lstAt g a = some ws) : Ok (bTuple [.ref a] g) Q ↔ Q (.ref g.length) (g ++ [.tup ws]) := by
  unfold bTuple
  dsimp only
  rw [h]
  exact ok_ok
theorem ok_mulL {g : G} {a n : Nat} {i : Int} {Q : W → G → Prop} (h : g[a]? = some (.lst [.int i])) (hn : n ≤ 1000) : Ok (opMul (.ref a) (.int n) g) Q ↔ Q (.ref g.length) (g ++ [.lst ((List.replicate n i).map .int)]) := by
  have e : (List.replicate (n : Int).toNat [W.int i]).flatten = (List.replicate n i).map .int := by
    rw [Int.toNat_natCast]
    clear hn
    induction n with
    | zero => rfl
    | succ n ih => rw [List.replicate_succ, List.flatten_cons, ih, List.replicate_succ]; rfl
  unfold opMul
  dsimp only
  rw [h]
  dsimp only
  rw [if_pos ⟨by omega, by omega, by simp; exact Nat.le_trans hn (by decide)⟩, e]
  exact ok_ok
def JE (P : Nat → Prop) (ρ : Env) (g0 : G) (e : ME) : Prop := ∀ g, Ext g0 g → Ok (e ρ g) fun w g' => Ext g g' ∧ JX P g' w
def JA (P : Nat → Prop) (ρ : Env) (g0 : G) (k : Nat) (as : MA) : Prop := ∀ g, Ext g0 g → Ok (as ρ g) fun xs g' => Ext g g' ∧ xs.length = k ∧ ∀ x ∈ xs, JX P g' x
def LI (ρ : Env) (e : ME) : Prop := ∀ g, Ok (e ρ g) fun w g' => Ext g g' ∧ ∃ (b : Nat) (ns : List Int), w = .ref b ∧ g.length ≤ b ∧ g'[b]? = some (.lst (ns.map W.int)) ∧ ns.length ≤ 500
section
variable {P : Nat → Prop} {ρ : Env} {g0 : G} {e e2 : ME} {as : MA} {k : Nat}
theorem ja_nil : JA P ρ g0 0 aNil := fun g _ => ok_anil.mpr ⟨Ext.refl _, rfl, fun x hx => nomatch hx⟩
theorem ja_cons (h1 : JE P ρ g0 e) (h2 : JA P ρ g0 k as) : JA P ρ g0 (k + 1) (aCons e as) := fun g hg => by
  rw [ok_acons]
  refine (h1 g hg).mono fun w g1 ⟨x1, j1⟩ => (h2 g1 (hg.trans x1)).mono fun xs g2 ⟨x2, hl, j2⟩ => ⟨x1.trans x2, by simp [hl], fun x hx => ?_⟩
  rcases List.mem_cons.mp hx with rfl | hx
  · exact j1.ext x2
  · exact j2 x hx
theorem je_C {w : W} {t : String} (h : ∀ g, tyOf g w = some t) (hn : ∀ b, w ≠ .ref b) : JE P ρ g0 (mC w) := fun g _ => ok_C.mpr ⟨Ext.refl _, jx_flat (h g) hn⟩
theorem je_int (h : ∀ g, Ok (e ρ g) fun w g' => g' = g ∧ ∃ i : Int, w = .int i) : JE P ρ g0 e := fun g _ => (h g).mono fun w g' ⟨e1, i, e2⟩ => by
  subst e1 e2
  exact ⟨Ext.refl _, jx_flat (t := "int") rfl (fun _ => nofun)⟩
theorem je_lst (hP : ∀ b, g0.length ≤ b → P b) (h : JA P ρ g0 k as) (hk : k ≤ 1000) : JE P ρ g0 (mLst as) := fun g hg => by
  rw [ok_lst]
  refine (h g hg).mono fun xs g1 ⟨x1, hl, hx⟩ => ⟨by rw [hl]; exact Nat.le_trans hk (by decide), x1.trans (Ext.snoc _ _), jx_lst (get_new _ _) (hP _ (Nat.le_trans hg.len x1.len)) (by omega) fun x hx2 => ((hx x hx2).ext (Ext.snoc _ _)).1⟩
theorem je_tup (hP : ∀ b, g0.length ≤ b → P b) (h : JA P ρ g0 k as) (hk : k ≤ 1000) : JE P ρ g0 (mTup as) := fun g hg => by
  rw [ok_tup]
  refine (h g hg).mono fun xs g1 ⟨x1, hl, hx⟩ => ⟨by rw [hl]; exact Nat.le_trans hk (by decide), x1.trans (Ext.snoc _ _), jx_tup (get_new _ _) (hP _ (Nat.le_trans hg.len x1.len))⟩
theorem je_d0 (hP : ∀ b, g0.length ≤ b → P b) : JE P ρ g0 mD0 := fun g hg => ok_D0.mpr ⟨Ext.snoc _ _, jx_dct (get_new _ _) (hP _ hg.len)⟩
theorem je_d1 (hP : ∀ b, g0.length ≤ b → P b) {x : M.Str} {i : Int} : JE P ρ g0 (mD1 x i) := fun g hg => ok_D1.mpr ⟨Ext.snoc _ _, jx_dct (get_new _ _) (hP _ hg.len)⟩
theorem je_var {i : Nat} {w : W} (h : ρ[i]? = some (some w)) (hw : JX P g0 w) : JE P ρ g0 (mVar i) := fun g hg => ok_var.mpr ⟨w, h, Ext.refl _, hw.ext hg⟩
theorem je_li (hP : ∀ b, g0.length ≤ b → P b) (h : LI ρ e) : JE P ρ g0 e := fun g hg => (h g).mono fun w g1 ⟨x1, b, ns, e, hb, hg1, hl⟩ => by
  subst e
  exact ⟨x1, jx_ints hg1 (hP _ (Nat.le_trans hg.len hb)) (by omega)⟩
theorem je_tuple (hP : ∀ b, g0.length ≤ b → P b) {i a : Nat} {ns : List Int} (h : ρ[i]? = some (some (.ref a))) (ha : IL g0 a ns) : JE P ρ g0 (mCall bTuple (aCons (mVar i) aNil)) := fun g hg => by
  rw [ok_call, ok_acons, ok_var]
  refine ⟨_, h, ?_⟩
  rw [ok_anil, ok_tuple (ha.ext hg)]
  exact ⟨Ext.snoc _ _, jx_tup (get_new _ _) (hP _ hg.len)⟩
theorem je_deep (hP : ∀ b, g0.length ≤ b → P b) {i a : Nat} (h : ρ[i]? = some (some (.ref a))) (ha : JX P g0 (.ref a)) : JE P ρ g0 (mCall m__law_deep (aCons (mVar i) (aCons (mC (.int 17)) aNil))) := fun g hg => by
  rw [ok_call, ok_acons, ok_var]
  refine ⟨_, h, ?_⟩
  rw [ok_acons, ok_C, ok_anil]
  exact s_deep (ha.ext hg).1 fun b hb => hP b (Nat.le_trans hg.len hb)
theorem li_one {i : Int} : LI ρ (mLst (aCons (mC (.int i)) aNil)) := fun g => by
  rw [ok_lst, ok_acons, ok_C, ok_anil]
  exact ⟨show 1 ≤ SZ by decide, Ext.snoc _ _, _, [i], rfl, Nat.le_refl _, get_new _ _, by simp⟩
theorem li_mul {i : Int} {n : Nat} (hn : n ≤ 100) : LI ρ (mOp2 opMul (mLst (aCons (mC (.int i)) aNil)) (mC (.int (n : Int)))) := fun g => by
  rw [ok_op2, ok_lst, ok_acons, ok_C, ok_anil]
  refine ⟨show 1 ≤ SZ by decide, ?_⟩
  rw [ok_C, ok_mulL (get_new _ _) (by omega)]
  exact ⟨(Ext.snoc _ _).trans (Ext.snoc _ _), _, _, rfl, by simp, get_new _ _, by simp; omega⟩
theorem li_add (h : LI ρ e) (h2 : LI ρ e2) : Ok (mOp2 opAdd e e2 ρ g0) fun w g' => Ext g0 g' ∧ ∃ (b : Nat) (ns : List Int), w = .ref b ∧ g0.length ≤ b ∧ g'[b]? = some (.lst (ns.map W.int)) ∧ ns.length ≤ 1000 := by
  rw [ok_op2]
  refine (h g0).mono fun w g1 ⟨x1, b, ns, e, hb, hg1, hl⟩ => ?_
  subst e
  refine (h2 g1).mono fun w g2 ⟨x2, b2, ns2, e, hb2, hg2, hl2⟩ => ?_
  subst e
  rw [ok_addL (x2.get hg1) hg2 (by simp; exact Nat.le_trans (show _ ≤ 1000 by omega) (by decide))]
  exact ⟨(x1.trans x2).trans (Ext.snoc _ _), _, ns ++ ns2, rfl, (x1.trans x2).len, by rw [get_new, List.map_append], by simp; omega⟩
theorem je_add (hP : ∀ b, g0.length ≤ b → P b) (h : LI ρ e) (h2 : LI ρ e2) : JE P ρ g0 (mOp2 opAdd e e2) := fun g hg => (li_add (g0 := g) h h2).mono fun w g1 ⟨x1, b, ns, e, hb, hg1, hl⟩ => by
  subst e
  exact ⟨x1, jx_ints hg1 (hP _ (Nat.le_trans hg.len hb)) hl⟩
theorem li_rg2 {a b : Int} (h : inR2 a b = true) (hl : (b - a).toNat ≤ 500) : LI ρ (mLrg2 (mC (.int a)) (mC (.int b))) := fun g => by
  rw [ok_lrg2c h]
  exact ⟨Ext.snoc _ _, _, _, rfl, Nat.le_refl _, get_new _ _, by rw [rg_len]; exact hl⟩
end
theorem s_bad {g : G} {p a m : Nat} {ns : List Int} (u : PU g p (m + 1)) (h : IL g a ns) (hap : a ≠ p) (t : Team ns) : Ok (m__law_bad_teams [.ref p, .ref a] g) fun w g' => ∃ b ws, w = .ref b ∧ Fr p g g' ∧ PU g' p m ∧ g'[b]? = some (.lst ws) ∧ ∀ x ∈ ws, JD g' x := by
  have hpg := u.lt
  have hP : ∀ b, g.length ≤ b → b ≠ p := fun b hb => by omega
  have hcrew : JX (· ≠ p) g (.ref a) := by
    refine ⟨⟨⟨"list", ?_⟩, fun b e => by cases e; exact hap⟩, fun b e _ => by cases e; exact ⟨_, h, by simp; exact Nat.le_trans t.2.1 (by decide), fun x hx => by obtain ⟨i, _, rfl⟩ := List.mem_map.mp hx; exact tx_int⟩⟩
    unfold IL lstAt at h
    unfold tyOf
    split at h
    · rename_i q; dsimp only; rw [q]
    · rename_i q; dsimp only; rw [q]
    · cases h
  unfold m__law_bad_teams b__law_bad_teams
  rw [ok_def]
  refine ⟨rfl, ?_⟩
  rw [okS_seq, okS_asg, ok_lst]
  generalize hρ : startM 5 [W.ref p, W.ref a] = ρ
  have e1 : ρ[1]? = some (some (.ref a)) := by rw [← hρ]; rfl
  have neg1 : ∀ (i : Int) (ρ : Env) (g : G), Ok (mOp1 opNeg (mC (.int i)) ρ g) fun w g' => g' = g ∧ ∃ i : Int, w = .int i := fun i ρ g => by rw [ok_op1, ok_C, ok_neg]; exact ⟨rfl, _, rfl⟩
  have J1 : JA (· ≠ p) ρ g 15 _ := ja_cons (je_C (t := "NoneType") (w := .non) (fun _ => rfl) (fun _ => nofun)) <| ja_cons (je_C (t := "int") (w := .int 0) (fun _ => rfl) (fun _ => nofun)) <| ja_cons (je_C (t := "bool") (w := .bl true) (fun _ => rfl) (fun _ => nofun)) <|
    ja_cons (je_C (t := "str") (w := .str (PySem.Str.ofString "")) (fun _ => rfl) (fun _ => nofun)) <| ja_cons (je_C (t := "str") (w := .str (PySem.Str.ofString "2 1")) (fun _ => rfl) (fun _ => nofun)) <| ja_cons (je_d0 hP) <| ja_cons (je_tup hP ja_nil (by omega)) <|
    ja_cons (je_tuple hP e1 h) <| ja_cons (je_lst hP (ja_cons (je_var e1 hcrew) ja_nil) (by omega)) <| ja_cons (je_d1 hP (x := PySem.Str.ofString "0") (i := 1)) <| ja_cons (je_lst hP ja_nil (by omega)) <|
    ja_cons (je_lst hP (ja_cons (je_C (t := "NoneType") (w := .non) (fun _ => rfl) (fun _ => nofun)) ja_nil) (by omega)) <| ja_cons (je_lst hP (ja_cons (je_C (t := "bool") (w := .bl true) (fun _ => rfl) (fun _ => nofun)) ja_nil) (by omega)) <|
    ja_cons (je_lst hP (ja_cons (je_C (t := "int") (w := .int 0) (fun _ => rfl) (fun _ => nofun)) (ja_cons (je_C (t := "bool") (w := .bl false) (fun _ => rfl) (fun _ => nofun)) ja_nil)) (by omega)) <|
    ja_cons (je_lst hP (ja_cons (je_int (neg1 1 ρ)) ja_nil) (by omega)) ja_nil
  refine (J1 g (Ext.refl _)).mono fun xs1 g1 ⟨x1, hl1, j1⟩ => ⟨by rw [hl1]; decide, ?_⟩
  rw [ok_gName, nxt_nx, okS_seq, okS_asg, ok_op2, ok_var]
  generalize hρ2 : ρ.set 2 (some (.ref g1.length)) = ρ2
  have e2 : ρ2[2]? = some (some (.ref g1.length)) := by rw [← hρ2, ← hρ]; rfl
  have e21 : ρ2[1]? = some (some (.ref a)) := by rw [← hρ2, ← hρ]; rfl
  refine ⟨_, e2, ?_⟩
  rw [ok_lst]
  have xa := Ext.snoc g1 (O.lst xs1)
  have hf1 := get_new g1 (O.lst xs1)
  have j1 := fun x hx => (j1 x hx).ext xa
  have X1 := x1.trans xa
  generalize g1 ++ [O.lst xs1] = g2 at *
  have hP2 : ∀ b, g2.length ≤ b → b ≠ p := fun b hb => by have := X1.len; omega
  have pw : ∀ (ρ : Env) (g : G), Ok (mOp2 opPow (mC (.int 10)) (mC (.int 30)) ρ g) fun w g' => g' = g ∧ ∃ i : Int, w = .int i := fun ρ g => by
    rw [ok_op2, ok_C, ok_C, ok_pow]
    exact ⟨⟨by decide, by decide, by decide⟩, rfl, _, rfl⟩
  have npw : ∀ (ρ : Env) (g : G), Ok (mOp1 opNeg (mOp2 opPow (mC (.int 10)) (mC (.int 30))) ρ g) fun w g' => g' = g ∧ ∃ i : Int, w = .int i := fun ρ g => by
    rw [ok_op1]
    refine (pw ρ g).mono fun w g' ⟨e1, i, e2⟩ => ?_
    subst e1 e2
    rw [ok_neg]
    exact ⟨rfl, _, rfl⟩
  have jI : ∀ (ρ : Env) (g : G) (i : Int), JE (· ≠ p) ρ g (mC (.int i)) := fun ρ g i => je_C (t := "int") (w := .int i) (fun _ => rfl) (fun _ => nofun)
  have J2 : JA (· ≠ p) ρ2 g2 10 _ := ja_cons (je_lst hP2 (ja_cons (je_C (t := "str") (w := .str (PySem.Str.ofString "1")) (fun _ => rfl) (fun _ => nofun)) ja_nil) (by omega)) <| ja_cons (je_lst hP2 (ja_cons (je_tup hP2 (ja_cons (jI ρ2 g2 1) ja_nil) (by omega)) ja_nil) (by omega)) <|
    ja_cons (je_lst hP2 (ja_cons (je_lst hP2 (ja_cons (jI ρ2 g2 1) ja_nil) (by omega)) ja_nil) (by omega)) <| ja_cons (je_li hP2 (li_mul (i := 0) (n := 21) (by omega))) <| ja_cons (je_li hP2 (li_one (i := 41))) <|
    ja_cons (je_lst hP2 (ja_cons (jI ρ2 g2 42) (ja_cons (jI ρ2 g2 0) ja_nil)) (by omega)) <| ja_cons (je_li hP2 (li_one (i := 59))) <| ja_cons (je_add hP2 (li_mul (i := 0) (n := 18) (by omega)) (li_one (i := 59))) <|
    ja_cons (je_lst hP2 (ja_cons (je_int (pw ρ2)) ja_nil) (by omega)) <| ja_cons (je_lst hP2 (ja_cons (jI ρ2 g2 0) (ja_cons (je_int (pw ρ2)) ja_nil)) (by omega)) ja_nil
  refine (J2 g2 (Ext.refl _)).mono fun xs2 g3 ⟨x3, hl2, j2⟩ => ⟨by rw [hl2]; decide, ?_⟩
  have xb := Ext.snoc g3 (O.lst xs2)
  have hN2 := get_new g3 (O.lst xs2)
  rw [ok_addL ((x3.trans xb).get hf1) hN2 (by rw [hl1, hl2]; decide), ok_gName, nxt_nx]
  have xc := Ext.snoc (g3 ++ [O.lst xs2]) (O.lst (xs1 ++ xs2))
  have hf2 := get_new (g3 ++ [O.lst xs2]) (O.lst (xs1 ++ xs2))
  generalize (g3 ++ [O.lst xs2]).length = F2 at *
  have X3 := x3.trans (xb.trans xc)
  have j12 : ∀ x ∈ xs1 ++ xs2, JX (· ≠ p) ((g3 ++ [O.lst xs2]) ++ [O.lst (xs1 ++ xs2)]) x := fun x hx => by
    rcases List.mem_append.mp hx with hx | hx
    · exact (j1 x hx).ext X3
    · exact (j2 x hx).ext (xb.trans xc)
  generalize (g3 ++ [O.lst xs2]) ++ [O.lst (xs1 ++ xs2)] = g4 at *
  have X4 := X1.trans X3
  have hl12 : (xs1 ++ xs2).length = 25 := by simp [hl1, hl2]
  generalize xs1 ++ xs2 = ys at *
  rw [okS_seq, okS_asg, ok_op2, ok_var]
  generalize hρ3 : ρ2.set 2 (some (.ref F2)) = ρ3
  have e3 : ρ3[2]? = some (some (.ref F2)) := by rw [← hρ3, ← hρ2, ← hρ]; rfl
  have e31 : ρ3[1]? = some (some (.ref a)) := by rw [← hρ3, ← hρ2, ← hρ]; rfl
  refine ⟨_, e3, ?_⟩
  rw [ok_lst]
  have hP4 : ∀ b, g4.length ≤ b → b ≠ p := fun b hb => by have := X4.len; omega
  have J3 : JA (· ≠ p) ρ3 g4 4 _ := ja_cons (je_li hP4 (li_rg2 (a := 41) (b := 61) (by decide) (by decide))) <| ja_cons (je_lst hP4 (ja_cons (jI ρ3 g4 0) (ja_cons (je_int (npw ρ3)) ja_nil)) (by omega)) <|
    ja_cons (je_li hP4 (li_mul (i := 41) (n := 20) (by omega))) <| ja_cons (je_deep hP4 e31 (hcrew.ext X4)) ja_nil
  refine (J3 g4 (Ext.refl _)).mono fun xs3 g5 ⟨x5, hl3, j3⟩ => ⟨by rw [hl3]; decide, ?_⟩
  have xd := Ext.snoc g5 (O.lst xs3)
  have hN3 := get_new g5 (O.lst xs3)
  rw [ok_addL ((x5.trans xd).get hf2) hN3 (by rw [hl12, hl3]; decide), ok_gName, nxt_nx]
  have xe := Ext.snoc (g5 ++ [O.lst xs3]) (O.lst (ys ++ xs3))
  have hf3 := get_new (g5 ++ [O.lst xs3]) (O.lst (ys ++ xs3))
  have hFF : F2 < (g5 ++ [O.lst xs3]).length := Nat.lt_of_lt_of_le (lt_of_get hf2) (x5.trans xd).len
  generalize hF3 : (g5 ++ [O.lst xs3]).length = F3 at *
  have j123 : ∀ x ∈ ys ++ xs3, JX (fun b => b ≠ p ∧ b ≠ F3) ((g5 ++ [O.lst xs3]) ++ [O.lst (ys ++ xs3)]) x := fun x hx => by
    have : JX (· ≠ p) (g5 ++ [O.lst xs3]) x := by
      rcases List.mem_append.mp hx with hx | hx
      · exact (j12 x hx).ext (x5.trans xd)
      · exact (j3 x hx).ext xd
    exact (this.weak fun b o hb ho => ⟨hb, by have := lt_of_get ho; omega⟩).ext xe
  have X5 := X4.trans ((x5.trans xd).trans xe)
  have hFp : F3 ≠ p := by have := (X4.trans (x5.trans xd)).len; omega
  have hl123 : (ys ++ xs3).length = 29 := by simp [hl12, hl3]
  generalize (g5 ++ [O.lst xs3]) ++ [O.lst (ys ++ xs3)] = g6 at *
  generalize ys ++ xs3 = zs at *
  have hρ4 : ρ3.set 2 (some (W.ref F3)) = [some (.ref p), some (.ref a), some (.ref F3), none, none] := by rw [← hρ3, ← hρ2, ← hρ]; rfl
  rw [hρ4]
  clear J1 J2 J3
  have h6 := h.ext X5
  simp only [ok_def, okS_seq, okS_ret, okS_asg, okS_if, okS_E, okS_par, okS_aug, okS_nop, nxt_nx, nxt_rt, okS_brk, okS_cnt, ok_var, ok_C, ok_op2, ok_op1, ok_call, ok_acons, ok_anil, ok_lst, ok_tup, ok_tVal, ok_mAnd, ok_mOr, ok_mNot, ok_if, ok_tNot, ok_tAnd, ok_tOr, ok_tYes, ok_chain, ok_star, ok_gName, ok_oNone, ok_oSome, ok_sl, ok_rev, ok_mt, ok_ok, ok_lc, okS_for, putL, wipe, startM, List.map_cons, List.map_nil, List.length_cons, List.length_nil, List.replicate, List.cons_append, List.nil_append, Nat.reduceAdd, Nat.reduceSub, List.getElem?_cons_zero, List.getElem?_cons_succ, List.set_cons_succ, List.set_cons_zero, Option.some.injEq, W.bl.injEq, W.int.injEq, W.ref.injEq, exists_eq_left', exists_eq_left, decide_eq_true_eq, true_and, and_true, ok_add, ok_sub, ok_lt, ok_le, ok_gt, ok_ge, ok_neg, ok_mul, ok_div, ok_mod, ok_pow, ok_max2, ok_min2, ok_abs, ok_int, ok_iLst, ok_iTup, ok_iEnum, ok_iZip, ok_iRng1, exists_list1, List.cons.injEq, exists_and_left, exists_const, exists_eq, if_true, if_false, Bool.not_true, Bool.not_false, Bool.false_eq_true, decide_true, decide_false]
  rw [ok_len h6]
  refine (s_toss (n := m) (u.ext X5) (by have := t.1; omega) (lgs (by omega) (by have := t.2.1; omega))).mono fun w g7 ⟨kk, e, k0, k1, f7, u7⟩ => ?_
  subst e
  have h7 := h6.fr f7 hap
  have hc := ok_ix (Q := fun _ _ => True) h7 k0 k1
  generalize hcv : ns.getD kk.toNat 0 = c at *
  rw [ok_ix h7 k0 k1, hcv]
  refine ⟨by decide, ?_⟩
  have y1 := Ext.snoc g7 (O.lst [W.int c])
  have n1 := get_new g7 (O.lst [W.int c])
  have hl7 := f7.1
  have hg6p := (u.ext X5).lt
  have hg6F := lt_of_get hf3
  generalize hA8 : g7.length = A8 at *
  generalize g7 ++ [O.lst [W.int c]] = g8 at *
  rw [ok_ix (h7.ext y1) k0 k1, hcv]
  refine ⟨by decide, ⟨by decide, by decide, by decide⟩, by decide, ?_⟩
  have y2 := Ext.snoc g8 (O.tup [W.int c])
  have n2 := get_new g8 (O.tup [W.int c])
  have hl8 := y1.len
  generalize hA9 : g8.length = A9 at *
  generalize g8 ++ [O.tup [W.int c]] = g9 at *
  have hl9 := y2.len
  have y3 := Ext.snoc g9 (O.tup [W.non, W.bl true, W.str (PySem.Str.ofString "1"), W.int (-1), W.ref A8, W.ref A9, W.int 61, W.int (10 ^ Int.toNat 30)])
  have n3 := tup_new g9 [W.non, W.bl true, W.str (PySem.Str.ofString "1"), W.int (-1), W.ref A8, W.ref A9, W.int 61, W.int (10 ^ Int.toNat 30)]
  have g3' := get_new g9 (O.tup [W.non, W.bl true, W.str (PySem.Str.ofString "1"), W.int (-1), W.ref A8, W.ref A9, W.int 61, W.int (10 ^ Int.toNat 30)])
  generalize g9 ++ [O.tup [W.non, W.bl true, W.str (PySem.Str.ofString "1"), W.int (-1), W.ref A8, W.ref A9, W.int 61, W.int (10 ^ Int.toNat 30)]] = g10 at *
  have hA8n : A8 ≠ p ∧ A8 ≠ F3 := by omega
  have hA9n : A9 ≠ p ∧ A9 ≠ F3 := by omega
  have hwr : ∀ x ∈ [W.non, W.bl true, W.str (PySem.Str.ofString "1"), W.int (-1), W.ref A8, W.ref A9, W.int 61, W.int (10 ^ Int.toNat 30)], TX (fun b => b ≠ p ∧ b ≠ F3) g10 x := by
    intro x hx
    simp only [List.mem_cons, List.not_mem_nil, or_false] at hx
    rcases hx with rfl | rfl | rfl | rfl | rfl | rfl | rfl | rfl
    · exact tx_flat (t := "NoneType") rfl (fun _ => nofun)
    · exact tx_flat (t := "bool") rfl (fun _ => nofun)
    · exact tx_flat (t := "str") rfl (fun _ => nofun)
    · exact tx_int
    · exact tx_ref ((y2.trans y3).get n1) (fun _ _ => nofun) hA8n
    · exact tx_ref (y3.get n2) (fun _ _ => nofun) hA9n
    · exact tx_int
    · exact tx_int
  have hlen8 : [W.non, W.bl true, W.str (PySem.Str.ofString "1"), W.int (-1), W.ref A8, W.ref A9, W.int 61, W.int (10 ^ Int.toNat 30)].length = 8 := rfl
  refine ⟨_, n3, ?_⟩
  rw [tup_len n3, hlen8]
  generalize [W.non, W.bl true, W.str (PySem.Str.ofString "1"), W.int (-1), W.ref A8, W.ref A9, W.int 61, W.int (10 ^ Int.toNat 30)] = us at *
  have y := y1.trans (y2.trans y3)
  have F10 := (X5.fr p).trans (f7.trans (y.fr p))
  have hf10 := y.get (f7.get hf3 hFp)
  have j10 : ∀ x ∈ zs, JX (fun b => b ≠ p ∧ b ≠ F3) g10 x := fun x hx => ((j123 x hx).pres fun q o hq hqo => f7.get hqo hq.1).ext y
  have h10 := h7.ext y
  have u10 := u7.ext y
  have haF : a ≠ F3 := by have := h.lt; have := (X4.trans (x5.trans xd)).len; omega
  have hTn : g9.length ≠ p ∧ g9.length ≠ F3 := by omega
  refine forGo_inv 8 (fun i ρ k => ∃ (r4 : Option W) (vs : List W), ρ = [some (.ref p), some (.ref a), some (.ref F3), some (.int kk), r4] ∧ (∀ q o, (q ≠ p ∧ q ≠ F3) → g10[q]? = some o → k[q]? = some o) ∧ Fr p g k ∧ g10.length ≤ k.length ∧ PU k p m ∧ k[F3]? = some (.lst vs) ∧ vs.length = 29 + i ∧ ∀ x ∈ vs, JX (fun b => b ≠ p ∧ b ≠ F3) k x) (fun i ρ k hi hp => ?_) (fun ρ k hp => ?_) _ 0 _ _ (Nat.zero_add _) ⟨_, zs, rfl, fun q o _ e => e, F10, Nat.le_refl _, u10, hf10, by omega, j10⟩
  · obtain ⟨r4, vs, rfl, hpr, fk, hkl, uk, hkF, hvl, hvj⟩ := hp
    have hui : us[i]? = some (us[i]'(by omega)) := List.getElem?_eq_getElem _
    have hTk : tupAt k g9.length = some us := tupAt_of (hpr _ _ hTn g3')
    refine ⟨_, _, tup_at hTk hui, ?_⟩
    have hwi := (hwr _ (List.getElem_mem (by omega : i < us.length))).pres hpr
    generalize us[i]'(by omega) = wr at *
    have hak := h.fr fk hap
    simp only [ok_def, okS_seq, okS_ret, okS_asg, okS_if, okS_E, okS_par, okS_aug, okS_nop, nxt_nx, nxt_rt, okS_brk, okS_cnt, ok_var, ok_C, ok_op2, ok_op1, ok_call, ok_acons, ok_anil, ok_lst, ok_tup, ok_tVal, ok_mAnd, ok_mOr, ok_mNot, ok_if, ok_tNot, ok_tAnd, ok_tOr, ok_tYes, ok_chain, ok_star, ok_gName, ok_oNone, ok_oSome, ok_sl, ok_rev, ok_mt, ok_ok, ok_lc, okS_for, putL, wipe, startM, List.map_cons, List.map_nil, List.length_cons, List.length_nil, List.replicate, List.cons_append, List.nil_append, Nat.reduceAdd, Nat.reduceSub, List.getElem?_cons_zero, List.getElem?_cons_succ, List.set_cons_succ, List.set_cons_zero, Option.some.injEq, W.bl.injEq, W.int.injEq, W.ref.injEq, exists_eq_left', exists_eq_left, decide_eq_true_eq, true_and, and_true, ok_add, ok_sub, ok_lt, ok_le, ok_gt, ok_ge, ok_neg, ok_mul, ok_div, ok_mod, ok_pow, ok_max2, ok_min2, ok_abs, ok_int, ok_iLst, ok_iTup, ok_iEnum, ok_iZip, ok_iRng1, exists_list1, List.cons.injEq, exists_and_left, exists_const, exists_eq, if_true, if_false, Bool.not_true, Bool.not_false, Bool.false_eq_true, decide_true, decide_false]
    refine ⟨isL_of (lstAt_of hkF), _, hak, ?_⟩
    rw [cut_map]
    refine ⟨by decide, ?_⟩
    have z1 := Ext.snoc k (O.lst ((cut ns none (some kk)).map W.int))
    have m1 := get_new k (O.lst ((cut ns none (some kk)).map W.int))
    generalize k ++ [O.lst ((cut ns none (some kk)).map W.int)] = q1 at *
    have z2 := Ext.snoc q1 (O.lst [wr])
    have m2 := get_new q1 (O.lst [wr])
    generalize q1 ++ [O.lst [wr]] = q2 at *
    have hln := t.2.1
    have hc1 := cut_len ns none (some kk)
    have hc2 := cut_len ns (some (kk + 1)) none
    rw [ok_addL (z2.get m1) m2 (by simp; exact Nat.le_trans (show _ ≤ 30 by omega) (by decide))]
    have z3 := Ext.snoc q2 (O.lst ((cut ns none (some kk)).map W.int ++ [wr]))
    have m3 := get_new q2 (O.lst ((cut ns none (some kk)).map W.int ++ [wr]))
    generalize q2 ++ [O.lst ((cut ns none (some kk)).map W.int ++ [wr])] = q3 at *
    refine ⟨_, z3.lst (z2.lst (z1.lst hak)), ?_⟩
    rw [cut_map]
    have z4 := Ext.snoc q3 (O.lst ((cut ns (some (kk + 1)) none).map W.int))
    have m4 := get_new q3 (O.lst ((cut ns (some (kk + 1)) none).map W.int))
    generalize q3 ++ [O.lst ((cut ns (some (kk + 1)) none).map W.int)] = q4 at *
    rw [ok_addL (z4.get m3) m4 (by simp; exact Nat.le_trans (show _ ≤ 60 by omega) (by decide))]
    have z5 := Ext.snoc q4 (O.lst ((cut ns none (some kk)).map W.int ++ [wr] ++ (cut ns (some (kk + 1)) none).map W.int))
    have m5 := get_new q4 (O.lst ((cut ns none (some kk)).map W.int ++ [wr] ++ (cut ns (some (kk + 1)) none).map W.int))
    have hq4 := (z1.trans (z2.trans (z3.trans z4))).len
    generalize q4 ++ [O.lst ((cut ns none (some kk)).map W.int ++ [wr] ++ (cut ns (some (kk + 1)) none).map W.int)] = q5 at *
    have Z := z1.trans (z2.trans (z3.trans (z4.trans z5)))
    have hq5 := Z.len
    rw [ok_append (Z.get hkF) (Nat.lt_of_le_of_lt (show _ ≤ 100 by omega) (by decide))]
    have hkp := uk.lt
    have hkFl := lt_of_get hkF
    have hitem : JX (fun b => b ≠ p ∧ b ≠ F3) q5 (.ref q4.length) := by
      refine jx_lst m5 (by omega) (by simp; omega) fun x hx => ?_
      simp only [List.mem_append, List.mem_map, List.mem_singleton] at hx
      rcases hx with (⟨v, _, rfl⟩ | rfl) | ⟨v, _, rfl⟩
      · exact tx_int
      · exact hwi.pres fun q o _ e => Z.get e
      · exact tx_int
    have hset : ∀ q o, (q ≠ p ∧ q ≠ F3) → q5[q]? = some o → (q5.set F3 (.lst (vs ++ [W.ref q4.length])))[q]? = some o := fun q o hq e => by
      rw [List.getElem?_set_ne (Ne.symm hq.2)]
      exact e
    have hFg : g.length ≤ F3 := by have := (X4.trans (x5.trans xd)).len; omega
    refine ⟨fun q o hq e => hset q o hq (Z.get (hpr q o hq e)), (fk.trans (Z.fr p)).setNew hFg _, by simp; omega, (uk.ext Z).set hFp _, vs ++ [W.ref q4.length], ?_, by simp [hvl]; omega, fun x hx => ?_⟩
    · rw [List.getElem?_set_self (lt_of_get (Z.get hkF))]
    · rcases List.mem_append.mp hx with hx | hx
      · exact ((hvj x hx).ext Z).pres hset
      · rw [List.mem_singleton.mp hx]
        exact hitem.pres hset
  · obtain ⟨r4, vs, rfl, hpr, fk, hkl, uk, hkF, hvl, hvj⟩ := hp
    refine ⟨tup_stop (tupAt_of (hpr _ _ hTn g3')) (by omega), ?_⟩
    simp only [ok_def, okS_seq, okS_ret, okS_asg, okS_if, okS_E, okS_par, okS_aug, okS_nop, nxt_nx, nxt_rt, okS_brk, okS_cnt, ok_var, ok_C, ok_op2, ok_op1, ok_call, ok_acons, ok_anil, ok_lst, ok_tup, ok_tVal, ok_mAnd, ok_mOr, ok_mNot, ok_if, ok_tNot, ok_tAnd, ok_tOr, ok_tYes, ok_chain, ok_star, ok_gName, ok_oNone, ok_oSome, ok_sl, ok_rev, ok_mt, ok_ok, ok_lc, okS_for, putL, wipe, startM, List.map_cons, List.map_nil, List.length_cons, List.length_nil, List.replicate, List.cons_append, List.nil_append, Nat.reduceAdd, Nat.reduceSub, List.getElem?_cons_zero, List.getElem?_cons_succ, List.set_cons_succ, List.set_cons_zero, Option.some.injEq, W.bl.injEq, W.int.injEq, W.ref.injEq, exists_eq_left', exists_eq_left, decide_eq_true_eq, true_and, and_true, ok_add, ok_sub, ok_lt, ok_le, ok_gt, ok_ge, ok_neg, ok_mul, ok_div, ok_mod, ok_pow, ok_max2, ok_min2, ok_abs, ok_int, ok_iLst, ok_iTup, ok_iEnum, ok_iZip, ok_iRng1, exists_list1, List.cons.injEq, exists_and_left, exists_const, exists_eq, if_true, if_false, Bool.not_true, Bool.not_false, Bool.false_eq_true, decide_true, decide_false]
    exact ⟨fk, uk, vs, hkF, fun x hx => (hvj x hx).jd⟩
end M
/-! K01f: the law. -/
namespace M
theorem isort_of {ns l : List Int} (p : l.Perm ns) (s : l.Pairwise (· ≤ ·)) : isort ns = l :=
  List.Perm.eq_of_pairwise (le := (· ≤ ·)) (fun a b _ _ h1 h2 => Int.le_antisymm h1 h2) (isort_up _) s ((isort_perm ns).trans p.symm)
theorem lineL_of {ns : List Int} {l : List (Int × Int)} (p : l.Perm (prs ns)) (s : l.Pairwise fun a b => leP a b = true) : lineL ns = l.map (·.2) := by
  unfold lineL
  congr 1
  refine List.Perm.eq_of_pairwise (le := fun a b => leP a b = true) (fun a b _ _ h1 h2 => ?_) (List.pairwise_mergeSort leP_trans leP_total (prs ns)) s ((List.mergeSort_perm _ _).trans p.symm)
  unfold leP at h1 h2
  simp at h1 h2
  refine Prod.ext ?_ ?_ <;> omega
theorem good_of {ns l : List Int} (p : l.Perm ns) (s : l.Pairwise (· ≤ ·)) : goodL (ns.map .int) = (decide (1 ≤ ns.length) && decide (ns.length ≤ 20) && (ns.map W.int).all okB && decide (maxL (spare l) ≤ 40)) := by
  unfold goodL
  rw [ints_map]
  dsimp only
  rw [isort_of p s, List.length_map]
def GB (g : G) (w : W) (b : Bool) : Prop := ∃ a ns, w = .ref a ∧ IL g a ns ∧ ns.length ≤ 1000 ∧ goodL (ns.map .int) = b
def JB (ρ : Env) (e : ME) (b : Bool) : Prop := ∀ g, Ok (e ρ g) fun w g' => Ext g g' ∧ GB g' w b
def JBs (ρ : Env) (as : MA) (bs : List Bool) : Prop := ∀ g, Ok (as ρ g) fun xs g' => Ext g g' ∧ xs.length = bs.length ∧ ∀ j, j < bs.length → ∃ w, xs[j]? = some w ∧ GB g' w (bs.getD j false)
theorem GB.ext {g g' : G} {w : W} {b : Bool} (h : GB g w b) (e : Ext g g') : GB g' w b := by
  obtain ⟨a, ns, h1, h2, h3⟩ := h
  exact ⟨a, ns, h1, h2.ext e, h3⟩
theorem jb_nil {ρ : Env} : JBs ρ aNil [] := fun g => ok_anil.mpr ⟨Ext.refl _, rfl, fun j hj => nomatch hj⟩
theorem jb_cons {ρ : Env} {e : ME} {as : MA} {b : Bool} {bs : List Bool} (h1 : JB ρ e b) (h2 : JBs ρ as bs) : JBs ρ (aCons e as) (b :: bs) := fun g => by
  rw [ok_acons]
  refine (h1 g).mono fun w g1 ⟨x1, j1⟩ => (h2 g1).mono fun xs g2 ⟨x2, hl, j2⟩ => ⟨x1.trans x2, by simp [hl], fun j hj => ?_⟩
  cases j with
  | zero => exact ⟨w, rfl, j1.ext x2⟩
  | succ j => exact j2 j (by simpa using hj)
theorem jb_li {ρ : Env} {e : ME} {b : Bool} {ns : List Int} (hl : ns.length ≤ 1000) (h : ∀ g, Ok (e ρ g) fun w g' => Ext g g' ∧ ∃ a, w = .ref a ∧ g'[a]? = some (.lst (ns.map W.int))) (hb : goodL (ns.map .int) = b) : JB ρ e b := fun g => (h g).mono fun w g1 ⟨x1, a, e1, e2⟩ => ⟨x1, a, ns, e1, lstAt_of e2, hl, hb⟩
theorem lit1 {ρ : Env} {i : Int} (g : G) : Ok (mLst (aCons (mC (.int i)) aNil) ρ g) fun w g' => Ext g g' ∧ ∃ a, w = .ref a ∧ g'[a]? = some (.lst (([i] : List Int).map W.int)) := by
  rw [ok_lst, ok_acons, ok_C, ok_anil]
  exact ⟨show 1 ≤ SZ by decide, Ext.snoc _ _, _, rfl, get_new _ _⟩
theorem lit2 {ρ : Env} {i j : Int} (g : G) : Ok (mLst (aCons (mC (.int i)) (aCons (mC (.int j)) aNil)) ρ g) fun w g' => Ext g g' ∧ ∃ a, w = .ref a ∧ g'[a]? = some (.lst (([i, j] : List Int).map W.int)) := by
  rw [ok_lst, ok_acons, ok_C, ok_acons, ok_C, ok_anil]
  exact ⟨show 2 ≤ SZ by decide, Ext.snoc _ _, _, rfl, get_new _ _⟩
theorem litR {ρ : Env} {i j : Int} (h : inR2 i j = true) (g : G) : Ok (mLrg2 (mC (.int i)) (mC (.int j)) ρ g) fun w g' => Ext g g' ∧ ∃ a, w = .ref a ∧ g'[a]? = some (.lst ((rg i j).map W.int)) := by
  rw [ok_lrg2c h]
  exact ⟨Ext.snoc _ _, _, rfl, get_new _ _⟩
theorem litM {ρ : Env} {i : Int} {n : Nat} (hn : n ≤ 100) (g : G) : Ok (mOp2 opMul (mLst (aCons (mC (.int i)) aNil)) (mC (.int (n : Int))) ρ g) fun w g' => Ext g g' ∧ ∃ a, w = .ref a ∧ g'[a]? = some (.lst ((List.replicate n i).map W.int)) := by
  rw [ok_op2, ok_lst, ok_acons, ok_C, ok_anil]
  refine ⟨show 1 ≤ SZ by decide, ?_⟩
  rw [ok_C, ok_mulL (get_new _ _) (by omega)]
  exact ⟨(Ext.snoc _ _).trans (Ext.snoc _ _), _, rfl, get_new _ _⟩
theorem litA {ρ : Env} {e e2 : ME} {ns ms : List Int} (h : ∀ g, Ok (e ρ g) fun w g' => Ext g g' ∧ ∃ a, w = .ref a ∧ g'[a]? = some (.lst (ns.map W.int))) (h2 : ∀ g, Ok (e2 ρ g) fun w g' => Ext g g' ∧ ∃ a, w = .ref a ∧ g'[a]? = some (.lst (ms.map W.int))) (hl : ns.length + ms.length ≤ 1000) (g : G) :
    Ok (mOp2 opAdd e e2 ρ g) fun w g' => Ext g g' ∧ ∃ a, w = .ref a ∧ g'[a]? = some (.lst ((ns ++ ms).map W.int)) := by
  rw [ok_op2]
  refine (h g).mono fun w g1 ⟨x1, b, e, hg1⟩ => ?_
  subst e
  refine (h2 g1).mono fun w g2 ⟨x2, b2, e, hg2⟩ => ?_
  subst e
  rw [ok_addL (x2.get hg1) hg2 (by simp; exact Nat.le_trans hl (by decide))]
  exact ⟨(x1.trans x2).trans (Ext.snoc _ _), _, rfl, by rw [get_new, List.map_append]⟩
theorem rdDs_bools (n : Nat) (g : G) (bs : List Bool) : rdDs n g (bs.map .bl) = some (bs.map .bl) := by
  induction bs with
  | nil => rw [List.map_nil, rdDs]; rfl
  | cons b bs ih => rw [List.map_cons, rdDs, rd_bl, ih]; rfl
theorem eqDs_bools (bs : List Bool) : eqDs (bs.map .bl) (bs.map .bl) = true := by
  induction bs with
  | nil => simp [eqDs]
  | cons b bs ih => rw [List.map_cons, eqDs, ih]; simp [eqD]
theorem ok_neBs {g : G} {a b : Nat} {bs : List Bool} {Q : W → G → Prop} (h : g[a]? = some (.lst (bs.map .bl))) (h' : g[b]? = some (.lst (bs.map .bl))) : Ok (opNe (.ref a) (.ref b) g) Q ↔ Q (.bl false) g := by
  unfold opNe
  dsimp only
  rw [rd_lst h (rdDs_bools _ _ _), rd_lst h' (rdDs_bools _ _ _)]
  dsimp only
  rw [ok_ok, eqD, eqDs_bools]
  rfl
theorem ok_eqLL {g : G} {a b a1 a2 a3 b1 b2 b3 : Nat} {n1 n2 n3 : List Int} {Q : W → G → Prop} (h : g[a]? = some (.lst [.ref a1, .ref a2, .ref a3])) (h' : g[b]? = some (.lst [.ref b1, .ref b2, .ref b3])) (i1 : IL g a1 n1) (i2 : IL g a2 n2) (i3 : IL g a3 n3) (k1 : IL g b1 n1) (k2 : IL g b2 n2) (k3 : IL g b3 n3) :
    Ok (opEq (.ref a) (.ref b) g) Q ↔ Q (.bl true) g := by
  have r : ∀ {z z1 z2 z3 : Nat}, g[z]? = some (.lst [.ref z1, .ref z2, .ref z3]) → IL g z1 n1 → IL g z2 n2 → IL g z3 n3 → rdD 60 g (.ref z) = some (.lst [.lst (n1.map .int), .lst (n2.map .int), .lst (n3.map .int)]) := by
    intro z z1 z2 z3 hz l1 l2 l3
    refine rd_lst hz ?_
    rw [rdDs, rdD_IL l1]
    dsimp only
    rw [rdDs, rdD_IL l2]
    dsimp only
    rw [rdDs, rdD_IL l3]
    dsimp only
    rw [rdDs]
  unfold opEq
  dsimp only
  rw [r h i1 i2 i3, r h' k1 k2 k3]
  dsimp only
  rw [ok_ok]
  simp [eqD, eqDs, eqDs_ints]
theorem shown_true : (toPy (.bl true)).shown = PySem.Str.ofString "True" := by decide +kernel
theorem team212 : Team [2, 1, 2] := team_low (by decide) (by decide) (by decide)
theorem hM : ∀ ns : List Int, ns.length ≤ 63 → (∀ z ∈ ns, lg z ≤ 1048576) → ∃ g, m_law [.ref 0] [.fls (ns.map .int)] = .ok (.bl true) g := by
  intro ns hn _
  suffices h : Ok (m_law [.ref 0] [.fls (ns.map .int)]) fun w _ => w = .bl true by
    obtain ⟨w, g, e, rfl⟩ := h
    exact ⟨g, e⟩
  have hS : IL [.fls (ns.map .int)] 0 ns := rfl
  unfold m_law b_law
  simp only [ok_def, okS_seq, okS_ret, okS_asg, okS_if, okS_E, okS_par, okS_aug, okS_nop, nxt_nx, nxt_rt, okS_brk, okS_cnt, ok_var, ok_C, ok_op2, ok_op1, ok_call, ok_acons, ok_anil, ok_lst, ok_tup, ok_tVal, ok_mAnd, ok_mOr, ok_mNot, ok_if, ok_tNot, ok_tAnd, ok_tOr, ok_tYes, ok_chain, ok_star, ok_gName, ok_oNone, ok_oSome, ok_sl, ok_rev, ok_mt, ok_ok, ok_lc, okS_for, putL, wipe, startM, List.map_cons, List.map_nil, List.length_cons, List.length_nil, List.replicate, List.cons_append, List.nil_append, Nat.reduceAdd, Nat.reduceSub, List.getElem?_cons_zero, List.getElem?_cons_succ, List.set_cons_succ, List.set_cons_zero, Option.some.injEq, W.bl.injEq, W.int.injEq, W.ref.injEq, exists_eq_left', exists_eq_left, decide_eq_true_eq, true_and, and_true, ok_add, ok_sub, ok_lt, ok_le, ok_gt, ok_ge, ok_neg, ok_mul, ok_div, ok_mod, ok_pow, ok_max2, ok_min2, ok_abs, ok_int, ok_iLst, ok_iTup, ok_iEnum, ok_iZip, ok_iRng1, exists_list1, List.cons.injEq, exists_and_left, exists_const, exists_eq, if_true, if_false, Bool.not_true, Bool.not_false, Bool.false_eq_true, decide_true, decide_false, ok_len hS]
  generalize hT : nxt _ _ = T
  have hTail : ∀ r1 r2 r3 r4 r5 r6 r7 g, T (.nx [some (.ref 0), r1, r2, r3, r4, r5, r6, r7]) g := by
    intro r1 r2 r3 r4 r5 r6 r7 g
    rw [← hT]
    rw [nxt_nx, okS_seq, okS_asg, ok_lc, ok_iTup, ok_tup]
    generalize hρ : [some (W.ref 0), r1, r2, r3, r4, r5, r6, r7] = ρ
    have J : JBs ρ _ [true, false, true, false, true, true, false] := jb_cons (jb_li (by decide) (lit1 (i := 40)) (by rw [good_of (List.Perm.refl _) (by decide)]; decide)) <| jb_cons (jb_li (by decide) (lit1 (i := 41)) (by rw [good_of (List.Perm.refl _) (by decide)]; decide)) <|
      jb_cons (jb_li (by decide) (lit2 (i := 0) (j := 41)) (by rw [good_of (List.Perm.refl _) (by decide)]; decide)) <| jb_cons (jb_li (by decide) (lit2 (i := 0) (j := 42)) (by rw [good_of (List.Perm.refl _) (by decide)]; decide)) <|
      jb_cons (jb_li (by decide) (litR (i := 40) (j := 60) (by decide)) (by rw [good_of (List.Perm.refl _) (by decide)]; decide)) <| jb_cons (jb_li (by decide) (litA (litM (i := 0) (n := 19) (by omega)) (lit1 (i := 59)) (by decide)) (by rw [good_of (List.Perm.refl _) (by decide)]; decide)) <|
      jb_cons (jb_li (by decide) (litM (i := 0) (n := 21) (by omega)) (by rw [good_of (List.Perm.refl _) (by decide)]; decide)) jb_nil
    refine (J g).mono fun xs g1 ⟨x1, hl, hj⟩ => ?_
    refine ⟨by rw [hl]; decide, _, xs, rfl, tup_new _ _, ?_⟩
    have xt := Ext.snoc g1 (O.tup xs)
    have hTx := tup_new g1 xs
    have hj : ∀ j, j < 7 → ∃ w, xs[j]? = some w ∧ GB (g1 ++ [O.tup xs]) w (([true, false, true, false, true, true, false] : List Bool).getD j false) := fun j hjl => by
      obtain ⟨w, e1, e2⟩ := hj j hjl
      exact ⟨w, e1, e2.ext xt⟩
    generalize g1 ++ [O.tup xs] = g2 at *
    have hl7 : xs.length = 7 := hl
    refine lc_ints 7 (fun j => .bl (([true, false, true, false, true, true, false] : List Bool).getD j false)) (by decide) (by rw [tup_len hTx, hl7]) (fun j k hjl hx => ?_) (fun k hx => tup_stop (hx.tup hTx) (by omega)) fun g3 x3 hg3 => ?_
    · obtain ⟨w, e1, a, ms, rfl, hI, hml, hb⟩ := hj j hjl
      refine ⟨_, _, tup_at (hx.tup hTx) e1, ?_⟩
      rw [ok_gName, ok_tYes]
      refine ⟨rfl, ?_⟩
      have e7 : ((wipe ρ [7]).set 7 (some (W.ref a)))[7]? = some (some (.ref a)) := by rw [← hρ]; rfl
      rw [ok_call, ok_acons, ok_var]
      refine ⟨_, e7, ?_⟩
      rw [ok_anil]
      refine (isT_list (hI.ext hx) (by simp; exact Nat.le_trans hml (by decide)) fun x hx2 => by obtain ⟨v, _, rfl⟩ := List.mem_map.mp hx2; exact ⟨"int", rfl⟩).mono fun w g4 ⟨x4, e⟩ => ⟨x4, ?_⟩
      rw [e, hb]
    · have e3 : (List.range 7).map (fun j => W.bl (([true, false, true, false, true, true, false] : List Bool).getD j false)) = ([true, false, true, false, true, true, false] : List Bool).map .bl := rfl
      rw [e3] at hg3
      rw [ok_gName]
      subst hρ
      simp only [ok_def, okS_seq, okS_ret, okS_asg, okS_if, okS_E, okS_par, okS_aug, okS_nop, nxt_nx, nxt_rt, okS_brk, okS_cnt, ok_var, ok_C, ok_op2, ok_op1, ok_call, ok_acons, ok_anil, ok_lst, ok_tup, ok_tVal, ok_mAnd, ok_mOr, ok_mNot, ok_if, ok_tNot, ok_tAnd, ok_tOr, ok_tYes, ok_chain, ok_star, ok_gName, ok_oNone, ok_oSome, ok_sl, ok_rev, ok_mt, ok_ok, ok_lc, okS_for, putL, wipe, startM, List.map_cons, List.map_nil, List.length_cons, List.length_nil, List.replicate, List.cons_append, List.nil_append, Nat.reduceAdd, Nat.reduceSub, List.getElem?_cons_zero, List.getElem?_cons_succ, List.set_cons_succ, List.set_cons_zero, Option.some.injEq, W.bl.injEq, W.int.injEq, W.ref.injEq, exists_eq_left', exists_eq_left, decide_eq_true_eq, true_and, and_true, ok_add, ok_sub, ok_lt, ok_le, ok_gt, ok_ge, ok_neg, ok_mul, ok_div, ok_mod, ok_pow, ok_max2, ok_min2, ok_abs, ok_int, ok_iLst, ok_iTup, ok_iEnum, ok_iZip, ok_iRng1, exists_list1, List.cons.injEq, exists_and_left, exists_const, exists_eq, if_true, if_false, Bool.not_true, Bool.not_false, Bool.false_eq_true, decide_true, decide_false]
      have x4 := Ext.snoc g3 (O.lst [W.bl true, W.bl false, W.bl true, W.bl false, W.bl true, W.bl true, W.bl false])
      have h4 : (g3 ++ [O.lst [W.bl true, W.bl false, W.bl true, W.bl false, W.bl true, W.bl true, W.bl false]])[g3.length]? = some (.lst (([true, false, true, false, true, true, false] : List Bool).map .bl)) := get_new _ _
      refine ⟨by decide, ?_⟩
      rw [ok_neBs (x4.get hg3) h4]
      refine ⟨_, rfl, ?_⟩
      rw [if_neg (by decide)]
      generalize g3 ++ [O.lst [W.bl true, W.bl false, W.bl true, W.bl false, W.bl true, W.bl true, W.bl false]] = g4 at *
      refine ⟨by decide, ?_⟩
      have i1 : IL (g4 ++ [O.lst [W.int 2, W.int 1, W.int 2]]) g4.length [2, 1, 2] := lst_new _ _
      refine (s_line i1 team212).mono fun w g5 ⟨_, b1, e, _, hb1⟩ => ?_
      subst e
      have l1 : lineL [2, 1, 2] = [1, 0, 2] := lineL_of (l := [(1, 1), (2, 0), (2, 2)]) (by decide) (by decide)
      rw [l1] at hb1
      refine ⟨by decide, ?_⟩
      have xa := Ext.snoc g5 (O.lst [W.int 2, W.int 1, W.int 2])
      have i2 : IL (g5 ++ [O.lst [W.int 2, W.int 1, W.int 2]]) g5.length [2, 1, 2] := lst_new _ _
      generalize g5 ++ [O.lst [W.int 2, W.int 1, W.int 2]] = g6 at *
      refine (door_spare team212 _ i2).mono fun w g7 ⟨xb, b2, e, _, hb2⟩ => ?_
      subst e
      rw [isort_of (l := [1, 2, 2]) (by decide) (by decide)] at hb2
      refine ⟨by decide, ?_⟩
      have xc := Ext.snoc g7 (O.lst [W.int 2, W.int 1, W.int 2])
      have i3 : IL (g7 ++ [O.lst [W.int 2, W.int 1, W.int 2]]) g7.length [2, 1, 2] := lst_new _ _
      generalize g7 ++ [O.lst [W.int 2, W.int 1, W.int 2]] = g8 at *
      refine (s_able i3 team212).mono fun w g9 ⟨xd, b3, e, _, hb3⟩ => ?_
      subst e
      have m1 : IL g5 b1 [1, 0, 2] := lstAt_of hb1
      have m2 : IL g7 b2 [1, 1, 0] := lstAt_of hb2
      have m3 : IL g9 b3 [3, 2] := lstAt_of hb3
      refine ⟨by decide, by decide, by decide, by decide, by decide, ?_⟩
      have n1 := ((((m1.ext xa).ext xb).ext xc).ext xd)
      have n2 := (m2.ext xc).ext xd
      generalize hh : [W.ref b1, W.ref b2, W.ref b3] = us
      have y1 := Ext.snoc g9 (O.lst us)
      have z1 := get_new g9 (O.lst us)
      generalize g9 ++ [O.lst us] = k1 at *
      have y2 := Ext.snoc k1 (O.lst [W.int 1, W.int 0, W.int 2])
      have z2 : IL (k1 ++ [O.lst [W.int 1, W.int 0, W.int 2]]) k1.length [1, 0, 2] := lst_new _ _
      generalize k1 ++ [O.lst [W.int 1, W.int 0, W.int 2]] = k2 at *
      have y3 := Ext.snoc k2 (O.lst [W.int 1, W.int 1, W.int 0])
      have z3 : IL (k2 ++ [O.lst [W.int 1, W.int 1, W.int 0]]) k2.length [1, 1, 0] := lst_new _ _
      generalize k2 ++ [O.lst [W.int 1, W.int 1, W.int 0]] = k3 at *
      have y4 := Ext.snoc k3 (O.lst [W.int 3, W.int 2])
      have z4 : IL (k3 ++ [O.lst [W.int 3, W.int 2]]) k3.length [3, 2] := lst_new _ _
      generalize k3 ++ [O.lst [W.int 3, W.int 2]] = k4 at *
      have y5 := Ext.snoc k4 (O.lst [W.ref k1.length, W.ref k2.length, W.ref k3.length])
      have z5 := get_new k4 (O.lst [W.ref k1.length, W.ref k2.length, W.ref k3.length])
      generalize k4 ++ [O.lst [W.ref k1.length, W.ref k2.length, W.ref k3.length]] = k5 at *
      subst hh
      have Y := y1.trans (y2.trans (y3.trans (y4.trans y5)))
      rw [ok_eqLL ((y2.trans (y3.trans (y4.trans y5))).get z1) z5 (n1.ext Y) (n2.ext Y) (m3.ext Y) (z2.ext (y3.trans (y4.trans y5))) (z3.ext (y4.trans y5)) (z4.ext y5)]
  refine ⟨inR_le (by omega) (by omega), ?_⟩
  obtain ⟨n, hn2⟩ : ∃ n, n = (max 1 (min 4 (ns.length : Int))).toNat := ⟨_, rfl⟩
  rw [← hn2]
  refine forGo_inv n (fun i ρ g' => ∃ r1 r2 r3 r4 r5 r6 r7 : Option W, ρ = [some (.ref 0), r1, r2, r3, r4, r5, r6, r7] ∧ IL g' 0 ns) (fun i ρ g' hi hp => ?_) (fun ρ g' hp => ?_) _ 0 _ _ (Nat.zero_add _) ⟨_, _, _, _, _, _, _, rfl, hS⟩
  · obtain ⟨r1, r2, r3, r4, r5, r6, r7, rfl, hS'⟩ := hp
    refine ⟨_, _, rng_at hi, ?_⟩
    simp only [ok_def, okS_seq, okS_ret, okS_asg, okS_if, okS_E, okS_par, okS_aug, okS_nop, nxt_nx, nxt_rt, okS_brk, okS_cnt, ok_var, ok_C, ok_op2, ok_op1, ok_call, ok_acons, ok_anil, ok_lst, ok_tup, ok_tVal, ok_mAnd, ok_mOr, ok_mNot, ok_if, ok_tNot, ok_tAnd, ok_tOr, ok_tYes, ok_chain, ok_star, ok_gName, ok_oNone, ok_oSome, ok_sl, ok_rev, ok_mt, ok_ok, ok_lc, okS_for, putL, wipe, startM, List.map_cons, List.map_nil, List.length_cons, List.length_nil, List.replicate, List.cons_append, List.nil_append, Nat.reduceAdd, Nat.reduceSub, List.getElem?_cons_zero, List.getElem?_cons_succ, List.set_cons_succ, List.set_cons_zero, Option.some.injEq, W.bl.injEq, W.int.injEq, W.ref.injEq, exists_eq_left', exists_eq_left, decide_eq_true_eq, true_and, and_true, ok_add, ok_sub, ok_lt, ok_le, ok_gt, ok_ge, ok_neg, ok_mul, ok_div, ok_mod, ok_pow, ok_max2, ok_min2, ok_abs, ok_int, ok_iLst, ok_iTup, ok_iEnum, ok_iZip, ok_iRng1, exists_list1, List.cons.injEq, exists_and_left, exists_const, exists_eq, if_true, if_false, Bool.not_true, Bool.not_false, Bool.false_eq_true, decide_true, decide_false, ok_callP, pick1]
    have e0 : (0 : Int) + i = i := by omega
    rw [e0]
    refine (s_purse hS' (by omega)).mono fun w g1 ⟨x1, e, u1⟩ => ?_
    subst e
    refine ⟨by decide, by decide, by decide, by decide, by decide, ?_⟩
    refine ⟨_, tup_new _ _, ?_⟩
    have hpl := u1.lt
    have hg0 := hS'.lt
    generalize hPq : g'.length = P at *
    generalize ht0 : g1 ++ [O.tup [W.int 5, W.int 6]] = h0
    generalize ht1 : h0 ++ [O.tup [W.int 20, W.int 40]] = h1
    generalize ht2 : h1 ++ [O.tup [W.int 20, W.int 3]] = h2
    generalize ht3 : h2 ++ [O.tup [W.int 1, W.int 40]] = h3
    generalize ht4 : h3 ++ [O.tup [W.ref g1.length, W.ref h0.length, W.ref h1.length, W.ref h2.length]] = h4
    have y0 : Ext g1 h0 := by rw [← ht0]; exact Ext.snoc _ _
    have y1 : Ext h0 h1 := by rw [← ht1]; exact Ext.snoc _ _
    have y2 : Ext h1 h2 := by rw [← ht2]; exact Ext.snoc _ _
    have y3 : Ext h2 h3 := by rw [← ht3]; exact Ext.snoc _ _
    have y4 : Ext h3 h4 := by rw [← ht4]; exact Ext.snoc _ _
    have hT4 : tupAt h4 h3.length = some [W.ref g1.length, W.ref h0.length, W.ref h1.length, W.ref h2.length] := by rw [← ht4]; exact tup_new _ _
    have q0 : tupAt h0 g1.length = some [W.int 5, W.int 6] := by rw [← ht0]; exact tup_new _ _
    have q1 : tupAt h1 h0.length = some [W.int 20, W.int 40] := by rw [← ht1]; exact tup_new _ _
    have q2 : tupAt h2 h1.length = some [W.int 20, W.int 3] := by rw [← ht2]; exact tup_new _ _
    have q3 : tupAt h3 h2.length = some [W.int 1, W.int 40] := by rw [← ht3]; exact tup_new _ _
    have l0 := y0.len
    have l1 := y1.len
    have l2 := y2.len
    have l3 := y3.len
    have l4 := y4.len
    have pick : ∀ j, j < 4 → ∃ q mo to, [W.ref g1.length, W.ref h0.length, W.ref h1.length, W.ref h2.length][j]? = some (.ref q) ∧ tupAt h4 q = some [.int mo, .int to] ∧ 1 ≤ mo ∧ mo ≤ 20 ∧ 0 ≤ to ∧ to ≤ 40 ∧ q ≠ P := by
      intro j hj
      rcases (show j = 0 ∨ j = 1 ∨ j = 2 ∨ j = 3 by omega) with rfl | rfl | rfl | rfl
      · exact ⟨_, _, _, rfl, (y1.trans (y2.trans (y3.trans y4))).tup q0, by decide, by decide, by decide, by decide, by omega⟩
      · exact ⟨_, _, _, rfl, (y2.trans (y3.trans y4)).tup q1, by decide, by decide, by decide, by decide, by omega⟩
      · exact ⟨_, _, _, rfl, (y3.trans y4).tup q2, by decide, by decide, by decide, by decide, by omega⟩
      · exact ⟨_, _, _, rfl, y4.tup q3, by decide, by decide, by decide, by decide, by omega⟩
    have hus : [W.ref g1.length, W.ref h0.length, W.ref h1.length, W.ref h2.length].length = 4 := rfl
    generalize [W.ref g1.length, W.ref h0.length, W.ref h1.length, W.ref h2.length] = us at *
    have hS4 := hS'.ext (x1.trans (y0.trans (y1.trans (y2.trans (y3.trans y4)))))
    have u4 := u1.ext (y0.trans (y1.trans (y2.trans (y3.trans y4))))
    rw [tup_len hT4, hus]
    refine forGo_inv 4 (fun j ρ k => ∃ r2 r4 r5 r6 r7 : Option W, ρ = [some (.ref 0), some (.int i), r2, some (.ref P), r4, r5, r6, r7] ∧ Fr P h4 k ∧ PU k P (300 * (4 - j))) (fun j ρ k hj hp => ?_) (fun ρ k hp => ?_) _ 0 _ _ (Nat.zero_add _) ⟨_, _, _, _, _, rfl, Fr.refl _ _, u4.mono (by decide)⟩
    · obtain ⟨r2, r4, r5, r6, r7, rfl, f, u⟩ := hp
      obtain ⟨q, mo, to, hq, hq2, b1, b2, b3, b4, b5⟩ := pick j hj
      refine ⟨_, _, tup_at (f.tup hT4 (by omega)) hq, ?_⟩
      rw [ok_gTup2 (f.tup hq2 b5)]
      simp only [ok_def, okS_seq, okS_ret, okS_asg, okS_if, okS_E, okS_par, okS_aug, okS_nop, nxt_nx, nxt_rt, okS_brk, okS_cnt, ok_var, ok_C, ok_op2, ok_op1, ok_call, ok_acons, ok_anil, ok_lst, ok_tup, ok_tVal, ok_mAnd, ok_mOr, ok_mNot, ok_if, ok_tNot, ok_tAnd, ok_tOr, ok_tYes, ok_chain, ok_star, ok_gName, ok_oNone, ok_oSome, ok_sl, ok_rev, ok_mt, ok_ok, ok_lc, okS_for, putL, wipe, startM, List.map_cons, List.map_nil, List.length_cons, List.length_nil, List.replicate, List.cons_append, List.nil_append, Nat.reduceAdd, Nat.reduceSub, List.getElem?_cons_zero, List.getElem?_cons_succ, List.set_cons_succ, List.set_cons_zero, Option.some.injEq, W.bl.injEq, W.int.injEq, W.ref.injEq, exists_eq_left', exists_eq_left, decide_eq_true_eq, true_and, and_true, ok_add, ok_sub, ok_lt, ok_le, ok_gt, ok_ge, ok_neg, ok_mul, ok_div, ok_mod, ok_pow, ok_max2, ok_min2, ok_abs, ok_int, ok_iLst, ok_iTup, ok_iEnum, ok_iZip, ok_iRng1, exists_list1, List.cons.injEq, exists_and_left, exists_const, exists_eq, if_true, if_false, Bool.not_true, Bool.not_false, Bool.false_eq_true, decide_true, decide_false, ok_callP, pick1]
      refine (s_team (m := 300 * (4 - (j + 1)) + 100) (u.mono (by omega)) b1 b2 b3 b4).mono fun w k1 ⟨b, ls, e, hb, f1, v1, hL, tm⟩ => ?_
      subst e
      have hpk := u.lt
      have hfl := f.1
      have hbP : b ≠ P := by omega
      refine (s_right (m := 300 * (4 - (j + 1)) + 50) (v1.mono (by omega)) hL hbP tm).mono fun w k2 ⟨e, f2, v2⟩ => ?_
      subst e
      refine ⟨_, rfl, ?_⟩
      rw [if_neg (by decide)]
      have hL2 := hL.fr f2 hbP
      refine (s_is_team hL2 tm).mono fun w k3 ⟨x3, e⟩ => ?_
      subst e
      rw [ok_reprB, shown_true, ok_neS]
      refine ⟨_, rfl, ?_⟩
      rw [decide_eq_true rfl, if_neg (by decide)]
      have hL3 := hL2.ext x3
      refine (s_bad (m := 300 * (4 - (j + 1))) ((v2.ext x3).mono (by omega)) hL3 hbP tm).mono fun w k4 ⟨c, ws, e, f4, v4, hc, hws⟩ => ?_
      subst e
      refine ⟨_, rfl, _, lstAt_of hc, ?_⟩
      rw [W_len hc]
      refine forGo_inv ws.length (fun z ρ q => ∃ r7 : Option W, ρ = [some (.ref 0), some (.int i), r2, some (.ref P), some (.int mo), some (.int to), some (.ref b), r7] ∧ Ext k4 q) (fun z ρ q hz hp => ?_) (fun ρ q hp => ?_) _ 0 _ _ (Nat.zero_add _) ⟨_, rfl, Ext.refl _⟩
      · obtain ⟨r7, rfl, hx⟩ := hp
        refine ⟨_, _, W_at (hx.get hc) (List.getElem?_eq_getElem hz), ?_⟩
        have hjd := (hws _ (List.getElem_mem hz)).ext hx
        generalize ws[z] = v at *
        obtain ⟨bo, s1, s2⟩ := s_judge hjd
        simp only [ok_def, okS_seq, okS_ret, okS_asg, okS_if, okS_E, okS_par, okS_aug, okS_nop, nxt_nx, nxt_rt, okS_brk, okS_cnt, ok_var, ok_C, ok_op2, ok_op1, ok_call, ok_acons, ok_anil, ok_lst, ok_tup, ok_tVal, ok_mAnd, ok_mOr, ok_mNot, ok_if, ok_tNot, ok_tAnd, ok_tOr, ok_tYes, ok_chain, ok_star, ok_gName, ok_oNone, ok_oSome, ok_sl, ok_rev, ok_mt, ok_ok, ok_lc, okS_for, putL, wipe, startM, List.map_cons, List.map_nil, List.length_cons, List.length_nil, List.replicate, List.cons_append, List.nil_append, Nat.reduceAdd, Nat.reduceSub, List.getElem?_cons_zero, List.getElem?_cons_succ, List.set_cons_succ, List.set_cons_zero, Option.some.injEq, W.bl.injEq, W.int.injEq, W.ref.injEq, exists_eq_left', exists_eq_left, decide_eq_true_eq, true_and, and_true, ok_add, ok_sub, ok_lt, ok_le, ok_gt, ok_ge, ok_neg, ok_mul, ok_div, ok_mod, ok_pow, ok_max2, ok_min2, ok_abs, ok_int, ok_iLst, ok_iTup, ok_iEnum, ok_iZip, ok_iRng1, exists_list1, List.cons.injEq, exists_and_left, exists_const, exists_eq, if_true, if_false, Bool.not_true, Bool.not_false, Bool.false_eq_true, decide_true, decide_false, ok_callP, pick1]
        refine s1.mono fun w q1 ⟨x4, e⟩ => ?_
        subst e
        rw [ok_reprB]
        refine (s2 q1 x4).mono fun w q2 ⟨x5, e⟩ => ?_
        subst e
        rw [ok_reprB, ok_neS]
        refine ⟨_, rfl, ?_⟩
        rw [decide_eq_true rfl, if_neg (by decide)]
        exact (hx.trans x4).trans x5
      · obtain ⟨r7, rfl, hx⟩ := hp
        refine ⟨W_stop (hx.get hc) (Nat.le_refl _), ?_⟩
        exact ⟨_, _, _, _, _, rfl, (((((f.trans f1).trans f2).trans (x3.fr P)).trans f4).trans (hx.fr P)), v4.ext hx⟩
    · obtain ⟨r2, r4, r5, r6, r7, rfl, f, u⟩ := hp
      exact ⟨tup_stop (f.tup hT4 (by omega)) (by omega), _, _, _, _, _, _, _, rfl, hS4.fr f (by omega)⟩
  · obtain ⟨r1, r2, r3, r4, r5, r6, r7, rfl, _⟩ := hp
    exact ⟨rng_stop (Nat.le_refl _), hTail _ _ _ _ _ _ _ _⟩
end M
namespace M
open PySem PySem.Spec PyProof.Rows L2
def top (i : Nat) : Stmt := PySem.Challenge.pw_nestboards_k01_teams_judged.main.body.getD i (.Pass ⟨0, 0, 0, 0⟩)
structure Facts (K : M.Frag) (mg : PySem.Str → Option Value) : Prop where
  g_is_integer : mg "is_integer" = some (.ref (He.ga K "is_integer"))
  f_is_integer : ∃ fd, FunD K "is_integer" "is_integer" (defArgs (top 10)) (defBody (top 10)) (defScope (top 10)) [] [] (He.ga K "is_integer") fd
  g_spare_by : mg "spare_by" = some (.ref (He.ga K "spare_by"))
  f_spare_by : ∃ fd, FunD K "spare_by" "spare_by" (defArgs (top 12)) (defBody (top 12)) (defScope (top 12)) [] [] (He.ga K "spare_by") fd
  g_is_team : mg "is_team" = some (.ref (He.ga K "is_team"))
  f_is_team : ∃ fd, FunD K "is_team" "is_team" (defArgs (top 11)) (defBody (top 11)) (defScope (top 11)) [] [] (He.ga K "is_team") fd
  g_need_team : mg "need_team" = some (.ref (He.ga K "need_team"))
  f_need_team : ∃ fd, FunD K "need_team" "need_team" (defArgs (top 13)) (defBody (top 13)) (defScope (top 13)) [] [] (He.ga K "need_team") fd
  g_need_worker : mg "need_worker" = some (.ref (He.ga K "need_worker"))
  f_need_worker : ∃ fd, FunD K "need_worker" "need_worker" (defArgs (top 14)) (defBody (top 14)) (defScope (top 14)) [] [] (He.ga K "need_worker") fd
  g_need_job : mg "need_job" = some (.ref (He.ga K "need_job"))
  f_need_job : ∃ fd, FunD K "need_job" "need_job" (defArgs (top 15)) (defBody (top 15)) (defScope (top 15)) [] [] (He.ga K "need_job") fd
  g_levels_along : mg "levels_along" = some (.ref (He.ga K "levels_along"))
  f_levels_along : ∃ fd, FunD K "levels_along" "levels_along" (defArgs (top 16)) (defBody (top 16)) (defScope (top 16)) [] [] (He.ga K "levels_along") fd
  g_line_of : mg "line_of" = some (.ref (He.ga K "line_of"))
  f_line_of : ∃ fd, FunD K "line_of" "line_of" (defArgs (top 17)) (defBody (top 17)) (defScope (top 17)) [] [] (He.ga K "line_of") fd
  g_line : mg "line" = some (.ref (He.ga K "line"))
  f_line : ∃ fd, FunD K "line" "line" (defArgs (top 18)) (defBody (top 18)) (defScope (top 18)) [] [] (He.ga K "line") fd
  g_spare_numbers : mg "spare_numbers" = some (.ref (He.ga K "spare_numbers"))
  f_spare_numbers : ∃ fd, FunD K "spare_numbers" "spare_numbers" (defArgs (top 19)) (defBody (top 19)) (defScope (top 19)) [] [] (He.ga K "spare_numbers") fd
  g_can_do : mg "can_do" = some (.ref (He.ga K "can_do"))
  f_can_do : ∃ fd, FunD K "can_do" "can_do" (defArgs (top 20)) (defBody (top 20)) (defScope (top 20)) [] [] (He.ga K "can_do") fd
  g_able_counts : mg "able_counts" = some (.ref (He.ga K "able_counts"))
  f_able_counts : ∃ fd, FunD K "able_counts" "able_counts" (defArgs (top 21)) (defBody (top 21)) (defScope (top 21)) [] [] (He.ga K "able_counts") fd
  g_others : mg "others" = some (.ref (He.ga K "others"))
  f_others : ∃ fd, FunD K "others" "others" (defArgs (top 22)) (defBody (top 22)) (defScope (top 22)) [] [] (He.ga K "others") fd
  g__law_purse : mg "_law_purse" = some (.ref (He.ga K "_law_purse"))
  f__law_purse : ∃ fd, FunD K "_law_purse" "_law_purse" (defArgs (top 24)) (defBody (top 24)) (defScope (top 24)) [] [] (He.ga K "_law_purse") fd
  g__law_toss : mg "_law_toss" = some (.ref (He.ga K "_law_toss"))
  f__law_toss : ∃ fd, FunD K "_law_toss" "_law_toss" (defArgs (top 25)) (defBody (top 25)) (defScope (top 25)) [] [] (He.ga K "_law_toss") fd
  g__law_team : mg "_law_team" = some (.ref (He.ga K "_law_team"))
  f__law_team : ∃ fd, FunD K "_law_team" "_law_team" (defArgs (top 26)) (defBody (top 26)) (defScope (top 26)) [] [] (He.ga K "_law_team") fd
  g__law_line : mg "_law_line" = some (.ref (He.ga K "_law_line"))
  f__law_line : ∃ fd, FunD K "_law_line" "_law_line" (defArgs (top 27)) (defBody (top 27)) (defScope (top 27)) [] [] (He.ga K "_law_line") fd
  g__law_deep : mg "_law_deep" = some (.ref (He.ga K "_law_deep"))
  f__law_deep : ∃ fd, FunD K "_law_deep" "_law_deep" (defArgs (top 28)) (defBody (top 28)) (defScope (top 28)) [] [] (He.ga K "_law_deep") fd
  g__law_bad_teams : mg "_law_bad_teams" = some (.ref (He.ga K "_law_bad_teams"))
  f__law_bad_teams : ∃ fd, FunD K "_law_bad_teams" "_law_bad_teams" (defArgs (top 29)) (defBody (top 29)) (defScope (top 29)) [] [] (He.ga K "_law_bad_teams") fd
  g__law_is : mg "_law_is" = some (.ref (He.ga K "_law_is"))
  f__law_is : ∃ fd, FunD K "_law_is" "_law_is" (defArgs (top 30)) (defBody (top 30)) (defScope (top 30)) [] [] (He.ga K "_law_is") fd
  g__law_again : mg "_law_again" = some (.ref (He.ga K "_law_again"))
  f__law_again : ∃ fd, FunD K "_law_again" "_law_again" (defArgs (top 31)) (defBody (top 31)) (defScope (top 31)) [] [] (He.ga K "_law_again") fd
  g__law_right : mg "_law_right" = some (.ref (He.ga K "_law_right"))
  f__law_right : ∃ fd, FunD K "_law_right" "_law_right" (defArgs (top 32)) (defBody (top 32)) (defScope (top 32)) [] [] (He.ga K "_law_right") fd
  g_law : mg "law" = some (.ref (He.ga K "law"))
  f_law : ∃ fd, FunD K "law" "law" (defArgs (top 33)) (defBody (top 33)) (defScope (top 33)) [] [] (He.ga K "law") fd
  b_abs : mg "abs" = none
  b_all : mg "all" = none
  b_bool : mg "bool" = none
  b_enumerate : mg "enumerate" = none
  b_int : mg "int" = none
  b_isinstance : mg "isinstance" = none
  b_len : mg "len" = none
  b_list : mg "list" = none
  b_max : mg "max" = none
  b_min : mg "min" = none
  b_range : mg "range" = none
  b_repr : mg "repr" = none
  b_sorted : mg "sorted" = none
  b_tuple : mg "tuple" = none
  i_MOST_WORKERS : ∃ t, mg "MOST_WORKERS" = some (.int 20 t)
  i_MOST_SPARE : ∃ t, mg "MOST_SPARE" = some (.int 40 t)
  i_MOST_JOB : ∃ t, mg "MOST_JOB" = some (.int 59 t)
  e_NestError : ExcOk K mg "NestError"
  e_InvalidTeam : ExcOk K mg "InvalidTeam"
  e_InvalidWorker : ExcOk K mg "InvalidWorker"
  e_InvalidJob : ExcOk K mg "InvalidJob"
  e_InvalidNumber : ExcOk K mg "InvalidNumber"
theorem sc_is_integer : FnScope ["thing"] ["thing"] (defScope (top 10)) := ⟨rfl, rfl, rfl, by decide +kernel, rfl, by decide +kernel, by decide +kernel⟩
theorem sc_spare_by : FnScope ["levels", "place", "level"] ["levels"] (defScope (top 12)) := ⟨rfl, rfl, rfl, by decide +kernel, rfl, by decide +kernel, by decide +kernel⟩
theorem sc_is_team : FnScope ["thing", "level"] ["thing"] (defScope (top 11)) := ⟨rfl, rfl, rfl, by decide +kernel, rfl, by decide +kernel, by decide +kernel⟩
theorem sc_need_team : FnScope ["team"] ["team"] (defScope (top 13)) := ⟨rfl, rfl, rfl, by decide +kernel, rfl, by decide +kernel, by decide +kernel⟩
theorem sc_need_worker : FnScope ["team", "worker"] ["team", "worker"] (defScope (top 14)) := ⟨rfl, rfl, rfl, by decide +kernel, rfl, by decide +kernel, by decide +kernel⟩
theorem sc_need_job : FnScope ["job"] ["job"] (defScope (top 15)) := ⟨rfl, rfl, rfl, by decide +kernel, rfl, by decide +kernel, by decide +kernel⟩
theorem sc_levels_along : FnScope ["team"] ["team"] (defScope (top 16)) := ⟨rfl, rfl, rfl, by decide +kernel, rfl, by decide +kernel, by decide +kernel⟩
theorem sc_line_of : FnScope ["team", "level", "worker"] ["team"] (defScope (top 17)) := ⟨rfl, rfl, rfl, by decide +kernel, rfl, by decide +kernel, by decide +kernel⟩
theorem sc_line : FnScope ["team"] ["team"] (defScope (top 18)) := ⟨rfl, rfl, rfl, by decide +kernel, rfl, by decide +kernel, by decide +kernel⟩
theorem sc_spare_numbers : FnScope ["team"] ["team"] (defScope (top 19)) := ⟨rfl, rfl, rfl, by decide +kernel, rfl, by decide +kernel, by decide +kernel⟩
theorem sc_can_do : FnScope ["team", "worker", "job"] ["team", "worker", "job"] (defScope (top 20)) := ⟨rfl, rfl, rfl, by decide +kernel, rfl, by decide +kernel, by decide +kernel⟩
theorem sc_able_counts : FnScope ["team", "job", "level"] ["team"] (defScope (top 21)) := ⟨rfl, rfl, rfl, by decide +kernel, rfl, by decide +kernel, by decide +kernel⟩
theorem sc_others : FnScope ["team", "level", "own"] ["team", "level"] (defScope (top 22)) := ⟨rfl, rfl, rfl, by decide +kernel, rfl, by decide +kernel, by decide +kernel⟩
theorem sc__law_purse : FnScope ["script", "k", "cell_here"] ["script", "k"] (defScope (top 24)) := ⟨rfl, rfl, rfl, by decide +kernel, rfl, by decide +kernel, by decide +kernel⟩
theorem sc__law_toss : FnScope ["purse", "wide", "mixed", "side"] ["purse", "wide"] (defScope (top 25)) := ⟨rfl, rfl, rfl, by decide +kernel, rfl, by decide +kernel, by decide +kernel⟩
theorem sc__law_team : FnScope ["purse", "most", "top", "left", "k", "size_here", "style", "high", "some"] ["purse", "most", "top"] (defScope (top 26)) := ⟨rfl, rfl, rfl, by decide +kernel, rfl, by decide +kernel, by decide +kernel⟩
theorem sc__law_line : FnScope ["crew", "grade", "spot"] ["crew"] (defScope (top 27)) := ⟨rfl, rfl, rfl, by decide +kernel, rfl, by decide +kernel, by decide +kernel⟩
theorem sc__law_deep : FnScope ["thing_here", "turns", "turn"] ["thing_here", "turns"] (defScope (top 28)) := ⟨rfl, rfl, rfl, by decide +kernel, rfl, by decide +kernel, by decide +kernel⟩
theorem sc__law_bad_teams : FnScope ["purse", "crew", "found", "k", "wrong"] ["purse", "crew"] (defScope (top 29)) := ⟨rfl, rfl, rfl, by decide +kernel, rfl, by decide +kernel, by decide +kernel⟩
theorem sc__law_is : FnScope ["row", "grade", "k"] ["row"] (defScope (top 30)) := ⟨rfl, rfl, rfl, by decide +kernel, rfl, by decide +kernel, by decide +kernel⟩
theorem sc__law_again : FnScope ["door", "crew", "due", "told"] ["door", "crew", "due"] (defScope (top 31)) := ⟨rfl, rfl, rfl, by decide +kernel, rfl, by decide +kernel, by decide +kernel⟩
theorem sc__law_right : FnScope ["purse", "crew", "spare_here", "able", "turn", "before", "rows_here", "spot", "task", "high", "told", "k", "grade"] ["purse", "crew"] (defScope (top 32)) := ⟨rfl, rfl, rfl, by decide +kernel, rfl, by decide +kernel, by decide +kernel⟩
theorem sc_law : FnScope ["script", "k", "told", "purse", "most", "top", "crew", "row"] ["script"] (defScope (top 33)) := ⟨rfl, rfl, rfl, by decide +kernel, rfl, by decide +kernel, by decide +kernel⟩
section
variable {P : Program} {w : World} {K : M.Frag} {mg : PySem.Str → Option Value} {base : Heap} (T : Facts K mg)
include T
theorem ok_is_integer : DefOk P w K mg base "is_integer" ["thing"] 1 m_is_integer := by
  obtain ⟨fd, F⟩ := T.f_is_integer
  refine ⟨T.g_is_integer, F.kp, mDef_ar _ _ _, fd, ⟨FunD.self F, F.bindsA (ps := ["thing"]) (fun _ _ _ _ _ _ us hl => match us, hl with | [_], _ => rfl)⟩, m_def (k := 0) F sc_is_integer fun cdv A outer s H E hr => ?_⟩
  have tk := (takes_of rfl rfl rfl rfl : Takes (cxOf (L2.CX P w) P w K mg base ["thing"] "is_integer" (defScope (top 10)) (He.ga K "is_integer") cdv A outer s H E) (fun c d _ H => E c d H))
  unfold b_is_integer
  exact m_sone (m_ret (m_and (m_callB c_isi T.b_isinstance (m_acons (m_var 0) (m_acons (m_ty T.b_int (by decide +kernel)) (m_anil)))) (m_one (m_not (m_callB c_isi T.b_isinstance (m_acons (m_var 0) (m_acons (m_ty T.b_bool (by decide +kernel)) (m_anil))))))))
theorem ok_spare_by : DefOk P w K mg base "spare_by" ["levels"] 1 m_spare_by := by
  obtain ⟨fd, F⟩ := T.f_spare_by
  refine ⟨T.g_spare_by, F.kp, mDef_ar _ _ _, fd, ⟨FunD.self F, F.bindsA (ps := ["levels"]) (fun _ _ _ _ _ _ us hl => match us, hl with | [_], _ => rfl)⟩, m_def (k := 0) F sc_spare_by fun cdv A outer s H E hr => ?_⟩
  have tk := (takes_of rfl rfl rfl rfl : Takes (cxOf (L2.CX P w) P w K mg base ["levels", "place", "level"] "spare_by" (defScope (top 12)) (He.ga K "spare_by") cdv A outer s H E) (fun c d _ H => E c d H))
  unfold b_spare_by
  exact m_sone (m_ret (m_lc (own := [("place", 1), ("level", 2)]) sc_spare_by.nd (m_iEnum T.b_enumerate (m_acons (m_var 0) (m_anil))) (blkOk_by (by kernel_rfl)) (fun _ _ _ _ _ => m_gTup rfl (m_gcons (m_gName 1  sc_spare_by.nd) (m_gcons (m_gName 2  sc_spare_by.nd) (m_gnil)))) (fun _ _ _ _ _ => m_tsNil) (fun _ _ _ _ _ => m_bin o_sub (m_var 2) (m_var 1))))
theorem ok_is_team : DefOk P w K mg base "is_team" ["thing"] 2 m_is_team := by
  obtain ⟨fd, F⟩ := T.f_is_team
  refine ⟨T.g_is_team, F.kp, mDef_ar _ _ _, fd, ⟨FunD.self F, F.bindsA (ps := ["thing"]) (fun _ _ _ _ _ _ us hl => match us, hl with | [_], _ => rfl)⟩, m_def (k := 1) F sc_is_team fun cdv A outer s H E hr => ?_⟩
  have tk := (takes_of rfl rfl rfl rfl : Takes (cxOf (L2.CX P w) P w K mg base ["thing", "level"] "is_team" (defScope (top 11)) (He.ga K "is_team") cdv A outer s H E) (fun c d _ H => E c d H))
  unfold b_is_team
  exact m_cons (m_if (PW.pt (m_tOr (m_tNot (m_tVal (m_callB c_isi T.b_isinstance (m_acons (m_var 0) (m_acons (m_ty T.b_list (by decide +kernel)) (m_anil)))))) (m_or1 (m_tNot (m_tChain o_le o_le (m_int) (m_callB c_len T.b_len (m_acons (m_var 0) (m_anil))) (m_gint T.i_MOST_WORKERS)))))) (m_sone (m_ret (m_bl))) (m_nil))
    (m_cons (m_if (m_tNot (m_tVal (m_callB (c_all rfl) T.b_all (m_acons (m_lc (own := [("level", 1)]) sc_is_team.nd (m_iLst (m_var 0)) (blkOk_by (by kernel_rfl)) (fun _ _ _ _ _ => m_gName 1  sc_is_team.nd) (fun _ _ _ _ _ => m_tsNil) (fun _ _ _ _ _ => m_and (m_call (ok_is_integer T) (hr.mono (by decide)) takes0 (m_acons (m_var 1) (m_anil))) (m_one (m_cmp o_ge (m_var 1) (m_int))))) (m_anil))))) (m_sone (m_ret (m_bl))) (m_nil))
    (m_sone (m_ret (m_cmp o_le (m_callB (c_max rfl) T.b_max (m_acons (m_call (ok_spare_by T) (hr.mono (by decide)) tk (m_acons (m_callB c_sorted T.b_sorted (m_acons (m_var 0) (m_anil))) (m_anil))) (m_anil))) (m_gint T.i_MOST_SPARE)))))
theorem ok_need_team : DefOk P w K mg base "need_team" ["team"] 3 m_need_team := by
  obtain ⟨fd, F⟩ := T.f_need_team
  refine ⟨T.g_need_team, F.kp, mDef_ar _ _ _, fd, ⟨FunD.self F, F.bindsA (ps := ["team"]) (fun _ _ _ _ _ _ us hl => match us, hl with | [_], _ => rfl)⟩, m_def (k := 2) F sc_need_team fun cdv A outer s H E hr => ?_⟩
  have tk := (takes_of rfl rfl rfl rfl : Takes (cxOf (L2.CX P w) P w K mg base ["team"] "need_team" (defScope (top 13)) (He.ga K "need_team") cdv A outer s H E) (fun c d _ H => E c d H))
  unfold b_need_team
  exact m_sone (m_if (m_tNot (m_tVal (m_call (ok_is_team T) (hr.mono (by decide)) tk (m_acons (m_var 0) (m_anil))))) (m_sone (m_raise T.e_InvalidTeam tk)) (m_nil))
theorem ok_need_worker : DefOk P w K mg base "need_worker" ["team", "worker"] 1 m_need_worker := by
  obtain ⟨fd, F⟩ := T.f_need_worker
  refine ⟨T.g_need_worker, F.kp, mDef_ar _ _ _, fd, ⟨FunD.self F, F.bindsA (ps := ["team", "worker"]) (fun _ _ _ _ _ _ us hl => match us, hl with | [_, _], _ => rfl)⟩, m_def (k := 0) F sc_need_worker fun cdv A outer s H E hr => ?_⟩
  have tk := (takes_of rfl rfl rfl rfl : Takes (cxOf (L2.CX P w) P w K mg base ["team", "worker"] "need_worker" (defScope (top 14)) (He.ga K "need_worker") cdv A outer s H E) (fun c d _ H => E c d H))
  unfold b_need_worker
  exact m_sone (m_if (m_tNot (m_tChain o_le o_lt (m_int) (m_var 1) (m_callB c_len T.b_len (m_acons (m_var 0) (m_anil))))) (m_sone (m_raise T.e_InvalidWorker tk)) (m_nil))
theorem ok_need_job : DefOk P w K mg base "need_job" ["job"] 1 m_need_job := by
  obtain ⟨fd, F⟩ := T.f_need_job
  refine ⟨T.g_need_job, F.kp, mDef_ar _ _ _, fd, ⟨FunD.self F, F.bindsA (ps := ["job"]) (fun _ _ _ _ _ _ us hl => match us, hl with | [_], _ => rfl)⟩, m_def (k := 0) F sc_need_job fun cdv A outer s H E hr => ?_⟩
  have tk := (takes_of rfl rfl rfl rfl : Takes (cxOf (L2.CX P w) P w K mg base ["job"] "need_job" (defScope (top 15)) (He.ga K "need_job") cdv A outer s H E) (fun c d _ H => E c d H))
  unfold b_need_job
  exact m_sone (m_if (m_tNot (m_tChain o_le o_le (m_int) (m_var 0) (m_gint T.i_MOST_JOB))) (m_sone (m_raise T.e_InvalidJob tk)) (m_nil))
theorem ok_levels_along : DefOk P w K mg base "levels_along" ["team"] 1 m_levels_along := by
  obtain ⟨fd, F⟩ := T.f_levels_along
  refine ⟨T.g_levels_along, F.kp, mDef_ar _ _ _, fd, ⟨FunD.self F, F.bindsA (ps := ["team"]) (fun _ _ _ _ _ _ us hl => match us, hl with | [_], _ => rfl)⟩, m_def (k := 0) F sc_levels_along fun cdv A outer s H E hr => ?_⟩
  have tk := (takes_of rfl rfl rfl rfl : Takes (cxOf (L2.CX P w) P w K mg base ["team"] "levels_along" (defScope (top 16)) (He.ga K "levels_along") cdv A outer s H E) (fun c d _ H => E c d H))
  unfold b_levels_along
  exact m_sone (m_ret (m_callB c_sorted T.b_sorted (m_acons (m_var 0) (m_anil))))
theorem ok_line_of : DefOk P w K mg base "line_of" ["team"] 1 m_line_of := by
  obtain ⟨fd, F⟩ := T.f_line_of
  refine ⟨T.g_line_of, F.kp, mDef_ar _ _ _, fd, ⟨FunD.self F, F.bindsA (ps := ["team"]) (fun _ _ _ _ _ _ us hl => match us, hl with | [_], _ => rfl)⟩, m_def (k := 0) F sc_line_of fun cdv A outer s H E hr => ?_⟩
  have tk := (takes_of rfl rfl rfl rfl : Takes (cxOf (L2.CX P w) P w K mg base ["team", "level", "worker"] "line_of" (defScope (top 17)) (He.ga K "line_of") cdv A outer s H E) (fun c d _ H => E c d H))
  unfold b_line_of
  exact m_sone (m_ret (m_lc (own := [("level", 1), ("worker", 2)]) sc_line_of.nd (m_iLst (m_callB c_sorted T.b_sorted (m_acons (m_lc (own := [("worker", 2), ("level", 1)]) sc_line_of.nd (m_iEnum T.b_enumerate (m_acons (m_var 0) (m_anil))) (blkOk_by (by kernel_rfl)) (fun _ _ _ _ _ => m_gTup rfl (m_gcons (m_gName 2  sc_line_of.nd) (m_gcons (m_gName 1  sc_line_of.nd) (m_gnil)))) (fun _ _ _ _ _ => m_tsNil) (fun _ _ _ _ _ => m_tup (m_acons (m_var 1) (m_acons (m_var 2) (m_anil))))) (m_anil)))) (blkOk_by (by kernel_rfl)) (fun _ _ _ _ _ => m_gTup rfl (m_gcons (m_gName 1  sc_line_of.nd) (m_gcons (m_gName 2  sc_line_of.nd) (m_gnil)))) (fun _ _ _ _ _ => m_tsNil) (fun _ _ _ _ _ => m_var 2)))
theorem ok_line : DefOk P w K mg base "line" ["team"] 4 m_line := by
  obtain ⟨fd, F⟩ := T.f_line
  refine ⟨T.g_line, F.kp, mDef_ar _ _ _, fd, ⟨FunD.self F, F.bindsA (ps := ["team"]) (fun _ _ _ _ _ _ us hl => match us, hl with | [_], _ => rfl)⟩, m_def (k := 3) F sc_line fun cdv A outer s H E hr => ?_⟩
  have tk := (takes_of rfl rfl rfl rfl : Takes (cxOf (L2.CX P w) P w K mg base ["team"] "line" (defScope (top 18)) (He.ga K "line") cdv A outer s H E) (fun c d _ H => E c d H))
  unfold b_line
  exact m_cons (m_expr (m_call (ok_need_team T) (hr.mono (by decide)) tk (m_acons (m_var 0) (m_anil))))
    (m_sone (m_ret (m_call (ok_line_of T) (hr.mono (by decide)) tk (m_acons (m_var 0) (m_anil)))))
theorem ok_spare_numbers : DefOk P w K mg base "spare_numbers" ["team"] 4 m_spare_numbers := by
  obtain ⟨fd, F⟩ := T.f_spare_numbers
  refine ⟨T.g_spare_numbers, F.kp, mDef_ar _ _ _, fd, ⟨FunD.self F, F.bindsA (ps := ["team"]) (fun _ _ _ _ _ _ us hl => match us, hl with | [_], _ => rfl)⟩, m_def (k := 3) F sc_spare_numbers fun cdv A outer s H E hr => ?_⟩
  have tk := (takes_of rfl rfl rfl rfl : Takes (cxOf (L2.CX P w) P w K mg base ["team"] "spare_numbers" (defScope (top 19)) (He.ga K "spare_numbers") cdv A outer s H E) (fun c d _ H => E c d H))
  unfold b_spare_numbers
  exact m_cons (m_expr (m_call (ok_need_team T) (hr.mono (by decide)) tk (m_acons (m_var 0) (m_anil))))
    (m_sone (m_ret (m_call (ok_spare_by T) (hr.mono (by decide)) tk (m_acons (m_call (ok_levels_along T) (hr.mono (by decide)) tk (m_acons (m_var 0) (m_anil))) (m_anil)))))
theorem ok_can_do : DefOk P w K mg base "can_do" ["team", "worker", "job"] 4 m_can_do := by
  obtain ⟨fd, F⟩ := T.f_can_do
  refine ⟨T.g_can_do, F.kp, mDef_ar _ _ _, fd, ⟨FunD.self F, F.bindsA (ps := ["team", "worker", "job"]) (fun _ _ _ _ _ _ us hl => match us, hl with | [_, _, _], _ => rfl)⟩, m_def (k := 3) F sc_can_do fun cdv A outer s H E hr => ?_⟩
  have tk := (takes_of rfl rfl rfl rfl : Takes (cxOf (L2.CX P w) P w K mg base ["team", "worker", "job"] "can_do" (defScope (top 20)) (He.ga K "can_do") cdv A outer s H E) (fun c d _ H => E c d H))
  unfold b_can_do
  exact m_cons (m_expr (m_call (ok_need_team T) (hr.mono (by decide)) tk (m_acons (m_var 0) (m_anil))))
    (m_cons (m_expr (m_call (ok_need_worker T) (hr.mono (by decide)) tk (m_acons (m_var 0) (m_acons (m_var 1) (m_anil)))))
    (m_cons (m_expr (m_call (ok_need_job T) (hr.mono (by decide)) tk (m_acons (m_var 2) (m_anil))))
    (m_sone (m_ret (m_cmp o_lt (m_var 2) (m_ix (m_var 0) (m_var 1)))))))
theorem ok_able_counts : DefOk P w K mg base "able_counts" ["team"] 4 m_able_counts := by
  obtain ⟨fd, F⟩ := T.f_able_counts
  refine ⟨T.g_able_counts, F.kp, mDef_ar _ _ _, fd, ⟨FunD.self F, F.bindsA (ps := ["team"]) (fun _ _ _ _ _ _ us hl => match us, hl with | [_], _ => rfl)⟩, m_def (k := 3) F sc_able_counts fun cdv A outer s H E hr => ?_⟩
  have tk := (takes_of rfl rfl rfl rfl : Takes (cxOf (L2.CX P w) P w K mg base ["team", "job", "level"] "able_counts" (defScope (top 21)) (He.ga K "able_counts") cdv A outer s H E) (fun c d _ H => E c d H))
  unfold b_able_counts
  exact m_cons (m_expr (m_call (ok_need_team T) (hr.mono (by decide)) tk (m_acons (m_var 0) (m_anil))))
    (m_sone (m_ret (m_lc (own := [("job", 1)]) sc_able_counts.nd (m_iRng1 T.b_range (m_acons (m_callB (c_max rfl) T.b_max (m_acons (m_var 0) (m_anil))) (m_anil))) (blkOk_by (by kernel_rfl)) (fun _ _ _ _ _ => m_gName 1  sc_able_counts.nd) (fun _ _ _ _ _ => m_tsNil) (fun _ _ _ _ _ => m_callB c_len T.b_len (m_acons (m_lc (own := [("level", 2)]) sc_able_counts.nd (m_iLst (m_var 0)) (blkOk_by (by kernel_rfl)) (fun _ _ _ _ _ => m_gName 2  sc_able_counts.nd) (fun _ _ _ _ _ => m_tsOne (m_tCmp o_gt (m_var 2) (m_var 1))) (fun _ _ _ _ _ => m_var 2)) (m_anil))))))
theorem ok_others : DefOk P w K mg base "others" ["team", "level"] 4 m_others := by
  obtain ⟨fd, F⟩ := T.f_others
  refine ⟨T.g_others, F.kp, mDef_ar _ _ _, fd, ⟨FunD.self F, F.bindsA (ps := ["team", "level"]) (fun _ _ _ _ _ _ us hl => match us, hl with | [_, _], _ => rfl)⟩, m_def (k := 3) F sc_others fun cdv A outer s H E hr => ?_⟩
  have tk := (takes_of rfl rfl rfl rfl : Takes (cxOf (L2.CX P w) P w K mg base ["team", "level", "own"] "others" (defScope (top 22)) (He.ga K "others") cdv A outer s H E) (fun c d _ H => E c d H))
  unfold b_others
  exact m_cons (m_expr (m_call (ok_need_team T) (hr.mono (by decide)) tk (m_acons (m_var 0) (m_anil))))
    (m_cons (m_if (m_tNot (m_tChain o_le o_le (m_callB (c_max rfl) T.b_max (m_acons (m_var 0) (m_anil))) (m_var 1) (m_gint T.i_MOST_SPARE))) (m_sone (m_raise T.e_InvalidNumber tk)) (m_nil))
    (m_sone (m_ret (m_lc (own := [("own", 2)]) sc_others.nd (m_iLst (m_var 0)) (blkOk_by (by kernel_rfl)) (fun _ _ _ _ _ => m_gName 2  sc_others.nd) (fun _ _ _ _ _ => m_tsNil) (fun _ _ _ _ _ => m_bin o_sub (m_var 1) (m_var 2))))))
theorem ok__law_purse : DefOk P w K mg base "_law_purse" ["script", "k"] 1 m__law_purse := by
  obtain ⟨fd, F⟩ := T.f__law_purse
  refine ⟨T.g__law_purse, F.kp, mDef_ar _ _ _, fd, ⟨FunD.self F, F.bindsA (ps := ["script", "k"]) (fun _ _ _ _ _ _ us hl => match us, hl with | [_, _], _ => rfl)⟩, m_def (k := 0) F sc__law_purse fun cdv A outer s H E hr => ?_⟩
  have tk := (takes_of rfl rfl rfl rfl : Takes (cxOf (L2.CX P w) P w K mg base ["script", "k", "cell_here"] "_law_purse" (defScope (top 24)) (He.ga K "_law_purse") cdv A outer s H E) (fun c d _ H => E c d H))
  unfold b__law_purse
  exact m_cons (m_set 2 sc__law_purse.nd (m_ifE (m_tCmp o_lt (m_var 1) (m_callB c_len T.b_len (m_acons (m_var 0) (m_anil)))) (m_ix (m_var 0) (m_var 1)) (m_int)))
    (m_sone (m_ret (m_lst (m_acons (m_callB (c_max rfl) T.b_max (m_acons (m_int) (m_acons (m_bin o_sub (m_callB c_abs T.b_abs (m_acons (m_var 2) (m_anil))) (m_bin o_pow (m_int) (m_int))) (m_anil)))) (m_acons (m_bin o_add (m_bin o_mul (m_bin o_mod (m_callTy c_int T.b_int (m_acons (m_var 2) (m_anil))) (m_bin o_add (m_bin o_pow (m_int) (m_int)) (m_int))) (m_int)) (m_bin o_mul (m_int) (m_var 1))) (m_acons (m_int) (m_anil)))))))
theorem ok__law_toss : DefOk P w K mg base "_law_toss" ["purse", "wide"] 1 m__law_toss := by
  obtain ⟨fd, F⟩ := T.f__law_toss
  refine ⟨T.g__law_toss, F.kp, mDef_ar _ _ _, fd, ⟨FunD.self F, F.bindsA (ps := ["purse", "wide"]) (fun _ _ _ _ _ _ us hl => match us, hl with | [_, _], _ => rfl)⟩, m_def (k := 0) F sc__law_toss fun cdv A outer s H E hr => ?_⟩
  have tk := (takes_of rfl rfl rfl rfl : Takes (cxOf (L2.CX P w) P w K mg base ["purse", "wide", "mixed", "side"] "_law_toss" (defScope (top 25)) (He.ga K "_law_toss") cdv A outer s H E) (fun c d _ H => E c d H))
  unfold b__law_toss
  exact m_cons (m_if (m_tCmp o_gt (m_ix (m_var 0) (m_int)) (m_int)) (m_cons (m_set 3 sc__law_toss.nd (m_bin o_mod (m_callTy c_int T.b_int (m_acons (m_ix (m_var 0) (m_int)) (m_anil))) (m_var 1)))
    (m_cons (m_asg (vs := []) (m_bin o_div (m_ix (m_var 0) (m_int)) (m_var 1)) (m_gSub (m_var 0) (m_int)))
    (m_sone (m_ret (m_var 3))))) (m_nil))
    (m_cons (m_asg (vs := []) (m_bin o_add (m_ix (m_var 0) (m_int)) (m_int)) (m_gSub (m_var 0) (m_int)))
    (m_cons (m_set 2 sc__law_toss.nd (m_bin o_mod (m_callTy c_int T.b_int (m_acons (m_bin o_pow (m_bin o_add (m_ix (m_var 0) (m_int)) (m_bin o_mul (m_int) (m_ix (m_var 0) (m_int)))) (m_int)) (m_anil))) (m_bin o_add (m_bin o_pow (m_int) (m_int)) (m_int))))
    (m_cons (m_set 2 sc__law_toss.nd (m_bin o_mod (m_callTy c_int T.b_int (m_acons (m_bin o_pow (m_bin o_add (m_var 2) (m_bin o_mul (m_int) (m_ix (m_var 0) (m_int)))) (m_int)) (m_anil))) (m_bin o_add (m_bin o_pow (m_int) (m_int)) (m_int))))
    (m_sone (m_ret (m_bin o_mod (m_callTy c_int T.b_int (m_acons (m_bin o_div (m_var 2) (m_int)) (m_anil))) (m_var 1)))))))
theorem ok__law_team : DefOk P w K mg base "_law_team" ["purse", "most", "top"] 2 m__law_team := by
  obtain ⟨fd, F⟩ := T.f__law_team
  refine ⟨T.g__law_team, F.kp, mDef_ar _ _ _, fd, ⟨FunD.self F, F.bindsA (ps := ["purse", "most", "top"]) (fun _ _ _ _ _ _ us hl => match us, hl with | [_, _, _], _ => rfl)⟩, m_def (k := 1) F sc__law_team fun cdv A outer s H E hr => ?_⟩
  have tk := (takes_of rfl rfl rfl rfl : Takes (cxOf (L2.CX P w) P w K mg base ["purse", "most", "top", "left", "k", "size_here", "style", "high", "some"] "_law_team" (defScope (top 26)) (He.ga K "_law_team") cdv A outer s H E) (fun c d _ H => E c d H))
  unfold b__law_team
  exact m_cons (m_par3 5 6 7 sc__law_team.nd (m_acons (m_bin o_add (m_int) (m_call (ok__law_toss T) (hr.mono (by decide)) tk (m_acons (m_var 0) (m_acons (m_var 1) (m_anil))))) (m_acons (m_call (ok__law_toss T) (hr.mono (by decide)) tk (m_acons (m_var 0) (m_acons (m_int) (m_anil)))) (m_acons (m_call (ok__law_toss T) (hr.mono (by decide)) tk (m_acons (m_var 0) (m_acons (m_bin o_add (m_var 2) (m_int)) (m_anil)))) (m_anil)))))
    (m_cons (m_set 3 sc__law_team.nd (m_lst (m_anil)))
    (m_cons (m_for (passes_of rfl) (m_iRng1 T.b_range (m_acons (m_var 5) (m_anil))) (m_gName 4 (vs := [4]) sc__law_team.nd) (m_cons (m_set 8 sc__law_team.nd (m_lst (m_acons (m_call (ok__law_toss T) (hr.mono (by decide)) tk (m_acons (m_var 0) (m_acons (m_bin o_add (m_var 2) (m_int)) (m_anil)))) (m_acons (m_call (ok__law_toss T) (hr.mono (by decide)) tk (m_acons (m_var 0) (m_acons (m_callB (c_min rfl) T.b_min (m_acons (m_int) (m_acons (m_bin o_add (m_var 2) (m_int)) (m_anil)))) (m_anil)))) (m_acons (m_call (ok__law_toss T) (hr.mono (by decide)) tk (m_acons (m_var 0) (m_acons (m_bin o_add (m_bin o_add (m_var 2) (m_var 4)) (m_int)) (m_anil)))) (m_anil))))))
    (m_sone (m_expr (m_mt t_append PySem.F.slot_list_append PySem.F.type_list_append (m_var 3) (m_acons (m_ix (m_bin o_add (m_var 8) (m_lst (m_acons (m_callB (c_max rfl) T.b_max (m_acons (m_int) (m_acons (m_bin o_sub (m_bin o_add (m_var 2) (m_var 4)) (m_call (ok__law_toss T) (hr.mono (by decide)) tk (m_acons (m_var 0) (m_acons (m_int) (m_anil))))) (m_anil)))) (m_acons (m_var 7) (m_acons (m_bin o_add (m_callB (c_min rfl) T.b_min (m_acons (m_var 2) (m_acons (m_call (ok__law_toss T) (hr.mono (by decide)) tk (m_acons (m_var 0) (m_acons (m_int) (m_anil)))) (m_anil)))) (m_var 4)) (m_anil)))))) (m_var 6)) (m_anil)))))))
    (m_sone (m_ret (m_lc (own := [("k", 4)]) sc__law_team.nd (m_iRng1 T.b_range (m_acons (m_var 5) (m_anil))) (blkOk_by (by kernel_rfl)) (fun _ _ _ _ _ => m_gName 4  sc__law_team.nd) (fun _ _ _ _ _ => m_tsNil) (fun _ _ _ _ _ => m_mt t_pop PySem.F.slot_list_pop PySem.F.type_list_pop (m_var 3) (m_acons (m_call (ok__law_toss T) (hr.mono (by decide)) takes0 (m_acons (m_var 0) (m_acons (m_callB c_len T.b_len (m_acons (m_var 3) (m_anil))) (m_anil)))) (m_anil))))))))
theorem ok__law_line : DefOk P w K mg base "_law_line" ["crew"] 1 m__law_line := by
  obtain ⟨fd, F⟩ := T.f__law_line
  refine ⟨T.g__law_line, F.kp, mDef_ar _ _ _, fd, ⟨FunD.self F, F.bindsA (ps := ["crew"]) (fun _ _ _ _ _ _ us hl => match us, hl with | [_], _ => rfl)⟩, m_def (k := 0) F sc__law_line fun cdv A outer s H E hr => ?_⟩
  have tk := (takes_of rfl rfl rfl rfl : Takes (cxOf (L2.CX P w) P w K mg base ["crew", "grade", "spot"] "_law_line" (defScope (top 27)) (He.ga K "_law_line") cdv A outer s H E) (fun c d _ H => E c d H))
  unfold b__law_line
  exact m_sone (m_ret (m_lc (own := [("grade", 1), ("spot", 2)]) sc__law_line.nd (m_iLst (m_callB c_sorted T.b_sorted (m_acons (m_lc (own := [("spot", 2), ("grade", 1)]) sc__law_line.nd (m_iEnum T.b_enumerate (m_acons (m_var 0) (m_anil))) (blkOk_by (by kernel_rfl)) (fun _ _ _ _ _ => m_gTup rfl (m_gcons (m_gName 2  sc__law_line.nd) (m_gcons (m_gName 1  sc__law_line.nd) (m_gnil)))) (fun _ _ _ _ _ => m_tsNil) (fun _ _ _ _ _ => m_tup (m_acons (m_var 1) (m_acons (m_var 2) (m_anil))))) (m_anil)))) (blkOk_by (by kernel_rfl)) (fun _ _ _ _ _ => m_gTup rfl (m_gcons (m_gName 1  sc__law_line.nd) (m_gcons (m_gName 2  sc__law_line.nd) (m_gnil)))) (fun _ _ _ _ _ => m_tsNil) (fun _ _ _ _ _ => m_var 2)))
theorem ok__law_deep : DefOk P w K mg base "_law_deep" ["thing_here", "turns"] 1 m__law_deep := by
  obtain ⟨fd, F⟩ := T.f__law_deep
  refine ⟨T.g__law_deep, F.kp, mDef_ar _ _ _, fd, ⟨FunD.self F, F.bindsA (ps := ["thing_here", "turns"]) (fun _ _ _ _ _ _ us hl => match us, hl with | [_, _], _ => rfl)⟩, m_def (k := 0) F sc__law_deep fun cdv A outer s H E hr => ?_⟩
  have tk := (takes_of rfl rfl rfl rfl : Takes (cxOf (L2.CX P w) P w K mg base ["thing_here", "turns", "turn"] "_law_deep" (defScope (top 28)) (He.ga K "_law_deep") cdv A outer s H E) (fun c d _ H => E c d H))
  unfold b__law_deep
  exact m_cons (m_for (passes_of rfl) (m_iRng1 T.b_range (m_acons (m_var 1) (m_anil))) (m_gName 2 (vs := [2]) sc__law_deep.nd) (m_sone (m_set 0 sc__law_deep.nd (m_lst (m_acons (m_var 0) (m_anil))))))
    (m_sone (m_ret (m_var 0)))
theorem ok__law_bad_teams : DefOk P w K mg base "_law_bad_teams" ["purse", "crew"] 2 m__law_bad_teams := by
  obtain ⟨fd, F⟩ := T.f__law_bad_teams
  refine ⟨T.g__law_bad_teams, F.kp, mDef_ar _ _ _, fd, ⟨FunD.self F, F.bindsA (ps := ["purse", "crew"]) (fun _ _ _ _ _ _ us hl => match us, hl with | [_, _], _ => rfl)⟩, m_def (k := 1) F sc__law_bad_teams fun cdv A outer s H E hr => ?_⟩
  have tk := (takes_of rfl rfl rfl rfl : Takes (cxOf (L2.CX P w) P w K mg base ["purse", "crew", "found", "k", "wrong"] "_law_bad_teams" (defScope (top 29)) (He.ga K "_law_bad_teams") cdv A outer s H E) (fun c d _ H => E c d H))
  unfold b__law_bad_teams
  exact m_cons (m_set 2 sc__law_bad_teams.nd (m_lst (m_acons (m_non) (m_acons (m_int) (m_acons (m_bl) (m_acons (m_str) (m_acons (m_str) (m_acons (m_d0) (m_acons (m_tup (m_anil)) (m_acons (m_callTy c_tuple T.b_tuple (m_acons (m_var 1) (m_anil))) (m_acons (m_lst (m_acons (m_var 1) (m_anil))) (m_acons (m_d1) (m_acons (m_lst (m_anil)) (m_acons (m_lst (m_acons (m_non) (m_anil))) (m_acons (m_lst (m_acons (m_bl) (m_anil))) (m_acons (m_lst (m_acons (m_int) (m_acons (m_bl) (m_anil)))) (m_acons (m_lst (m_acons (m_un o_neg (m_int)) (m_anil))) (m_anil))))))))))))))))))
    (m_cons (m_set 2 sc__law_bad_teams.nd (m_bin o_add (m_var 2) (m_lst (m_acons (m_lst (m_acons (m_str) (m_anil))) (m_acons (m_lst (m_acons (m_tup (m_acons (m_int) (m_anil))) (m_anil))) (m_acons (m_lst (m_acons (m_lst (m_acons (m_int) (m_anil))) (m_anil))) (m_acons (m_bin o_mul (m_lst (m_acons (m_int) (m_anil))) (m_int)) (m_acons (m_lst (m_acons (m_int) (m_anil))) (m_acons (m_lst (m_acons (m_int) (m_acons (m_int) (m_anil)))) (m_acons (m_lst (m_acons (m_int) (m_anil))) (m_acons (m_bin o_add (m_bin o_mul (m_lst (m_acons (m_int) (m_anil))) (m_int)) (m_lst (m_acons (m_int) (m_anil)))) (m_acons (m_lst (m_acons (m_bin o_pow (m_int) (m_int)) (m_anil))) (m_acons (m_lst (m_acons (m_int) (m_acons (m_bin o_pow (m_int) (m_int)) (m_anil)))) (m_anil))))))))))))))
    (m_cons (m_set 2 sc__law_bad_teams.nd (m_bin o_add (m_var 2) (m_lst (m_acons (m_lrg2 T.b_list T.b_range (m_int) (m_int)) (m_acons (m_lst (m_acons (m_int) (m_acons (m_un o_neg (m_bin o_pow (m_int) (m_int))) (m_anil)))) (m_acons (m_bin o_mul (m_lst (m_acons (m_int) (m_anil))) (m_int)) (m_acons (m_call (ok__law_deep T) (hr.mono (by decide)) tk (m_acons (m_var 1) (m_acons (m_int) (m_anil)))) (m_anil))))))))
    (m_cons (m_set 3 sc__law_bad_teams.nd (m_call (ok__law_toss T) (hr.mono (by decide)) tk (m_acons (m_var 0) (m_acons (m_callB c_len T.b_len (m_acons (m_var 1) (m_anil))) (m_anil)))))
    (m_cons (m_for (passes_of rfl) (m_iTup (m_tup (m_acons (m_non) (m_acons (m_bl) (m_acons (m_str) (m_acons (m_un o_neg (m_int)) (m_acons (m_lst (m_acons (m_ix (m_var 1) (m_var 3)) (m_anil))) (m_acons (m_tup (m_acons (m_ix (m_var 1) (m_var 3)) (m_anil))) (m_acons (m_int) (m_acons (m_bin o_pow (m_int) (m_int)) (m_anil))))))))))) (m_gName 4 (vs := [4]) sc__law_bad_teams.nd) (m_sone (m_expr (m_mt t_append PySem.F.slot_list_append PySem.F.type_list_append (m_var 2) (m_acons (m_bin o_add (m_bin o_add (m_sl (m_var 1) (m_oNone) (m_oSome (m_var 3))) (m_lst (m_acons (m_var 4) (m_anil)))) (m_sl (m_var 1) (m_oSome (m_bin o_add (m_var 3) (m_int))) (m_oNone))) (m_anil))))))
    (m_sone (m_ret (m_var 2)))))))
theorem ok__law_is : DefOk P w K mg base "_law_is" ["row"] 1 m__law_is := by
  obtain ⟨fd, F⟩ := T.f__law_is
  refine ⟨T.g__law_is, F.kp, mDef_ar _ _ _, fd, ⟨FunD.self F, F.bindsA (ps := ["row"]) (fun _ _ _ _ _ _ us hl => match us, hl with | [_], _ => rfl)⟩, m_def (k := 0) F sc__law_is fun cdv A outer s H E hr => ?_⟩
  have tk := (takes_of rfl rfl rfl rfl : Takes (cxOf (L2.CX P w) P w K mg base ["row", "grade", "k"] "_law_is" (defScope (top 30)) (He.ga K "_law_is") cdv A outer s H E) (fun c d _ H => E c d H))
  unfold b__law_is
  exact m_cons (m_if (PW.pt (m_tOr (m_tNot (m_tVal (m_callB c_isi T.b_isinstance (m_acons (m_var 0) (m_acons (m_ty T.b_list (by decide +kernel)) (m_anil)))))) (m_or1 (m_tNot (m_tChain o_le o_le (m_int) (m_callB c_len T.b_len (m_acons (m_var 0) (m_anil))) (m_int)))))) (m_sone (m_ret (m_bl))) (m_nil))
    (m_cons (m_for (passes_of rfl) (m_iLst (m_var 0)) (m_gName 1 (vs := [1]) sc__law_is.nd) (m_sone (m_if (PW.pt (m_tOr (m_tVal (m_callB c_isi T.b_isinstance (m_acons (m_var 1) (m_acons (m_ty T.b_bool (by decide +kernel)) (m_anil))))) (m_tOr (m_tNot (m_tVal (m_callB c_isi T.b_isinstance (m_acons (m_var 1) (m_acons (m_ty T.b_int (by decide +kernel)) (m_anil)))))) (m_or1 (m_tCmp o_lt (m_var 1) (m_int)))))) (m_sone (m_ret (m_bl))) (m_nil))))
    (m_sone (m_ret (m_cmp (o_eq hr.units) (m_lc (own := [("k", 2), ("grade", 1)]) sc__law_is.nd (m_iEnum T.b_enumerate (m_acons (m_callB c_sorted T.b_sorted (m_acons (m_var 0) (m_anil))) (m_anil))) (blkOk_by (by kernel_rfl)) (fun _ _ _ _ _ => m_gTup rfl (m_gcons (m_gName 2  sc__law_is.nd) (m_gcons (m_gName 1  sc__law_is.nd) (m_gnil)))) (fun _ _ _ _ _ => m_tsOne (m_tCmp o_gt (m_bin o_sub (m_var 1) (m_var 2)) (m_int))) (fun _ _ _ _ _ => m_var 2)) (m_lst (m_anil))))))
theorem ok__law_again : DefG P w K mg base "_law_again" ["door", "crew", "due"] 5 m__law_again := by
  obtain ⟨fd, F⟩ := T.f__law_again
  refine ⟨T.g__law_again, F.kp, mDef_ar _ _ _, fd, ⟨FunD.self F, F.bindsA (ps := ["door", "crew", "due"]) (fun _ _ _ _ _ _ us hl => match us, hl with | [_, _, _], _ => rfl)⟩, m_defG (k := 4) F sc__law_again fun cdv A outer s H E hgu hr => ?_⟩
  have tk := (takes_of rfl rfl rfl rfl : Takes (cxOf (L2.CX P w) P w K mg base ["door", "crew", "due", "told"] "_law_again" (defScope (top 31)) (He.ga K "_law_again") cdv A outer s H E) (fun c d _ H => E c d H))
  unfold b__law_again
  exact m_cons (m_set 3 sc__law_again.nd (m_callV (ps := ["team"]) (lv := 4) (tbl := [((PySem.Str.ofString "able_counts"), m_able_counts), ((PySem.Str.ofString "line"), m_line), ((PySem.Str.ofString "spare_numbers"), m_spare_numbers)]) (List.forall_mem_cons.mpr ⟨((ok_able_counts T).g).mono (by decide), (List.forall_mem_cons.mpr ⟨((ok_line T).g).mono (by decide), (List.forall_mem_cons.mpr ⟨((ok_spare_numbers T).g).mono (by decide), (fun _ h => nomatch h)⟩)⟩)⟩) hgu (hr.mono (by decide)) tk (m_var 0) (m_acons (m_var 1) (m_anil))))
    (m_cons (m_if (m_tCmp (o_ne hr.units) (m_callB (c_repr hgu hr.units) T.b_repr (m_acons (m_var 3) (m_anil))) (m_callB (c_repr hgu hr.units) T.b_repr (m_acons (m_var 2) (m_anil)))) (m_sone (m_ret (m_bl))) (m_nil))
    (m_cons (m_expr (m_mt t_append PySem.F.slot_list_append PySem.F.type_list_append (m_var 3) (m_acons (m_non) (m_anil))))
    (m_sone (m_ret (m_cmp (o_eq hr.units) (m_callB (c_repr hgu hr.units) T.b_repr (m_acons (m_callVKw (ps := ["team"]) (ks := ["team"]) (lv := 4) (tbl := [((PySem.Str.ofString "able_counts"), m_able_counts), ((PySem.Str.ofString "line"), m_line), ((PySem.Str.ofString "spare_numbers"), m_spare_numbers)]) [0] (List.forall_mem_cons.mpr ⟨((ok_able_counts T).g).mono (by decide), (List.forall_mem_cons.mpr ⟨((ok_line T).g).mono (by decide), (List.forall_mem_cons.mpr ⟨((ok_spare_numbers T).g).mono (by decide), (fun _ h => nomatch h)⟩)⟩)⟩) (List.forall_mem_cons.mpr ⟨KwB.of T.f_able_counts (fun _ _ _ _ _ _ ws hl => match ws, hl with | [_], _ => rfl), (List.forall_mem_cons.mpr ⟨KwB.of T.f_line (fun _ _ _ _ _ _ ws hl => match ws, hl with | [_], _ => rfl), (List.forall_mem_cons.mpr ⟨KwB.of T.f_spare_numbers (fun _ _ _ _ _ _ ws hl => match ws, hl with | [_], _ => rfl), (fun _ h => nomatch h)⟩)⟩)⟩) hgu (hr.mono (by decide)) tk (m_var 0) (m_kcons (m_var 1) (m_knil))) (m_anil))) (m_callB (c_repr hgu hr.units) T.b_repr (m_acons (m_var 2) (m_anil))))))))
theorem ok__law_right : DefG P w K mg base "_law_right" ["purse", "crew"] 6 m__law_right := by
  obtain ⟨fd, F⟩ := T.f__law_right
  refine ⟨T.g__law_right, F.kp, mDef_ar _ _ _, fd, ⟨FunD.self F, F.bindsA (ps := ["purse", "crew"]) (fun _ _ _ _ _ _ us hl => match us, hl with | [_, _], _ => rfl)⟩, m_defG (k := 5) F sc__law_right fun cdv A outer s H E hgu hr => ?_⟩
  have tk := (takes_of rfl rfl rfl rfl : Takes (cxOf (L2.CX P w) P w K mg base ["purse", "crew", "spare_here", "able", "turn", "before", "rows_here", "spot", "task", "high", "told", "k", "grade"] "_law_right" (defScope (top 32)) (He.ga K "_law_right") cdv A outer s H E) (fun c d _ H => E c d H))
  unfold b__law_right
  exact m_cons (m_par 5 6 sc__law_right.nd (m_acons (m_callB (c_repr hgu hr.units) T.b_repr (m_acons (m_var 1) (m_anil))) (m_acons (m_call (ok__law_line T) (hr.mono (by decide)) tk (m_acons (m_var 1) (m_anil))) (m_anil))))
    (m_cons (m_setLc 2 (own := [("k", 11), ("spot", 7)]) sc__law_right.nd (m_iEnum T.b_enumerate (m_acons (m_var 6) (m_anil))) (blkOk_by (by kernel_rfl)) (fun _ _ _ _ _ => m_gTup rfl (m_gcons (m_gName 11  sc__law_right.nd) (m_gcons (m_gName 7  sc__law_right.nd) (m_gnil)))) (fun _ _ _ _ _ => m_tsNil) (fun _ _ _ _ _ => m_bin o_sub (m_ix (m_var 1) (m_var 7)) (m_var 11)))
    (m_cons (m_setLc 3 (own := [("task", 8)]) sc__law_right.nd (m_iRng1 T.b_range (m_acons (m_callB (c_max rfl) T.b_max (m_acons (m_var 1) (m_anil))) (m_anil))) (blkOk_by (by kernel_rfl)) (fun _ _ _ _ _ => m_gName 8  sc__law_right.nd) (fun _ _ _ _ _ => m_tsNil) (fun _ _ _ _ _ => m_callB c_len T.b_len (m_acons (m_lc (own := [("grade", 12)]) sc__law_right.nd (m_iLst (m_var 1)) (blkOk_by (by kernel_rfl)) (fun _ _ _ _ _ => m_gName 12  sc__law_right.nd) (fun _ _ _ _ _ => m_tsOne (m_tCmp o_gt (m_var 12) (m_var 8))) (fun _ _ _ _ _ => m_var 12)) (m_anil))))
    (m_cons (m_if (PW.pt (m_tOr (m_tNot (m_tVal (m_callG (ok__law_again T) hgu (hr.mono (by decide)) tk (m_acons (m_glob T.g_line) (m_acons (m_var 1) (m_acons (m_var 6) (m_anil))))))) (m_or1 (m_tNot (m_tVal (m_callG (ok__law_again T) hgu (hr.mono (by decide)) tk (m_acons (m_glob T.g_spare_numbers) (m_acons (m_var 1) (m_acons (m_var 2) (m_anil)))))))))) (m_sone (m_ret (m_bl))) (m_nil))
    (m_cons (m_if (m_tNot (m_tVal (m_callG (ok__law_again T) hgu (hr.mono (by decide)) tk (m_acons (m_glob T.g_able_counts) (m_acons (m_var 1) (m_acons (m_var 3) (m_anil))))))) (m_sone (m_ret (m_bl))) (m_nil))
    (m_cons (m_for (passes_of rfl) (m_iRng1 T.b_range (m_acons (m_int) (m_anil))) (m_gName 4 (vs := [4]) sc__law_right.nd) (m_cons (m_set 7 sc__law_right.nd (m_call (ok__law_toss T) (hr.mono (by decide)) tk (m_acons (m_var 0) (m_acons (m_callB c_len T.b_len (m_acons (m_var 1) (m_anil))) (m_anil)))))
    (m_cons (m_set 8 sc__law_right.nd (m_ix (m_lst (m_acons (m_call (ok__law_toss T) (hr.mono (by decide)) tk (m_acons (m_var 0) (m_acons (m_int) (m_anil)))) (m_acons (m_ix (m_var 1) (m_var 7)) (m_acons (m_callB (c_max rfl) T.b_max (m_acons (m_int) (m_acons (m_bin o_sub (m_ix (m_var 1) (m_var 7)) (m_int)) (m_anil)))) (m_acons (m_int) (m_anil)))))) (m_var 4)))
    (m_sone (m_if (m_tCmp (o_ne hr.units) (m_callB (c_repr hgu hr.units) T.b_repr (m_acons (m_callKw (ks := ["job", "worker", "team"]) [2, 1, 0] ((ok_can_do T).g) (T.f_can_do).choose_spec (fun _ _ _ _ _ _ ws hl => match ws, hl with | [_, _, _], _ => rfl) hgu (hr.mono (by decide)) tk (m_kcons (m_callB (c_min rfl) T.b_min (m_acons (m_int) (m_acons (m_var 8) (m_anil)))) (m_kcons (m_var 7) (m_kcons (m_var 1) (m_knil))))) (m_anil))) (m_callB (c_repr hgu hr.units) T.b_repr (m_acons (m_cmp o_lt (m_callB (c_min rfl) T.b_min (m_acons (m_int) (m_acons (m_var 8) (m_anil)))) (m_ix (m_var 1) (m_var 7))) (m_anil)))) (m_sone (m_ret (m_bl))) (m_nil))))))
    (m_cons (m_if (m_tCmp o_le (m_callB (c_max rfl) T.b_max (m_acons (m_var 1) (m_anil))) (m_int)) (m_sone (m_for (passes_of rfl) (m_iTup (m_tup (m_acons (m_callB (c_max rfl) T.b_max (m_acons (m_var 1) (m_anil))) (m_acons (m_bin o_add (m_callB (c_max rfl) T.b_max (m_acons (m_var 1) (m_anil))) (m_call (ok__law_toss T) (hr.mono (by decide)) tk (m_acons (m_var 0) (m_acons (m_bin o_sub (m_int) (m_callB (c_max rfl) T.b_max (m_acons (m_var 1) (m_anil)))) (m_anil))))) (m_acons (m_int) (m_anil)))))) (m_gName 9 (vs := [9]) sc__law_right.nd) (m_cons (m_set 10 sc__law_right.nd (m_callKw (ks := ["level", "team"]) [1, 0] ((ok_others T).g) (T.f_others).choose_spec (fun _ _ _ _ _ _ ws hl => match ws, hl with | [_, _], _ => rfl) hgu (hr.mono (by decide)) tk (m_kcons (m_var 9) (m_kcons (m_var 1) (m_knil)))))
    (m_cons (m_if (m_tCmp (o_ne hr.units) (m_callB (c_repr hgu hr.units) T.b_repr (m_acons (m_var 10) (m_anil))) (m_callB (c_repr hgu hr.units) T.b_repr (m_acons (m_lc (own := [("grade", 12)]) sc__law_right.nd (m_iLst (m_var 1)) (blkOk_by (by kernel_rfl)) (fun _ _ _ _ _ => m_gName 12  sc__law_right.nd) (fun _ _ _ _ _ => m_tsNil) (fun _ _ _ _ _ => m_bin o_sub (m_var 9) (m_var 12))) (m_anil)))) (m_sone (m_ret (m_bl))) (m_nil))
    (m_cons (m_expr (m_mt t_append PySem.F.slot_list_append PySem.F.type_list_append (m_var 10) (m_acons (m_non) (m_anil))))
    (m_sone (m_if (m_tCmp (o_ne hr.units) (m_callB c_len T.b_len (m_acons (m_call (ok_others T) (hr.mono (by decide)) tk (m_acons (m_var 1) (m_acons (m_var 9) (m_anil)))) (m_anil))) (m_callB c_len T.b_len (m_acons (m_var 1) (m_anil)))) (m_sone (m_ret (m_bl))) (m_nil)))))))) (m_nil))
    (m_sone (m_ret (m_cmp (o_eq hr.units) (m_callB (c_repr hgu hr.units) T.b_repr (m_acons (m_var 1) (m_anil))) (m_var 5))))))))))
theorem ok_law : DefG P w K mg base "law" ["script"] 7 m_law := by
  obtain ⟨fd, F⟩ := T.f_law
  refine ⟨T.g_law, F.kp, mDef_ar _ _ _, fd, ⟨FunD.self F, F.bindsA (ps := ["script"]) (fun _ _ _ _ _ _ us hl => match us, hl with | [_], _ => rfl)⟩, m_defG (k := 6) F sc_law fun cdv A outer s H E hgu hr => ?_⟩
  have tk := (takes_of rfl rfl rfl rfl : Takes (cxOf (L2.CX P w) P w K mg base ["script", "k", "told", "purse", "most", "top", "crew", "row"] "law" (defScope (top 33)) (He.ga K "law") cdv A outer s H E) (fun c d _ H => E c d H))
  unfold b_law
  exact m_cons (m_for (passes_of rfl) (m_iRng1 T.b_range (m_acons (m_callB (c_max rfl) T.b_max (m_acons (m_int) (m_acons (m_callB (c_min rfl) T.b_min (m_acons (m_int) (m_acons (m_callB c_len T.b_len (m_acons (m_var 0) (m_anil))) (m_anil)))) (m_anil)))) (m_anil))) (m_gName 1 (vs := [1]) sc_law.nd) (m_cons (m_set 3 sc_law.nd (m_call (ok__law_purse T) (hr.mono (by decide)) tk (m_acons (m_var 0) (m_acons (m_var 1) (m_anil)))))
    (m_sone (m_for (passes_of rfl) (m_iTup (m_tup (m_acons (m_tup (m_acons (m_int) (m_acons (m_int) (m_anil)))) (m_acons (m_tup (m_acons (m_int) (m_acons (m_int) (m_anil)))) (m_acons (m_tup (m_acons (m_int) (m_acons (m_int) (m_anil)))) (m_acons (m_tup (m_acons (m_int) (m_acons (m_int) (m_anil)))) (m_anil))))))) (m_gTup rfl (m_gcons (m_gName 4 (vs := [4, 5]) sc_law.nd) (m_gcons (m_gName 5 (vs := [4, 5]) sc_law.nd) (m_gnil)))) (m_cons (m_set 6 sc_law.nd (m_call (ok__law_team T) (hr.mono (by decide)) tk (m_acons (m_var 3) (m_acons (m_var 4) (m_acons (m_var 5) (m_anil))))))
    (m_cons (m_if (PW.pt (m_tOr (m_tNot (m_tVal (m_callG (ok__law_right T) hgu (hr.mono (by decide)) tk (m_acons (m_var 3) (m_acons (m_var 6) (m_anil)))))) (m_or1 (m_tCmp (o_ne hr.units) (m_callB (c_repr hgu hr.units) T.b_repr (m_acons (m_call (ok_is_team T) (hr.mono (by decide)) tk (m_acons (m_var 6) (m_anil))) (m_anil))) (m_str))))) (m_sone (m_ret (m_bl))) (m_nil))
    (m_sone (m_for (passes_of rfl) (m_iLst (m_call (ok__law_bad_teams T) (hr.mono (by decide)) tk (m_acons (m_var 3) (m_acons (m_var 6) (m_anil))))) (m_gName 7 (vs := [7]) sc_law.nd) (m_sone (m_if (m_tCmp (o_ne hr.units) (m_callB (c_repr hgu hr.units) T.b_repr (m_acons (m_callKw (ks := ["thing"]) [0] ((ok_is_team T).g) (T.f_is_team).choose_spec (fun _ _ _ _ _ _ ws hl => match ws, hl with | [_], _ => rfl) hgu (hr.mono (by decide)) tk (m_kcons (m_var 7) (m_knil))) (m_anil))) (m_callB (c_repr hgu hr.units) T.b_repr (m_acons (m_call (ok__law_is T) (hr.mono (by decide)) tk (m_acons (m_var 7) (m_anil))) (m_anil)))) (m_sone (m_ret (m_bl))) (m_nil)))))))))))
    (m_cons (m_setLc 2 (own := [("row", 7)]) sc_law.nd (m_iTup (m_tup (m_acons (m_lst (m_acons (m_int) (m_anil))) (m_acons (m_lst (m_acons (m_int) (m_anil))) (m_acons (m_lst (m_acons (m_int) (m_acons (m_int) (m_anil)))) (m_acons (m_lst (m_acons (m_int) (m_acons (m_int) (m_anil)))) (m_acons (m_lrg2 T.b_list T.b_range (m_int) (m_int)) (m_acons (m_bin o_add (m_bin o_mul (m_lst (m_acons (m_int) (m_anil))) (m_int)) (m_lst (m_acons (m_int) (m_anil)))) (m_acons (m_bin o_mul (m_lst (m_acons (m_int) (m_anil))) (m_int)) (m_anil)))))))))) (blkOk_by (by kernel_rfl)) (fun _ _ _ _ _ => m_gName 7  sc_law.nd) (fun _ _ _ _ _ => m_tsNil) (fun _ _ _ _ _ => m_call (ok_is_team T) (hr.mono (by decide)) takes0 (m_acons (m_var 7) (m_anil))))
    (m_cons (m_if (m_tCmp (o_ne hr.units) (m_var 2) (m_lst (m_acons (m_bl) (m_acons (m_bl) (m_acons (m_bl) (m_acons (m_bl) (m_acons (m_bl) (m_acons (m_bl) (m_acons (m_bl) (m_anil)))))))))) (m_sone (m_ret (m_bl))) (m_nil))
    (m_sone (m_ret (m_cmp (o_eq hr.units) (m_lst (m_acons (m_call (ok_line T) (hr.mono (by decide)) tk (m_acons (m_lst (m_acons (m_int) (m_acons (m_int) (m_acons (m_int) (m_anil))))) (m_anil))) (m_acons (m_call (ok_spare_numbers T) (hr.mono (by decide)) tk (m_acons (m_lst (m_acons (m_int) (m_acons (m_int) (m_acons (m_int) (m_anil))))) (m_anil))) (m_acons (m_call (ok_able_counts T) (hr.mono (by decide)) tk (m_acons (m_lst (m_acons (m_int) (m_acons (m_int) (m_acons (m_int) (m_anil))))) (m_anil))) (m_anil))))) (m_lst (m_acons (m_lst (m_acons (m_int) (m_acons (m_int) (m_acons (m_int) (m_anil))))) (m_acons (m_lst (m_acons (m_int) (m_acons (m_int) (m_acons (m_int) (m_anil))))) (m_acons (m_lst (m_acons (m_int) (m_acons (m_int) (m_anil)))) (m_anil))))))))))
end

end M
namespace M
open PySem PySem.Spec PyProof.Rows L2
def hdFn : List He.DefD := [⟨("is_integer", none), "is_integer", "is_integer", defArgs (top 10), defBody (top 10), defScope (top 10), [], []⟩,
  ⟨("is_team", none), "is_team", "is_team", defArgs (top 11), defBody (top 11), defScope (top 11), [], []⟩,
  ⟨("spare_by", none), "spare_by", "spare_by", defArgs (top 12), defBody (top 12), defScope (top 12), [], []⟩,
  ⟨("need_team", none), "need_team", "need_team", defArgs (top 13), defBody (top 13), defScope (top 13), [], []⟩,
  ⟨("need_worker", none), "need_worker", "need_worker", defArgs (top 14), defBody (top 14), defScope (top 14), [], []⟩,
  ⟨("need_job", none), "need_job", "need_job", defArgs (top 15), defBody (top 15), defScope (top 15), [], []⟩,
  ⟨("levels_along", none), "levels_along", "levels_along", defArgs (top 16), defBody (top 16), defScope (top 16), [], []⟩,
  ⟨("line_of", none), "line_of", "line_of", defArgs (top 17), defBody (top 17), defScope (top 17), [], []⟩,
  ⟨("line", none), "line", "line", defArgs (top 18), defBody (top 18), defScope (top 18), [], []⟩,
  ⟨("spare_numbers", none), "spare_numbers", "spare_numbers", defArgs (top 19), defBody (top 19), defScope (top 19), [], []⟩,
  ⟨("can_do", none), "can_do", "can_do", defArgs (top 20), defBody (top 20), defScope (top 20), [], []⟩,
  ⟨("able_counts", none), "able_counts", "able_counts", defArgs (top 21), defBody (top 21), defScope (top 21), [], []⟩,
  ⟨("others", none), "others", "others", defArgs (top 22), defBody (top 22), defScope (top 22), [], []⟩,
  ⟨("_law_purse", none), "_law_purse", "_law_purse", defArgs (top 24), defBody (top 24), defScope (top 24), [], []⟩,
  ⟨("_law_toss", none), "_law_toss", "_law_toss", defArgs (top 25), defBody (top 25), defScope (top 25), [], []⟩,
  ⟨("_law_team", none), "_law_team", "_law_team", defArgs (top 26), defBody (top 26), defScope (top 26), [], []⟩,
  ⟨("_law_line", none), "_law_line", "_law_line", defArgs (top 27), defBody (top 27), defScope (top 27), [], []⟩,
  ⟨("_law_deep", none), "_law_deep", "_law_deep", defArgs (top 28), defBody (top 28), defScope (top 28), [], []⟩,
  ⟨("_law_bad_teams", none), "_law_bad_teams", "_law_bad_teams", defArgs (top 29), defBody (top 29), defScope (top 29), [], []⟩,
  ⟨("_law_is", none), "_law_is", "_law_is", defArgs (top 30), defBody (top 30), defScope (top 30), [], []⟩,
  ⟨("_law_again", none), "_law_again", "_law_again", defArgs (top 31), defBody (top 31), defScope (top 31), [], []⟩,
  ⟨("_law_right", none), "_law_right", "_law_right", defArgs (top 32), defBody (top 32), defScope (top 32), [], []⟩,
  ⟨("law", none), "law", "law", defArgs (top 33), defBody (top 33), defScope (top 33), [], []⟩]
def hdFa : List He.Fa := [.glo "is_integer", .glo "is_team", .glo "spare_by", .glo "need_team", .glo "need_worker", .glo "need_job", .glo "levels_along", .glo "line_of", .glo "line", .glo "spare_numbers", .glo "can_do", .glo "able_counts", .glo "others", .glo "_law_purse", .glo "_law_toss", .glo "_law_team", .glo "_law_line", .glo "_law_deep", .glo "_law_bad_teams", .glo "_law_is", .glo "_law_again", .glo "_law_right", .glo "law", .free "abs", .free "all", .free "bool", .free "enumerate", .free "int", .free "isinstance", .free "len", .free "list", .free "max", .free "min", .free "range", .free "repr", .free "sorted", .free "tuple", .int "MOST_WORKERS" 20, .int "MOST_SPARE" 40, .int "MOST_JOB" 59, .glo "NestError", .exc "NestError", .glo "InvalidTeam", .exc "InvalidTeam", .glo "InvalidWorker", .exc "InvalidWorker", .glo "InvalidJob", .exc "InvalidJob", .glo "InvalidNumber", .exc "InvalidNumber"]
def hdFs : List Hx.Look := hdFa.map fun f K => f.ok K
abbrev hdR : PySem.W.OpenRow := PySem.W.OpenLaw.row PySem.Challenge.rw_nestboards_k01_teams_judged
abbrev hdH : PySem.W.Hook := Hx.hookX 4 hdFs hdFn
def hdOb (s : PySem.W.SharedT) : He.AlD := Hx.obsXG 4 hdFs hdFn (HandSHeadRun.getT s)
theorem hdOb_eq (s : PySem.W.SharedT) : hdOb s = hdH.obs s.abs := Hx.obsXG_eq (HandSHeadRun.getT_eq s)
def hdL0 : List PySem.Str := ["__name__", "NestError", "InvalidTeam", "InvalidWorker", "InvalidJob", "InvalidNumber", "MOST_WORKERS", "MOST_SPARE", "MOST_JOB", "is_integer", "is_team", "spare_by", "need_team", "need_worker", "need_job", "levels_along", "line_of", "line", "spare_numbers", "can_do", "able_counts", "others", "_law_purse", "_law_toss", "_law_team", "_law_line", "_law_deep", "_law_bad_teams", "_law_is", "_law_again"]
def hdL1 : List PySem.Str := ["_law_right"]
def hdLoose : List PySem.Str := hdL0 ++ hdL1
theorem hdRun (w : World) : HandSHeadRun.RunEq hdR (PySem.W.view hdR.prog [33]) hdH hdOb 20000 hdLoose w := by
  intro os
  kernel_rfl
theorem hdFact {K : M.Frag} (c : Hx.SaysX hdFs hdFn K) (i : Nat) {f : He.Fa} (h : hdFa[i]? = some f) : f.ok K = true := c.fact i (f := fun K => f.ok K) (by unfold hdFs; rw [List.getElem?_map, h]; rfl)
theorem hdFacts {K : M.Frag} {h : Heap} {mg : PySem.Str → Option Value} (X : K.In h) (G : h.Ns mainGlobals mg) (c : Hx.SaysX hdFs hdFn K) : Facts K mg where
  g_is_integer := He.glo_ok X G (hdFact c 0 rfl)
  g_is_team := He.glo_ok X G (hdFact c 1 rfl)
  g_spare_by := He.glo_ok X G (hdFact c 2 rfl)
  g_need_team := He.glo_ok X G (hdFact c 3 rfl)
  g_need_worker := He.glo_ok X G (hdFact c 4 rfl)
  g_need_job := He.glo_ok X G (hdFact c 5 rfl)
  g_levels_along := He.glo_ok X G (hdFact c 6 rfl)
  g_line_of := He.glo_ok X G (hdFact c 7 rfl)
  g_line := He.glo_ok X G (hdFact c 8 rfl)
  g_spare_numbers := He.glo_ok X G (hdFact c 9 rfl)
  g_can_do := He.glo_ok X G (hdFact c 10 rfl)
  g_able_counts := He.glo_ok X G (hdFact c 11 rfl)
  g_others := He.glo_ok X G (hdFact c 12 rfl)
  g__law_purse := He.glo_ok X G (hdFact c 13 rfl)
  g__law_toss := He.glo_ok X G (hdFact c 14 rfl)
  g__law_team := He.glo_ok X G (hdFact c 15 rfl)
  g__law_line := He.glo_ok X G (hdFact c 16 rfl)
  g__law_deep := He.glo_ok X G (hdFact c 17 rfl)
  g__law_bad_teams := He.glo_ok X G (hdFact c 18 rfl)
  g__law_is := He.glo_ok X G (hdFact c 19 rfl)
  g__law_again := He.glo_ok X G (hdFact c 20 rfl)
  g__law_right := He.glo_ok X G (hdFact c 21 rfl)
  g_law := He.glo_ok X G (hdFact c 22 rfl)
  f_is_integer := c.def_ 0 rfl
  f_is_team := c.def_ 1 rfl
  f_spare_by := c.def_ 2 rfl
  f_need_team := c.def_ 3 rfl
  f_need_worker := c.def_ 4 rfl
  f_need_job := c.def_ 5 rfl
  f_levels_along := c.def_ 6 rfl
  f_line_of := c.def_ 7 rfl
  f_line := c.def_ 8 rfl
  f_spare_numbers := c.def_ 9 rfl
  f_can_do := c.def_ 10 rfl
  f_able_counts := c.def_ 11 rfl
  f_others := c.def_ 12 rfl
  f__law_purse := c.def_ 13 rfl
  f__law_toss := c.def_ 14 rfl
  f__law_team := c.def_ 15 rfl
  f__law_line := c.def_ 16 rfl
  f__law_deep := c.def_ 17 rfl
  f__law_bad_teams := c.def_ 18 rfl
  f__law_is := c.def_ 19 rfl
  f__law_again := c.def_ 20 rfl
  f__law_right := c.def_ 21 rfl
  f_law := c.def_ 22 rfl
  b_abs := He.free_ok X G (hdFact c 23 rfl)
  b_all := He.free_ok X G (hdFact c 24 rfl)
  b_bool := He.free_ok X G (hdFact c 25 rfl)
  b_enumerate := He.free_ok X G (hdFact c 26 rfl)
  b_int := He.free_ok X G (hdFact c 27 rfl)
  b_isinstance := He.free_ok X G (hdFact c 28 rfl)
  b_len := He.free_ok X G (hdFact c 29 rfl)
  b_list := He.free_ok X G (hdFact c 30 rfl)
  b_max := He.free_ok X G (hdFact c 31 rfl)
  b_min := He.free_ok X G (hdFact c 32 rfl)
  b_range := He.free_ok X G (hdFact c 33 rfl)
  b_repr := He.free_ok X G (hdFact c 34 rfl)
  b_sorted := He.free_ok X G (hdFact c 35 rfl)
  b_tuple := He.free_ok X G (hdFact c 36 rfl)
  i_MOST_WORKERS := He.int_ok X G (hdFact c 37 rfl)
  i_MOST_SPARE := He.int_ok X G (hdFact c 38 rfl)
  i_MOST_JOB := He.int_ok X G (hdFact c 39 rfl)
  e_NestError := ⟨He.glo_ok X G (hdFact c 40 rfl), (He.exc_ok (hdFact c 41 rfl)).1, (He.exc_ok (hdFact c 41 rfl)).2.1, (He.exc_ok (hdFact c 41 rfl)).2.2.1, (He.exc_ok (hdFact c 41 rfl)).2.2.2⟩
  e_InvalidTeam := ⟨He.glo_ok X G (hdFact c 42 rfl), (He.exc_ok (hdFact c 43 rfl)).1, (He.exc_ok (hdFact c 43 rfl)).2.1, (He.exc_ok (hdFact c 43 rfl)).2.2.1, (He.exc_ok (hdFact c 43 rfl)).2.2.2⟩
  e_InvalidWorker := ⟨He.glo_ok X G (hdFact c 44 rfl), (He.exc_ok (hdFact c 45 rfl)).1, (He.exc_ok (hdFact c 45 rfl)).2.1, (He.exc_ok (hdFact c 45 rfl)).2.2.1, (He.exc_ok (hdFact c 45 rfl)).2.2.2⟩
  e_InvalidJob := ⟨He.glo_ok X G (hdFact c 46 rfl), (He.exc_ok (hdFact c 47 rfl)).1, (He.exc_ok (hdFact c 47 rfl)).2.1, (He.exc_ok (hdFact c 47 rfl)).2.2.1, (He.exc_ok (hdFact c 47 rfl)).2.2.2⟩
  e_InvalidNumber := ⟨He.glo_ok X G (hdFact c 48 rfl), (He.exc_ok (hdFact c 49 rfl)).1, (He.exc_ok (hdFact c 49 rfl)).2.1, (He.exc_ok (hdFact c 49 rfl)).2.2.1, (He.exc_ok (hdFact c 49 rfl)).2.2.2⟩
end M
open PySem PySem.W PySem.Calls PyProof.Rows
set_option maxHeartbeats 0 in
theorem PySem.Challenge.cw_nestboards_k01_teams_judged_holds : PySem.Challenge.rw_nestboards_k01_teams_judged.Holds := by
  w_on; o_law
  refine HandSHeadRun.head_any (r := OpenLaw.row PySem.Challenge.rw_nestboards_k01_teams_judged) (q := view (OpenLaw.row PySem.Challenge.rw_nestboards_k01_teams_judged).prog [33]) (H := M.hdH) (ob := M.hdOb) (M := 20000) (loose := M.hdLoose) (d := HandSHeadRun.topDef (OpenLaw.row PySem.Challenge.rw_nestboards_k01_teams_judged).prog 33) (kwd := []) M.hdOb_eq
    (by kernel_rfl) (fun s => by kernel_rfl) M.hdRun (by kernel_rfl) (by kernel_rfl) (by kernel_rfl) (by rfl) (by first | assumption | decide +kernel) (by decide +kernel) ⟨rfl, rfl, rfl, rfl, rfl, by decide +kernel⟩ ?hw ?hc
  case hw => w_witness2
  case hc => exact M.walk_MG (l := PySem.Challenge.rw_nestboards_k01_teams_judged) (k := 7) (f := M.m_law) rfl (by kernel_rfl) ⟨rfl, by decide, by decide⟩ (by kernel_rfl) (fun w K mg h X G c base h1 h2 => M.ok_law (M.hdFacts h1 h2 c)) M.hM
