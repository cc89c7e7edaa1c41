import PyProof.Rows.All
import Wide.All
import OpenK.AllK
import Wide.FinOn
import KE.KStateDown
import Lean
import HandS.ForMost
import HandS.ForExc
import HandS.Defaults
import HandS.Head0
import HandS.Head1
import HandS.Head2
import HandS.HeadEnd
import HandS.HeadHook1
import HandS.HeadHook2
import PyProof.ReprText
import HandS.Wide
import HandS.WideBits
import HandS.CallSlots
import HandS.IsInst
import HandS.SortInts
import HandS.Style
import HandS.Conv
import HandS.Star
import HandS.EndBits
import PyProof.Rows.ReprR
import HandS.MakeKwOnly
import PySem.Challenge.RW_nestboards_k32_papers_of_sets_judged
set_option Elab.async false
set_option linter.all false
set_option maxRecDepth 100000
set_option maxHeartbeats 4000000
/-! The head by facts: a Hook whose facts are any Boolean looks at the written part. -/
namespace Hx
open PySem PySem.Spec PyProof.Rows L2 He
abbrev Look : Type := PySem.W.Frag → Bool
def obsX (fs : List Look) (fn : List DefD) (K : PySem.W.Frag) : AlD := ((fs.all fun f => f K) && fn.all fun d => d.ok K, fn.map fun d => fnW K d.at_)
def SaysX (fs : List Look) (fn : List DefD) (K : PySem.W.Frag) : Prop := obsX fs fn K = valD fn
def obsXG (n : Nat) (fs : List Look) (fn : List DefD) (g : Addr → Option Obj) : AlD := obsX fs fn (frG g (asD g n))
def hookX (n : Nat) (fs : List Look) (fn : List DefD) : PySem.W.Hook where
  α := AlD
  obs := fun s => obsXG n fs fn s.heap.get?
  val := fun _ => valD fn
  says := fun _ h => ∃ K : PySem.W.Frag, K.In h ∧ SaysX fs fn K
  of := fun _ _ e => ⟨_, frG_in, e⟩
  keeps := fun _ _ _ ⟨K, hK, c⟩ k => ⟨K, PySem.W.Frag.In.keeps hK k, c⟩
theorem obsXG_eq {n : Nat} {fs : List Look} {fn : List DefD} {g : Addr → Option Obj} {s : Shared} (h : ∀ a, g a = s.heap.get? a) : obsXG n fs fn g = (hookX n fs fn).obs s := by
  have e : g = s.heap.get? := funext h
  rw [e] <;> rfl
section
variable {fs : List Look} {fn : List DefD} {K : PySem.W.Frag}
theorem SaysX.fact (c : SaysX fs fn K) (i : Nat) {f : Look} (h : fs[i]? = some f := by rfl) : f K = true := by
  have c1 := (ba (show ((fs.all fun f => f K) && fn.all fun d => d.ok K) = true from congrArg (fun z : AlD => z.1) c)).1
  exact List.all_eq_true.mp c1 f (List.mem_of_getElem? h)
theorem SaysX.facts (c : SaysX fs fn K) {f : Look} (h : f ∈ fs) : f K = true := by
  have c1 := (ba (show ((fs.all fun f => f K) && fn.all fun d => d.ok K) = true from congrArg (fun z : AlD => z.1) c)).1
  exact List.all_eq_true.mp c1 f h
theorem SaysX.def_ (c : SaysX fs fn K) (i : Nat) {d : DefD} (h : fn[i]? = some d := by rfl) : ∃ fd, FunD K d.name d.qual d.params d.body d.scope (d.dvs K) (d.kws K) (fAd K d.at_) fd := by
  have c2 := (ba (show ((fs.all fun f => f K) && fn.all fun d => d.ok K) = true from congrArg (fun z : AlD => z.1) c)).2
  have e : fn.map (fun d => fnW K d.at_) = fn.map DefD.val := congrArg (fun z : AlD => z.2) c
  have e2 : (fn.map fun d => fnW K d.at_)[i]? = (fn.map DefD.val)[i]? := by rw [e]
  rw [List.getElem?_map, List.getElem?_map, h] at e2
  exact DefD.funD (Option.some.inj e2) (List.all_eq_true.mp c2 d (List.mem_of_getElem? h))
end
end Hx
/-! MCore: a small machine of our own: values, a heap by places, computations. Every def of the program becomes a function over it. -/
namespace M
abbrev Str := PySem.Str
def st (x : String) : Str := PySem.Str.ofString x

/-- values: a place of the heap, a name of the module (def or class), a built-in type -/
inductive W where
  | non | bl (b : Bool) | int (i : Int) | str (x : Str) | ref (n : Nat) | glob (x : Str) | ty (n : String)
  deriving DecidableEq
abbrev Key := Sum Int Str
inductive O where
  | lst (ws : List W) | tup (ws : List W) | fls (ws : List W) | dct (kvs : List (Key × W)) | ins (c : Str) (fs : List (Str × W))
abbrev G := List O
structure Ex where
  cls : Str
  fld : Option (Str × W)
inductive Res (α : Type) where
  | ok (a : α) (g : G) | ex (e : Ex) (g : G) | bad
def Res.bind {α β : Type} (r : Res α) (f : α → G → Res β) : Res β := match r with
  | .ok a g => f a g
  | .ex e g => .ex e g
  | .bad => .bad
abbrev Env := List (Option W)
abbrev ME := Env → G → Res W
abbrev MT := Env → G → Res Bool
abbrev MA := Env → G → Res (List W)
inductive Fl where
  | nx (ρ : Env) | rt (w : W) | bk (ρ : Env) | ct (ρ : Env)
inductive SR where
  | fl (f : Fl) (g : G) | ex (e : Ex) (ρ : Env) (g : G) | bad
abbrev MS := Env → G → SR
abbrev MG := W → Env → G → Res Env
abbrev Fn := List W → G → Res W
def SZ : Nat := 16777216

/-! ### expressions -/
def mVar (i : Nat) : ME := fun ρ g => match ρ[i]? with
  | some (some w) => .ok w g
  | _ => .bad
def mC (w : W) : ME := fun _ g => .ok w g
def mOp2 (f : W → W → G → Res W) (a b : ME) : ME := fun ρ g => (a ρ g).bind fun x g1 => (b ρ g1).bind fun y g2 => f x y g2
def mOp1 (f : W → G → Res W) (a : ME) : ME := fun ρ g => (a ρ g).bind fun x g1 => f x g1
def aNil : MA := fun _ g => .ok [] g
def aCons (a : ME) (r : MA) : MA := fun ρ g => (a ρ g).bind fun x g1 => (r ρ g1).bind fun xs g2 => .ok (x :: xs) g2
def mLst (a : MA) : ME := fun ρ g => (a ρ g).bind fun xs g1 => if xs.length ≤ SZ then .ok (.ref g1.length) (g1 ++ [.lst xs]) else .bad
def mTup (a : MA) : ME := fun ρ g => (a ρ g).bind fun xs g1 => if xs.length ≤ SZ then .ok (.ref g1.length) (g1 ++ [.tup xs]) else .bad
def mCall (f : Fn) (a : MA) : ME := fun ρ g => (a ρ g).bind fun xs g1 => f xs g1
/-- a call with positional values, keywords' values, and the places that the parameters take among them -/
def mCallK (f : Fn) (a k : MA) (p : List Nat) : ME := fun ρ g => (a ρ g).bind fun xs g1 => (k ρ g1).bind fun ys g2 => f (p.map fun i => (xs ++ ys).getD i .non) g2
/-- the values in another sequence -/
def pick {α : Type} (pm : List Nat) (l : List α) : List α := pm.filterMap fun i => l[i]?
/-- a call with keywords only -/
def mCallP (f : Fn) (n : Nat) (pm : List Nat) (a : MA) : ME := fun ρ g => (a ρ g).bind fun xs g1 => if xs.length = n then f (pick pm xs) g1 else .bad
/-- {} and {'x': i} -/
def mD0 : ME := fun _ g => .ok (.ref g.length) (g ++ [.dct []])
def mD1 (x : Str) (i : Int) : ME := fun _ g => .ok (.ref g.length) (g ++ [.dct [(.inr x, .int i)]])
def mIf (c : MT) (a b : ME) : ME := fun ρ g => (c ρ g).bind fun t g1 => if t then a ρ g1 else b ρ g1
/-- tests -/
def tVal (a : ME) : MT := fun ρ g => (a ρ g).bind fun x g1 => match x with
  | .bl b => .ok b g1
  | _ => .bad
def tNot (a : MT) : MT := fun ρ g => (a ρ g).bind fun t g1 => .ok (!t) g1
def tAnd (a b : MT) : MT := fun ρ g => (a ρ g).bind fun t g1 => if t then b ρ g1 else .ok false g1
def tOr (a b : MT) : MT := fun ρ g => (a ρ g).bind fun t g1 => if t then .ok true g1 else b ρ g1
def tYes : MT := fun _ g => .ok true g
/-- and, or, not of truth values as values -/
def mAnd (a b : ME) : ME := fun ρ g => (a ρ g).bind fun x g1 => match x with
  | .bl true => b ρ g1
  | .bl false => .ok (.bl false) g1
  | _ => .bad
def mOr (a b : ME) : ME := fun ρ g => (a ρ g).bind fun x g1 => match x with
  | .bl true => .ok (.bl true) g1
  | .bl false => b ρ g1
  | _ => .bad
def mNot (a : ME) : ME := fun ρ g => (a ρ g).bind fun x g1 => match x with
  | .bl b => .ok (.bl (!b)) g1
  | _ => .bad
/-- a op b op' c -/
def mChain (f f' : W → W → G → Res W) (a b c : ME) : ME := fun ρ g => (a ρ g).bind fun x g1 => (b ρ g1).bind fun y g2 => (f x y g2).bind fun z g3 => match z with
  | .bl true => (c ρ g3).bind fun w g4 => f' y w g4
  | .bl false => .ok (.bl false) g3
  | _ => .bad

/-! ### what is read -/
def lstAt (g : G) (n : Nat) : Option (List W) := match g[n]? with
  | some (.lst ws) => some ws
  | some (.fls ws) => some ws
  | _ => none
def tupAt (g : G) (n : Nat) : Option (List W) := match g[n]? with
  | some (.tup ws) => some ws
  | _ => none
def seqAt (g : G) (n : Nat) : Option (List W) := match g[n]? with
  | some (.lst ws) => some ws
  | some (.fls ws) => some ws
  | some (.tup ws) => some ws
  | _ => none
def intsL : List W → Option (List Int)
  | [] => some []
  | .int i :: r => match intsL r with
    | some l => some (i :: l)
    | none => none
  | _ :: _ => none
def bools : List W → Option (List Bool)
  | [] => some []
  | .bl i :: r => match bools r with
    | some l => some (i :: l)
    | none => none
  | _ :: _ => none
def strsL : List W → Option (List Str)
  | [] => some []
  | .str i :: r => match strsL r with
    | some l => some (i :: l)
    | none => none
  | _ :: _ => none

/-- *a in a display or a call -/
def aStar (a : ME) (r : MA) : MA := fun ρ g => (a ρ g).bind fun x g1 => match x with
  | .ref n => match seqAt g1 n with
    | some ws => (r ρ g1).bind fun xs g2 => .ok (ws ++ xs) g2
    | none => .bad
  | _ => .bad
/-! ### operators -/
/-- the bits of an int -/
def lg (i : Int) : Nat := i.natAbs.log2
def opAdd : W → W → G → Res W
  | .int i, .int j, g => .ok (.int (i + j)) g
  | .str x, .str y, g => if x.length + y.length ≤ SZ then .ok (.str (x ++ y)) g else .bad
  | .ref a, .ref b, g => match g[a]?, g[b]? with
    | some (.lst xs), some (.lst ys) => if xs.length + ys.length ≤ SZ then .ok (.ref g.length) (g ++ [.lst (xs ++ ys)]) else .bad
    | _, _ => .bad
  | _, _, _ => .bad
def opSub : W → W → G → Res W
  | .int i, .int j, g => .ok (.int (i - j)) g
  | _, _, _ => .bad
def opMul : W → W → G → Res W
  | .int i, .int j, g => if lg i + lg j < 1000000 then .ok (.int (i * j)) g else .bad
  | .ref a, .int k, g => match g[a]? with
    | some (.lst xs) => if -(2 ^ 63) ≤ k ∧ k < 2 ^ 63 ∧ xs.length * k.toNat ≤ SZ then .ok (.ref g.length) (g ++ [.lst (List.replicate k.toNat xs).flatten]) else .bad
    | _ => .bad
  | _, _, _ => .bad
/-- // and % by a positive divisor -/
def opDiv : W → W → G → Res W
  | .int i, .int j, g => if 0 < j ∧ lg j < 9000 then .ok (.int (i / j)) g else .bad
  | _, _, _ => .bad
def opMod : W → W → G → Res W
  | .int i, .int j, g => if 0 < j then .ok (.int (i % j)) g else .bad
  | _, _, _ => .bad
def opPow : W → W → G → Res W
  | .int i, .int j, g => if 0 ≤ j ∧ j ≤ 1000 ∧ lg i < 4096 then .ok (.int (i ^ j.toNat)) g else .bad
  | _, _, _ => .bad
def opNeg : W → G → Res W
  | .int i, g => .ok (.int (-i)) g
  | _, _ => .bad
def opLt : W → W → G → Res W
  | .int i, .int j, g => .ok (.bl (decide (i < j))) g
  | _, _, _ => .bad
def opLe : W → W → G → Res W
  | .int i, .int j, g => .ok (.bl (decide (i ≤ j))) g
  | _, _, _ => .bad
def opGt : W → W → G → Res W
  | .int i, .int j, g => .ok (.bl (decide (j < i))) g
  | _, _, _ => .bad
def opGe : W → W → G → Res W
  | .int i, .int j, g => .ok (.bl (decide (j ≤ i))) g
  | _, _, _ => .bad
/-! data as a whole -/
inductive D where
  | non | bl (b : Bool) | int (i : Int) | str (x : Str) | lst (ds : List D) | tup (ds : List D)
mutual
def eqD : D → D → Bool
  | .non, .non => true
  | .bl a, .bl b => a == b
  | .bl a, .int j => (if a then 1 else 0) == j
  | .int i, .bl b => i == (if b then 1 else 0)
  | .int i, .int j => i == j
  | .str x, .str y => x == y
  | .lst xs, .lst ys => eqDs xs ys
  | .tup xs, .tup ys => eqDs xs ys
  | _, _ => false
def eqDs : List D → List D → Bool
  | [], [] => true
  | x :: xs, y :: ys => eqD x y && eqDs xs ys
  | _, _ => false
end
def okS (x : Str) : Bool := x.cps.all (· < 0x110000)
mutual
/-- a value read to a depth -/
def rdD : Nat → G → W → Option D
  | _, _, .non => some .non
  | _, _, .bl b => some (.bl b)
  | _, _, .int i => some (.int i)
  | _, _, .str x => if okS x then some (.str x) else none
  | 0, _, .ref _ => none
  | n + 1, g, .ref a => match g[a]? with
    | some (.lst ws) => match rdDs n g ws with
      | some ds => some (.lst ds)
      | none => none
    | some (.fls ws) => match rdDs n g ws with
      | some ds => some (.lst ds)
      | none => none
    | some (.tup ws) => match rdDs n g ws with
      | some ds => some (.tup ds)
      | none => none
    | _ => none
  | _, _, _ => none
def rdDs : Nat → G → List W → Option (List D)
  | _, _, [] => some []
  | n, g, w :: ws => match rdD n g w with
    | some d => match rdDs n g ws with
      | some ds => some (d :: ds)
      | none => none
    | none => none
end
mutual
def toPy : D → PySem.PyData
  | .non => .none
  | .bl b => .bool b
  | .int i => .int i
  | .str x => .str x
  | .lst ds => .list (toPys ds)
  | .tup ds => .tuple (toPys ds)
def toPys : List D → List PySem.PyData
  | [] => []
  | d :: ds => toPy d :: toPys ds
end
def opEq : W → W → G → Res W := fun x y g => match x, y with
  | .str a, .str b => .ok (.bl (decide (a = b))) g
  | _, _ => match rdD 60 g x, rdD 60 g y with
    | some d, some e => .ok (.bl (eqD d e)) g
    | _, _ => .bad
def opNe : W → W → G → Res W := fun x y g => match x, y with
  | .str a, .str b => .ok (.bl (!decide (a = b))) g
  | _, _ => match rdD 60 g x, rdD 60 g y with
    | some d, some e => .ok (.bl (!eqD d e)) g
    | _, _ => .bad
/-- repr of data -/
def bRepr : Fn
  | [x], g => match rdD 60 g x with
    | some d => if (toPy d).showable && decide ((toPy d).shown.length ≤ SZ) then .ok (.str (toPy d).shown) g else .bad
    | none => .bad
  | _, _ => .bad
def flat : W → Bool
  | .non => true
  | .bl _ => true
  | .int _ => true
  | .str _ => true
  | _ => false
def eqF : W → W → Bool
  | .non, .non => true
  | .bl a, .bl b => a == b
  | .bl a, .int b => (if a then 1 else 0) == b
  | .int a, .bl b => a == (if b then 1 else 0)
  | .int a, .int b => a == b
  | .str a, .str b => a == b
  | _, _ => false
/-- x in xs: flat things -/
def inF (x : W) (xs : List W) : Bool := xs.any fun y => eqF y x
def opIn : W → W → G → Res W
  | x, .ref a, g => match seqAt g a with
    | some ws => if flat x && ws.all flat then .ok (.bl (inF x ws)) g else .bad
    | none => .bad
  | _, _, _ => .bad
def opNin : W → W → G → Res W
  | x, .ref a, g => match seqAt g a with
    | some ws => if flat x && ws.all flat then .ok (.bl (!inF x ws)) g else .bad
    | none => .bad
  | _, _, _ => .bad
/-- is None, is not None -/
def opIsN : W → G → Res W := fun x g => .ok (.bl (decide (x = .non))) g
def opNotN : W → G → Res W := fun x g => .ok (.bl (!decide (x = .non))) g
/-- is of two truths -/
def opIsB : W → W → G → Res W
  | .bl a, .bl b, g => .ok (.bl (decide (a = b))) g
  | _, _, _ => .bad
def opNotB : W → W → G → Res W
  | .bl a, .bl b, g => .ok (.bl (!decide (a = b))) g
  | _, _, _ => .bad
/-! ### subscripts -/
def ixN (n : Nat) (i : Int) : Option Nat := if 0 ≤ i then (if i < n then some i.toNat else none) else if -(n : Int) ≤ i then some (i + n).toNat else none
def atI {α : Type} (xs : List α) (i : Int) : Option α := (ixN xs.length i).bind fun j => xs[j]?
def opIx : W → W → G → Res W
  | .ref a, .int i, g => match seqAt g a with
    | some ws => match atI ws i with
      | some w => .ok w g
      | none => .bad
    | none => .bad
  | _, _, _ => .bad
def sIx (n d : Nat) : Option Int → Nat
  | none => d
  | some v => if v < 0 then (v + (n : Int)).toNat else min v.toNat n
def cut {α : Type} (xs : List α) (lo hi : Option Int) : List α := (xs.drop (sIx xs.length 0 lo)).take (sIx xs.length xs.length hi - sIx xs.length 0 lo)
/-- a part of a slice -/
abbrev MO := Env → G → Res (Option Int)
def oNone : MO := fun _ g => .ok none g
def oSome (a : ME) : MO := fun ρ g => (a ρ g).bind fun x g1 => match x with
  | .int i => .ok (some i) g1
  | _ => .bad
/-- a slice of a list -/
def mSl (a : ME) (lo hi : MO) : ME := fun ρ g => (a ρ g).bind fun x g1 => (lo ρ g1).bind fun l g2 => (hi ρ g2).bind fun h g3 => match x with
  | .ref n => match lstAt g3 n with
    | some ws => .ok (.ref g3.length) (g3 ++ [.lst (cut ws l h)])
    | none => .bad
  | _ => .bad
/-- xs[::-1] of a list -/
def mRev (a : ME) : ME := fun ρ g => (a ρ g).bind fun x g1 => match x with
  | .ref n => match lstAt g1 n with
    | some ws => .ok (.ref g1.length) (g1 ++ [.lst ws.reverse])
    | none => .bad
  | _ => .bad
/-! ### built-in functions, by values -/
def isort (l : List Int) : List Int := l.mergeSort (fun a b => decide (a ≤ b))
def bLen : Fn
  | [.ref a], g => match seqAt g a with
    | some ws => .ok (.int ws.length) g
    | none => .bad
  | [.str x], g => if x.length ≤ SZ then .ok (.int x.length) g else .bad
  | _, _ => .bad
def maxL : List Int → Int
  | [] => 0
  | [a] => a
  | a :: b :: r => max a (maxL (b :: r))
def minL : List Int → Int
  | [] => 0
  | [a] => a
  | a :: b :: r => min a (minL (b :: r))
def bMax : Fn
  | [.int i, .int j], g => .ok (.int (if j > i then j else i)) g
  | [.ref a], g => match lstAt g a with
    | some ws => match intsL ws with
      | some (n :: ns) => .ok (.int (maxL (n :: ns))) g
      | _ => .bad
    | none => .bad
  | _, _ => .bad
def bMin : Fn
  | [.int i, .int j], g => .ok (.int (if j < i then j else i)) g
  | [.ref a], g => match lstAt g a with
    | some ws => match intsL ws with
      | some (n :: ns) => .ok (.int (minL (n :: ns))) g
      | _ => .bad
    | none => .bad
  | _, _ => .bad
def bSum : Fn
  | [.ref a], g => match lstAt g a with
    | some ws => match intsL ws with
      | some ns => .ok (.int ns.sum) g
      | _ => .bad
    | none => .bad
  | _, _ => .bad
def bAll : Fn
  | [.ref a], g => match lstAt g a with
    | some ws => match bools ws with
      | some bs => .ok (.bl (bs.all id)) g
      | _ => .bad
    | none => .bad
  | _, _ => .bad
def bAny : Fn
  | [.ref a], g => match lstAt g a with
    | some ws => match bools ws with
      | some bs => .ok (.bl (bs.any id)) g
      | _ => .bad
    | none => .bad
  | _, _ => .bad
/-- sorted of a list of ints -/
def bSorted : Fn
  | [.ref a], g => match lstAt g a with
    | some ws => match intsL ws with
      | some ns => .ok (.ref g.length) (g ++ [.lst ((isort ns).map .int)])
      | _ => .bad
    | none => .bad
  | _, _ => .bad
def bAbs : Fn
  | [.int i], g => .ok (.int (if i < 0 then -i else i)) g
  | _, _ => .bad
def bInt : Fn
  | [.int i], g => .ok (.int i) g
  | [.bl b], g => .ok (.int (if b then 1 else 0)) g
  | _, _ => .bad
/-- list(xs) of a list or tuple -/
def bList : Fn
  | [.ref a], g => match seqAt g a with
    | some ws => .ok (.ref g.length) (g ++ [.lst ws])
    | none => .bad
  | _, _ => .bad
/-- the built-in type of a value -/
def tyOf (g : G) : W → Option String
  | .non => some "NoneType"
  | .bl _ => some "bool"
  | .int _ => some "int"
  | .str _ => some "str"
  | .ref a => match g[a]? with
    | some (.lst _) => some "list"
    | some (.fls _) => some "list"
    | some (.tup _) => some "tuple"
    | some (.dct _) => some "dict"
    | _ => none
  | _ => none
def subTy (t n : String) : Bool := t == n || (t == "bool" && n == "int")
def kinds : List String := ["int", "bool", "list", "tuple", "str"]
/-- isinstance(x, T), T a built-in type -/
def bIsi : Fn
  | [x, .ty n], g => match tyOf g x with
    | some t => if kinds.contains n then .ok (.bl (subTy t n)) g else .bad
    | none => .bad
  | _, _ => .bad
/-! ### methods of lists -/
def mtAppend (x : W) (xs : List W) (g : G) : Res W := match x, xs with
  | .ref a, [y] => match g[a]? with
    | some (.lst ws) => if ws.length < SZ then .ok .non (g.set a (.lst (ws ++ [y]))) else .bad
    | _ => .bad
  | _, _ => .bad
def mtPop (x : W) (xs : List W) (g : G) : Res W := match x, xs with
  | .ref a, [.int i] => match g[a]? with
    | some (.lst ws) => match ixN ws.length i with
      | some k => match ws[k]? with
        | some y => if -(2 ^ 63) ≤ i ∧ i < 2 ^ 63 then .ok y (g.set a (.lst (ws.eraseIdx k))) else .bad
        | none => .bad
      | none => .bad
    | _ => .bad
  | _, _ => .bad
def mtExtend (x : W) (xs : List W) (g : G) : Res W := match x, xs with
  | .ref a, [.ref b] => match g[a]?, g[b]? with
    | some (.lst ws), some (.lst zs) => if ws.length + zs.length ≤ SZ then .ok .non (g.set a (.lst (ws ++ zs))) else .bad
    | _, _ => .bad
  | _, _ => .bad
def findF (x : W) : List W → Option Nat
  | [] => none
  | y :: r => if eqF y x then some 0 else (findF x r).map (· + 1)
def mtIndex (x : W) (xs : List W) (g : G) : Res W := match x, xs with
  | .ref a, [y] => match lstAt g a with
    | some ws => if flat y && ws.all flat then match findF y ws with
      | some k => .ok (.int k) g
      | none => .bad
      else .bad
    | none => .bad
  | _, _ => .bad
def isL (g : G) : W → Bool
  | .ref a => (lstAt g a).isSome
  | _ => false
/-- a method of a list -/
def mMt (f : W → List W → G → Res W) (o : ME) (a : MA) : ME := fun ρ g => (o ρ g).bind fun x g1 => if isL g1 x then (a ρ g1).bind fun xs g2 => f x xs g2 else .bad
/-- list(range(..)) -/
def rgW (a b : Int) : List W := (List.range (b - a).toNat).map fun i => .int (a + (i : Nat))
def inR2 (a b : Int) : Bool := decide (-(2 ^ 62) ≤ a) && decide (a < 2 ^ 62) && decide (-(2 ^ 62) ≤ b) && decide (b < 2 ^ 62) && decide ((b - a).toNat ≤ SZ)
def mLrg1 (a : ME) : ME := fun ρ g => (a ρ g).bind fun x g1 => match x with
  | .int n => if inR2 0 n then .ok (.ref g1.length) (g1 ++ [.lst (rgW 0 n)]) else .bad
  | _ => .bad
def mLrg2 (a b : ME) : ME := fun ρ g => (a ρ g).bind fun x g1 => (b ρ g1).bind fun y g2 => match x, y with
  | .int n, .int m => if inR2 n m then .ok (.ref g2.length) (g2 ++ [.lst (rgW n m)]) else .bad
  | _, _ => .bad

/-! ### iterators -/
inductive It where
  | lst (a : Nat) | tup (a : Nat) | rng (lo : Int) (n : Nat) | rngC (lo c : Int) (n : Nat) | enum (a : Nat) | zip (a b : Nat)
inductive Tn where
  | go (w : W) (g : G) | stop | bad
def itAt : It → Nat → G → Tn
  | .lst a, i, g => match lstAt g a with
    | some ws => match ws[i]? with
      | some w => .go w g
      | none => .stop
    | none => .bad
  | .tup a, i, g => match tupAt g a with
    | some ws => match ws[i]? with
      | some w => .go w g
      | none => .stop
    | none => .bad
  | .rng lo n, i, g => if i < n then .go (.int (lo + i)) g else .stop
  | .rngC lo c n, i, g => if i < n then .go (.int (lo + (i : Nat) * c)) g else .stop
  | .enum a, i, g => match lstAt g a with
    | some ws => match ws[i]? with
      | some w => .go (.ref g.length) (g ++ [.tup [.int i, w]])
      | none => .stop
    | none => .bad
  | .zip a b, i, g => match lstAt g a, lstAt g b with
    | some ws, some us => match ws[i]?, us[i]? with
      | some w, some u => .go (.ref g.length) (g ++ [.tup [w, u]])
      | _, _ => .stop
    | _, _ => .bad
def itLen : It → G → Nat
  | .lst a, g => ((lstAt g a).getD []).length
  | .tup a, g => ((tupAt g a).getD []).length
  | .rng _ n, _ => n
  | .rngC _ _ n, _ => n
  | .enum a, g => ((lstAt g a).getD []).length
  | .zip a b, g => min ((lstAt g a).getD []).length ((lstAt g b).getD []).length
abbrev MI := Env → G → Res It
def iLst (e : ME) : MI := fun ρ g => (e ρ g).bind fun x g1 => match x with
  | .ref a => match lstAt g1 a with
    | some _ => .ok (.lst a) g1
    | none => .bad
  | _ => .bad
def iTup (e : ME) : MI := fun ρ g => (e ρ g).bind fun x g1 => match x with
  | .ref a => match tupAt g1 a with
    | some _ => .ok (.tup a) g1
    | none => .bad
  | _ => .bad
def inR (i : Int) : Bool := decide (-(2 ^ 62) ≤ i) && decide (i < 2 ^ 62)
def iRng1 (a : MA) : MI := fun ρ g => (a ρ g).bind fun xs g1 => match xs with
  | [.int j] => if inR j then .ok (.rng 0 j.toNat) g1 else .bad
  | _ => .bad
def iRng2 (a : MA) : MI := fun ρ g => (a ρ g).bind fun xs g1 => match xs with
  | [.int i, .int j] => if inR i && inR j then .ok (.rng i (j - i).toNat) g1 else .bad
  | _ => .bad
/-- range(i, j, -1) -/
def iRng3 (a : MA) : MI := fun ρ g => (a ρ g).bind fun xs g1 => match xs with
  | [.int i, .int j, .int c] => if inR i && inR j && decide (c = -1) then .ok (.rngC i (-1) (i - j).toNat) g1 else .bad
  | _ => .bad
def iEnum (a : MA) : MI := fun ρ g => (a ρ g).bind fun xs g1 => match xs with
  | [.ref n] => match lstAt g1 n with
    | some _ => .ok (.enum n) g1
    | none => .bad
  | _ => .bad
def iZip (a : MA) : MI := fun ρ g => (a ρ g).bind fun xs g1 => match xs with
  | [.ref n, .ref m] => match lstAt g1 n, lstAt g1 m with
    | some _, some _ => .ok (.zip n m) g1
    | _, _ => .bad
  | _ => .bad
/-! ### comprehensions -/
def wipe (ρ : Env) : List Nat → Env
  | [] => ρ
  | v :: vs => (wipe ρ vs).set v none
def lcGo (it : It) (tgt : MG) (tt : MT) (el : ME) (ρ : Env) (d : Nat) : Nat → Nat → G → Res W
  | 0, i, g => match itAt it i g with
    | .stop => .ok (.ref d) g
    | _ => .bad
  | fuel + 1, i, g => match itAt it i g with
    | .stop => .ok (.ref d) g
    | .bad => .bad
    | .go w g1 => match tgt w ρ g1 with
      | .ok ρ1 g2 => match tt ρ1 g2 with
        | .ok true g3 => match el ρ1 g3 with
          | .ok y g4 => match g4[d]? with
            | some (.lst acc) => if acc.length < SZ then lcGo it tgt tt el ρ d fuel (i + 1) (g4.set d (.lst (acc ++ [y]))) else .bad
            | _ => .bad
          | _ => .bad
        | .ok false g3 => lcGo it tgt tt el ρ d fuel (i + 1) g3
        | _ => .bad
      | _ => .bad
def mLc (mi : MI) (own : List Nat) (tgt : MG) (tt : MT) (el : ME) : ME := fun ρ g => (mi ρ g).bind fun it g1 =>
  lcGo it tgt tt el (wipe ρ own) g1.length (itLen it g1) 0 (g1 ++ [.lst []])

/-! ### targets -/
def gName (i : Nat) : MG := fun w ρ g => .ok (ρ.set i (some w)) g
def gTups : List MG → List W → Env → G → Res Env
  | [], [], ρ, g => .ok ρ g
  | t :: ts, w :: ws, ρ, g => (t w ρ g).bind fun ρ1 g1 => gTups ts ws ρ1 g1
  | _, _, _, _ => .bad
def gTup (ts : List MG) : MG := fun w ρ g => match w with
  | .ref a => match tupAt g a with
    | some ws => if ws.length = ts.length then gTups ts ws ρ g else .bad
    | none => .bad
  | _ => .bad
/-- o[i] = v, o a list -/
def gSub (o i : ME) : MG := fun w ρ g => (o ρ g).bind fun x g1 => (i ρ g1).bind fun y g2 => match x, y with
  | .ref a, .int k => match g2[a]? with
    | some (.lst ws) => match ixN ws.length k with
      | some j => .ok ρ (g2.set a (.lst (ws.set j w)))
      | none => .bad
    | _ => .bad
  | _, _ => .bad
/-! ### statements -/
def sNop : MS := fun ρ g => .fl (.nx ρ) g
def sSeq (s t : MS) : MS := fun ρ g => match s ρ g with
  | .fl (.nx ρ1) g1 => t ρ1 g1
  | r => r
def sE (e : ME) : MS := fun ρ g => match e ρ g with
  | .ok _ g1 => .fl (.nx ρ) g1
  | .ex x g1 => .ex x ρ g1
  | .bad => .bad
def sRet (e : ME) : MS := fun ρ g => match e ρ g with
  | .ok w g1 => .fl (.rt w) g1
  | .ex x g1 => .ex x ρ g1
  | .bad => .bad
def sAsg (e : ME) (t : MG) : MS := fun ρ g => match e ρ g with
  | .ok w g1 => match t w ρ g1 with
    | .ok ρ1 g2 => .fl (.nx ρ1) g2
    | _ => .bad
  | .ex x g1 => .ex x ρ g1
  | .bad => .bad
def sIf (c : MT) (a b : MS) : MS := fun ρ g => match c ρ g with
  | .ok t g1 => if t then a ρ g1 else b ρ g1
  | .ex x g1 => .ex x ρ g1
  | .bad => .bad
/-- a name's slot i changed by an operator -/
def sAug (i : Nat) (f : W → W → G → Res W) (e : ME) : MS := fun ρ g => match ρ[i]? with
  | some (some x) => match e ρ g with
    | .ok y g1 => match f x y g1 with
      | .ok z g2 => .fl (.nx (ρ.set i (some z))) g2
      | .ex x g1 => .ex x ρ g1
      | .bad => .bad
    | .ex x g1 => .ex x ρ g1
    | .bad => .bad
  | _ => .bad
/-- a, b = x, y for locals -/
def putL : List Nat → List W → Env → Option Env
  | [], [], ρ => some ρ
  | i :: is, w :: ws, ρ => putL is ws (ρ.set i (some w))
  | _, _, _ => none
def sPar (is : List Nat) (a : MA) : MS := fun ρ g => match a ρ g with
  | .ok ws g1 => match putL is ws ρ with
    | some ρ1 => .fl (.nx ρ1) g1
    | none => .bad
  | .ex x g1 => .ex x ρ g1
  | .bad => .bad
def sRaise (c : Str) : MS := fun ρ g => .ex ⟨c, none⟩ ρ g
def sBrk : MS := fun ρ g => .fl (.bk ρ) g
def sCnt : MS := fun ρ g => .fl (.ct ρ) g
def forGo (it : It) (tgt : MG) (body : MS) : Nat → Nat → Env → G → SR
  | 0, i, ρ, g => match itAt it i g with
    | .stop => .fl (.nx ρ) g
    | _ => .bad
  | fuel + 1, i, ρ, g => match itAt it i g with
    | .stop => .fl (.nx ρ) g
    | .bad => .bad
    | .go w g1 => match tgt w ρ g1 with
      | .ok ρ1 g2 => match body ρ1 g2 with
        | .fl (.nx ρ2) g3 => forGo it tgt body fuel (i + 1) ρ2 g3
        | .fl (.ct ρ2) g3 => forGo it tgt body fuel (i + 1) ρ2 g3
        | .fl (.bk ρ2) g3 => .fl (.nx ρ2) g3
        | r => r
      | _ => .bad
def sFor (mi : MI) (tgt : MG) (body : MS) : MS := fun ρ g => match mi ρ g with
  | .ok it g1 => forGo it tgt body (itLen it g1) 0 ρ g1
  | .ex x g1 => .ex x ρ g1
  | .bad => .bad
def whileGo (c : MT) (body : MS) : Nat → Env → G → SR
  | 0, _, _ => .bad
  | fuel + 1, ρ, g => match c ρ g with
    | .ok true g1 => match body ρ g1 with
      | .fl (.nx ρ2) g3 => whileGo c body fuel ρ2 g3
      | .fl (.ct ρ2) g3 => whileGo c body fuel ρ2 g3
      | .fl (.bk ρ2) g3 => .fl (.nx ρ2) g3
      | r => r
    | .ok false g1 => .fl (.nx ρ) g1
    | .ex x g1 => .ex x ρ g1
    | .bad => .bad
def sWhile (c : MT) (body : MS) : MS := whileGo c body (2 ^ 64)
/-! ### defs -/
def startM (n : Nat) (ws : List W) : Env := ws.map some ++ List.replicate (n - ws.length) none
def endS : SR → Res W
  | .fl (.nx _) g => .ok .non g
  | .fl (.rt w) g => .ok w g
  | .ex e _ g => .ex e g
  | _ => .bad
/-- a def: p parameters, n names -/
def mDef (p n : Nat) (body : MS) : Fn := fun ws g => if ws.length = p then endS (body (startM n ws) g) else .bad
end M
/-! MRel: how the small machine's values and heap stand in the hand layer's; what a reading by the small machine is. -/
namespace M
open PySem PySem.Spec PyProof.Rows L2

abbrev Frag := PySem.W.Frag
def Pre (ι ι' : List Addr) : Prop := ∃ t, ι' = ι ++ t
theorem Pre.refl (ι : List Addr) : Pre ι ι := ⟨[], by simp⟩
theorem Pre.trans {a b c : List Addr} (h : Pre a b) (h' : Pre b c) : Pre a c := by
  obtain ⟨t, rfl⟩ := h
  obtain ⟨u, rfl⟩ := h'
  exact ⟨t ++ u, by simp⟩
theorem Pre.snoc (ι : List Addr) (p : Addr) : Pre ι (ι ++ [p]) := ⟨[p], rfl⟩
theorem Pre.at_ {ι ι' : List Addr} (h : Pre ι ι') {n : Nat} {a : Addr} (e : ι[n]? = some a) : ι'[n]? = some a := by
  obtain ⟨t, rfl⟩ := h
  have hl : n < ι.length := (List.getElem?_eq_some_iff.mp e).1
  rw [List.getElem?_append_left hl]
  exact e
def RelW (K : Frag) (ι : List Addr) : W → V → Prop
  | .non, v => v = .non
  | .bl b, v => v = .bl b
  | .int i, v => v = .int i
  | .str x, v => v = .str x
  | .ref n, v => ∃ a, ι[n]? = some a ∧ v = .ref a
  | .glob x, v => v = .ref (He.ga K x)
  | .ty n, v => v = .ty n
theorem RelW.mono {K : Frag} {ι ι' : List Addr} {w : W} {v : V} (p : Pre ι ι') (h : RelW K ι w v) : RelW K ι' w v := by
  cases w with
  | ref n =>
    obtain ⟨a, e, hv⟩ := h
    exact ⟨a, p.at_ e, hv⟩
  | _ => exact h
abbrev RelL (K : Frag) (ι : List Addr) : List W → List V → Prop := Paired (RelW K ι)
theorem RelL.mono {K : Frag} {ι ι' : List Addr} (p : Pre ι ι') : ∀ {ws : List W} {vs : List V}, RelL K ι ws vs → RelL K ι' ws vs
  | _, _, .nil => .nil
  | _, _, .cons r t => .cons (r.mono p) (RelL.mono p t)
theorem RelL.length {K : Frag} {ι : List Addr} {ws : List W} {vs : List V} (r : RelL K ι ws vs) : ws.length = vs.length := Paired.length r
theorem RelL.append {K : Frag} {ι : List Addr} : ∀ {ws us : List W} {vs xs : List V}, RelL K ι ws vs → RelL K ι us xs → RelL K ι (ws ++ us) (vs ++ xs)
  | _, _, _, _, .nil, s => s
  | _, _, _, _, .cons r t, s => .cons r (RelL.append t s)
theorem RelL.get {K : Frag} {ι : List Addr} : ∀ {ws : List W} {vs : List V} {i : Nat} {w : W}, RelL K ι ws vs → ws[i]? = some w → ∃ v, vs[i]? = some v ∧ RelW K ι w v
  | _, _, _, _, .nil, e => by simp at e
  | _, _, 0, _, .cons r _, e => by
    simp at e
    subst e
    exact ⟨_, rfl, r⟩
  | _, _, i + 1, w, .cons _ t, e => by
    obtain ⟨v, h1, h2⟩ := RelL.get (i := i) (w := w) t (by simpa using e)
    exact ⟨v, by simpa using h1, h2⟩
theorem RelL.getV {K : Frag} {ι : List Addr} : ∀ {ws : List W} {vs : List V} {i : Nat} {v : V}, RelL K ι ws vs → vs[i]? = some v → ∃ w, ws[i]? = some w ∧ RelW K ι w v
  | _, _, _, _, .nil, e => by simp at e
  | _, _, 0, _, .cons r _, e => by
    simp at e
    subst e
    exact ⟨_, rfl, r⟩
  | _, _, i + 1, w, .cons _ t, e => by
    obtain ⟨v, h1, h2⟩ := RelL.getV (i := i) (v := w) t (by simpa using e)
    exact ⟨v, by simpa using h1, h2⟩
theorem RelL.set {K : Frag} {ι : List Addr} {w : W} {v : V} (r : RelW K ι w v) : ∀ {ws : List W} {vs : List V} (i : Nat), RelL K ι ws vs → RelL K ι (ws.set i w) (vs.set i v)
  | _, _, _, .nil => .nil
  | _, _, 0, .cons _ t => .cons r t
  | _, _, i + 1, .cons q t => .cons q (RelL.set r i t)
theorem RelL.take {K : Frag} {ι : List Addr} : ∀ {ws : List W} {vs : List V} (n : Nat), RelL K ι ws vs → RelL K ι (ws.take n) (vs.take n)
  | _, _, 0, _ => .nil
  | _, _, _ + 1, .nil => .nil
  | _, _, n + 1, .cons r t => .cons r (RelL.take n t)
theorem RelL.drop {K : Frag} {ι : List Addr} : ∀ {ws : List W} {vs : List V} (n : Nat), RelL K ι ws vs → RelL K ι (ws.drop n) (vs.drop n)
  | _, _, 0, r => r
  | _, _, _ + 1, .nil => .nil
  | _, _, n + 1, .cons _ t => RelL.drop n t
theorem RelL.erase {K : Frag} {ι : List Addr} : ∀ {ws : List W} {vs : List V} (i : Nat), RelL K ι ws vs → RelL K ι (ws.eraseIdx i) (vs.eraseIdx i)
  | _, _, _, .nil => .nil
  | _, _, 0, .cons _ t => t
  | _, _, i + 1, .cons r t => .cons r (RelL.erase i t)
theorem RelL.reverse {K : Frag} {ι : List Addr} : ∀ {ws : List W} {vs : List V}, RelL K ι ws vs → RelL K ι ws.reverse vs.reverse
  | _, _, .nil => .nil
  | _, _, .cons r t => by
    rw [List.reverse_cons, List.reverse_cons]
    exact (RelL.reverse t).append (.cons r .nil)
theorem RelL.rep {K : Frag} {ι : List Addr} {ws : List W} {vs : List V} (h : RelL K ι ws vs) : ∀ k : Nat, RelL K ι (List.replicate k ws).flatten (List.replicate k vs).flatten
  | 0 => .nil
  | k + 1 => by
    rw [List.replicate_succ, List.replicate_succ, List.flatten_cons, List.flatten_cons]
    exact h.append (RelL.rep h k)
/-- what stands at a -/
def RelO (K : Frag) (H : Hp) (ι : List Addr) : O → Addr → Prop
  | .lst ws, a => ∃ vs, RelL K ι ws vs ∧ H a = some (.lst vs)
  | .tup ws, a => ∃ vs, RelL K ι ws vs ∧ H a = some (.tup vs)
  | .fls ws, a => ∃ vs, RelL K ι ws vs ∧ ((∃ o, H a = some (.frz o (.lst vs))) ∨ ∀ H', SqL K H' a vs)
  | .dct kvs, a => ∃ vs : List (L2.Key × V), Paired (fun (p : M.Key × W) (q : L2.Key × V) => p.1 = q.1 ∧ RelW K ι p.2 q.2) kvs vs ∧ H a = some (.dK vs)
  | .ins c fs, a => ∃ dx, ∃ vs : List (PySem.Str × V), Paired (fun (p : M.Str × W) (q : PySem.Str × V) => p.1 = q.1 ∧ RelW K ι p.2 q.2) fs vs ∧ H a = some (.ins (He.ga K c) dx vs)
def trk : O → Bool
  | .fls _ => false
  | _ => true
structure RelG (K : Frag) (ι : List Addr) (g : G) (H : Hp) : Prop where
  len : ι.length = g.length
  at_ : ∀ (i : Nat) (o : O) (a : Addr), g[i]? = some o → ι[i]? = some a → RelO K H ι o a
  nd : ∀ (i j : Nat) (oi oj : O) (a : Addr), g[i]? = some oi → g[j]? = some oj → trk oi = true → trk oj = true → ι[i]? = some a → ι[j]? = some a → i = j
theorem Paired.mono2 {α β : Type} {F F' : α → β → Prop} : ∀ {l : List α} {m : List β}, Paired F l m → (∀ a b, F a b → F' a b) → Paired F' l m
  | _, _, .nil, _ => .nil
  | _, _, .cons r t, f => .cons (f _ _ r) (Paired.mono2 t f)
theorem RelO.mono {K : Frag} {H : Hp} {ι ι' : List Addr} {o : O} {a : Addr} (p : Pre ι ι') (h : RelO K H ι o a) : RelO K H ι' o a := by
  cases o with
  | lst ws =>
    obtain ⟨vs, r, e⟩ := h
    exact ⟨vs, r.mono p, e⟩
  | tup ws =>
    obtain ⟨vs, r, e⟩ := h
    exact ⟨vs, r.mono p, e⟩
  | fls ws =>
    obtain ⟨vs, r, e⟩ := h
    exact ⟨vs, r.mono p, e⟩
  | dct kvs =>
    obtain ⟨vs, r, e⟩ := h
    exact ⟨vs, Paired.mono2 r fun _ _ q => ⟨q.1, q.2.mono p⟩, e⟩
  | ins c fs =>
    obtain ⟨dx, vs, r, e⟩ := h
    exact ⟨dx, vs, Paired.mono2 r fun _ _ q => ⟨q.1, q.2.mono p⟩, e⟩
/-- what stands at a tracked place is of the heap -/
theorem relO_some {K : Frag} {H : Hp} {ι : List Addr} {o : O} {a : Addr} (h : RelO K H ι o a) (t : trk o = true) : ∃ u, H a = some u ∧ ∀ ob x, u ≠ .frz ob x := by
  cases o with
  | lst ws => obtain ⟨vs, r, e⟩ := h; exact ⟨_, e, fun _ _ z => nomatch z⟩
  | tup ws => obtain ⟨vs, r, e⟩ := h; exact ⟨_, e, fun _ _ z => nomatch z⟩
  | fls ws => cases t
  | dct kvs => obtain ⟨vs, r, e⟩ := h; exact ⟨_, e, fun _ _ z => nomatch z⟩
  | ins c fs => obtain ⟨dx, vs, r, e⟩ := h; exact ⟨_, e, fun _ _ z => nomatch z⟩
/-- another object is written -/
theorem relO_upd {K : Frag} {H : Hp} {ι : List Addr} {o : O} {a b : Addr} {u : HO} (h : RelO K H ι o a) (t : trk o = true → a ≠ b) (f : ∀ ob x, H b ≠ some (.frz ob x)) : RelO K (upd H b u) ι o a := by
  have k : ∀ {z : HO}, trk o = true → H a = some z → (L2.upd H b u) a = some z := fun ht e => by
    rw [upd_ne (t ht)]
    exact e
  cases o with
  | lst ws => obtain ⟨vs, r, e⟩ := h; exact ⟨vs, r, k rfl e⟩
  | tup ws => obtain ⟨vs, r, e⟩ := h; exact ⟨vs, r, k rfl e⟩
  | fls ws =>
    obtain ⟨vs, r, e⟩ := h
    refine ⟨vs, r, ?_⟩
    rcases e with ⟨ob, e⟩ | e
    · refine .inl ⟨ob, ?_⟩
      have ne : a ≠ b := fun z => by
        rw [z] at e
        exact f _ _ e
      rw [upd_ne ne]
      exact e
    · exact .inr e
  | dct kvs => obtain ⟨vs, r, e⟩ := h; exact ⟨vs, r, k rfl e⟩
  | ins c fs => obtain ⟨dx, vs, r, e⟩ := h; exact ⟨dx, vs, r, k rfl e⟩
section
variable {K : Frag} {ι : List Addr} {g : G} {H : Hp}
theorem RelG.addr (h : RelG K ι g H) {i : Nat} {o : O} (e : g[i]? = some o) : ∃ a, ι[i]? = some a := by
  have hl : i < g.length := (List.getElem?_eq_some_iff.mp e).1
  have hl2 : i < ι.length := by rw [h.len]; exact hl
  exact ⟨ι[i], List.getElem?_eq_getElem hl2⟩
/-- a new object -/
theorem RelG.new (h : RelG K ι g H) {o : O} {u : HO} {p : Addr} (hp : H p = none) (ht : trk o = true) (ho : RelO K (upd H p u) (ι ++ [p]) o p) : RelG K (ι ++ [p]) (g ++ [o]) (upd H p u) := by
  have hf : ∀ ob x, H p ≠ some (.frz ob x) := fun _ _ z => by rw [hp] at z; cases z
  have old : ∀ (i : Nat) (oi : O) (a : Addr), i < g.length → g[i]? = some oi → ι[i]? = some a → RelO K (upd H p u) (ι ++ [p]) oi a := fun i oi a _ e1 e2 => by
    have r := h.at_ i oi a e1 e2
    refine relO_upd (RelO.mono (Pre.snoc ι p) r) (fun t => ?_) hf
    obtain ⟨x, hx, _⟩ := relO_some r t
    intro z
    rw [z, hp] at hx
    cases hx
  refine ⟨by simp [h.len], fun i oi a e1 e2 => ?_, fun i j oi oj a e1 e2 t1 t2 e3 e4 => ?_⟩
  · by_cases hi : i < g.length
    · rw [List.getElem?_append_left hi] at e1
      rw [List.getElem?_append_left (by rw [h.len]; exact hi)] at e2
      exact old i oi a hi e1 e2
    · have hi2 : i = g.length := by
        have := (List.getElem?_eq_some_iff.mp e1).1
        simp at this
        omega
      subst hi2
      have q1 : o = oi := by simpa using e1
      have q2 : p = a := by
        rw [← h.len] at e2
        simpa using e2
      subst q1 q2
      exact ho
  · by_cases hi : i < g.length
    · rw [List.getElem?_append_left hi] at e1
      rw [List.getElem?_append_left (by rw [h.len]; exact hi)] at e3
      by_cases hj : j < g.length
      · rw [List.getElem?_append_left hj] at e2
        rw [List.getElem?_append_left (by rw [h.len]; exact hj)] at e4
        exact h.nd i j oi oj a e1 e2 t1 t2 e3 e4
      · have hj2 : j = g.length := by
          have := (List.getElem?_eq_some_iff.mp e2).1
          simp at this
          omega
        subst hj2
        have q2 : p = a := by
          rw [← h.len] at e4
          simpa using e4
        subst q2
        obtain ⟨x, hx, _⟩ := relO_some (h.at_ i oi p e1 e3) t1
        rw [hp] at hx
        cases hx
    · have hi2 : i = g.length := by
        have := (List.getElem?_eq_some_iff.mp e1).1
        simp at this
        omega
      subst hi2
      have q2 : p = a := by
        rw [← h.len] at e3
        simpa using e3
      subst q2
      by_cases hj : j < g.length
      · rw [List.getElem?_append_left hj] at e2
        rw [List.getElem?_append_left (by rw [h.len]; exact hj)] at e4
        obtain ⟨x, hx, _⟩ := relO_some (h.at_ j oj p e2 e4) t2
        rw [hp] at hx
        cases hx
      · have hj2 : j = g.length := by
          have := (List.getElem?_eq_some_iff.mp e2).1
          simp at this
          omega
        omega
theorem RelG.newAt (h : RelG K ι g H) (p : Addr) : (ι ++ [p])[g.length]? = some p := by
  rw [← h.len]
  simp
theorem RelG.newW (h : RelG K ι g H) (p : Addr) : RelW K (ι ++ [p]) (.ref g.length) (.ref p) := ⟨p, h.newAt p, rfl⟩
/-- an object is written -/
theorem RelG.put (h : RelG K ι g H) {o o' : O} {u : HO} {i : Nat} {p : Addr} (e : g[i]? = some o) (ep : ι[i]? = some p) (t : trk o = true) (t' : trk o' = true) (ho : RelO K (upd H p u) ι o' p) : RelG K ι (g.set i o') (upd H p u) := by
  obtain ⟨x, hx, nf⟩ := relO_some (h.at_ i o p e ep) t
  have hf : ∀ ob x, H p ≠ some (.frz ob x) := fun ob y z => by
    rw [hx] at z
    exact nf ob y (Option.some.inj z)
  have hl : i < g.length := (List.getElem?_eq_some_iff.mp e).1
  have back : ∀ (j : Nat) (oj : O), trk oj = true → (g.set i o')[j]? = some oj → ∃ oj', g[j]? = some oj' ∧ trk oj' = true := fun j oj tj ej => by
    by_cases hij : i = j
    · subst hij
      exact ⟨o, e, t⟩
    · rw [List.getElem?_set_ne hij] at ej
      exact ⟨oj, ej, tj⟩
  refine ⟨by simp [h.len], fun j oj a e1 e2 => ?_, fun j k oj ok a e1 e2 t1 t2 e3 e4 => ?_⟩
  · by_cases hij : i = j
    · subst hij
      rw [List.getElem?_set_self hl] at e1
      cases e1
      rw [ep] at e2
      cases e2
      exact ho
    · rw [List.getElem?_set_ne hij] at e1
      have r := h.at_ j oj a e1 e2
      refine relO_upd r (fun tj z => ?_) hf
      subst z
      exact hij (h.nd i j o oj _ e e1 t tj ep e2)
  · obtain ⟨oj', f1, s1⟩ := back j oj t1 e1
    obtain ⟨ok', f2, s2⟩ := back k ok t2 e2
    exact h.nd j k oj' ok' a f1 f2 s1 s2 e3 e4
theorem RelG.newL (h : RelG K ι g H) {ws : List W} {vs : List V} {p : Addr} (hp : H p = none) (r : RelL K ι ws vs) : RelG K (ι ++ [p]) (g ++ [.lst ws]) (upd H p (.lst vs)) := h.new hp rfl ⟨vs, r.mono (Pre.snoc _ _), upd_same⟩
theorem RelG.putL (h : RelG K ι g H) {ws us : List W} {vs : List V} {i : Nat} {p : Addr} (e : g[i]? = some (.lst us)) (ep : ι[i]? = some p) (r : RelL K ι ws vs) : RelG K ι (g.set i (.lst ws)) (upd H p (.lst vs)) := h.put e ep rfl rfl ⟨vs, r, upd_same⟩
theorem RelG.lst (h : RelG K ι g H) {i : Nat} {ws : List W} {a : Addr} (e : g[i]? = some (.lst ws)) (ea : ι[i]? = some a) : ∃ vs, RelL K ι ws vs ∧ H a = some (.lst vs) := h.at_ i _ a e ea
theorem RelG.tup (h : RelG K ι g H) {i : Nat} {ws : List W} {a : Addr} (e : g[i]? = some (.tup ws)) (ea : ι[i]? = some a) : ∃ vs, RelL K ι ws vs ∧ H a = some (.tup vs) := h.at_ i _ a e ea
theorem RelG.lstAt (h : RelG K ι g H) {i : Nat} {ws : List W} {a : Addr} (e : lstAt g i = some ws) (ea : ι[i]? = some a) : ∃ vs, RelL K ι ws vs ∧ SqL K H a vs := by
  unfold M.lstAt at e
  split at e
  · rename_i us q
    cases e
    obtain ⟨vs, r, z⟩ := h.lst q ea
    exact ⟨vs, r, .inl (.inl z)⟩
  · rename_i us q
    cases e
    obtain ⟨vs, r, z⟩ := h.at_ i _ a q ea
    refine ⟨vs, r, ?_⟩
    rcases z with ⟨o, z⟩ | z
    · exact .inl (.inr ⟨o, z⟩)
    · exact z H
  · cases e
theorem RelG.tupAt (h : RelG K ι g H) {i : Nat} {ws : List W} {a : Addr} (e : tupAt g i = some ws) (ea : ι[i]? = some a) : ∃ vs, RelL K ι ws vs ∧ SqT K H a vs := by
  unfold M.tupAt at e
  split at e
  · rename_i us q
    cases e
    obtain ⟨vs, r, z⟩ := h.tup q ea
    exact ⟨vs, r, .inl (.inl z)⟩
  · cases e
theorem RelG.seqAt (h : RelG K ι g H) {i : Nat} {ws : List W} {a : Addr} (e : seqAt g i = some ws) (ea : ι[i]? = some a) : ∃ vs, RelL K ι ws vs ∧ (SqL K H a vs ∨ SqT K H a vs) := by
  unfold M.seqAt at e
  split at e
  · rename_i us q
    cases e
    obtain ⟨vs, r, z⟩ := h.lst q ea
    exact ⟨vs, r, .inl (.inl (.inl z))⟩
  · rename_i us q
    cases e
    obtain ⟨vs, r, z⟩ := h.lstAt (i := i) (ws := ws) (by unfold M.lstAt; rw [q]) ea
    exact ⟨vs, r, .inl z⟩
  · rename_i us q
    cases e
    obtain ⟨vs, r, z⟩ := h.tup q ea
    exact ⟨vs, r, .inr (.inl (.inl z))⟩
  · cases e
end
/-! ### frames -/
structure RelS (K : Frag) (ι : List Addr) (ρ : Env) (σ : L2.St) : Prop where
  len : ρ.length = σ.length
  at_ : ∀ (i : Nat) (w : W), ρ[i]? = some (some w) → ∃ v, σ[i]? = some (some v) ∧ RelW K ι w v
theorem RelS.mono {K : Frag} {ι ι' : List Addr} {ρ : Env} {σ : L2.St} (p : Pre ι ι') (h : RelS K ι ρ σ) : RelS K ι' ρ σ := ⟨h.len, fun i w e => by
  obtain ⟨v, e1, r⟩ := h.at_ i w e
  exact ⟨v, e1, r.mono p⟩⟩
theorem RelS.put {K : Frag} {ι : List Addr} {ρ : Env} {σ : L2.St} (h : RelS K ι ρ σ) (i : Nat) {w : W} {v : V} (r : RelW K ι w v) : RelS K ι (ρ.set i (some w)) (σ.set i (some v)) := ⟨by simp [h.len], fun j w' e => by
  by_cases hij : i = j
  · subst hij
    have hl : i < ρ.length := by
      have := (List.getElem?_eq_some_iff.mp e).1
      simpa using this
    rw [List.getElem?_set_self hl] at e
    cases e
    exact ⟨v, List.getElem?_set_self (by rw [← h.len]; exact hl), r⟩
  · rw [List.getElem?_set_ne hij] at e
    rw [List.getElem?_set_ne hij]
    exact h.at_ j w' e⟩
theorem RelS.drop1 {K : Frag} {ι : List Addr} {ρ : Env} {σ : L2.St} (h : RelS K ι ρ σ) (i : Nat) : RelS K ι (ρ.set i none) (σ.set i none) := ⟨by simp [h.len], fun j w' e => by
  by_cases hij : i = j
  · subst hij
    have hl : i < ρ.length := by
      have := (List.getElem?_eq_some_iff.mp e).1
      simpa using this
    rw [List.getElem?_set_self hl] at e
    cases e
  · rw [List.getElem?_set_ne hij] at e
    rw [List.getElem?_set_ne hij]
    exact h.at_ j w' e⟩
theorem RelS.wipe {K : Frag} {ι : List Addr} {ρ : Env} {σ : L2.St} (h : RelS K ι ρ σ) : ∀ vs : List Nat, RelS K ι (wipe ρ vs) (L2.wipe σ vs)
  | [] => h
  | v :: vs => (RelS.wipe h vs).drop1 v
/-! ### what is wanted behind -/
/-- an exception: its class, its own dict -/
def ExR (K : Frag) (ι : List Addr) (e : Ex) (c : Value) (d : Option Addr) (H : Hp) : Prop := c = .ref (He.ga K e.cls) ∧ match e.fld with
  | none => d = none
  | some (f, w) => ∃ dd v, d = some dd ∧ H dd = some (.xd [(f, v)]) ∧ RelW K ι w v
abbrev XW := Value → Option Addr → Hp → Prop
def Aft (K : Frag) (ι : List Addr) (Wx : XW) {α β : Type} (Rl : List Addr → α → β → Prop) (r : Res α) (Q : β → Hp → Prop) : Prop := match r with
  | .ok w g' => ∀ ι' v H', Pre ι ι' → Rl ι' w v → RelG K ι' g' H' → Q v H'
  | .ex e g' => ∀ ι' c d H', Pre ι ι' → ExR K ι' e c d H' → RelG K ι' g' H' → Wx c d H'
  | .bad => False
section
variable {K : Frag} {ι ι' : List Addr} {Wx : XW} {α β γ δ : Type} {Rl : List Addr → α → β → Prop} {Rl' : List Addr → γ → δ → Prop} {r : Res α} {Q Q' : β → Hp → Prop}
theorem Aft.pre (p : Pre ι ι') (h : Aft K ι Wx Rl r Q) : Aft K ι' Wx Rl r Q := by
  cases r with
  | ok w g => exact fun κ v H q => h κ v H (p.trans q)
  | ex e g => exact fun κ c d H q => h κ c d H (p.trans q)
  | bad => exact h
theorem Aft.mono (h : Aft K ι Wx Rl r Q) (hq : ∀ v H, Q v H → Q' v H) : Aft K ι Wx Rl r Q' := by
  cases r with
  | ok w g => exact fun κ v H q a b => hq v H (h κ v H q a b)
  | ex e g => exact h
  | bad => exact h
/-- a thing and the heap have come, and so it goes on -/
def Nxt (K : Frag) (ι : List Addr) (Wx : XW) (Rl : List Addr → α → β → Prop) (Rl' : List Addr → γ → δ → Prop) (f : α → G → Res γ) (Q : δ → Hp → Prop) (x : β) (H : Hp) : Prop :=
  ∃ ι1 w g1, Pre ι ι1 ∧ Rl ι1 w x ∧ RelG K ι1 g1 H ∧ Aft K ι1 Wx Rl' (f w g1) Q
theorem Aft.of_bind {f : α → G → Res γ} {Q : δ → Hp → Prop} (h : Aft K ι Wx Rl' (r.bind f) Q) : Aft K ι Wx Rl r (Nxt K ι Wx Rl Rl' f Q) := by
  cases r with
  | ok w g => exact fun κ v H p a b => ⟨κ, w, g, p, a, b, Aft.pre p h⟩
  | ex e g => exact h
  | bad => exact h
end
/-! ### readings by the small machine -/
def tM (K : Frag) (Wx : WX) (m : ME) : TE := fun σ H Q => ∃ ι ρ g, RelS K ι ρ σ ∧ RelG K ι g H ∧ Aft K ι (fun c d H => Wx c d σ H) (RelW K) (m ρ g) Q
abbrev rEqv {α : Type} : List Addr → α → α → Prop := fun _ a b => a = b
def tMt (K : Frag) (Wx : WX) (m : MT) : TT := fun σ H Q => ∃ ι ρ g, RelS K ι ρ σ ∧ RelG K ι g H ∧ Aft K ι (fun c d H => Wx c d σ H) rEqv (m ρ g) Q
def tMa (K : Frag) (Wx : WX) (m : MA) : TA := fun σ H Q => ∃ ι ρ g, RelS K ι ρ σ ∧ RelG K ι g H ∧ Aft K ι (fun c d H => Wx c d σ H) (RelL K) (m ρ g) Q
def tMo (K : Frag) (Wx : WX) (m : MO) : TO := fun σ H Q => ∃ ι ρ g, RelS K ι ρ σ ∧ RelG K ι g H ∧ Aft K ι (fun c d H => Wx c d σ H) rEqv (m ρ g) Q
def AftS (K : Frag) (ι : List Addr) (Wx : WX) (r : SR) (D : Ends) : Prop := match r with
  | .fl (.nx ρ) g => ∀ ι' σ H, Pre ι ι' → RelS K ι' ρ σ → RelG K ι' g H → D.nx σ H
  | .fl (.rt w) g => ∀ ι' v H, Pre ι ι' → RelW K ι' w v → RelG K ι' g H → D.rt v H
  | .fl (.bk ρ) g => ∀ ι' σ H, Pre ι ι' → RelS K ι' ρ σ → RelG K ι' g H → D.bk σ H
  | .fl (.ct ρ) g => ∀ ι' σ H, Pre ι ι' → RelS K ι' ρ σ → RelG K ι' g H → D.ct σ H
  | .ex e ρ g => ∀ ι' σ c d H, Pre ι ι' → RelS K ι' ρ σ → ExR K ι' e c d H → RelG K ι' g H → Wx c d σ H
  | .bad => False
def tMs (K : Frag) (Wx : WX) (m : MS) : TS := fun D σ H => ∃ ι ρ g, RelS K ι ρ σ ∧ RelG K ι g H ∧ AftS K ι Wx (m ρ g) D
/-- a target's reading (targets raise nothing) -/
def tMg (K : Frag) (t : MG) : TG := fun v σ H Q => ∃ ι w ρ g, RelW K ι w v ∧ RelS K ι ρ σ ∧ RelG K ι g H ∧ Aft K ι (fun _ _ _ => False) (RelS K) (t w ρ g) Q
theorem AftS.pre {K : Frag} {ι ι' : List Addr} {Wx : WX} {r : SR} {D : Ends} (p : Pre ι ι') (h : AftS K ι Wx r D) : AftS K ι' Wx r D := by
  cases r with
  | fl f g => cases f with
    | nx ρ => exact fun κ σ H q => h κ σ H (p.trans q)
    | rt w => exact fun κ σ H q => h κ σ H (p.trans q)
    | bk ρ => exact fun κ σ H q => h κ σ H (p.trans q)
    | ct ρ => exact fun κ σ H q => h κ σ H (p.trans q)
  | ex e ρ g => exact fun κ σ c d H q => h κ σ c d H (p.trans q)
  | bad => exact h
end M
/-! MRules: each construct read by the small machine. -/
namespace M
open PySem PySem.Spec PyProof.Rows L2
theorem pe_imp {X : Cx} {e : Expr} {t t' : TE} (h : PE X e t) (i : ∀ σ H Q, t' σ H Q → t σ H Q) : PE X e t' := ⟨fun pins s σ H Q I q => h.run pins s σ H Q I (i σ H Q q)⟩
theorem pt_imp {X : Cx} {e : Expr} {t t' : TT} (h : PT X e t) (i : ∀ σ H Q, t' σ H Q → t σ H Q) : PT X e t' := ⟨fun pins s σ H Q I q => h.run pins s σ H Q I (i σ H Q q)⟩
theorem pw_imp {X : Cx} {e : Expr} {t t' : TT} (h : PW X e t) (i : ∀ σ H Q, t' σ H Q → t σ H Q) : PW X e t' := ⟨fun wh pins s σ H Q I q => h.run wh pins s σ H Q I (i σ H Q q)⟩
theorem pa_imp {X : Cx} {e : List Expr} {t t' : TA} (h : PA X e t) (i : ∀ σ H Q, t' σ H Q → t σ H Q) : PA X e t' := ⟨fun pos pins s σ H Q I q => h.run pos pins s σ H Q I (i σ H Q q)⟩
theorem po_imp {X : Cx} {e : Option Expr} {t t' : TO} (h : PO X e t) (i : ∀ σ H Q, t' σ H Q → t σ H Q) : PO X e t' := ⟨fun pins s σ H Q I q => h.run pins s σ H Q I (i σ H Q q)⟩
theorem pk_imp {X : Cx} {e : List Keyword} {t t' : TA} (h : PK X e t) (i : ∀ σ H Q, t' σ H Q → t σ H Q) : PK X e t' := ⟨fun pos pins s σ H Q I q => h.run pos pins s σ H Q I (i σ H Q q)⟩
theorem ps_imp {X : Cx} {e : Stmt} {t t' : TS} (h : PS X e t) (i : ∀ D σ H, t' D σ H → t D σ H) : PS X e t' := ⟨fun pins s σ H D I q => h.run pins s σ H D I (i D σ H q)⟩
theorem pss_imp {X : Cx} {e : List Stmt} {t t' : TS} (h : PSs X e t) (i : ∀ D σ H, t' D σ H → t D σ H) : PSs X e t' := ⟨fun pins s σ H D I q => h.run pins s σ H D I (i D σ H q)⟩
theorem pg_imp {X : Cx} {e : Expr} {t t' : TG} (h : PG X e t) (i : ∀ v σ H Q, t' v σ H Q → t v σ H Q) : PG X e t' := ⟨fun pins s σ H v u Q I r q => h.run pins s σ H v u Q I r (i v σ H Q q)⟩
section
variable {X : Cx} {Wx : WX} {pos : Pos} {a b c e : Expr} {ma mb mc m : ME} {es : List Expr} {mas mks : MA}

/-! ### names, constants -/
theorem m_var (i : Nat) {x : PySem.Str} (hN : X.N[i]? = some x := by rfl) (hv : Vis X.env.scope x := by first | exact Or.inl rfl | exact Or.inr (Or.inl rfl) | exact Or.inr (Or.inr rfl)) (hd : (x == ("__debug__" : PySem.Str)) = false := by decide)
    (hcd : (x == ("__classdict__" : PySem.Str)) = false := by decide) : PE X (.Name x pos) (tM X.K Wx (mVar i)) := pe_imp (pe_var hN hv hd hcd) fun σ H Q ⟨ι, ρ, g, hs, hg, h⟩ => by
  unfold mVar at h
  split at h
  · rename_i w q
    obtain ⟨v, e1, r⟩ := hs.at_ i w q
    exact ⟨v, e1, h ι v H (Pre.refl ι) r hg⟩
  · exact h.elim
theorem m_con {w : W} {v : V} (h : PE X e (tC v)) (r : ∀ ι, RelW X.K ι w v) : PE X e (tM X.K Wx (mC w)) := pe_imp h fun σ H Q ⟨ι, ρ, g, hs, hg, h⟩ => h ι v H (Pre.refl ι) (r ι) hg
theorem m_int {i : Int} {j : Nat} : PE X (.Constant (.int i) j pos) (tM X.K Wx (mC (.int i))) := m_con pe_int fun _ => rfl
theorem m_bl {i : Bool} {j : Nat} : PE X (.Constant (.bool i) j pos) (tM X.K Wx (mC (.bl i))) := m_con pe_bl fun _ => rfl
theorem m_non {j : Nat} : PE X (.Constant .none j pos) (tM X.K Wx (mC .non)) := m_con pe_non fun _ => rfl
theorem m_str {x : PySem.Str} {j : Nat} : PE X (.Constant (.str x) j pos) (tM X.K Wx (mC (.str x))) := m_con pe_str fun _ => rfl
/-- a def, a class of the module -/
theorem m_glob {x : PySem.Str} (hm : X.mg x = some (.ref (He.ga X.K x))) (hg : Gl X x := by rfl) (hd : (x == ("__debug__" : PySem.Str)) = false := by decide) : PE X (.Name x pos) (tM X.K Wx (mC (.glob x))) := m_con (pe_glob (v := .ref (He.ga X.K x)) hg hm rfl hd) fun _ => rfl
theorem m_gint {x : PySem.Str} {i : Int} (hm : ∃ t, X.mg x = some (.int i t)) (hg : Gl X x := by rfl) (hd : (x == ("__debug__" : PySem.Str)) = false := by decide) : PE X (.Name x pos) (tM X.K Wx (mC (.int i))) := by
  obtain ⟨t, hm⟩ := hm
  exact m_con (pe_glob (v := .int i) hg hm ⟨t, rfl⟩ hd) fun _ => rfl
theorem m_ty {x : PySem.Str} {n : String} (hm : X.mg x = none) (hv : bootBuiltins x = some (.type n)) (hg : Gl X x := by rfl) (hn : x ≠ "__name__" := by decide) (hd : (x == ("__debug__" : PySem.Str)) = false := by decide) : PE X (.Name x pos) (tM X.K Wx (mC (.ty n))) :=
  m_con (pe_bltn (v := .ty n) hg hm hv rfl hn hd) fun _ => rfl
/-! ### operators by values -/
def rM1 (K : Frag) (f : W → G → Res W) : V → Hp → VK → Prop := fun x H Q => ∃ (Wx : XW) (ι : List Addr) (wx : W) (g : G), RelW K ι wx x ∧ RelG K ι g H ∧ Aft K ι Wx (RelW K) (f wx g) Q
def rM2 (K : Frag) (f : W → W → G → Res W) : R2 := fun x y H Q => ∃ (Wx : XW) (ι : List Addr) (wx wy : W) (g : G), RelW K ι wx x ∧ RelW K ι wy y ∧ RelG K ι g H ∧ Aft K ι Wx (RelW K) (f wx wy g) Q
def rMc (K : Frag) (f : Fn) : List V → Hp → VK → Prop := fun xs H Q => ∃ (Wx : XW) (ι : List Addr) (ws : List W) (g : G), RelL K ι ws xs ∧ RelG K ι g H ∧ Aft K ι Wx (RelW K) (f ws g) Q
def rMm (K : Frag) (f : W → List W → G → Res W) : V → List V → Hp → VK → Prop := fun x xs H Q => ∃ (Wx : XW) (ι : List Addr) (w : W) (ws : List W) (g : G), RelW K ι w x ∧ RelL K ι ws xs ∧ RelG K ι g H ∧ Aft K ι Wx (RelW K) (f w ws g) Q
/-- one part, then the rest -/
theorem go1 {K : Frag} {α β : Type} {Rl : List Addr → α → β → Prop} {f : W → G → Res α} {σ : L2.St} {H : Hp} {Q : β → Hp → Prop} {ι : List Addr} {ρ : Env} {g : G} (hs : RelS K ι ρ σ) (hg : RelG K ι g H)
    (h : Aft K ι (fun c d H => Wx c d σ H) Rl ((ma ρ g).bind f) Q) : tM K Wx ma σ H (Nxt K ι (fun c d H => Wx c d σ H) (RelW K) Rl f Q) := ⟨ι, ρ, g, hs, hg, h.of_bind⟩
theorem tM_mono {K : Frag} {σ : L2.St} {H : Hp} {Q Q' : VK} (h : tM K Wx m σ H Q) (q : ∀ v H, Q v H → Q' v H) : tM K Wx m σ H Q' := by
  obtain ⟨ι, ρ, g, hs, hg, h⟩ := h
  exact ⟨ι, ρ, g, hs, hg, h.mono q⟩
theorem tMt_mono {K : Frag} {m : MT} {σ : L2.St} {H : Hp} {Q Q' : Bool → Hp → Prop} (h : tMt K Wx m σ H Q) (q : ∀ v H, Q v H → Q' v H) : tMt K Wx m σ H Q' := by
  obtain ⟨ι, ρ, g, hs, hg, h⟩ := h
  exact ⟨ι, ρ, g, hs, hg, h.mono q⟩
theorem tMa_mono {K : Frag} {m : MA} {σ : L2.St} {H : Hp} {Q Q' : List V → Hp → Prop} (h : tMa K Wx m σ H Q) (q : ∀ v H, Q v H → Q' v H) : tMa K Wx m σ H Q' := by
  obtain ⟨ι, ρ, g, hs, hg, h⟩ := h
  exact ⟨ι, ρ, g, hs, hg, h.mono q⟩
theorem op2_imp {K : Frag} {f : W → W → G → Res W} {σ : L2.St} {H : Hp} {Q : VK} (h : tM K Wx (mOp2 f ma mb) σ H Q) : tOp (rM2 K f) (tM K Wx ma) (tM K Wx mb) σ H Q := by
  obtain ⟨ι, ρ, g, hs, hg, h⟩ := h
  refine tM_mono (go1 hs hg h) fun x H1 ⟨ι1, w1, g1, p1, r1, hg1, h1⟩ => ?_
  refine tM_mono (go1 (hs.mono p1) hg1 h1) fun y H2 ⟨ι2, w2, g2, p2, r2, hg2, h2⟩ => ?_
  exact ⟨_, ι2, w1, w2, g2, r1.mono p2, r2, hg2, h2⟩
theorem op1_imp {K : Frag} {f : W → G → Res W} {σ : L2.St} {H : Hp} {Q : VK} (h : tM K Wx (mOp1 f ma) σ H Q) : tM K Wx ma σ H fun x H1 => rM1 K f x H1 Q := by
  obtain ⟨ι, ρ, g, hs, hg, h⟩ := h
  exact tM_mono (go1 hs hg h) fun x H1 ⟨ι1, w1, g1, p1, r1, hg1, h1⟩ => ⟨_, ι1, w1, g1, r1, hg1, h1⟩
theorem m_bin {op : Operator} {f : W → W → G → Res W} (ho : OpR X (binaryOp op) (rM2 X.K f)) (ha : PE X a (tM X.K Wx ma)) (hb : PE X b (tM X.K Wx mb)) : PE X (.BinOp a op b pos) (tM X.K Wx (mOp2 f ma mb)) := pe_imp (pe_op ho ha hb) fun _ _ _ h => op2_imp h
theorem m_cmp {op : CmpOp} {f : W → W → G → Res W} (ho : OpR X (compareOp op) (rM2 X.K f)) (ha : PE X a (tM X.K Wx ma)) (hb : PE X b (tM X.K Wx mb)) (hm : behindInMarks op b = false := by first | exact nomark _ | rfl) : PE X (.Compare a [op] [b] pos) (tM X.K Wx (mOp2 f ma mb)) :=
  pe_imp (pe_cmpR ho ha hb hm) fun _ _ _ h => op2_imp h
theorem m_un {op : UnaryOp} {f : W → G → Res W} (ho : UnR X (unaryOp op) (rM1 X.K f)) (ha : PE X a (tM X.K Wx ma)) : PE X (.UnaryOp op a pos) (tM X.K Wx (mOp1 f ma)) := pe_imp (pe_un ho ha) fun _ _ _ h => op1_imp h
theorem relW_non {K : Frag} {ι : List Addr} {w : W} {v : V} (r : RelW K ι w v) : decide (w = .non) = decide (v = .non) := by
  cases w with
  | non => subst r; rfl
  | bl b => subst r; rfl
  | int i => subst r; rfl
  | str x => subst r; rfl
  | ref n => obtain ⟨a, _, rfl⟩ := r; rfl
  | glob x => subst r; rfl
  | ty n => subst r; rfl
theorem m_isN {j : Nat} {p : Pos} (ha : PE X a (tM X.K Wx ma)) : PE X (.Compare a [.Is] [.Constant .none j p] pos) (tM X.K Wx (mOp1 opIsN ma)) := pe_imp (pe_cmp (pc_isN ha) rfl) fun σ H Q h => by
  obtain ⟨ι, ρ, g, hs, hg, h⟩ := h
  refine tM_mono (go1 hs hg h) fun x H1 ⟨ι1, w1, g1, p1, r1, hg1, h1⟩ => ?_
  exact h1 ι1 _ H1 (Pre.refl _) (congrArg V.bl (relW_non r1).symm) hg1
theorem m_notN {j : Nat} {p : Pos} (ha : PE X a (tM X.K Wx ma)) : PE X (.Compare a [.IsNot] [.Constant .none j p] pos) (tM X.K Wx (mOp1 opNotN ma)) := pe_imp (pe_cmp (pc_notN ha) rfl) fun σ H Q h => by
  obtain ⟨ι, ρ, g, hs, hg, h⟩ := h
  refine tM_mono (go1 hs hg h) fun x H1 ⟨ι1, w1, g1, p1, r1, hg1, h1⟩ => ?_
  exact h1 ι1 _ H1 (Pre.refl _) (congrArg V.bl (congrArg (fun b => !b) (relW_non r1).symm)) hg1
theorem m_chain {op op' : CmpOp} {f f' : W → W → G → Res W} (ho : OpR X (compareOp op) (rM2 X.K f)) (ho' : OpR X (compareOp op') (rM2 X.K f')) (ha : PE X a (tM X.K Wx ma)) (hb : PE X b (tM X.K Wx mb)) (hc : PE X c (tM X.K Wx mc))
    (hm : lastMarks [op, op'] [b, c] = false := by with_unfolding_all rfl) : PE X (.Compare a [op, op'] [b, c] pos) (tM X.K Wx (mChain f f' ma mb mc)) := pe_imp (pe_chain ho ho' ha hb hc hm) fun σ H Q h => by
  obtain ⟨ι, ρ, g, hs, hg, h⟩ := h
  refine tM_mono (go1 hs hg h) fun x H1 ⟨ι1, w1, g1, p1, r1, hg1, h1⟩ => ?_
  refine tM_mono (go1 (hs.mono p1) hg1 h1) fun y H2 ⟨ι2, w2, g2, p2, r2, hg2, h2⟩ => ?_
  refine ⟨_, ι2, w1, w2, g2, r1.mono p2, r2, hg2, (Aft.of_bind h2).mono fun z H3 ⟨ι3, w3, g3, p3, r3, hg3, h3⟩ => ?_⟩
  cases w3 with
  | bl k =>
    subst r3
    refine ⟨k, rfl, ?_⟩
    cases k with
    | true =>
      rw [if_pos rfl]
      refine tM_mono (go1 (hs.mono ((p1.trans p2).trans p3)) hg3 h3) fun y H4 ⟨ι4, w4, g4, p4, r4, hg4, h4⟩ => ?_
      exact ⟨_, ι4, w2, w4, g4, r2.mono (p3.trans p4), r4, hg4, h4⟩
    | false =>
      rw [if_neg Bool.false_ne_true]
      exact h3 ι3 _ H3 (Pre.refl _) rfl hg3
  | _ => exact h3.elim
/-! ### tests -/
theorem m_tVal (ha : PE X a (tM X.K Wx ma)) (he : ∀ whole, isTrue a X.env whole = (do let v ← whole; standAt a.pos; holding [v] (truthy v)) := by intro _; rfl) : PT X a (tMt X.K Wx (tVal ma)) := pt_imp (pt_val ha he) fun σ H Q h => by
  obtain ⟨ι, ρ, g, hs, hg, h⟩ := h
  refine tM_mono (go1 hs hg h) fun x H1 ⟨ι1, w1, g1, p1, r1, hg1, h1⟩ => ?_
  cases w1 with
  | bl k =>
    subst r1
    exact ⟨k, rfl, h1 ι1 _ H1 (Pre.refl _) rfl hg1⟩
  | _ => exact h1.elim
/-- a comparison as a test -/
theorem m_tCmp {op : CmpOp} {f : W → W → G → Res W} (ho : OpR X (compareOp op) (rM2 X.K f)) (ha : PE X a (tM X.K Wx ma)) (hb : PE X b (tM X.K Wx mb)) (hm : behindInMarks op b = false := by first | exact nomark _ | rfl) : PT X (.Compare a [op] [b] pos) (tMt X.K Wx (tVal (mOp2 f ma mb))) :=
  pt_imp (pt_cmpR ho ha hb hm) fun σ H Q h => by
    obtain ⟨ι, ρ, g, hs, hg, h⟩ := h
    refine op2_imp (tM_mono (go1 hs hg h) fun x H1 ⟨ι1, w1, g1, p1, r1, hg1, h1⟩ => ?_)
    cases w1 with
    | bl k =>
      subst r1
      exact ⟨k, rfl, h1 ι1 _ H1 (Pre.refl _) rfl hg1⟩
    | _ => exact h1.elim
theorem m_tChain {op op' : CmpOp} {f f' : W → W → G → Res W} (ho : OpR X (compareOp op) (rM2 X.K f)) (ho' : OpR X (compareOp op') (rM2 X.K f')) (ha : PE X a (tM X.K Wx ma)) (hb : PE X b (tM X.K Wx mb)) (hc : PE X c (tM X.K Wx mc))
    (hm : lastMarks [op, op'] [b, c] = false := by with_unfolding_all rfl) : PT X (.Compare a [op, op'] [b, c] pos) (tMt X.K Wx (tVal (mChain f f' ma mb mc))) := pt_imp (pt_chain ho ho' ha hb hc hm) fun σ H Q h => by
  obtain ⟨ι, ρ, g, hs, hg, h⟩ := h
  have h := tM_mono (go1 (Wx := Wx) hs hg h) (fun x H1 q => q)
  obtain ⟨ι, ρ, g, hs, hg, h⟩ := h
  refine tM_mono (go1 hs hg h) fun x H1 ⟨ι1, w1, g1, p1, r1, hg1, h1⟩ => ?_
  refine tM_mono (go1 (hs.mono p1) hg1 h1) fun y H2 ⟨ι2, w2, g2, p2, r2, hg2, h2⟩ => ?_
  refine ⟨_, ι2, w1, w2, g2, r1.mono p2, r2, hg2, (Aft.of_bind h2).mono fun z H3 ⟨ι3, w3, g3, p3, r3, hg3, h3⟩ => ?_⟩
  have fin : ∀ (w : W) (v : V) (H' : Hp) (κ : List Addr) (g' : G), RelW X.K κ w v → RelG X.K κ g' H' → Nxt X.K ‹_› (fun c d H => Wx c d σ H) (RelW X.K) rEqv (fun x g1 => match x with
      | .bl b => .ok b g1
      | _ => .bad) Q v H' → ∃ k, v = .bl k ∧ Q k H' := fun w v H' κ g' r hg' ⟨ι5, w5, g5, p5, r5, hg5, h5⟩ => by
    cases w5 with
    | bl k =>
      subst r5
      exact ⟨k, rfl, h5 ι5 _ H' (Pre.refl _) rfl hg5⟩
    | _ => exact h5.elim
  cases w3 with
  | bl k =>
    subst r3
    refine ⟨k, rfl, ?_⟩
    cases k with
    | true =>
      rw [if_pos rfl]
      refine tM_mono (go1 (hs.mono ((p1.trans p2).trans p3)) hg3 h3) fun y H4 ⟨ι4, w4, g4, p4, r4, hg4, h4⟩ => ?_
      refine ⟨_, ι4, w2, w4, g4, r2.mono (p3.trans p4), r4, hg4, h4.mono fun v H' q => ?_⟩
      obtain ⟨ι5, w5, g5, p5, r5, hg5, h5⟩ := q
      cases w5 with
      | bl k =>
        subst r5
        exact ⟨k, rfl, h5 ι5 _ H' (Pre.refl _) rfl hg5⟩
      | _ => exact h5.elim
    | false =>
      rw [if_neg Bool.false_ne_true]
      obtain ⟨ι5, w5, g5, p5, r5, hg5, h5⟩ := h3 ι3 _ H3 (Pre.refl _) rfl hg3
      cases w5 with
      | bl k =>
        have e : V.bl false = V.bl k := r5
        cases e
        exact ⟨false, rfl, h5 ι5 _ H3 (Pre.refl _) rfl hg5⟩
      | _ => exact h5.elim
  | _ => exact h3.elim
theorem goT {K : Frag} {α β : Type} {Rl : List Addr → α → β → Prop} {f : Bool → G → Res α} {t : MT} {σ : L2.St} {H : Hp} {Q : β → Hp → Prop} {ι : List Addr} {ρ : Env} {g : G} (hs : RelS K ι ρ σ) (hg : RelG K ι g H)
    (h : Aft K ι (fun c d H => Wx c d σ H) Rl ((t ρ g).bind f) Q) : tMt K Wx t σ H (Nxt K ι (fun c d H => Wx c d σ H) rEqv Rl f Q) := ⟨ι, ρ, g, hs, hg, h.of_bind⟩
variable {ta tb : MT} {rest : List Expr}
theorem m_tNot (ha : PT X a (tMt X.K Wx ta)) : PT X (.UnaryOp .Not a pos) (tMt X.K Wx (tNot ta)) := pt_imp (pt_not ha) fun σ H Q h => by
  obtain ⟨ι, ρ, g, hs, hg, h⟩ := h
  refine tMt_mono (goT hs hg h) fun x H1 ⟨ι1, w1, g1, p1, r1, hg1, h1⟩ => ?_
  subst r1
  exact h1 ι1 _ H1 (Pre.refl _) rfl hg1
theorem m_and1 (ha : PT X a (tMt X.K Wx ta)) : PW X (.BoolOp .And [a] pos) (tMt X.K Wx ta) := pw_and1 ha
theorem m_or1 (ha : PT X a (tMt X.K Wx ta)) : PW X (.BoolOp .Or [a] pos) (tMt X.K Wx ta) := pw_or1 ha
theorem m_tAnd (ha : PT X a (tMt X.K Wx ta)) (hb : PW X (.BoolOp .And (b :: rest) pos) (tMt X.K Wx tb)) : PW X (.BoolOp .And (a :: b :: rest) pos) (tMt X.K Wx (M.tAnd ta tb)) := pw_imp (pw_and ha hb) fun σ H Q h => by
  obtain ⟨ι, ρ, g, hs, hg, h⟩ := h
  refine tMt_mono (goT hs hg h) fun x H1 ⟨ι1, w1, g1, p1, r1, hg1, h1⟩ => ?_
  subst r1
  cases w1 with
  | true =>
    rw [if_pos rfl]
    exact ⟨ι1, ρ, g1, hs.mono p1, hg1, h1⟩
  | false =>
    rw [if_neg Bool.false_ne_true]
    exact h1 ι1 _ H1 (Pre.refl _) rfl hg1
theorem m_tOr (ha : PT X a (tMt X.K Wx ta)) (hb : PW X (.BoolOp .Or (b :: rest) pos) (tMt X.K Wx tb)) : PW X (.BoolOp .Or (a :: b :: rest) pos) (tMt X.K Wx (M.tOr ta tb)) := pw_imp (pw_or ha hb) fun σ H Q h => by
  obtain ⟨ι, ρ, g, hs, hg, h⟩ := h
  refine tMt_mono (goT hs hg h) fun x H1 ⟨ι1, w1, g1, p1, r1, hg1, h1⟩ => ?_
  subst r1
  cases w1 with
  | true =>
    rw [if_pos rfl]
    exact h1 ι1 _ H1 (Pre.refl _) rfl hg1
  | false =>
    rw [if_neg Bool.false_ne_true]
    exact ⟨ι1, ρ, g1, hs.mono p1, hg1, h1⟩
/-! ### and, or, not as values; if as an expression -/
theorem m_one {op : BoolOp} (h : PE X a (tM X.K Wx ma)) : PE X (.BoolOp op [a] pos) (tM X.K Wx ma) := pe_one h
theorem m_and (ha : PE X a (tM X.K Wx ma)) (hb : PE X (.BoolOp .And (b :: rest) pos) (tM X.K Wx mb)) : PE X (.BoolOp .And (a :: b :: rest) pos) (tM X.K Wx (mAnd ma mb)) := pe_imp (pe_and ha hb) fun σ H Q h => by
  obtain ⟨ι, ρ, g, hs, hg, h⟩ := h
  refine tM_mono (go1 hs hg h) fun x H1 ⟨ι1, w1, g1, p1, r1, hg1, h1⟩ => ?_
  cases w1 with
  | bl k =>
    subst r1
    refine ⟨k, rfl, ?_⟩
    cases k with
    | true =>
      rw [if_pos rfl]
      exact ⟨ι1, ρ, g1, hs.mono p1, hg1, h1⟩
    | false =>
      rw [if_neg Bool.false_ne_true]
      exact h1 ι1 _ H1 (Pre.refl _) rfl hg1
  | _ => exact h1.elim
theorem m_or (ha : PE X a (tM X.K Wx ma)) (hb : PE X (.BoolOp .Or (b :: rest) pos) (tM X.K Wx mb)) : PE X (.BoolOp .Or (a :: b :: rest) pos) (tM X.K Wx (mOr ma mb)) := pe_imp (pe_or ha hb) fun σ H Q h => by
  obtain ⟨ι, ρ, g, hs, hg, h⟩ := h
  refine tM_mono (go1 hs hg h) fun x H1 ⟨ι1, w1, g1, p1, r1, hg1, h1⟩ => ?_
  cases w1 with
  | bl k =>
    subst r1
    refine ⟨k, rfl, ?_⟩
    cases k with
    | true =>
      rw [if_pos rfl]
      exact h1 ι1 _ H1 (Pre.refl _) rfl hg1
    | false =>
      rw [if_neg Bool.false_ne_true]
      exact ⟨ι1, ρ, g1, hs.mono p1, hg1, h1⟩
  | _ => exact h1.elim
theorem m_not (ha : PE X a (tM X.K Wx ma)) : PE X (.UnaryOp .Not a pos) (tM X.K Wx (mNot ma)) := pe_imp (pe_not ha) fun σ H Q h => by
  obtain ⟨ι, ρ, g, hs, hg, h⟩ := h
  refine tM_mono (go1 hs hg h) fun x H1 ⟨ι1, w1, g1, p1, r1, hg1, h1⟩ => ?_
  cases w1 with
  | bl k =>
    subst r1
    exact ⟨k, rfl, h1 ι1 _ H1 (Pre.refl _) rfl hg1⟩
  | _ => exact h1.elim
theorem m_ifE (hc : PT X c (tMt X.K Wx ta)) (ha : PE X a (tM X.K Wx ma)) (hb : PE X b (tM X.K Wx mb)) : PE X (.IfExp c a b pos) (tM X.K Wx (mIf ta ma mb)) := pe_imp (pe_ifExp hc ha hb) fun σ H Q h => by
  obtain ⟨ι, ρ, g, hs, hg, h⟩ := h
  refine tMt_mono (goT hs hg h) fun x H1 ⟨ι1, w1, g1, p1, r1, hg1, h1⟩ => ?_
  subst r1
  cases w1 with
  | true =>
    rw [if_pos rfl]
    exact ⟨ι1, ρ, g1, hs.mono p1, hg1, h1⟩
  | false =>
    rw [if_neg Bool.false_ne_true]
    exact ⟨ι1, ρ, g1, hs.mono p1, hg1, h1⟩
/-! ### arguments, displays -/
theorem m_anil : PA X [] (tMa X.K Wx aNil) := pa_imp pa_nil fun σ H Q ⟨ι, ρ, g, hs, hg, h⟩ => h ι _ H (Pre.refl _) .nil hg
theorem goA {K : Frag} {α β : Type} {Rl : List Addr → α → β → Prop} {f : List W → G → Res α} {t : MA} {σ : L2.St} {H : Hp} {Q : β → Hp → Prop} {ι : List Addr} {ρ : Env} {g : G} (hs : RelS K ι ρ σ) (hg : RelG K ι g H)
    (h : Aft K ι (fun c d H => Wx c d σ H) Rl ((t ρ g).bind f) Q) : tMa K Wx t σ H (Nxt K ι (fun c d H => Wx c d σ H) (RelL K) Rl f Q) := ⟨ι, ρ, g, hs, hg, h.of_bind⟩
theorem acons_imp {K : Frag} {σ : L2.St} {H : Hp} {Q : List V → Hp → Prop} (h : tMa K Wx (aCons ma mas) σ H Q) : tCons (tM K Wx ma) (tMa K Wx mas) σ H Q := by
  obtain ⟨ι, ρ, g, hs, hg, h⟩ := h
  refine tM_mono (go1 hs hg h) fun x H1 ⟨ι1, w1, g1, p1, r1, hg1, h1⟩ => ?_
  refine tMa_mono (goA (hs.mono p1) hg1 h1) fun xs H2 ⟨ι2, w2, g2, p2, r2, hg2, h2⟩ => ?_
  exact h2 ι2 _ H2 (Pre.refl _) (.cons (r1.mono p2) r2) hg2
theorem m_acons (ha : PE X e (tM X.K Wx ma)) (hr : PA X es (tMa X.K Wx mas)) (hs : starEach (e :: es) X.env = (false, eval e X.env) :: starEach es X.env := by rfl) : PA X (e :: es) (tMa X.K Wx (aCons ma mas)) := pa_imp (pa_cons ha hr hs) fun _ _ _ h => acons_imp h
theorem m_lst (h : PA X es (tMa X.K Wx mas)) : PE X (.List es pos) (tM X.K Wx (mLst mas)) := pe_imp (pe_lst h) fun σ H Q h => by
  obtain ⟨ι, ρ, g, hs, hg, h⟩ := h
  refine tMa_mono (goA hs hg h) fun x H1 ⟨ι1, w1, g1, p1, r1, hg1, h1⟩ => ?_
  dsimp only at h1
  split at h1
  · rename_i hz
    refine ⟨by rw [← r1.length, sizeLine_eq]; exact hz, fun p hp => ?_⟩
    exact h1 (ι1 ++ [p]) _ _ (Pre.snoc _ _) (hg1.newW p) (hg1.new hp rfl ⟨_, r1.mono (Pre.snoc _ _), upd_same⟩)
  · exact h1.elim
theorem m_tup {j : Nat} (h : PA X es (tMa X.K Wx mas)) : PE X (.Tuple es j pos) (tM X.K Wx (mTup mas)) := pe_imp (pe_tup h) fun σ H Q h => by
  obtain ⟨ι, ρ, g, hs, hg, h⟩ := h
  refine tMa_mono (goA hs hg h) fun x H1 ⟨ι1, w1, g1, p1, r1, hg1, h1⟩ => ?_
  dsimp only at h1
  split at h1
  · rename_i hz
    refine ⟨by rw [← r1.length, sizeLine_eq]; exact hz, fun p hp => ?_⟩
    exact h1 (ι1 ++ [p]) _ _ (Pre.snoc _ _) (hg1.newW p) (hg1.new hp rfl ⟨_, r1.mono (Pre.snoc _ _), upd_same⟩)
  · exact h1.elim
end
end M
/-! MOps: the operators, built-in functions and methods by values. -/
namespace M
open PySem PySem.Spec PyProof.Rows L2
theorem sz_eq {n : Nat} (h : n ≤ SZ) : n ≤ sizeLine := by rw [sizeLine_eq]; exact h
theorem sz_lt {n : Nat} (h : n < SZ) : n < sizeLine := by rw [sizeLine_eq]; exact h
theorem ints_rel {K : Frag} {ι : List Addr} : ∀ {ws : List W} {ns : List Int} {vs : List V}, M.intsL ws = some ns → RelL K ι ws vs → vs = ns.map V.int
  | [], ns, _, e, .nil => by
    have : ns = [] := by
      unfold M.intsL at e
      exact (Option.some.inj e).symm
    subst this
    rfl
  | w :: ws, ns, _, e, .cons r t => by
    cases w with
    | int i =>
      unfold M.intsL at e
      split at e
      · rename_i l q
        cases e
        have ih := ints_rel q t
        rw [ih]
        cases (show _ = V.int i from r)
        rfl
      · cases e
    | _ => unfold M.intsL at e; cases e
theorem bools_rel {K : Frag} {ι : List Addr} : ∀ {ws : List W} {ns : List Bool} {vs : List V}, bools ws = some ns → RelL K ι ws vs → vs = ns.map V.bl
  | [], ns, _, e, .nil => by
    have : ns = [] := by
      unfold bools at e
      exact (Option.some.inj e).symm
    subst this
    rfl
  | w :: ws, ns, _, e, .cons r t => by
    cases w with
    | bl i =>
      unfold bools at e
      split at e
      · rename_i l q
        cases e
        have ih := bools_rel q t
        rw [ih]
        cases (show _ = V.bl i from r)
        rfl
      · cases e
    | _ => unfold bools at e; cases e
theorem rel_ints {K : Frag} {ι : List Addr} : ∀ ns : List Int, RelL K ι (ns.map W.int) (ns.map V.int)
  | [] => .nil
  | n :: ns => .cons rfl (rel_ints ns)
theorem isort_eq {ns' ns : List Int} (p : ns'.Perm ns) (s : ns'.Pairwise (· ≤ ·)) : ns' = isort ns := by
  refine List.Perm.eq_of_pairwise (le := fun a b : Int => a ≤ b) (fun a b _ _ h1 h2 => Int.le_antisymm h1 h2) s ?_ (p.trans (List.mergeSort_perm ns _).symm)
  have h := List.pairwise_mergeSort (le := fun a b : Int => decide (a ≤ b)) (by intro a b c h1 h2; simp at *; omega) (by intro a b; simp; omega) ns
  exact h.imp fun h => by simpa using h
section
variable {X : Cx}
theorem o_add : OpR X (binaryOp .Add) (rM2 X.K opAdd) := by
  intro pins s σ H x y v u Q I rx ry ⟨Wx, ι, wx, wy, g, hx, hy, hg, h⟩
  unfold opAdd at h
  split at h
  · cases hx; cases hy
    exact op_add pins s σ H _ _ v u Q I rx ry ⟨_, _, rfl, rfl, h ι _ H (Pre.refl _) rfl hg⟩
  · cases hx; cases hy
    split at h
    · rename_i hz
      exact op_add_str pins s σ H _ _ v u Q I rx ry ⟨_, _, rfl, rfl, sz_eq hz, h ι _ H (Pre.refl _) rfl hg⟩
    · exact h.elim
  · obtain ⟨a', ea, rfl⟩ := hx
    obtain ⟨b', eb, rfl⟩ := hy
    split at h
    · rename_i xs ys q1 q2
      split at h
      · rename_i hz
        obtain ⟨vs, r1, h1⟩ := hg.lst q1 ea
        obtain ⟨us, r2, h2⟩ := hg.lst q2 eb
        refine op_cat pins s σ H _ _ v u Q I rx ry ⟨_, _, _, _, rfl, rfl, h1, h2, by rw [← r1.length, ← r2.length]; exact sz_eq hz, fun p hp => ?_⟩
        exact h (ι ++ [p]) _ _ (Pre.snoc _ _) (hg.newW p) (hg.new hp rfl ⟨_, (r1.append r2).mono (Pre.snoc _ _), upd_same⟩)
      · exact h.elim
    · exact h.elim
  · exact h.elim
theorem o_sub : OpR X (binaryOp .Sub) (rM2 X.K opSub) := by
  intro pins s σ H x y v u Q I rx ry ⟨Wx, ι, wx, wy, g, hx, hy, hg, h⟩
  unfold opSub at h
  split at h
  · cases hx; cases hy
    exact op_sub pins s σ H _ _ v u Q I rx ry ⟨_, _, rfl, rfl, h ι _ H (Pre.refl _) rfl hg⟩
  · exact h.elim
theorem o_mul : OpR X (binaryOp .Mult) (rM2 X.K opMul) := by
  intro pins s σ H x y v u Q I rx ry ⟨Wx, ι, wx, wy, g, hx, hy, hg, h⟩
  unfold opMul at h
  split at h
  · cases hx; cases hy
    split at h
    · rename_i hz
      exact op_mulW pins s σ H _ _ v u Q I rx ry ⟨_, _, rfl, rfl, hz, h ι _ H (Pre.refl _) rfl hg⟩
    · exact h.elim
  · obtain ⟨a', ea, rfl⟩ := hx
    cases hy
    split at h
    · rename_i xs q1
      split at h
      · rename_i hz
        obtain ⟨vs, r1, h1⟩ := hg.lst q1 ea
        refine op_rep pins s σ H _ _ v u Q I rx ry ⟨_, _, _, rfl, rfl, h1, hz.1, hz.2.1, by rw [← r1.length]; exact sz_eq hz.2.2, fun p hp => ?_⟩
        exact h (ι ++ [p]) _ _ (Pre.snoc _ _) (hg.newW p) (hg.new hp rfl ⟨_, (r1.rep _).mono (Pre.snoc _ _), upd_same⟩)
      · exact h.elim
    · exact h.elim
  · exact h.elim
theorem o_div : OpR X (binaryOp .FloorDiv) (rM2 X.K opDiv) := by
  intro pins s σ H x y v u Q I rx ry ⟨Wx, ι, wx, wy, g, hx, hy, hg, h⟩
  unfold opDiv at h
  split at h
  · cases hx; cases hy
    split at h
    · rename_i hz
      exact op_fdivW pins s σ H _ _ v u Q I rx ry ⟨_, _, rfl, rfl, hz, h ι _ H (Pre.refl _) rfl hg⟩
    · exact h.elim
  · exact h.elim
theorem o_mod : OpR X (binaryOp .Mod) (rM2 X.K opMod) := by
  intro pins s σ H x y v u Q I rx ry ⟨Wx, ι, wx, wy, g, hx, hy, hg, h⟩
  unfold opMod at h
  split at h
  · cases hx; cases hy
    split at h
    · rename_i hz
      exact op_mod pins s σ H _ _ v u Q I rx ry ⟨_, _, rfl, rfl, hz, h ι _ H (Pre.refl _) rfl hg⟩
    · exact h.elim
  · exact h.elim
theorem bits_of_lg {i : Int} {n : Nat} (h : lg i < n) : Builtin.Int.intBits i ≤ n := by
  have b : Builtin.Int.intBits i ≤ i.natAbs.log2 + 1 := by
    unfold Builtin.Int.intBits
    split <;> omega
  unfold lg at h
  omega
theorem op_powW : OpR X (binaryOp .Pow) (rI (fun i j => 0 ≤ j ∧ j ≤ 1000 ∧ lg i < 4096) fun i j => .int (i ^ j.toNat)) := opI fun i j _ _ _ _ _ hc q => pow_int hc.1 (by
  have h1 := bits_of_lg hc.2.2
  have h2 : (Builtin.Int.intBits i : Int) * j ≤ 4096 * 1000 := Int.mul_le_mul (by omega) hc.2.1 hc.1 (by omega)
  have h3 : (2 : Int) ^ 27 = 134217728 := by decide
  omega) q
theorem o_pow : OpR X (binaryOp .Pow) (rM2 X.K opPow) := by
  intro pins s σ H x y v u Q I rx ry ⟨Wx, ι, wx, wy, g, hx, hy, hg, h⟩
  unfold opPow at h
  split at h
  · cases hx; cases hy
    split at h
    · rename_i hz
      exact op_powW pins s σ H _ _ v u Q I rx ry ⟨_, _, rfl, rfl, hz, h ι _ H (Pre.refl _) rfl hg⟩
    · exact h.elim
  · exact h.elim
theorem o_neg : UnR X (unaryOp .USub) (rM1 X.K opNeg) := by
  intro pins s σ H x v Q I rx ⟨Wx, ι, wx, g, hx, hg, h⟩
  unfold opNeg at h
  split at h
  · cases hx
    exact un_neg pins s σ H _ v Q I rx ⟨_, rfl, h ι _ H (Pre.refl _) rfl hg⟩
  · exact h.elim
theorem o_lt : OpR X (compareOp .Lt) (rM2 X.K opLt) := by
  intro pins s σ H x y v u Q I rx ry ⟨Wx, ι, wx, wy, g, hx, hy, hg, h⟩
  unfold opLt at h
  split at h
  · cases hx; cases hy
    exact op_lt pins s σ H _ _ v u Q I rx ry ⟨_, _, rfl, rfl, h ι _ H (Pre.refl _) rfl hg⟩
  · exact h.elim
theorem o_le : OpR X (compareOp .LtE) (rM2 X.K opLe) := by
  intro pins s σ H x y v u Q I rx ry ⟨Wx, ι, wx, wy, g, hx, hy, hg, h⟩
  unfold opLe at h
  split at h
  · cases hx; cases hy
    exact op_le pins s σ H _ _ v u Q I rx ry ⟨_, _, rfl, rfl, h ι _ H (Pre.refl _) rfl hg⟩
  · exact h.elim
theorem o_gt : OpR X (compareOp .Gt) (rM2 X.K opGt) := by
  intro pins s σ H x y v u Q I rx ry ⟨Wx, ι, wx, wy, g, hx, hy, hg, h⟩
  unfold opGt at h
  split at h
  · cases hx; cases hy
    exact op_gt pins s σ H _ _ v u Q I rx ry ⟨_, _, rfl, rfl, h ι _ H (Pre.refl _) rfl hg⟩
  · exact h.elim
theorem o_ge : OpR X (compareOp .GtE) (rM2 X.K opGe) := by
  intro pins s σ H x y v u Q I rx ry ⟨Wx, ι, wx, wy, g, hx, hy, hg, h⟩
  unfold opGe at h
  split at h
  · cases hx; cases hy
    exact op_ge pins s σ H _ _ v u Q I rx ry ⟨_, _, rfl, rfl, h ι _ H (Pre.refl _) rfl hg⟩
  · exact h.elim
/-! data as a whole -/
mutual
theorem eqv_toPy : ∀ d e : D, PyData.eqv (toPy d) (toPy e) = eqD d e
  | .non, .non | .non, .bl _ | .non, .int _ | .non, .str _ | .non, .lst _ | .non, .tup _ => by simp [toPy, PyData.eqv, eqD]
  | .bl _, .non | .bl _, .bl _ | .bl _, .int _ | .bl _, .str _ | .bl _, .lst _ | .bl _, .tup _ => by simp [toPy, PyData.eqv, eqD]
  | .int _, .non | .int _, .bl _ | .int _, .int _ | .int _, .str _ | .int _, .lst _ | .int _, .tup _ => by simp [toPy, PyData.eqv, eqD]
  | .str _, .non | .str _, .bl _ | .str _, .int _ | .str _, .str _ | .str _, .lst _ | .str _, .tup _ => by simp [toPy, PyData.eqv, eqD]
  | .lst _, .non | .lst _, .bl _ | .lst _, .int _ | .lst _, .str _ | .lst _, .tup _ => by simp [toPy, PyData.eqv, eqD]
  | .lst xs, .lst ys => by
    rw [toPy, toPy, PyData.eqv, eqD]
    exact eqv_toPys xs ys
  | .tup _, .non | .tup _, .bl _ | .tup _, .int _ | .tup _, .str _ | .tup _, .lst _ => by simp [toPy, PyData.eqv, eqD]
  | .tup xs, .tup ys => by
    rw [toPy, toPy, PyData.eqv, eqD]
    exact eqv_toPys xs ys
theorem eqv_toPys : ∀ d e : List D, PyData.eqvAll (toPys d) (toPys e) = eqDs d e
  | [], [] => by simp [toPys, PyData.eqvAll, eqDs]
  | [], _ :: _ => by simp [toPys, PyData.eqvAll, eqDs]
  | _ :: _, [] => by simp [toPys, PyData.eqvAll, eqDs]
  | x :: xs, y :: ys => by
    rw [toPys, toPys, PyData.eqvAll, eqDs, eqv_toPy x y, eqv_toPys xs ys]
end
mutual
theorem rdD_dp {K : Frag} {ι : List Addr} {g : G} {H : Hp} (hg : RelG K ι g H) : ∀ (n : Nat) (w : W) (d : D) (v : V), rdD n g w = some d → RelW K ι w v → Dp K H v (toPy d) ∧ (toPy d).depth ≤ n + 1 ∧ (toPy d).canLay0 = true := by
  intro n w d v e r
  cases w with
  | non =>
    cases (show v = _ from r)
    cases n <;> (rw [rdD] at e; cases e; exact ⟨.non, by simp [toPy, PyData.depth], by simp [toPy, PyData.canLay0]⟩)
  | bl b =>
    cases (show v = _ from r)
    cases n <;> (rw [rdD] at e; cases e; exact ⟨.bl b, by simp [toPy, PyData.depth], by simp [toPy, PyData.canLay0]⟩)
  | int b =>
    cases (show v = _ from r)
    cases n <;> (rw [rdD] at e; cases e; exact ⟨.int b, by simp [toPy, PyData.depth], by simp [toPy, PyData.canLay0]⟩)
  | str b =>
    cases (show v = _ from r)
    have e2 : (if okS b then some (D.str b) else none) = some d := by
      cases n <;> (rw [rdD] at e; exact e)
    split at e2
    · rename_i hk
      cases e2
      exact ⟨.str b, by simp [toPy, PyData.depth], by rw [toPy, PyData.canLay0]; exact hk⟩
    · cases e2
  | glob x => cases n <;> simp [rdD] at e
  | ty x => cases n <;> simp [rdD] at e
  | ref a =>
    obtain ⟨a', ea, rfl⟩ := r
    cases n with
    | zero => rw [rdD] at e; cases e
    | succ n =>
      rw [rdD] at e
      split at e
      · rename_i ws q
        split at e
        · rename_i ds q2
          cases e
          obtain ⟨vs, rl, hl⟩ := hg.lst q ea
          obtain ⟨z1, z2, z3⟩ := rdDs_dp hg n ws ds vs q2 rl
          refine ⟨.lst (.inl (.inl hl)) z1, ?_, ?_⟩
          · rw [toPy, PyData.depth]; omega
          · rw [toPy, PyData.canLay0]; exact z3
        · cases e
      · rename_i ws q
        split at e
        · rename_i ds q2
          cases e
          obtain ⟨vs, rl, hl⟩ := hg.lstAt (i := a) (ws := ws) (by unfold M.lstAt; rw [q]) ea
          obtain ⟨z1, z2, z3⟩ := rdDs_dp hg n ws ds vs q2 rl
          refine ⟨.lst hl z1, ?_, ?_⟩
          · rw [toPy, PyData.depth]; omega
          · rw [toPy, PyData.canLay0]; exact z3
        · cases e
      · rename_i ws q
        split at e
        · rename_i ds q2
          cases e
          obtain ⟨vs, rl, hl⟩ := hg.tup q ea
          obtain ⟨z1, z2, z3⟩ := rdDs_dp hg n ws ds vs q2 rl
          refine ⟨.tup (.inl (.inl hl)) z1, ?_, ?_⟩
          · rw [toPy, PyData.depth]; omega
          · rw [toPy, PyData.canLay0]; exact z3
        · cases e
      · cases e
theorem rdDs_dp {K : Frag} {ι : List Addr} {g : G} {H : Hp} (hg : RelG K ι g H) : ∀ (n : Nat) (ws : List W) (ds : List D) (vs : List V), rdDs n g ws = some ds → RelL K ι ws vs → DpAll K H vs (toPys ds) ∧ PyData.depthAll (toPys ds) ≤ n + 1 ∧ PyData.canLayAll0 (toPys ds) = true := by
  intro n ws ds vs e r
  cases ws with
  | nil =>
    cases r
    rw [rdDs] at e
    cases e
    exact ⟨.nil, by simp [toPys, PyData.depthAll], by simp [toPys, PyData.canLayAll0]⟩
  | cons w ws =>
    cases r with
    | cons r t =>
      rw [rdDs] at e
      split at e
      · rename_i d q
        split at e
        · rename_i ds' q2
          cases e
          obtain ⟨x1, x2, x3⟩ := rdD_dp hg n w d _ q r
          obtain ⟨y1, y2, y3⟩ := rdDs_dp hg n ws ds' _ q2 t
          refine ⟨.cons x1 y1, ?_, ?_⟩
          · rw [toPys, PyData.depthAll]; omega
          · rw [toPys, PyData.canLayAll0, x3, y3]; rfl
        · cases e
      · cases e
end
theorem shaped_of {d : D} (h1 : (toPy d).depth ≤ 61) (h2 : (toPy d).canLay0 = true) : SeqAt.shaped (toPy d) = true := by
  unfold SeqAt.shaped
  rw [h2]
  simp
  omega
theorem o_eq (hu : X.A.units + 64 < cLine) : OpR X (compareOp .Eq) (rM2 X.K opEq) := by
  intro pins s σ H x y v u Q I rx ry ⟨Wx, ι, wx, wy, g, hx, hy, hg, h⟩
  unfold opEq at h
  split at h
  · cases (show x = _ from hx)
    cases (show y = _ from hy)
    refine op_eq pins s σ H _ _ v u Q I rx ry ⟨rfl, ?_⟩
    rw [dec_str]
    exact h ι _ H (Pre.refl _) rfl hg
  · split at h
    · rename_i d e q1 q2
      obtain ⟨a1, a2, a3⟩ := rdD_dp hg 60 _ _ _ q1 hx
      obtain ⟨b1, b2, b3⟩ := rdD_dp hg 60 _ _ _ q2 hy
      refine op_eqD hu pins s σ H _ _ v u Q I rx ry ⟨_, _, a1, b1, shaped_of a2 a3, shaped_of b2 b3, ?_⟩
      rw [eqv_toPy]
      exact h ι _ H (Pre.refl _) rfl hg
    · exact h.elim
theorem o_ne (hu : X.A.units + 64 < cLine) : OpR X (compareOp .NotEq) (rM2 X.K opNe) := by
  intro pins s σ H x y v u Q I rx ry ⟨Wx, ι, wx, wy, g, hx, hy, hg, h⟩
  unfold opNe at h
  split at h
  · cases (show x = _ from hx)
    cases (show y = _ from hy)
    refine op_ne pins s σ H _ _ v u Q I rx ry ⟨rfl, ?_⟩
    rw [dec_str]
    exact h ι _ H (Pre.refl _) rfl hg
  · split at h
    · rename_i d e q1 q2
      obtain ⟨a1, a2, a3⟩ := rdD_dp hg 60 _ _ _ q1 hx
      obtain ⟨b1, b2, b3⟩ := rdD_dp hg 60 _ _ _ q2 hy
      refine op_neD hu pins s σ H _ _ v u Q I rx ry ⟨_, _, a1, b1, shaped_of a2 a3, shaped_of b2 b3, ?_⟩
      rw [eqv_toPy]
      exact h ι _ H (Pre.refl _) rfl hg
    · exact h.elim
theorem flat_rel {K : Frag} {ι : List Addr} {w : W} {v : V} (r : RelW K ι w v) (f : flat w = true) : flatV v = true := by
  cases w with
  | non => cases (show v = _ from r); rfl
  | bl b => cases (show v = _ from r); rfl
  | int b => cases (show v = _ from r); rfl
  | str b => cases (show v = _ from r); rfl
  | ref n => cases f
  | glob x => cases f
  | ty n => cases f
theorem eqF_rel {K : Frag} {ι : List Addr} {w w' : W} {v v' : V} (r : RelW K ι w v) (r' : RelW K ι w' v') (f : flat w = true) (f' : flat w' = true) : eqV v v' = eqF w w' := by
  cases w <;> cases w' <;> first
    | exact absurd (show false = true from f) Bool.false_ne_true
    | exact absurd (show false = true from f') Bool.false_ne_true
    | (cases (show v = _ from r); cases (show v' = _ from r'); rfl)
theorem flats_rel {K : Frag} {ι : List Addr} : ∀ {ws : List W} {vs : List V}, RelL K ι ws vs → ws.all flat = true → vs.all flatV = true
  | _, _, .nil, _ => rfl
  | _, _, .cons r t, f => by
    rw [List.all_cons, Bool.and_eq_true] at f
    rw [List.all_cons, flat_rel r f.1, flats_rel t f.2]
    rfl
theorem inF_rel {K : Frag} {ι : List Addr} {w : W} {v : V} (r : RelW K ι w v) (f : flat w = true) : ∀ {ws : List W} {vs : List V}, RelL K ι ws vs → ws.all flat = true → inV v vs = inF w ws
  | _, _, .nil, _ => rfl
  | _, _, .cons r' t, f' => by
    rw [List.all_cons, Bool.and_eq_true] at f'
    have ih := inF_rel r f t f'.2
    unfold inV inF at *
    rw [List.any_cons, List.any_cons, eqF_rel r' r f'.1 f, ih]
theorem o_in : OpR X (compareOp .In) (rM2 X.K opIn) := by
  intro pins s σ H x y v u Q I rx ry ⟨Wx, ι, wx, wy, g, hx, hy, hg, h⟩
  unfold opIn at h
  split at h
  · obtain ⟨a', ea, rfl⟩ := hy
    split at h
    · rename_i ws q
      split at h
      · rename_i f
        rw [Bool.and_eq_true] at f
        obtain ⟨vs, rl, hl⟩ := hg.seqAt q ea
        refine op_in_seq pins s σ H _ _ v u Q I rx ry ⟨_, _, rfl, hl, flat_rel hx f.1, flats_rel rl f.2, ?_⟩
        rw [if_neg Bool.false_ne_true, inF_rel hx f.1 rl f.2]
        exact h ι _ H (Pre.refl _) rfl hg
      · exact h.elim
    · exact h.elim
  · exact h.elim
theorem o_nin : OpR X (compareOp .NotIn) (rM2 X.K opNin) := by
  intro pins s σ H x y v u Q I rx ry ⟨Wx, ι, wx, wy, g, hx, hy, hg, h⟩
  unfold opNin at h
  split at h
  · obtain ⟨a', ea, rfl⟩ := hy
    split at h
    · rename_i ws q
      split at h
      · rename_i f
        rw [Bool.and_eq_true] at f
        obtain ⟨vs, rl, hl⟩ := hg.seqAt q ea
        refine op_notIn_seq pins s σ H _ _ v u Q I rx ry ⟨_, _, rfl, hl, flat_rel hx f.1, flats_rel rl f.2, ?_⟩
        rw [if_pos rfl, inF_rel hx f.1 rl f.2]
        exact h ι _ H (Pre.refl _) rfl hg
      · exact h.elim
    · exact h.elim
  · exact h.elim
theorem o_isB : OpR X (compareOp .Is) (rM2 X.K opIsB) := by
  intro pins s σ H x y v u Q I rx ry ⟨Wx, ι, wx, wy, g, hx, hy, hg, h⟩
  unfold opIsB at h
  split at h
  · cases hx; cases hy
    exact op_isBl pins s σ H _ _ v u Q I rx ry ⟨_, _, rfl, rfl, h ι _ H (Pre.refl _) rfl hg⟩
  · exact h.elim
theorem o_notB : OpR X (compareOp .IsNot) (rM2 X.K opNotB) := by
  intro pins s σ H x y v u Q I rx ry ⟨Wx, ι, wx, wy, g, hx, hy, hg, h⟩
  unfold opNotB at h
  split at h
  · cases hx; cases hy
    exact op_notBl pins s σ H _ _ v u Q I rx ry ⟨_, _, rfl, rfl, h ι _ H (Pre.refl _) rfl hg⟩
  · exact h.elim
/-! ### subscripts, slices -/
theorem ixN_eq : M.ixN = L2.ixN := rfl
theorem atI_rel {K : Frag} {ι : List Addr} {ws : List W} {vs : List V} {i : Int} {w : W} (r : RelL K ι ws vs) (e : M.atI ws i = some w) : ∃ v, L2.atI vs i = some v ∧ RelW K ι w v := by
  unfold M.atI at e
  unfold L2.atI
  rw [← r.length, ← ixN_eq]
  cases q : M.ixN ws.length i with
  | none => rw [q] at e; cases e
  | some j =>
    rw [q] at e
    exact r.get e
theorem o_ix : IxR X (rM2 X.K opIx) := by
  intro value slice pins s σ H x y v u Q I rx ry ⟨Wx, ι, wx, wy, g, hx, hy, hg, h⟩ hs
  unfold opIx at h
  split at h
  · obtain ⟨a', ea, rfl⟩ := hx
    cases hy
    split at h
    · rename_i ws q
      split at h
      · rename_i w q2
        obtain ⟨vs, rl, hl⟩ := hg.seqAt q ea
        obtain ⟨z, e1, r1⟩ := atI_rel rl q2
        rcases hl with hl | hl
        · exact ix_list value slice pins s σ H _ _ v u Q I rx ry ⟨_, _, _, _, rfl, rfl, hl, e1, h ι _ H (Pre.refl _) r1 hg⟩ hs
        · exact ix_tup value slice pins s σ H _ _ v u Q I rx ry ⟨_, _, _, _, rfl, rfl, hl, e1, h ι _ H (Pre.refl _) r1 hg⟩ hs
      · exact h.elim
    · exact h.elim
  · exact h.elim
variable {Wx : WX} {pos p2 : Pos} {a b c e : Expr} {ma mb mc m : ME} {es : List Expr} {mas mks : MA} {lo hi : Option Expr} {ml mh : MO}
theorem m_ix (ha : PE X a (tM X.K Wx ma)) (hb : PE X b (tM X.K Wx mb)) (hs : PlainIx b := by exact fun _ _ => rfl) : PE X (.Subscript a b pos) (tM X.K Wx (mOp2 opIx ma mb)) := pe_imp (pe_ix o_ix ha hb hs) fun _ _ _ h => op2_imp h
theorem m_oNone : PO X none (tMo X.K Wx oNone) := po_imp po_none fun σ H Q ⟨ι, ρ, g, hs, hg, h⟩ => h ι _ H (Pre.refl _) rfl hg
theorem m_oSome (ha : PE X a (tM X.K Wx ma)) : PO X (some a) (tMo X.K Wx (oSome ma)) := po_imp (po_some ha) fun σ H Q ⟨ι, ρ, g, hs, hg, h⟩ => by
  refine tM_mono (go1 hs hg h) fun x H1 ⟨ι1, w1, g1, p1, r1, hg1, h1⟩ => ?_
  cases w1 with
  | int i =>
    subst r1
    exact ⟨i, rfl, h1 ι1 _ H1 (Pre.refl _) rfl hg1⟩
  | _ => exact h1.elim
theorem cut_rel {K : Frag} {ι : List Addr} {ws : List W} {vs : List V} (r : RelL K ι ws vs) (l h : Option Int) : RelL K ι (cut ws l h) (cutV vs l h) := by
  unfold cut cutV
  rw [← r.length]
  exact (r.drop _).take _
theorem goO {K : Frag} {α β : Type} {Rl : List Addr → α → β → Prop} {f : Option Int → G → Res α} {t : MO} {σ : L2.St} {H : Hp} {Q : β → Hp → Prop} {ι : List Addr} {ρ : Env} {g : G} (hs : RelS K ι ρ σ) (hg : RelG K ι g H)
    (h : Aft K ι (fun c d H => Wx c d σ H) Rl ((t ρ g).bind f) Q) : tMo K Wx t σ H (Nxt K ι (fun c d H => Wx c d σ H) rEqv Rl f Q) := ⟨ι, ρ, g, hs, hg, h.of_bind⟩
theorem tMo_mono {K : Frag} {m : MO} {σ : L2.St} {H : Hp} {Q Q' : Option Int → Hp → Prop} (h : tMo K Wx m σ H Q) (q : ∀ v H, Q v H → Q' v H) : tMo K Wx m σ H Q' := by
  obtain ⟨ι, ρ, g, hs, hg, h⟩ := h
  exact ⟨ι, ρ, g, hs, hg, h.mono q⟩
theorem m_sl (ha : PE X a (tM X.K Wx ma)) (hl : PO X lo (tMo X.K Wx ml)) (hh : PO X hi (tMo X.K Wx mh)) : PE X (.Subscript a (.Slice lo hi none p2) pos) (tM X.K Wx (mSl ma ml mh)) := pe_imp (pe_slice sl_list ha hl hh) fun σ H Q h => by
  obtain ⟨ι, ρ, g, hs, hg, h⟩ := h
  refine tM_mono (go1 hs hg h) fun x H1 ⟨ι1, w1, g1, p1, r1, hg1, h1⟩ => ?_
  refine tMo_mono (goO (hs.mono p1) hg1 h1) fun l H2 ⟨ι2, w2, g2, p2, r2, hg2, h2⟩ => ?_
  refine tMo_mono (goO (hs.mono (p1.trans p2)) hg2 h2) fun u H3 ⟨ι3, w3, g3, p3, r3, hg3, h3⟩ => ?_
  subst r2 r3
  dsimp only at h3
  split at h3
  · obtain ⟨a', ea, rfl⟩ := r1
    split at h3
    · rename_i ws q
      obtain ⟨vs, rl, hv⟩ := hg3.lstAt q ((p2.trans p3).at_ ea)
      refine ⟨_, _, rfl, hv, fun p hp => ?_⟩
      exact h3 (ι3 ++ [p]) _ _ (Pre.snoc _ _) (hg3.newW p) (hg3.new hp rfl ⟨_, (cut_rel rl _ _).mono (Pre.snoc _ _), upd_same⟩)
    · exact h3.elim
  · exact h3.elim
theorem m_rev {k : Nat} {q1 q2 q3 : Pos} (ha : PE X a (tM X.K Wx ma)) : PE X (.Subscript a (.Slice none none (some (.UnaryOp .USub (.Constant (.int 1) k q1) q2)) q3) pos) (tM X.K Wx (mRev ma)) := pe_imp (pe_revL ha) fun σ H Q h => by
  obtain ⟨ι, ρ, g, hs, hg, h⟩ := h
  refine tM_mono (go1 hs hg h) fun x H1 ⟨ι1, w1, g1, p1, r1, hg1, h1⟩ => ?_
  dsimp only at h1
  split at h1
  · obtain ⟨a', ea, rfl⟩ := r1
    split at h1
    · rename_i ws q
      obtain ⟨vs, rl, hv⟩ := hg1.lstAt q ea
      refine ⟨_, _, rfl, hv, fun p hp => ?_⟩
      exact h1 (ι1 ++ [p]) _ _ (Pre.snoc _ _) (hg1.newW p) (hg1.new hp rfl ⟨_, rl.reverse.mono (Pre.snoc _ _), upd_same⟩)
    · exact h1.elim
  · exact h1.elim
theorem m_astar {p : Pos} (ha : PE X e (tM X.K Wx ma)) (hr : PA X es (tMa X.K Wx mas)) (hs : starEach (.Starred e p :: es) X.env = (true, eval e X.env) :: starEach es X.env := by rfl) : PA X (.Starred e p :: es) (tMa X.K Wx (aStar ma mas)) :=
  pa_imp (StX.pa_star ha hr hs) fun σ H Q ⟨ι, ρ, g, hs, hg, h⟩ => by
    refine tM_mono (go1 hs hg h) fun x H1 ⟨ι1, w1, g1, p1, r1, hg1, h1⟩ => ?_
    dsimp only at h1
    split at h1
    · obtain ⟨a', ea, rfl⟩ := r1
      split at h1
      · rename_i ws q
        obtain ⟨vs, rl, hl⟩ := hg1.seqAt q ea
        refine ⟨a', vs, rfl, hl.symm, ?_⟩
        refine tMa_mono (goA (hs.mono p1) hg1 h1) fun xs H2 ⟨ι2, w2, g2, p2, r2, hg2, h2⟩ => ?_
        exact h2 ι2 _ H2 (Pre.refl _) ((rl.mono p2).append r2) hg2
      · exact h1.elim
    · exact h1.elim
theorem m_tIsN {j : Nat} {p : Pos} (ha : PE X a (tM X.K Wx ma)) : PT X (.Compare a [.Is] [.Constant .none j p] pos) (tMt X.K Wx (tVal (mOp1 opIsN ma))) := pt_imp (pt_cmp (pc_isN ha) rfl) fun σ H Q h => by
  obtain ⟨ι, ρ, g, hs, hg, h⟩ := h
  have h := go1 (Wx := Wx) hs hg h
  obtain ⟨ι, ρ, g, hs, hg, h⟩ := h
  refine tM_mono (go1 hs hg h) fun x H1 ⟨ι1, w1, g1, p1, r1, hg1, h1⟩ => ?_
  obtain ⟨ι5, w5, g5, p5, r5, hg5, h5⟩ := h1 ι1 (.bl (decide (x = .non))) H1 (Pre.refl _) (congrArg V.bl (relW_non r1).symm) hg1
  cases w5 with
  | bl k =>
    have e : V.bl (decide (x = .non)) = V.bl k := r5
    exact ⟨k, e, h5 ι5 _ H1 (Pre.refl _) rfl hg5⟩
  | _ => exact h5.elim
theorem m_tNotN {j : Nat} {p : Pos} (ha : PE X a (tM X.K Wx ma)) : PT X (.Compare a [.IsNot] [.Constant .none j p] pos) (tMt X.K Wx (tVal (mOp1 opNotN ma))) := pt_imp (pt_cmp (pc_notN ha) rfl) fun σ H Q h => by
  obtain ⟨ι, ρ, g, hs, hg, h⟩ := h
  have h := go1 (Wx := Wx) hs hg h
  obtain ⟨ι, ρ, g, hs, hg, h⟩ := h
  refine tM_mono (go1 hs hg h) fun x H1 ⟨ι1, w1, g1, p1, r1, hg1, h1⟩ => ?_
  obtain ⟨ι5, w5, g5, p5, r5, hg5, h5⟩ := h1 ι1 (.bl (!decide (x = .non))) H1 (Pre.refl _) (congrArg V.bl (congrArg (fun b => !b) (relW_non r1).symm)) hg1
  cases w5 with
  | bl k =>
    have e : V.bl (!decide (x = .non)) = V.bl k := r5
    exact ⟨k, e, h5 ι5 _ H1 (Pre.refl _) rfl hg5⟩
  | _ => exact h5.elim
/-! ### built-in functions -/
theorem relL1 {K : Frag} {ι : List Addr} {w : W} {vs : List V} (r : RelL K ι [w] vs) : ∃ v, vs = [v] ∧ RelW K ι w v := by
  cases r with
  | cons r t => cases t; exact ⟨_, rfl, r⟩
theorem relL2 {K : Frag} {ι : List Addr} {w w' : W} {vs : List V} (r : RelL K ι [w, w'] vs) : ∃ v v', vs = [v, v'] ∧ RelW K ι w v ∧ RelW K ι w' v' := by
  cases r with
  | cons r t =>
    cases t with
    | cons r' t' => cases t'; exact ⟨_, _, rfl, r, r'⟩
theorem c_len : CallR X (.builtin "len") (rMc X.K bLen) := by
  intro pins s σ H xs us Q I rv ⟨Wx, ι, ws, g, hx, hg, h⟩
  unfold bLen at h
  split at h
  · obtain ⟨v, rfl, r⟩ := relL1 hx
    obtain ⟨a', ea, rfl⟩ := r
    split at h
    · rename_i ws q
      obtain ⟨vs, rl, hl⟩ := hg.seqAt q ea
      refine call_len_seq pins s σ H _ us Q I rv ⟨_, _, rfl, hl, ?_⟩
      exact h ι _ H (Pre.refl _) (by rw [rl.length]; rfl) hg
    · exact h.elim
  · obtain ⟨v, rfl, r⟩ := relL1 hx
    cases (show v = _ from r)
    split at h
    · rename_i hz
      exact call_len_str pins s σ H _ us Q I rv ⟨_, rfl, sz_eq hz, h ι _ H (Pre.refl _) rfl hg⟩
    · exact h.elim
  · exact h.elim
theorem maxL_mem : ∀ {ns : List Int}, ns ≠ [] → maxL ns ∈ ns ∧ ∀ y ∈ ns, y ≤ maxL ns
  | [], h => absurd rfl h
  | [a], _ => ⟨by simp [maxL], by simp [maxL]⟩
  | a :: b :: r, _ => by
    obtain ⟨h1, h2⟩ := maxL_mem (ns := b :: r) (by simp)
    refine ⟨?_, fun y hy => ?_⟩
    · rw [maxL]
      by_cases q : a ≤ maxL (b :: r)
      · rw [Int.max_eq_right q]
        exact List.mem_cons_of_mem _ h1
      · rw [Int.max_eq_left (by omega)]
        exact List.mem_cons_self
    · rw [maxL]
      rcases List.mem_cons.mp hy with rfl | hy
      · omega
      · have := h2 y hy
        omega
theorem minL_mem : ∀ {ns : List Int}, ns ≠ [] → minL ns ∈ ns ∧ ∀ y ∈ ns, minL ns ≤ y
  | [], h => absurd rfl h
  | [a], _ => ⟨by simp [minL], by simp [minL]⟩
  | a :: b :: r, _ => by
    obtain ⟨h1, h2⟩ := minL_mem (ns := b :: r) (by simp)
    refine ⟨?_, fun y hy => ?_⟩
    · rw [minL]
      by_cases q : a ≤ minL (b :: r)
      · rw [Int.min_eq_left q]
        exact List.mem_cons_self
      · rw [Int.min_eq_right (by omega)]
        exact List.mem_cons_of_mem _ h1
    · rw [minL]
      rcases List.mem_cons.mp hy with rfl | hy
      · omega
      · have := h2 y hy
        omega
theorem c_max (hc : X.calm = true) : CallR X (.builtin "max") (rMc X.K bMax) := by
  intro pins s σ H xs us Q I rv ⟨Wx, ι, ws, g, hx, hg, h⟩
  unfold bMax at h
  split at h
  · obtain ⟨v, v', rfl, r, r'⟩ := relL2 hx
    cases (show v = _ from r)
    cases (show v' = _ from r')
    exact call_max2 hc pins s σ H _ us Q I rv ⟨_, _, rfl, h ι _ H (Pre.refl _) rfl hg⟩
  · obtain ⟨v, rfl, r⟩ := relL1 hx
    obtain ⟨a', ea, rfl⟩ := r
    split at h
    · rename_i ws q
      split at h
      · rename_i n ns q2
        obtain ⟨vs, rl, hl⟩ := hg.lstAt q ea
        have e := ints_rel q2 rl
        subst e
        obtain ⟨m1, m2⟩ := maxL_mem (ns := n :: ns) (by simp)
        refine cr_max hc pins s σ H _ us Q I rv ⟨_, _, rfl, hl, by simp, fun m h1 h2 => ?_⟩
        have e : m = maxL (n :: ns) := Int.le_antisymm (m2 m h1) (h2 _ m1)
        subst e
        exact h ι _ H (Pre.refl _) rfl hg
      · exact h.elim
    · exact h.elim
  · exact h.elim
theorem c_min (hc : X.calm = true) : CallR X (.builtin "min") (rMc X.K bMin) := by
  intro pins s σ H xs us Q I rv ⟨Wx, ι, ws, g, hx, hg, h⟩
  unfold bMin at h
  split at h
  · obtain ⟨v, v', rfl, r, r'⟩ := relL2 hx
    cases (show v = _ from r)
    cases (show v' = _ from r')
    exact call_min2 hc pins s σ H _ us Q I rv ⟨_, _, rfl, h ι _ H (Pre.refl _) rfl hg⟩
  · obtain ⟨v, rfl, r⟩ := relL1 hx
    obtain ⟨a', ea, rfl⟩ := r
    split at h
    · rename_i ws q
      split at h
      · rename_i n ns q2
        obtain ⟨vs, rl, hl⟩ := hg.lstAt q ea
        have e := ints_rel q2 rl
        subst e
        obtain ⟨m1, m2⟩ := minL_mem (ns := n :: ns) (by simp)
        refine cr_min hc pins s σ H _ us Q I rv ⟨_, _, rfl, hl, by simp, fun m h1 h2 => ?_⟩
        have e : m = minL (n :: ns) := Int.le_antisymm (h2 _ m1) (m2 m h1)
        subst e
        exact h ι _ H (Pre.refl _) rfl hg
      · exact h.elim
    · exact h.elim
  · exact h.elim
theorem c_sum (hc : X.calm = true) : CallR X (.builtin "sum") (rMc X.K bSum) := by
  intro pins s σ H xs us Q I rv ⟨Wx, ι, ws, g, hx, hg, h⟩
  unfold bSum at h
  split at h
  · obtain ⟨v, rfl, r⟩ := relL1 hx
    obtain ⟨a', ea, rfl⟩ := r
    split at h
    · rename_i ws q
      split at h
      · rename_i ns q2
        obtain ⟨vs, rl, hl⟩ := hg.lstAt q ea
        have e := ints_rel q2 rl
        subst e
        exact cr_sum hc pins s σ H _ us Q I rv ⟨_, _, rfl, hl, h ι _ H (Pre.refl _) rfl hg⟩
      · exact h.elim
    · exact h.elim
  · exact h.elim
theorem c_all (hc : X.calm = true) : CallR X (.builtin "all") (rMc X.K bAll) := by
  intro pins s σ H xs us Q I rv ⟨Wx, ι, ws, g, hx, hg, h⟩
  unfold bAll at h
  split at h
  · obtain ⟨v, rfl, r⟩ := relL1 hx
    obtain ⟨a', ea, rfl⟩ := r
    split at h
    · rename_i ws q
      split at h
      · rename_i ns q2
        obtain ⟨vs, rl, hl⟩ := hg.lstAt q ea
        have e := bools_rel q2 rl
        subst e
        exact cr_all hc pins s σ H _ us Q I rv ⟨_, _, rfl, hl, h ι _ H (Pre.refl _) rfl hg⟩
      · exact h.elim
    · exact h.elim
  · exact h.elim
theorem c_any (hc : X.calm = true) : CallR X (.builtin "any") (rMc X.K bAny) := by
  intro pins s σ H xs us Q I rv ⟨Wx, ι, ws, g, hx, hg, h⟩
  unfold bAny at h
  split at h
  · obtain ⟨v, rfl, r⟩ := relL1 hx
    obtain ⟨a', ea, rfl⟩ := r
    split at h
    · rename_i ws q
      split at h
      · rename_i ns q2
        obtain ⟨vs, rl, hl⟩ := hg.lstAt q ea
        have e := bools_rel q2 rl
        subst e
        exact cr_any hc pins s σ H _ us Q I rv ⟨_, _, rfl, hl, h ι _ H (Pre.refl _) rfl hg⟩
      · exact h.elim
    · exact h.elim
  · exact h.elim
theorem c_sorted : CallR X (.builtin "sorted") (rMc X.K bSorted) := by
  intro pins s σ H xs us Q I rv ⟨Wx, ι, ws, g, hx, hg, h⟩
  unfold bSorted at h
  split at h
  · obtain ⟨v, rfl, r⟩ := relL1 hx
    obtain ⟨a', ea, rfl⟩ := r
    split at h
    · rename_i ws q
      split at h
      · rename_i ns q2
        obtain ⟨vs, rl, hl⟩ := hg.lstAt q ea
        have e := ints_rel q2 rl
        subst e
        refine cr_sortedI pins s σ H _ us Q I rv ⟨_, _, rfl, hl, fun ns' p hp hs hn => ?_⟩
        have e := isort_eq hp hs
        subst e
        exact h (ι ++ [p]) _ _ (Pre.snoc _ _) (hg.newW p) (hg.new hn rfl ⟨_, rel_ints _, upd_same⟩)
      · exact h.elim
    · exact h.elim
  · exact h.elim
theorem c_abs : CallR X (.builtin "abs") (rMc X.K bAbs) := by
  intro pins s σ H xs us Q I rv ⟨Wx, ι, ws, g, hx, hg, h⟩
  unfold bAbs at h
  split at h
  · obtain ⟨v, rfl, r⟩ := relL1 hx
    cases (show v = _ from r)
    exact call_abs pins s σ H _ us Q I rv ⟨_, rfl, h ι _ H (Pre.refl _) rfl hg⟩
  · exact h.elim
theorem c_int : CallR X (.type "int") (rMc X.K bInt) := by
  intro pins s σ H xs us Q I rv ⟨Wx, ι, ws, g, hx, hg, h⟩
  unfold bInt at h
  split at h
  · obtain ⟨v, rfl, r⟩ := relL1 hx
    cases (show v = _ from r)
    exact call_int1 pins s σ H _ us Q I rv (.inl ⟨_, rfl, h ι _ H (Pre.refl _) rfl hg⟩)
  · obtain ⟨v, rfl, r⟩ := relL1 hx
    cases (show v = _ from r)
    exact call_int1 pins s σ H _ us Q I rv (.inr ⟨_, rfl, h ι _ H (Pre.refl _) rfl hg⟩)
  · exact h.elim
theorem c_list : CallR X (.type "list") (rMc X.K bList) := by
  intro pins s σ H xs us Q I rv ⟨Wx, ι, ws, g, hx, hg, h⟩
  unfold bList at h
  split at h
  · obtain ⟨v, rfl, r⟩ := relL1 hx
    obtain ⟨a', ea, rfl⟩ := r
    split at h
    · rename_i ws q
      obtain ⟨vs, rl, hl⟩ := hg.seqAt q ea
      refine call_list_of pins s σ H _ us Q I rv ⟨_, _, rfl, hl, fun p hn => ?_⟩
      exact h (ι ++ [p]) _ _ (Pre.snoc _ _) (hg.newW p) (hg.new hn rfl ⟨_, rl.mono (Pre.snoc _ _), upd_same⟩)
    · exact h.elim
  · exact h.elim
theorem kit_all : (["NoneType", "bool", "int", "str", "list", "tuple", "dict"].all fun t => kinds.all fun n => decide (kitB t n = some (subTy t n))) = true := by decide +kernel
theorem kit_tys {K : Frag} {t n : String} (ht : t ∈ ["NoneType", "bool", "int", "str", "list", "tuple", "dict"]) (hn : n ∈ kinds) : PySem.W.kitOne K (.type t) (.type n) = some (subTy t n) :=
  kit_ty (of_decide_eq_true (List.all_eq_true.mp (List.all_eq_true.mp kit_all t ht) n hn))
theorem tyOf_rel {K : Frag} {ι : List Addr} {g : G} {H : Hp} (hg : RelG K ι g H) {w : W} {v : V} {t : String} (r : RelW K ι w v) (e : tyOf g w = some t) : t ∈ ["NoneType", "bool", "int", "str", "list", "tuple", "dict"] ∧ TyX K H v (.type t) := by
  cases w with
  | non => cases (show v = _ from r); cases e; exact ⟨by decide, .base .non⟩
  | bl b => cases (show v = _ from r); cases e; exact ⟨by decide, .base (.bl b)⟩
  | int b => cases (show v = _ from r); cases e; exact ⟨by decide, .base (.int b)⟩
  | str b => cases (show v = _ from r); cases e; exact ⟨by decide, .base (.str b)⟩
  | glob x => cases e
  | ty x => cases e
  | ref a =>
    obtain ⟨a', ea, rfl⟩ := r
    dsimp only [tyOf] at e
    split at e
    · rename_i ws q
      cases e
      obtain ⟨vs, rl, hl⟩ := hg.lst q ea
      exact ⟨by decide, .base (.lst hl)⟩
    · rename_i ws q
      cases e
      obtain ⟨vs, rl, hl⟩ := hg.at_ _ _ _ q ea
      rcases hl with ⟨o, hl⟩ | hl
      · exact ⟨by decide, .base (.frz hl)⟩
      · rcases hl (fun _ => none) with (z | ⟨o, z⟩) | ⟨o, its, n, hk, hc, _⟩
        · cases z
        · cases z
        · exact ⟨by decide, .kList hk hc⟩
    · rename_i ws q
      cases e
      obtain ⟨vs, rl, hl⟩ := hg.tup q ea
      exact ⟨by decide, .base (.tup hl)⟩
    · rename_i ws q
      cases e
      obtain ⟨vs, rl, hl⟩ := hg.at_ _ _ _ q ea
      exact ⟨by decide, .base (.dK hl)⟩
    · cases e
theorem c_isi : CallR X (.builtin "isinstance") (rMc X.K bIsi) := by
  intro pins s σ H xs us Q I rv ⟨Wx, ι, ws, g, hx, hg, h⟩
  unfold bIsi at h
  split at h
  · obtain ⟨v, v', rfl, r, r'⟩ := relL2 hx
    cases (show v' = _ from r')
    split at h
    · rename_i t q
      split at h
      · rename_i hn
        obtain ⟨h1, h2⟩ := tyOf_rel hg r q
        have hn' := List.contains_iff_mem.mp hn
        exact call_isi pins s σ H _ us Q I rv ⟨_, _, _, _, _, rfl, .ty _, h2, kit_tys h1 hn', h ι _ H (Pre.refl _) rfl hg⟩
      · exact h.elim
    · exact h.elim
  · exact h.elim
/-- f(e, ..), f a built-in function -/
theorem m_callB {x : PySem.Str} {id : String} {f : Fn} {p : Pos} (hc : CallR X (.builtin id) (rMc X.K f)) (hm : X.mg x = none) (ha : PA X (e :: es) (tMa X.K Wx mas)) (hv : bootBuiltins x = some (.builtin id) := by decide +kernel) (hg : Gl X x := by rfl) (hn : x ≠ "__name__" := by decide) (hdb : (x == ("__debug__" : PySem.Str)) = false := by decide)
    (he : starEach (e :: es) X.env = (false, eval e X.env) :: starEach es X.env := by rfl) (hpl : (backTo pos (starEach es X.env)).any (·.1) = false := by rfl) : PE X (.Call (.Name x p) (e :: es) [] pos) (tM X.K Wx (mCall f mas)) :=
  pe_imp (pe_callB hc hg hm hv ha hn hdb he hpl) fun σ H Q h => by
    obtain ⟨ι, ρ, g, hs, hg, h⟩ := h
    exact tMa_mono (goA hs hg h) fun xs H1 ⟨ι1, w1, g1, p1, r1, hg1, h1⟩ => ⟨_, ι1, w1, g1, r1, hg1, h1⟩
theorem m_callTy {x : PySem.Str} {T : String} {f : Fn} {p : Pos} (hc : CallR X (.type T) (rMc X.K f)) (hm : X.mg x = none) (ha : PA X (e :: es) (tMa X.K Wx mas)) (hv : bootBuiltins x = some (.type T) := by decide +kernel) (hg : Gl X x := by rfl) (hn : x ≠ "__name__" := by decide) (hdb : (x == ("__debug__" : PySem.Str)) = false := by decide)
    (he : starEach (e :: es) X.env = (false, eval e X.env) :: starEach es X.env := by rfl) (hpl : (backTo pos (starEach es X.env)).any (·.1) = false := by rfl) : PE X (.Call (.Name x p) (e :: es) [] pos) (tM X.K Wx (mCall f mas)) :=
  pe_imp (pe_callTy hc hg hm hv ha hn hdb he hpl) fun σ H Q h => by
    obtain ⟨ι, ρ, g, hs, hg, h⟩ := h
    exact tMa_mono (goA hs hg h) fun xs H1 ⟨ι1, w1, g1, p1, r1, hg1, h1⟩ => ⟨_, ι1, w1, g1, r1, hg1, h1⟩
/-! ### list(range(..)) -/
theorem rel_rg {K : Frag} {ι : List Addr} (a b : Int) : RelL K ι (rgW a b) (rgV a b) := by
  unfold rgW rgV
  have : ∀ l : List Nat, RelL K ι (l.map fun i => W.int (a + (i : Nat))) (l.map fun i => V.int (a + (i : Nat))) := fun l => by
    induction l with
    | nil => exact .nil
    | cons x r ih => exact .cons rfl ih
  exact this _
theorem rgOk_of {a b : Int} (h : inR2 a b = true) : RgOk a b := by
  unfold inR2 at h
  simp only [Bool.and_eq_true, decide_eq_true_eq] at h
  exact ⟨h.1.1.1.1, h.1.1.1.2, h.1.1.2, h.1.2, h.2⟩
theorem m_lrg1 {p q pos' : Pos} (hm : X.mg "list" = none) (hm2 : X.mg "range" = none) (ha : PE X a (tM X.K Wx ma)) (hc : X.calm = true := by rfl) (hg : Gl X "list" := by rfl) (hg2 : Gl X "range" := by rfl)
    (na : starEach [a] X.env = (false, eval a X.env) :: starEach [] X.env := by rfl) (nb : starEach [.Call (.Name "range" q) [a] [] pos'] X.env = (false, eval (.Call (.Name "range" q) [a] [] pos') X.env) :: starEach [] X.env := by rfl) :
    PE X (.Call (.Name "list" p) [.Call (.Name "range" q) [a] [] pos'] [] pos) (tM X.K Wx (mLrg1 ma)) := pe_imp (pe_listRg hc hg hm (prg_1 hg2 hm2 ha na) nb) fun σ H Q h => by
  obtain ⟨ι, ρ, g, hs, hg, h⟩ := h
  refine tM_mono (go1 hs hg h) fun x H1 ⟨ι1, w1, g1, p1, r1, hg1, h1⟩ => ?_
  dsimp only at h1
  split at h1
  · cases (show x = _ from r1)
    split at h1
    · rename_i hz
      refine ⟨_, rfl, rgOk_of hz, fun p hp => ?_⟩
      exact h1 (ι1 ++ [p]) _ _ (Pre.snoc _ _) (hg1.newW p) (hg1.new hp rfl ⟨_, rel_rg _ _, upd_same⟩)
    · exact h1.elim
  · exact h1.elim
theorem m_lrg2 {p q pos' : Pos} (hm : X.mg "list" = none) (hm2 : X.mg "range" = none) (ha : PE X a (tM X.K Wx ma)) (hb : PE X b (tM X.K Wx mb)) (hc : X.calm = true := by rfl) (hg : Gl X "list" := by rfl) (hg2 : Gl X "range" := by rfl)
    (na : starEach [a, b] X.env = (false, eval a X.env) :: starEach [b] X.env := by rfl) (nb : starEach [b] X.env = (false, eval b X.env) :: starEach [] X.env := by rfl) (hp : (backTo pos' (starEach [b] X.env)).any (·.1) = false := by rfl)
    (nc : starEach [.Call (.Name "range" q) [a, b] [] pos'] X.env = (false, eval (.Call (.Name "range" q) [a, b] [] pos') X.env) :: starEach [] X.env := by rfl) :
    PE X (.Call (.Name "list" p) [.Call (.Name "range" q) [a, b] [] pos'] [] pos) (tM X.K Wx (mLrg2 ma mb)) := pe_imp (pe_listRg hc hg hm (prg_2 hg2 hm2 ha hb na nb hp) nc) fun σ H Q h => by
  obtain ⟨ι, ρ, g, hs, hg, h⟩ := h
  refine tM_mono (go1 hs hg h) fun x H1 ⟨ι1, w1, g1, p1, r1, hg1, h1⟩ => ?_
  refine tM_mono (go1 (hs.mono p1) hg1 h1) fun y H2 ⟨ι2, w2, g2, p2, r2, hg2, h2⟩ => ?_
  dsimp only at h2
  split at h2
  · cases (show x = _ from r1)
    cases (show y = _ from r2)
    split at h2
    · rename_i hz
      refine ⟨_, _, rfl, rfl, rgOk_of hz, fun p hp => ?_⟩
      exact h2 (ι2 ++ [p]) _ _ (Pre.snoc _ _) (hg2.newW p) (hg2.new hp rfl ⟨_, rel_rg _ _, upd_same⟩)
    · exact h2.elim
  · exact h2.elim
/-! ### methods of lists -/
theorem t_append : MtR X "list.append" (rMm X.K mtAppend) := by
  intro pins s σ H x xs v us Q I rx rv ⟨Wx, ι, w, ws, g, hx, hxs, hg, h⟩
  unfold mtAppend at h
  split at h
  · obtain ⟨a', ea, rfl⟩ := hx
    obtain ⟨y, rfl, ry⟩ := relL1 hxs
    split at h
    · rename_i ws q
      split at h
      · rename_i hz
        obtain ⟨vs, rl, hl⟩ := hg.lst q ea
        refine mt_append pins s σ H _ _ v us Q I rx rv ⟨_, _, _, rfl, rfl, hl, by rw [← rl.length]; exact sz_lt hz, ?_⟩
        exact h ι _ _ (Pre.refl _) rfl (hg.put q ea rfl rfl ⟨_, rl.append (.cons ry .nil), upd_same⟩)
      · exact h.elim
    · exact h.elim
  · exact h.elim
theorem t_pop : MtR X "list.pop" (rMm X.K mtPop) := by
  intro pins s σ H x xs v us Q I rx rv ⟨Wx, ι, w, ws, g, hx, hxs, hg, h⟩
  unfold mtPop at h
  split at h
  · obtain ⟨a', ea, rfl⟩ := hx
    obtain ⟨y, rfl, ry⟩ := relL1 hxs
    cases (show y = _ from ry)
    split at h
    · rename_i ws q
      split at h
      · rename_i k q2
        split at h
        · rename_i y q3
          split at h
          · rename_i hz
            obtain ⟨vs, rl, hl⟩ := hg.lst q ea
            obtain ⟨z, e1, r1⟩ := rl.get q3
            have e2 := q2
            rw [ixN_eq, rl.length] at e2
            refine mt_popAt pins s σ H _ _ v us Q I rx rv ⟨_, _, _, _, _, rfl, rfl, hl, hz.1, hz.2, (ixN_seq e2).1, e1, ?_⟩
            exact h ι _ _ (Pre.refl _) r1 (hg.put q ea rfl rfl ⟨_, rl.erase k, upd_same⟩)
          · exact h.elim
        · exact h.elim
      · exact h.elim
    · exact h.elim
  · exact h.elim
theorem t_extend : MtR X "list.extend" (rMm X.K mtExtend) := by
  intro pins s σ H x xs v us Q I rx rv ⟨Wx, ι, w, ws, g, hx, hxs, hg, h⟩
  unfold mtExtend at h
  split at h
  · obtain ⟨a', ea, rfl⟩ := hx
    obtain ⟨y, rfl, ry⟩ := relL1 hxs
    obtain ⟨b', eb, rfl⟩ := ry
    split at h
    · rename_i ws zs q q2
      split at h
      · rename_i hz
        obtain ⟨vs, rl, hl⟩ := hg.lst q ea
        obtain ⟨us', rl2, hl2⟩ := hg.lst q2 eb
        refine mt_extend pins s σ H _ _ v us Q I rx rv ⟨_, _, _, _, rfl, rfl, hl, hl2, by rw [← rl.length, ← rl2.length]; exact sz_eq hz, ?_⟩
        exact h ι _ _ (Pre.refl _) rfl (hg.put q ea rfl rfl ⟨_, rl.append rl2, upd_same⟩)
      · exact h.elim
    · exact h.elim
  · exact h.elim
theorem findF_spec {x : W} : ∀ {ws : List W} {k : Nat}, findF x ws = some k → ∃ z, ws[k]? = some z ∧ eqF z x = true ∧ ∀ m z', m < k → ws[m]? = some z' → eqF z' x = false
  | [], _, e => by cases e
  | y :: r, k, e => by
    unfold findF at e
    split at e
    · rename_i hy
      cases e
      exact ⟨y, rfl, hy, fun m z' hm => absurd hm (Nat.not_lt_zero m)⟩
    · rename_i hy
      cases q : findF x r with
      | none => rw [q] at e; cases e
      | some j =>
        rw [q] at e
        cases e
        obtain ⟨z, h1, h2, h3⟩ := findF_spec q
        refine ⟨z, by simpa using h1, h2, fun m z' hm e' => ?_⟩
        cases m with
        | zero =>
          simp at e'
          subst e'
          simpa using hy
        | succ m => exact h3 m z' (by have : m + 1 < j + 1 := hm; omega) (by simpa using e')
theorem t_index : MtR X "list.index" (rMm X.K mtIndex) := by
  intro pins s σ H x xs v us Q I rx rv ⟨Wx, ι, w, ws, g, hx, hxs, hg, h⟩
  unfold mtIndex at h
  split at h
  · obtain ⟨a', ea, rfl⟩ := hx
    obtain ⟨y, rfl, ry⟩ := relL1 hxs
    split at h
    · rename_i ws q
      split at h
      · rename_i f
        rw [Bool.and_eq_true] at f
        split at h
        · rename_i k q2
          obtain ⟨z, h1, h2, h3⟩ := findF_spec q2
          obtain ⟨vs, rl, hl⟩ := hg.lstAt q ea
          obtain ⟨z', e1, r1⟩ := rl.get h1
          have fz : flat z = true := List.all_eq_true.mp f.2 z (List.mem_of_getElem? h1)
          refine mt_index pins s σ H _ _ v us Q I rx rv ⟨_, _, _, _, _, rfl, rfl, hl, flat_rel ry f.1, flats_rel rl f.2, e1, ?_, fun m zz hm em => ?_, h ι _ _ (Pre.refl _) rfl hg⟩
          · rw [eqF_rel r1 ry fz f.1]
            exact h2
          · obtain ⟨ww, ew, rw'⟩ := rl.getV em
            rw [eqF_rel rw' ry (List.all_eq_true.mp f.2 ww (List.mem_of_getElem? ew)) f.1]
            exact h3 m ww hm ew
        · exact h.elim
      · exact h.elim
    · exact h.elim
  · exact h.elim
theorem isL_rel {K : Frag} {ι : List Addr} {g : G} {H : Hp} (hg : RelG K ι g H) {w : W} {v : V} (r : RelW K ι w v) (h : isL g w = true) : tyV K "list" v H := by
  cases w with
  | ref n =>
    obtain ⟨a', ea, rfl⟩ := r
    unfold isL at h
    cases q : lstAt g n with
    | none =>
      have h' : (lstAt g n).isSome = true := h
      rw [q] at h'
      cases h'
    | some ws =>
      obtain ⟨vs, rl, hl⟩ := hg.lstAt q ea
      exact .inl ⟨rfl, _, hl⟩
  | _ => cases h
/-- xs.m(e, ..), xs a list -/
theorem m_mt {o : Expr} {mo : ME} {name : PySem.Str} {id : String} {f : W → List W → G → Res W} {apos cpos : Pos} (hm : MtR X id (rMm X.K f)) (slot : Slot "list" name id) (hty : typeOf (.builtin id) = pure (.type "method_descriptor")) (ho : PE X o (tM X.K Wx mo)) (ha : PA X (e :: es) (tMa X.K Wx mas))
    (hbase : attributeBase o name X.env (eval o X.env) = eval o X.env := by rfl)
    (hfew : ((backTo cpos (starEach (e :: es) X.env)).all (fun x => !x.1) && (backToKw cpos (keywordEach [] X.env)).all (fun x => x.1.isSome)
      && decide ((e :: es).length + ([] : List Keyword).length + (if ([] : List Keyword).isEmpty then 0 else 1) < 30)) = true := by rfl)
    (hline : (apos.endLine == cpos.line) = true := by rfl) (hs : starEach (e :: es) X.env = (false, eval e X.env) :: starEach es X.env := by rfl) (hplain : (backTo cpos (starEach es X.env)).any (·.1) = false := by rfl) :
    PE X (.Call (.Attribute o name apos) (e :: es) [] cpos) (tM X.K Wx (mMt f mo mas)) := pe_imp (pe_bm PySem.F.plainAttrs_list slot hty hm ho ha hbase hfew hline hs hplain) fun σ H Q h => by
  obtain ⟨ι, ρ, g, hs, hg, h⟩ := h
  refine tM_mono (go1 hs hg h) fun x H1 ⟨ι1, w1, g1, p1, r1, hg1, h1⟩ => ?_
  dsimp only at h1
  split at h1
  · rename_i hl
    refine ⟨isL_rel hg1 r1 hl, ?_⟩
    refine tMa_mono (goA (hs.mono p1) hg1 h1) fun xs H2 ⟨ι2, w2, g2, p2, r2, hg2, h2⟩ => ?_
    exact ⟨_, ι2, w1, w2, g2, r1.mono p2, r2, hg2, h2⟩
  · exact h1.elim
end
end M
/-! MLoops: iterators, comprehensions, targets, statements, defs. -/
namespace M
open PySem PySem.Spec PyProof.Rows L2
/-! ### iterators -/
def ItR (K : Frag) (ι : List Addr) (it : M.It) (J : L2.It) : Prop := ∀ (ι' : List Addr) (g : G) (H : Hp), Pre ι ι' → RelG K ι' g H → ∀ i : Nat, match itAt it i g with
  | .stop => J.stop i H
  | .go w g' => J.go i H ∧ ∀ x H', J.yld i H x H' → ∃ κ, Pre ι' κ ∧ RelW K κ w x ∧ RelG K κ g' H'
  | .bad => True
def tMi (K : Frag) (Wx : WX) (m : MI) : TI := fun σ H R => ∃ ι ρ g, RelS K ι ρ σ ∧ RelG K ι g H ∧ Aft K ι (fun c d H => Wx c d σ H) (ItR K) (m ρ g) R
theorem pi_imp {X : Cx} {tg e : Expr} {t t' : TI} (h : PI X tg e t) (i : ∀ σ H R, t' σ H R → t σ H R) : PI X tg e t' := ⟨fun pins s σ H R I q => h.run pins s σ H R I (i σ H R q)⟩
theorem itR_lst {K : Frag} {ι : List Addr} {n : Nat} {a : Addr} (ea : ι[n]? = some a) : ItR K ι (.lst n) (Itl K a) := fun ι' g H p hg i => by
  dsimp only [itAt]
  split
  · rename_i heq
    split at heq
    · rename_i ws q
      split at heq
      · cases heq
      · rename_i q2
        obtain ⟨vs, rl, hl⟩ := hg.lstAt q (p.at_ ea)
        exact ⟨vs, hl, by rw [← rl.length]; exact List.getElem?_eq_none_iff.mp q2⟩
    · cases heq
  · rename_i w g' heq
    split at heq
    · rename_i ws q
      split at heq
      · rename_i w' q2
        cases heq
        obtain ⟨vs, rl, hl⟩ := hg.lstAt q (p.at_ ea)
        obtain ⟨v, e1, r1⟩ := rl.get q2
        refine ⟨⟨vs, v, hl, e1⟩, fun x H' hy => ?_⟩
        obtain ⟨rfl, hy⟩ := hy
        have e2 := hy vs hl
        rw [e1] at e2
        cases e2
        exact ⟨ι', Pre.refl _, r1, hg⟩
      · cases heq
    · cases heq
  · trivial
theorem itR_tup {K : Frag} {ι : List Addr} {n : Nat} {a : Addr} (ea : ι[n]? = some a) : ItR K ι (.tup n) (Itt K a) := fun ι' g H p hg i => by
  dsimp only [itAt]
  split
  · rename_i heq
    split at heq
    · rename_i ws q
      split at heq
      · cases heq
      · rename_i q2
        obtain ⟨vs, rl, hl⟩ := hg.tupAt q (p.at_ ea)
        exact ⟨vs, hl, by rw [← rl.length]; exact List.getElem?_eq_none_iff.mp q2⟩
    · cases heq
  · rename_i w g' heq
    split at heq
    · rename_i ws q
      split at heq
      · rename_i w' q2
        cases heq
        obtain ⟨vs, rl, hl⟩ := hg.tupAt q (p.at_ ea)
        obtain ⟨v, e1, r1⟩ := rl.get q2
        refine ⟨⟨vs, v, hl, e1⟩, fun x H' hy => ?_⟩
        obtain ⟨rfl, hy⟩ := hy
        have e2 := hy vs hl
        rw [e1] at e2
        cases e2
        exact ⟨ι', Pre.refl _, r1, hg⟩
      · cases heq
    · cases heq
  · trivial
theorem itR_rng {K : Frag} {ι : List Addr} (lo : Int) (n : Nat) : ItR K ι (.rng lo n) (Itr lo n) := fun ι' g H p hg i => by
  dsimp only [itAt]
  by_cases h : i < n
  · rw [if_pos h]
    refine ⟨h, fun x H' hy => ?_⟩
    obtain ⟨rfl, rfl⟩ := hy
    exact ⟨ι', Pre.refl _, rfl, hg⟩
  · rw [if_neg h]
    exact Nat.le_of_not_lt h
theorem itR_rngC {K : Frag} {ι : List Addr} (lo c : Int) (n : Nat) : ItR K ι (.rngC lo c n) (Itc lo c n) := fun ι' g H p hg i => by
  dsimp only [itAt]
  by_cases h : i < n
  · rw [if_pos h]
    refine ⟨h, fun x H' hy => ?_⟩
    obtain ⟨rfl, rfl⟩ := hy
    exact ⟨ι', Pre.refl _, rfl, hg⟩
  · rw [if_neg h]
    exact Nat.le_of_not_lt h
theorem itR_enum {K : Frag} {ι : List Addr} {n : Nat} {a : Addr} (ea : ι[n]? = some a) : ItR K ι (.enum n) (Ite K a) := fun ι' g H p hg i => by
  dsimp only [itAt]
  split
  · rename_i heq
    split at heq
    · rename_i ws q
      split at heq
      · cases heq
      · rename_i q2
        obtain ⟨vs, rl, hl⟩ := hg.lstAt q (p.at_ ea)
        exact ⟨vs, hl, by rw [← rl.length]; exact List.getElem?_eq_none_iff.mp q2⟩
    · cases heq
  · rename_i w g' heq
    split at heq
    · rename_i ws q
      split at heq
      · rename_i w' q2
        cases heq
        obtain ⟨vs, rl, hl⟩ := hg.lstAt q (p.at_ ea)
        obtain ⟨v, e1, r1⟩ := rl.get q2
        refine ⟨⟨vs, v, hl, e1⟩, fun x H' hy => ?_⟩
        obtain ⟨T, z, rfl, hT, rfl, hy⟩ := hy
        have e2 := hy vs hl
        rw [e1] at e2
        cases e2
        exact ⟨ι' ++ [T], Pre.snoc _ _, hg.newW T, hg.new hT rfl ⟨_, .cons rfl (.cons (r1.mono (Pre.snoc _ _)) .nil), upd_same⟩⟩
      · cases heq
    · cases heq
  · trivial
theorem itR_zip {K : Frag} {ι : List Addr} {n m : Nat} {a b : Addr} (ea : ι[n]? = some a) (eb : ι[m]? = some b) : ItR K ι (.zip n m) (Itz K a b) := fun ι' g H p hg i => by
  dsimp only [itAt]
  split
  · rename_i heq
    split at heq
    · rename_i ws us q q'
      obtain ⟨vs, rl, hl⟩ := hg.lstAt q (p.at_ ea)
      obtain ⟨xs, rl', hl'⟩ := hg.lstAt q' (p.at_ eb)
      split at heq
      · cases heq
      · rename_i q2
        refine ⟨vs, xs, hl, hl', ?_⟩
        rw [← rl.length, ← rl'.length]
        cases e1 : ws[i]? with
        | none => exact .inl (List.getElem?_eq_none_iff.mp e1)
        | some w =>
          cases e2 : us[i]? with
          | none => exact .inr (List.getElem?_eq_none_iff.mp e2)
          | some u => exact absurd e2 (q2 w u e1)
    · cases heq
  · rename_i w g' heq
    split at heq
    · rename_i ws us q q'
      obtain ⟨vs, rl, hl⟩ := hg.lstAt q (p.at_ ea)
      obtain ⟨xs, rl', hl'⟩ := hg.lstAt q' (p.at_ eb)
      split at heq
      · rename_i w' u' q2 q3
        cases heq
        obtain ⟨v, e1, r1⟩ := rl.get q2
        obtain ⟨v', e1', r1'⟩ := rl'.get q3
        refine ⟨⟨vs, xs, v, v', hl, hl', e1, e1'⟩, fun x H' hy => ?_⟩
        obtain ⟨T, z, z', rfl, hT, rfl, hy, hy'⟩ := hy
        have e2 := hy vs hl
        rw [e1] at e2
        cases e2
        have e2 := hy' xs hl'
        rw [e1'] at e2
        cases e2
        exact ⟨ι' ++ [T], Pre.snoc _ _, hg.newW T, hg.new hT rfl ⟨_, .cons (r1.mono (Pre.snoc _ _)) (.cons (r1'.mono (Pre.snoc _ _)) .nil), upd_same⟩⟩
      · cases heq
    · cases heq
  · trivial
section
variable {X : Cx} {Wx : WX} {pos p2 p : Pos} {a b c e tg : Expr} {ma mb mc m : ME} {es : List Expr} {mas mks : MA}
theorem m_iLst (he : PE X e (tM X.K Wx m)) : PI X tg e (tMi X.K Wx (iLst m)) := pi_imp (pi_list he) fun σ H R ⟨ι, ρ, g, hs, hg, h⟩ => by
  refine tM_mono (go1 hs hg h) fun x H1 ⟨ι1, w1, g1, p1, r1, hg1, h1⟩ => ?_
  dsimp only at h1
  split at h1
  · obtain ⟨a', ea, rfl⟩ := r1
    split at h1
    · rename_i ws q
      obtain ⟨vs, rl, hl⟩ := hg1.lstAt q ea
      exact ⟨a', rfl, ⟨vs, hl⟩, h1 ι1 _ _ (Pre.refl _) (itR_lst ea) hg1⟩
    · exact h1.elim
  · exact h1.elim
theorem m_iTup (he : PE X e (tM X.K Wx m)) : PI X tg e (tMi X.K Wx (iTup m)) := pi_imp (pi_tup he) fun σ H R ⟨ι, ρ, g, hs, hg, h⟩ => by
  refine tM_mono (go1 hs hg h) fun x H1 ⟨ι1, w1, g1, p1, r1, hg1, h1⟩ => ?_
  dsimp only at h1
  split at h1
  · obtain ⟨a', ea, rfl⟩ := r1
    split at h1
    · rename_i ws q
      obtain ⟨vs, rl, hl⟩ := hg1.tupAt q ea
      exact ⟨a', rfl, ⟨vs, hl⟩, h1 ι1 _ _ (Pre.refl _) (itR_tup ea) hg1⟩
    · exact h1.elim
  · exact h1.elim
theorem inR_of {i : Int} (h : inR i = true) : -(2 ^ 62) ≤ i ∧ i < 2 ^ 62 := by
  unfold inR at h
  simp only [Bool.and_eq_true, decide_eq_true_eq] at h
  exact h
theorem m_iRng1 (hm : X.mg "range" = none) (ha : PA X [a] (tMa X.K Wx mas)) (hg : Gl X "range" := by rfl) (hs : starEach [a] X.env = [(false, eval a X.env)] := by rfl) : PI X tg (.Call (.Name "range" p) [a] [] pos) (tMi X.K Wx (iRng1 mas)) :=
  pi_imp (pi_range1 hg hm ha hs) fun σ H R ⟨ι, ρ, g, hs, hg, h⟩ => by
    refine tMa_mono (goA hs hg h) fun x H1 ⟨ι1, w1, g1, p1, r1, hg1, h1⟩ => ?_
    dsimp only at h1
    split at h1
    · obtain ⟨v, rfl, r⟩ := relL1 r1
      cases (show v = _ from r)
      split at h1
      · rename_i hz
        obtain ⟨z1, z2⟩ := inR_of hz
        exact ⟨_, rfl, z1, z2, h1 ι1 _ _ (Pre.refl _) (itR_rng _ _) hg1⟩
      · exact h1.elim
    · exact h1.elim
theorem m_iRng2 (hm : X.mg "range" = none) (ha : PA X [a, b] (tMa X.K Wx mas)) (hg : Gl X "range" := by rfl) (hs : starEach [a, b] X.env = [(false, eval a X.env), (false, eval b X.env)] := by rfl) (hs2 : starEach [b] X.env = [(false, eval b X.env)] := by rfl) :
    PI X tg (.Call (.Name "range" p) [a, b] [] pos) (tMi X.K Wx (iRng2 mas)) :=
  pi_imp (pi_range2 hg hm ha hs hs2) fun σ H R ⟨ι, ρ, g, hs, hg, h⟩ => by
    refine tMa_mono (goA hs hg h) fun x H1 ⟨ι1, w1, g1, p1, r1, hg1, h1⟩ => ?_
    dsimp only at h1
    split at h1
    · obtain ⟨v, v', rfl, r, r'⟩ := relL2 r1
      cases (show v = _ from r)
      cases (show v' = _ from r')
      split at h1
      · rename_i hz
        rw [Bool.and_eq_true] at hz
        obtain ⟨z1, z2⟩ := inR_of hz.1
        obtain ⟨z3, z4⟩ := inR_of hz.2
        exact ⟨_, _, rfl, ⟨z1, z2, z3, z4⟩, h1 ι1 _ _ (Pre.refl _) (itR_rng _ _) hg1⟩
      · exact h1.elim
    · exact h1.elim
theorem relL3 {K : Frag} {ι : List Addr} {w w' w'' : W} {vs : List V} (r : RelL K ι [w, w', w''] vs) : ∃ v v' v'', vs = [v, v', v''] ∧ RelW K ι w v ∧ RelW K ι w' v' ∧ RelW K ι w'' v'' := by
  cases r with
  | cons r t =>
    obtain ⟨v', v'', rfl, r', r''⟩ := relL2 t
    exact ⟨_, _, _, rfl, r, r', r''⟩
theorem m_iRng3 (hm : X.mg "range" = none) (ha : PA X [a, b, c] (tMa X.K Wx mas)) (hg : Gl X "range" := by rfl) (hs : starEach [a, b, c] X.env = (false, eval a X.env) :: starEach [b, c] X.env := by rfl) (hpl : (backTo pos (starEach [b, c] X.env)).any (·.1) = false := by rfl) :
    PI X tg (.Call (.Name "range" p) [a, b, c] [] pos) (tMi X.K Wx (iRng3 mas)) :=
  pi_imp (pi_range3 hg hm ha hs hpl) fun σ H R ⟨ι, ρ, g, hs, hg, h⟩ => by
    refine tMa_mono (goA hs hg h) fun x H1 ⟨ι1, w1, g1, p1, r1, hg1, h1⟩ => ?_
    dsimp only at h1
    split at h1
    · obtain ⟨v, v', v'', rfl, r, r', r''⟩ := relL3 r1
      cases (show v = _ from r)
      cases (show v' = _ from r')
      cases (show v'' = _ from r'')
      split at h1
      · rename_i hz
        rw [Bool.and_eq_true, Bool.and_eq_true] at hz
        obtain ⟨z1, z2⟩ := inR_of hz.1.1
        obtain ⟨z3, z4⟩ := inR_of hz.1.2
        have z5 := of_decide_eq_true hz.2
        subst z5
        exact ⟨_, _, _, _, rfl, RgC.neg z1 z2 z3 z4, h1 ι1 _ _ (Pre.refl _) (itR_rngC _ _ _) hg1⟩
      · exact h1.elim
    · exact h1.elim
theorem m_iEnum {elts : List Expr} {kk : Nat} {tpos : Pos} (hm : X.mg "enumerate" = none) (ha : PA X [e] (tMa X.K Wx mas)) (hg : Gl X "enumerate" := by rfl) (hs : starEach [e] X.env = [(false, eval e X.env)] := by rfl) : PI X (.Tuple elts kk tpos) (.Call (.Name "enumerate" p) [e] [] pos) (tMi X.K Wx (iEnum mas)) :=
  pi_imp (pi_enum hg hm ha hs) fun σ H R ⟨ι, ρ, g, hs, hg, h⟩ => by
    refine tMa_mono (goA hs hg h) fun x H1 ⟨ι1, w1, g1, p1, r1, hg1, h1⟩ => ?_
    dsimp only at h1
    split at h1
    · obtain ⟨v, rfl, r⟩ := relL1 r1
      obtain ⟨a', ea, rfl⟩ := r
      split at h1
      · rename_i ws q
        obtain ⟨vs, rl, hl⟩ := hg1.lstAt q ea
        exact ⟨_, _, rfl, hl, h1 ι1 _ _ (Pre.refl _) (itR_enum ea) hg1⟩
      · exact h1.elim
    · exact h1.elim
theorem m_iZip {elts : List Expr} {kk : Nat} {tpos : Pos} (hm : X.mg "zip" = none) (ha : PA X [a, b] (tMa X.K Wx mas)) (hg : Gl X "zip" := by rfl) (hs : starEach [a, b] X.env = (false, eval a X.env) :: starEach [b] X.env := by rfl) (hpl : (backTo pos (starEach [b] X.env)).any (·.1) = false := by rfl) :
    PI X (.Tuple elts kk tpos) (.Call (.Name "zip" p) [a, b] [] pos) (tMi X.K Wx (iZip mas)) :=
  pi_imp (pi_zip hg hm ha hs hpl) fun σ H R ⟨ι, ρ, g, hs, hg, h⟩ => by
    refine tMa_mono (goA hs hg h) fun x H1 ⟨ι1, w1, g1, p1, r1, hg1, h1⟩ => ?_
    dsimp only at h1
    split at h1
    · obtain ⟨v, v', rfl, r, r'⟩ := relL2 r1
      obtain ⟨a', ea, rfl⟩ := r
      obtain ⟨b', eb, rfl⟩ := r'
      split at h1
      · rename_i ws us q q'
        obtain ⟨vs, rl, hl⟩ := hg1.lstAt q ea
        obtain ⟨xs, rl', hl'⟩ := hg1.lstAt q' eb
        exact ⟨_, _, _, _, rfl, hl, hl', h1 ι1 _ _ (Pre.refl _) (itR_zip ea eb) hg1⟩
      · exact h1.elim
    · exact h1.elim
/-! ### targets -/
/-- only the slots vs may have changed -/
def Ch (vs : List Nat) (σ σ' : L2.St) : Prop := σ'.length = σ.length ∧ ∀ i, i ∉ vs → σ'[i]? = σ[i]?
theorem Ch.refl (vs : List Nat) (σ : L2.St) : Ch vs σ σ := ⟨rfl, fun _ _ => rfl⟩
theorem Ch.trans {vs : List Nat} {a b c : L2.St} (h : Ch vs a b) (h' : Ch vs b c) : Ch vs a c := ⟨h'.1.trans h.1, fun i hi => (h'.2 i hi).trans (h.2 i hi)⟩
theorem Ch.set {vs : List Nat} {σ : L2.St} {i : Nat} (hi : i ∈ vs) (v : Option V) : Ch vs σ (σ.set i v) := ⟨by simp, fun j hj => by
  have : i ≠ j := fun z => hj (z ▸ hi)
  rw [List.getElem?_set_ne this]⟩
theorem wipe_in {σ : L2.St} {i : Nat} : ∀ {vs : List Nat}, i ∈ vs → i < σ.length → (L2.wipe σ vs)[i]? = some none
  | [], h, _ => nomatch h
  | v :: vs, h, hl => by
    show ((L2.wipe σ vs).set v none)[i]? = some none
    by_cases q : v = i
    · subst q
      rw [List.getElem?_set_self (by rw [wipe_length]; exact hl)]
    · rw [List.getElem?_set_ne q]
      rcases List.mem_cons.mp h with rfl | h
      · exact absurd rfl q
      · exact wipe_in h hl
theorem Ch.wipe {vs : List Nat} {σ σ' : L2.St} (h : Ch vs σ σ') : L2.wipe σ' vs = L2.wipe σ vs := by
  apply List.ext_getElem?
  intro i
  by_cases hi : i ∈ vs
  · by_cases hl : i < σ.length
    · rw [wipe_in hi hl, wipe_in hi (by rw [h.1]; exact hl)]
    · rw [List.getElem?_eq_none_iff.mpr (by rw [wipe_length, h.1]; omega), List.getElem?_eq_none_iff.mpr (by rw [wipe_length]; omega)]
  · rw [wipe_out hi, wipe_out hi, h.2 i hi]
theorem wipe_wipe (σ : L2.St) (vs : List Nat) : L2.wipe (L2.wipe σ vs) vs = L2.wipe σ vs := Ch.wipe ⟨wipe_length σ vs, fun i hi => wipe_out hi⟩
def tMgV (K : Frag) (vs : List Nat) (t : MG) : TG := fun v σ H Q => ∃ ι w ρ g, RelW K ι w v ∧ RelS K ι ρ σ ∧ RelG K ι g H ∧ Aft K ι (fun _ _ _ => False) (fun κ (ρ' : Env) (σ' : L2.St) => RelS K κ ρ' σ' ∧ Ch vs σ σ') (t w ρ g) Q
variable {vs : List Nat} {g1 : MG} {gs : List MG}
theorem m_gName (i : Nat) {x : PySem.Str} (hN : X.N.Nodup) (hi : X.N[i]? = some x := by rfl) (hx : Loc X.env.scope x := by first | exact Or.inl rfl | exact Or.inr rfl) (hv : i ∈ vs := by decide) (hf : X.fn x = true ∨ X.env.scope.names.lookup x = some .local := by first | exact .inl rfl | exact .inr rfl | assumption) :
    PG X (.Name x pos) (tMgV X.K vs (M.gName i)) := pg_imp (pg_name hN hi hx hf) fun v σ H Q ⟨ι, w, ρ, g, r, hs, hg, h⟩ => h ι _ _ (Pre.refl _) ⟨hs.put i r, Ch.set hv _⟩ hg
def tMgs (K : Frag) (vs : List Nat) (ts : List MG) : TGs := fun xs σ H Q => ∃ ι ws ρ g, RelL K ι ws xs ∧ RelS K ι ρ σ ∧ RelG K ι g H ∧ Aft K ι (fun _ _ _ => False) (fun κ (ρ' : Env) (σ' : L2.St) => RelS K κ ρ' σ' ∧ Ch vs σ σ') (gTups ts ws ρ g) Q
theorem pgs_imp {es : List Expr} {t t' : TGs} (h : PGs X es t) (i : ∀ xs σ H Q, t' xs σ H Q → t xs σ H Q) : PGs X es t' := ⟨fun pins s σ H xs us Q I r q => h.run pins s σ H xs us Q I r (i xs σ H Q q)⟩
theorem m_gnil : PGs X [] (tMgs X.K vs []) := pgs_imp pgs_nil fun xs σ H Q ⟨ι, ws, ρ, g, r, hs, hg, h⟩ => by
  cases r with
  | nil => exact ⟨rfl, h ι _ _ (Pre.refl _) ⟨hs, Ch.refl _ _⟩ hg⟩
  | cons r t => exact h.elim
theorem m_gcons (h1 : PG X e (tMgV X.K vs g1)) (h2 : PGs X es (tMgs X.K vs gs)) (hs : (assignEach (e :: es) X.env).map (·.2) = assign e X.env :: (assignEach es X.env).map (·.2) := by rfl) : PGs X (e :: es) (tMgs X.K vs (g1 :: gs)) :=
  pgs_imp (pgs_cons h1 h2 hs) fun xs σ H Q ⟨ι, ws, ρ, g, r, hs, hg, h⟩ => by
    cases r with
    | nil => exact h.elim
    | cons r t =>
      have h : Aft X.K ι (fun _ _ _ => False) (fun κ (ρ' : Env) (σ' : L2.St) => RelS X.K κ ρ' σ' ∧ Ch vs σ σ') ((g1 _ ρ g).bind fun ρ1 g1 => gTups gs _ ρ1 g1) Q := h
      refine ⟨_, _, rfl, ι, _, ρ, g, r, hs, hg, ?_⟩
      refine Aft.mono (Aft.of_bind (Rl := fun κ (ρ' : Env) (σ' : L2.St) => RelS X.K κ ρ' σ' ∧ Ch vs σ σ') h) fun σ1 H1 ⟨ι1, ρ1, g1', p1, r1, hg1, h1⟩ => ?_
      refine ⟨ι1, _, ρ1, g1', RelL.mono p1 t, r1.1, hg1, ?_⟩
      dsimp only at h1
      revert h1
      generalize gTups gs _ ρ1 g1' = rr
      intro h1
      cases rr with
      | ok w g => exact fun κ v H p q z => h1 κ v H p ⟨q.1, r1.2.trans q.2⟩ z
      | ex e g => exact h1
      | bad => exact h1
theorem gTups_len {gs : List MG} {ws : List W} {ρ : Env} {g : G} : True := trivial
theorem m_gTup {k : Nat} (hc : X.calm = true) (h : PGs X es (tMgs X.K vs gs)) (hl : gs.length = es.length := by rfl) (hn : (assignEach es X.env).length = es.length := by rfl) (hst : (assignEach es X.env).findIdx? (·.1) = none := by rfl) : PG X (.Tuple es k pos) (tMgV X.K vs (M.gTup gs)) :=
  pg_imp (pg_tup hc h hn hst) fun v σ H Q ⟨ι, w, ρ, g, r, hs, hg, h⟩ => by
    unfold M.gTup at h
    split at h
    · obtain ⟨a', ea, rfl⟩ := r
      split at h
      · rename_i ws q
        split at h
        · rename_i hz
          obtain ⟨us, rl, hu⟩ := hg.tupAt q ea
          exact ⟨a', us, rfl, hu, by rw [← rl.length, hz, hl], ι, ws, ρ, g, rl, hs, hg, h⟩
        · exact h.elim
      · exact h.elim
    · exact h.elim
theorem m_gSub (ho : PE X a (tM X.K (fun _ _ _ _ => False) ma)) (hi : PE X b (tM X.K (fun _ _ _ _ => False) mb)) (ha : ∀ v, assign (.Subscript a b pos) X.env v = (do
      let ov ← holding [v] (eval a X.env)
      let iv ← holding [v, ov] (eval b X.env)
      standAt pos
      holding [v, ov, iv] (setItem ov iv v)
      release [v, ov, iv] []) := by intro _; rfl) : PG X (.Subscript a b pos) (tMgV X.K vs (M.gSub ma mb)) := pg_imp (pg_sub ho hi set_list ha) fun v σ H Q ⟨ι, w, ρ, g, r, hs, hg, h⟩ => by
  refine tM_mono (go1 (Wx := fun _ _ _ _ => False) hs hg h) fun x H1 ⟨ι1, w1, g1, p1, r1, hg1, h1⟩ => ?_
  refine tM_mono (go1 (Wx := fun _ _ _ _ => False) (hs.mono p1) hg1 h1) fun y H2 ⟨ι2, w2, g2, p2, r2, hg2, h2⟩ => ?_
  dsimp only at h2
  split at h2
  · obtain ⟨a', ea, rfl⟩ := r1
    cases (show y = _ from r2)
    split at h2
    · rename_i ws q
      split at h2
      · rename_i j q2
        obtain ⟨us, rl, hl⟩ := hg2.lst q (p2.at_ ea)
        refine ⟨_, _, _, j, rfl, rfl, hl, by rw [← rl.length]; exact q2, ?_⟩
        exact h2 ι2 _ _ (Pre.refl _) ⟨hs.mono (p1.trans p2), Ch.refl _ _⟩ (hg2.put q (p2.at_ ea) rfl rfl ⟨_, RelL.set (r.mono (p1.trans p2)) j rl, upd_same⟩)
      · exact h2.elim
    · exact h2.elim
  · exact h2.elim
/-! ### comprehensions -/
abbrev WF : WX := fun _ _ _ _ => False
theorem lc_imp {K : Frag} {mi : MI} {own : List Nat} {tgt : MG} {tt : MT} {el : ME} {σ : L2.St} {H : Hp} {Q : VK} (h : tM K Wx (mLc mi own tgt tt el) σ H Q) : tLc (tMi K Wx mi) (tMgV K own tgt) (tMt K WF tt) (tM K WF el) own σ H Q := by
  obtain ⟨ι, ρ, g, hs, hg, h⟩ := h
  refine ⟨ι, ρ, g, hs, hg, (Aft.of_bind (Rl := ItR K) h).mono fun J H1 ⟨ι1, it, g1, p1, rJ, hg1, h1⟩ D hD => ?_⟩
  have hs0 : RelS K ι1 (M.wipe ρ own) (L2.wipe σ own) := (hs.mono p1).wipe own
  refine ⟨fun i m H => ∃ ι' g', Pre ι1 ι' ∧ RelG K ι' g' H ∧ ι'[g1.length]? = some D ∧ Aft K ι' (fun c d H => Wx c d σ H) (RelW K) (lcGo it tgt tt el (M.wipe ρ own) g1.length m i g') Q, ⟨_, ι1 ++ [D], _, Pre.snoc _ _, hg1.newL hD .nil, hg1.newAt D, h1.pre (Pre.snoc _ _)⟩, fun i m H2 hW => ?_⟩
  obtain ⟨ι2, g2, p2, hg2, eD, h2⟩ := hW
  have hJ := rJ ι2 g2 H2 p2 hg2 i
  cases m with
  | zero =>
    unfold lcGo at h2
    split at h2
    · rename_i q
      rw [q] at hJ
      exact .inl ⟨hJ, h2 ι2 _ _ (Pre.refl _) ⟨D, eD, rfl⟩ hg2⟩
    · exact h2.elim
  | succ m =>
    unfold lcGo at h2
    split at h2
    · rename_i q
      rw [q] at hJ
      exact .inl ⟨hJ, h2 ι2 _ _ (Pre.refl _) ⟨D, eD, rfl⟩ hg2⟩
    · exact h2.elim
    · rename_i w g3 q
      rw [q] at hJ
      obtain ⟨hgo, hy⟩ := hJ
      refine .inr ⟨hgo, fun H' => ∃ ι' g', Pre ι1 ι' ∧ RelG K ι' g' H' ∧ ι'[g1.length]? = some D ∧ Aft K ι' (fun c d H => Wx c d σ H) (RelW K) (lcGo it tgt tt el (M.wipe ρ own) g1.length m (i + 1) g') Q, fun H' hN => ⟨m, Nat.lt_succ_self m, hN⟩, fun x H' hyld => ?_⟩
      obtain ⟨ι3, p3, r3, hg3⟩ := hy x H' hyld
      split at h2
      · rename_i ρ1 g4 q4
        refine ⟨ι3, w, _, g3, r3, hs0.mono (p2.trans p3), hg3, ?_⟩
        rw [q4]
        intro ι4 σ2 H4 p4 r4 hg4
        refine ⟨by rw [r4.2.wipe, wipe_wipe], ι4, ρ1, g4, r4.1, hg4, ?_⟩
        split at h2
        · rename_i g5 q5
          rw [q5]
          intro ι5 b H5 p5 r5 hg5
          subst r5
          rw [if_pos rfl]
          split at h2
          · rename_i y g6 q6
            refine ⟨ι5, ρ1, g5, r4.1.mono p5, hg5, ?_⟩
            rw [q6]
            intro ι6 v H6 p6 r6 hg6
            split at h2
            · rename_i acc q7
              split at h2
              · rename_i hz
                have e6 : ι6[g1.length]? = some D := p6.at_ (p5.at_ (p4.at_ (p3.at_ eD)))
                obtain ⟨us, rl, hl⟩ := hg6.lst q7 e6
                refine ⟨us, hl, by rw [← rl.length]; exact sz_lt hz, ι6, _, p2.trans (p3.trans (p4.trans (p5.trans p6))), hg6.putL q7 e6 (rl.append (.cons r6 .nil)), e6, h2.pre (p3.trans (p4.trans (p5.trans p6)))⟩
              · exact h2.elim
            · exact h2.elim
          · exact h2.elim
        · rename_i g5 q5
          rw [q5]
          intro ι5 b H5 p5 r5 hg5
          subst r5
          rw [if_neg Bool.false_ne_true]
          exact ⟨ι5, g5, p2.trans (p3.trans (p4.trans p5)), hg5, p5.at_ (p4.at_ (p3.at_ eD)), h2.pre (p3.trans (p4.trans p5))⟩
        · exact h2.elim
      · exact h2.elim
theorem m_lc {elt iter : Expr} {ifs : List Expr} {scope : Scope} {own : List (PySem.Str × Nat)} {mi : MI} {tgt : MG} {tt : MT} {el : ME} (hN : X.N.Nodup) (hi : PI X tg iter (tMi X.K Wx mi)) (ok : BlkOk X.N X.env.scope scope own)
    (hg : ∀ (s : Shared) (H : Hp) (C : Addr) (cl : List (PySem.Str × Addr)) (fp : List Addr), PG (X.blk s H scope (compEnvC scope cl C X.env) fp) tg (tMgV X.K (own.map (·.2)) tgt)) (ht : ∀ (s : Shared) (H : Hp) (C : Addr) (cl : List (PySem.Str × Addr)) (fp : List Addr), PTs (X.blk s H scope (compEnvC scope cl C X.env) fp) ifs (tMt X.K WF tt))
    (he : ∀ (s : Shared) (H : Hp) (C : Addr) (cl : List (PySem.Str × Addr)) (fp : List Addr), PE (X.blk s H scope (compEnvC scope cl C X.env) fp) elt (tM X.K WF el)) (hc : X.calm = true := by rfl) (hs : ∀ x, foldedSetIterable iter X.env x = pure x := by intro _; rfl) :
    PE X (.ListComp elt [⟨tg, iter, ifs, 0⟩] scope pos) (tM X.K Wx (mLc mi (own.map (·.2)) tgt tt el)) := pe_imp (pe_lc hc hN hi ok hg ht he hs) fun _ _ _ h => lc_imp h
theorem pts_imp {ifs : List Expr} {t t' : TT} (h : PTs X ifs t) (i : ∀ σ H Q, t' σ H Q → t σ H Q) : PTs X ifs t' := ⟨fun pins s σ H Q I q => h.run pins s σ H Q I (i σ H Q q)⟩
theorem m_tsNil : PTs X [] (tMt X.K Wx M.tYes) := pts_imp pts_nil fun σ H Q ⟨ι, ρ, g, hs, hg, h⟩ => h ι _ _ (Pre.refl _) rfl hg
theorem m_tsOne {tt : MT} (h : PT X c (tMt X.K Wx tt)) : PTs X [c] (tMt X.K Wx tt) := pts_one h
/-! ### statements -/
variable {st : Stmt} {rest sa sb : List Stmt} {s1 s2 sm : MS} {tt : MT}
theorem m_nil : PSs X [] (tMs X.K Wx sNop) := pss_imp pss_nil fun D σ H ⟨ι, ρ, g, hs, hg, h⟩ => h ι _ _ (Pre.refl _) hs hg
theorem m_pass : PS X (.Pass pos) (tMs X.K Wx sNop) := ps_imp ps_pass fun D σ H ⟨ι, ρ, g, hs, hg, h⟩ => h ι _ _ (Pre.refl _) hs hg
theorem AftS.mono {K : Frag} {ι : List Addr} {r : SR} {D D' : Ends} (h : AftS K ι Wx r D) (h1 : ∀ σ H, D.nx σ H → D'.nx σ H) (h2 : ∀ v H, D.rt v H → D'.rt v H) (h3 : ∀ σ H, D.bk σ H → D'.bk σ H) (h4 : ∀ σ H, D.ct σ H → D'.ct σ H) : AftS K ι Wx r D' := by
  cases r with
  | fl f g => cases f with
    | nx ρ => exact fun κ σ H q a b => h1 σ H (h κ σ H q a b)
    | rt w => exact fun κ σ H q a b => h2 σ H (h κ σ H q a b)
    | bk ρ => exact fun κ σ H q a b => h3 σ H (h κ σ H q a b)
    | ct ρ => exact fun κ σ H q a b => h4 σ H (h κ σ H q a b)
  | ex e ρ g => exact h
  | bad => exact h
theorem m_cons (h1 : PS X st (tMs X.K Wx s1)) (h2 : PSs X rest (tMs X.K Wx s2)) : PSs X (st :: rest) (tMs X.K Wx (sSeq s1 s2)) := pss_imp (pss_cons h1 h2) fun D σ H ⟨ι, ρ, g, hs, hg, h⟩ => by
  refine ⟨ι, ρ, g, hs, hg, ?_⟩
  unfold sSeq at h
  split at h
  · rename_i ρ1 g1 q
    rw [q]
    exact fun κ σ' H' p r hg' => ⟨κ, ρ1, g1, r, hg', h.pre p⟩
  · rename_i r q
    revert h
    cases rr : s1 ρ g with
    | fl f g => cases f with
      | nx ρ => exact absurd rr (q _ _)
      | rt w => exact fun h => h
      | bk ρ => exact fun h => h
      | ct ρ => exact fun h => h
    | ex e ρ g => exact fun h => h
    | bad => exact fun h => h
theorem m_sone (h1 : PS X st (tMs X.K Wx s1)) : PSs X [st] (tMs X.K Wx s1) := pss_one h1
theorem m_doc {x : PySem.Str} {j : Nat} {pos' : Pos} : PS X (.Expr (.Constant (.str x) j pos) pos') (tMs X.K Wx sNop) := ps_imp ps_doc fun D σ H ⟨ι, ρ, g, hs, hg, h⟩ => h ι _ _ (Pre.refl _) hs hg
theorem m_expr (he : PE X e (tM X.K Wx m)) (hs : swapsWith e none pos.line X.env = pure false := by rfl) : PS X (.Expr e pos) (tMs X.K Wx (sE m)) := ps_imp (ps_expr he hs) fun D σ H ⟨ι, ρ, g, hs, hg, h⟩ => by
  refine ⟨ι, ρ, g, hs, hg, ?_⟩
  unfold sE at h
  split at h
  · rename_i w g1 q
    rw [q]
    exact fun κ v H' p r hg' => h κ σ H' p (hs.mono p) hg'
  · rename_i x g1 q
    rw [q]
    exact fun κ c d H' p r hg' => h κ σ c d H' p (hs.mono p) r hg'
  · exact h.elim
theorem m_ret (he : PE X e (tM X.K Wx m)) : PS X (.Return (some e) pos) (tMs X.K Wx (sRet m)) := ps_imp (ps_ret he) fun D σ H ⟨ι, ρ, g, hs, hg, h⟩ => by
  refine ⟨ι, ρ, g, hs, hg, ?_⟩
  unfold sRet at h
  split at h
  · rename_i w g1 q
    rw [q]
    exact h
  · rename_i x g1 q
    rw [q]
    exact fun κ c d H' p r hg' => h κ σ c d H' p (hs.mono p) r hg'
  · exact h.elim
theorem m_if (hc : PT X c (tMt X.K Wx tt)) (ha : PSs X sa (tMs X.K Wx s1)) (hb : PSs X sb (tMs X.K Wx s2)) : PS X (.If c sa sb pos) (tMs X.K Wx (sIf tt s1 s2)) := ps_imp (ps_if hc ha hb) fun D σ H ⟨ι, ρ, g, hs, hg, h⟩ => by
  refine ⟨ι, ρ, g, hs, hg, ?_⟩
  unfold sIf at h
  split at h
  · rename_i w g1 q
    rw [q]
    intro κ v H' p r hg'
    subst r
    cases w with
    | true =>
      rw [if_pos rfl]
      exact ⟨κ, ρ, g1, hs.mono p, hg', h.pre p⟩
    | false =>
      rw [if_neg Bool.false_ne_true]
      exact ⟨κ, ρ, g1, hs.mono p, hg', h.pre p⟩
  · rename_i x g1 q
    rw [q]
    exact fun κ c d H' p r hg' => h κ σ c d H' p (hs.mono p) r hg'
  · exact h.elim
theorem asg_imp {K : Frag} {tgt : MG} {D : Ends} {σ : L2.St} {H : Hp} (h : tMs K Wx (sAsg m tgt) D σ H) : tAsg (tM K Wx m) (tMgV K vs tgt) D σ H := by
  obtain ⟨ι, ρ, g, hs, hg, h⟩ := h
  refine ⟨ι, ρ, g, hs, hg, ?_⟩
  unfold sAsg at h
  split at h
  · rename_i w g1 q
    rw [q]
    intro κ v H' p r hg'
    refine ⟨κ, w, ρ, g1, r, hs.mono p, hg', ?_⟩
    split at h
    · rename_i ρ1 g2 q2
      rw [q2]
      exact fun κ' σ' H' p' r' hg' => h κ' σ' H' (p.trans p') r'.1 hg'
    · exact h.elim
  · rename_i x g1 q
    rw [q]
    exact fun κ c d H' p r hg' => h κ σ c d H' p (hs.mono p) r hg'
  · exact h.elim
theorem m_asg {tgt : MG} (he : PE X e (tM X.K Wx m)) (hg : PG X tg (tMgV X.K vs tgt)) (hs : swapsWithSole [tg] e pos.line X.env = pure false := by rfl) (hw : swappedStores [tg] e X.env = pure none := by rfl)
    (h1 : (assignEach [tg] X.env).map (·.2) = [assign tg X.env] := by rfl) : PS X (.Assign [tg] e pos) (tMs X.K Wx (sAsg m tgt)) := ps_imp (ps_asg he hg hs hw h1) fun _ _ _ h => asg_imp h
theorem set_imp {K : Frag} {i : Nat} {D : Ends} {σ : L2.St} {H : Hp} (h : tMs K Wx (sAsg m (M.gName i)) D σ H) : tAsg (tM K Wx m) (L2.gName i) D σ H := by
  obtain ⟨ι, ρ, g, hs, hg, h⟩ := h
  refine ⟨ι, ρ, g, hs, hg, ?_⟩
  unfold sAsg M.gName at h
  split at h
  · rename_i w g1 q
    rw [q]
    exact fun κ v H' p r hg' => h κ _ H' p ((hs.mono p).put i r) hg'
  · rename_i x g1 q
    rw [q]
    exact fun κ c d H' p r hg' => h κ σ c d H' p (hs.mono p) r hg'
  · exact h.elim
theorem m_set (i : Nat) {x : PySem.Str} {pos' : Pos} (hN : X.N.Nodup) (he : PE X e (tM X.K Wx m)) (hi : X.N[i]? = some x := by rfl) (hx : Loc X.env.scope x := by first | exact Or.inl rfl | exact Or.inr rfl) (hs : swapsWith e (some (.Name x pos')) pos.line X.env = pure false := by rfl) (hf : X.fn x = true ∨ X.env.scope.names.lookup x = some .local := by first | exact .inl rfl | exact .inr rfl | assumption) :
    PS X (.Assign [.Name x pos'] e pos) (tMs X.K Wx (sAsg m (M.gName i))) := ps_imp (ps_set hN hi hx he hs hf) fun _ _ _ h => set_imp h
/-- y = [..] on one line, y a local that no block captures -/
theorem m_setLc (i : Nat) {y : PySem.Str} {py spos : Pos} {elt iter : Expr} {ifs : List Expr} {scope : Scope} {own : List (PySem.Str × Nat)} {mi : MI} {tgt : MG} {tt : MT} {el : ME} (hN : X.N.Nodup) (hi : PI X tg iter (tMi X.K Wx mi)) (ok : BlkOk X.N X.env.scope scope own)
    (hg : ∀ (s : Shared) (H : Hp) (C : Addr) (cl : List (PySem.Str × Addr)) (fp : List Addr), PG (X.blk s H scope (compEnvC scope cl C X.env) fp) tg (tMgV X.K (own.map (·.2)) tgt)) (ht : ∀ (s : Shared) (H : Hp) (C : Addr) (cl : List (PySem.Str × Addr)) (fp : List Addr), PTs (X.blk s H scope (compEnvC scope cl C X.env) fp) ifs (tMt X.K WF tt))
    (he : ∀ (s : Shared) (H : Hp) (C : Addr) (cl : List (PySem.Str × Addr)) (fp : List Addr), PE (X.blk s H scope (compEnvC scope cl C X.env) fp) elt (tM X.K WF el))
    (hsw : swapsWith (.ListComp elt [⟨tg, iter, ifs, 0⟩] scope pos) (some (.Name y py)) spos.line X.env = pure true := by exact sw_true rfl rfl rfl (by decide +kernel)) (hy : X.N[i]? = some y := by rfl) (hyl : X.env.scope.names.lookup y = some .local := by rfl) (hc : X.calm = true := by rfl) (hs : ∀ x, foldedSetIterable iter X.env x = pure x := by intro _; rfl) :
    PS X (.Assign [.Name y py] (.ListComp elt [⟨tg, iter, ifs, 0⟩] scope pos) spos) (tMs X.K Wx (sAsg (mLc mi (own.map (·.2)) tgt tt el) (M.gName i))) :=
  ps_imp (ps_setLc hc hN hy hyl hsw hi ok hg ht he hs) fun D σ H h => by
    have h2 := set_imp h
    unfold tAsg at h2 ⊢
    exact lc_imp h2
theorem m_aug (i : Nat) {x : PySem.Str} {op : Operator} {f : W → W → G → Res W} {pos' : Pos} (hN : X.N.Nodup) (he : PE X e (tM X.K Wx m)) (ho : PIp X op (rM2 X.K f)) (hi : X.N[i]? = some x := by rfl) (hx : Loc X.env.scope x := by first | exact Or.inl rfl | exact Or.inr rfl) (hf : X.fn x = true ∨ X.env.scope.names.lookup x = some .local := by first | exact .inl rfl | exact .inr rfl | assumption) :
    PS X (.AugAssign (.Name x pos') op e pos) (tMs X.K Wx (sAug i f m)) := ps_imp (ps_aug hN hi hx he ho hf) fun D σ H ⟨ι, ρ, g, hs, hg, h⟩ => by
  unfold sAug at h
  split at h
  · rename_i w q0
    obtain ⟨v0, e0, r0⟩ := hs.at_ i w q0
    refine ⟨v0, e0, ι, ρ, g, hs, hg, ?_⟩
    split at h
    · rename_i y g1 q
      rw [q]
      intro κ v H' p r hg'
      refine ⟨fun c d H => Wx c d σ H, κ, w, y, g1, r0.mono p, r, hg', ?_⟩
      split at h
      · rename_i z g2 q2
        rw [q2]
        exact fun κ' v' H' p' r' hg' => h κ' _ H' (p.trans p') ((hs.mono (p.trans p')).put i r') hg'
      · rename_i x g2 q2
        rw [q2]
        exact fun κ' c d H' p' r' hg' => h κ' σ c d H' (p.trans p') (hs.mono (p.trans p')) r' hg'
      · exact h.elim
    · rename_i x g1 q
      rw [q]
      exact fun κ c d H' p r hg' => h κ σ c d H' p (hs.mono p) r hg'
    · exact h.elim
  · exact h.elim
/-- a, b = x, y, both locals -/
theorem m_par (i j : Nat) {x y : PySem.Str} {px py pt : Pos} {kt k2 : Nat} {pt2 : Pos} (hN : X.N.Nodup) (ha : PA X [a, b] (tMa X.K Wx mas)) (hij : i ≠ j := by decide)
    (hw : swappedStores [.Tuple [.Name x px, .Name y py] kt pt] (.Tuple [a, b] k2 pt2) X.env = pure (some [x, y]) := by rfl) (hi : X.N[i]? = some x := by rfl) (hj : X.N[j]? = some y := by rfl) (hx : X.env.scope.names.lookup x = some .local := by rfl) (hy : X.env.scope.names.lookup y = some .local := by rfl) (hc : X.calm = true := by rfl)
    (hs : swapsWithSole [.Tuple [.Name x px, .Name y py] kt pt] (.Tuple [a, b] k2 pt2) pos.line X.env = pure false := by rfl) : PS X (.Assign [.Tuple [.Name x px, .Name y py] kt pt] (.Tuple [a, b] k2 pt2) pos) (tMs X.K Wx (sPar [i, j] mas)) :=
  ps_imp (ps_par hc hN hi hj hij hx hy ha hw hs) fun D σ H ⟨ι, ρ, g, hs, hg, h⟩ => by
    refine ⟨ι, ρ, g, hs, hg, ?_⟩
    unfold sPar at h
    split at h
    · rename_i ws g1 q
      rw [q]
      intro κ vs H' p r hg'
      cases r with
      | nil => exact h.elim
      | cons r t =>
        cases t with
        | nil => exact h.elim
        | cons r' t =>
          cases t with
          | nil => exact ⟨_, _, rfl, h κ _ H' p (((hs.mono p).put i r).put j r') hg'⟩
          | cons _ _ => exact h.elim
    · rename_i x g1 q
      rw [q]
      exact fun κ c d H' p r hg' => h κ σ c d H' p (hs.mono p) r hg'
    · exact h.elim
theorem m_par3 (i j l : Nat) {x y z : PySem.Str} {px py pz pt : Pos} {kt k2 : Nat} {pt2 : Pos} (hN : X.N.Nodup) (ha : PA X [a, b, c] (tMa X.K Wx mas)) (hij : i ≠ j := by decide) (hil : i ≠ l := by decide) (hjl : j ≠ l := by decide)
    (hw : swappedStores [.Tuple [.Name x px, .Name y py, .Name z pz] kt pt] (.Tuple [a, b, c] k2 pt2) X.env = pure (some [x, y, z]) := by rfl) (hi : X.N[i]? = some x := by rfl) (hj : X.N[j]? = some y := by rfl) (hl : X.N[l]? = some z := by rfl) (hx : X.env.scope.names.lookup x = some .local := by rfl) (hy : X.env.scope.names.lookup y = some .local := by rfl) (hz : X.env.scope.names.lookup z = some .local := by rfl) (hc : X.calm = true := by rfl)
    (hs : swapsWithSole [.Tuple [.Name x px, .Name y py, .Name z pz] kt pt] (.Tuple [a, b, c] k2 pt2) pos.line X.env = pure false := by rfl) : PS X (.Assign [.Tuple [.Name x px, .Name y py, .Name z pz] kt pt] (.Tuple [a, b, c] k2 pt2) pos) (tMs X.K Wx (sPar [i, j, l] mas)) :=
  ps_imp (ps_par3 hc hN hi hj hl hij hil hjl hx hy hz ha hw hs) fun D σ H ⟨ι, ρ, g, hs, hg, h⟩ => by
    refine ⟨ι, ρ, g, hs, hg, ?_⟩
    unfold sPar at h
    split at h
    · rename_i ws g1 q
      rw [q]
      intro κ vs H' p r hg'
      cases r with
      | nil => exact h.elim
      | cons r t =>
        cases t with
        | nil => exact h.elim
        | cons r' t =>
          cases t with
          | nil => exact h.elim
          | cons r'' t =>
            cases t with
            | nil => exact ⟨_, _, _, rfl, h κ _ H' p ((((hs.mono p).put i r).put j r').put l r'') hg'⟩
            | cons _ _ => exact h.elim
    · rename_i x g1 q
      rw [q]
      exact fun κ c d H' p r hg' => h κ σ c d H' p (hs.mono p) r hg'
    · exact h.elim
theorem m_break : PS X (.Break pos) (tMs X.K Wx sBrk) := ps_imp ps_break fun D σ H ⟨ι, ρ, g, hs, hg, h⟩ => h ι _ _ (Pre.refl _) hs hg
theorem m_cont : PS X (.Continue pos) (tMs X.K Wx sCnt) := ps_imp ps_continue fun D σ H ⟨ι, ρ, g, hs, hg, h⟩ => h ι _ _ (Pre.refl _) hs hg
theorem m_for {iter : Expr} {body : List Stmt} {mi : MI} {tgt : MG} (hp : PassesOwn (model X.prog X.w) X.A X.env X.xe) (hi : PI X tg iter (tMi X.K Wx mi)) (hg : PG X tg (tMgV X.K vs tgt)) (hb : PSs X body (tMs X.K Wx sm)) (hc : X.calm = true := by rfl) (hs : ∀ x, foldedSetIterable iter X.env x = pure x := by intro _; rfl) :
    PS X (.For tg iter body [] pos) (tMs X.K Wx (sFor mi tgt sm)) := ps_imp (ps_for hp hc hi hg hb hs) fun D σ H ⟨ι, ρ, g, hs, hg, h⟩ => by
  refine ⟨ι, ρ, g, hs, hg, ?_⟩
  unfold sFor at h
  split at h
  · rename_i it g1 q
    rw [q]
    intro ι1 J H1 p1 rJ hg1
    refine ⟨fun i m σ H => ∃ ι' ρ' g', Pre ι1 ι' ∧ RelS X.K ι' ρ' σ ∧ RelG X.K ι' g' H ∧ AftS X.K ι' Wx (forGo it tgt sm m i ρ' g') D, ⟨_, ι1, ρ, g1, Pre.refl _, hs.mono p1, hg1, h.pre p1⟩, fun i m σ2 H2 hW => ?_⟩
    obtain ⟨ι2, ρ2, g2, p2, hs2, hg2, h2⟩ := hW
    have hJ := rJ ι2 g2 H2 p2 hg2 i
    cases m with
    | zero =>
      unfold forGo at h2
      split at h2
      · rename_i q
        rw [q] at hJ
        exact .inl ⟨hJ, h2 ι2 _ _ (Pre.refl _) hs2 hg2⟩
      · exact h2.elim
    | succ m =>
      unfold forGo at h2
      split at h2
      · rename_i q
        rw [q] at hJ
        exact .inl ⟨hJ, h2 ι2 _ _ (Pre.refl _) hs2 hg2⟩
      · exact h2.elim
      · rename_i w g3 q
        rw [q] at hJ
        obtain ⟨hgo, hy⟩ := hJ
        refine .inr ⟨hgo, fun σ' H' => ∃ ι' ρ' g', Pre ι1 ι' ∧ RelS X.K ι' ρ' σ' ∧ RelG X.K ι' g' H' ∧ AftS X.K ι' Wx (forGo it tgt sm m (i + 1) ρ' g') D, fun σ' H' hN => ⟨m, Nat.lt_succ_self m, hN⟩, fun x H' hyld => ?_⟩
        obtain ⟨ι3, p3, r3, hg3⟩ := hy x H' hyld
        split at h2
        · rename_i ρ1 g4 q4
          refine ⟨ι3, w, _, g3, r3, hs2.mono p3, hg3, ?_⟩
          rw [q4]
          intro ι4 σ4 H4 p4 r4 hg4
          refine ⟨ι4, ρ1, g4, r4.1, hg4, ?_⟩
          split at h2
          · rename_i ρ5 g5 q5
            rw [q5]
            exact fun κ σ' H' p r hg' => ⟨κ, ρ5, g5, p2.trans (p3.trans (p4.trans p)), r, hg', h2.pre (p3.trans (p4.trans p))⟩
          · rename_i ρ5 g5 q5
            rw [q5]
            exact fun κ σ' H' p r hg' => ⟨κ, ρ5, g5, p2.trans (p3.trans (p4.trans p)), r, hg', h2.pre (p3.trans (p4.trans p))⟩
          · rename_i ρ5 g5 q5
            rw [q5]
            exact fun κ σ' H' p r hg' => h2 κ σ' H' (p3.trans (p4.trans p)) r hg'
          · rename_i r n1 n2 n3
            have h2 := h2.pre (p3.trans p4)
            revert h2
            cases rr : sm ρ1 g4 with
            | fl f g => cases f with
              | nx ρ => exact absurd rr (n1 _ _)
              | rt w => exact fun h => h
              | bk ρ => exact absurd rr (n3 _ _)
              | ct ρ => exact absurd rr (n2 _ _)
            | ex e ρ g => exact fun h => h
            | bad => exact fun h => h
        · exact h2.elim
  · rename_i x g1 q
    rw [q]
    exact fun κ c d H' p r hg' => h κ σ c d H' p (hs.mono p) r hg'
  · exact h.elim
theorem m_while {body : List Stmt} (hp : PassesOwn (model X.prog X.w) X.A X.env X.xe) (hc : PT X c (tMt X.K Wx tt)) (hb : PSs X body (tMs X.K Wx sm)) : PS X (.While c body [] pos) (tMs X.K Wx (sWhile tt sm)) := ps_imp (ps_while hp hc hb) fun D σ H ⟨ι, ρ, g, hs, hg, h⟩ => by
  refine ⟨fun m σ H => ∃ ι' ρ' g', RelS X.K ι' ρ' σ ∧ RelG X.K ι' g' H ∧ AftS X.K ι' Wx (whileGo tt sm m ρ' g') D, ⟨_, ι, ρ, g, hs, hg, h⟩, fun m σ1 H1 hW => ?_⟩
  obtain ⟨ι1, ρ1, g1, hs1, hg1, h1⟩ := hW
  cases m with
  | zero => exact h1.elim
  | succ m =>
    unfold whileGo at h1
    refine ⟨ι1, ρ1, g1, hs1, hg1, ?_⟩
    split at h1
    · rename_i g2 q
      rw [q]
      intro ι2 b H2 p2 r2 hg2
      subst r2
      rw [if_pos rfl]
      refine ⟨fun σ' H' => ∃ ι' ρ' g', RelS X.K ι' ρ' σ' ∧ RelG X.K ι' g' H' ∧ AftS X.K ι' Wx (whileGo tt sm m ρ' g') D, fun σ' H' hN => ⟨m, Nat.lt_succ_self m, hN⟩, ι2, ρ1, g2, hs1.mono p2, hg2, ?_⟩
      split at h1
      · rename_i ρ5 g5 q5
        rw [q5]
        exact fun κ σ' H' p r hg' => ⟨κ, ρ5, g5, r, hg', h1.pre (p2.trans p)⟩
      · rename_i ρ5 g5 q5
        rw [q5]
        exact fun κ σ' H' p r hg' => ⟨κ, ρ5, g5, r, hg', h1.pre (p2.trans p)⟩
      · rename_i ρ5 g5 q5
        rw [q5]
        exact fun κ σ' H' p r hg' => h1 κ σ' H' (p2.trans p) r hg'
      · rename_i r n1 n2 n3
        have h1 := h1.pre p2
        revert h1
        cases rr : sm ρ1 g2 with
        | fl f g => cases f with
          | nx ρ => exact absurd rr (n1 _ _)
          | rt w => exact fun h => h
          | bk ρ => exact absurd rr (n3 _ _)
          | ct ρ => exact absurd rr (n2 _ _)
        | ex e ρ g => exact fun h => h
        | bad => exact fun h => h
    · rename_i g2 q
      rw [q]
      intro ι2 b H2 p2 r2 hg2
      subst r2
      rw [if_neg Bool.false_ne_true]
      exact h1 ι2 σ1 H2 p2 (hs1.mono p2) hg2
    · rename_i x g2 q
      rw [q]
      exact fun κ c d H' p r hg' => h1 κ σ1 c d H' p (hs1.mono p) r hg'
    · exact h1.elim
/-! ### in-place operators -/
theorem ip_of {op : Operator} {f : W → W → G → Res W} {k : Int → Int → Int} (hr : OpR X (inplaceOp op) (rI0 fun i j => .int (k i j))) (hf : ∀ x y g, f x y g = match x, y with
    | .int i, .int j => .ok (.int (k i j)) g
    | _, _ => .bad) : PIp X op (rM2 X.K f) := by
  intro pins s σ H x y v u Q I rx ry ⟨Wx, ι, wx, wy, g, hx, hy, hg, h⟩
  rw [hf] at h
  split at h
  · cases (show x = _ from hx)
    cases (show y = _ from hy)
    exact hr pins s σ H _ _ v u Q I rx ry ⟨_, _, rfl, rfl, h ι _ H (Pre.refl _) rfl hg⟩
  · exact h.elim
def ipAdd : W → W → G → Res W := fun x y g => match x, y with
  | .int i, .int j => .ok (.int (i + j)) g
  | _, _ => .bad
theorem i_add : PIp X .Add (rM2 X.K ipAdd) := ip_of (k := fun i j => i + j) iop_add fun _ _ _ => rfl
theorem i_sub : PIp X .Sub (rM2 X.K opSub) := ip_of (k := fun i j => i - j) iop_sub fun x y g => by
  unfold opSub
  cases x <;> cases y <;> rfl
end
/-! ### defs -/
def spM (K : Frag) (n : Nat) (f : Fn) : Sp := fun vs H Q E => ∃ ι ws g, RelL K ι ws vs ∧ RelG K ι g H ∧ ws.length = n ∧ Aft K ι E (RelW K) (f ws g) Q
structure DefOk (P : Program) (w : World) (K : Frag) (mg : PySem.Str → Option Value) (base : Heap) (x : PySem.Str) (ps : List PySem.Str) (lv : Nat) (f : Fn) : Prop where
  mg_ : mg x = some (.ref (He.ga K x))
  kp : PySem.W.keepIn K (.ref (He.ga K x)) = true
  ar : ∀ ws g, ws.length ≠ ps.length → f ws g = .bad
  ok : ∃ fd, (some fd = (match K.lookup (He.ga K x) with
      | some ⟨_, _, .func fd, _⟩ => some fd
      | _ => none) ∧ ∀ (s : Shared) (us : List Value), us.length = ps.length → BindsTo s fd ⟨us, []⟩ (ps.zip us)) ∧ FnOk P w K mg base (L2.CX P w) lv (He.ga K x) fd ps (spM K ps.length f)
theorem relS_start {K : Frag} {ι : List Addr} {N : List PySem.Str} {ws : List W} {vs : List V} (r : RelL K ι ws vs) : RelS K ι (startM N.length ws) (L2.start N vs) := by
  unfold startM L2.start
  rw [← r.length]
  refine ⟨by simp [r.length], fun i w e => ?_⟩
  by_cases hi : i < ws.length
  · rw [List.getElem?_append_left (by simpa using hi)] at e
    rw [List.getElem?_append_left (by simpa [← r.length] using hi)]
    rw [List.getElem?_map] at e ⊢
    cases q : ws[i]? with
    | none => rw [q] at e; cases e
    | some u =>
      rw [q] at e
      cases e
      obtain ⟨v, e1, r1⟩ := r.get q
      exact ⟨v, by rw [e1]; rfl, r1⟩
  · rw [List.getElem?_append_right (by simpa using hi)] at e
    have := List.mem_of_getElem? e
    have := List.eq_of_mem_replicate this
    cases this
theorem m_def {P : Program} {w : World} {K : Frag} {mg : PySem.Str → Option Value} {base : Heap} {x qual : PySem.Str} {params : Arguments} {body : List Stmt} {scope : Scope} {f : Addr} {fd : FuncData} {dvs : List V} {kws : List (PySem.Str × V)} {N ps : List PySem.Str} {k : Nat} {ms : MS}
    (F : FunD K x qual params body scope dvs kws f fd) (S : FnScope N ps scope)
    (hb : ∀ (cdv : Value) (A : Around) (outer : List PySem.Env) (s : Shared) (H : Hp) (E : XK), Room k (A.deeper (envOfC qual scope s.heap.objs.size f cdv)) → PSs (cxOf (L2.CX P w) P w K mg base N qual scope f cdv A outer s H E) body (tMs K (fun c d _ H => E c d H) ms)) :
    FnOk P w K mg base (L2.CX P w) (k + 1) f fd ps (spM K ps.length (mDef ps.length N.length ms)) := by
  refine F.ok S (fun vs H Q E ⟨ι, ws, g, r, hg, hl, h⟩ => by rw [← r.length, hl]) fun cdv A outer s H vs Q E hr ⟨ι, ws, g, r, hg, hl, h⟩ => ⟨_, hb cdv A outer s H E hr, ι, startM N.length ws, g, relS_start r, hg, ?_⟩
  unfold mDef at h
  rw [if_pos hl] at h
  revert h
  generalize ms (startM N.length ws) g = rr
  intro h
  cases rr with
  | fl f g => cases f with
    | nx ρ => exact fun κ σ H p a b => h κ _ H p rfl b
    | rt w => exact h
    | bk ρ => exact h.elim
    | ct ρ => exact h.elim
  | ex e ρ g => exact fun κ σ c d H p _ a b => h κ c d H p a b
  | bad => exact h.elim
section
variable {X : Cx} {Wx : WX} {pos p2 p : Pos} {a b c e tg : Expr} {es : List Expr} {mas mks : MA}
theorem m_call {x : PySem.Str} {ps : List PySem.Str} {lv : Nat} {f : Fn} (F : DefOk X.prog X.w X.K X.mg X.base x ps lv f) (hr : Room lv X.A) (tk : Takes X Wx) (ha : PA X (e :: es) (tMa X.K Wx mas)) (hl : (e :: es).length = ps.length := by rfl) (hg : Gl X x := by rfl)
    (hdb : (x == ("__debug__" : PySem.Str)) = false := by decide) (he : starEach (e :: es) X.env = (false, eval e X.env) :: starEach es X.env := by rfl) (hpl : (backTo pos (starEach es X.env)).any (·.1) = false := by rfl) :
    PE X (.Call (.Name x p) (e :: es) [] pos) (tM X.K Wx (mCall f mas)) := by
  obtain ⟨fd, hB, hF⟩ := F.ok
  have hB' : Binds X.K fd ps [] := fun s us _ hl => by
    rw [List.append_nil] at hl ⊢
    exact hB.2 s us hl
  refine pe_imp (pe_callS (E := WE Wx) hF hr hg F.mg_ F.kp hB' (fun σ => passAt tk σ) ha hdb he hpl) fun σ H Q h => ?_
  obtain ⟨ι, ρ, g, hs, hg, h⟩ := h
  refine tMa_mono (goA hs hg h) fun xs H1 ⟨ι1, w1, g1, p1, r1, hg1, h1⟩ => ?_
  by_cases hz : w1.length = ps.length
  · exact ⟨ι1, w1, g1, r1, hg1, hz, h1⟩
  · dsimp only at h1
    rw [F.ar w1 g1 hz] at h1
    exact h1.elim
end
theorem FunD.self {K : Frag} {x qual : PySem.Str} {params : Arguments} {body : List Stmt} {scope : Scope} {dvs : List V} {kws : List (PySem.Str × V)} {f : Addr} {fd : FuncData} (F : FunD K x qual params body scope dvs kws f fd) : some fd = (match K.lookup f with
      | some ⟨_, _, .func fd, _⟩ => some fd
      | _ => none) := by
  obtain ⟨_, _, _, _, _, _, _, _, _, _, _, lk, _⟩ := F.ex
  rw [lk]
/-- an own exception class over ValueError (perhaps by another own one), without an __init__ -/
structure ExcOk (K : Frag) (mg : PySem.Str → Option Value) (x : PySem.Str) : Prop where
  mg_ : mg x = some (.ref (He.ga K x))
  ex : PySem.W.excIn K (He.ga K x) He.veBase "ValueError.__new__" = true
  kp : PySem.W.keepIn K (.ref (He.ga K x)) = true
  sub : PySem.W.subIn K (.ref (He.ga K x)) (.type "BaseException") = some true
  ty : PySem.W.typeIn K (.ref (He.ga K x)) = some (.type "type")
section
variable {X : Cx} {Wx : WX} {pos pos' p p2 : Pos}
theorem m_raise {x m : PySem.Str} {j : Nat} (E : ExcOk X.K X.mg x) (tk : Takes X Wx) (hc : X.calm = true := by rfl) (hg : Gl X x := by rfl) (hdb : (x == ("__debug__" : PySem.Str)) = false := by decide) :
    PS X (.Raise (some (.Call (.Name x p) [.Constant (.str m) j p2] [] pos)) none pos') (tMs X.K Wx (sRaise x)) :=
  ps_imp (ps_raise hc tk (pmk_own PySem.F.excBase_ValueError E.ex E.mg_ E.kp (raises_own E.sub E.ty) hg hdb)) fun D σ H ⟨ι, ρ, g, hs, hg, h⟩ => h ι σ _ _ H (Pre.refl _) hs ⟨rfl, rfl⟩ hg
end
theorem mDef_ar (n m : Nat) (ms : MS) : ∀ ws g, ws.length ≠ n → mDef n m ms ws g = .bad := fun ws g h => by
  unfold mDef
  rw [if_neg h]
end M
/-! MEnd: a law's end by the small machine. -/
namespace M
open PySem PySem.Spec PyProof.Rows L2
theorem walk_M {l : PySem.W.OpenLaw} {n : Nat} {q : Program} {loose : List PySem.Str} {XP : (PySem.Str → Option Value) → Heap → Prop} {d : DefRec} {fs : List Hx.Look} {fn : List He.DefD} {k : Nat} {f : Fn}
    (hn : l.most = some 63) (hdf : d.params.defaults = []) (hr : Room k callerA) (hnm : d.name = ("law" : PySem.Str))
    (F : ∀ (w : World) (K : Frag) (mg : PySem.Str → Option Value) (h : Heap), K.In h → h.Ns mainGlobals mg → Hx.SaysX fs fn K → ∀ base : Heap, K.In base → base.Ns mainGlobals mg → DefOk l.prog w K mg base "law" ["script"] k f)
    (hM : ∀ ns : List Int, ns.length ≤ 63 → (∀ z ∈ ns, lg z ≤ 1048576) → ∃ g, f [.ref 0] [.fls (ns.map .int)] = .ok (.bl true) g) :
    PySem.W.WalkO q loose XP (Hx.hookX n fs fn).says l.row.toRowW d [] (fun f vs => PySem.call f vs) := by
  refine Att.attach_callB hn hdf fun w s₀ s₁ mg mb fa o pm cd doc a vs ns G Y ho hd hcd hmg hobj hints hlen hbits hg => ?_
  obtain ⟨K, KX, c⟩ := Y
  rw [hnm] at hmg
  have D := F w K mg _ KX G.T.g c
  have e := hmg.symm.trans (D _ KX G.T.g).mg_
  cases e
  obtain ⟨fd, hB, _⟩ := (D _ KX G.T.g).ok
  refine law_call (fd := fd) (x := "script") (sp := spM K 1 f) KX G.T.g G.T.b G.T.builtins G.T.nolimit hg hobj hints (Nat.le_trans hlen (by decide)) hr (fun base h1 h2 => ?_) (fun s u => hB.2 s [u] rfl) (fun H hO hS => ?_) (CX := L2.CX l.prog w) fun H e s' hx => ?_
  · obtain ⟨fd', hB', hF⟩ := (D base h1 h2).ok
    have : fd' = fd := Option.some.inj (hB'.1.trans hB.1.symm)
    subst this
    exact hF
  · obtain ⟨g, hg⟩ := hM ns hlen fun z hz => by
      have := hbits z hz
      unfold lg
      unfold Builtin.Int.intBits at this
      split at this
      · rename_i h0
        rw [beq_iff_eq.mp h0]
        decide
      · omega
    refine ⟨[a], [.ref 0], [.fls (ns.map .int)], .cons ⟨a, rfl, rfl⟩ .nil, ⟨rfl, fun i o b e1 e2 => ?_, fun i j oi oj b e1 e2 t1 => ?_⟩, rfl, ?_⟩
    · cases i with
      | zero =>
        cases e1
        cases e2
        refine ⟨_, rel_ints ns, ?_⟩
        rcases hS with (z | ⟨o, z⟩) | z
        · rcases hO a with y | ⟨o, xs, y⟩
          · rw [y] at z
            cases z
          · rw [y] at z
            cases z
        · exact .inl ⟨o, z⟩
        · exact .inr fun H' => .inr z
      | succ i => simp at e1
    · cases i with
      | zero => cases e1; cases t1
      | succ i => simp at e1
    · rw [hg]
      exact fun ι' v H' _ r _ => r
  · obtain ⟨_, _, _, _, _, _, _, _, _, _, _, _, z⟩ := hx
    exact z
end M
/-! MGuard: promises of defs that are entered with no repr under way (so that repr may be asked), and the law's end by them. -/
namespace M
open PySem PySem.Spec PyProof.Rows L2
/-- a def's promise where no guard is set -/
structure FnG (P : Program) (w : World) (K : Frag) (mg : PySem.Str → Option Value) (base : Heap) (CX : CXT) (k : Nat) (f : Addr) (fd : FuncData) (ps : List PySem.Str) (sp : Sp) : Prop where
  len : ∀ vs H Q E, sp vs H Q E → vs.length = ps.length
  run : ∀ (A : Around) (outer : List PySem.Env) (s : Shared) (H : Hp) (args : Args) (us : List Value) (vs : List V) (Q : VK) (E : XK), A.guards = some [] → Room k A → Env0 P w K mg base A outer s H →
    BindsTo s fd args (ps.zip us) → Vals vs us → sp vs H Q E → codeAny (model P w) A (.call (.ref f) args) (CR CX outer P w H s Q E) s
theorem FnG.of_fn {P : Program} {w : World} {K : Frag} {mg : PySem.Str → Option Value} {base : Heap} {CX : CXT} {k : Nat} {f : Addr} {fd : FuncData} {ps : List PySem.Str} {sp : Sp} (F : FnOk P w K mg base CX k f fd ps sp) : FnG P w K mg base CX k f fd ps sp :=
  ⟨F.len, fun A outer s H args us vs Q E _ => F.run A outer s H args us vs Q E⟩
theorem deeper_guards {A : Around} {env : PySem.Env} (h : A.guards = some []) : (A.deeper env).guards = some [] := h
/-- a def of the text by its body, no guard set -/
theorem fnG_of {CX : CXT} {P : Program} {w : World} {K : Frag} {mg : PySem.Str → Option Value} {base : Heap} {x qual : PySem.Str} {params : Arguments} {body : List Stmt} {scope : Scope} {dvs : List V} {kws : List (PySem.Str × V)} {f : Addr} {fd : FuncData} {N ps : List PySem.Str} {k : Nat} {sp : Sp}
    (D : FunD K x qual params body scope dvs kws f fd) (S : FnScope N ps scope) (len : ∀ vs H Q E, sp vs H Q E → vs.length = ps.length)
    (hb : ∀ (cdv : Value) (A : Around) (outer : List PySem.Env) (s : Shared) (H : Hp) (vs : List V) (Q : VK) (E : XK), A.guards = some [] → Room k (A.deeper (envOfC qual scope s.heap.objs.size f cdv)) → sp vs H Q E →
      ∃ t, PSs (cxOf CX P w K mg base N qual scope f cdv A outer s H E) body t ∧ t { nx := fun _ H' => Q .non H', rt := Q } (start N vs) H) : FnG P w K mg base CX (k + 1) f fd ps sp := by
  obtain ⟨oc, od, dV, kV, doc, pm, an, cdv, ct, osl, rfl, hlk, hcode, _, _⟩ := D.ex
  constructor
  · exact len
  · intro A outer s H args us vs Q E hgu hroom henv hbind hvals hspec
    obtain ⟨t, hbody, hstart⟩ := hb cdv A outer s H vs Q E hgu (hroom.deeper _) hspec
    have inK : K.In s.heap := henv.mod.kin.keeps fun b o z => (henv.bs b o z).1
    have nolim : s.heap.NoLimit := henv.mod.nolimit.keeps fun b o z => (henv.bs b o z).1
    have kinds : ∀ y ∈ ps.zip us, scope.names.lookup y.1 = some .local ∨ (scope.names.lookup y.1 = some .cell ∧ ((cellsFrom (s.heap.objs.size + 1) scope.names []).lookup y.1).isSome = true) := by
      intro y hy
      rcases S.par y.1 (List.of_mem_zip (a := y.1) (b := y.2) hy).1 with z | z
      · exact Or.inl z
      · exact Or.inr ⟨z, PySem.W.cellsFrom_some _ _ _ (Or.inl z)⟩
    apply codeAny_call_function hroom.depth (inK _ _ hlk) rfl S.co S.gen rfl (PySem.W.codeRec_of inK hcode)
    apply hbind
    apply wpAny_newFunctionEnv_cells S.kind kinds
    intro env henv2 s1 hin
    subst henv2
    constructor
    · exact nolim.keeps hin.toInCall.keep
    · apply codeAny_func
      have J := inv_start (CX := CX) (E := E) S hroom.hd henv (len _ _ _ _ hspec) hvals hin
      apply wpAny_mono (hbody.run [] s1 (start N vs) H _ J hstart)
      · intro fl s' hs
        match fl, hs with
        | .ret u, ⟨v, _, H', J', rv, q⟩ => exact ⟨v, H', J'.os, J'.bare, J'.base, J'.hok, rv, q⟩
        | .next, ⟨_, H', J', q⟩ => exact ⟨V.non, H', J'.os, J'.bare, J'.base, J'.hok, rfl, q⟩
        | .brk, ⟨_, _, _, q⟩ => exact q.elim
        | .cont, ⟨_, _, _, q⟩ => exact q.elim
      · exact fun e s' hs => hs
structure DefG (P : Program) (w : World) (K : Frag) (mg : PySem.Str → Option Value) (base : Heap) (x : PySem.Str) (ps : List PySem.Str) (lv : Nat) (f : Fn) : Prop where
  mg_ : mg x = some (.ref (He.ga K x))
  kp : PySem.W.keepIn K (.ref (He.ga K x)) = true
  ar : ∀ ws g, ws.length ≠ ps.length → f ws g = .bad
  ok : ∃ fd, (some fd = (match K.lookup (He.ga K x) with
      | some ⟨_, _, .func fd, _⟩ => some fd
      | _ => none) ∧ ∀ (s : Shared) (us : List Value), us.length = ps.length → BindsTo s fd ⟨us, []⟩ (ps.zip us)) ∧ FnG P w K mg base (L2.CX P w) lv (He.ga K x) fd ps (spM K ps.length f)
theorem DefOk.g {P : Program} {w : World} {K : Frag} {mg : PySem.Str → Option Value} {base : Heap} {x : PySem.Str} {ps : List PySem.Str} {lv : Nat} {f : Fn} (F : DefOk P w K mg base x ps lv f) : DefG P w K mg base x ps lv f := by
  obtain ⟨fd, h1, h2⟩ := F.ok
  exact ⟨F.mg_, F.kp, F.ar, fd, h1, FnG.of_fn h2⟩
theorem m_defG {P : Program} {w : World} {K : Frag} {mg : PySem.Str → Option Value} {base : Heap} {x qual : PySem.Str} {params : Arguments} {body : List Stmt} {scope : Scope} {f : Addr} {fd : FuncData} {dvs : List V} {kws : List (PySem.Str × V)} {N ps : List PySem.Str} {k : Nat} {ms : MS}
    (F : FunD K x qual params body scope dvs kws f fd) (S : FnScope N ps scope)
    (hb : ∀ (cdv : Value) (A : Around) (outer : List PySem.Env) (s : Shared) (H : Hp) (E : XK), A.guards = some [] → Room k (A.deeper (envOfC qual scope s.heap.objs.size f cdv)) → PSs (cxOf (L2.CX P w) P w K mg base N qual scope f cdv A outer s H E) body (tMs K (fun c d _ H => E c d H) ms)) :
    FnG P w K mg base (L2.CX P w) (k + 1) f fd ps (spM K ps.length (mDef ps.length N.length ms)) := by
  refine fnG_of F S (fun vs H Q E ⟨ι, ws, g, r, hg, hl, h⟩ => by rw [← r.length, hl]) fun cdv A outer s H vs Q E hgu hr ⟨ι, ws, g, r, hg, hl, h⟩ => ⟨_, hb cdv A outer s H E hgu hr, ι, startM N.length ws, g, relS_start r, hg, ?_⟩
  unfold mDef at h
  rw [if_pos hl] at h
  revert h
  generalize ms (startM N.length ws) g = rr
  intro h
  cases rr with
  | fl f g => cases f with
    | nx ρ => exact fun κ σ H p a b => h κ _ H p rfl b
    | rt w => exact h
    | bk ρ => exact h.elim
    | ct ρ => exact h.elim
  | ex e ρ g => exact fun κ σ c d H p _ a b => h κ c d H p a b
  | bad => exact h.elim
section
variable {X : Cx} {Wx : WX} {pos p : Pos} {e : Expr} {es : List Expr} {mas : MA}
theorem run_G {CX : CXT} {k : Nat} {f : Addr} {fd : FuncData} {ps : List PySem.Str} {sp : Sp} {E : XK} {args : Args} {pins : List (Addr × Obj)} {σ : L2.St} {H : Hp} {s : Shared} {Q : VK} {us : List Value} {vs : List V}
    (F : FnG X.prog X.w X.K X.mg X.base CX k f fd ps sp) (hgu : X.A.guards = some []) (hr : Room k X.A) (b : BindsTo s fd args (ps.zip us)) (hx : PassesAt CX X σ E)
    (I : Inv X pins σ H s) (r : Vals vs us) (h : sp vs H Q E) : codeAny (model X.prog X.w) X.A (.call (.ref f) args) (fun r s' => match r with
      | .ok (.ret u) => EP X pins σ Q u s'
      | .ok _ => False
      | .error e => X.xe e s') s :=
  codeAny_mono (F.run X.A X.stack s H args us vs Q E hgu hr I.env0 b r h) fun res s' hq => match res, hq with
    | .ok (.ret _), hq => I.after hq
    | .ok .next, hq => hq.elim
    | .ok .brk, hq => hq.elim
    | .ok .cont, hq => hq.elim
    | .error e, hq => hx pins H s e s' I hq
end
section
variable {X : Cx} {Wx : WX} {pos p : Pos} {e : Expr} {es : List Expr} {mas : MA}
theorem call_G {CX : CXT} {k : Nat} {f : Addr} {fd : FuncData} {ps : List PySem.Str} {sp : Sp} {E : XK} {ks : List (PySem.Str × Value)} {pins : List (Addr × Obj)} {σ : L2.St} {H : Hp} {s : Shared} {Q : VK} {as us : List Value} {vs : List V}
    (F : FnG X.prog X.w X.K X.mg X.base CX k f fd ps sp) (hgu : X.A.guards = some []) (hr : Room k X.A) (b : BindsTo s fd ⟨as, ks⟩ (ps.zip us)) (hx : PassesAt CX X σ E)
    (I : Inv X pins σ H s) (r : Vals vs us) (h : sp vs H Q E) : wpAny (model X.prog X.w) X.A (call (.ref f) as ks) (EP X pins σ Q) X.xe s := by
  apply wpAny_call
  apply codeAny_mono (run_G F hgu hr b hx I r h)
  intro res s' hq
  match res, hq with
  | .ok (.ret _), hq => exact hq
  | .ok .next, hq => exact hq.elim
  | .ok .brk, hq => exact hq.elim
  | .ok .cont, hq => exact hq.elim
  | .error _, hq => exact hq
theorem m_callG {x : PySem.Str} {ps : List PySem.Str} {lv : Nat} {f : Fn} (F : DefG X.prog X.w X.K X.mg X.base x ps lv f) (hgu : X.A.guards = some []) (hr : Room lv X.A) (tk : Takes X Wx) (ha : PA X (e :: es) (tMa X.K Wx mas)) (hg : Gl X x := by rfl)
    (hdb : (x == ("__debug__" : PySem.Str)) = false := by decide) (he : starEach (e :: es) X.env = (false, eval e X.env) :: starEach es X.env := by rfl) (hpl : (backTo pos (starEach es X.env)).any (·.1) = false := by rfl) :
    PE X (.Call (.Name x p) (e :: es) [] pos) (tM X.K Wx (mCall f mas)) := by
  obtain ⟨fd, hB, hF⟩ := F.ok
  constructor
  intro pins s σ H Q I ⟨ι, ρ, g, hs, hg1, h⟩
  apply wpAny_Call_Name_kw (ld_glob I hg F.mg_ ?_ hdb)
  refine PySem.W.callWith_K (h₀ := X.base) I.ok.mod.kin F.kp (thn (ha.run pos pins s σ H _ I (goA hs hg1 h)) fun us s1 ⟨vs, H1, I1, r, ι1, w1, g1, p1, r1, hg2, h1⟩ => ⟨I1.kIn, ?_⟩) he hpl
  by_cases hz : w1.length = ps.length
  · exact call_G (ks := []) hF hgu hr (hB.2 s1 us (by rw [← r.length, ← r1.length, hz])) (passAt tk σ) I1 r ⟨ι1, w1, g1, r1, hg2, hz, h1⟩
  · dsimp only at h1
    rw [F.ar w1 g1 hz] at h1
    exact h1.elim
/-- f() -/
theorem m_callG0 {x : PySem.Str} {lv : Nat} {f : Fn} (F : DefG X.prog X.w X.K X.mg X.base x [] lv f) (hgu : X.A.guards = some []) (hr : Room lv X.A) (tk : Takes X Wx) (hg : Gl X x := by rfl) (hdb : (x == ("__debug__" : PySem.Str)) = false := by decide) :
    PE X (.Call (.Name x p) [] [] pos) (tM X.K Wx (mCall f aNil)) := by
  obtain ⟨fd, hB, hF⟩ := F.ok
  constructor
  intro pins s σ H Q I ⟨ι, ρ, g, hs, hg1, h⟩
  apply wpAny_Call_Name_kw (ld_glob I hg F.mg_ ?_ hdb)
  exact PySem.W.callWith_K0 I.kIn F.kp (call_G (ks := []) hF hgu hr (hB.2 s [] rfl) (passAt tk σ) I .nil ⟨ι, [], g, .nil, hg1, rfl, h⟩)
/-! ### keywords only, in the parameters' order -/
theorem m_knil : PK X [] (tMa X.K Wx aNil) := pk_imp pk_nil fun σ H Q ⟨ι, ρ, g, hs, hg, h⟩ => h ι _ H (Pre.refl _) .nil hg
theorem m_kcons {nm : Option PySem.Str} {kpos : Pos} {kws : List Keyword} {ma : ME} (ha : PE X e (tM X.K Wx ma)) (hr : PK X kws (tMa X.K Wx mas)) : PK X (⟨nm, e, kpos⟩ :: kws) (tMa X.K Wx (aCons ma mas)) := pk_imp (pk_cons ha hr) fun _ _ _ h => acons_imp h
theorem pick_rel {α β : Type} {R : α → β → Prop} {l : List α} {m : List β} (h : Paired R l m) (pm : List Nat) : Paired R (pick pm l) (pick pm m) := by
  have at_ : ∀ {l : List α} {m : List β}, Paired R l m → ∀ i : Nat, (∃ a b, l[i]? = some a ∧ m[i]? = some b ∧ R a b) ∨ (l[i]? = none ∧ m[i]? = none) := by
    intro l m h
    induction h with
    | nil => exact fun i => .inr ⟨rfl, rfl⟩
    | cons r _ ih =>
      intro i
      cases i with
      | zero => exact .inl ⟨_, _, rfl, rfl, r⟩
      | succ i => exact ih i
  induction pm with
  | nil => exact .nil
  | cons i pm ih =>
    unfold pick at *
    rcases at_ h i with ⟨a, b, e1, e2, r⟩ | ⟨e1, e2⟩
    · rw [List.filterMap_cons_some e1, List.filterMap_cons_some e2]
      exact .cons r ih
    · rw [List.filterMap_cons_none e1, List.filterMap_cons_none e2]
      exact ih
theorem m_callKw {x qual : PySem.Str} {params : Arguments} {body : List Stmt} {scope : Scope} {fd0 : FuncData} {ps ks : List PySem.Str} {lv : Nat} {f : Fn} {kws : List Keyword} (pm : List Nat)
    (F : DefG X.prog X.w X.K X.mg X.base x ps lv f) (D : FunD X.K x qual params body scope [] [] (He.ga X.K x) fd0)
    (hb : ∀ (kV doc pm' : Value) (an : Option Addr) (cdv ct : Value) (ws : List Value), ws.length = ks.length → bindArgs (PySem.W.fnOf x qual params body scope .none kV doc pm' an cdv ct) ⟨[], ks.zip ws⟩ = pure (ps.zip (pick pm ws)))
    (hgu : X.A.guards = some []) (hr : Room lv X.A) (tk : Takes X Wx) (hkw : PK X kws (tMa X.K Wx mas)) (hl : ks.length = kws.length := by rfl)
    (hall : (backToKw pos (keywordEach kws X.env)).all (·.1.isSome) = true := by rfl) (hks : (backToKw pos (keywordEach kws X.env)).filterMap (·.1) = ks := by rfl) (hg : Gl X x := by rfl)
    (hdb : (x == ("__debug__" : PySem.Str)) = false := by decide) (hpl : ((backTo pos (starEach [] X.env)).any (·.1) || (backToKw pos (keywordEach kws X.env)).any (·.1.isNone)) = false := by rfl) :
    PE X (.Call (.Name x p) [] kws pos) (tM X.K Wx (mCallP f ks.length pm mas)) := by
  obtain ⟨fd, hB, hF⟩ := F.ok
  have e0 : fd = fd0 := Option.some.inj (hB.1.trans (FunD.self D).symm)
  subst e0
  have hbind : ∀ (s : Shared) (ws : List Value), ws.length = ks.length → BindsTo s fd ⟨[], ks.zip ws⟩ (ps.zip (pick pm ws)) := by
    intro s ws hw
    obtain ⟨_, _, dV, kV, doc, pm', an, cdv, ct, _, rfl, _, _, hD, _⟩ := D.ex
    rcases hD with ⟨_, rfl⟩ | ⟨z, _⟩
    · exact .of_eq (hb kV doc pm' an cdv ct ws hw)
    · exact absurd rfl z
  constructor
  intro pins s σ H Q I ⟨ι, ρ, g, hs, hg1, h⟩
  apply wpAny_Call_Name_kw (ld_glob I hg F.mg_ ?_ hdb)
  apply PySem.W.callWith_KW0 (h₀ := X.base) I.ok.mod.kin F.kp hall ?_ hpl
  refine thn (hkw.run pos pins s σ H _ I (goA hs hg1 h)) fun ws s1 ⟨zs, H1, I1, r, ι1, w1, g1', p1, r1, hg2, h1⟩ => ⟨I1.kIn, ?_⟩
  dsimp only at h1
  split at h1
  · rename_i hz
    have hw : ws.length = ks.length := by rw [← r.length, ← r1.length, hz]
    rw [hks]
    by_cases hz2 : (pick pm w1).length = ps.length
    · exact call_G hF hgu hr (hbind s1 ws hw) (passAt tk σ) I1 (pick_rel r pm) ⟨ι1, pick pm w1, g1', pick_rel r1 pm, hg2, hz2, h1⟩
    · rw [F.ar _ g1' hz2] at h1
      exact h1.elim
  · exact h1.elim
end
/-! ### repr -/
theorem c_repr (hgu : X.A.guards = some []) (hu : X.A.units + 64 < cLine) : CallR X (.builtin "repr") (rMc X.K bRepr) := by
  intro pins s σ H xs us Q I rv ⟨Wx, ι, ws, g, hx, hg, h⟩
  unfold bRepr at h
  split at h
  · obtain ⟨v, rfl, r⟩ := relL1 hx
    split at h
    · rename_i d q
      split at h
      · rename_i hz
        rw [Bool.and_eq_true, decide_eq_true_eq] at hz
        obtain ⟨a1, a2, a3⟩ := rdD_dp hg 60 _ _ _ q r
        obtain ⟨u, rfl, hu1⟩ := vals1 rv
        have hnd := PyData.hasDict_of_canLay (toPy d) a3
        have hf := h ι (V.str (toPy d).shown) H (Pre.refl _) rfl hg
        clear h
        generalize toPy d = pd at *
        cases a1 with
        | non =>
          cases (show u = Value.none from hu1)
          exact PySem.P.repr_of_none ⟨.str _, H, I.tok _, ⟨_, rfl⟩, hf⟩
        | bl b =>
          cases (show u = Value.bool b from hu1)
          exact PySem.P.repr_of_bool ⟨.str _, H, I.tok _, ⟨_, by cases b <;> rfl⟩, hf⟩
        | int i =>
          obtain ⟨t, rfl⟩ := (show ∃ t, u = Value.int i t from hu1)
          exact PySem.P.repr_of_int (by have := hz.1; simpa [PyData.showable] using this) ⟨.str _, H, I.tok _, ⟨_, rfl⟩, hf⟩
        | str x =>
          obtain ⟨t, rfl⟩ := (show ∃ t, u = Value.str x t from hu1)
          exact PySem.P.repr_of_str ⟨.str _, H, I.tok _, ⟨_, rfl⟩, hf⟩ (sz_eq hz.2)
        | lst h1 h2 =>
          obtain ⟨as, rd⟩ := Dp.reads I _ _ _ (Dp.lst h1 h2) hu1
          cases (show u = _ from hu1)
          exact repr_of_reads' rd hz.1 (PyData.noDict_hsm hnd) hgu (by omega) (fun _ _ e => e) (fun h' t tk hk => ⟨.str _, H, I.kept hk, ⟨_, rfl⟩, hf⟩) (sz_eq hz.2)
        | tup h1 h2 =>
          obtain ⟨as, rd⟩ := Dp.reads I _ _ _ (Dp.tup h1 h2) hu1
          cases (show u = _ from hu1)
          exact repr_of_reads' rd hz.1 (PyData.noDict_hsm hnd) hgu (by omega) (fun _ _ e => e) (fun h' t tk hk => ⟨.str _, H, I.kept hk, ⟨_, rfl⟩, hf⟩) (sz_eq hz.2)
      · exact h.elim
    · exact h.elim
  · exact h.elim
section
variable {X : Cx} {Wx : WX} {pos : Pos}
theorem m_d0 : PE X (.Dict [] [] pos) (tM X.K Wx mD0) := pe_imp pe_dnewK fun σ H Q ⟨ι, ρ, g, hs, hg, h⟩ p hp =>
  h (ι ++ [p]) _ _ (Pre.snoc _ _) (hg.newW p) (hg.new hp rfl ⟨[], .nil, upd_same⟩)
theorem m_d1 {x : PySem.Str} {i : Int} {j1 j2 : Nat} {p1 p2 : Pos} : PE X (.Dict [some (.Constant (.str x) j1 p1)] [.Constant (.int i) j2 p2] pos) (tM X.K Wx (mD1 x i)) :=
  pe_imp (pe_disp (pps_cons pe_str pe_int pps_nil) rfl rfl (by simp) (by simp)) fun σ H Q ⟨ι, ρ, g, hs, hg, h⟩ p hp =>
    ⟨upd_same, [(.inr x, .int i)], rfl, by simp, by
      rw [upd_upd]
      exact h (ι ++ [p]) _ _ (Pre.snoc _ _) (hg.newW p) (hg.new hp rfl ⟨[(.inr x, .int i)], .cons ⟨rfl, rfl⟩ .nil, upd_same⟩)⟩
end
/-! ### the law's end -/
theorem env_law {P : Program} {w : World} {K : Frag} {mg mb : PySem.Str → Option Value} {s : Shared} {H : Hp} (inK : K.In s.heap) (ns : s.heap.Ns mainGlobals mg) (nb : s.heap.Ns builtinsNs mb) (eb : ∀ x : PySem.Str, x ≠ "__name__" → mb x = bootBuiltins x)
    (nl : s.heap.NoLimit) (ng : s.gens = #[]) (hok : HOk P w H s.heap) (keyK : ∀ b o, K.lookup b = some o → H b = none) (dictH : ∀ b o es ep, s.heap.get? b = some o → o.data = .dict es ep → H b = none) :
    Env0 P w K mg (hidT s.heap H) callerA [] s H ∧ K.In (hidT s.heap H) ∧ (hidT s.heap H).Ns mainGlobals mg := by
  have hideNs : ∀ {b : Addr} {m : PySem.Str → Option Value}, s.heap.Ns b m → (hidT s.heap H).Ns b m := by
    intro b m hb
    obtain ⟨o, es, ep, e1, e2, e3⟩ := hb
    exact ⟨o, es, ep, hidT_get e1 (dictH b o es ep e1 e2), e2, e3⟩
  have inK2 : K.In (hidT s.heap H) := by
    intro b o hb
    exact hidT_get (inK b o hb) (keyK b o hb)
  refine ⟨?_, inK2, hideNs ns⟩
  constructor
  · rfl
  · constructor
    · exact inK2
    · exact hideNs ns
    · exact ⟨mb, hideNs nb, eb⟩
    · obtain ⟨mc, l1, l2⟩ := nl
      exact ⟨mc, hideNs l1, l2⟩
  · intro b o hb
    exact of_hidT hb
  · rw [hidT_size]
    exact Nat.le_refl _
  · trivial
  · intro b hb
    cases hb
  · exact hok
  · exact .of_eq ng
/-- the run of the law's def at a heap where the script lies -/
theorem run_law {P : Program} {w : World} {K : Frag} {mg mb : PySem.Str → Option Value} {s : Shared} {H : Hp} {a : Addr} {ns : List Int} {k : Nat} {f : Fn} (inK : K.In s.heap) (n1 : s.heap.Ns mainGlobals mg) (nb : s.heap.Ns builtinsNs mb) (eb : ∀ x : PySem.Str, x ≠ "__name__" → mb x = bootBuiltins x)
    (nl : s.heap.NoLimit) (ng : s.gens = #[]) (hok : HOk P w H s.heap) (keyK : ∀ b o, K.lookup b = some o → H b = none) (dictH : ∀ b o es ep, s.heap.get? b = some o → o.data = .dict es ep → H b = none)
    (frozen : ∀ b, H b = none ∨ ∃ o vs, H b = some (.frz o (.lst vs)) ∧ s.heap.get? b = some o) (sq : (∃ o, H a = some (.frz o (.lst (ns.map V.int)))) ∨ ∀ H', SqL K H' a (ns.map V.int))
    (hr : Room k callerA) (F : ∀ base : Heap, K.In base → base.Ns mainGlobals mg → DefG P w K mg base "law" ["script"] k f) (res : ∃ g, f [.ref 0] [.fls (ns.map .int)] = .ok (.bl true) g) :
    codeAny (model P w) callerA (.call (.ref (He.ga K "law")) ⟨[.ref a], []⟩) (fun r s' => r = .ok (.ret (.bool true)) ∧ OldK s.heap s'.heap ∧ s'.os = s.os ∧ AllBare s'.gens) s := by
  obtain ⟨e0, inK2, ns2⟩ := env_law inK n1 nb eb nl ng hok keyK dictH
  obtain ⟨fd, hB, hF⟩ := (F _ inK2 ns2).ok
  obtain ⟨g, hres⟩ := res
  have hspec : spM K 1 f [.ref a] H (fun v _ => v = .bl true) fun _ _ _ => False := by
    refine ⟨[a], [.ref 0], [.fls (ns.map .int)], .cons ⟨a, rfl, rfl⟩ .nil, ⟨rfl, ?_, ?_⟩, rfl, ?_⟩
    · intro i o b e1 e2
      cases i with
      | zero =>
        cases e1
        cases e2
        exact ⟨_, rel_ints ns, sq⟩
      | succ i => simp at e1
    · intro i j oi oj b e1 e2 t1
      cases i with
      | zero => cases e1; cases t1
      | succ i => simp at e1
    · rw [hres]
      exact fun ι' v H' _ r _ => r
  have run := hF.run callerA [] s H ⟨[.ref a], []⟩ [.ref a] [.ref a] _ _ rfl hr e0 (hB.2 s [.ref a] rfl) (.cons rfl .nil) hspec
  apply codeAny_mono run
  intro r s' h
  match r, h with
  | .error e, h =>
    obtain ⟨_, _, _, _, _, _, _, _, _, _, _, _, z⟩ := h
    exact z.elim
  | .ok .next, h => exact h.elim
  | .ok .brk, h => exact h.elim
  | .ok .cont, h => exact h.elim
  | .ok (.ret u), ⟨v, H', os, bare, un, hok', rv, q⟩ =>
    have q' : v = .bl true := q
    subst q'
    cases (show u = Value.bool true from rv)
    refine ⟨rfl, OldK.of_keep ?_, os, bare⟩
    intro b o hb
    rcases frozen b with z | ⟨o2, vs, z, z2⟩
    · exact un.keep b o hb z (by intro y; cases y) (by intro y; cases y)
    · have y := hok' b _ (un.frzs b o2 _ z)
      rw [hb] at z2
      cases z2
      exact y.1
theorem walk_MG {l : PySem.W.OpenLaw} {n : Nat} {q : Program} {loose : List PySem.Str} {XP : (PySem.Str → Option Value) → Heap → Prop} {d : DefRec} {fs : List Hx.Look} {fn : List He.DefD} {k : Nat} {f : Fn}
    (hn : l.most = some 63) (hdf : d.params.defaults = []) (hr : Room k callerA) (hnm : d.name = ("law" : PySem.Str))
    (F : ∀ (w : World) (K : Frag) (mg : PySem.Str → Option Value) (h : Heap), K.In h → h.Ns mainGlobals mg → Hx.SaysX fs fn K → ∀ base : Heap, K.In base → base.Ns mainGlobals mg → DefG l.prog w K mg base "law" ["script"] k f)
    (hM : ∀ ns : List Int, ns.length ≤ 63 → (∀ z ∈ ns, lg z ≤ 1048576) → ∃ g, f [.ref 0] [.fls (ns.map .int)] = .ok (.bl true) g) :
    PySem.W.WalkO q loose XP (Hx.hookX n fs fn).says l.row.toRowW d [] (fun f vs => PySem.call f vs) := by
  refine Att.attach_callB hn hdf fun w s₀ s₁ mg mb fa o pm cd doc a vs ns G Y ho hd hcd hmg hobj hints hlen hbits hg => ?_
  obtain ⟨K, KX, c⟩ := Y
  rw [hnm] at hmg
  have D := F w K mg _ KX G.T.g c
  have e := hmg.symm.trans (D _ KX G.T.g).mg_
  cases e
  have res := hM ns hlen fun z hz => by
    have := hbits z hz
    unfold lg
    unfold Builtin.Int.intBits at this
    split at this
    · rename_i h0
      rw [beq_iff_eq.mp h0]
      decide
    · omega
  have hsz : ns.length ≤ sizeLine := Nat.le_trans hlen (by decide)
  have rv := vals_ints hints
  cases hk : K.lookup a with
  | some o2 =>
    have z := KX a o2 hk
    rw [hobj] at z
    cases z
    refine run_law (H := fun _ => none) KX G.T.g G.T.b G.T.builtins G.T.nolimit hg (fun b u z => nomatch z) (fun _ _ _ => rfl) (fun _ _ _ _ _ _ => rfl) (fun _ => .inl rfl) (.inr fun H' => .inr ⟨_, vs.toArray, _, hk, rfl, rfl, rfl, by rw [List.size_toArray, hints.length]; exact hsz, by simpa using rv⟩) hr D res
  | none =>
    generalize hH : (fun b : Addr => if b = a then some (HO.frz { cls := .type "list", data := .seq vs.toArray } (.lst (ns.map V.int))) else none) = H
    have at_ : H a = some (.frz { cls := .type "list", data := .seq vs.toArray } (.lst (ns.map V.int))) := by rw [← hH]; exact if_pos rfl
    have off : ∀ b, b ≠ a → H b = none := fun b hb => by rw [← hH]; exact if_neg hb
    refine run_law (H := H) KX G.T.g G.T.b G.T.builtins G.T.nolimit hg (fun b u z => ?_) (fun b o2 z => off b fun e => ?_) (fun b o2 es ep z z2 => off b fun e => ?_) (fun b => ?_) (.inl ⟨_, at_⟩) hr D res
    · by_cases hb : b = a
      · subst hb
        rw [at_] at z
        cases z
        exact ⟨hobj, by rw [List.length_map]; exact hsz, vs, _, rv, hobj⟩
      · rw [off b hb] at z
        cases z
    · rw [e, hk] at z
      cases z
    · rw [e, hobj] at z
      cases z
      cases z2
    · by_cases hb : b = a
      · subst hb
        exact .inr ⟨_, _, at_, hobj⟩
      · exact .inl (off b hb)
end M
/-! MWp: what a computation of the small machine ends in, step by step. -/
namespace M
def Ok {α : Type} (r : Res α) (Q : α → G → Prop) : Prop := ∃ a g, r = .ok a g ∧ Q a g
def OkS (r : SR) (Q : Fl → G → Prop) : Prop := ∃ f g, r = .fl f g ∧ Q f g
theorem Ok.mono {α : Type} {r : Res α} {Q Q' : α → G → Prop} (h : Ok r Q) (q : ∀ a g, Q a g → Q' a g) : Ok r Q' := by
  obtain ⟨a, g, e, h⟩ := h
  exact ⟨a, g, e, q a g h⟩
theorem OkS.mono {r : SR} {Q Q' : Fl → G → Prop} (h : OkS r Q) (q : ∀ a g, Q a g → Q' a g) : OkS r Q' := by
  obtain ⟨a, g, e, h⟩ := h
  exact ⟨a, g, e, q a g h⟩
theorem ok_ok {α : Type} {a : α} {g : G} {Q : α → G → Prop} : Ok (.ok a g) Q ↔ Q a g := ⟨fun ⟨_, _, e, h⟩ => by cases e; exact h, fun h => ⟨a, g, rfl, h⟩⟩
theorem ok_bad {α : Type} {Q : α → G → Prop} : Ok (.bad : Res α) Q ↔ False := ⟨fun ⟨_, _, e, _⟩ => (nomatch e), False.elim⟩
theorem ok_ex {α : Type} {e : Ex} {g : G} {Q : α → G → Prop} : Ok (.ex e g : Res α) Q ↔ False := ⟨fun ⟨_, _, e, _⟩ => (nomatch e), False.elim⟩
theorem ok_ite {α : Type} {c : Prop} [Decidable c] {a b : Res α} {Q : α → G → Prop} : Ok (if c then a else b) Q ↔ if c then Ok a Q else Ok b Q := by split <;> rfl
theorem ok_iteB {α : Type} {c : Prop} [Decidable c] {a : Res α} {Q : α → G → Prop} : Ok (if c then a else .bad) Q ↔ c ∧ Ok a Q := by
  split
  · rename_i h; exact ⟨fun q => ⟨h, q⟩, fun q => q.2⟩
  · rename_i h; exact ⟨fun q => (ok_bad.mp q).elim, fun q => absurd q.1 h⟩
theorem ok_bind {α β : Type} {r : Res α} {f : α → G → Res β} {Q : β → G → Prop} : Ok (r.bind f) Q ↔ Ok r fun a g => Ok (f a g) Q := by
  cases r with
  | ok a g => rw [ok_ok]; rfl
  | ex e g => exact ⟨fun h => (ok_ex.mp h).elim, fun h => (ok_ex.mp h).elim⟩
  | bad => exact ⟨fun h => (ok_bad.mp h).elim, fun h => (ok_bad.mp h).elim⟩
theorem okS_fl {f : Fl} {g : G} {Q : Fl → G → Prop} : OkS (.fl f g) Q ↔ Q f g := ⟨fun ⟨_, _, e, h⟩ => by cases e; exact h, fun h => ⟨f, g, rfl, h⟩⟩
theorem okS_bad {Q : Fl → G → Prop} : OkS .bad Q ↔ False := ⟨fun ⟨_, _, e, _⟩ => (nomatch e), False.elim⟩
theorem okS_ex {e : Ex} {ρ : Env} {g : G} {Q : Fl → G → Prop} : OkS (.ex e ρ g) Q ↔ False := ⟨fun ⟨_, _, e, _⟩ => (nomatch e), False.elim⟩
section
variable {ρ : Env} {g : G} {a b c : ME} {t u : MT} {as : MA} {Q : W → G → Prop} {QT : Bool → G → Prop} {QA : List W → G → Prop} {f f' : W → W → G → Res W} {fn : Fn}
theorem ok_var {i : Nat} : Ok (mVar i ρ g) Q ↔ ∃ w, ρ[i]? = some (some w) ∧ Q w g := by
  unfold mVar
  split
  · rename_i w q
    rw [ok_ok, q]
    exact ⟨fun h => ⟨w, rfl, h⟩, fun ⟨w', e, h⟩ => by cases e; exact h⟩
  · rename_i q
    exact ⟨fun h => (ok_bad.mp h).elim, fun ⟨w, e, _⟩ => absurd e (q w)⟩
theorem ok_C {w : W} : Ok (mC w ρ g) Q ↔ Q w g := ok_ok
theorem ok_op2 : Ok (mOp2 f a b ρ g) Q ↔ Ok (a ρ g) fun x g1 => Ok (b ρ g1) fun y g2 => Ok (f x y g2) Q := by
  unfold mOp2
  simp only [ok_bind]
theorem ok_op1 {f : W → G → Res W} : Ok (mOp1 f a ρ g) Q ↔ Ok (a ρ g) fun x g1 => Ok (f x g1) Q := by
  unfold mOp1
  simp only [ok_bind]
theorem ok_anil : Ok (aNil ρ g) QA ↔ QA [] g := ok_ok
theorem ok_acons : Ok (aCons a as ρ g) QA ↔ Ok (a ρ g) fun x g1 => Ok (as ρ g1) fun xs g2 => QA (x :: xs) g2 := by
  unfold aCons
  simp only [ok_bind, ok_ok]
theorem ok_call : Ok (mCall fn as ρ g) Q ↔ Ok (as ρ g) fun xs g1 => Ok (fn xs g1) Q := by
  unfold mCall
  simp only [ok_bind]
theorem ok_lst : Ok (mLst as ρ g) Q ↔ Ok (as ρ g) fun xs g1 => xs.length ≤ SZ ∧ Q (.ref g1.length) (g1 ++ [.lst xs]) := by
  unfold mLst
  simp only [ok_bind, ok_iteB, ok_ok]
theorem ok_tup : Ok (mTup as ρ g) Q ↔ Ok (as ρ g) fun xs g1 => xs.length ≤ SZ ∧ Q (.ref g1.length) (g1 ++ [.tup xs]) := by
  unfold mTup
  simp only [ok_bind, ok_iteB, ok_ok]
theorem ok_if : Ok (mIf t a b ρ g) Q ↔ Ok (t ρ g) fun k g1 => if k = true then Ok (a ρ g1) Q else Ok (b ρ g1) Q := by
  unfold mIf
  simp only [ok_bind, ok_ite]
theorem ok_tVal : Ok (tVal a ρ g) QT ↔ Ok (a ρ g) fun x g1 => ∃ k, x = .bl k ∧ QT k g1 := by
  unfold tVal
  rw [ok_bind]
  constructor
  · intro h
    refine h.mono fun x g1 h => ?_
    cases x with
    | bl k => exact ⟨k, rfl, ok_ok.mp h⟩
    | _ => exact (ok_bad.mp h).elim
  · intro h
    refine h.mono fun x g1 ⟨k, e, h⟩ => ?_
    subst e
    exact ok_ok.mpr h
theorem ok_tNot : Ok (tNot t ρ g) QT ↔ Ok (t ρ g) fun k g1 => QT (!k) g1 := by
  unfold tNot
  simp only [ok_bind, ok_ok]
theorem ok_tAnd : Ok (tAnd t u ρ g) QT ↔ Ok (t ρ g) fun k g1 => if k = true then Ok (u ρ g1) QT else QT false g1 := by
  unfold tAnd
  simp only [ok_bind, ok_ite, ok_ok]
theorem ok_tOr : Ok (tOr t u ρ g) QT ↔ Ok (t ρ g) fun k g1 => if k = true then QT true g1 else Ok (u ρ g1) QT := by
  unfold tOr
  simp only [ok_bind, ok_ite, ok_ok]
theorem ok_tYes : Ok (tYes ρ g) QT ↔ QT true g := ok_ok
theorem ok_mAnd : Ok (mAnd a b ρ g) Q ↔ Ok (a ρ g) fun x g1 => ∃ k, x = .bl k ∧ if k = true then Ok (b ρ g1) Q else Q (.bl false) g1 := by
  unfold mAnd
  rw [ok_bind]
  constructor
  · intro h
    refine h.mono fun x g1 h => ?_
    cases x with
    | bl k =>
      cases k
      · exact ⟨false, rfl, by rw [if_neg Bool.false_ne_true]; exact ok_ok.mp h⟩
      · exact ⟨true, rfl, by rw [if_pos rfl]; exact h⟩
    | _ => exact (ok_bad.mp h).elim
  · intro h
    refine h.mono fun x g1 ⟨k, e, h⟩ => ?_
    subst e
    cases k
    · rw [if_neg Bool.false_ne_true] at h; exact ok_ok.mpr h
    · rw [if_pos rfl] at h; exact h
theorem ok_mOr : Ok (mOr a b ρ g) Q ↔ Ok (a ρ g) fun x g1 => ∃ k, x = .bl k ∧ if k = true then Q (.bl true) g1 else Ok (b ρ g1) Q := by
  unfold mOr
  rw [ok_bind]
  constructor
  · intro h
    refine h.mono fun x g1 h => ?_
    cases x with
    | bl k =>
      cases k
      · exact ⟨false, rfl, by rw [if_neg Bool.false_ne_true]; exact h⟩
      · exact ⟨true, rfl, by rw [if_pos rfl]; exact ok_ok.mp h⟩
    | _ => exact (ok_bad.mp h).elim
  · intro h
    refine h.mono fun x g1 ⟨k, e, h⟩ => ?_
    subst e
    cases k
    · rw [if_neg Bool.false_ne_true] at h; exact h
    · rw [if_pos rfl] at h; exact ok_ok.mpr h
theorem ok_mNot : Ok (mNot a ρ g) Q ↔ Ok (a ρ g) fun x g1 => ∃ k, x = .bl k ∧ Q (.bl (!k)) g1 := by
  unfold mNot
  rw [ok_bind]
  constructor
  · intro h
    refine h.mono fun x g1 h => ?_
    cases x with
    | bl k => exact ⟨k, rfl, ok_ok.mp h⟩
    | _ => exact (ok_bad.mp h).elim
  · intro h
    refine h.mono fun x g1 ⟨k, e, h⟩ => ?_
    subst e
    exact ok_ok.mpr h
theorem ok_chain : Ok (mChain f f' a b c ρ g) Q ↔ Ok (a ρ g) fun x g1 => Ok (b ρ g1) fun y g2 => Ok (f x y g2) fun z g3 => ∃ k, z = .bl k ∧ if k = true then Ok (c ρ g3) fun w g4 => Ok (f' y w g4) Q else Q (.bl false) g3 := by
  unfold mChain
  simp only [ok_bind]
  constructor
  · intro h
    refine h.mono fun x g1 h => h.mono fun y g2 h => h.mono fun z g3 h => ?_
    cases z with
    | bl k =>
      cases k
      · exact ⟨false, rfl, by rw [if_neg Bool.false_ne_true]; exact ok_ok.mp h⟩
      · exact ⟨true, rfl, by rw [if_pos rfl]; exact ok_bind.mp h⟩
    | _ => exact (ok_bad.mp h).elim
  · intro h
    refine h.mono fun x g1 h => h.mono fun y g2 h => h.mono fun z g3 ⟨k, e, h⟩ => ?_
    subst e
    cases k
    · rw [if_neg Bool.false_ne_true] at h; exact ok_ok.mpr h
    · rw [if_pos rfl] at h; exact ok_bind.mpr h
theorem ok_star : Ok (aStar a as ρ g) QA ↔ Ok (a ρ g) fun x g1 => ∃ n ws, x = .ref n ∧ seqAt g1 n = some ws ∧ Ok (as ρ g1) fun xs g2 => QA (ws ++ xs) g2 := by
  unfold aStar
  rw [ok_bind]
  constructor
  · intro h
    refine h.mono fun x g1 h => ?_
    cases x with
    | ref n =>
      dsimp only at h
      split at h
      · rename_i ws q
        rw [ok_bind] at h
        exact ⟨n, ws, rfl, q, h.mono fun xs g2 h => ok_ok.mp h⟩
      · exact (ok_bad.mp h).elim
    | _ => exact (ok_bad.mp h).elim
  · intro h
    refine h.mono fun x g1 ⟨n, ws, e, q, h⟩ => ?_
    subst e
    dsimp only
    rw [q]
    rw [ok_bind]
    exact h.mono fun xs g2 h => ok_ok.mpr h
theorem ok_oNone {Q : Option Int → G → Prop} : Ok (oNone ρ g) Q ↔ Q none g := ok_ok
theorem ok_oSome {Q : Option Int → G → Prop} : Ok (oSome a ρ g) Q ↔ Ok (a ρ g) fun x g1 => ∃ i, x = .int i ∧ Q (some i) g1 := by
  unfold oSome
  rw [ok_bind]
  constructor
  · intro h
    refine h.mono fun x g1 h => ?_
    cases x with
    | int k => exact ⟨k, rfl, ok_ok.mp h⟩
    | _ => exact (ok_bad.mp h).elim
  · intro h
    refine h.mono fun x g1 ⟨k, e, h⟩ => ?_
    subst e
    exact ok_ok.mpr h
theorem ok_sl {lo hi : MO} : Ok (mSl a lo hi ρ g) Q ↔ Ok (a ρ g) fun x g1 => Ok (lo ρ g1) fun l g2 => Ok (hi ρ g2) fun h g3 => ∃ n ws, x = .ref n ∧ lstAt g3 n = some ws ∧ Q (.ref g3.length) (g3 ++ [.lst (cut ws l h)]) := by
  unfold mSl
  simp only [ok_bind]
  constructor
  · intro h
    refine h.mono fun x g1 h => h.mono fun y g2 h => h.mono fun z g3 h => ?_
    cases x with
    | ref n =>
      dsimp only at h
      split at h
      · rename_i ws q
        exact ⟨n, ws, rfl, q, ok_ok.mp h⟩
      · exact (ok_bad.mp h).elim
    | _ => exact (ok_bad.mp h).elim
  · intro h
    refine h.mono fun x g1 h => h.mono fun y g2 h => h.mono fun z g3 h => ?_
    obtain ⟨n, ws, e, q, hq⟩ := h
    subst e
    dsimp only
    rw [q]
    exact ok_ok.mpr hq
theorem ok_rev : Ok (mRev a ρ g) Q ↔ Ok (a ρ g) fun x g1 => ∃ n ws, x = .ref n ∧ lstAt g1 n = some ws ∧ Q (.ref g1.length) (g1 ++ [.lst ws.reverse]) := by
  unfold mRev
  simp only [ok_bind]
  constructor
  · intro h
    refine h.mono fun x g1 h => ?_
    cases x with
    | ref n =>
      dsimp only at h
      split at h
      · rename_i ws q
        exact ⟨n, ws, rfl, q, ok_ok.mp h⟩
      · exact (ok_bad.mp h).elim
    | _ => exact (ok_bad.mp h).elim
  · intro h
    refine h.mono fun x g1 ⟨n, ws, e, q, h⟩ => ?_
    subst e
    dsimp only
    rw [q]
    exact ok_ok.mpr h
theorem ok_mt {f : W → List W → G → Res W} : Ok (mMt f a as ρ g) Q ↔ Ok (a ρ g) fun x g1 => isL g1 x = true ∧ Ok (as ρ g1) fun xs g2 => Ok (f x xs g2) Q := by
  unfold mMt
  simp only [ok_bind, ok_iteB]
end
/-! ### statements -/
section
variable {ρ : Env} {g : G} {e : ME} {t : MT} {s s1 s2 : MS} {as : MA} {Q : Fl → G → Prop}
/-- what follows a statement -/
def nxt (Q : Fl → G → Prop) (s : MS) : Fl → G → Prop := fun f g => match f with
  | .nx ρ => OkS (s ρ g) Q
  | .rt w => Q (.rt w) g
  | .bk ρ => Q (.bk ρ) g
  | .ct ρ => Q (.ct ρ) g
theorem nxt_nx {Q : Fl → G → Prop} {s : MS} {ρ : Env} {g : G} : nxt Q s (.nx ρ) g ↔ OkS (s ρ g) Q := Iff.rfl
theorem nxt_rt {Q : Fl → G → Prop} {s : MS} {w : W} {g : G} : nxt Q s (.rt w) g ↔ Q (.rt w) g := Iff.rfl
theorem nxt_bk {Q : Fl → G → Prop} {s : MS} {ρ : Env} {g : G} : nxt Q s (.bk ρ) g ↔ Q (.bk ρ) g := Iff.rfl
theorem nxt_ct {Q : Fl → G → Prop} {s : MS} {ρ : Env} {g : G} : nxt Q s (.ct ρ) g ↔ Q (.ct ρ) g := Iff.rfl
theorem okS_nop : OkS (sNop ρ g) Q ↔ Q (.nx ρ) g := okS_fl
theorem okS_brk : OkS (sBrk ρ g) Q ↔ Q (.bk ρ) g := okS_fl
theorem okS_cnt : OkS (sCnt ρ g) Q ↔ Q (.ct ρ) g := okS_fl
theorem okS_seq : OkS (sSeq s1 s2 ρ g) Q ↔ OkS (s1 ρ g) (nxt Q s2) := by
  unfold sSeq
  cases r : s1 ρ g with
  | fl f g1 =>
    cases f with
    | nx ρ1 => rw [okS_fl]; rfl
    | rt w => rw [okS_fl, okS_fl]; rfl
    | bk ρ1 => rw [okS_fl, okS_fl]; rfl
    | ct ρ1 => rw [okS_fl, okS_fl]; rfl
  | ex e ρ g => exact ⟨fun h => (okS_ex.mp h).elim, fun h => (okS_ex.mp h).elim⟩
  | bad => exact ⟨fun h => (okS_bad.mp h).elim, fun h => (okS_bad.mp h).elim⟩
theorem okS_E : OkS (sE e ρ g) Q ↔ Ok (e ρ g) fun _ g1 => Q (.nx ρ) g1 := by
  unfold sE
  cases r : e ρ g with
  | ok w g1 => simp only [okS_fl, ok_ok]
  | ex x g1 => exact ⟨fun h => (okS_ex.mp h).elim, fun h => (ok_ex.mp h).elim⟩
  | bad => exact ⟨fun h => (okS_bad.mp h).elim, fun h => (ok_bad.mp h).elim⟩
theorem okS_ret : OkS (sRet e ρ g) Q ↔ Ok (e ρ g) fun w g1 => Q (.rt w) g1 := by
  unfold sRet
  cases r : e ρ g with
  | ok w g1 => simp only [okS_fl, ok_ok]
  | ex x g1 => exact ⟨fun h => (okS_ex.mp h).elim, fun h => (ok_ex.mp h).elim⟩
  | bad => exact ⟨fun h => (okS_bad.mp h).elim, fun h => (ok_bad.mp h).elim⟩
theorem okS_asg {t : MG} : OkS (sAsg e t ρ g) Q ↔ Ok (e ρ g) fun w g1 => Ok (t w ρ g1) fun ρ1 g2 => Q (.nx ρ1) g2 := by
  unfold sAsg
  cases r : e ρ g with
  | ok w g1 =>
    rw [ok_ok]
    dsimp only
    cases r2 : t w ρ g1 with
    | ok ρ1 g2 => simp only [okS_fl, ok_ok]
    | ex x g2 => exact ⟨fun h => (okS_bad.mp h).elim, fun h => (ok_ex.mp h).elim⟩
    | bad => exact ⟨fun h => (okS_bad.mp h).elim, fun h => (ok_bad.mp h).elim⟩
  | ex x g1 => exact ⟨fun h => (okS_ex.mp h).elim, fun h => (ok_ex.mp h).elim⟩
  | bad => exact ⟨fun h => (okS_bad.mp h).elim, fun h => (ok_bad.mp h).elim⟩
theorem ok_gName {i : Nat} {w : W} {Q : Env → G → Prop} : Ok (gName i w ρ g) Q ↔ Q (ρ.set i (some w)) g := ok_ok
theorem okS_if : OkS (sIf t s1 s2 ρ g) Q ↔ Ok (t ρ g) fun k g1 => if k = true then OkS (s1 ρ g1) Q else OkS (s2 ρ g1) Q := by
  unfold sIf
  cases r : t ρ g with
  | ok w g1 => cases w <;> simp [ok_ok]
  | ex x g1 => exact ⟨fun h => (okS_ex.mp h).elim, fun h => (ok_ex.mp h).elim⟩
  | bad => exact ⟨fun h => (okS_bad.mp h).elim, fun h => (ok_bad.mp h).elim⟩
theorem okS_aug {i : Nat} {f : W → W → G → Res W} : OkS (sAug i f e ρ g) Q ↔ ∃ x, ρ[i]? = some (some x) ∧ Ok (e ρ g) fun y g1 => Ok (f x y g1) fun z g2 => Q (.nx (ρ.set i (some z))) g2 := by
  unfold sAug
  split
  · rename_i x q
    cases r : e ρ g with
    | ok y g1 =>
      simp only [ok_ok]
      cases r2 : f x y g1 with
      | ok z g2 =>
        rw [okS_fl]
        exact ⟨fun h => ⟨x, q, by rw [r2, ok_ok]; exact h⟩, fun ⟨x', e, h⟩ => by rw [q] at e; cases e; rw [r2, ok_ok] at h; exact h⟩
      | ex x1 g2 => exact ⟨fun h => (okS_ex.mp h).elim, fun ⟨x', e, h⟩ => by rw [q] at e; cases e; rw [r2] at h; exact (ok_ex.mp h).elim⟩
      | bad => exact ⟨fun h => (okS_bad.mp h).elim, fun ⟨x', e, h⟩ => by rw [q] at e; cases e; rw [r2] at h; exact (ok_bad.mp h).elim⟩
    | ex x1 g1 => exact ⟨fun h => (okS_ex.mp h).elim, fun ⟨x', e, h⟩ => (ok_ex.mp h).elim⟩
    | bad => exact ⟨fun h => (okS_bad.mp h).elim, fun ⟨x', e, h⟩ => (ok_bad.mp h).elim⟩
  · rename_i q
    exact ⟨fun h => (okS_bad.mp h).elim, fun ⟨x, e, _⟩ => absurd e (q x)⟩
theorem okS_par {is : List Nat} : OkS (sPar is as ρ g) Q ↔ Ok (as ρ g) fun ws g1 => ∃ ρ1, putL is ws ρ = some ρ1 ∧ Q (.nx ρ1) g1 := by
  unfold sPar
  cases r : as ρ g with
  | ok ws g1 =>
    rw [ok_ok]
    dsimp only
    cases q : putL is ws ρ with
    | some ρ1 => exact ⟨fun h => ⟨ρ1, rfl, okS_fl.mp h⟩, fun ⟨_, e, h⟩ => by cases e; exact okS_fl.mpr h⟩
    | none => exact ⟨fun h => (okS_bad.mp h).elim, fun ⟨_, e, _⟩ => by cases e⟩
  | ex x g1 => exact ⟨fun h => (okS_ex.mp h).elim, fun h => (ok_ex.mp h).elim⟩
  | bad => exact ⟨fun h => (okS_bad.mp h).elim, fun h => (ok_bad.mp h).elim⟩
theorem ok_def {p n : Nat} {b : MS} {ws : List W} {Q : W → G → Prop} : Ok (mDef p n b ws g) Q ↔ ws.length = p ∧ OkS (b (startM n ws) g) fun f g' => match f with
    | .nx _ => Q .non g'
    | .rt w => Q w g'
    | _ => False := by
  unfold mDef
  rw [ok_iteB]
  refine and_congr_right fun _ => ?_
  cases r : b (startM n ws) g with
  | fl f g1 =>
    cases f with
    | nx ρ1 => simp only [endS, okS_fl, ok_ok]
    | rt w => simp only [endS, okS_fl, ok_ok]
    | bk ρ1 => simp only [endS, okS_fl, ok_bad]
    | ct ρ1 => simp only [endS, okS_fl, ok_bad]
  | ex e ρ g => exact ⟨fun h => (ok_ex.mp h).elim, fun h => (okS_ex.mp h).elim⟩
  | bad => exact ⟨fun h => (ok_bad.mp h).elim, fun h => (okS_bad.mp h).elim⟩
theorem okS_for {mi : MI} {tg : MG} : OkS (sFor mi tg s ρ g) Q ↔ Ok (mi ρ g) fun it g1 => OkS (forGo it tg s (itLen it g1) 0 ρ g1) Q := by
  unfold sFor
  cases r : mi ρ g with
  | ok w g1 => rw [ok_ok]
  | ex x g1 => exact ⟨fun h => (okS_ex.mp h).elim, fun h => (ok_ex.mp h).elim⟩
  | bad => exact ⟨fun h => (okS_bad.mp h).elim, fun h => (ok_bad.mp h).elim⟩
end
/-! ### heaps -/
def Ext (g g' : G) : Prop := ∃ t, g' = g ++ t
theorem Ext.refl (g : G) : Ext g g := ⟨[], by simp⟩
theorem Ext.trans {a b c : G} (h : Ext a b) (h' : Ext b c) : Ext a c := by
  obtain ⟨t, rfl⟩ := h
  obtain ⟨u, rfl⟩ := h'
  exact ⟨t ++ u, by simp⟩
theorem Ext.snoc (g : G) (o : O) : Ext g (g ++ [o]) := ⟨[o], rfl⟩
theorem Ext.len {g g' : G} (h : Ext g g') : g.length ≤ g'.length := by
  obtain ⟨t, rfl⟩ := h
  simp
theorem Ext.get {g g' : G} (h : Ext g g') {n : Nat} {o : O} (e : g[n]? = some o) : g'[n]? = some o := by
  obtain ⟨t, rfl⟩ := h
  have hl : n < g.length := (List.getElem?_eq_some_iff.mp e).1
  rw [List.getElem?_append_left hl]
  exact e
theorem Ext.set {g g' : G} (h : Ext g g') {n : Nat} (hn : g.length ≤ n) (o : O) : Ext g (g'.set n o) := by
  obtain ⟨t, rfl⟩ := h
  exact ⟨t.set (n - g.length) o, by rw [List.set_append_right _ _ hn]⟩
theorem get_new (g : G) (o : O) : (g ++ [o])[g.length]? = some o := by simp
theorem lstAt_of {g : G} {n : Nat} {ws : List W} (h : g[n]? = some (.lst ws)) : lstAt g n = some ws := by unfold lstAt; rw [h]
theorem lstAt_ofF {g : G} {n : Nat} {ws : List W} (h : g[n]? = some (.fls ws)) : lstAt g n = some ws := by unfold lstAt; rw [h]
theorem tupAt_of {g : G} {n : Nat} {ws : List W} (h : g[n]? = some (.tup ws)) : tupAt g n = some ws := by unfold tupAt; rw [h]
theorem Ext.lst {g g' : G} (h : Ext g g') {n : Nat} {ws : List W} (e : lstAt g n = some ws) : lstAt g' n = some ws := by
  unfold lstAt at *
  cases q : g[n]? with
  | none => rw [q] at e; cases e
  | some o => rw [h.get q]; rw [q] at e; exact e
theorem Ext.seq {g g' : G} (h : Ext g g') {n : Nat} {ws : List W} (e : seqAt g n = some ws) : seqAt g' n = some ws := by
  unfold seqAt at *
  cases q : g[n]? with
  | none => rw [q] at e; cases e
  | some o => rw [h.get q]; rw [q] at e; exact e
theorem Ext.tup {g g' : G} (h : Ext g g') {n : Nat} {ws : List W} (e : tupAt g n = some ws) : tupAt g' n = some ws := by
  unfold tupAt at *
  cases q : g[n]? with
  | none => rw [q] at e; cases e
  | some o => rw [h.get q]; rw [q] at e; exact e
theorem seq_of_lst {g : G} {n : Nat} {ws : List W} (e : lstAt g n = some ws) : seqAt g n = some ws := by
  unfold lstAt at e
  unfold seqAt
  split at e
  · rename_i us q; rw [q]; exact e
  · rename_i us q; rw [q]; exact e
  · cases e
theorem seq_of_tup {g : G} {n : Nat} {ws : List W} (e : tupAt g n = some ws) : seqAt g n = some ws := by
  unfold tupAt at e
  unfold seqAt
  split at e
  · rename_i us q; rw [q]; exact e
  · cases e
theorem isL_of {g : G} {n : Nat} {ws : List W} (e : lstAt g n = some ws) : isL g (.ref n) = true := by
  unfold isL
  dsimp only
  rw [e]
  rfl
theorem lt_of_lst {g : G} {n : Nat} {ws : List W} (e : lstAt g n = some ws) : n < g.length := by
  unfold lstAt at e
  cases q : g[n]? with
  | none => rw [q] at e; cases e
  | some o => exact (List.getElem?_eq_some_iff.mp q).1
theorem lt_of_get {g : G} {n : Nat} {o : O} (q : g[n]? = some o) : n < g.length := (List.getElem?_eq_some_iff.mp q).1
theorem ints_map (ns : List Int) : intsL (ns.map .int) = some ns := by
  induction ns with
  | nil => rfl
  | cons n ns ih => rw [List.map_cons, intsL, ih]
theorem bools_map (ns : List Bool) : bools (ns.map .bl) = some ns := by
  induction ns with
  | nil => rfl
  | cons n ns ih => rw [List.map_cons, bools, ih]
/-! ### loops -/
/-- a comprehension whose turns leave what stood: val i is the i-th turn's item, if there is one -/
theorem lcGo_map {it : It} {tg : MG} {tt : MT} {el : ME} {ρ : Env} {g0 : G} (n : Nat) (val : Nat → Option W) (hn : n ≤ SZ)
    (step : ∀ i g', i < n → Ext g0 g' → g0.length < g'.length → ∃ w g1, itAt it i g' = .go w g1 ∧ Ok (tg w ρ g1) fun ρ1 g2 => Ok (tt ρ1 g2) fun k g3 => if k = true then Ok (el ρ1 g3) fun y g4 => Ext g' g4 ∧ val i = some y else Ext g' g3 ∧ val i = none)
    (stop : ∀ g', Ext g0 g' → g0.length < g'.length → itAt it n g' = .stop) :
    ∀ (m i : Nat) (acc : List W) (g' : G), i + m = n → Ext g0 g' → g'[g0.length]? = some (.lst acc) → acc.length ≤ i → acc = (List.range i).filterMap val →
      Ok (lcGo it tg tt el ρ g0.length m i g') fun w g2 => w = .ref g0.length ∧ Ext g0 g2 ∧ g2[g0.length]? = some (.lst ((List.range n).filterMap val)) := by
  intro m
  induction m with
  | zero =>
    intro i acc g' e hx hd hl ha
    have : i = n := by omega
    subst this
    unfold lcGo
    rw [stop g' hx (lt_of_get hd), ok_ok]
    exact ⟨rfl, hx, by rw [hd, ha]⟩
  | succ m ih =>
    intro i acc g' e hx hd hl ha
    unfold lcGo
    obtain ⟨w, g1, e1, h1⟩ := step i g' (by omega) hx (lt_of_get hd)
    rw [e1]
    dsimp only
    obtain ⟨ρ1, g2, e2, h2⟩ := h1
    rw [e2]
    dsimp only
    obtain ⟨k, g3, e3, h3⟩ := h2
    rw [e3]
    cases k with
    | true =>
      dsimp only
      rw [if_pos rfl] at h3
      obtain ⟨y, g4, e4, h4, h5⟩ := h3
      rw [e4]
      dsimp only
      rw [h4.get hd]
      dsimp only
      rw [if_pos (by omega)]
      refine ih (i + 1) (acc ++ [y]) _ (by omega) ((hx.trans h4).set (Nat.le_refl _) _) ?_ (by simp; omega) ?_
      · rw [List.getElem?_set_self (lt_of_get (h4.get hd))]
      · rw [List.range_succ, List.filterMap_append, ← ha]
        simp [h5]
    | false =>
      dsimp only
      rw [if_neg Bool.false_ne_true] at h3
      refine ih (i + 1) acc _ (by omega) (hx.trans h3.1) (h3.1.get hd) (by omega) ?_
      rw [List.range_succ, List.filterMap_append, ← ha]
      simp [h3.2]
theorem ok_lc {mi : MI} {own : List Nat} {tg : MG} {tt : MT} {el : ME} {ρ : Env} {g : G} {Q : W → G → Prop} : Ok (mLc mi own tg tt el ρ g) Q ↔ Ok (mi ρ g) fun it g1 => Ok (lcGo it tg tt el (wipe ρ own) g1.length (itLen it g1) 0 (g1 ++ [.lst []])) Q := by
  unfold mLc
  rw [ok_bind]
/-- the same, from the block's start -/
theorem lc_map {it : It} {tg : MG} {tt : MT} {el : ME} {ρ : Env} {g0 : G} {Q : W → G → Prop} (n : Nat) (val : Nat → Option W) (hn : n ≤ SZ) (hl : itLen it g0 = n)
    (step : ∀ i g', i < n → Ext g0 g' → g0.length < g'.length → ∃ w g1, itAt it i g' = .go w g1 ∧ Ok (tg w ρ g1) fun ρ1 g2 => Ok (tt ρ1 g2) fun k g3 => if k = true then Ok (el ρ1 g3) fun y g4 => Ext g' g4 ∧ val i = some y else Ext g' g3 ∧ val i = none)
    (stop : ∀ g', Ext g0 g' → g0.length < g'.length → itAt it n g' = .stop)
    (q : ∀ g2, Ext g0 g2 → g2[g0.length]? = some (.lst ((List.range n).filterMap val)) → Q (.ref g0.length) g2) :
    Ok (lcGo it tg tt el ρ g0.length (itLen it g0) 0 (g0 ++ [.lst []])) Q := by
  rw [hl]
  exact (lcGo_map n val hn step stop n 0 [] _ (by omega) (Ext.snoc _ _) (get_new _ _) (by simp) (by simp)).mono fun w g2 ⟨e, h1, h2⟩ => by
    subst e
    exact q g2 h1 h2
/-- a for by an invariant -/
theorem forGo_inv {it : It} {tg : MG} {s : MS} {Q : Fl → G → Prop} (n : Nat) (P : Nat → Env → G → Prop)
    (step : ∀ i ρ g, i < n → P i ρ g → ∃ w g1, itAt it i g = .go w g1 ∧ Ok (tg w ρ g1) fun ρ1 g2 => OkS (s ρ1 g2) fun f g3 => match f with
      | .nx ρ2 => P (i + 1) ρ2 g3
      | .ct ρ2 => P (i + 1) ρ2 g3
      | .bk ρ2 => Q (.nx ρ2) g3
      | .rt w => Q (.rt w) g3)
    (stop : ∀ ρ g, P n ρ g → itAt it n g = .stop ∧ Q (.nx ρ) g) :
    ∀ (m i : Nat) (ρ : Env) (g : G), i + m = n → P i ρ g → OkS (forGo it tg s m i ρ g) Q := by
  intro m
  induction m with
  | zero =>
    intro i ρ g e h
    have : i = n := by omega
    subst this
    unfold forGo
    rw [(stop ρ g h).1, okS_fl]
    exact (stop ρ g h).2
  | succ m ih =>
    intro i ρ g e h
    unfold forGo
    obtain ⟨w, g1, e1, h1⟩ := step i ρ g (by omega) h
    rw [e1]
    dsimp only
    obtain ⟨ρ1, g2, e2, h2⟩ := h1
    rw [e2]
    dsimp only
    obtain ⟨f, g3, e3, h3⟩ := h2
    rw [e3]
    cases f with
    | nx ρ2 => exact ih (i + 1) ρ2 g3 (by omega) h3
    | ct ρ2 => exact ih (i + 1) ρ2 g3 (by omega) h3
    | bk ρ2 => exact okS_fl.mpr h3
    | rt w => exact okS_fl.mpr h3
/-- a while by an invariant and a measure -/
theorem while_inv {c : MT} {s : MS} {Q : Fl → G → Prop} (P : Env → G → Prop) (μ : Env → G → Nat)
    (step : ∀ ρ g, P ρ g → Ok (c ρ g) fun k g1 => if k = true then OkS (s ρ g1) fun f g3 => (match f with
      | .nx ρ2 => P ρ2 g3 ∧ μ ρ2 g3 < μ ρ g
      | .ct ρ2 => P ρ2 g3 ∧ μ ρ2 g3 < μ ρ g
      | .bk ρ2 => Q (.nx ρ2) g3
      | .rt w => Q (.rt w) g3) else Q (.nx ρ) g1) :
    ∀ (m : Nat) (ρ : Env) (g : G), P ρ g → μ ρ g < m → OkS (whileGo c s m ρ g) Q := by
  intro m
  induction m with
  | zero => intro ρ g _ h; exact absurd h (Nat.not_lt_zero _)
  | succ m ih =>
    intro ρ g h hm
    unfold whileGo
    obtain ⟨k, g1, e1, h1⟩ := step ρ g h
    rw [e1]
    cases k with
    | true =>
      dsimp only
      rw [if_pos rfl] at h1
      obtain ⟨f, g3, e3, h3⟩ := h1
      rw [e3]
      cases f with
      | nx ρ2 => exact ih ρ2 g3 h3.1 (by have := h3.2; omega)
      | ct ρ2 => exact ih ρ2 g3 h3.1 (by have := h3.2; omega)
      | bk ρ2 => exact okS_fl.mpr h3
      | rt w => exact okS_fl.mpr h3
    | false =>
      dsimp only
      rw [if_neg Bool.false_ne_true] at h1
      exact okS_fl.mpr h1
end M
namespace M
def b_is_integer : MS := sRet (mAnd (mCall bIsi (aCons (mVar 0) (aCons (mC (.ty "int")) (aNil)))) (mNot (mCall bIsi (aCons (mVar 0) (aCons (mC (.ty "bool")) (aNil))))))
def m_is_integer : Fn := mDef 1 1 b_is_integer
def b_spare_by : MS := sRet (mLc (iEnum (aCons (mVar 0) (aNil))) [1, 2] (M.gTup [M.gName 1, M.gName 2]) (M.tYes) (mOp2 opSub (mVar 2) (mVar 1)))
def m_spare_by : Fn := mDef 1 3 b_spare_by
def b_is_team : MS := sSeq (sIf (M.tOr (M.tNot (tVal (mCall bIsi (aCons (mVar 0) (aCons (mC (.ty "list")) (aNil)))))) (M.tNot (tVal (mChain opLe opLe (mC (.int 1)) (mCall bLen (aCons (mVar 0) (aNil))) (mC (.int 20)))))) (sRet (mC (.bl false))) (sNop)) (sSeq (sIf (M.tNot (tVal (mCall bAll (aCons (mLc (iLst (mVar 0)) [1] (M.gName 1) (M.tYes) (mAnd (mCall m_is_integer (aCons (mVar 1) (aNil))) (mOp2 opGe (mVar 1) (mC (.int 0))))) (aNil))))) (sRet (mC (.bl false))) (sNop)) (sRet (mOp2 opLe (mCall bMax (aCons (mCall m_spare_by (aCons (mCall bSorted (aCons (mVar 0) (aNil))) (aNil))) (aNil))) (mC (.int 40)))))
def m_is_team : Fn := mDef 1 2 b_is_team
def b_need_team : MS := sIf (M.tNot (tVal (mCall m_is_team (aCons (mVar 0) (aNil))))) (sRaise (PySem.Str.ofString "InvalidTeam")) (sNop)
def m_need_team : Fn := mDef 1 1 b_need_team
def b_is_rising : MS := sSeq (sIf (M.tOr (M.tNot (tVal (mCall bIsi (aCons (mVar 0) (aCons (mC (.ty "list")) (aNil)))))) (tVal (mOp2 opGt (mCall bLen (aCons (mVar 0) (aNil))) (mVar 1)))) (sRet (mC (.bl false))) (sNop)) (sSeq (sIf (M.tNot (tVal (mCall bAll (aCons (mLc (iLst (mVar 0)) [3] (M.gName 3) (M.tYes) (mAnd (mCall m_is_integer (aCons (mVar 3) (aNil))) (mChain opLe opLe (mC (.int 0)) (mVar 3) (mVar 2)))) (aNil))))) (sRet (mC (.bl false))) (sNop)) (sRet (mCall bAll (aCons (mLc (iZip (aCons (mVar 0) (aCons (mSl (mVar 0) (oSome (mC (.int 1))) (oNone)) (aNil)))) [4, 5] (M.gTup [M.gName 4, M.gName 5]) (M.tYes) (mOp2 opLt (mVar 4) (mVar 5))) (aNil)))))
def m_is_rising : Fn := mDef 3 6 b_is_rising
def b_need_workers : MS := sIf (M.tNot (tVal (mCall m_is_rising (aCons (mVar 1) (aCons (mCall bLen (aCons (mVar 0) (aNil))) (aCons (mOp2 opSub (mCall bLen (aCons (mVar 0) (aNil))) (mC (.int 1))) (aNil))))))) (sRaise (PySem.Str.ofString "InvalidWorkers")) (sNop)
def m_need_workers : Fn := mDef 2 2 b_need_workers
def b_need_jobs : MS := sIf (M.tNot (tVal (mCall m_is_rising (aCons (mVar 0) (aCons (mC (.int 20)) (aCons (mC (.int 59)) (aNil))))))) (sRaise (PySem.Str.ofString "InvalidJobs")) (sNop)
def m_need_jobs : Fn := mDef 1 1 b_need_jobs
def b_able_for : MS := sRet (mCall bLen (aCons (mLc (iLst (mVar 0)) [2] (M.gName 2) (tVal (mOp2 opGt (mVar 2) (mVar 1))) (mVar 2)) (aNil)))
def m_able_for : Fn := mDef 2 3 b_able_for
def b_is_crowded : MS := sRet (mOp2 opGt (mCall bLen (aCons (mLc (iLst (mVar 1)) [3] (M.gName 3) (tVal (mOp2 opLe (mOp2 opIx (mVar 0) (mVar 3)) (mVar 2))) (mVar 3)) (aNil))) (mVar 2))
def m_is_crowded : Fn := mDef 3 4 b_is_crowded
def b_is_lacking : MS := sRet (mOp2 opLt (mCall m_able_for (aCons (mVar 0) (aCons (mVar 2) (aNil)))) (mCall bLen (aCons (mLc (iLst (mVar 1)) [3] (M.gName 3) (tVal (mOp2 opGe (mVar 3) (mVar 2))) (mVar 3)) (aNil))))
def m_is_lacking : Fn := mDef 3 4 b_is_lacking
def b_work_paper : MS := sSeq (sE (mCall m_need_team (aCons (mVar 0) (aNil)))) (sSeq (sE (mCall m_need_workers (aCons (mVar 0) (aCons (mVar 1) (aNil))))) (sSeq (sAsg (mLc (iRng1 (aCons (mCall bLen (aCons (mVar 0) (aNil))) (aNil))) [3] (M.gName 3) (tVal (mCall m_is_crowded (aCons (mVar 0) (aCons (mVar 1) (aCons (mVar 3) (aNil)))))) (mVar 3)) (M.gName 2)) (sRet (mIf (tVal (mOp2 opNe (mVar 2) (mLst (aNil)))) (mOp2 opIx (mVar 2) (mC (.int 0))) (mC .non)))))
def m_work_paper : Fn := mDef 2 4 b_work_paper
def b_can_work : MS := sRet (mOp1 opIsN (mCall m_work_paper (aCons (mVar 0) (aCons (mVar 1) (aNil)))))
def m_can_work : Fn := mDef 2 2 b_can_work
def b_shows_work_paper : MS := sSeq (sE (mCall m_need_team (aCons (mVar 0) (aNil)))) (sSeq (sE (mCall m_need_workers (aCons (mVar 0) (aCons (mVar 1) (aNil))))) (sRet (mAnd (mCall m_is_integer (aCons (mVar 2) (aNil))) (mAnd (mOp2 opGe (mVar 2) (mC (.int 0))) (mCall m_is_crowded (aCons (mVar 0) (aCons (mVar 1) (aCons (mVar 2) (aNil)))))))))
def m_shows_work_paper : Fn := mDef 3 3 b_shows_work_paper
def b_give_paper : MS := sSeq (sE (mCall m_need_team (aCons (mVar 0) (aNil)))) (sSeq (sE (mCall m_need_jobs (aCons (mVar 1) (aNil)))) (sSeq (sAsg (mLc (iRng1 (aCons (mOp2 opAdd (mC (.int 59)) (mC (.int 1))) (aNil))) [3] (M.gName 3) (tVal (mCall m_is_lacking (aCons (mVar 0) (aCons (mVar 1) (aCons (mVar 3) (aNil)))))) (mVar 3)) (M.gName 2)) (sRet (mIf (tVal (mOp2 opNe (mVar 2) (mLst (aNil)))) (mOp2 opIx (mVar 2) (mC (.int 0))) (mC .non)))))
def m_give_paper : Fn := mDef 2 4 b_give_paper
def b_can_give : MS := sRet (mOp1 opIsN (mCall m_give_paper (aCons (mVar 0) (aCons (mVar 1) (aNil)))))
def m_can_give : Fn := mDef 2 2 b_can_give
def b_shows_give_paper : MS := sSeq (sE (mCall m_need_team (aCons (mVar 0) (aNil)))) (sSeq (sE (mCall m_need_jobs (aCons (mVar 1) (aNil)))) (sRet (mAnd (mCall m_is_integer (aCons (mVar 2) (aNil))) (mAnd (mOp2 opGe (mVar 2) (mC (.int 0))) (mCall m_is_lacking (aCons (mVar 0) (aCons (mVar 1) (aCons (mVar 2) (aNil)))))))))
def m_shows_give_paper : Fn := mDef 3 3 b_shows_give_paper
def b__law_store : MS := sSeq (sAsg (mIf (tVal (mOp2 opLt (mVar 1) (mCall bLen (aCons (mVar 0) (aNil))))) (mCall bAbs (aCons (mOp2 opIx (mVar 0) (mVar 1)) (aNil))) (mC (.int 0))) (M.gName 2)) (sRet (mLst (aCons (mCall bMax (aCons (mC (.int 0)) (aCons (mOp2 opSub (mVar 2) (mOp2 opPow (mC (.int 10)) (mC (.int 18)))) (aNil)))) (aCons (mOp2 opAdd (mOp2 opMul (mOp2 opMod (mCall bInt (aCons (mVar 2) (aNil))) (mOp2 opAdd (mOp2 opPow (mC (.int 10)) (mC (.int 37))) (mC (.int 43)))) (mC (.int 83))) (mOp2 opMul (mC (.int 7)) (mVar 1))) (aCons (mC (.int 0)) (aNil))))))
def m__law_store : Fn := mDef 2 3 b__law_store
def b__law_pick : MS := sSeq (sIf (tVal (mOp2 opGt (mOp2 opIx (mVar 0) (mC (.int 0))) (mC (.int 0)))) (sSeq (sAsg (mOp2 opMod (mCall bInt (aCons (mOp2 opIx (mVar 0) (mC (.int 0))) (aNil))) (mVar 1)) (M.gName 3)) (sSeq (sAsg (mOp2 opDiv (mOp2 opIx (mVar 0) (mC (.int 0))) (mVar 1)) (M.gSub (mVar 0) (mC (.int 0)))) (sRet (mVar 3)))) (sNop)) (sSeq (sAsg (mOp2 opAdd (mOp2 opIx (mVar 0) (mC (.int 2))) (mC (.int 1))) (M.gSub (mVar 0) (mC (.int 2)))) (sSeq (sAsg (mOp2 opMod (mCall bInt (aCons (mOp2 opPow (mOp2 opAdd (mOp2 opIx (mVar 0) (mC (.int 1))) (mOp2 opMul (mC (.int 32416187567)) (mOp2 opIx (mVar 0) (mC (.int 2))))) (mC (.int 3))) (aNil))) (mOp2 opAdd (mOp2 opPow (mC (.int 10)) (mC (.int 40))) (mC (.int 121)))) (M.gName 2)) (sSeq (sAsg (mOp2 opMod (mCall bInt (aCons (mOp2 opPow (mOp2 opAdd (mVar 2) (mOp2 opMul (mC (.int 27644437)) (mOp2 opIx (mVar 0) (mC (.int 2))))) (mC (.int 3))) (aNil))) (mOp2 opAdd (mOp2 opPow (mC (.int 10)) (mC (.int 39))) (mC (.int 3)))) (M.gName 2)) (sRet (mOp2 opMod (mCall bInt (aCons (mOp2 opDiv (mVar 2) (mC (.int 16381))) (aNil))) (mVar 1))))))
def m__law_pick : Fn := mDef 2 4 b__law_pick
def b__law_deal : MS := sSeq (sAsg (mTup (aCons (mOp2 opAdd (mC (.int 1)) (mCall m__law_pick (aCons (mVar 0) (aCons (mVar 1) (aNil))))) (aCons (mCall m__law_pick (aCons (mVar 0) (aCons (mC (.int 6)) (aNil)))) (aNil)))) (M.gTup [M.gName 3, M.gName 4])) (sSeq (sIf (tVal (mOp2 opEq (mVar 4) (mC (.int 1)))) (sSeq (sAsg (mLc (iRng1 (aCons (mC (.int 2)) (aNil))) [7] (M.gName 7) (M.tYes) (mCall m__law_pick (aCons (mVar 0) (aCons (mOp2 opAdd (mVar 2) (mC (.int 1))) (aNil))))) (M.gName 5)) (sRet (mLc (iRng1 (aCons (mVar 3) (aNil))) [7] (M.gName 7) (M.tYes) (mOp2 opIx (mVar 5) (mCall m__law_pick (aCons (mVar 0) (aCons (mC (.int 2)) (aNil)))))))) (sNop)) (sSeq (sIf (tVal (mOp2 opEq (mVar 4) (mC (.int 2)))) (sRet (mLc (iRng1 (aCons (mVar 3) (aNil))) [7] (M.gName 7) (M.tYes) (mCall m__law_pick (aCons (mVar 0) (aCons (mOp2 opAdd (mCall bMin (aCons (mVar 2) (aCons (mC (.int 2)) (aNil)))) (mC (.int 1))) (aNil)))))) (sNop)) (sSeq (sIf (tVal (mOp2 opEq (mVar 4) (mC (.int 3)))) (sSeq (sAsg (mLc (iRng1 (aCons (mVar 3) (aNil))) [8] (M.gName 8) (M.tYes) (mCall bMin (aCons (mVar 2) (aCons (mOp2 opAdd (mVar 8) (mCall m__law_pick (aCons (mVar 0) (aCons (mC (.int 2)) (aNil))))) (aNil))))) (M.gName 6)) (sRet (mLc (iRng1 (aCons (mVar 3) (aNil))) [7] (M.gName 7) (M.tYes) (mMt mtPop (mVar 6) (aCons (mCall m__law_pick (aCons (mVar 0) (aCons (mCall bLen (aCons (mVar 6) (aNil))) (aNil)))) (aNil)))))) (sNop)) (sSeq (sIf (tVal (mOp2 opEq (mVar 4) (mC (.int 4)))) (sRet (mOp2 opMul (mLst (aCons (mCall m__law_pick (aCons (mVar 0) (aCons (mOp2 opAdd (mVar 2) (mC (.int 1))) (aNil)))) (aNil))) (mVar 3))) (sNop)) (sRet (mLc (iRng1 (aCons (mVar 3) (aNil))) [7] (M.gName 7) (M.tYes) (mOp2 opSub (mVar 2) (mCall m__law_pick (aCons (mVar 0) (aCons (mOp2 opIx (mLst (aCons (mOp2 opAdd (mVar 2) (mC (.int 1))) (aCons (mOp2 opAdd (mCall bMin (aCons (mVar 2) (aCons (mC (.int 3)) (aNil)))) (mC (.int 1))) (aNil)))) (mCall bInt (aCons (mOp2 opEq (mVar 4) (mC (.int 5))) (aNil)))) (aNil)))))))))))
def m__law_deal : Fn := mDef 3 9 b__law_deal
def b__law_order : MS := sRet (mLc (iLst (mCall bSorted (aCons (mLc (iEnum (aCons (mVar 0) (aNil))) [2, 1] (M.gTup [M.gName 2, M.gName 1]) (M.tYes) (mTup (aCons (mVar 1) (aCons (mVar 2) (aNil))))) (aNil)))) [1, 2] (M.gTup [M.gName 1, M.gName 2]) (M.tYes) (mVar 2))
def m__law_order : Fn := mDef 1 3 b__law_order
def b__law_high : MS := sSeq (sAsg (mTup (aCons (mOp2 opIx (mLst (aCons (mC (.int 1)) (aCons (mC (.int 4)) (aCons (mC (.int 41)) (aNil))))) (mCall m__law_pick (aCons (mVar 0) (aCons (mC (.int 3)) (aNil))))) (aCons (mLst (aNil)) (aNil)))) (M.gTup [M.gName 2, M.gName 3])) (sSeq (sFor (iRng1 (aCons (mOp2 opAdd (mC (.int 1)) (mCall m__law_pick (aCons (mVar 0) (aCons (mC (.int 20)) (aNil))))) (aNil))) (M.gName 1) (sE (mMt mtAppend (mVar 3) (aCons (mOp2 opSub (mOp2 opAdd (mC (.int 40)) (mVar 1)) (mCall m__law_pick (aCons (mVar 0) (aCons (mVar 2) (aNil))))) (aNil))))) (sRet (mLc (iRng1 (aCons (mCall bLen (aCons (mVar 3) (aNil))) (aNil))) [4] (M.gName 4) (M.tYes) (mMt mtPop (mVar 3) (aCons (mCall m__law_pick (aCons (mVar 0) (aCons (mCall bLen (aCons (mVar 3) (aNil))) (aNil)))) (aNil))))))
def m__law_high : Fn := mDef 1 5 b__law_high
def b__law_crowd : MS := sRet (mOp2 opGt (mCall bLen (aCons (mLc (iLst (mVar 1)) [3] (M.gName 3) (tVal (mOp2 opLe (mOp2 opIx (mVar 0) (mVar 3)) (mVar 2))) (mVar 3)) (aNil))) (mVar 2))
def m__law_crowd : Fn := mDef 3 4 b__law_crowd
def b__law_lack : MS := sRet (mOp2 opLt (mCall bLen (aCons (mLc (iLst (mVar 0)) [3] (M.gName 3) (tVal (mOp2 opGt (mVar 3) (mVar 2))) (mVar 3)) (aNil))) (mCall bLen (aCons (mLc (iLst (mVar 1)) [4] (M.gName 4) (tVal (mOp2 opGe (mVar 4) (mVar 2))) (mVar 4)) (aNil))))
def m__law_lack : Fn := mDef 3 5 b__law_lack
def b__law_rising : MS := sSeq (sAsg (mCall m__law_pick (aCons (mVar 0) (aCons (mC (.int 4)) (aNil)))) (M.gName 3)) (sSeq (sAsg (mLc (iRng1 (aCons (mVar 1) (aNil))) [5] (M.gName 5) (M.tOr (tVal (mOp2 opEq (mVar 3) (mC (.int 3)))) (tVal (mOp2 opEq (mCall m__law_pick (aCons (mVar 0) (aCons (mOp2 opIx (mLst (aCons (mC (.int 2)) (aCons (mC (.int 5)) (aCons (mC (.int 9)) (aCons (mC (.int 1)) (aNil)))))) (mVar 3)) (aNil)))) (mC (.int 0))))) (mVar 5)) (M.gName 4)) (sRet (mOp2 opIx (mLst (aCons (mSl (mVar 4) (oNone) (oSome (mVar 2))) (aCons (mSl (mVar 4) (oSome (mOp1 opNeg (mVar 2))) (oNone)) (aNil)))) (mCall m__law_pick (aCons (mVar 0) (aCons (mC (.int 2)) (aNil)))))))
def m__law_rising : Fn := mDef 3 6 b__law_rising
def b__law_things : MS := sRet (mLst (aCons (mC .non) (aCons (mC (.bl true)) (aCons (mC (.bl false)) (aCons (mC (.str (PySem.Str.ofString ""))) (aCons (mC (.str (PySem.Str.ofString "0"))) (aCons (mTup (aNil)) (aCons (mLst (aNil)) (aCons (mD0) (aCons (mLst (aCons (mC (.int 0)) (aNil))) (aCons (mTup (aCons (mC (.int 0)) (aNil))) (aCons (mOp1 opNeg (mC (.int 1))) (aCons (mOp2 opSub (mC (.int 0)) (mOp2 opPow (mC (.int 10)) (mC (.int 30)))) (aCons (mLst (aCons (mC .non) (aNil))) (aCons (mC (.str (PySem.Str.ofString "1"))) (aCons (mD1 (PySem.Str.ofString "0") 0) (aCons (mTup (aCons (mTup (aNil)) (aNil))) (aNil))))))))))))))))))
def m__law_things : Fn := mDef 0 0 b__law_things
def b__law_right : MS := sSeq (sAsg (mCall bRepr (aCons (mLst (aCons (mVar 1) (aCons (mVar 2) (aCons (mVar 3) (aNil))))) (aNil))) (M.gName 4)) (sSeq (sAsg (mLc (iRng1 (aCons (mC (.int 70)) (aNil))) [8] (M.gName 8) (tVal (mCall m__law_crowd (aCons (mVar 1) (aCons (mVar 2) (aCons (mVar 8) (aNil)))))) (mVar 8)) (M.gName 5)) (sSeq (sAsg (mIf (tVal (mOp2 opNe (mVar 5) (mLst (aNil)))) (mOp2 opIx (mVar 5) (mC (.int 0))) (mC .non)) (M.gName 6)) (sSeq (sIf (tVal (mOp2 opNe (mCall bRepr (aCons (mLst (aCons (mCallP m_work_paper 2 [0, 1] (aCons (mVar 1) (aCons (mVar 2) (aNil)))) (aCons (mCall m_can_work (aCons (mVar 1) (aCons (mVar 2) (aNil)))) (aNil)))) (aNil))) (mCall bRepr (aCons (mLst (aCons (mVar 6) (aCons (mOp1 opIsN (mVar 6)) (aNil)))) (aNil))))) (sRet (mC (.bl false))) (sNop)) (sSeq (sAsg (mLc (iRng1 (aCons (mC (.int 70)) (aNil))) [8] (M.gName 8) (tVal (mCall m__law_lack (aCons (mVar 1) (aCons (mVar 3) (aCons (mVar 8) (aNil)))))) (mVar 8)) (M.gName 7)) (sSeq (sAsg (mIf (tVal (mOp2 opNe (mVar 7) (mLst (aNil)))) (mOp2 opIx (mVar 7) (mC (.int 0))) (mC .non)) (M.gName 6)) (sSeq (sIf (tVal (mOp2 opNe (mCall bRepr (aCons (mLst (aCons (mCallP m_give_paper 2 [0, 1] (aCons (mVar 1) (aCons (mVar 3) (aNil)))) (aCons (mCall m_can_give (aCons (mVar 1) (aCons (mVar 3) (aNil)))) (aNil)))) (aNil))) (mCall bRepr (aCons (mLst (aCons (mVar 6) (aCons (mOp1 opIsN (mVar 6)) (aNil)))) (aNil))))) (sRet (mC (.bl false))) (sNop)) (sSeq (sFor (iLst (mOp2 opAdd (mLrg1 (mC (.int 63))) (mLst (aCons (mOp2 opPow (mC (.int 10)) (mC (.int 30))) (aCons (mOp2 opAdd (mC (.int 100)) (mCall m__law_pick (aCons (mVar 0) (aCons (mOp2 opPow (mC (.int 10)) (mC (.int 9))) (aNil))))) (aNil)))))) (M.gName 8) (sSeq (sIf (tVal (mOp2 opNe (mCall bRepr (aCons (mCallP m_shows_work_paper 3 [0, 1, 2] (aCons (mVar 1) (aCons (mVar 2) (aCons (mVar 8) (aNil))))) (aNil))) (mCall bRepr (aCons (mOp2 opIn (mVar 8) (mVar 5)) (aNil))))) (sRet (mC (.bl false))) (sNop)) (sIf (tVal (mOp2 opNe (mCall bRepr (aCons (mCallP m_shows_give_paper 3 [0, 1, 2] (aCons (mVar 1) (aCons (mVar 3) (aCons (mVar 8) (aNil))))) (aNil))) (mCall bRepr (aCons (mOp2 opIn (mVar 8) (mVar 7)) (aNil))))) (sRet (mC (.bl false))) (sNop)))) (sSeq (sFor (iLst (mCall m__law_things aNil)) (M.gName 9) (sIf (tVal (mOp2 opNe (mCall bRepr (aCons (mLst (aCons (mCall m_shows_work_paper (aCons (mVar 1) (aCons (mVar 2) (aCons (mVar 9) (aNil))))) (aCons (mCall m_shows_give_paper (aCons (mVar 1) (aCons (mVar 3) (aCons (mVar 9) (aNil))))) (aNil)))) (aNil))) (mC (.str (PySem.Str.ofString "[False, False]"))))) (sRet (mC (.bl false))) (sNop))) (sRet (mOp2 opEq (mCall bRepr (aCons (mLst (aCons (mVar 1) (aCons (mVar 2) (aCons (mVar 3) (aNil))))) (aNil))) (mVar 4)))))))))))
def m__law_right : Fn := mDef 4 10 b__law_right
def b_law : MS := sSeq (sFor (iRng1 (aCons (mCall bMax (aCons (mC (.int 1)) (aCons (mCall bMin (aCons (mC (.int 4)) (aCons (mCall bLen (aCons (mVar 0) (aNil))) (aNil)))) (aNil)))) (aNil))) (M.gName 1) (sSeq (sAsg (mCall m__law_store (aCons (mVar 0) (aCons (mVar 1) (aNil)))) (M.gName 4)) (sFor (iLst (mLst (aCons (mCall m__law_deal (aCons (mVar 4) (aCons (mC (.int 20)) (aCons (mC (.int 40)) (aNil))))) (aCons (mCall m__law_deal (aCons (mVar 4) (aCons (mC (.int 6)) (aCons (mC (.int 5)) (aNil))))) (aCons (mCall m__law_deal (aCons (mVar 4) (aCons (mC (.int 20)) (aCons (mC (.int 12)) (aNil))))) (aCons (mCall m__law_high (aCons (mVar 4) (aNil))) (aNil))))))) (M.gName 5) (sSeq (sAsg (mCall m__law_rising (aCons (mVar 4) (aCons (mCall bLen (aCons (mVar 5) (aNil))) (aCons (mC (.int 20)) (aNil))))) (M.gName 6)) (sSeq (sAsg (mCall m__law_rising (aCons (mVar 4) (aCons (mOp2 opIx (mLst (aCons (mC (.int 60)) (aCons (mOp2 opAdd (mCall bMax (aCons (mVar 5) (aNil))) (mC (.int 1))) (aCons (mC (.int 20)) (aNil))))) (mCall m__law_pick (aCons (mVar 4) (aCons (mC (.int 3)) (aNil))))) (aCons (mC (.int 20)) (aNil))))) (M.gName 7)) (sIf (M.tNot (tVal (mCall m__law_right (aCons (mVar 4) (aCons (mVar 5) (aCons (mVar 6) (aCons (mVar 7) (aNil)))))))) (sRet (mC (.bl false))) (sNop))))))) (sSeq (sAsg (mLst (aCons (mCall m_work_paper (aCons (mLst (aCons (mC (.int 0)) (aNil))) (aCons (mLst (aCons (mC (.int 0)) (aNil))) (aNil)))) (aCons (mCall m_work_paper (aCons (mLst (aCons (mC (.int 1)) (aCons (mC (.int 1)) (aCons (mC (.int 3)) (aNil))))) (aCons (mLst (aCons (mC (.int 0)) (aCons (mC (.int 1)) (aCons (mC (.int 2)) (aNil))))) (aNil)))) (aCons (mCall m_work_paper (aCons (mLst (aCons (mC (.int 1)) (aCons (mC (.int 1)) (aNil)))) (aCons (mLst (aNil)) (aNil)))) (aNil))))) (M.gName 2)) (sSeq (sIf (M.tOr (tVal (mOp2 opNe (mVar 2) (mLst (aCons (mC (.int 0)) (aCons (mC (.int 1)) (aCons (mC .non) (aNil))))))) (tVal (mOp1 opNotN (mCall m_work_paper (aCons (mOp2 opMul (mLst (aCons (mC (.int 20)) (aNil))) (mC (.int 20))) (aCons (mLrg1 (mC (.int 20))) (aNil))))))) (sRet (mC (.bl false))) (sNop)) (sSeq (sAsg (mLst (aCons (mCall m_give_paper (aCons (mLst (aCons (mC (.int 2)) (aCons (mC (.int 1)) (aCons (mC (.int 2)) (aNil))))) (aCons (mLst (aCons (mC (.int 0)) (aCons (mC (.int 1)) (aNil)))) (aNil)))) (aCons (mCall m_give_paper (aCons (mLst (aCons (mC (.int 2)) (aCons (mC (.int 1)) (aCons (mC (.int 2)) (aNil))))) (aCons (mLst (aCons (mC (.int 0)) (aCons (mC (.int 1)) (aCons (mC (.int 2)) (aNil))))) (aNil)))) (aCons (mCall m_give_paper (aCons (mLst (aCons (mC (.int 5)) (aNil))) (aCons (mLst (aCons (mC (.int 3)) (aCons (mC (.int 4)) (aNil)))) (aNil)))) (aNil))))) (M.gName 2)) (sSeq (sIf (M.tOr (tVal (mOp2 opNe (mVar 2) (mLst (aCons (mC .non) (aCons (mC (.int 2)) (aCons (mC (.int 0)) (aNil))))))) (tVal (mOp2 opNe (mCall m_give_paper (aCons (mLst (aCons (mC (.int 5)) (aNil))) (aCons (mLst (aCons (mC (.int 59)) (aNil))) (aNil)))) (mC (.int 5))))) (sRet (mC (.bl false))) (sNop)) (sSeq (sIf (M.tOr (tVal (mOp1 opNotN (mCall m_give_paper (aCons (mOp2 opMul (mLst (aCons (mC (.int 40)) (aNil))) (mC (.int 20))) (aCons (mLrg2 (mC (.int 20)) (mC (.int 40))) (aNil)))))) (tVal (mOp2 opNe (mCall m_give_paper (aCons (mOp2 opMul (mLst (aCons (mC (.int 40)) (aNil))) (mC (.int 20))) (aCons (mLrg2 (mC (.int 21)) (mC (.int 41))) (aNil)))) (mC (.int 40))))) (sRet (mC (.bl false))) (sNop)) (sSeq (sAsg (mLrg2 (mC (.int 40)) (mC (.int 60))) (M.gName 3)) (sSeq (sAsg (mLst (aCons (mCall m_give_paper (aCons (mVar 3) (aCons (mLrg2 (mC (.int 39)) (mC (.int 59))) (aNil)))) (aCons (mCall m_give_paper (aCons (mVar 3) (aCons (mLst (aCons (mC (.int 57)) (aCons (mC (.int 58)) (aCons (mC (.int 59)) (aNil))))) (aNil)))) (aCons (mCall m_give_paper (aCons (mVar 3) (aCons (mLst (aCons (mC (.int 59)) (aNil))) (aNil)))) (aNil))))) (M.gName 2)) (sRet (mAnd (mOp2 opEq (mVar 2) (mLst (aCons (mC .non) (aCons (mC (.int 57)) (aCons (mC (.int 59)) (aNil)))))) (mAnd (mOp1 opIsN (mCall m_work_paper (aCons (mVar 3) (aCons (mLrg1 (mC (.int 20))) (aNil))))) (mCall m_shows_give_paper (aCons (mVar 3) (aCons (mLst (aCons (mC (.int 59)) (aNil))) (aCons (mC (.int 59)) (aNil)))))))))))))))
def m_law : Fn := mDef 1 8 b_law

end M
/-! MathA: falling factorials, counts by rising levels, and the counts of the others. -/
namespace M
def ff (x : Int) : Nat → Int
  | 0 => 1
  | k + 1 => ff x k * (x - k)
theorem ff_succ' (x : Int) (k : Nat) : ff x (k + 1) = x * ff (x - 1) k := by
  induction k generalizing x with
  | zero => simp [ff]
  | succ k ih =>
    have h : ff x (k + 2) = ff x (k + 1) * (x - ((k + 1 : Nat) : Int)) := rfl
    have h2 : ff (x - 1) (k + 1) = ff (x - 1) k * (x - 1 - (k : Int)) := rfl
    rw [h, ih, h2]
    grind
theorem ff_zero (k : Nat) : ff 0 (k + 1) = 0 := by rw [ff_succ']; simp
def sg : Nat → Int
  | 0 => 1
  | n + 1 => - sg n
theorem sg_sq (n : Nat) : sg n * sg n = 1 := by
  induction n with
  | zero => rfl
  | succ n ih => simp only [sg]; grind
/-- reflection -/
theorem ff_neg (y : Int) (m : Nat) : ff (m - 1 - y) m = sg m * ff y m := by
  induction m generalizing y with
  | zero => simp [ff, sg]
  | succ m ih =>
    have h : ff y (m + 1) = ff y m * (y - m) := rfl
    rw [ff_succ', h]
    have e : (((m + 1 : Nat) : Int) - 1 - y) - 1 = (m : Int) - 1 - y := by omega
    rw [e, ih]
    simp only [sg]
    have e2 : (((m + 1 : Nat) : Int) - 1 - y) = -(y - m) := by omega
    rw [e2]
    grind
def ev : List Int → Int → Int
  | [], _ => 0
  | r :: t, x => r * ff x t.length + ev t x
theorem ev_snoc (R : List Int) (a x : Int) : ev (R ++ [a]) x = a + x * ev R (x - 1) := by
  induction R with
  | nil => simp [ev, ff]
  | cons r t ih =>
    rw [List.cons_append, ev, ih, ev, List.length_append, List.length_singleton, ff_succ']
    grind
theorem ev_uniq : ∀ (n : Nat) (R S : List Int), R.length = n → S.length = n → (∀ x : Int, 0 ≤ x → ev R x = ev S x) → R = S := by
  intro n
  induction n with
  | zero =>
    intro R S h1 h2 _
    rw [List.length_eq_zero_iff.mp h1, List.length_eq_zero_iff.mp h2]
  | succ n ih =>
    intro R S h1 h2 h
    have hR : R ≠ [] := by intro e; rw [e] at h1; cases h1
    have hS : S ≠ [] := by intro e; rw [e] at h2; cases h2
    obtain ⟨R', a, rfl⟩ : ∃ R' a, R = R' ++ [a] := ⟨R.dropLast, R.getLast hR, (List.dropLast_concat_getLast hR).symm⟩
    obtain ⟨S', b, rfl⟩ : ∃ R' a, S = R' ++ [a] := ⟨S.dropLast, S.getLast hS, (List.dropLast_concat_getLast hS).symm⟩
    simp only [ev_snoc] at h
    have hab : a = b := by have := h 0 (by omega); simpa using this
    subst hab
    rw [ih R' S' (by simpa using h1) (by simpa using h2)]
    intro x hx
    have h3 := h (x + 1) (by omega)
    have e : x + 1 - 1 = x := by omega
    rw [e] at h3
    have h4 : (x + 1) * ev R' x = (x + 1) * ev S' x := by omega
    exact Int.eq_of_mul_eq_mul_left (by omega) h4
/-- one worker more, behind all others -/
def go (c : Int) : Nat → Int → List Int → List Int
  | _, p, [] => [p]
  | i, p, r :: t => (r + p) :: go c (i + 1) (r * (c - i)) t
theorem go_len (c : Int) (R : List Int) : ∀ i p, (go c i p R).length = R.length + 1 := by
  induction R with
  | nil => intro i p; rfl
  | cons r t ih => intro i p; rw [go, List.length_cons, ih, List.length_cons]
theorem ev_go (c x : Int) (R : List Int) : ∀ (i : Nat) (p : Int), ev (go c i p R) x = p * ff x R.length + ev R x * (x + c - (R.length - 1 + i)) := by
  induction R with
  | nil => intro i p; simp [go, ev, ff]
  | cons r t ih =>
    intro i p
    rw [go, ev, ih, go_len, ev, List.length_cons]
    have h : ff x (t.length + 1) = ff x t.length * (x - t.length) := rfl
    rw [h]
    have e : (((t.length + 1 : Nat) : Int)) = t.length + 1 := by omega
    have e2 : (((i + 1 : Nat) : Int)) = i + 1 := by omega
    rw [e, e2]
    grind
theorem go_get (c : Int) (R : List Int) : ∀ (i : Nat) (p : Int) (k : Nat), (go c i p R)[k]? = if k ≤ R.length then some (R.getD k 0 + if k = 0 then p else R.getD (k - 1) 0 * (c - ((i + (k - 1) : Nat) : Int))) else none := by
  induction R with
  | nil =>
    intro i p k
    cases k with
    | zero => simp [go]
    | succ k => simp [go]
  | cons r t ih =>
    intro i p k
    cases k with
    | zero => simp [go]
    | succ k =>
      rw [go, List.getElem?_cons_succ, ih]
      simp only [List.length_cons, Nat.add_le_add_iff_right, List.getD_cons_succ, Nat.add_sub_cancel]
      split
      · congr 1
        cases k with
        | zero => simp
        | succ k =>
          have e : (((i + 1 + (k + 1 - 1) : Nat) : Int)) = ((i + (k + 1 + 1 - 1) : Nat) : Int) := by omega
          rw [e, if_neg (by omega), if_neg (by omega)]
          simp only [Nat.add_sub_cancel, List.getD_cons_succ]
      · rfl
/-- counts of a list of levels, rising -/
def cnt (l : List Int) : List Int := l.foldl (fun R c => go c 0 0 R) [1]
theorem cnt_snoc (l : List Int) (c : Int) : cnt (l ++ [c]) = go c 0 0 (cnt l) := by
  unfold cnt
  rw [List.foldl_append]
  rfl
theorem snoc_ind {P : List Int → Prop} (h0 : P []) (h1 : ∀ l c, P l → P (l ++ [c])) : ∀ l, P l := by
  intro l
  have : ∀ n (l : List Int), l.length = n → P l := by
    intro n
    induction n with
    | zero => intro l h; rw [List.length_eq_zero_iff.mp h]; exact h0
    | succ n ih =>
      intro l h
      have hl : l ≠ [] := by intro e; rw [e] at h; cases h
      rw [← List.dropLast_concat_getLast hl]
      exact h1 _ _ (ih _ (by simp [h]))
  exact this _ l rfl
theorem cnt_len (l : List Int) : (cnt l).length = l.length + 1 := by
  induction l using snoc_ind with
  | h0 => rfl
  | h1 l c ih => rw [cnt_snoc, go_len, ih]; simp
/-- the product of all x + spare numbers -/
def pr (x : Int) : Nat → List Int → Int
  | _, [] => 1
  | i, c :: t => (x + c - i) * pr x (i + 1) t
theorem pr_snoc (x c : Int) (l : List Int) : ∀ i, pr x i (l ++ [c]) = pr x i l * (x + c - (i + l.length)) := by
  induction l with
  | nil => intro i; simp [pr]
  | cons a t ih =>
    intro i
    rw [List.cons_append, pr, ih, pr, List.length_cons]
    have e : (((i + 1 : Nat) : Int)) = i + 1 := by omega
    have e2 : (((t.length + 1 : Nat) : Int)) = t.length + 1 := by omega
    rw [e, e2]
    grind
theorem ev_cnt (l : List Int) (x : Int) : ev (cnt l) x = pr x 0 l := by
  induction l using snoc_ind with
  | h0 => simp [cnt, ev, pr, ff]
  | h1 l c ih =>
    rw [cnt_snoc, ev_go, pr_snoc, cnt_len, ih]
    have e : (((l.length + 1 : Nat) : Int)) = l.length + 1 := by omega
    rw [e]
    simp
/-- the levels left of a greatest one, rising again -/
def oth (h : Int) (l : List Int) : List Int := (l.map fun c => h - c).reverse
theorem pr_reflect (h x : Int) (l : List Int) : ∀ i : Nat, pr x i (oth h l) = sg l.length * pr (l.length - 1 + i - h - x) 0 l
    ∧ True := by
  intro i
  refine ⟨?_, trivial⟩
  induction l using snoc_ind generalizing i with
  | h0 => simp [oth, pr, sg]
  | h1 l c ih =>
    have e : oth h (l ++ [c]) = (h - c) :: oth h l := by simp [oth]
    rw [e, pr, ih, pr_snoc, List.length_append, List.length_singleton, sg]
    have e1 : (l.length : Int) - 1 + ((i + 1 : Nat) : Int) - h - x = ((l.length + 1 : Nat) : Int) - 1 + i - h - x := by omega
    rw [e1]
    have e2 : (((l.length + 1 : Nat) : Int) - 1 + i - h - x + c - (((0 : Nat) : Int) + l.length)) = -(x + (h - c) - i) := by omega
    rw [e2]
    grind
/-! ### sums with signs -/
def ch : Nat → Nat → Int
  | _, 0 => 1
  | 0, _ + 1 => 0
  | n + 1, k + 1 => ch n k + ch n (k + 1)
theorem ch_zero (n : Nat) : ch n 0 = 1 := by cases n <;> rfl
theorem ch_big : ∀ (n k : Nat), n < k → ch n k = 0 := by
  intro n
  induction n with
  | zero => intro k h; cases k with
    | zero => omega
    | succ k => rfl
  | succ n ih => intro k h; cases k with
    | zero => omega
    | succ k => rw [ch, ih _ (by omega), ih _ (by omega)]; rfl
theorem ch_step : ∀ (n k : Nat), ch n (k + 1) * (k + 1) = ch n k * (n - k) := by
  intro n
  induction n with
  | zero => intro k; cases k with
    | zero => simp [ch]
    | succ k => simp [ch]
  | succ n ih =>
    intro k
    cases k with
    | zero =>
      have hc : ch (n + 1) (0 + 1) = ch n 0 + ch n (0 + 1) := rfl
      rw [hc, ch_zero, ch_zero]
      have := ih 0
      rw [ch_zero] at this
      have e : (((n + 1 : Nat) : Int)) = n + 1 := by omega
      rw [e]
      simp at this ⊢
      omega
    | succ k =>
      have h1 := ih k
      have h2 := ih (k + 1)
      rw [ch, ch]
      have e : (((n + 1 : Nat) : Int)) = n + 1 := by omega
      have e2 : (((k + 1 : Nat) : Int)) = k + 1 := by omega
      rw [e2] at h2 ⊢
      rw [e]
      grind
/-- twins -/
def tw (m : Nat) (h : Int) : List Int := cnt (List.replicate m h)
theorem tw_len (m : Nat) (h : Int) : (tw m h).length = m + 1 := by rw [tw, cnt_len]; simp
theorem tw_get (h : Int) : ∀ (m k : Nat), k ≤ m → (tw m h).getD k 0 = ch m k * ff h k := by
  intro m
  induction m with
  | zero => intro k hk; have : k = 0 := by omega
            subst this; simp [tw, cnt, ch, ff]
  | succ m ih =>
    intro k hk
    have e : tw (m + 1) h = go h 0 0 (tw m h) := by
      unfold tw
      rw [List.replicate_succ', cnt_snoc]
    rw [e, List.getD_eq_getElem?_getD, go_get, tw_len, if_pos (by omega)]
    cases k with
    | zero => simp only [Option.getD_some]; rw [ih 0 (by omega), ch_zero, ch_zero]; simp
    | succ k =>
      simp only [Option.getD_some]
      rw [if_neg (by omega), Nat.add_sub_cancel, ih k (by omega)]
      have hf : ff h (k + 1) = ff h k * (h - k) := rfl
      have hc : ch (m + 1) (k + 1) = ch m k + ch m (k + 1) := rfl
      by_cases hm : k + 1 ≤ m
      · rw [ih (k + 1) hm, hf, hc]
        have e3 : (((0 + k : Nat) : Int)) = k := by omega
        rw [e3]
        grind
      · have hkm : k = m := by omega
        subst hkm
        have hg : (tw k h).getD (k + 1) 0 = 0 := by
          rw [List.getD_eq_getElem?_getD, List.getElem?_eq_none (by rw [tw_len]; omega)]; rfl
        rw [hg, hc, ch_big k (k + 1) (by omega), hf]
        have e3 : (((0 + k : Nat) : Int)) = k := by omega
        rw [e3]
        grind
theorem ev_tw (m : Nat) (h x : Int) : ev (tw m h) x = ff (x + h) m := by
  unfold tw
  rw [ev_cnt]
  induction m with
  | zero => rfl
  | succ m ih =>
    rw [List.replicate_succ', pr_snoc, ih]
    have : ff (x + h) (m + 1) = ff (x + h) m * (x + h - m) := rfl
    rw [this]
    simp
theorem ev_map_mul (r x : Int) (l : List Int) : ev (l.map (r * ·)) x = r * ev l x := by
  induction l with
  | nil => simp [ev]
  | cons a t ih => rw [List.map_cons, ev, ih, ev, List.length_map]; grind
theorem ev_map_neg (x : Int) (l : List Int) : ev (l.map (- ·)) x = - ev l x := by
  induction l with
  | nil => simp [ev]
  | cons a t ih => rw [List.map_cons, ev, ih, ev, List.length_map]; grind
theorem ev_add (x : Int) : ∀ (l m : List Int), l.length = m.length → ev (List.zipWith (· + ·) l m) x = ev l x + ev m x := by
  intro l
  induction l with
  | nil => intro m h; cases m with
    | nil => simp [ev]
    | cons => cases h
  | cons a t ih => intro m h; cases m with
    | nil => cases h
    | cons b u =>
      have hl : t.length = u.length := by simpa using h
      rw [List.zipWith_cons_cons, ev, ih u hl, ev, ev, List.length_zipWith, ← hl, Nat.min_self]
      grind
/-- what the sums with signs come to -/
def due : List Int → Int → List Int
  | [], _ => []
  | r :: t, h => List.zipWith (· + ·) ((tw t.length h).map (r * ·)) (0 :: (due t (h - 1)).map (- ·))
theorem due_len : ∀ (R : List Int) (h : Int), (due R h).length = R.length := by
  intro R
  induction R with
  | nil => intro h; rfl
  | cons r t ih => intro h; simp [due, tw_len, ih]
theorem ev_due (x : Int) : ∀ (R : List Int) (h : Int), ev (due R h) x = sg (R.length - 1) * ev R ((R.length : Int) - 1 - 1 - h - x) := by
  intro R
  induction R with
  | nil => intro h; simp [due, ev]
  | cons r t ih =>
    intro h
    rw [due, ev_add _ _ _ (by simp [tw_len, due_len]), ev_map_mul, ev_tw, ev]
    rw [ev_map_neg, ih, ev]
    have e : (((t.length + 1 : Nat) : Int)) = t.length + 1 := by omega
    simp only [List.length_cons, List.length_map, Nat.add_sub_cancel]
    rw [e]
    have e1 : (t.length : Int) + 1 - 1 - 1 - h - x = t.length - 1 - (x + h) := by omega
    have e2 : (t.length : Int) - 1 - 1 - (h - 1) - x = t.length - 1 - (x + h) := by omega
    rw [e1, e2, ff_neg]
    cases t with
    | nil => simp [ev, sg, ff]
    | cons s u =>
      have e3 : sg (s :: u).length = - sg u.length := rfl
      have e4 : (s :: u).length - 1 = u.length := by simp
      rw [e3, e4]
      have := sg_sq u.length
      grind
theorem due_cnt (l : List Int) (h : Int) : cnt (oth h l) = due (cnt l) h := by
  refine ev_uniq (l.length + 1) _ _ (by rw [cnt_len]; simp [oth]) (by rw [due_len, cnt_len]) fun x _ => ?_
  rw [ev_cnt, (pr_reflect h x l 0).1, ev_due, ev_cnt, cnt_len, Nat.add_sub_cancel]
  have e : (((l.length + 1 : Nat) : Int)) - 1 - 1 - h - x = l.length - 1 + ((0 : Nat) : Int) - h - x := by omega
  rw [e]
theorem oth_oth (h : Int) (l : List Int) : oth h (oth h l) = l := by
  unfold oth
  rw [List.map_reverse, List.reverse_reverse, List.map_map]
  have : ((fun c => h - c) ∘ fun c => h - c) = (id : Int → Int) := by funext c; simp; omega
  rw [this, List.map_id]
/-- one item of it -/
def dueT (R : List Int) (h : Int) (k j : Nat) : Int := R.getD j 0 * ch (R.length - 1 - j) (k - j) * ff (h - j) (k - j) * sg j
theorem due_get : ∀ (R : List Int) (h : Int) (k : Nat), k < R.length → (due R h).getD k 0 = ((List.range (k + 1)).map (dueT R h k)).sum := by
  intro R
  induction R with
  | nil => intro h k hk; cases hk
  | cons r t ih =>
    intro h k hk
    rw [List.length_cons] at hk
    have ht := tw_get h t.length k (by omega)
    have hl := tw_len t.length h
    rw [due, List.range_succ_eq_map, List.map_cons, List.sum_cons, List.map_map]
    have h0 : dueT (r :: t) h k 0 = r * (ch t.length k * ff h k) := by
      unfold dueT
      simp [sg]
      grind
    rw [h0, ← ht]
    cases k with
    | zero =>
      cases q : tw t.length h with
      | nil => rw [q] at hl; cases hl
      | cons a u => simp
    | succ k =>
      have hg : ((due t (h - 1)).map (- ·)).getD k 0 = - (due t (h - 1)).getD k 0 := by
        rw [List.getD_eq_getElem?_getD, List.getD_eq_getElem?_getD, List.getElem?_map]
        cases (due t (h - 1))[k]? <;> simp
      have hs : ∀ (l : List Nat), (l.map (dueT (r :: t) h (k + 1) ∘ Nat.succ)).sum = - (l.map (dueT t (h - 1) k)).sum := by
        intro l
        induction l with
        | nil => rfl
        | cons j l ihl =>
          rw [List.map_cons, List.sum_cons, ihl, List.map_cons, List.sum_cons]
          have : (dueT (r :: t) h (k + 1) ∘ Nat.succ) j = - dueT t (h - 1) k j := by
            unfold dueT
            have e1 : (r :: t).length - 1 - j.succ = t.length - 1 - j := by simp; omega
            have e2 : k + 1 - j.succ = k - j := by omega
            have e3 : h - ((j.succ : Nat) : Int) = h - 1 - j := by omega
            simp only [Function.comp]
            rw [e1, e2, e3]
            simp only [Nat.succ_eq_add_one, List.getD_cons_succ, sg]
            grind
          rw [this]
          omega
      rw [hs, ← ih (h - 1) k (by omega), ← hg]
      cases q : tw t.length h with
      | nil => rw [q] at hl; cases hl
      | cons a u =>
        have hu : u.length = t.length := by rw [q] at hl; simpa using hl
        rw [List.map_cons, List.zipWith_cons_cons, List.getD_cons_succ, List.getD_cons_succ]
        simp only [List.getD_eq_getElem?_getD, List.getElem?_zipWith, List.getElem?_map]
        have hk1 : k < u.length := by omega
        have hk2 : k < (due t (h - 1)).length := by rw [due_len]; omega
        rw [List.getElem?_eq_getElem hk1, List.getElem?_eq_getElem hk2]
        simp
/-! ### the greatest size -/
def more (t : Int) (l : List Int) : Nat := (l.filter fun c => decide (c > t)).length
theorem more_both (h t u : Int) (l : List Int) (d : t + u < h) : l.length ≤ more t l + more u (l.map fun c => h - c) := by
  induction l with
  | nil => simp
  | cons c l ih =>
    unfold more at *
    rw [List.map_cons, List.filter_cons, List.filter_cons, List.length_cons]
    by_cases h1 : c > t
    · rw [if_pos (by simpa using h1), List.length_cons]
      split <;> (try rw [List.length_cons]) <;> omega
    · rw [if_neg (by simpa using h1), if_pos (by simp; omega), List.length_cons]
      omega
/-! ### sorting -/
theorem isort_perm (l : List Int) : (isort l).Perm l := List.mergeSort_perm _ _
theorem isort_up (l : List Int) : (isort l).Pairwise (· ≤ ·) := by
  have := List.pairwise_mergeSort (le := fun a b : Int => decide (a ≤ b)) (by intro a b c; simp; omega) (by intro a b; simp; omega) l
  unfold isort
  exact this.imp fun h => by simpa using h
theorem isort_len (l : List Int) : (isort l).length = l.length := (isort_perm l).length_eq
theorem isort_oth (h : Int) (l : List Int) : isort (l.map fun c => h - c) = oth h (isort l) := by
  refine List.Perm.eq_of_pairwise (le := (· ≤ ·)) (fun a b _ _ h1 h2 => Int.le_antisymm h1 h2) (isort_up _) ?_ ?_
  · unfold oth
    rw [List.pairwise_reverse, List.pairwise_map]
    exact (isort_up l).imp fun h => by omega
  · refine (isort_perm _).trans ?_
    unfold oth
    exact ((isort_perm l).symm.map _).trans (List.reverse_perm _).symm
def spare (l : List Int) : List Int := (List.range l.length).map fun i => l.getD i 0 - i
theorem spare_len (l : List Int) : (spare l).length = l.length := by simp [spare]
theorem spare_get (l : List Int) (k : Nat) (h : k < l.length) : (spare l).getD k 0 = l.getD k 0 - k := by
  unfold spare
  rw [List.getD_eq_getElem?_getD, List.getElem?_map, List.getElem?_range h]
  rfl
theorem spare_both (h : Int) (l : List Int) (k : Nat) (hk : k < l.length) : (spare l).getD k 0 + (spare (oth h l)).reverse.getD k 0 = h - l.length + 1 := by
  have ho : (oth h l).length = l.length := by simp [oth]
  rw [spare_get l k hk]
  have e : (spare (oth h l)).reverse.getD k 0 = (spare (oth h l)).getD (l.length - 1 - k) 0 := by
    rw [List.getD_eq_getElem?_getD, List.getD_eq_getElem?_getD, List.getElem?_reverse (by rw [spare_len, ho]; exact hk), spare_len, ho]
  rw [e, spare_get _ _ (by rw [ho]; omega)]
  have e2 : (oth h l).getD (l.length - 1 - k) 0 = h - l.getD k 0 := by
    unfold oth
    rw [List.getD_eq_getElem?_getD, List.getElem?_reverse (by simp; omega), List.getElem?_map, List.length_map]
    have : l.length - 1 - (l.length - 1 - k) = k := by omega
    rw [this, List.getD_eq_getElem?_getD, List.getElem?_eq_getElem hk]
    rfl
  rw [e2]
  omega
end M
/-! MWpB: operators and loops over ints. -/
namespace M
section
variable {g : G} {i j : Int} {Q : W → G → Prop}
theorem ok_add : Ok (opAdd (.int i) (.int j) g) Q ↔ Q (.int (i + j)) g := ok_ok
theorem ok_sub : Ok (opSub (.int i) (.int j) g) Q ↔ Q (.int (i - j)) g := ok_ok
theorem ok_neg : Ok (opNeg (.int i) g) Q ↔ Q (.int (-i)) g := ok_ok
theorem ok_lt : Ok (opLt (.int i) (.int j) g) Q ↔ Q (.bl (decide (i < j))) g := ok_ok
theorem ok_le : Ok (opLe (.int i) (.int j) g) Q ↔ Q (.bl (decide (i ≤ j))) g := ok_ok
theorem ok_gt : Ok (opGt (.int i) (.int j) g) Q ↔ Q (.bl (decide (j < i))) g := ok_ok
theorem ok_ge : Ok (opGe (.int i) (.int j) g) Q ↔ Q (.bl (decide (j ≤ i))) g := ok_ok
theorem ok_mul : Ok (opMul (.int i) (.int j) g) Q ↔ lg i + lg j < 1000000 ∧ Q (.int (i * j)) g := ok_iteB.trans (and_congr_right fun _ => ok_ok)
theorem ok_div : Ok (opDiv (.int i) (.int j) g) Q ↔ (0 < j ∧ lg j < 9000) ∧ Q (.int (i / j)) g := ok_iteB.trans (and_congr_right fun _ => ok_ok)
theorem ok_mod : Ok (opMod (.int i) (.int j) g) Q ↔ 0 < j ∧ Q (.int (i % j)) g := ok_iteB.trans (and_congr_right fun _ => ok_ok)
theorem ok_pow : Ok (opPow (.int i) (.int j) g) Q ↔ (0 ≤ j ∧ j ≤ 1000 ∧ lg i < 4096) ∧ Q (.int (i ^ j.toNat)) g := ok_iteB.trans (and_congr_right fun _ => ok_ok)
theorem ok_max2 : Ok (bMax [.int i, .int j] g) Q ↔ Q (.int (max i j)) g := by
  have : (if j > i then j else i) = max i j := by split <;> omega
  unfold bMax
  rw [ok_ok, this]
theorem ok_min2 : Ok (bMin [.int i, .int j] g) Q ↔ Q (.int (min i j)) g := by
  have : (if j < i then j else i) = min i j := by split <;> omega
  unfold bMin
  rw [ok_ok, this]
theorem ok_abs : Ok (bAbs [.int i] g) Q ↔ Q (.int (i.natAbs : Int)) g := by
  have : (if i < 0 then -i else i) = (i.natAbs : Int) := by split <;> omega
  unfold bAbs
  rw [ok_ok, this]
theorem ok_int : Ok (bInt [.int i] g) Q ↔ Q (.int i) g := ok_ok
end
/-- a list of ints -/
def IL (g : G) (a : Nat) (ns : List Int) : Prop := lstAt g a = some (ns.map .int)
theorem IL.ext {g g' : G} {a : Nat} {ns : List Int} (h : IL g a ns) (e : Ext g g') : IL g' a ns := e.lst h
theorem IL.lt {g : G} {a : Nat} {ns : List Int} (h : IL g a ns) : a < g.length := lt_of_lst h
theorem IL.new {g : G} {a : Nat} {ns : List Int} (h : g[a]? = some (.lst (ns.map .int))) : IL g a ns := lstAt_of h
section
variable {g : G} {a : Nat} {i j : Int} {ns : List Int} {Q : W → G → Prop}
theorem ok_len (h : IL g a ns) : Ok (bLen [.ref a] g) Q ↔ Q (.int ns.length) g := by
  unfold bLen
  dsimp only
  rw [seq_of_lst h, ok_ok]
  simp
theorem atI_get {α : Type} {xs : List α} {i : Int} (h0 : 0 ≤ i) (h1 : i < xs.length) : atI xs i = xs[i.toNat]? := by
  unfold atI ixN
  rw [if_pos h0, if_pos h1]
  rfl
theorem ok_ix (h : IL g a ns) (h0 : 0 ≤ i) (h1 : i < ns.length) : Ok (opIx (.ref a) (.int i) g) Q ↔ Q (.int (ns.getD i.toNat 0)) g := by
  unfold opIx
  dsimp only
  rw [seq_of_lst h]
  dsimp only
  rw [atI_get h0 (by simpa using h1), List.getElem?_map, List.getD_eq_getElem?_getD]
  have : i.toNat < ns.length := by omega
  rw [List.getElem?_eq_getElem this]
  exact ok_ok
theorem ok_maxL (h : IL g a ns) (h1 : ns ≠ []) : Ok (bMax [.ref a] g) Q ↔ Q (.int (maxL ns)) g := by
  unfold bMax
  dsimp only
  rw [show lstAt g a = some (ns.map .int) from h]
  dsimp only
  rw [ints_map]
  cases ns with
  | nil => exact absurd rfl h1
  | cons n ns => exact ok_ok
theorem ok_minL (h : IL g a ns) (h1 : ns ≠ []) : Ok (bMin [.ref a] g) Q ↔ Q (.int (minL ns)) g := by
  unfold bMin
  dsimp only
  rw [show lstAt g a = some (ns.map .int) from h]
  dsimp only
  rw [ints_map]
  cases ns with
  | nil => exact absurd rfl h1
  | cons n ns => exact ok_ok
theorem ok_sorted (h : IL g a ns) : Ok (bSorted [.ref a] g) Q ↔ Q (.ref g.length) (g ++ [.lst ((isort ns).map .int)]) := by
  unfold bSorted
  dsimp only
  rw [show lstAt g a = some (ns.map .int) from h]
  dsimp only
  rw [ints_map]
  exact ok_ok
theorem ok_iLst {e : ME} {ρ : Env} {Q : It → G → Prop} : Ok (iLst e ρ g) Q ↔ Ok (e ρ g) fun x g1 => ∃ a ws, x = .ref a ∧ lstAt g1 a = some ws ∧ Q (.lst a) g1 := by
  unfold iLst
  rw [ok_bind]
  constructor
  · intro h
    refine h.mono fun x g1 h => ?_
    cases x with
    | ref n =>
      dsimp only at h
      split at h
      · rename_i ws q
        exact ⟨n, ws, rfl, q, ok_ok.mp h⟩
      · exact (ok_bad.mp h).elim
    | _ => exact (ok_bad.mp h).elim
  · intro h
    refine h.mono fun x g1 ⟨n, ws, e, q, h⟩ => ?_
    subst e
    dsimp only
    rw [q]
    exact ok_ok.mpr h
theorem ok_iTup {e : ME} {ρ : Env} {Q : It → G → Prop} : Ok (iTup e ρ g) Q ↔ Ok (e ρ g) fun x g1 => ∃ a ws, x = .ref a ∧ tupAt g1 a = some ws ∧ Q (.tup a) g1 := by
  unfold iTup
  rw [ok_bind]
  constructor
  · intro h
    refine h.mono fun x g1 h => ?_
    cases x with
    | ref n =>
      dsimp only at h
      split at h
      · rename_i ws q
        exact ⟨n, ws, rfl, q, ok_ok.mp h⟩
      · exact (ok_bad.mp h).elim
    | _ => exact (ok_bad.mp h).elim
  · intro h
    refine h.mono fun x g1 ⟨n, ws, e, q, h⟩ => ?_
    subst e
    dsimp only
    rw [q]
    exact ok_ok.mpr h
theorem ok_iEnum {e : MA} {ρ : Env} {Q : It → G → Prop} : Ok (iEnum e ρ g) Q ↔ Ok (e ρ g) fun x g1 => ∃ a ws, x = [.ref a] ∧ lstAt g1 a = some ws ∧ Q (.enum a) g1 := by
  unfold iEnum
  rw [ok_bind]
  constructor
  · intro h
    refine h.mono fun x g1 h => ?_
    try dsimp only at h
    split at h
    · split at h
      · rename_i n _ ws q
        exact ⟨n, ws, rfl, q, ok_ok.mp h⟩
      · exact (ok_bad.mp h).elim
    · exact (ok_bad.mp h).elim
  · intro h
    refine h.mono fun x g1 ⟨n, ws, e, q, h⟩ => ?_
    subst e
    try dsimp only
    rw [q]
    exact ok_ok.mpr h
theorem ok_iZip {e : MA} {ρ : Env} {Q : It → G → Prop} : Ok (iZip e ρ g) Q ↔ Ok (e ρ g) fun x g1 => ∃ a b ws us, x = [.ref a, .ref b] ∧ lstAt g1 a = some ws ∧ lstAt g1 b = some us ∧ Q (.zip a b) g1 := by
  unfold iZip
  rw [ok_bind]
  constructor
  · intro h
    refine h.mono fun x g1 h => ?_
    try dsimp only at h
    split at h
    · split at h
      · rename_i n m _ _ ws us q1 q2
        exact ⟨n, m, ws, us, rfl, q1, q2, ok_ok.mp h⟩
      · exact (ok_bad.mp h).elim
    · exact (ok_bad.mp h).elim
  · intro h
    refine h.mono fun x g1 ⟨n, m, ws, us, e, q, q2, h⟩ => ?_
    subst e
    try dsimp only
    rw [q, q2]
    exact ok_ok.mpr h
theorem ok_iRng1 {e : MA} {ρ : Env} {Q : It → G → Prop} : Ok (iRng1 e ρ g) Q ↔ Ok (e ρ g) fun x g1 => ∃ j, x = [.int j] ∧ inR j = true ∧ Q (.rng 0 j.toNat) g1 := by
  unfold iRng1
  rw [ok_bind]
  constructor
  · intro h
    refine h.mono fun x g1 h => ?_
    try dsimp only at h
    split at h
    · rw [ok_iteB] at h
      exact ⟨_, rfl, h.1, ok_ok.mp h.2⟩
    · exact (ok_bad.mp h).elim
  · intro h
    refine h.mono fun x g1 ⟨n, e, q, h⟩ => ?_
    subst e
    try dsimp only
    rw [if_pos q]
    exact ok_ok.mpr h
end
theorem inR_le {j : Int} (h : 0 ≤ j) (h1 : j < 1000000) : inR j = true := by
  unfold inR
  rw [Bool.and_eq_true, decide_eq_true_eq, decide_eq_true_eq]
  omega
theorem exists_list1 {α : Type} {a : α} {P : α → Prop} : (∃ j, [a] = [j] ∧ P j) ↔ P a := ⟨fun ⟨j, e, h⟩ => by cases e; exact h, fun h => ⟨a, rfl, h⟩⟩
/-- tuples as targets -/
theorem ok_gTup2 {s t : Nat} {a : Nat} {g : G} {ρ : Env} {x y : W} {Q : Env → G → Prop} (h : tupAt g a = some [x, y]) : Ok (gTup [gName s, gName t] (.ref a) ρ g) Q ↔ Q ((ρ.set s (some x)).set t (some y)) g := by
  unfold gTup
  dsimp only
  rw [h]
  exact ok_ok
theorem tup_new (g : G) (ws : List W) : tupAt (g ++ [.tup ws]) g.length = some ws := tupAt_of (get_new _ _)
theorem lst_new (g : G) (ws : List W) : lstAt (g ++ [.lst ws]) g.length = some ws := lstAt_of (get_new _ _)
theorem seq_new (g : G) (ws : List W) : seqAt (g ++ [.lst ws]) g.length = some ws := seq_of_lst (lst_new g ws)
theorem filterMap_all {α β : Type} (f : α → β) (l : List α) : l.filterMap (fun x => some (f x)) = l.map f := by
  induction l with
  | nil => rfl
  | cons a l ih => simp [ih]
theorem map_getD (f : Int → W) (ns : List Int) : (List.range ns.length).map (fun i => f (ns.getD i 0)) = ns.map f := by
  refine List.ext_getElem (by simp) fun i h1 h2 => ?_
  have : i < ns.length := by simpa using h1
  simp [List.getD_eq_getElem?_getD, List.getElem?_eq_getElem this]
theorem IL.at {g : G} {a : Nat} {ns : List Int} (h : IL g a ns) {i : Nat} (hi : i < ns.length) : itAt (.lst a) i g = .go (.int (ns.getD i 0)) g := by
  unfold itAt
  dsimp only
  rw [show lstAt g a = some (ns.map .int) from h]
  dsimp only
  rw [List.getElem?_map, List.getElem?_eq_getElem hi, List.getD_eq_getElem?_getD, List.getElem?_eq_getElem hi]
  rfl
theorem IL.stop {g : G} {a : Nat} {ns : List Int} (h : IL g a ns) : itAt (.lst a) ns.length g = .stop := by
  unfold itAt
  dsimp only
  rw [show lstAt g a = some (ns.map .int) from h]
  dsimp only
  rw [List.getElem?_eq_none (by simp)]
theorem IL.itl {g : G} {a : Nat} {ns : List Int} (h : IL g a ns) : itLen (.lst a) g = ns.length := by
  unfold itLen
  dsimp only
  rw [show lstAt g a = some (ns.map .int) from h]
  simp
theorem IL.itl_enum {g : G} {a : Nat} {ns : List Int} (h : IL g a ns) : itLen (.enum a) g = ns.length := by
  unfold itLen
  dsimp only
  rw [show lstAt g a = some (ns.map .int) from h]
  simp
theorem IL.at_enum {g : G} {a : Nat} {ns : List Int} (h : IL g a ns) {i : Nat} (hi : i < ns.length) : itAt (.enum a) i g = .go (.ref g.length) (g ++ [.tup [.int i, .int (ns.getD i 0)]]) := by
  unfold itAt
  dsimp only
  rw [show lstAt g a = some (ns.map .int) from h]
  dsimp only
  rw [List.getElem?_map, List.getElem?_eq_getElem hi, List.getD_eq_getElem?_getD, List.getElem?_eq_getElem hi]
  rfl
theorem IL.stop_enum {g : G} {a : Nat} {ns : List Int} (h : IL g a ns) : itAt (.enum a) ns.length g = .stop := by
  unfold itAt
  dsimp only
  rw [show lstAt g a = some (ns.map .int) from h]
  dsimp only
  rw [List.getElem?_eq_none (by simp)]
theorem IL.at_zip {g : G} {a b : Nat} {ns ms : List Int} (h : IL g a ns) (h' : IL g b ms) {i : Nat} (hi : i < ns.length) (hj : i < ms.length) : itAt (.zip a b) i g = .go (.ref g.length) (g ++ [.tup [.int (ns.getD i 0), .int (ms.getD i 0)]]) := by
  unfold itAt
  dsimp only
  rw [show lstAt g a = some (ns.map .int) from h, show lstAt g b = some (ms.map .int) from h']
  dsimp only
  rw [List.getElem?_map, List.getElem?_map, List.getElem?_eq_getElem hi, List.getElem?_eq_getElem hj, List.getD_eq_getElem?_getD, List.getElem?_eq_getElem hi, List.getD_eq_getElem?_getD, List.getElem?_eq_getElem hj]
  rfl
theorem IL.stop_zip {g : G} {a b : Nat} {ns ms : List Int} (h : IL g a ns) (h' : IL g b ms) (e : ms.length = ns.length) : itAt (.zip a b) ns.length g = .stop := by
  unfold itAt
  dsimp only
  rw [show lstAt g a = some (ns.map .int) from h, show lstAt g b = some (ms.map .int) from h']
  dsimp only
  rw [List.getElem?_eq_none (by simp)]
theorem IL.itl_zip {g : G} {a b : Nat} {ns ms : List Int} (h : IL g a ns) (h' : IL g b ms) (e : ms.length = ns.length) : itLen (.zip a b) g = ns.length := by
  unfold itLen
  dsimp only
  rw [show lstAt g a = some (ns.map .int) from h, show lstAt g b = some (ms.map .int) from h']
  simp [e]
/-- a comprehension over ints whose turns leave what stood -/
theorem lc_ints {it : It} {tg : MG} {tt : MT} {el : ME} {ρ : Env} {g0 : G} {Q : W → G → Prop} (n : Nat) (val : Nat → W) (hn : n ≤ SZ) (hl : itLen it g0 = n)
    (step : ∀ i g', i < n → Ext g0 g' → ∃ w g1, itAt it i g' = .go w g1 ∧ Ok (tg w ρ g1) fun ρ1 g2 => Ok (tt ρ1 g2) fun k g3 => k = true ∧ Ok (el ρ1 g3) fun y g4 => Ext g' g4 ∧ y = val i)
    (stop : ∀ g', Ext g0 g' → itAt it n g' = .stop)
    (q : ∀ g2, Ext g0 g2 → g2[g0.length]? = some (.lst ((List.range n).map val)) → Q (.ref g0.length) g2) :
    Ok (lcGo it tg tt el ρ g0.length (itLen it g0) 0 (g0 ++ [.lst []])) Q := by
  refine lc_map n (fun i => some (val i)) hn hl (fun i g' hi hx _ => ?_) (fun g' hx _ => stop g' hx) fun g2 hx h => ?_
  · obtain ⟨w, g1, e, h⟩ := step i g' hi hx
    refine ⟨w, g1, e, h.mono fun ρ1 g2 h => h.mono fun k g3 h => ?_⟩
    rw [if_pos h.1]
    exact h.2.mono fun y g4 h => ⟨h.1, by rw [h.2]⟩
  · rw [filterMap_all] at h
    exact q g2 hx h
/-- a comprehension by an invariant of the heap -/
theorem lc_inv {it : It} {tg : MG} {tt : MT} {el : ME} {ρ : Env} {d : Nat} {Q : W → G → Prop} (n : Nat) (P : Nat → List W → G → Prop) (hn : n ≤ SZ)
    (step : ∀ i acc g', i < n → g'[d]? = some (.lst acc) → P i acc g' → acc.length ≤ i → ∃ w g1, itAt it i g' = .go w g1 ∧ Ok (tg w ρ g1) fun ρ1 g2 => Ok (tt ρ1 g2) fun k g3 => k = true ∧ Ok (el ρ1 g3) fun y g4 => g4[d]? = some (.lst acc) ∧ P (i + 1) (acc ++ [y]) (g4.set d (.lst (acc ++ [y]))))
    (stop : ∀ acc g', g'[d]? = some (.lst acc) → P n acc g' → itAt it n g' = .stop ∧ Q (.ref d) g') :
    ∀ (m i : Nat) (acc : List W) (g' : G), i + m = n → g'[d]? = some (.lst acc) → P i acc g' → acc.length ≤ i → Ok (lcGo it tg tt el ρ d m i g') Q := by
  intro m
  induction m with
  | zero =>
    intro i acc g' e hd hp hl
    have : i = n := by omega
    subst this
    unfold lcGo
    rw [(stop acc g' hd hp).1, ok_ok]
    exact (stop acc g' hd hp).2
  | succ m ih =>
    intro i acc g' e hd hp hl
    unfold lcGo
    obtain ⟨w, g1, e1, h1⟩ := step i acc g' (by omega) hd hp hl
    rw [e1]
    dsimp only
    obtain ⟨ρ1, g2, e2, h2⟩ := h1
    rw [e2]
    dsimp only
    obtain ⟨k, g3, e3, h3⟩ := h2
    rw [e3]
    obtain ⟨rfl, y, g4, e4, h4, h5⟩ := h3
    dsimp only
    rw [e4]
    dsimp only
    rw [h4]
    dsimp only
    rw [if_pos (by omega)]
    exact ih (i + 1) (acc ++ [y]) _ (by omega) (List.getElem?_set_self (lt_of_get h4)) h5 (by simp; omega)
theorem rng_at {lo : Int} {n i : Nat} {g : G} (h : i < n) : itAt (.rng lo n) i g = .go (.int (lo + i)) g := if_pos h
theorem rng_stop {lo : Int} {n i : Nat} {g : G} (h : n ≤ i) : itAt (.rng lo n) i g = .stop := if_neg (by omega)
theorem ok_addL {g : G} {a b : Nat} {xs ys : List W} {Q : W → G → Prop} (h : g[a]? = some (.lst xs)) (h' : g[b]? = some (.lst ys)) (hs : xs.length + ys.length ≤ SZ) : Ok (opAdd (.ref a) (.ref b) g) Q ↔ Q (.ref g.length) (g ++ [.lst (xs ++ ys)]) := by
  unfold opAdd
  dsimp only
  rw [h, h']
  dsimp only
  rw [if_pos hs]
  exact ok_ok
theorem ok_append {g : G} {a : Nat} {xs : List W} {y : W} {Q : W → G → Prop} (h : g[a]? = some (.lst xs)) (hs : xs.length < SZ) : Ok (mtAppend (.ref a) [y] g) Q ↔ Q .non (g.set a (.lst (xs ++ [y]))) := by
  unfold mtAppend
  dsimp only
  rw [h]
  dsimp only
  rw [if_pos hs]
  exact ok_ok
theorem tup_at {g : G} {a i : Nat} {ws : List W} {w : W} (h : tupAt g a = some ws) (hw : ws[i]? = some w) : itAt (.tup a) i g = .go w g := by
  unfold itAt
  dsimp only
  rw [h]
  dsimp only
  rw [hw]
theorem tup_stop {g : G} {a i : Nat} {ws : List W} (h : tupAt g a = some ws) (hw : ws.length ≤ i) : itAt (.tup a) i g = .stop := by
  unfold itAt
  dsimp only
  rw [h]
  dsimp only
  rw [List.getElem?_eq_none hw]
theorem tup_len {g : G} {a : Nat} {ws : List W} (h : tupAt g a = some ws) : itLen (.tup a) g = ws.length := by
  unfold itLen
  dsimp only
  rw [h]
  rfl
theorem lt_of_tup {g : G} {n : Nat} {ws : List W} (e : tupAt g n = some ws) : n < g.length := by
  unfold tupAt at e
  cases q : g[n]? with
  | none => rw [q] at e; cases e
  | some o => exact (List.getElem?_eq_some_iff.mp q).1
/-! ### sizes -/
theorem lg_lt {i : Int} {k : Nat} (h : i.natAbs < 2 ^ k) (h0 : 0 < k) : lg i < k := by
  unfold lg
  by_cases hz : i.natAbs = 0
  · rw [hz]; exact h0
  · exact (Nat.log2_lt hz).mpr h
def Sm (k : Nat) (i : Int) : Prop := i.natAbs < 2 ^ k
theorem Sm.zero (k : Nat) : Sm k 0 := Nat.two_pow_pos k
theorem Sm.mono {k l : Nat} {i : Int} (h : Sm k i) (e : k ≤ l) : Sm l i := Nat.lt_of_lt_of_le h (Nat.pow_le_pow_right (by omega) e)
theorem Sm.lg {k : Nat} {i : Int} (h : Sm k i) : lg i ≤ k := by
  have := lg_lt (h.mono (Nat.le_succ k)) (by omega)
  omega
theorem Sm.mul {k l : Nat} {i j : Int} (h : Sm k i) (h' : Sm l j) : Sm (k + l) (i * j) := by
  unfold Sm at *
  rw [Int.natAbs_mul, Nat.pow_add]
  exact Nat.mul_lt_mul'' h h'
theorem Sm.add {k : Nat} {i j : Int} (h : Sm k i) (h' : Sm k j) : Sm (k + 1) (i + j) := by
  unfold Sm at *
  rw [Nat.pow_succ]
  omega
/-! ### heaps with one place that changes -/
def Fr (p : Nat) (g g' : G) : Prop := g.length ≤ g'.length ∧ ∀ q, q < g.length → q ≠ p → g'[q]? = g[q]?
theorem Fr.refl (p : Nat) (g : G) : Fr p g g := ⟨Nat.le_refl _, fun _ _ _ => rfl⟩
theorem Fr.trans {p : Nat} {a b c : G} (h : Fr p a b) (h' : Fr p b c) : Fr p a c := ⟨Nat.le_trans h.1 h'.1, fun q h1 h2 => by rw [h'.2 q (Nat.lt_of_lt_of_le h1 h.1) h2, h.2 q h1 h2]⟩
theorem Ext.fr {g g' : G} (h : Ext g g') (p : Nat) : Fr p g g' := ⟨h.len, fun q h1 _ => by
  obtain ⟨t, rfl⟩ := h
  rw [List.getElem?_append_left h1]⟩
theorem Fr.set {p : Nat} (g : G) (o : O) : Fr p g (g.set p o) := ⟨by simp, fun q _ h2 => by rw [List.getElem?_set_ne (Ne.symm h2)]⟩
theorem Fr.setNew {p : Nat} {g g' : G} (h : Fr p g g') {n : Nat} (hn : g.length ≤ n) (o : O) : Fr p g (g'.set n o) := ⟨by simp [h.1], fun q h1 h2 => by rw [List.getElem?_set_ne (by omega), h.2 q h1 h2]⟩
theorem Fr.snoc {p : Nat} (g : G) (o : O) : Fr p g (g ++ [o]) := (Ext.snoc g o).fr p
theorem Fr.get {p : Nat} {g g' : G} (h : Fr p g g') {q : Nat} {o : O} (e : g[q]? = some o) (hq : q ≠ p) : g'[q]? = some o := by rw [h.2 q (lt_of_get e) hq, e]
theorem Fr.lst {p : Nat} {g g' : G} (h : Fr p g g') {q : Nat} {ws : List W} (e : lstAt g q = some ws) (hq : q ≠ p) : lstAt g' q = some ws := by
  unfold lstAt at *
  cases z : g[q]? with
  | none => rw [z] at e; cases e
  | some o => rw [h.get z hq]; rw [z] at e; exact e
theorem Fr.tup {p : Nat} {g g' : G} (h : Fr p g g') {q : Nat} {ws : List W} (e : tupAt g q = some ws) (hq : q ≠ p) : tupAt g' q = some ws := by
  unfold tupAt at *
  cases z : g[q]? with
  | none => rw [z] at e; cases e
  | some o => rw [h.get z hq]; rw [z] at e; exact e
theorem IL.fr {p : Nat} {g g' : G} {a : Nat} {ns : List Int} (h : IL g a ns) (e : Fr p g g') (hq : a ≠ p) : IL g' a ns := e.lst h hq
/-! ### data as a whole -/
theorem rdDs_ints (n : Nat) (g : G) (ns : List Int) : rdDs n g (ns.map .int) = some (ns.map .int) := by
  induction ns with
  | nil => simp [rdDs]
  | cons a ns ih => rw [List.map_cons, rdDs]; simp only [rdD]; rw [ih]; rfl
theorem rdD_IL {n : Nat} {g : G} {a : Nat} {ns : List Int} (h : IL g a ns) : rdD (n + 1) g (.ref a) = some (.lst (ns.map .int)) := by
  unfold IL lstAt at h
  rw [rdD]
  split at h
  · rename_i ws q
    rw [q]
    dsimp only
    rw [Option.some.inj h, rdDs_ints]
  · rename_i ws q
    rw [q]
    dsimp only
    rw [Option.some.inj h, rdDs_ints]
  · cases h
theorem eqDs_ints : ∀ ns ms : List Int, eqDs (ns.map .int) (ms.map .int) = decide (ns = ms) := by
  intro ns
  induction ns with
  | nil => intro ms; cases ms <;> simp [eqDs]
  | cons a ns ih =>
    intro ms
    cases ms with
    | nil => simp [eqDs]
    | cons b ms =>
      rw [List.map_cons, List.map_cons, eqDs, ih]
      simp [eqD]
      by_cases h : a = b <;> simp [h]
theorem ok_eqL {g : G} {a b : Nat} {ns ms : List Int} {Q : W → G → Prop} (h : IL g a ns) (h' : IL g b ms) : Ok (opEq (.ref a) (.ref b) g) Q ↔ Q (.bl (decide (ns = ms))) g := by
  unfold opEq
  rw [rdD_IL h, rdD_IL h']
  dsimp only
  rw [ok_ok, eqD, eqDs_ints]
theorem ok_neL {g : G} {a b : Nat} {ns ms : List Int} {Q : W → G → Prop} (h : IL g a ns) (h' : IL g b ms) : Ok (opNe (.ref a) (.ref b) g) Q ↔ Q (.bl (!decide (ns = ms))) g := by
  unfold opNe
  rw [rdD_IL h, rdD_IL h']
  dsimp only
  rw [ok_ok, eqD, eqDs_ints]
theorem ok_neI {g : G} {i j : Int} {Q : W → G → Prop} : Ok (opNe (.int i) (.int j) g) Q ↔ Q (.bl (!decide (i = j))) g := by
  unfold opNe
  simp only [rdD, eqD]
  rw [ok_ok]
  rfl
theorem ok_eqB {g : G} {i j : Bool} {Q : W → G → Prop} : Ok (opEq (.bl i) (.bl j) g) Q ↔ Q (.bl (decide (i = j))) g := by
  unfold opEq
  simp only [rdD, eqD]
  rw [ok_ok]
  have : (i == j) = decide (i = j) := by cases i <;> cases j <;> rfl
  rw [this]
/-! ### a slot of a list -/
theorem ok_gSub {o ie : ME} {ρ : Env} {g : G} {w : W} {Q : Env → G → Prop} : Ok (gSub o ie w ρ g) Q ↔ Ok (o ρ g) fun x g1 => Ok (ie ρ g1) fun y g2 => ∃ a k ws j, x = .ref a ∧ y = .int k ∧ g2[a]? = some (.lst ws) ∧ ixN ws.length k = some j ∧ Q ρ (g2.set a (.lst (ws.set j w))) := by
  unfold gSub
  simp only [ok_bind]
  constructor
  · intro h
    refine h.mono fun x g1 h => h.mono fun y g2 h => ?_
    split at h
    · split at h
      · split at h
        · rename_i a k _ _ ws q _ j q2
          exact ⟨a, k, ws, j, rfl, rfl, q, q2, ok_ok.mp h⟩
        · exact (ok_bad.mp h).elim
      · exact (ok_bad.mp h).elim
    · exact (ok_bad.mp h).elim
  · intro h
    refine h.mono fun x g1 h1 => h1.mono fun y g2 ⟨a, k, ws, j, e1, e2, q, q2, h2⟩ => ?_
    subst e1 e2
    dsimp only
    rw [q]
    dsimp only
    rw [q2]
    exact ok_ok.mpr h2
end M
/-! PickA: the law's store, its picks, its deals. -/
namespace M
def PU (g : G) (p n : Nat) : Prop := ∃ a b c : Int, g[p]? = some (.lst [.int a, .int b, .int c]) ∧ 0 ≤ a ∧ 0 ≤ b ∧ b < 2 ^ 200 ∧ 0 ≤ c ∧ c + n ≤ 2 ^ 60
theorem PU.mono {g : G} {p n m : Nat} (h : PU g p n) (e : m ≤ n) : PU g p m := by
  obtain ⟨a, b, c, h1, h2, h3, h4, h5, h6⟩ := h
  exact ⟨a, b, c, h1, h2, h3, h4, h5, by omega⟩
theorem PU.ext {g g' : G} {p n : Nat} (h : PU g p n) (e : Ext g g') : PU g' p n := by
  obtain ⟨a, b, c, h1, h2⟩ := h
  exact ⟨a, b, c, e.get h1, h2⟩
theorem PU.lt {g : G} {p n : Nat} (h : PU g p n) : p < g.length := by
  obtain ⟨_, _, _, q, _⟩ := h
  exact lt_of_get q
theorem PU.set {g : G} {p n q : Nat} (h : PU g p n) (e : q ≠ p) (o : O) : PU (g.set q o) p n := by
  obtain ⟨a, b, c, h1, h2⟩ := h
  exact ⟨a, b, c, by rw [List.getElem?_set_ne e]; exact h1, h2⟩
theorem ixPU {g : G} {p : Nat} {ws : List W} {i : Nat} {w : W} {Q : W → G → Prop} (h : g[p]? = some (.lst ws)) (hi : ws[i]? = some w) : Ok (opIx (.ref p) (.int (i : Int)) g) Q ↔ Q w g := by
  have hl : i < ws.length := (List.getElem?_eq_some_iff.mp hi).1
  unfold opIx
  dsimp only
  rw [seq_of_lst (lstAt_of h)]
  dsimp only
  rw [atI_get (by omega) (by omega), Int.toNat_natCast, hi]
  exact ok_ok
theorem ix0 {g : G} {p : Nat} {a b c : Int} {Q : W → G → Prop} (h : g[p]? = some (.lst [.int a, .int b, .int c])) : Ok (opIx (.ref p) (.int 0) g) Q ↔ Q (.int a) g := ixPU (i := 0) h rfl
theorem ix1 {g : G} {p : Nat} {a b c : Int} {Q : W → G → Prop} (h : g[p]? = some (.lst [.int a, .int b, .int c])) : Ok (opIx (.ref p) (.int 1) g) Q ↔ Q (.int b) g := ixPU (i := 1) h rfl
theorem ix2 {g : G} {p : Nat} {a b c : Int} {Q : W → G → Prop} (h : g[p]? = some (.lst [.int a, .int b, .int c])) : Ok (opIx (.ref p) (.int 2) g) Q ↔ Q (.int c) g := ixPU (i := 2) h rfl
theorem Sm_of {k : Nat} {i : Int} (h0 : 0 ≤ i) (h : i < 2 ^ k) : Sm k i := by
  unfold Sm
  have h1 : (((2 : Nat) ^ k : Nat) : Int) = 2 ^ k := by rw [Int.natCast_pow]; rfl
  omega
theorem getD_mem {ns : List Int} {i : Nat} (h : i < ns.length) : ns.getD i 0 ∈ ns := by
  rw [List.getD_eq_getElem?_getD, List.getElem?_eq_getElem h]
  exact List.getElem_mem h
theorem lgs {i : Int} (a : 0 ≤ i) (b : i < 1000) : lg i < 9000 := by
  have : Sm 10 i := by unfold Sm; omega
  have := this.lg
  omega
theorem s_pick {g : G} {p n : Nat} {wd : Int} (h : PU g p (n + 1)) (h0 : 0 < wd) (h1 : lg wd < 9000) : Ok (m__law_pick [.ref p, .int wd] g) fun w g' => ∃ t, w = .int t ∧ 0 ≤ t ∧ t < wd ∧ Fr p g g' ∧ PU g' p n := by
  obtain ⟨a, b, c, hp, ha, hb, hb2, hc, hc2⟩ := h
  have hpl := lt_of_get hp
  unfold m__law_pick b__law_pick
  simp only [ok_def, okS_seq, okS_ret, okS_asg, okS_if, okS_E, okS_par, okS_aug, okS_nop, nxt_nx, nxt_rt, okS_brk, okS_cnt, ok_var, ok_C, ok_op2, ok_op1, ok_call, ok_acons, ok_anil, ok_lst, ok_tup, ok_tVal, ok_mAnd, ok_mOr, ok_mNot, ok_if, ok_tNot, ok_tAnd, ok_tOr, ok_tYes, ok_chain, ok_star, ok_gName, ok_oNone, ok_oSome, ok_sl, ok_rev, ok_mt, ok_ok, ok_lc, okS_for, putL, wipe, startM, List.map_cons, List.map_nil, List.length_cons, List.length_nil, List.replicate, List.cons_append, List.nil_append, Nat.reduceAdd, Nat.reduceSub, List.getElem?_cons_zero, List.getElem?_cons_succ, List.set_cons_succ, List.set_cons_zero, Option.some.injEq, W.bl.injEq, W.int.injEq, W.ref.injEq, exists_eq_left', exists_eq_left, decide_eq_true_eq, true_and, and_true, ok_add, ok_sub, ok_lt, ok_le, ok_gt, ok_ge, ok_neg, ok_mul, ok_div, ok_mod, ok_pow, ok_max2, ok_min2, ok_abs, ok_int, ok_iLst, ok_iTup, ok_iEnum, ok_iZip, ok_iRng1, exists_list1, List.cons.injEq, exists_and_left, exists_const, exists_eq, if_true, if_false, Bool.not_true, Bool.not_false, Bool.false_eq_true, decide_true, decide_false, ix0 hp]
  by_cases q : 0 < a
  · rw [if_pos q]
    simp only [ok_def, okS_seq, okS_ret, okS_asg, okS_if, okS_E, okS_par, okS_aug, okS_nop, nxt_nx, nxt_rt, okS_brk, okS_cnt, ok_var, ok_C, ok_op2, ok_op1, ok_call, ok_acons, ok_anil, ok_lst, ok_tup, ok_tVal, ok_mAnd, ok_mOr, ok_mNot, ok_if, ok_tNot, ok_tAnd, ok_tOr, ok_tYes, ok_chain, ok_star, ok_gName, ok_oNone, ok_oSome, ok_sl, ok_rev, ok_mt, ok_ok, ok_lc, okS_for, putL, wipe, startM, List.map_cons, List.map_nil, List.length_cons, List.length_nil, List.replicate, List.cons_append, List.nil_append, Nat.reduceAdd, Nat.reduceSub, List.getElem?_cons_zero, List.getElem?_cons_succ, List.set_cons_succ, List.set_cons_zero, Option.some.injEq, W.bl.injEq, W.int.injEq, W.ref.injEq, exists_eq_left', exists_eq_left, decide_eq_true_eq, true_and, and_true, ok_add, ok_sub, ok_lt, ok_le, ok_gt, ok_ge, ok_neg, ok_mul, ok_div, ok_mod, ok_pow, ok_max2, ok_min2, ok_abs, ok_int, ok_iLst, ok_iTup, ok_iEnum, ok_iZip, ok_iRng1, exists_list1, List.cons.injEq, exists_and_left, exists_const, exists_eq, if_true, if_false, Bool.not_true, Bool.not_false, Bool.false_eq_true, decide_true, decide_false, ix0 hp, ok_gSub]
    refine ⟨h0, ⟨h0, h1⟩, _, hp, 0, rfl, ?_⟩
    refine ⟨Int.emod_nonneg _ (by omega), Int.emod_lt_of_pos _ h0, Fr.set _ _, ?_⟩
    refine ⟨_, _, _, List.getElem?_set_self hpl, ?_, hb, hb2, hc, by omega⟩
    exact Int.ediv_nonneg ha (by omega)
  · rw [if_neg q]
    simp only [ok_def, okS_seq, okS_ret, okS_asg, okS_if, okS_E, okS_par, okS_aug, okS_nop, nxt_nx, nxt_rt, okS_brk, okS_cnt, ok_var, ok_C, ok_op2, ok_op1, ok_call, ok_acons, ok_anil, ok_lst, ok_tup, ok_tVal, ok_mAnd, ok_mOr, ok_mNot, ok_if, ok_tNot, ok_tAnd, ok_tOr, ok_tYes, ok_chain, ok_star, ok_gName, ok_oNone, ok_oSome, ok_sl, ok_rev, ok_mt, ok_ok, ok_lc, okS_for, putL, wipe, startM, List.map_cons, List.map_nil, List.length_cons, List.length_nil, List.replicate, List.cons_append, List.nil_append, Nat.reduceAdd, Nat.reduceSub, List.getElem?_cons_zero, List.getElem?_cons_succ, List.set_cons_succ, List.set_cons_zero, Option.some.injEq, W.bl.injEq, W.int.injEq, W.ref.injEq, exists_eq_left', exists_eq_left, decide_eq_true_eq, true_and, and_true, ok_add, ok_sub, ok_lt, ok_le, ok_gt, ok_ge, ok_neg, ok_mul, ok_div, ok_mod, ok_pow, ok_max2, ok_min2, ok_abs, ok_int, ok_iLst, ok_iTup, ok_iEnum, ok_iZip, ok_iRng1, exists_list1, List.cons.injEq, exists_and_left, exists_const, exists_eq, if_true, if_false, Bool.not_true, Bool.not_false, Bool.false_eq_true, decide_true, decide_false, ix2 hp, ok_gSub]
    refine ⟨_, hp, 2, rfl, ?_⟩
    have hp2 : (g.set p (.lst [W.int a, W.int b, W.int (c + 1)]))[p]? = some (.lst [.int a, .int b, .int (c + 1)]) := List.getElem?_set_self hpl
    simp only [ok_def, okS_seq, okS_ret, okS_asg, okS_if, okS_E, okS_par, okS_aug, okS_nop, nxt_nx, nxt_rt, okS_brk, okS_cnt, ok_var, ok_C, ok_op2, ok_op1, ok_call, ok_acons, ok_anil, ok_lst, ok_tup, ok_tVal, ok_mAnd, ok_mOr, ok_mNot, ok_if, ok_tNot, ok_tAnd, ok_tOr, ok_tYes, ok_chain, ok_star, ok_gName, ok_oNone, ok_oSome, ok_sl, ok_rev, ok_mt, ok_ok, ok_lc, okS_for, putL, wipe, startM, List.map_cons, List.map_nil, List.length_cons, List.length_nil, List.replicate, List.cons_append, List.nil_append, Nat.reduceAdd, Nat.reduceSub, List.getElem?_cons_zero, List.getElem?_cons_succ, List.set_cons_succ, List.set_cons_zero, Option.some.injEq, W.bl.injEq, W.int.injEq, W.ref.injEq, exists_eq_left', exists_eq_left, decide_eq_true_eq, true_and, and_true, ok_add, ok_sub, ok_lt, ok_le, ok_gt, ok_ge, ok_neg, ok_mul, ok_div, ok_mod, ok_pow, ok_max2, ok_min2, ok_abs, ok_int, ok_iLst, ok_iTup, ok_iEnum, ok_iZip, ok_iRng1, exists_list1, List.cons.injEq, exists_and_left, exists_const, exists_eq, if_true, if_false, Bool.not_true, Bool.not_false, Bool.false_eq_true, decide_true, decide_false, ix1 hp2, ix2 hp2]
    have s1 : Sm 61 (c + 1) := Sm_of (by omega) (by omega)
    have s2 : Sm 36 32416187567 := by unfold Sm; decide
    have s3 : Sm 26 27644437 := by unfold Sm; decide
    have s4 : Sm 200 b := Sm_of hb hb2
    have l1 := s1.lg
    have l2 := s2.lg
    have l3 := s3.lg
    have l4 := ((s4.mono (show 200 ≤ 200 by omega)).add ((s2.mul s1).mono (show 36 + 61 ≤ 200 by omega))).lg
    have hm := Int.emod_lt_of_pos ((b + 32416187567 * (c + 1)) ^ Int.toNat 3) (show (0 : Int) < 10 ^ Int.toNat 40 + 121 by decide)
    have hm0 := Int.emod_nonneg ((b + 32416187567 * (c + 1)) ^ Int.toNat 3) (show ((10 : Int) ^ Int.toNat 40 + 121) ≠ 0 by decide)
    have s5 := Sm_of (k := 200) hm0 (Int.lt_trans hm (by decide))
    have l5 := (s5.add ((s3.mul s1).mono (show 26 + 61 ≤ 200 by omega))).lg
    refine ⟨by omega, ⟨by decide, by decide, by omega⟩, ⟨by decide, by decide, by decide⟩, by decide, by omega, ⟨by decide, by decide, by omega⟩, ⟨by decide, by decide, by decide⟩, by decide, ⟨by decide, by decide⟩, h0, ?_⟩
    refine ⟨Int.emod_nonneg _ (by omega), Int.emod_lt_of_pos _ h0, Fr.set _ _, ?_⟩
    exact ⟨_, _, _, hp2, ha, hb, hb2, by omega, by omega⟩
theorem s_store {g : G} {a k : Nat} {ns : List Int} (h : IL g a ns) (hk : k ≤ 100) : Ok (m__law_store [.ref a, .int k] g) fun w g' => Ext g g' ∧ w = .ref g.length ∧ PU g' g.length (2 ^ 59) := by
  have hp : ∀ c : Int, PU (g ++ [.lst [.int (max 0 (c - 10 ^ Int.toNat 18)), .int (c % (10 ^ Int.toNat 37 + 43) * 83 + 7 * k), .int 0]]) g.length (2 ^ 59) := by
    intro c
    have h1 := Int.emod_lt_of_pos c (show (0 : Int) < 10 ^ Int.toNat 37 + 43 by decide)
    have h2 := Int.emod_nonneg c (show ((10 : Int) ^ Int.toNat 37 + 43) ≠ 0 by decide)
    have h3 : (10 : Int) ^ Int.toNat 37 + 43 < 2 ^ 150 := by decide
    generalize (10 : Int) ^ Int.toNat 37 + 43 = z at *
    exact ⟨_, _, _, get_new _ _, by omega, by omega, by omega, by omega, by omega⟩
  have hm : ∀ c : Int, lg (c % (10 ^ Int.toNat 37 + 43)) + lg 83 < 1000000 := by
    intro c
    have h1 := Int.emod_lt_of_pos c (show (0 : Int) < 10 ^ Int.toNat 37 + 43 by decide)
    have h2 := Int.emod_nonneg c (show ((10 : Int) ^ Int.toNat 37 + 43) ≠ 0 by decide)
    have h3 := (Sm_of (k := 150) h2 (Int.lt_trans h1 (by decide))).lg
    have h4 : lg 83 = 6 := by decide
    omega
  have hk2 : lg 7 + lg k < 1000000 := by
    have h3 : Sm 7 (k : Int) := by unfold Sm; omega
    have := h3.lg
    have h4 : lg 7 = 2 := by decide
    omega
  unfold m__law_store b__law_store
  simp only [ok_def, okS_seq, okS_ret, okS_asg, okS_if, okS_E, okS_par, okS_aug, okS_nop, nxt_nx, nxt_rt, okS_brk, okS_cnt, ok_var, ok_C, ok_op2, ok_op1, ok_call, ok_acons, ok_anil, ok_lst, ok_tup, ok_tVal, ok_mAnd, ok_mOr, ok_mNot, ok_if, ok_tNot, ok_tAnd, ok_tOr, ok_tYes, ok_chain, ok_star, ok_gName, ok_oNone, ok_oSome, ok_sl, ok_rev, ok_mt, ok_ok, ok_lc, okS_for, putL, wipe, startM, List.map_cons, List.map_nil, List.length_cons, List.length_nil, List.replicate, List.cons_append, List.nil_append, Nat.reduceAdd, Nat.reduceSub, List.getElem?_cons_zero, List.getElem?_cons_succ, List.set_cons_succ, List.set_cons_zero, Option.some.injEq, W.bl.injEq, W.int.injEq, W.ref.injEq, exists_eq_left', exists_eq_left, decide_eq_true_eq, true_and, and_true, ok_add, ok_sub, ok_lt, ok_le, ok_gt, ok_ge, ok_neg, ok_mul, ok_div, ok_mod, ok_pow, ok_max2, ok_min2, ok_abs, ok_int, ok_iLst, ok_iTup, ok_iEnum, ok_iZip, ok_iRng1, exists_list1, List.cons.injEq, exists_and_left, exists_const, exists_eq, if_true, if_false, Bool.not_true, Bool.not_false, Bool.false_eq_true, decide_true, decide_false, ok_len h]
  by_cases q : (k : Int) < ns.length
  · rw [if_pos q]
    simp only [ok_ix h (by omega) q, ok_def, okS_seq, okS_ret, okS_asg, okS_if, okS_E, okS_par, okS_aug, okS_nop, nxt_nx, nxt_rt, okS_brk, okS_cnt, ok_var, ok_C, ok_op2, ok_op1, ok_call, ok_acons, ok_anil, ok_lst, ok_tup, ok_tVal, ok_mAnd, ok_mOr, ok_mNot, ok_if, ok_tNot, ok_tAnd, ok_tOr, ok_tYes, ok_chain, ok_star, ok_gName, ok_oNone, ok_oSome, ok_sl, ok_rev, ok_mt, ok_ok, ok_lc, okS_for, putL, wipe, startM, List.map_cons, List.map_nil, List.length_cons, List.length_nil, List.replicate, List.cons_append, List.nil_append, Nat.reduceAdd, Nat.reduceSub, List.getElem?_cons_zero, List.getElem?_cons_succ, List.set_cons_succ, List.set_cons_zero, Option.some.injEq, W.bl.injEq, W.int.injEq, W.ref.injEq, exists_eq_left', exists_eq_left, decide_eq_true_eq, true_and, and_true, ok_add, ok_sub, ok_lt, ok_le, ok_gt, ok_ge, ok_neg, ok_mul, ok_div, ok_mod, ok_pow, ok_max2, ok_min2, ok_abs, ok_int, ok_iLst, ok_iTup, ok_iEnum, ok_iZip, ok_iRng1, exists_list1, List.cons.injEq, exists_and_left, exists_const, exists_eq, if_true, if_false, Bool.not_true, Bool.not_false, Bool.false_eq_true, decide_true, decide_false]
    exact ⟨⟨by decide, by decide, by decide⟩, ⟨by decide, by decide, by decide⟩, by decide, hm _, hk2, by decide, Ext.snoc _ _, hp _⟩
  · rw [if_neg q]
    exact ⟨⟨by decide, by decide, by decide⟩, ⟨by decide, by decide, by decide⟩, by decide, hm _, hk2, by decide, Ext.snoc _ _, hp _⟩
theorem ok_pop {g : G} {a : Nat} {xs : List W} {i : Int} {y : W} {Q : W → G → Prop} (h : g[a]? = some (.lst xs)) (h0 : 0 ≤ i) (h1 : i < xs.length) (hb : i < 2 ^ 63) (hy : xs[i.toNat]? = some y) : Ok (mtPop (.ref a) [.int i] g) Q ↔ Q y (g.set a (.lst (xs.eraseIdx i.toNat))) := by
  unfold mtPop
  dsimp only
  rw [h]
  dsimp only
  unfold ixN
  rw [if_pos h0, if_pos h1]
  dsimp only
  rw [hy]
  dsimp only
  rw [if_pos ⟨by omega, hb⟩]
  exact ok_ok
/-- a comprehension by an invariant, some turns without an item -/
theorem lc_invF {it : It} {tg : MG} {tt : MT} {el : ME} {ρ : Env} {d : Nat} {Q : W → G → Prop} (n : Nat) (P : Nat → List W → G → Prop) (hn : n ≤ SZ)
    (step : ∀ i acc g', i < n → g'[d]? = some (.lst acc) → P i acc g' → acc.length ≤ i → ∃ w g1, itAt it i g' = .go w g1 ∧ Ok (tg w ρ g1) fun ρ1 g2 => Ok (tt ρ1 g2) fun k g3 => if k = true then Ok (el ρ1 g3) fun y g4 => g4[d]? = some (.lst acc) ∧ P (i + 1) (acc ++ [y]) (g4.set d (.lst (acc ++ [y]))) else g3[d]? = some (.lst acc) ∧ P (i + 1) acc g3)
    (stop : ∀ acc g', g'[d]? = some (.lst acc) → P n acc g' → itAt it n g' = .stop ∧ Q (.ref d) g') :
    ∀ (m i : Nat) (acc : List W) (g' : G), i + m = n → g'[d]? = some (.lst acc) → P i acc g' → acc.length ≤ i → Ok (lcGo it tg tt el ρ d m i g') Q := by
  intro m
  induction m with
  | zero =>
    intro i acc g' e hd hp hl
    have : i = n := by omega
    subst this
    unfold lcGo
    rw [(stop acc g' hd hp).1, ok_ok]
    exact (stop acc g' hd hp).2
  | succ m ih =>
    intro i acc g' e hd hp hl
    unfold lcGo
    obtain ⟨w, g1, e1, h1⟩ := step i acc g' (by omega) hd hp hl
    rw [e1]
    dsimp only
    obtain ⟨ρ1, g2, e2, h2⟩ := h1
    rw [e2]
    dsimp only
    obtain ⟨k, g3, e3, h3⟩ := h2
    rw [e3]
    cases k with
    | true =>
      rw [if_pos rfl] at h3
      obtain ⟨y, g4, e4, h4, h5⟩ := h3
      dsimp only
      rw [e4]
      dsimp only
      rw [h4]
      dsimp only
      rw [if_pos (by omega)]
      exact ih (i + 1) (acc ++ [y]) _ (by omega) (List.getElem?_set_self (lt_of_get h4)) h5 (by simp; omega)
    | false =>
      rw [if_neg (by decide)] at h3
      exact ih (i + 1) acc _ (by omega) h3.1 h3.2 (by omega)
/-- a comprehension over range(n) whose items are picked -/
theorem lc_picks {p K c n s : Nat} {Good : Int → Prop} {g1 : G} {el : ME} {ρ : Env} {Q : W → G → Prop} (hn : n ≤ 1000) (u : PU g1 p (K + c * n))
    (step : ∀ (i : Nat) (g' : G), i < n → Fr p g1 g' → g1.length ≤ g'.length → PU g' p (K + c * (n - (i + 1)) + c) → Ok (el (ρ.set s (some (.int (i : Int)))) g') fun y g4 => ∃ v, y = .int v ∧ Good v ∧ Fr p g' g4 ∧ PU g4 p (K + c * (n - (i + 1))))
    (q : ∀ (g2 : G) (as : List Int), Fr p g1 g2 → PU g2 p K → g2[g1.length]? = some (.lst (as.map .int)) → as.length = n → (∀ x ∈ as, Good x) → Q (.ref g1.length) g2) :
    Ok (lcGo (.rng 0 n) (gName s) tYes el ρ g1.length (itLen (.rng 0 n) g1) 0 (g1 ++ [.lst []])) Q := by
  have hp := u.lt
  refine lc_inv n (fun i acc g2 => ∃ as : List Int, Fr p g1 g2 ∧ PU g2 p (K + c * (n - i)) ∧ acc = as.map .int ∧ as.length = i ∧ ∀ x ∈ as, Good x) (Nat.le_trans hn (by decide)) (fun i acc g2 hi hd hp2 hal => ?_) (fun acc g2 hd hp2 => ?_) _ 0 [] _ (Nat.zero_add _) (get_new _ _) ⟨[], Fr.snoc _ _, (u.ext (Ext.snoc _ _)), rfl, rfl, fun x hx => (nomatch hx)⟩ (Nat.le_refl _)
  · obtain ⟨as, f, uu, rfl, hl, hg⟩ := hp2
    refine ⟨_, _, rng_at hi, ?_⟩
    rw [ok_gName, ok_tYes]
    refine ⟨rfl, ?_⟩
    have e0 : (0 : Int) + i = i := by omega
    have e1 : K + c * (n - i) = K + c * (n - (i + 1)) + c := by
      have : n - i = n - (i + 1) + 1 := by omega
      rw [this, Nat.mul_add, Nat.mul_one, Nat.add_assoc]
    rw [e1] at uu
    rw [e0]
    refine (step i g2 hi f f.1 uu).mono fun y g4 ⟨v, e, hv, f4, u4⟩ => ?_
    subst e
    refine ⟨f4.get hd (by omega), as ++ [v], (f.trans f4).setNew (Nat.le_refl _) _, u4.set (by omega) _, by simp, by simp [hl], fun x hx => ?_⟩
    rcases List.mem_append.mp hx with hx | hx
    · exact hg x hx
    · rw [List.mem_singleton.mp hx]; exact hv
  · obtain ⟨as, f, uu, rfl, hl, hg⟩ := hp2
    refine ⟨rng_stop (Nat.le_refl _), q g2 as f (uu.mono (by omega)) hd hl hg⟩
theorem perm_erase {ns : List Int} {k : Nat} (h : k < ns.length) : (ns.getD k 0 :: ns.eraseIdx k).Perm ns := by
  rw [List.getD_eq_getElem?_getD, List.getElem?_eq_getElem h, List.eraseIdx_eq_take_drop_succ]
  have e : ns = ns.take k ++ ns[k] :: ns.drop (k + 1) := by rw [← List.drop_eq_getElem_cons h, List.take_append_drop]
  conv => rhs; rw [e]
  exact List.perm_middle.symm
/-- [left.pop(pick(store, len(left))) for .. in range(n)], left of n items -/
theorem lc_pops {p K n s L sp sl : Nat} {ls : List Int} {g1 : G} {ρ : Env} {Q : W → G → Prop} (hn : n ≤ 900) (u : PU g1 p (K + n)) (hL : g1[L]? = some (.lst (ls.map .int))) (hLp : L ≠ p) (hl : ls.length = n)
    (r1 : ∀ v, (ρ.set s v)[sp]? = some (some (.ref p))) (r2 : ∀ v, (ρ.set s v)[sl]? = some (some (.ref L)))
    (q : ∀ (g2 : G) (as : List Int) (z : O), Fr p g1 (g2.set L z) → L < g2.length → PU g2 p K → g2[g1.length]? = some (.lst (as.map .int)) → as.Perm ls → Q (.ref g1.length) g2) :
    Ok (lcGo (.rng 0 n) (gName s) tYes (mMt mtPop (mVar sl) (aCons (mCall m__law_pick (aCons (mVar sp) (aCons (mCall bLen (aCons (mVar sl) aNil)) aNil))) aNil)) ρ g1.length (itLen (.rng 0 n) g1) 0 (g1 ++ [.lst []])) Q := by
  have hp := u.lt
  have hLl := lt_of_get hL
  refine lc_inv n (fun i acc g2 => ∃ (rs as : List Int), Fr p g1 (g2.set L (.lst (ls.map .int))) ∧ PU g2 p (K + (n - i)) ∧ g2[L]? = some (.lst (rs.map .int)) ∧ (as ++ rs).Perm ls ∧ rs.length = n - i ∧ acc = as.map .int) (Nat.le_trans hn (by decide)) (fun i acc g2 hi hd hp2 hal => ?_) (fun acc g2 hd hp2 => ?_) _ 0 [] _ (Nat.zero_add _) (get_new _ _) ⟨ls, [], ?_, u.ext (Ext.snoc _ _), (Ext.snoc _ _).get hL, List.Perm.refl _, hl, rfl⟩ (Nat.le_refl _)
  · obtain ⟨rs, as, f, uu, hrs, hpm, hrl, rfl⟩ := hp2
    have hfl : g1.length ≤ g2.length := by have := f.1; simpa using this
    refine ⟨_, _, rng_at hi, ?_⟩
    have hIL : IL g2 L rs := lstAt_of hrs
    simp only [ok_def, okS_seq, okS_ret, okS_asg, okS_if, okS_E, okS_par, okS_aug, okS_nop, nxt_nx, nxt_rt, okS_brk, okS_cnt, ok_var, ok_C, ok_op2, ok_op1, ok_call, ok_acons, ok_anil, ok_lst, ok_tup, ok_tVal, ok_mAnd, ok_mOr, ok_mNot, ok_if, ok_tNot, ok_tAnd, ok_tOr, ok_tYes, ok_chain, ok_star, ok_gName, ok_oNone, ok_oSome, ok_sl, ok_rev, ok_mt, ok_ok, ok_lc, okS_for, putL, wipe, startM, List.map_cons, List.map_nil, List.length_cons, List.length_nil, List.replicate, List.cons_append, List.nil_append, Nat.reduceAdd, Nat.reduceSub, List.getElem?_cons_zero, List.getElem?_cons_succ, List.set_cons_succ, List.set_cons_zero, Option.some.injEq, W.bl.injEq, W.int.injEq, W.ref.injEq, exists_eq_left', exists_eq_left, decide_eq_true_eq, true_and, and_true, ok_add, ok_sub, ok_lt, ok_le, ok_gt, ok_ge, ok_neg, ok_mul, ok_div, ok_mod, ok_pow, ok_max2, ok_min2, ok_abs, ok_int, ok_iLst, ok_iTup, ok_iEnum, ok_iZip, ok_iRng1, exists_list1, List.cons.injEq, exists_and_left, exists_const, exists_eq, if_true, if_false, Bool.not_true, Bool.not_false, Bool.false_eq_true, decide_true, decide_false, r1, r2]
    refine ⟨isL_of hIL, ?_⟩
    rw [ok_len hIL]
    refine (s_pick (n := K + (n - (i + 1))) (uu.mono (by omega)) (by omega) (lgs (by omega) (by omega))).mono fun w g5 ⟨t, e, ta, tb, f5, u5⟩ => ?_
    subst e
    have hrs5 := f5.get hrs hLp
    have hd5 := f5.get hd (by omega)
    have ht : t.toNat < rs.length := by omega
    have hy : (rs.map W.int)[t.toNat]? = some (.int (rs.getD t.toNat 0)) := by
      rw [List.getElem?_map, List.getD_eq_getElem?_getD, List.getElem?_eq_getElem ht]
      rfl
    rw [ok_pop hrs5 ta (by simpa using tb) (by omega) hy]
    have he : (rs.map W.int).eraseIdx t.toNat = (rs.eraseIdx t.toNat).map .int := by
      simp only [List.eraseIdx_eq_take_drop_succ, List.map_append, List.map_take, List.map_drop]
    rw [he]
    have h5l := f5.1
    have key : Fr p g1 (((g5.set L (.lst ((rs.eraseIdx t.toNat).map .int))).set g1.length (.lst (as.map .int ++ [.int (rs.getD t.toNat 0)]))).set L (.lst (ls.map .int))) := by
      refine ⟨by simp; omega, fun z hz1 hz2 => ?_⟩
      have := f.2 z hz1 hz2
      by_cases hzL : z = L
      · subst hzL
        rw [List.getElem?_set_self (by simp; omega), hL]
      · rw [List.getElem?_set_ne (Ne.symm hzL)] at this ⊢
        rw [List.getElem?_set_ne (by omega), List.getElem?_set_ne (Ne.symm hzL), f5.2 z (by omega) hz2, this]
    have hall : ((as ++ [rs.getD t.toNat 0]) ++ rs.eraseIdx t.toNat).Perm ls := by
      rw [List.append_assoc]
      exact (List.Perm.append_left as (perm_erase ht)).trans hpm
    refine ⟨?_, key, (u5.set hLp _).set (by omega) _, rs.eraseIdx t.toNat, ?_, as ++ [rs.getD t.toNat 0], hall, ?_, by simp⟩
    · rw [List.getElem?_set_ne (by omega)]; exact hd5
    · rw [List.getElem?_set_ne (by omega), List.getElem?_set_self (lt_of_get hrs5)]
    · rw [List.length_eraseIdx_of_lt ht]; omega
  · obtain ⟨rs, as, f, uu, hrs, hpm, hrl, rfl⟩ := hp2
    have e : rs = [] := List.length_eq_zero_iff.mp (by omega)
    subst e
    rw [List.append_nil] at hpm
    exact ⟨rng_stop (Nat.le_refl _), q g2 as _ f (lt_of_get hrs) (uu.mono (by omega)) hd hpm⟩
  · refine ⟨by simp, fun z hz1 hz2 => ?_⟩
    by_cases hzL : z = L
    · subst hzL
      rw [List.getElem?_set_self (by simp; omega), hL]
    · rw [List.getElem?_set_ne (Ne.symm hzL), List.getElem?_append_left hz1]
theorem Fr.unset {p L : Nat} {g g1 g2 : G} {z : O} (f : Fr p g g1) (hL : g.length ≤ L) (h : Fr p g1 (g2.set L z)) : Fr p g g2 := by
  have h1 := f.1
  have h2 := h.1
  rw [List.length_set] at h2
  refine ⟨by omega, fun q h3 h4 => ?_⟩
  rw [← f.2 q h3 h4, ← h.2 q (by omega) h4, List.getElem?_set_ne (by omega)]
theorem ok_intB {b : Bool} {g : G} {Q : W → G → Prop} : Ok (bInt [.bl b] g) Q ↔ Q (.int (if b then 1 else 0)) g := ok_ok
theorem ok_mulL {g : G} {a n : Nat} {i : Int} {Q : W → G → Prop} (h : g[a]? = some (.lst [.int i])) (hn : n ≤ 1000) : Ok (opMul (.ref a) (.int n) g) Q ↔ Q (.ref g.length) (g ++ [.lst ((List.replicate n i).map .int)]) := by
  have e : (List.replicate (n : Int).toNat [W.int i]).flatten = (List.replicate n i).map .int := by
    rw [Int.toNat_natCast]
    clear hn
    induction n with
    | zero => rfl
    | succ n ih => rw [List.replicate_succ, List.flatten_cons, ih, List.replicate_succ]; rfl
  unfold opMul
  dsimp only
  rw [h]
  dsimp only
  rw [if_pos ⟨by omega, by omega, by simp; exact Nat.le_trans hn (by decide)⟩, e]
  exact ok_ok
/-- the deals: levels from 0 to top -/
theorem s_deal {g : G} {p m : Nat} {most top : Int} (h : PU g p (m + 100)) (h0 : 1 ≤ most) (h1 : most ≤ 20) (h2 : 0 ≤ top) (h3 : top ≤ 60) : Ok (m__law_deal [.ref p, .int most, .int top] g) fun w g' => ∃ b ns, w = .ref b ∧ g.length ≤ b ∧ b < g'.length ∧ Fr p g g' ∧ PU g' p m ∧ IL g' b ns ∧ 1 ≤ ns.length ∧ (ns.length : Int) ≤ most ∧ ∀ x ∈ ns, 0 ≤ x ∧ x ≤ top := by
  have hpg := h.lt
  unfold m__law_deal b__law_deal
  simp only [ok_def, okS_seq, okS_ret, okS_asg, okS_if, okS_E, okS_par, okS_aug, okS_nop, nxt_nx, nxt_rt, okS_brk, okS_cnt, ok_var, ok_C, ok_op2, ok_op1, ok_call, ok_acons, ok_anil, ok_lst, ok_tup, ok_tVal, ok_mAnd, ok_mOr, ok_mNot, ok_if, ok_tNot, ok_tAnd, ok_tOr, ok_tYes, ok_chain, ok_star, ok_gName, ok_oNone, ok_oSome, ok_sl, ok_rev, ok_mt, ok_ok, ok_lc, okS_for, putL, wipe, startM, List.map_cons, List.map_nil, List.length_cons, List.length_nil, List.replicate, List.cons_append, List.nil_append, Nat.reduceAdd, Nat.reduceSub, List.getElem?_cons_zero, List.getElem?_cons_succ, List.set_cons_succ, List.set_cons_zero, Option.some.injEq, W.bl.injEq, W.int.injEq, W.ref.injEq, exists_eq_left', exists_eq_left, decide_eq_true_eq, true_and, and_true, ok_add, ok_sub, ok_lt, ok_le, ok_gt, ok_ge, ok_neg, ok_mul, ok_div, ok_mod, ok_pow, ok_max2, ok_min2, ok_abs, ok_int, ok_iLst, ok_iTup, ok_iEnum, ok_iZip, ok_iRng1, exists_list1, List.cons.injEq, exists_and_left, exists_const, exists_eq, if_true, if_false, Bool.not_true, Bool.not_false, Bool.false_eq_true, decide_true, decide_false]
  refine (s_pick (n := m + 99) (h.mono (by omega)) (by omega) (lgs (by omega) (by omega))).mono fun w g1 ⟨sz, e, z1, z2, f1, u1⟩ => ?_
  subst e
  rw [ok_add]
  refine (s_pick (n := m + 98) (u1.mono (by omega)) (by omega) (lgs (by omega) (by omega))).mono fun w g2 ⟨bent, e, y1, y2, f2, u2⟩ => ?_
  subst e
  obtain ⟨n, hn⟩ : ∃ n : Nat, 1 + sz = n := ⟨(1 + sz).toNat, by omega⟩
  rw [hn]
  refine ⟨by decide, ?_⟩
  rw [ok_gTup2 (tup_new _ _)]
  have u3 := u2.ext (Ext.snoc g2 (.tup [.int n, .int bent]))
  have f3 := (f1.trans f2).trans (Fr.snoc g2 (.tup [.int n, .int bent]))
  generalize g2 ++ [O.tup [.int n, .int bent]] = g3 at *
  have l3 := f3.1
  have hnn : n ≤ 20 := by omega
  have eqI : ∀ (i j : Int) (g : G) (Q : W → G → Prop), Ok (opEq (.int i) (.int j) g) Q ↔ Q (.bl (i == j)) g := fun i j g Q => by
    unfold opEq
    simp only [rdD, eqD]
    rw [ok_ok]
  simp only [ok_def, okS_seq, okS_ret, okS_asg, okS_if, okS_E, okS_par, okS_aug, okS_nop, nxt_nx, nxt_rt, okS_brk, okS_cnt, ok_var, ok_C, ok_op2, ok_op1, ok_call, ok_acons, ok_anil, ok_lst, ok_tup, ok_tVal, ok_mAnd, ok_mOr, ok_mNot, ok_if, ok_tNot, ok_tAnd, ok_tOr, ok_tYes, ok_chain, ok_star, ok_gName, ok_oNone, ok_oSome, ok_sl, ok_rev, ok_mt, ok_ok, ok_lc, okS_for, putL, wipe, startM, List.map_cons, List.map_nil, List.length_cons, List.length_nil, List.replicate, List.cons_append, List.nil_append, Nat.reduceAdd, Nat.reduceSub, List.getElem?_cons_zero, List.getElem?_cons_succ, List.set_cons_succ, List.set_cons_zero, Option.some.injEq, W.bl.injEq, W.int.injEq, W.ref.injEq, exists_eq_left', exists_eq_left, decide_eq_true_eq, true_and, and_true, ok_add, ok_sub, ok_lt, ok_le, ok_gt, ok_ge, ok_neg, ok_mul, ok_div, ok_mod, ok_pow, ok_max2, ok_min2, ok_abs, ok_int, ok_iLst, ok_iTup, ok_iEnum, ok_iZip, ok_iRng1, exists_list1, List.cons.injEq, exists_and_left, exists_const, exists_eq, if_true, if_false, Bool.not_true, Bool.not_false, Bool.false_eq_true, decide_true, decide_false, eqI]
  have hR : inR (n : Int) = true := inR_le (by omega) (by omega)
  have hn1 : 1 ≤ n := by omega
  rw [Int.toNat_natCast]
  by_cases b1 : (bent == 1) = true
  · rw [if_pos b1]
    refine ⟨by decide, ?_⟩
    refine lc_picks (p := p) (K := m + 50) (c := 1) (n := 2) (Good := fun x => 0 ≤ x ∧ x ≤ top) (by omega) (u3.mono (by omega)) (fun i g' hi f hl u => ?_) (fun g4 as f4 u4 hd hl hg => ?_)
    · simp only [ok_def, okS_seq, okS_ret, okS_asg, okS_if, okS_E, okS_par, okS_aug, okS_nop, nxt_nx, nxt_rt, okS_brk, okS_cnt, ok_var, ok_C, ok_op2, ok_op1, ok_call, ok_acons, ok_anil, ok_lst, ok_tup, ok_tVal, ok_mAnd, ok_mOr, ok_mNot, ok_if, ok_tNot, ok_tAnd, ok_tOr, ok_tYes, ok_chain, ok_star, ok_gName, ok_oNone, ok_oSome, ok_sl, ok_rev, ok_mt, ok_ok, ok_lc, okS_for, putL, wipe, startM, List.map_cons, List.map_nil, List.length_cons, List.length_nil, List.replicate, List.cons_append, List.nil_append, Nat.reduceAdd, Nat.reduceSub, List.getElem?_cons_zero, List.getElem?_cons_succ, List.set_cons_succ, List.set_cons_zero, Option.some.injEq, W.bl.injEq, W.int.injEq, W.ref.injEq, exists_eq_left', exists_eq_left, decide_eq_true_eq, true_and, and_true, ok_add, ok_sub, ok_lt, ok_le, ok_gt, ok_ge, ok_neg, ok_mul, ok_div, ok_mod, ok_pow, ok_max2, ok_min2, ok_abs, ok_int, ok_iLst, ok_iTup, ok_iEnum, ok_iZip, ok_iRng1, exists_list1, List.cons.injEq, exists_and_left, exists_const, exists_eq, if_true, if_false, Bool.not_true, Bool.not_false, Bool.false_eq_true, decide_true, decide_false]
      exact (s_pick (u.mono (by omega)) (by omega) (lgs (by omega) (by omega))).mono fun w g5 ⟨t, e, a1, a2, a3, a4⟩ => ⟨t, e, ⟨a1, by omega⟩, a3, a4⟩
    · refine ⟨hR, ?_⟩
      have hAs : IL g4 g3.length as := lstAt_of hd
      have hg4 := lt_of_get hd
      refine lc_picks (p := p) (K := m) (c := 1) (n := n) (Good := fun x => 0 ≤ x ∧ x ≤ top) (by omega) (u4.mono (by omega)) (fun i g' hi f hl2 u => ?_) (fun g5 bs f5 u5 hd5 hl5 hg5 => ?_)
      · simp only [ok_def, okS_seq, okS_ret, okS_asg, okS_if, okS_E, okS_par, okS_aug, okS_nop, nxt_nx, nxt_rt, okS_brk, okS_cnt, ok_var, ok_C, ok_op2, ok_op1, ok_call, ok_acons, ok_anil, ok_lst, ok_tup, ok_tVal, ok_mAnd, ok_mOr, ok_mNot, ok_if, ok_tNot, ok_tAnd, ok_tOr, ok_tYes, ok_chain, ok_star, ok_gName, ok_oNone, ok_oSome, ok_sl, ok_rev, ok_mt, ok_ok, ok_lc, okS_for, putL, wipe, startM, List.map_cons, List.map_nil, List.length_cons, List.length_nil, List.replicate, List.cons_append, List.nil_append, Nat.reduceAdd, Nat.reduceSub, List.getElem?_cons_zero, List.getElem?_cons_succ, List.set_cons_succ, List.set_cons_zero, Option.some.injEq, W.bl.injEq, W.int.injEq, W.ref.injEq, exists_eq_left', exists_eq_left, decide_eq_true_eq, true_and, and_true, ok_add, ok_sub, ok_lt, ok_le, ok_gt, ok_ge, ok_neg, ok_mul, ok_div, ok_mod, ok_pow, ok_max2, ok_min2, ok_abs, ok_int, ok_iLst, ok_iTup, ok_iEnum, ok_iZip, ok_iRng1, exists_list1, List.cons.injEq, exists_and_left, exists_const, exists_eq, if_true, if_false, Bool.not_true, Bool.not_false, Bool.false_eq_true, decide_true, decide_false]
        refine (s_pick (n := m + 1 * (n - (i + 1))) (u.mono (by omega)) (by omega) (lgs (by omega) (by omega))).mono fun w g6 ⟨t, e, a1, a2, a3, a4⟩ => ?_
        subst e
        rw [ok_ix (hAs.fr (f.trans a3) (by have := h.lt; omega)) a1 (by omega)]
        exact ⟨_, rfl, hg _ (getD_mem (by omega)), a3, a4⟩
      · have l4 := f4.1
        exact ⟨_, rfl, by omega, lt_of_get hd5, (f3.trans f4).trans f5, u5, bs, lstAt_of hd5, by omega, by omega, hg5⟩
  rw [if_neg b1]
  by_cases b2 : (bent == 2) = true
  · rw [if_pos b2]
    refine ⟨hR, ?_⟩
    refine lc_picks (p := p) (K := m) (c := 1) (n := n) (Good := fun x => 0 ≤ x ∧ x ≤ top) (by omega) (u3.mono (by omega)) (fun i g' hi f hl2 u => ?_) (fun g5 bs f5 u5 hd5 hl5 hg5 => ?_)
    · simp only [ok_def, okS_seq, okS_ret, okS_asg, okS_if, okS_E, okS_par, okS_aug, okS_nop, nxt_nx, nxt_rt, okS_brk, okS_cnt, ok_var, ok_C, ok_op2, ok_op1, ok_call, ok_acons, ok_anil, ok_lst, ok_tup, ok_tVal, ok_mAnd, ok_mOr, ok_mNot, ok_if, ok_tNot, ok_tAnd, ok_tOr, ok_tYes, ok_chain, ok_star, ok_gName, ok_oNone, ok_oSome, ok_sl, ok_rev, ok_mt, ok_ok, ok_lc, okS_for, putL, wipe, startM, List.map_cons, List.map_nil, List.length_cons, List.length_nil, List.replicate, List.cons_append, List.nil_append, Nat.reduceAdd, Nat.reduceSub, List.getElem?_cons_zero, List.getElem?_cons_succ, List.set_cons_succ, List.set_cons_zero, Option.some.injEq, W.bl.injEq, W.int.injEq, W.ref.injEq, exists_eq_left', exists_eq_left, decide_eq_true_eq, true_and, and_true, ok_add, ok_sub, ok_lt, ok_le, ok_gt, ok_ge, ok_neg, ok_mul, ok_div, ok_mod, ok_pow, ok_max2, ok_min2, ok_abs, ok_int, ok_iLst, ok_iTup, ok_iEnum, ok_iZip, ok_iRng1, exists_list1, List.cons.injEq, exists_and_left, exists_const, exists_eq, if_true, if_false, Bool.not_true, Bool.not_false, Bool.false_eq_true, decide_true, decide_false]
      exact (s_pick (u.mono (by omega)) (by omega) (lgs (by omega) (by omega))).mono fun w g5 ⟨t, e, a1, a2, a3, a4⟩ => ⟨t, e, ⟨a1, by omega⟩, a3, a4⟩
    · exact ⟨_, rfl, by omega, lt_of_get hd5, f3.trans f5, u5, bs, lstAt_of hd5, by omega, by omega, hg5⟩
  rw [if_neg b2]
  by_cases b3 : (bent == 3) = true
  · rw [if_pos b3]
    refine ⟨hR, ?_⟩
    refine lc_picks (p := p) (K := m + 40) (c := 1) (n := n) (Good := fun x => 0 ≤ x ∧ x ≤ top) (by omega) (u3.mono (by omega)) (fun i g' hi f hl2 u => ?_) (fun g5 bs f5 u5 hd5 hl5 hg5 => ?_)
    · simp only [ok_def, okS_seq, okS_ret, okS_asg, okS_if, okS_E, okS_par, okS_aug, okS_nop, nxt_nx, nxt_rt, okS_brk, okS_cnt, ok_var, ok_C, ok_op2, ok_op1, ok_call, ok_acons, ok_anil, ok_lst, ok_tup, ok_tVal, ok_mAnd, ok_mOr, ok_mNot, ok_if, ok_tNot, ok_tAnd, ok_tOr, ok_tYes, ok_chain, ok_star, ok_gName, ok_oNone, ok_oSome, ok_sl, ok_rev, ok_mt, ok_ok, ok_lc, okS_for, putL, wipe, startM, List.map_cons, List.map_nil, List.length_cons, List.length_nil, List.replicate, List.cons_append, List.nil_append, Nat.reduceAdd, Nat.reduceSub, List.getElem?_cons_zero, List.getElem?_cons_succ, List.set_cons_succ, List.set_cons_zero, Option.some.injEq, W.bl.injEq, W.int.injEq, W.ref.injEq, exists_eq_left', exists_eq_left, decide_eq_true_eq, true_and, and_true, ok_add, ok_sub, ok_lt, ok_le, ok_gt, ok_ge, ok_neg, ok_mul, ok_div, ok_mod, ok_pow, ok_max2, ok_min2, ok_abs, ok_int, ok_iLst, ok_iTup, ok_iEnum, ok_iZip, ok_iRng1, exists_list1, List.cons.injEq, exists_and_left, exists_const, exists_eq, if_true, if_false, Bool.not_true, Bool.not_false, Bool.false_eq_true, decide_true, decide_false]
      refine (s_pick (n := m + 40 + 1 * (n - (i + 1))) (u.mono (by omega)) (by omega) (lgs (by omega) (by omega))).mono fun w g6 ⟨t, e, a1, a2, a3, a4⟩ => ?_
      subst e
      rw [ok_add, ok_min2]
      exact ⟨_, rfl, ⟨by omega, by omega⟩, a3, a4⟩
    · refine ⟨hR, ?_⟩
      refine lc_pops (p := p) (K := m) (ls := bs) (L := g3.length) (by omega) (u5.mono (by omega)) hd5 (by have := h.lt; omega) hl5 (fun v => rfl) (fun v => rfl) (fun g6 cs z f6 hL6 u6 hd6 pm => ?_)
      have hlen := pm.length_eq
      have l5 := f5.1
      refine ⟨_, rfl, by omega, lt_of_get hd6, (f3.trans f5).unset (by omega) f6, u6, cs, lstAt_of hd6, by omega, by omega, fun x hx => hg5 x (pm.mem_iff.mp hx)⟩
  rw [if_neg b3]
  by_cases b4 : (bent == 4) = true
  · rw [if_pos b4]
    refine (s_pick (n := m) (u3.mono (by omega)) (by omega) (lgs (by omega) (by omega))).mono fun w g6 ⟨t, e, a1, a2, a3, a4⟩ => ?_
    subst e
    refine ⟨by decide, ?_⟩
    rw [ok_mulL (get_new _ _) (by omega)]
    have l6 := a3.1
    refine ⟨_, rfl, by simp; omega, by simp, ((f3.trans a3).trans (Fr.snoc _ _)).trans (Fr.snoc _ _), (a4.ext (Ext.snoc _ _)).ext (Ext.snoc _ _), _, lst_new _ _, by simp; omega, by simp; omega, fun x hx => ?_⟩
    rw [List.eq_of_mem_replicate hx]
    omega
  rw [if_neg b4]
  refine ⟨hR, ?_⟩
  refine lc_picks (p := p) (K := m) (c := 1) (n := n) (Good := fun x => 0 ≤ x ∧ x ≤ top) (by omega) (u3.mono (by omega)) (fun i g' hi f hl2 u => ?_) (fun g5 bs f5 u5 hd5 hl5 hg5 => ?_)
  · simp only [ok_def, okS_seq, okS_ret, okS_asg, okS_if, okS_E, okS_par, okS_aug, okS_nop, nxt_nx, nxt_rt, okS_brk, okS_cnt, ok_var, ok_C, ok_op2, ok_op1, ok_call, ok_acons, ok_anil, ok_lst, ok_tup, ok_tVal, ok_mAnd, ok_mOr, ok_mNot, ok_if, ok_tNot, ok_tAnd, ok_tOr, ok_tYes, ok_chain, ok_star, ok_gName, ok_oNone, ok_oSome, ok_sl, ok_rev, ok_mt, ok_ok, ok_lc, okS_for, putL, wipe, startM, List.map_cons, List.map_nil, List.length_cons, List.length_nil, List.replicate, List.cons_append, List.nil_append, Nat.reduceAdd, Nat.reduceSub, List.getElem?_cons_zero, List.getElem?_cons_succ, List.set_cons_succ, List.set_cons_zero, Option.some.injEq, W.bl.injEq, W.int.injEq, W.ref.injEq, exists_eq_left', exists_eq_left, decide_eq_true_eq, true_and, and_true, ok_add, ok_sub, ok_lt, ok_le, ok_gt, ok_ge, ok_neg, ok_mul, ok_div, ok_mod, ok_pow, ok_max2, ok_min2, ok_abs, ok_int, ok_iLst, ok_iTup, ok_iEnum, ok_iZip, ok_iRng1, exists_list1, List.cons.injEq, exists_and_left, exists_const, exists_eq, if_true, if_false, Bool.not_true, Bool.not_false, Bool.false_eq_true, decide_true, decide_false, eqI, ok_intB]
    refine ⟨by decide, ?_⟩
    have hL : IL (g' ++ [O.lst [W.int (top + 1), W.int (min top 3 + 1)]]) g'.length [top + 1, min top 3 + 1] := lst_new _ _
    have hsel : ∃ v, 1 ≤ v ∧ v ≤ top + 1 ∧ ∀ (Q : W → G → Prop), Ok (opIx (.ref g'.length) (.int (if (bent == 5) = true then 1 else 0)) (g' ++ [O.lst [W.int (top + 1), W.int (min top 3 + 1)]])) Q ↔ Q (.int v) (g' ++ [O.lst [W.int (top + 1), W.int (min top 3 + 1)]]) := by
      by_cases b5 : (bent == 5) = true
      · rw [if_pos b5]
        exact ⟨min top 3 + 1, by omega, by omega, fun Q => ok_ix hL (by omega) (by simp)⟩
      · rw [if_neg b5]
        exact ⟨top + 1, by omega, by omega, fun Q => ok_ix hL (by omega) (by simp)⟩
    obtain ⟨v, v1, v2, hv⟩ := hsel
    rw [hv]
    refine (s_pick (n := m + 1 * (n - (i + 1))) ((u.ext (Ext.snoc _ _)).mono (by omega)) (by omega) (lgs (by omega) (by omega))).mono fun w g6 ⟨t, e, a1, a2, a3, a4⟩ => ?_
    subst e
    rw [ok_sub]
    exact ⟨_, rfl, ⟨by omega, by omega⟩, (Fr.snoc _ _).trans a3, a4⟩
  · exact ⟨_, rfl, by omega, lt_of_get hd5, f3.trans f5, u5, bs, lstAt_of hd5, by omega, by omega, hg5⟩
end M
/-! K32a: high teams, rising lists, and the program's papers, by values. -/
namespace M
def Team (ns : List Int) : Prop := 1 ≤ ns.length ∧ ns.length ≤ 20 ∧ (∀ x ∈ ns, 0 ≤ x) ∧ maxL (spare (isort ns)) ≤ 40
theorem maxL_ge : ∀ (ns : List Int), ∀ x ∈ ns, x ≤ maxL ns := by
  intro ns
  induction ns with
  | nil => intro x h; cases h
  | cons a r ih =>
    cases r with
    | nil => intro x h; rw [List.mem_singleton.mp h]; simp [maxL]
    | cons b r =>
      intro x h
      rw [maxL]
      rcases List.mem_cons.mp h with rfl | h
      · omega
      · have := ih x h; omega
theorem maxL_in : ∀ (ns : List Int), ns ≠ [] → maxL ns ∈ ns := by
  intro ns
  induction ns with
  | nil => intro h; exact absurd rfl h
  | cons a r ih =>
    cases r with
    | nil => intro h; simp [maxL]
    | cons b r =>
      intro h
      rw [maxL]
      have := ih (by simp)
      by_cases q : a ≤ maxL (b :: r)
      · rw [Int.max_eq_right q]; exact List.mem_cons_of_mem _ this
      · rw [Int.max_eq_left (by omega)]; exact List.mem_cons_self
theorem Team.ne {ns : List Int} (t : Team ns) : ns ≠ [] := by intro e; have := t.1; rw [e] at this; simp at this
theorem Team.lt {ns : List Int} (t : Team ns) : ∀ c ∈ ns, 0 ≤ c ∧ c ≤ 59 := by
  intro c hc
  refine ⟨t.2.2.1 c hc, ?_⟩
  have h1 := (isort_perm ns).mem_iff.mpr hc
  obtain ⟨k, hk, e⟩ := List.mem_iff_getElem.mp h1
  have h2 := maxL_ge (spare (isort ns)) _ (getD_mem (i := k) (by rw [spare_len]; exact hk))
  rw [spare_get _ _ hk, List.getD_eq_getElem?_getD, List.getElem?_eq_getElem hk, Option.getD_some, e] at h2
  have := t.2.2.2
  have := t.2.1
  rw [isort_len] at hk
  omega
theorem spare_max {ns : List Int} (h : 1 ≤ ns.length) (hb : ∀ k, k < ns.length → (isort ns).getD k 0 ≤ 40 + k) : maxL (spare (isort ns)) ≤ 40 := by
  have hne : spare (isort ns) ≠ [] := by intro e; have := spare_len (isort ns); rw [e, isort_len] at this; simp at this; omega
  have hm := maxL_in _ hne
  obtain ⟨k, hk, e⟩ := List.mem_iff_getElem.mp hm
  rw [spare_len] at hk
  have h2 := spare_get (isort ns) k hk
  rw [List.getD_eq_getElem?_getD, List.getElem?_eq_getElem (by rw [spare_len]; exact hk), Option.getD_some, e] at h2
  have := hb k (by rw [isort_len] at hk; exact hk)
  omega
theorem team_low {ns : List Int} (h1 : 1 ≤ ns.length) (h2 : ns.length ≤ 20) (h : ∀ x ∈ ns, 0 ≤ x ∧ x ≤ 40) : Team ns := by
  refine ⟨h1, h2, fun x hx => (h x hx).1, spare_max h1 fun k hk => ?_⟩
  have := (h _ ((isort_perm ns).mem_iff.mp (getD_mem (i := k) (by rw [isort_len]; exact hk)))).2
  omega
theorem filter_take (p : Int → Bool) : ∀ (l : List Int) (k : Nat), (∀ i, i < k → i < l.length → p (l.getD i 0) = true) → k ≤ l.length → k ≤ (l.filter p).length := by
  intro l
  induction l with
  | nil => intro k _ h; simpa using h
  | cons a l ih =>
    intro k h hk
    cases k with
    | zero => omega
    | succ k =>
      have h0 := h 0 (by omega) (by simp)
      rw [List.getD_cons_zero] at h0
      rw [List.filter_cons_of_pos h0, List.length_cons]
      have := ih k (fun i h1 h2 => by have := h (i + 1) (by omega) (by simp; omega); rwa [List.getD_cons_succ] at this) (by simpa using hk)
      omega
theorem filter_drop (p : Int → Bool) : ∀ (l : List Int) (k : Nat), (∀ i, k ≤ i → i < l.length → p (l.getD i 0) = false) → (l.filter p).length ≤ k := by
  intro l
  induction l with
  | nil => intro k _; simp
  | cons a l ih =>
    intro k h
    cases k with
    | zero =>
      have h0 := h 0 (by omega) (by simp)
      rw [List.getD_cons_zero] at h0
      rw [List.filter_cons_of_neg (by rw [h0]; decide)]
      exact ih 0 fun i h1 h2 => by have := h (i + 1) (by omega) (by simp; omega); rwa [List.getD_cons_succ] at this
    | succ k =>
      have := ih k fun i h1 h2 => by have := h (i + 1) (by omega) (by simp; omega); rwa [List.getD_cons_succ] at this
      have h3 : ((a :: l).filter p).length ≤ (l.filter p).length + 1 := by
        by_cases q : p a = true
        · rw [List.filter_cons_of_pos q, List.length_cons]; omega
        · rw [List.filter_cons_of_neg q]; omega
      omega
theorem sorted_at {l : List Int} (h : l.Pairwise (· ≤ ·)) {i j : Nat} (hij : i ≤ j) (hj : j < l.length) : l.getD i 0 ≤ l.getD j 0 := by
  rw [List.getD_eq_getElem?_getD, List.getD_eq_getElem?_getD, List.getElem?_eq_getElem hj, List.getElem?_eq_getElem (by omega)]
  simp only [Option.getD_some]
  by_cases e : i = j
  · subst e; exact Int.le_refl _
  · exact List.pairwise_iff_getElem.mp h i j (by omega) hj (by omega)
theorem team_high {ls as : List Int} (h1 : 1 ≤ ls.length) (h2 : ls.length ≤ 20) (h : ∀ k, k < ls.length → 0 ≤ ls.getD k 0 ∧ ls.getD k 0 ≤ 40 + k) (pm : as.Perm ls) : Team as := by
  have hl := pm.length_eq
  refine ⟨by omega, by omega, fun x hx => ?_, spare_max (by omega) fun k hk => ?_⟩
  · obtain ⟨k, hk, e⟩ := List.mem_iff_getElem.mp (pm.mem_iff.mp hx)
    have := (h k hk).1
    rw [List.getD_eq_getElem?_getD, List.getElem?_eq_getElem hk, Option.getD_some, e] at this
    exact this
  · apply Classical.byContradiction
    intro hc
    have c1 := filter_take (fun x => decide (x ≤ 40 + k)) ls (k + 1) (fun i h3 h4 => decide_eq_true (by have := (h i h4).2; omega)) (by omega)
    have c2 := filter_drop (fun x => decide (x ≤ 40 + k)) (isort as) k (fun i h3 h4 => decide_eq_false (by have := sorted_at (isort_up as) h3 h4; omega))
    have c3 := ((isort_perm as).trans pm).filter (fun x => decide (x ≤ 40 + (k : Int)))
    have c4 := c3.length_eq
    omega
theorem s_high {g : G} {p m : Nat} (h : PU g p (m + 100)) : Ok (m__law_high [.ref p] g) fun w g' => ∃ b ns, w = .ref b ∧ g.length ≤ b ∧ b < g'.length ∧ Fr p g g' ∧ PU g' p m ∧ IL g' b ns ∧ Team ns := by
  have hpg := h.lt
  unfold m__law_high b__law_high
  simp only [ok_def, okS_seq, okS_ret, okS_asg, okS_if, okS_E, okS_par, okS_aug, okS_nop, nxt_nx, nxt_rt, okS_brk, okS_cnt, ok_var, ok_C, ok_op2, ok_op1, ok_call, ok_acons, ok_anil, ok_lst, ok_tup, ok_tVal, ok_mAnd, ok_mOr, ok_mNot, ok_if, ok_tNot, ok_tAnd, ok_tOr, ok_tYes, ok_chain, ok_star, ok_gName, ok_oNone, ok_oSome, ok_sl, ok_rev, ok_mt, ok_ok, ok_lc, okS_for, putL, wipe, startM, List.map_cons, List.map_nil, List.length_cons, List.length_nil, List.replicate, List.cons_append, List.nil_append, Nat.reduceAdd, Nat.reduceSub, List.getElem?_cons_zero, List.getElem?_cons_succ, List.set_cons_succ, List.set_cons_zero, Option.some.injEq, W.bl.injEq, W.int.injEq, W.ref.injEq, exists_eq_left', exists_eq_left, decide_eq_true_eq, true_and, and_true, ok_add, ok_sub, ok_lt, ok_le, ok_gt, ok_ge, ok_neg, ok_mul, ok_div, ok_mod, ok_pow, ok_max2, ok_min2, ok_abs, ok_int, ok_iLst, ok_iTup, ok_iEnum, ok_iZip, ok_iRng1, exists_list1, List.cons.injEq, exists_and_left, exists_const, exists_eq, if_true, if_false, Bool.not_true, Bool.not_false, Bool.false_eq_true, decide_true, decide_false]
  refine ⟨by decide, ?_⟩
  refine (s_pick (n := m + 99) ((h.ext (Ext.snoc _ _)).mono (by omega)) (by omega) (lgs (by omega) (by omega))).mono fun w g1 ⟨j, e, j1, j2, f1, u1⟩ => ?_
  subst e
  have f1' := (Fr.snoc (p := p) g (O.lst [W.int 1, W.int 4, W.int 41])).trans f1
  have hL : IL g1 g.length [1, 4, 41] := IL.fr (lst_new _ _) f1 (by omega)
  rw [ok_ix hL j1 (by simp; omega)]
  have hfar : ∃ far : Int, ([1, 4, 41] : List Int).getD j.toNat 0 = far ∧ 1 ≤ far ∧ far ≤ 41 := ⟨_, rfl, by
    have : ∀ x ∈ ([1, 4, 41] : List Int), 1 ≤ x ∧ x ≤ 41 := by decide
    exact this _ (getD_mem (by simp; omega))⟩
  obtain ⟨far, hfe, hf1, hf2⟩ := hfar
  rw [hfe]
  refine ⟨by decide, by decide, ?_⟩
  have hl1 := f1'.1
  have hgl := lt_of_lst hL
  generalize hg2 : g1 ++ [O.lst []] = g2
  have u2 : PU g2 p (m + 99) := by rw [← hg2]; exact u1.ext (Ext.snoc _ _)
  have hN2 : g2[g1.length]? = some (.lst []) := by rw [← hg2]; exact get_new _ _
  have f2 : Fr p g g2 := by rw [← hg2]; exact f1'.trans (Fr.snoc _ _)
  rw [ok_gTup2 (tup_new _ _)]
  have f3 := f2.trans (Fr.snoc g2 (.tup [.int far, .ref g1.length]))
  have u3 := u2.ext (Ext.snoc g2 (.tup [.int far, .ref g1.length]))
  have hN3 := (Ext.snoc g2 (.tup [.int far, .ref g1.length])).get hN2
  generalize g2 ++ [O.tup [.int far, .ref g1.length]] = g3 at *
  simp only [ok_def, okS_seq, okS_ret, okS_asg, okS_if, okS_E, okS_par, okS_aug, okS_nop, nxt_nx, nxt_rt, okS_brk, okS_cnt, ok_var, ok_C, ok_op2, ok_op1, ok_call, ok_acons, ok_anil, ok_lst, ok_tup, ok_tVal, ok_mAnd, ok_mOr, ok_mNot, ok_if, ok_tNot, ok_tAnd, ok_tOr, ok_tYes, ok_chain, ok_star, ok_gName, ok_oNone, ok_oSome, ok_sl, ok_rev, ok_mt, ok_ok, ok_lc, okS_for, putL, wipe, startM, List.map_cons, List.map_nil, List.length_cons, List.length_nil, List.replicate, List.cons_append, List.nil_append, Nat.reduceAdd, Nat.reduceSub, List.getElem?_cons_zero, List.getElem?_cons_succ, List.set_cons_succ, List.set_cons_zero, Option.some.injEq, W.bl.injEq, W.int.injEq, W.ref.injEq, exists_eq_left', exists_eq_left, decide_eq_true_eq, true_and, and_true, ok_add, ok_sub, ok_lt, ok_le, ok_gt, ok_ge, ok_neg, ok_mul, ok_div, ok_mod, ok_pow, ok_max2, ok_min2, ok_abs, ok_int, ok_iLst, ok_iTup, ok_iEnum, ok_iZip, ok_iRng1, exists_list1, List.cons.injEq, exists_and_left, exists_const, exists_eq, if_true, if_false, Bool.not_true, Bool.not_false, Bool.false_eq_true, decide_true, decide_false]
  refine (s_pick (n := m + 98) (u3.mono (by omega)) (by omega) (lgs (by omega) (by omega))).mono fun w g4 ⟨sz, e, z1, z2, f4, u4⟩ => ?_
  subst e
  rw [ok_add]
  obtain ⟨n, hn⟩ : ∃ n : Nat, 1 + sz = n := ⟨(1 + sz).toNat, by omega⟩
  rw [hn]
  refine ⟨_, rfl, inR_le (by omega) (by omega), ?_⟩
  rw [Int.toNat_natCast]
  have hN4 := f4.get hN3 (by omega)
  refine forGo_inv n (fun i ρ k => ∃ (r1 r4 : Option W) (ls : List Int), ρ = [some (.ref p), r1, some (.int far), some (.ref g1.length), r4] ∧ Fr p g k ∧ PU k p (m + 30 + (n - i)) ∧ k[g1.length]? = some (.lst (ls.map .int)) ∧ ls.length = i ∧ ∀ q, q < ls.length → 0 ≤ ls.getD q 0 ∧ ls.getD q 0 ≤ 40 + q) (fun i ρ k hi hp => ?_) (fun ρ k hp => ?_) _ 0 _ _ (Nat.zero_add _) ⟨_, _, [], rfl, f3.trans f4, u4.mono (by omega), hN4, rfl, fun q hq => (nomatch hq)⟩
  · obtain ⟨r1, r4, ls, rfl, f, u, hk, hll, hgood⟩ := hp
    refine ⟨_, _, rng_at hi, ?_⟩
    simp only [ok_def, okS_seq, okS_ret, okS_asg, okS_if, okS_E, okS_par, okS_aug, okS_nop, nxt_nx, nxt_rt, okS_brk, okS_cnt, ok_var, ok_C, ok_op2, ok_op1, ok_call, ok_acons, ok_anil, ok_lst, ok_tup, ok_tVal, ok_mAnd, ok_mOr, ok_mNot, ok_if, ok_tNot, ok_tAnd, ok_tOr, ok_tYes, ok_chain, ok_star, ok_gName, ok_oNone, ok_oSome, ok_sl, ok_rev, ok_mt, ok_ok, ok_lc, okS_for, putL, wipe, startM, List.map_cons, List.map_nil, List.length_cons, List.length_nil, List.replicate, List.cons_append, List.nil_append, Nat.reduceAdd, Nat.reduceSub, List.getElem?_cons_zero, List.getElem?_cons_succ, List.set_cons_succ, List.set_cons_zero, Option.some.injEq, W.bl.injEq, W.int.injEq, W.ref.injEq, exists_eq_left', exists_eq_left, decide_eq_true_eq, true_and, and_true, ok_add, ok_sub, ok_lt, ok_le, ok_gt, ok_ge, ok_neg, ok_mul, ok_div, ok_mod, ok_pow, ok_max2, ok_min2, ok_abs, ok_int, ok_iLst, ok_iTup, ok_iEnum, ok_iZip, ok_iRng1, exists_list1, List.cons.injEq, exists_and_left, exists_const, exists_eq, if_true, if_false, Bool.not_true, Bool.not_false, Bool.false_eq_true, decide_true, decide_false]
    refine ⟨isL_of (lstAt_of hk), ?_⟩
    refine (s_pick (n := m + 30 + (n - (i + 1))) (u.mono (by omega)) (by omega) (lgs (by omega) (by omega))).mono fun w k1 ⟨t, e, t1, t2, fa, ua⟩ => ?_
    subst e
    have hk1 := fa.get hk (by omega)
    rw [ok_sub, ok_append hk1 (Nat.lt_of_le_of_lt (show _ ≤ 20 by simp; omega) (by decide))]
    refine ⟨_, _, ⟨rfl, rfl⟩, (f.trans fa).setNew (by omega) _, ua.set (by omega) _, ls ++ [40 + (0 + (i : Int)) - t], ?_, by simp [hll], fun q hq => ?_⟩
    · rw [List.getElem?_set_self (lt_of_get hk1)]; simp
    · rw [List.length_append, List.length_singleton] at hq
      by_cases hq2 : q < ls.length
      · have := hgood q hq2
        rw [List.getD_eq_getElem?_getD, List.getElem?_append_left hq2, ← List.getD_eq_getElem?_getD]
        exact this
      · have : q = ls.length := by omega
        subst this
        rw [List.getD_eq_getElem?_getD, List.getElem?_append_right (Nat.le_refl _)]
        simp
        omega
  · obtain ⟨r1, r4, ls, rfl, f, u, hk, hll, hgood⟩ := hp
    refine ⟨rng_stop (Nat.le_refl _), ?_⟩
    simp only [ok_def, okS_seq, okS_ret, okS_asg, okS_if, okS_E, okS_par, okS_aug, okS_nop, nxt_nx, nxt_rt, okS_brk, okS_cnt, ok_var, ok_C, ok_op2, ok_op1, ok_call, ok_acons, ok_anil, ok_lst, ok_tup, ok_tVal, ok_mAnd, ok_mOr, ok_mNot, ok_if, ok_tNot, ok_tAnd, ok_tOr, ok_tYes, ok_chain, ok_star, ok_gName, ok_oNone, ok_oSome, ok_sl, ok_rev, ok_mt, ok_ok, ok_lc, okS_for, putL, wipe, startM, List.map_cons, List.map_nil, List.length_cons, List.length_nil, List.replicate, List.cons_append, List.nil_append, Nat.reduceAdd, Nat.reduceSub, List.getElem?_cons_zero, List.getElem?_cons_succ, List.set_cons_succ, List.set_cons_zero, Option.some.injEq, W.bl.injEq, W.int.injEq, W.ref.injEq, exists_eq_left', exists_eq_left, decide_eq_true_eq, true_and, and_true, ok_add, ok_sub, ok_lt, ok_le, ok_gt, ok_ge, ok_neg, ok_mul, ok_div, ok_mod, ok_pow, ok_max2, ok_min2, ok_abs, ok_int, ok_iLst, ok_iTup, ok_iEnum, ok_iZip, ok_iRng1, exists_list1, List.cons.injEq, exists_and_left, exists_const, exists_eq, if_true, if_false, Bool.not_true, Bool.not_false, Bool.false_eq_true, decide_true, decide_false]
    rw [ok_len (lstAt_of hk)]
    refine ⟨_, rfl, inR_le (by omega) (by omega), ?_⟩
    rw [Int.toNat_natCast]
    refine lc_pops (p := p) (K := m) (ls := ls) (L := g1.length) (by omega) (u.mono (by omega)) hk (by omega) rfl (fun v => rfl) (fun v => rfl) (fun g6 cs z f6 hL6 u6 hd6 pm => ?_)
    have := f.1
    exact ⟨_, rfl, by omega, lt_of_get hd6, f.unset (by omega) f6, u6, cs, lstAt_of hd6, team_high (by omega) (by omega) hgood pm⟩
end M
/-! K32b: rising lists, crowds, papers. -/
namespace M
theorem filterMap_ite {α : Type} (p : α → Bool) (f : α → W) (l : List α) : l.filterMap (fun x => if p x = true then some (f x) else none) = (l.filter p).map f := by
  induction l with
  | nil => rfl
  | cons a l ih =>
    rw [List.filterMap_cons, List.filter_cons]
    by_cases q : p a = true
    · simp [q, ih]
    · simp [q, ih]
theorem range_getD (ns : List Int) : (List.range ns.length).map (fun i => ns.getD i 0) = ns := by
  refine List.ext_getElem (by simp) fun i h1 h2 => ?_
  simp [List.getD_eq_getElem?_getD, List.getElem?_eq_getElem h2]
/-- [x for x in xs if p(x)] -/
theorem lc_filter {a s : Nat} {ns : List Int} {p : Int → Bool} {ρ : Env} {g : G} {tt : MT} {Q : W → G → Prop} (h : IL g a ns) (hs : ns.length ≤ SZ) (hv : ∀ v, (ρ.set s v)[s]? = some v)
    (step : ∀ x g', x ∈ ns → Ext g g' → Ok (tt (ρ.set s (some (.int x))) g') fun k g3 => Ext g' g3 ∧ k = p x)
    (q : ∀ g2, Ext g g2 → IL g2 g.length (ns.filter p) → g2[g.length]? = some (.lst ((ns.filter p).map .int)) → Q (.ref g.length) g2) :
    Ok (lcGo (.lst a) (gName s) tt (mVar s) ρ g.length (itLen (.lst a) g) 0 (g ++ [.lst []])) Q := by
  refine lc_map ns.length (fun i => if p (ns.getD i 0) = true then some (.int (ns.getD i 0)) else none) hs h.itl (fun i g' hi hx _ => ?_) (fun g' hx _ => (h.ext hx).stop) fun g2 hx hg => ?_
  · refine ⟨_, _, (h.ext hx).at hi, ?_⟩
    rw [ok_gName]
    refine (step _ g' (getD_mem hi) hx).mono fun k g3 ⟨hx3, e⟩ => ?_
    subst e
    split
    · rename_i hk
      rw [ok_var]
      exact ⟨_, hv _, hx3, rfl⟩
    · exact ⟨hx3, rfl⟩
  · have e : (List.range ns.length).filterMap (fun i => if p (ns.getD i 0) = true then some (W.int (ns.getD i 0)) else none) = (ns.filter p).map .int := by
      have h1 := filterMap_ite p W.int ns
      rw [← h1]
      conv => rhs; rw [← range_getD ns]
      rw [List.filterMap_map]
      rfl
    rw [e] at hg
    exact q g2 hx (lstAt_of hg) hg
/-- [k for k in range(n) if p(k)] -/
theorem lc_filterR {n s : Nat} {p : Nat → Bool} {ρ : Env} {g : G} {tt : MT} {Q : W → G → Prop} (hs : n ≤ SZ) (hv : ∀ v, (ρ.set s v)[s]? = some v)
    (step : ∀ (k : Nat) g', k < n → Ext g g' → Ok (tt (ρ.set s (some (.int (k : Int)))) g') fun b g3 => Ext g' g3 ∧ b = p k)
    (q : ∀ g2, Ext g g2 → IL g2 g.length (((List.range n).filter p).map fun k : Nat => (k : Int)) → g2[g.length]? = some (.lst ((((List.range n).filter p).map fun k : Nat => (k : Int)).map .int)) → Q (.ref g.length) g2) :
    Ok (lcGo (.rng 0 n) (gName s) tt (mVar s) ρ g.length (itLen (.rng 0 n) g) 0 (g ++ [.lst []])) Q := by
  refine lc_map n (fun i => if p i = true then some (.int (i : Int)) else none) hs rfl (fun i g' hi hx _ => ?_) (fun g' hx _ => rng_stop (Nat.le_refl _)) fun g2 hx hg => ?_
  · refine ⟨_, _, rng_at hi, ?_⟩
    have e0 : (0 : Int) + i = i := by omega
    rw [ok_gName, e0]
    refine (step i g' hi hx).mono fun k g3 ⟨hx3, e⟩ => ?_
    subst e
    split
    · rename_i hk
      rw [ok_var]
      exact ⟨_, hv _, hx3, rfl⟩
    · exact ⟨hx3, rfl⟩
  · rw [filterMap_ite p (fun i : Nat => W.int (i : Int)) (List.range n)] at hg
    have e : ((List.range n).filter p).map (fun i : Nat => W.int (i : Int)) = (((List.range n).filter p).map fun k : Nat => (k : Int)).map .int := by rw [List.map_map]; rfl
    rw [e] at hg
    exact q g2 hx (lstAt_of hg) hg
theorem s_is_integer (g : G) (i : Int) : m_is_integer [.int i] g = .ok (.bl true) g := rfl
theorem okI_is_integer {g : G} {i : Int} {Q : W → G → Prop} : Ok (m_is_integer [.int i] g) Q ↔ Q (.bl true) g := by rw [s_is_integer, ok_ok]
theorem ok_isiL {g : G} {a : Nat} {ns : List Int} {Q : W → G → Prop} (h : IL g a ns) : Ok (bIsi [.ref a, .ty "list"] g) Q ↔ Q (.bl true) g := by
  have : tyOf g (.ref a) = some "list" := by
    unfold IL lstAt at h
    unfold tyOf
    split at h
    · rename_i q; dsimp only; rw [q]
    · rename_i q; dsimp only; rw [q]
    · cases h
  unfold bIsi
  dsimp only
  rw [this]
  exact ok_ok
theorem ok_all {g : G} {a n : Nat} {Q : W → G → Prop} (h : g[a]? = some (.lst ((List.range n).map fun _ => W.bl true))) : Ok (bAll [.ref a] g) Q ↔ Q (.bl true) g := by
  unfold bAll
  dsimp only
  rw [lstAt_of h]
  dsimp only
  have : (List.range n).map (fun _ => W.bl true) = ((List.range n).map fun _ => true).map .bl := by simp
  rw [this, bools_map]
  dsimp only
  rw [ok_ok, show (((List.range n).map fun _ => true).all id) = true from by rw [List.all_eq_true]; intro x hx; obtain ⟨_, _, rfl⟩ := List.mem_map.mp hx; rfl]
theorem s_spare_by {g : G} {a : Nat} {ns : List Int} (h : IL g a ns) (hs : ns.length ≤ SZ) : Ok (m_spare_by [.ref a] g) fun w g' => Ext g g' ∧ ∃ b, w = .ref b ∧ g.length ≤ b ∧ IL g' b (spare ns) := by
  unfold m_spare_by b_spare_by
  simp only [ok_def, okS_seq, okS_ret, okS_asg, okS_if, okS_E, okS_par, okS_aug, okS_nop, nxt_nx, nxt_rt, okS_brk, okS_cnt, ok_var, ok_C, ok_op2, ok_op1, ok_call, ok_acons, ok_anil, ok_lst, ok_tup, ok_tVal, ok_mAnd, ok_mOr, ok_mNot, ok_if, ok_tNot, ok_tAnd, ok_tOr, ok_tYes, ok_chain, ok_star, ok_gName, ok_oNone, ok_oSome, ok_sl, ok_rev, ok_mt, ok_ok, ok_lc, okS_for, putL, wipe, startM, List.map_cons, List.map_nil, List.length_cons, List.length_nil, List.replicate, List.cons_append, List.nil_append, Nat.reduceAdd, Nat.reduceSub, List.getElem?_cons_zero, List.getElem?_cons_succ, List.set_cons_succ, List.set_cons_zero, Option.some.injEq, W.bl.injEq, W.int.injEq, W.ref.injEq, exists_eq_left', exists_eq_left, decide_eq_true_eq, true_and, and_true, ok_add, ok_sub, ok_lt, ok_le, ok_gt, ok_ge, ok_neg, ok_mul, ok_div, ok_mod, ok_pow, ok_max2, ok_min2, ok_abs, ok_int, ok_iLst, ok_iTup, ok_iEnum, ok_iZip, ok_iRng1, exists_list1, List.cons.injEq, exists_and_left, exists_const, exists_eq, if_true, if_false, Bool.not_true, Bool.not_false, Bool.false_eq_true, decide_true, decide_false]
  refine ⟨_, h, ?_⟩
  refine lc_ints ns.length (fun i => .int (ns.getD i 0 - i)) hs h.itl_enum (fun i g' hi hx => ?_) (fun g' hx => (h.ext hx).stop_enum) fun g2 hx hg => ?_
  · refine ⟨_, _, (h.ext hx).at_enum hi, ?_⟩
    rw [ok_gTup2 (tup_new _ _)]
    simp only [ok_def, okS_seq, okS_ret, okS_asg, okS_if, okS_E, okS_par, okS_aug, okS_nop, nxt_nx, nxt_rt, okS_brk, okS_cnt, ok_var, ok_C, ok_op2, ok_op1, ok_call, ok_acons, ok_anil, ok_lst, ok_tup, ok_tVal, ok_mAnd, ok_mOr, ok_mNot, ok_if, ok_tNot, ok_tAnd, ok_tOr, ok_tYes, ok_chain, ok_star, ok_gName, ok_oNone, ok_oSome, ok_sl, ok_rev, ok_mt, ok_ok, ok_lc, okS_for, putL, wipe, startM, List.map_cons, List.map_nil, List.length_cons, List.length_nil, List.replicate, List.cons_append, List.nil_append, Nat.reduceAdd, Nat.reduceSub, List.getElem?_cons_zero, List.getElem?_cons_succ, List.set_cons_succ, List.set_cons_zero, Option.some.injEq, W.bl.injEq, W.int.injEq, W.ref.injEq, exists_eq_left', exists_eq_left, decide_eq_true_eq, true_and, and_true, ok_add, ok_sub, ok_lt, ok_le, ok_gt, ok_ge, ok_neg, ok_mul, ok_div, ok_mod, ok_pow, ok_max2, ok_min2, ok_abs, ok_int, ok_iLst, ok_iTup, ok_iEnum, ok_iZip, ok_iRng1, exists_list1, List.cons.injEq, exists_and_left, exists_const, exists_eq, if_true, if_false, Bool.not_true, Bool.not_false, Bool.false_eq_true, decide_true, decide_false]
    exact Ext.snoc _ _
  · exact ⟨hx, _, rfl, Nat.le_refl _, lstAt_of (by rw [hg, spare, List.map_map]; rfl)⟩
theorem s_is_team {g : G} {a : Nat} {ns : List Int} (h : IL g a ns) (t : Team ns) : Ok (m_is_team [.ref a] g) fun w g' => Ext g g' ∧ w = .bl true := by
  obtain ⟨t1, t2, t3, t4⟩ := t
  have hS : ns.length ≤ SZ := Nat.le_trans t2 (by decide)
  unfold m_is_team b_is_team
  simp only [ok_def, okS_seq, okS_ret, okS_asg, okS_if, okS_E, okS_par, okS_aug, okS_nop, nxt_nx, nxt_rt, okS_brk, okS_cnt, ok_var, ok_C, ok_op2, ok_op1, ok_call, ok_acons, ok_anil, ok_lst, ok_tup, ok_tVal, ok_mAnd, ok_mOr, ok_mNot, ok_if, ok_tNot, ok_tAnd, ok_tOr, ok_tYes, ok_chain, ok_star, ok_gName, ok_oNone, ok_oSome, ok_sl, ok_rev, ok_mt, ok_ok, ok_lc, okS_for, putL, wipe, startM, List.map_cons, List.map_nil, List.length_cons, List.length_nil, List.replicate, List.cons_append, List.nil_append, Nat.reduceAdd, Nat.reduceSub, List.getElem?_cons_zero, List.getElem?_cons_succ, List.set_cons_succ, List.set_cons_zero, Option.some.injEq, W.bl.injEq, W.int.injEq, W.ref.injEq, exists_eq_left', exists_eq_left, decide_eq_true_eq, true_and, and_true, ok_add, ok_sub, ok_lt, ok_le, ok_gt, ok_ge, ok_neg, ok_mul, ok_div, ok_mod, ok_pow, ok_max2, ok_min2, ok_abs, ok_int, ok_iLst, ok_iTup, ok_iEnum, ok_iZip, ok_iRng1, exists_list1, List.cons.injEq, exists_and_left, exists_const, exists_eq, if_true, if_false, Bool.not_true, Bool.not_false, Bool.false_eq_true, decide_true, decide_false, ok_isiL h, ok_len h, show (1 : Int) ≤ ns.length by omega, show (ns.length : Int) ≤ 20 by omega]
  refine ⟨_, h, ?_⟩
  refine lc_ints ns.length (fun i => .bl true) hS h.itl (fun i g' hi hx => ?_) (fun g' hx => (h.ext hx).stop) fun g2 hx hg => ?_
  · refine ⟨_, _, (h.ext hx).at hi, ?_⟩
    simp only [ok_def, okS_seq, okS_ret, okS_asg, okS_if, okS_E, okS_par, okS_aug, okS_nop, nxt_nx, nxt_rt, okS_brk, okS_cnt, ok_var, ok_C, ok_op2, ok_op1, ok_call, ok_acons, ok_anil, ok_lst, ok_tup, ok_tVal, ok_mAnd, ok_mOr, ok_mNot, ok_if, ok_tNot, ok_tAnd, ok_tOr, ok_tYes, ok_chain, ok_star, ok_gName, ok_oNone, ok_oSome, ok_sl, ok_rev, ok_mt, ok_ok, ok_lc, okS_for, putL, wipe, startM, List.map_cons, List.map_nil, List.length_cons, List.length_nil, List.replicate, List.cons_append, List.nil_append, Nat.reduceAdd, Nat.reduceSub, List.getElem?_cons_zero, List.getElem?_cons_succ, List.set_cons_succ, List.set_cons_zero, Option.some.injEq, W.bl.injEq, W.int.injEq, W.ref.injEq, exists_eq_left', exists_eq_left, decide_eq_true_eq, true_and, and_true, ok_add, ok_sub, ok_lt, ok_le, ok_gt, ok_ge, ok_neg, ok_mul, ok_div, ok_mod, ok_pow, ok_max2, ok_min2, ok_abs, ok_int, ok_iLst, ok_iTup, ok_iEnum, ok_iZip, ok_iRng1, exists_list1, List.cons.injEq, exists_and_left, exists_const, exists_eq, if_true, if_false, Bool.not_true, Bool.not_false, Bool.false_eq_true, decide_true, decide_false, okI_is_integer]
    exact ⟨Ext.refl _, t3 _ (getD_mem hi)⟩
  · rw [ok_all hg]
    refine ⟨_, rfl, ?_⟩
    simp only [ok_def, okS_seq, okS_ret, okS_asg, okS_if, okS_E, okS_par, okS_aug, okS_nop, nxt_nx, nxt_rt, okS_brk, okS_cnt, ok_var, ok_C, ok_op2, ok_op1, ok_call, ok_acons, ok_anil, ok_lst, ok_tup, ok_tVal, ok_mAnd, ok_mOr, ok_mNot, ok_if, ok_tNot, ok_tAnd, ok_tOr, ok_tYes, ok_chain, ok_star, ok_gName, ok_oNone, ok_oSome, ok_sl, ok_rev, ok_mt, ok_ok, ok_lc, okS_for, putL, wipe, startM, List.map_cons, List.map_nil, List.length_cons, List.length_nil, List.replicate, List.cons_append, List.nil_append, Nat.reduceAdd, Nat.reduceSub, List.getElem?_cons_zero, List.getElem?_cons_succ, List.set_cons_succ, List.set_cons_zero, Option.some.injEq, W.bl.injEq, W.int.injEq, W.ref.injEq, exists_eq_left', exists_eq_left, decide_eq_true_eq, true_and, and_true, ok_add, ok_sub, ok_lt, ok_le, ok_gt, ok_ge, ok_neg, ok_mul, ok_div, ok_mod, ok_pow, ok_max2, ok_min2, ok_abs, ok_int, ok_iLst, ok_iTup, ok_iEnum, ok_iZip, ok_iRng1, exists_list1, List.cons.injEq, exists_and_left, exists_const, exists_eq, if_true, if_false, Bool.not_true, Bool.not_false, Bool.false_eq_true, decide_true, decide_false, ok_sorted (h.ext hx)]
    refine (s_spare_by (IL.new (get_new _ _)) (by rw [isort_len]; exact hS)).mono fun w g3 ⟨hx3, b, e, _, hb⟩ => ?_
    subst e
    have hne : spare (isort ns) ≠ [] := by intro e; have := spare_len (isort ns); rw [e, isort_len] at this; simp at this; omega
    simp only [ok_maxL hb hne, ok_def, okS_seq, okS_ret, okS_asg, okS_if, okS_E, okS_par, okS_aug, okS_nop, nxt_nx, nxt_rt, okS_brk, okS_cnt, ok_var, ok_C, ok_op2, ok_op1, ok_call, ok_acons, ok_anil, ok_lst, ok_tup, ok_tVal, ok_mAnd, ok_mOr, ok_mNot, ok_if, ok_tNot, ok_tAnd, ok_tOr, ok_tYes, ok_chain, ok_star, ok_gName, ok_oNone, ok_oSome, ok_sl, ok_rev, ok_mt, ok_ok, ok_lc, okS_for, putL, wipe, startM, List.map_cons, List.map_nil, List.length_cons, List.length_nil, List.replicate, List.cons_append, List.nil_append, Nat.reduceAdd, Nat.reduceSub, List.getElem?_cons_zero, List.getElem?_cons_succ, List.set_cons_succ, List.set_cons_zero, Option.some.injEq, W.bl.injEq, W.int.injEq, W.ref.injEq, exists_eq_left', exists_eq_left, decide_eq_true_eq, true_and, and_true, ok_add, ok_sub, ok_lt, ok_le, ok_gt, ok_ge, ok_neg, ok_mul, ok_div, ok_mod, ok_pow, ok_max2, ok_min2, ok_abs, ok_int, ok_iLst, ok_iTup, ok_iEnum, ok_iZip, ok_iRng1, exists_list1, List.cons.injEq, exists_and_left, exists_const, exists_eq, if_true, if_false, Bool.not_true, Bool.not_false, Bool.false_eq_true, decide_true, decide_false]
    exact ⟨(hx.trans (Ext.snoc _ _)).trans hx3, t4⟩
theorem s_need_team {g : G} {a : Nat} {ns : List Int} (h : IL g a ns) (t : Team ns) : Ok (m_need_team [.ref a] g) fun w g' => Ext g g' := by
  unfold m_need_team b_need_team
  simp only [ok_def, okS_seq, okS_ret, okS_asg, okS_if, okS_E, okS_par, okS_aug, okS_nop, nxt_nx, nxt_rt, okS_brk, okS_cnt, ok_var, ok_C, ok_op2, ok_op1, ok_call, ok_acons, ok_anil, ok_lst, ok_tup, ok_tVal, ok_mAnd, ok_mOr, ok_mNot, ok_if, ok_tNot, ok_tAnd, ok_tOr, ok_tYes, ok_chain, ok_star, ok_gName, ok_oNone, ok_oSome, ok_sl, ok_rev, ok_mt, ok_ok, ok_lc, okS_for, putL, wipe, startM, List.map_cons, List.map_nil, List.length_cons, List.length_nil, List.replicate, List.cons_append, List.nil_append, Nat.reduceAdd, Nat.reduceSub, List.getElem?_cons_zero, List.getElem?_cons_succ, List.set_cons_succ, List.set_cons_zero, Option.some.injEq, W.bl.injEq, W.int.injEq, W.ref.injEq, exists_eq_left', exists_eq_left, decide_eq_true_eq, true_and, and_true, ok_add, ok_sub, ok_lt, ok_le, ok_gt, ok_ge, ok_neg, ok_mul, ok_div, ok_mod, ok_pow, ok_max2, ok_min2, ok_abs, ok_int, ok_iLst, ok_iTup, ok_iEnum, ok_iZip, ok_iRng1, exists_list1, List.cons.injEq, exists_and_left, exists_const, exists_eq, if_true, if_false, Bool.not_true, Bool.not_false, Bool.false_eq_true, decide_true, decide_false]
  refine (s_is_team h t).mono fun w g' ⟨hx, e⟩ => ?_
  subst e
  refine ⟨_, rfl, ?_⟩
  simp only [ok_def, okS_seq, okS_ret, okS_asg, okS_if, okS_E, okS_par, okS_aug, okS_nop, nxt_nx, nxt_rt, okS_brk, okS_cnt, ok_var, ok_C, ok_op2, ok_op1, ok_call, ok_acons, ok_anil, ok_lst, ok_tup, ok_tVal, ok_mAnd, ok_mOr, ok_mNot, ok_if, ok_tNot, ok_tAnd, ok_tOr, ok_tYes, ok_chain, ok_star, ok_gName, ok_oNone, ok_oSome, ok_sl, ok_rev, ok_mt, ok_ok, ok_lc, okS_for, putL, wipe, startM, List.map_cons, List.map_nil, List.length_cons, List.length_nil, List.replicate, List.cons_append, List.nil_append, Nat.reduceAdd, Nat.reduceSub, List.getElem?_cons_zero, List.getElem?_cons_succ, List.set_cons_succ, List.set_cons_zero, Option.some.injEq, W.bl.injEq, W.int.injEq, W.ref.injEq, exists_eq_left', exists_eq_left, decide_eq_true_eq, true_and, and_true, ok_add, ok_sub, ok_lt, ok_le, ok_gt, ok_ge, ok_neg, ok_mul, ok_div, ok_mod, ok_pow, ok_max2, ok_min2, ok_abs, ok_int, ok_iLst, ok_iTup, ok_iEnum, ok_iZip, ok_iRng1, exists_list1, List.cons.injEq, exists_and_left, exists_const, exists_eq, if_true, if_false, Bool.not_true, Bool.not_false, Bool.false_eq_true, decide_true, decide_false]
  exact hx
/-- a rising list of numbers below n -/
def Rise (n : Int) (gs : List Int) : Prop := gs.Pairwise (· < ·) ∧ gs.length ≤ 20 ∧ ∀ x ∈ gs, 0 ≤ x ∧ x < n
theorem cut_map {α β : Type} (f : α → β) (xs : List α) (lo hi : Option Int) : cut (xs.map f) lo hi = (cut xs lo hi).map f := by
  unfold cut
  rw [List.length_map, List.map_take, List.map_drop]
theorem cut_sub {α : Type} (xs : List α) (lo hi : Option Int) : (cut xs lo hi).Sublist xs := (List.take_sublist _ _).trans (List.drop_sublist _ _)
theorem IL.stop_zip2 {g : G} {a b i : Nat} {ns ms : List Int} (h : IL g a ns) (h' : IL g b ms) (e : ms.length ≤ i) : itAt (.zip a b) i g = .stop := by
  unfold itAt
  dsimp only
  rw [show lstAt g a = some (ns.map .int) from h, show lstAt g b = some (ms.map .int) from h']
  dsimp only
  rw [List.getElem?_eq_none (l := ms.map W.int) (by simpa using e)]
  split
  · rename_i q; cases q
  · rfl
theorem IL.itl_zip2 {g : G} {a b : Nat} {ns ms : List Int} (h : IL g a ns) (h' : IL g b ms) (e : ms.length ≤ ns.length) : itLen (.zip a b) g = ms.length := by
  unfold itLen
  dsimp only
  rw [show lstAt g a = some (ns.map .int) from h, show lstAt g b = some (ms.map .int) from h']
  simp [e]
theorem s_is_rising {g : G} {a : Nat} {gs : List Int} {most n : Int} (h : IL g a gs) (r : Rise n gs) (hm : (gs.length : Int) ≤ most) : Ok (m_is_rising [.ref a, .int most, .int (n - 1)] g) fun w g' => Ext g g' ∧ w = .bl true := by
  obtain ⟨r1, r2, r3⟩ := r
  have hS : gs.length ≤ SZ := Nat.le_trans r2 (by decide)
  unfold m_is_rising b_is_rising
  simp only [ok_def, okS_seq, okS_ret, okS_asg, okS_if, okS_E, okS_par, okS_aug, okS_nop, nxt_nx, nxt_rt, okS_brk, okS_cnt, ok_var, ok_C, ok_op2, ok_op1, ok_call, ok_acons, ok_anil, ok_lst, ok_tup, ok_tVal, ok_mAnd, ok_mOr, ok_mNot, ok_if, ok_tNot, ok_tAnd, ok_tOr, ok_tYes, ok_chain, ok_star, ok_gName, ok_oNone, ok_oSome, ok_sl, ok_rev, ok_mt, ok_ok, ok_lc, okS_for, putL, wipe, startM, List.map_cons, List.map_nil, List.length_cons, List.length_nil, List.replicate, List.cons_append, List.nil_append, Nat.reduceAdd, Nat.reduceSub, List.getElem?_cons_zero, List.getElem?_cons_succ, List.set_cons_succ, List.set_cons_zero, Option.some.injEq, W.bl.injEq, W.int.injEq, W.ref.injEq, exists_eq_left', exists_eq_left, decide_eq_true_eq, true_and, and_true, ok_add, ok_sub, ok_lt, ok_le, ok_gt, ok_ge, ok_neg, ok_mul, ok_div, ok_mod, ok_pow, ok_max2, ok_min2, ok_abs, ok_int, ok_iLst, ok_iTup, ok_iEnum, ok_iZip, ok_iRng1, exists_list1, List.cons.injEq, exists_and_left, exists_const, exists_eq, if_true, if_false, Bool.not_true, Bool.not_false, Bool.false_eq_true, decide_true, decide_false, ok_isiL h, ok_len h, show ¬ most < (gs.length : Int) by omega]
  refine ⟨_, h, ?_⟩
  refine lc_ints gs.length (fun i => .bl true) hS h.itl (fun i g' hi hx => ?_) (fun g' hx => (h.ext hx).stop) fun g2 hx hg => ?_
  · refine ⟨_, _, (h.ext hx).at hi, ?_⟩
    have := r3 _ (getD_mem hi)
    simp only [ok_def, okS_seq, okS_ret, okS_asg, okS_if, okS_E, okS_par, okS_aug, okS_nop, nxt_nx, nxt_rt, okS_brk, okS_cnt, ok_var, ok_C, ok_op2, ok_op1, ok_call, ok_acons, ok_anil, ok_lst, ok_tup, ok_tVal, ok_mAnd, ok_mOr, ok_mNot, ok_if, ok_tNot, ok_tAnd, ok_tOr, ok_tYes, ok_chain, ok_star, ok_gName, ok_oNone, ok_oSome, ok_sl, ok_rev, ok_mt, ok_ok, ok_lc, okS_for, putL, wipe, startM, List.map_cons, List.map_nil, List.length_cons, List.length_nil, List.replicate, List.cons_append, List.nil_append, Nat.reduceAdd, Nat.reduceSub, List.getElem?_cons_zero, List.getElem?_cons_succ, List.set_cons_succ, List.set_cons_zero, Option.some.injEq, W.bl.injEq, W.int.injEq, W.ref.injEq, exists_eq_left', exists_eq_left, decide_eq_true_eq, true_and, and_true, ok_add, ok_sub, ok_lt, ok_le, ok_gt, ok_ge, ok_neg, ok_mul, ok_div, ok_mod, ok_pow, ok_max2, ok_min2, ok_abs, ok_int, ok_iLst, ok_iTup, ok_iEnum, ok_iZip, ok_iRng1, exists_list1, List.cons.injEq, exists_and_left, exists_const, exists_eq, if_true, if_false, Bool.not_true, Bool.not_false, Bool.false_eq_true, decide_true, decide_false, okI_is_integer, this.1, show gs.getD i 0 ≤ n - 1 by omega]
    exact Ext.refl _
  · rw [ok_all hg]
    refine ⟨_, rfl, ?_⟩
    have h2 := h.ext hx
    simp only [ok_def, okS_seq, okS_ret, okS_asg, okS_if, okS_E, okS_par, okS_aug, okS_nop, nxt_nx, nxt_rt, okS_brk, okS_cnt, ok_var, ok_C, ok_op2, ok_op1, ok_call, ok_acons, ok_anil, ok_lst, ok_tup, ok_tVal, ok_mAnd, ok_mOr, ok_mNot, ok_if, ok_tNot, ok_tAnd, ok_tOr, ok_tYes, ok_chain, ok_star, ok_gName, ok_oNone, ok_oSome, ok_sl, ok_rev, ok_mt, ok_ok, ok_lc, okS_for, putL, wipe, startM, List.map_cons, List.map_nil, List.length_cons, List.length_nil, List.replicate, List.cons_append, List.nil_append, Nat.reduceAdd, Nat.reduceSub, List.getElem?_cons_zero, List.getElem?_cons_succ, List.set_cons_succ, List.set_cons_zero, Option.some.injEq, W.bl.injEq, W.int.injEq, W.ref.injEq, exists_eq_left', exists_eq_left, decide_eq_true_eq, true_and, and_true, ok_add, ok_sub, ok_lt, ok_le, ok_gt, ok_ge, ok_neg, ok_mul, ok_div, ok_mod, ok_pow, ok_max2, ok_min2, ok_abs, ok_int, ok_iLst, ok_iTup, ok_iEnum, ok_iZip, ok_iRng1, exists_list1, List.cons.injEq, exists_and_left, exists_const, exists_eq, if_true, if_false, Bool.not_true, Bool.not_false, Bool.false_eq_true, decide_true, decide_false]
    refine ⟨_, h2, ?_⟩
    rw [cut_map]
    have hc : cut gs (some 1) none = gs.drop 1 := by
      unfold cut sIx
      dsimp only
      rw [if_neg (by decide)]
      by_cases q : gs.length = 0
      · rw [List.length_eq_zero_iff.mp q]; rfl
      · have e1 : min (1 : Int).toNat gs.length = 1 := by have : (1 : Int).toNat = 1 := rfl; omega
        rw [e1, List.take_of_length_le (by simp)]
    rw [hc]
    have hx3 := Ext.snoc g2 (O.lst ((gs.drop 1).map W.int))
    have h3 := h2.ext hx3
    have h4 : IL (g2 ++ [O.lst ((gs.drop 1).map W.int)]) g2.length (gs.drop 1) := lst_new _ _
    generalize g2 ++ [O.lst ((gs.drop 1).map W.int)] = g3 at *
    refine ⟨_, _, ⟨rfl, rfl⟩, _, h3, _, h4, ?_⟩
    refine lc_ints (gs.drop 1).length (fun i => .bl true) (by simp; omega) (h3.itl_zip2 h4 (by simp)) (fun i g' hi hx4 => ?_) (fun g' hx4 => (h3.ext hx4).stop_zip2 (h4.ext hx4) (Nat.le_refl _)) fun g4 hx4 hg4 => ?_
    · have hi' : i + 1 < gs.length := by simp at hi; omega
      refine ⟨_, _, (h3.ext hx4).at_zip (h4.ext hx4) (by omega) hi, ?_⟩
      rw [ok_gTup2 (tup_new _ _)]
      simp only [ok_def, okS_seq, okS_ret, okS_asg, okS_if, okS_E, okS_par, okS_aug, okS_nop, nxt_nx, nxt_rt, okS_brk, okS_cnt, ok_var, ok_C, ok_op2, ok_op1, ok_call, ok_acons, ok_anil, ok_lst, ok_tup, ok_tVal, ok_mAnd, ok_mOr, ok_mNot, ok_if, ok_tNot, ok_tAnd, ok_tOr, ok_tYes, ok_chain, ok_star, ok_gName, ok_oNone, ok_oSome, ok_sl, ok_rev, ok_mt, ok_ok, ok_lc, okS_for, putL, wipe, startM, List.map_cons, List.map_nil, List.length_cons, List.length_nil, List.replicate, List.cons_append, List.nil_append, Nat.reduceAdd, Nat.reduceSub, List.getElem?_cons_zero, List.getElem?_cons_succ, List.set_cons_succ, List.set_cons_zero, Option.some.injEq, W.bl.injEq, W.int.injEq, W.ref.injEq, exists_eq_left', exists_eq_left, decide_eq_true_eq, true_and, and_true, ok_add, ok_sub, ok_lt, ok_le, ok_gt, ok_ge, ok_neg, ok_mul, ok_div, ok_mod, ok_pow, ok_max2, ok_min2, ok_abs, ok_int, ok_iLst, ok_iTup, ok_iEnum, ok_iZip, ok_iRng1, exists_list1, List.cons.injEq, exists_and_left, exists_const, exists_eq, if_true, if_false, Bool.not_true, Bool.not_false, Bool.false_eq_true, decide_true, decide_false]
      have e : (gs.drop 1).getD i 0 = gs.getD (i + 1) 0 := by
        rw [List.getD_eq_getElem?_getD, List.getElem?_drop, List.getD_eq_getElem?_getD, Nat.add_comm]
      rw [e]
      refine ⟨Ext.snoc _ _, ?_⟩
      rw [List.getD_eq_getElem?_getD, List.getD_eq_getElem?_getD, List.getElem?_eq_getElem hi', List.getElem?_eq_getElem (by omega : i < gs.length)]
      simp only [Option.getD_some]
      exact List.pairwise_iff_getElem.mp r1 i (i + 1) (by omega) hi' (by omega)
    · rw [ok_all hg4]
      exact ⟨(hx.trans hx3).trans hx4, rfl⟩
theorem s_need_workers {g : G} {a b : Nat} {ns gs : List Int} (h : IL g a ns) (hb : IL g b gs) (r : Rise ns.length gs) : Ok (m_need_workers [.ref a, .ref b] g) fun w g' => Ext g g' := by
  have hl : (gs.length : Int) ≤ ns.length := by
    have : gs.Nodup := r.1.imp fun h => by omega
    have h2 : ∀ (m : Nat) (l : List Int), l.Pairwise (· < ·) → (∀ x ∈ l, 0 ≤ x ∧ x < m) → l.length ≤ m := by
      intro m
      induction m with
      | zero => intro l _ hx; cases l with
        | nil => simp
        | cons a l => have := hx a List.mem_cons_self; omega
      | succ m ih =>
        intro l hp hx
        rcases List.eq_nil_or_concat l with e | ⟨l', z, e⟩
        · rw [e]; simp
        · rw [List.concat_eq_append] at e
          subst e
          rw [List.pairwise_append] at hp
          have := ih l' hp.1 fun x hm => ⟨(hx x (List.mem_append_left _ hm)).1, by
            have h1 := hp.2.2 x hm z (by simp)
            have h2 := (hx z (by simp)).2
            omega⟩
          simp
          omega
    have := h2 ns.length gs r.1 r.2.2
    omega
  unfold m_need_workers b_need_workers
  simp only [ok_def, okS_seq, okS_ret, okS_asg, okS_if, okS_E, okS_par, okS_aug, okS_nop, nxt_nx, nxt_rt, okS_brk, okS_cnt, ok_var, ok_C, ok_op2, ok_op1, ok_call, ok_acons, ok_anil, ok_lst, ok_tup, ok_tVal, ok_mAnd, ok_mOr, ok_mNot, ok_if, ok_tNot, ok_tAnd, ok_tOr, ok_tYes, ok_chain, ok_star, ok_gName, ok_oNone, ok_oSome, ok_sl, ok_rev, ok_mt, ok_ok, ok_lc, okS_for, putL, wipe, startM, List.map_cons, List.map_nil, List.length_cons, List.length_nil, List.replicate, List.cons_append, List.nil_append, Nat.reduceAdd, Nat.reduceSub, List.getElem?_cons_zero, List.getElem?_cons_succ, List.set_cons_succ, List.set_cons_zero, Option.some.injEq, W.bl.injEq, W.int.injEq, W.ref.injEq, exists_eq_left', exists_eq_left, decide_eq_true_eq, true_and, and_true, ok_add, ok_sub, ok_lt, ok_le, ok_gt, ok_ge, ok_neg, ok_mul, ok_div, ok_mod, ok_pow, ok_max2, ok_min2, ok_abs, ok_int, ok_iLst, ok_iTup, ok_iEnum, ok_iZip, ok_iRng1, exists_list1, List.cons.injEq, exists_and_left, exists_const, exists_eq, if_true, if_false, Bool.not_true, Bool.not_false, Bool.false_eq_true, decide_true, decide_false, ok_len h]
  refine (s_is_rising hb r hl).mono fun w g' ⟨hx, e⟩ => ?_
  subst e
  refine ⟨_, rfl, ?_⟩
  simp only [ok_def, okS_seq, okS_ret, okS_asg, okS_if, okS_E, okS_par, okS_aug, okS_nop, nxt_nx, nxt_rt, okS_brk, okS_cnt, ok_var, ok_C, ok_op2, ok_op1, ok_call, ok_acons, ok_anil, ok_lst, ok_tup, ok_tVal, ok_mAnd, ok_mOr, ok_mNot, ok_if, ok_tNot, ok_tAnd, ok_tOr, ok_tYes, ok_chain, ok_star, ok_gName, ok_oNone, ok_oSome, ok_sl, ok_rev, ok_mt, ok_ok, ok_lc, okS_for, putL, wipe, startM, List.map_cons, List.map_nil, List.length_cons, List.length_nil, List.replicate, List.cons_append, List.nil_append, Nat.reduceAdd, Nat.reduceSub, List.getElem?_cons_zero, List.getElem?_cons_succ, List.set_cons_succ, List.set_cons_zero, Option.some.injEq, W.bl.injEq, W.int.injEq, W.ref.injEq, exists_eq_left', exists_eq_left, decide_eq_true_eq, true_and, and_true, ok_add, ok_sub, ok_lt, ok_le, ok_gt, ok_ge, ok_neg, ok_mul, ok_div, ok_mod, ok_pow, ok_max2, ok_min2, ok_abs, ok_int, ok_iLst, ok_iTup, ok_iEnum, ok_iZip, ok_iRng1, exists_list1, List.cons.injEq, exists_and_left, exists_const, exists_eq, if_true, if_false, Bool.not_true, Bool.not_false, Bool.false_eq_true, decide_true, decide_false]
  exact hx
theorem s_need_jobs {g : G} {b : Nat} {gs : List Int} (hb : IL g b gs) (r : Rise 60 gs) : Ok (m_need_jobs [.ref b] g) fun w g' => Ext g g' := by
  unfold m_need_jobs b_need_jobs
  simp only [ok_def, okS_seq, okS_ret, okS_asg, okS_if, okS_E, okS_par, okS_aug, okS_nop, nxt_nx, nxt_rt, okS_brk, okS_cnt, ok_var, ok_C, ok_op2, ok_op1, ok_call, ok_acons, ok_anil, ok_lst, ok_tup, ok_tVal, ok_mAnd, ok_mOr, ok_mNot, ok_if, ok_tNot, ok_tAnd, ok_tOr, ok_tYes, ok_chain, ok_star, ok_gName, ok_oNone, ok_oSome, ok_sl, ok_rev, ok_mt, ok_ok, ok_lc, okS_for, putL, wipe, startM, List.map_cons, List.map_nil, List.length_cons, List.length_nil, List.replicate, List.cons_append, List.nil_append, Nat.reduceAdd, Nat.reduceSub, List.getElem?_cons_zero, List.getElem?_cons_succ, List.set_cons_succ, List.set_cons_zero, Option.some.injEq, W.bl.injEq, W.int.injEq, W.ref.injEq, exists_eq_left', exists_eq_left, decide_eq_true_eq, true_and, and_true, ok_add, ok_sub, ok_lt, ok_le, ok_gt, ok_ge, ok_neg, ok_mul, ok_div, ok_mod, ok_pow, ok_max2, ok_min2, ok_abs, ok_int, ok_iLst, ok_iTup, ok_iEnum, ok_iZip, ok_iRng1, exists_list1, List.cons.injEq, exists_and_left, exists_const, exists_eq, if_true, if_false, Bool.not_true, Bool.not_false, Bool.false_eq_true, decide_true, decide_false]
  have e : (59 : Int) = 60 - 1 := by omega
  rw [e]
  refine (s_is_rising hb r (by have := r.2.1; omega)).mono fun w g' ⟨hx, e⟩ => ?_
  subst e
  refine ⟨_, rfl, ?_⟩
  simp only [ok_def, okS_seq, okS_ret, okS_asg, okS_if, okS_E, okS_par, okS_aug, okS_nop, nxt_nx, nxt_rt, okS_brk, okS_cnt, ok_var, ok_C, ok_op2, ok_op1, ok_call, ok_acons, ok_anil, ok_lst, ok_tup, ok_tVal, ok_mAnd, ok_mOr, ok_mNot, ok_if, ok_tNot, ok_tAnd, ok_tOr, ok_tYes, ok_chain, ok_star, ok_gName, ok_oNone, ok_oSome, ok_sl, ok_rev, ok_mt, ok_ok, ok_lc, okS_for, putL, wipe, startM, List.map_cons, List.map_nil, List.length_cons, List.length_nil, List.replicate, List.cons_append, List.nil_append, Nat.reduceAdd, Nat.reduceSub, List.getElem?_cons_zero, List.getElem?_cons_succ, List.set_cons_succ, List.set_cons_zero, Option.some.injEq, W.bl.injEq, W.int.injEq, W.ref.injEq, exists_eq_left', exists_eq_left, decide_eq_true_eq, true_and, and_true, ok_add, ok_sub, ok_lt, ok_le, ok_gt, ok_ge, ok_neg, ok_mul, ok_div, ok_mod, ok_pow, ok_max2, ok_min2, ok_abs, ok_int, ok_iLst, ok_iTup, ok_iEnum, ok_iZip, ok_iRng1, exists_list1, List.cons.injEq, exists_and_left, exists_const, exists_eq, if_true, if_false, Bool.not_true, Bool.not_false, Bool.false_eq_true, decide_true, decide_false]
  exact hx
def crowd (ns gs : List Int) (t : Int) : Bool := decide (t < ((gs.filter fun w => decide (ns.getD w.toNat 0 ≤ t)).length : Int))
def lack (ns ss : List Int) (t : Int) : Bool := decide ((more t ns : Int) < ((ss.filter fun s => decide (t ≤ s)).length : Int))
theorem s_crowded {g : G} {a b : Nat} {ns gs : List Int} {t : Int} (h : IL g a ns) (hb : IL g b gs) (r : Rise ns.length gs) : Ok (m_is_crowded [.ref a, .ref b, .int t] g) fun w g' => Ext g g' ∧ w = .bl (crowd ns gs t) := by
  unfold m_is_crowded b_is_crowded
  simp only [ok_def, okS_seq, okS_ret, okS_asg, okS_if, okS_E, okS_par, okS_aug, okS_nop, nxt_nx, nxt_rt, okS_brk, okS_cnt, ok_var, ok_C, ok_op2, ok_op1, ok_call, ok_acons, ok_anil, ok_lst, ok_tup, ok_tVal, ok_mAnd, ok_mOr, ok_mNot, ok_if, ok_tNot, ok_tAnd, ok_tOr, ok_tYes, ok_chain, ok_star, ok_gName, ok_oNone, ok_oSome, ok_sl, ok_rev, ok_mt, ok_ok, ok_lc, okS_for, putL, wipe, startM, List.map_cons, List.map_nil, List.length_cons, List.length_nil, List.replicate, List.cons_append, List.nil_append, Nat.reduceAdd, Nat.reduceSub, List.getElem?_cons_zero, List.getElem?_cons_succ, List.set_cons_succ, List.set_cons_zero, Option.some.injEq, W.bl.injEq, W.int.injEq, W.ref.injEq, exists_eq_left', exists_eq_left, decide_eq_true_eq, true_and, and_true, ok_add, ok_sub, ok_lt, ok_le, ok_gt, ok_ge, ok_neg, ok_mul, ok_div, ok_mod, ok_pow, ok_max2, ok_min2, ok_abs, ok_int, ok_iLst, ok_iTup, ok_iEnum, ok_iZip, ok_iRng1, exists_list1, List.cons.injEq, exists_and_left, exists_const, exists_eq, if_true, if_false, Bool.not_true, Bool.not_false, Bool.false_eq_true, decide_true, decide_false]
  refine ⟨_, hb, ?_⟩
  refine lc_filter (p := fun w => decide (ns.getD w.toNat 0 ≤ t)) hb (Nat.le_trans r.2.1 (by decide)) (fun v => rfl) (fun x g' hx hxt => ?_) fun g2 hx hl _ => ?_
  · have := r.2.2 x hx
    simp only [ok_def, okS_seq, okS_ret, okS_asg, okS_if, okS_E, okS_par, okS_aug, okS_nop, nxt_nx, nxt_rt, okS_brk, okS_cnt, ok_var, ok_C, ok_op2, ok_op1, ok_call, ok_acons, ok_anil, ok_lst, ok_tup, ok_tVal, ok_mAnd, ok_mOr, ok_mNot, ok_if, ok_tNot, ok_tAnd, ok_tOr, ok_tYes, ok_chain, ok_star, ok_gName, ok_oNone, ok_oSome, ok_sl, ok_rev, ok_mt, ok_ok, ok_lc, okS_for, putL, wipe, startM, List.map_cons, List.map_nil, List.length_cons, List.length_nil, List.replicate, List.cons_append, List.nil_append, Nat.reduceAdd, Nat.reduceSub, List.getElem?_cons_zero, List.getElem?_cons_succ, List.set_cons_succ, List.set_cons_zero, Option.some.injEq, W.bl.injEq, W.int.injEq, W.ref.injEq, exists_eq_left', exists_eq_left, decide_eq_true_eq, true_and, and_true, ok_add, ok_sub, ok_lt, ok_le, ok_gt, ok_ge, ok_neg, ok_mul, ok_div, ok_mod, ok_pow, ok_max2, ok_min2, ok_abs, ok_int, ok_iLst, ok_iTup, ok_iEnum, ok_iZip, ok_iRng1, exists_list1, List.cons.injEq, exists_and_left, exists_const, exists_eq, if_true, if_false, Bool.not_true, Bool.not_false, Bool.false_eq_true, decide_true, decide_false, ok_ix (h.ext hxt) this.1 this.2]
    exact Ext.refl _
  · simp only [ok_def, okS_seq, okS_ret, okS_asg, okS_if, okS_E, okS_par, okS_aug, okS_nop, nxt_nx, nxt_rt, okS_brk, okS_cnt, ok_var, ok_C, ok_op2, ok_op1, ok_call, ok_acons, ok_anil, ok_lst, ok_tup, ok_tVal, ok_mAnd, ok_mOr, ok_mNot, ok_if, ok_tNot, ok_tAnd, ok_tOr, ok_tYes, ok_chain, ok_star, ok_gName, ok_oNone, ok_oSome, ok_sl, ok_rev, ok_mt, ok_ok, ok_lc, okS_for, putL, wipe, startM, List.map_cons, List.map_nil, List.length_cons, List.length_nil, List.replicate, List.cons_append, List.nil_append, Nat.reduceAdd, Nat.reduceSub, List.getElem?_cons_zero, List.getElem?_cons_succ, List.set_cons_succ, List.set_cons_zero, Option.some.injEq, W.bl.injEq, W.int.injEq, W.ref.injEq, exists_eq_left', exists_eq_left, decide_eq_true_eq, true_and, and_true, ok_add, ok_sub, ok_lt, ok_le, ok_gt, ok_ge, ok_neg, ok_mul, ok_div, ok_mod, ok_pow, ok_max2, ok_min2, ok_abs, ok_int, ok_iLst, ok_iTup, ok_iEnum, ok_iZip, ok_iRng1, exists_list1, List.cons.injEq, exists_and_left, exists_const, exists_eq, if_true, if_false, Bool.not_true, Bool.not_false, Bool.false_eq_true, decide_true, decide_false, ok_len hl]
    exact ⟨hx, rfl⟩
theorem s_law_crowd {g : G} {a b : Nat} {ns gs : List Int} {t : Int} (h : IL g a ns) (hb : IL g b gs) (r : Rise ns.length gs) : Ok (m__law_crowd [.ref a, .ref b, .int t] g) fun w g' => Ext g g' ∧ w = .bl (crowd ns gs t) := by
  unfold m__law_crowd b__law_crowd
  simp only [ok_def, okS_seq, okS_ret, okS_asg, okS_if, okS_E, okS_par, okS_aug, okS_nop, nxt_nx, nxt_rt, okS_brk, okS_cnt, ok_var, ok_C, ok_op2, ok_op1, ok_call, ok_acons, ok_anil, ok_lst, ok_tup, ok_tVal, ok_mAnd, ok_mOr, ok_mNot, ok_if, ok_tNot, ok_tAnd, ok_tOr, ok_tYes, ok_chain, ok_star, ok_gName, ok_oNone, ok_oSome, ok_sl, ok_rev, ok_mt, ok_ok, ok_lc, okS_for, putL, wipe, startM, List.map_cons, List.map_nil, List.length_cons, List.length_nil, List.replicate, List.cons_append, List.nil_append, Nat.reduceAdd, Nat.reduceSub, List.getElem?_cons_zero, List.getElem?_cons_succ, List.set_cons_succ, List.set_cons_zero, Option.some.injEq, W.bl.injEq, W.int.injEq, W.ref.injEq, exists_eq_left', exists_eq_left, decide_eq_true_eq, true_and, and_true, ok_add, ok_sub, ok_lt, ok_le, ok_gt, ok_ge, ok_neg, ok_mul, ok_div, ok_mod, ok_pow, ok_max2, ok_min2, ok_abs, ok_int, ok_iLst, ok_iTup, ok_iEnum, ok_iZip, ok_iRng1, exists_list1, List.cons.injEq, exists_and_left, exists_const, exists_eq, if_true, if_false, Bool.not_true, Bool.not_false, Bool.false_eq_true, decide_true, decide_false]
  refine ⟨_, hb, ?_⟩
  refine lc_filter (p := fun w => decide (ns.getD w.toNat 0 ≤ t)) hb (Nat.le_trans r.2.1 (by decide)) (fun v => rfl) (fun x g' hx hxt => ?_) fun g2 hx hl _ => ?_
  · have := r.2.2 x hx
    simp only [ok_def, okS_seq, okS_ret, okS_asg, okS_if, okS_E, okS_par, okS_aug, okS_nop, nxt_nx, nxt_rt, okS_brk, okS_cnt, ok_var, ok_C, ok_op2, ok_op1, ok_call, ok_acons, ok_anil, ok_lst, ok_tup, ok_tVal, ok_mAnd, ok_mOr, ok_mNot, ok_if, ok_tNot, ok_tAnd, ok_tOr, ok_tYes, ok_chain, ok_star, ok_gName, ok_oNone, ok_oSome, ok_sl, ok_rev, ok_mt, ok_ok, ok_lc, okS_for, putL, wipe, startM, List.map_cons, List.map_nil, List.length_cons, List.length_nil, List.replicate, List.cons_append, List.nil_append, Nat.reduceAdd, Nat.reduceSub, List.getElem?_cons_zero, List.getElem?_cons_succ, List.set_cons_succ, List.set_cons_zero, Option.some.injEq, W.bl.injEq, W.int.injEq, W.ref.injEq, exists_eq_left', exists_eq_left, decide_eq_true_eq, true_and, and_true, ok_add, ok_sub, ok_lt, ok_le, ok_gt, ok_ge, ok_neg, ok_mul, ok_div, ok_mod, ok_pow, ok_max2, ok_min2, ok_abs, ok_int, ok_iLst, ok_iTup, ok_iEnum, ok_iZip, ok_iRng1, exists_list1, List.cons.injEq, exists_and_left, exists_const, exists_eq, if_true, if_false, Bool.not_true, Bool.not_false, Bool.false_eq_true, decide_true, decide_false, ok_ix (h.ext hxt) this.1 this.2]
    exact Ext.refl _
  · simp only [ok_def, okS_seq, okS_ret, okS_asg, okS_if, okS_E, okS_par, okS_aug, okS_nop, nxt_nx, nxt_rt, okS_brk, okS_cnt, ok_var, ok_C, ok_op2, ok_op1, ok_call, ok_acons, ok_anil, ok_lst, ok_tup, ok_tVal, ok_mAnd, ok_mOr, ok_mNot, ok_if, ok_tNot, ok_tAnd, ok_tOr, ok_tYes, ok_chain, ok_star, ok_gName, ok_oNone, ok_oSome, ok_sl, ok_rev, ok_mt, ok_ok, ok_lc, okS_for, putL, wipe, startM, List.map_cons, List.map_nil, List.length_cons, List.length_nil, List.replicate, List.cons_append, List.nil_append, Nat.reduceAdd, Nat.reduceSub, List.getElem?_cons_zero, List.getElem?_cons_succ, List.set_cons_succ, List.set_cons_zero, Option.some.injEq, W.bl.injEq, W.int.injEq, W.ref.injEq, exists_eq_left', exists_eq_left, decide_eq_true_eq, true_and, and_true, ok_add, ok_sub, ok_lt, ok_le, ok_gt, ok_ge, ok_neg, ok_mul, ok_div, ok_mod, ok_pow, ok_max2, ok_min2, ok_abs, ok_int, ok_iLst, ok_iTup, ok_iEnum, ok_iZip, ok_iRng1, exists_list1, List.cons.injEq, exists_and_left, exists_const, exists_eq, if_true, if_false, Bool.not_true, Bool.not_false, Bool.false_eq_true, decide_true, decide_false, ok_len hl]
    exact ⟨hx, rfl⟩
theorem s_able_for {g : G} {a : Nat} {ns : List Int} {t : Int} (h : IL g a ns) (hs : ns.length ≤ SZ) : Ok (m_able_for [.ref a, .int t] g) fun w g' => Ext g g' ∧ w = .int (more t ns) := by
  unfold m_able_for b_able_for
  simp only [ok_def, okS_seq, okS_ret, okS_asg, okS_if, okS_E, okS_par, okS_aug, okS_nop, nxt_nx, nxt_rt, okS_brk, okS_cnt, ok_var, ok_C, ok_op2, ok_op1, ok_call, ok_acons, ok_anil, ok_lst, ok_tup, ok_tVal, ok_mAnd, ok_mOr, ok_mNot, ok_if, ok_tNot, ok_tAnd, ok_tOr, ok_tYes, ok_chain, ok_star, ok_gName, ok_oNone, ok_oSome, ok_sl, ok_rev, ok_mt, ok_ok, ok_lc, okS_for, putL, wipe, startM, List.map_cons, List.map_nil, List.length_cons, List.length_nil, List.replicate, List.cons_append, List.nil_append, Nat.reduceAdd, Nat.reduceSub, List.getElem?_cons_zero, List.getElem?_cons_succ, List.set_cons_succ, List.set_cons_zero, Option.some.injEq, W.bl.injEq, W.int.injEq, W.ref.injEq, exists_eq_left', exists_eq_left, decide_eq_true_eq, true_and, and_true, ok_add, ok_sub, ok_lt, ok_le, ok_gt, ok_ge, ok_neg, ok_mul, ok_div, ok_mod, ok_pow, ok_max2, ok_min2, ok_abs, ok_int, ok_iLst, ok_iTup, ok_iEnum, ok_iZip, ok_iRng1, exists_list1, List.cons.injEq, exists_and_left, exists_const, exists_eq, if_true, if_false, Bool.not_true, Bool.not_false, Bool.false_eq_true, decide_true, decide_false]
  refine ⟨_, h, ?_⟩
  refine lc_filter (p := fun c => decide (c > t)) h hs (fun v => rfl) (fun x g' hx hxt => ?_) fun g2 hx hl _ => ?_
  · simp only [ok_def, okS_seq, okS_ret, okS_asg, okS_if, okS_E, okS_par, okS_aug, okS_nop, nxt_nx, nxt_rt, okS_brk, okS_cnt, ok_var, ok_C, ok_op2, ok_op1, ok_call, ok_acons, ok_anil, ok_lst, ok_tup, ok_tVal, ok_mAnd, ok_mOr, ok_mNot, ok_if, ok_tNot, ok_tAnd, ok_tOr, ok_tYes, ok_chain, ok_star, ok_gName, ok_oNone, ok_oSome, ok_sl, ok_rev, ok_mt, ok_ok, ok_lc, okS_for, putL, wipe, startM, List.map_cons, List.map_nil, List.length_cons, List.length_nil, List.replicate, List.cons_append, List.nil_append, Nat.reduceAdd, Nat.reduceSub, List.getElem?_cons_zero, List.getElem?_cons_succ, List.set_cons_succ, List.set_cons_zero, Option.some.injEq, W.bl.injEq, W.int.injEq, W.ref.injEq, exists_eq_left', exists_eq_left, decide_eq_true_eq, true_and, and_true, ok_add, ok_sub, ok_lt, ok_le, ok_gt, ok_ge, ok_neg, ok_mul, ok_div, ok_mod, ok_pow, ok_max2, ok_min2, ok_abs, ok_int, ok_iLst, ok_iTup, ok_iEnum, ok_iZip, ok_iRng1, exists_list1, List.cons.injEq, exists_and_left, exists_const, exists_eq, if_true, if_false, Bool.not_true, Bool.not_false, Bool.false_eq_true, decide_true, decide_false]
    exact Ext.refl _
  · simp only [ok_def, okS_seq, okS_ret, okS_asg, okS_if, okS_E, okS_par, okS_aug, okS_nop, nxt_nx, nxt_rt, okS_brk, okS_cnt, ok_var, ok_C, ok_op2, ok_op1, ok_call, ok_acons, ok_anil, ok_lst, ok_tup, ok_tVal, ok_mAnd, ok_mOr, ok_mNot, ok_if, ok_tNot, ok_tAnd, ok_tOr, ok_tYes, ok_chain, ok_star, ok_gName, ok_oNone, ok_oSome, ok_sl, ok_rev, ok_mt, ok_ok, ok_lc, okS_for, putL, wipe, startM, List.map_cons, List.map_nil, List.length_cons, List.length_nil, List.replicate, List.cons_append, List.nil_append, Nat.reduceAdd, Nat.reduceSub, List.getElem?_cons_zero, List.getElem?_cons_succ, List.set_cons_succ, List.set_cons_zero, Option.some.injEq, W.bl.injEq, W.int.injEq, W.ref.injEq, exists_eq_left', exists_eq_left, decide_eq_true_eq, true_and, and_true, ok_add, ok_sub, ok_lt, ok_le, ok_gt, ok_ge, ok_neg, ok_mul, ok_div, ok_mod, ok_pow, ok_max2, ok_min2, ok_abs, ok_int, ok_iLst, ok_iTup, ok_iEnum, ok_iZip, ok_iRng1, exists_list1, List.cons.injEq, exists_and_left, exists_const, exists_eq, if_true, if_false, Bool.not_true, Bool.not_false, Bool.false_eq_true, decide_true, decide_false, ok_len hl]
    exact ⟨hx, rfl⟩
theorem s_lacking {g : G} {a b : Nat} {ns ss : List Int} {t : Int} (h : IL g a ns) (hs : ns.length ≤ SZ) (hb : IL g b ss) (hs2 : ss.length ≤ SZ) : Ok (m_is_lacking [.ref a, .ref b, .int t] g) fun w g' => Ext g g' ∧ w = .bl (lack ns ss t) := by
  unfold m_is_lacking b_is_lacking
  simp only [ok_def, okS_seq, okS_ret, okS_asg, okS_if, okS_E, okS_par, okS_aug, okS_nop, nxt_nx, nxt_rt, okS_brk, okS_cnt, ok_var, ok_C, ok_op2, ok_op1, ok_call, ok_acons, ok_anil, ok_lst, ok_tup, ok_tVal, ok_mAnd, ok_mOr, ok_mNot, ok_if, ok_tNot, ok_tAnd, ok_tOr, ok_tYes, ok_chain, ok_star, ok_gName, ok_oNone, ok_oSome, ok_sl, ok_rev, ok_mt, ok_ok, ok_lc, okS_for, putL, wipe, startM, List.map_cons, List.map_nil, List.length_cons, List.length_nil, List.replicate, List.cons_append, List.nil_append, Nat.reduceAdd, Nat.reduceSub, List.getElem?_cons_zero, List.getElem?_cons_succ, List.set_cons_succ, List.set_cons_zero, Option.some.injEq, W.bl.injEq, W.int.injEq, W.ref.injEq, exists_eq_left', exists_eq_left, decide_eq_true_eq, true_and, and_true, ok_add, ok_sub, ok_lt, ok_le, ok_gt, ok_ge, ok_neg, ok_mul, ok_div, ok_mod, ok_pow, ok_max2, ok_min2, ok_abs, ok_int, ok_iLst, ok_iTup, ok_iEnum, ok_iZip, ok_iRng1, exists_list1, List.cons.injEq, exists_and_left, exists_const, exists_eq, if_true, if_false, Bool.not_true, Bool.not_false, Bool.false_eq_true, decide_true, decide_false]
  refine (s_able_for h hs).mono fun w g1 ⟨hx1, e⟩ => ?_
  subst e
  refine ⟨_, hb.ext hx1, ?_⟩
  refine lc_filter (p := fun s => decide (t ≤ s)) (hb.ext hx1) hs2 (fun v => rfl) (fun x g' hx hxt => ?_) fun g2 hx hl _ => ?_
  · simp only [ok_def, okS_seq, okS_ret, okS_asg, okS_if, okS_E, okS_par, okS_aug, okS_nop, nxt_nx, nxt_rt, okS_brk, okS_cnt, ok_var, ok_C, ok_op2, ok_op1, ok_call, ok_acons, ok_anil, ok_lst, ok_tup, ok_tVal, ok_mAnd, ok_mOr, ok_mNot, ok_if, ok_tNot, ok_tAnd, ok_tOr, ok_tYes, ok_chain, ok_star, ok_gName, ok_oNone, ok_oSome, ok_sl, ok_rev, ok_mt, ok_ok, ok_lc, okS_for, putL, wipe, startM, List.map_cons, List.map_nil, List.length_cons, List.length_nil, List.replicate, List.cons_append, List.nil_append, Nat.reduceAdd, Nat.reduceSub, List.getElem?_cons_zero, List.getElem?_cons_succ, List.set_cons_succ, List.set_cons_zero, Option.some.injEq, W.bl.injEq, W.int.injEq, W.ref.injEq, exists_eq_left', exists_eq_left, decide_eq_true_eq, true_and, and_true, ok_add, ok_sub, ok_lt, ok_le, ok_gt, ok_ge, ok_neg, ok_mul, ok_div, ok_mod, ok_pow, ok_max2, ok_min2, ok_abs, ok_int, ok_iLst, ok_iTup, ok_iEnum, ok_iZip, ok_iRng1, exists_list1, List.cons.injEq, exists_and_left, exists_const, exists_eq, if_true, if_false, Bool.not_true, Bool.not_false, Bool.false_eq_true, decide_true, decide_false]
    exact Ext.refl _
  · simp only [ok_def, okS_seq, okS_ret, okS_asg, okS_if, okS_E, okS_par, okS_aug, okS_nop, nxt_nx, nxt_rt, okS_brk, okS_cnt, ok_var, ok_C, ok_op2, ok_op1, ok_call, ok_acons, ok_anil, ok_lst, ok_tup, ok_tVal, ok_mAnd, ok_mOr, ok_mNot, ok_if, ok_tNot, ok_tAnd, ok_tOr, ok_tYes, ok_chain, ok_star, ok_gName, ok_oNone, ok_oSome, ok_sl, ok_rev, ok_mt, ok_ok, ok_lc, okS_for, putL, wipe, startM, List.map_cons, List.map_nil, List.length_cons, List.length_nil, List.replicate, List.cons_append, List.nil_append, Nat.reduceAdd, Nat.reduceSub, List.getElem?_cons_zero, List.getElem?_cons_succ, List.set_cons_succ, List.set_cons_zero, Option.some.injEq, W.bl.injEq, W.int.injEq, W.ref.injEq, exists_eq_left', exists_eq_left, decide_eq_true_eq, true_and, and_true, ok_add, ok_sub, ok_lt, ok_le, ok_gt, ok_ge, ok_neg, ok_mul, ok_div, ok_mod, ok_pow, ok_max2, ok_min2, ok_abs, ok_int, ok_iLst, ok_iTup, ok_iEnum, ok_iZip, ok_iRng1, exists_list1, List.cons.injEq, exists_and_left, exists_const, exists_eq, if_true, if_false, Bool.not_true, Bool.not_false, Bool.false_eq_true, decide_true, decide_false, ok_len hl]
    exact ⟨hx1.trans hx, rfl⟩
theorem s_law_lack {g : G} {a b : Nat} {ns ss : List Int} {t : Int} (h : IL g a ns) (hs : ns.length ≤ SZ) (hb : IL g b ss) (hs2 : ss.length ≤ SZ) : Ok (m__law_lack [.ref a, .ref b, .int t] g) fun w g' => Ext g g' ∧ w = .bl (lack ns ss t) := by
  unfold m__law_lack b__law_lack
  simp only [ok_def, okS_seq, okS_ret, okS_asg, okS_if, okS_E, okS_par, okS_aug, okS_nop, nxt_nx, nxt_rt, okS_brk, okS_cnt, ok_var, ok_C, ok_op2, ok_op1, ok_call, ok_acons, ok_anil, ok_lst, ok_tup, ok_tVal, ok_mAnd, ok_mOr, ok_mNot, ok_if, ok_tNot, ok_tAnd, ok_tOr, ok_tYes, ok_chain, ok_star, ok_gName, ok_oNone, ok_oSome, ok_sl, ok_rev, ok_mt, ok_ok, ok_lc, okS_for, putL, wipe, startM, List.map_cons, List.map_nil, List.length_cons, List.length_nil, List.replicate, List.cons_append, List.nil_append, Nat.reduceAdd, Nat.reduceSub, List.getElem?_cons_zero, List.getElem?_cons_succ, List.set_cons_succ, List.set_cons_zero, Option.some.injEq, W.bl.injEq, W.int.injEq, W.ref.injEq, exists_eq_left', exists_eq_left, decide_eq_true_eq, true_and, and_true, ok_add, ok_sub, ok_lt, ok_le, ok_gt, ok_ge, ok_neg, ok_mul, ok_div, ok_mod, ok_pow, ok_max2, ok_min2, ok_abs, ok_int, ok_iLst, ok_iTup, ok_iEnum, ok_iZip, ok_iRng1, exists_list1, List.cons.injEq, exists_and_left, exists_const, exists_eq, if_true, if_false, Bool.not_true, Bool.not_false, Bool.false_eq_true, decide_true, decide_false]
  refine ⟨_, h, ?_⟩
  refine lc_filter (p := fun c => decide (c > t)) h hs (fun v => rfl) (fun x g' hx hxt => ?_) fun g1 hx1 hl1 _ => ?_
  · simp only [ok_def, okS_seq, okS_ret, okS_asg, okS_if, okS_E, okS_par, okS_aug, okS_nop, nxt_nx, nxt_rt, okS_brk, okS_cnt, ok_var, ok_C, ok_op2, ok_op1, ok_call, ok_acons, ok_anil, ok_lst, ok_tup, ok_tVal, ok_mAnd, ok_mOr, ok_mNot, ok_if, ok_tNot, ok_tAnd, ok_tOr, ok_tYes, ok_chain, ok_star, ok_gName, ok_oNone, ok_oSome, ok_sl, ok_rev, ok_mt, ok_ok, ok_lc, okS_for, putL, wipe, startM, List.map_cons, List.map_nil, List.length_cons, List.length_nil, List.replicate, List.cons_append, List.nil_append, Nat.reduceAdd, Nat.reduceSub, List.getElem?_cons_zero, List.getElem?_cons_succ, List.set_cons_succ, List.set_cons_zero, Option.some.injEq, W.bl.injEq, W.int.injEq, W.ref.injEq, exists_eq_left', exists_eq_left, decide_eq_true_eq, true_and, and_true, ok_add, ok_sub, ok_lt, ok_le, ok_gt, ok_ge, ok_neg, ok_mul, ok_div, ok_mod, ok_pow, ok_max2, ok_min2, ok_abs, ok_int, ok_iLst, ok_iTup, ok_iEnum, ok_iZip, ok_iRng1, exists_list1, List.cons.injEq, exists_and_left, exists_const, exists_eq, if_true, if_false, Bool.not_true, Bool.not_false, Bool.false_eq_true, decide_true, decide_false]
    exact Ext.refl _
  · simp only [ok_def, okS_seq, okS_ret, okS_asg, okS_if, okS_E, okS_par, okS_aug, okS_nop, nxt_nx, nxt_rt, okS_brk, okS_cnt, ok_var, ok_C, ok_op2, ok_op1, ok_call, ok_acons, ok_anil, ok_lst, ok_tup, ok_tVal, ok_mAnd, ok_mOr, ok_mNot, ok_if, ok_tNot, ok_tAnd, ok_tOr, ok_tYes, ok_chain, ok_star, ok_gName, ok_oNone, ok_oSome, ok_sl, ok_rev, ok_mt, ok_ok, ok_lc, okS_for, putL, wipe, startM, List.map_cons, List.map_nil, List.length_cons, List.length_nil, List.replicate, List.cons_append, List.nil_append, Nat.reduceAdd, Nat.reduceSub, List.getElem?_cons_zero, List.getElem?_cons_succ, List.set_cons_succ, List.set_cons_zero, Option.some.injEq, W.bl.injEq, W.int.injEq, W.ref.injEq, exists_eq_left', exists_eq_left, decide_eq_true_eq, true_and, and_true, ok_add, ok_sub, ok_lt, ok_le, ok_gt, ok_ge, ok_neg, ok_mul, ok_div, ok_mod, ok_pow, ok_max2, ok_min2, ok_abs, ok_int, ok_iLst, ok_iTup, ok_iEnum, ok_iZip, ok_iRng1, exists_list1, List.cons.injEq, exists_and_left, exists_const, exists_eq, if_true, if_false, Bool.not_true, Bool.not_false, Bool.false_eq_true, decide_true, decide_false, ok_len hl1]
    refine ⟨_, hb.ext hx1, ?_⟩
    refine lc_filter (p := fun s => decide (t ≤ s)) (hb.ext hx1) hs2 (fun v => rfl) (fun x g' hx hxt => ?_) fun g2 hx hl _ => ?_
    · simp only [ok_def, okS_seq, okS_ret, okS_asg, okS_if, okS_E, okS_par, okS_aug, okS_nop, nxt_nx, nxt_rt, okS_brk, okS_cnt, ok_var, ok_C, ok_op2, ok_op1, ok_call, ok_acons, ok_anil, ok_lst, ok_tup, ok_tVal, ok_mAnd, ok_mOr, ok_mNot, ok_if, ok_tNot, ok_tAnd, ok_tOr, ok_tYes, ok_chain, ok_star, ok_gName, ok_oNone, ok_oSome, ok_sl, ok_rev, ok_mt, ok_ok, ok_lc, okS_for, putL, wipe, startM, List.map_cons, List.map_nil, List.length_cons, List.length_nil, List.replicate, List.cons_append, List.nil_append, Nat.reduceAdd, Nat.reduceSub, List.getElem?_cons_zero, List.getElem?_cons_succ, List.set_cons_succ, List.set_cons_zero, Option.some.injEq, W.bl.injEq, W.int.injEq, W.ref.injEq, exists_eq_left', exists_eq_left, decide_eq_true_eq, true_and, and_true, ok_add, ok_sub, ok_lt, ok_le, ok_gt, ok_ge, ok_neg, ok_mul, ok_div, ok_mod, ok_pow, ok_max2, ok_min2, ok_abs, ok_int, ok_iLst, ok_iTup, ok_iEnum, ok_iZip, ok_iRng1, exists_list1, List.cons.injEq, exists_and_left, exists_const, exists_eq, if_true, if_false, Bool.not_true, Bool.not_false, Bool.false_eq_true, decide_true, decide_false]
      exact Ext.refl _
    · simp only [ok_def, okS_seq, okS_ret, okS_asg, okS_if, okS_E, okS_par, okS_aug, okS_nop, nxt_nx, nxt_rt, okS_brk, okS_cnt, ok_var, ok_C, ok_op2, ok_op1, ok_call, ok_acons, ok_anil, ok_lst, ok_tup, ok_tVal, ok_mAnd, ok_mOr, ok_mNot, ok_if, ok_tNot, ok_tAnd, ok_tOr, ok_tYes, ok_chain, ok_star, ok_gName, ok_oNone, ok_oSome, ok_sl, ok_rev, ok_mt, ok_ok, ok_lc, okS_for, putL, wipe, startM, List.map_cons, List.map_nil, List.length_cons, List.length_nil, List.replicate, List.cons_append, List.nil_append, Nat.reduceAdd, Nat.reduceSub, List.getElem?_cons_zero, List.getElem?_cons_succ, List.set_cons_succ, List.set_cons_zero, Option.some.injEq, W.bl.injEq, W.int.injEq, W.ref.injEq, exists_eq_left', exists_eq_left, decide_eq_true_eq, true_and, and_true, ok_add, ok_sub, ok_lt, ok_le, ok_gt, ok_ge, ok_neg, ok_mul, ok_div, ok_mod, ok_pow, ok_max2, ok_min2, ok_abs, ok_int, ok_iLst, ok_iTup, ok_iEnum, ok_iZip, ok_iRng1, exists_list1, List.cons.injEq, exists_and_left, exists_const, exists_eq, if_true, if_false, Bool.not_true, Bool.not_false, Bool.false_eq_true, decide_true, decide_false, ok_len hl]
      exact ⟨hx1.trans hx, rfl⟩
end M
/-! K32c: papers, rising lists, texts. -/
namespace M
/-- the numbers below n with p -/
def sel (n : Nat) (p : Int → Bool) : List Int := ((List.range n).filter fun k : Nat => p k).map fun k : Nat => (k : Int)
/-- the first one, or None -/
def fst (l : List Int) : W := match l with
  | [] => .non
  | a :: _ => .int a
theorem sel_more {n m : Nat} {p : Int → Bool} (h : n ≤ m) (hp : ∀ k : Nat, n ≤ k → k < m → p k = false) : sel m p = sel n p := by
  induction m with
  | zero => have : n = 0 := by omega
            subst this; rfl
  | succ m ih =>
    by_cases e : n = m + 1
    · rw [e]
    · rw [← ih (by omega) fun k h1 h2 => hp k h1 (by omega)]
      unfold sel
      rw [List.range_succ, List.filter_append, List.map_append]
      have := hp m (by omega) (by omega)
      simp [this]
theorem fst_ok {g : G} {a : Nat} {l : List Int} {Q : W → G → Prop} (h : IL g a l) (q : ∀ g', Ext g g' → Q (fst l) g') :
    0 ≤ SZ ∧ Ok (opNe (.ref a) (.ref g.length) (g ++ [.lst []])) fun x g1 => ∃ k, x = .bl k ∧ if k = true then Ok (opIx (.ref a) (.int 0) g1) Q else Q .non g1 := by
  refine ⟨by decide, ?_⟩
  have h1 : IL (g ++ [O.lst []]) a l := h.ext (Ext.snoc _ _)
  have h2 : IL (g ++ [O.lst []]) g.length [] := lst_new _ _
  rw [ok_neL h1 h2]
  refine ⟨_, rfl, ?_⟩
  cases l with
  | nil =>
    rw [decide_eq_true rfl, if_neg (by decide)]
    exact q _ (Ext.snoc _ _)
  | cons a l =>
    rw [decide_eq_false (by simp), if_pos (by decide), ok_ix h1 (by omega) (by simp)]
    exact q _ (Ext.snoc _ _)
theorem s_work_paper {g : G} {a b : Nat} {ns gs : List Int} (h : IL g a ns) (t : Team ns) (hb : IL g b gs) (r : Rise ns.length gs) : Ok (m_work_paper [.ref a, .ref b] g) fun w g' => Ext g g' ∧ w = fst (sel ns.length (crowd ns gs)) := by
  unfold m_work_paper b_work_paper
  simp only [ok_def, okS_seq, okS_ret, okS_asg, okS_if, okS_E, okS_par, okS_aug, okS_nop, nxt_nx, nxt_rt, okS_brk, okS_cnt, ok_var, ok_C, ok_op2, ok_op1, ok_call, ok_acons, ok_anil, ok_lst, ok_tup, ok_tVal, ok_mAnd, ok_mOr, ok_mNot, ok_if, ok_tNot, ok_tAnd, ok_tOr, ok_tYes, ok_chain, ok_star, ok_gName, ok_oNone, ok_oSome, ok_sl, ok_rev, ok_mt, ok_ok, ok_lc, okS_for, putL, wipe, startM, List.map_cons, List.map_nil, List.length_cons, List.length_nil, List.replicate, List.cons_append, List.nil_append, Nat.reduceAdd, Nat.reduceSub, List.getElem?_cons_zero, List.getElem?_cons_succ, List.set_cons_succ, List.set_cons_zero, Option.some.injEq, W.bl.injEq, W.int.injEq, W.ref.injEq, exists_eq_left', exists_eq_left, decide_eq_true_eq, true_and, and_true, ok_add, ok_sub, ok_lt, ok_le, ok_gt, ok_ge, ok_neg, ok_mul, ok_div, ok_mod, ok_pow, ok_max2, ok_min2, ok_abs, ok_int, ok_iLst, ok_iTup, ok_iEnum, ok_iZip, ok_iRng1, exists_list1, List.cons.injEq, exists_and_left, exists_const, exists_eq, if_true, if_false, Bool.not_true, Bool.not_false, Bool.false_eq_true, decide_true, decide_false]
  refine (s_need_team h t).mono fun w g1 x1 => ?_
  refine (s_need_workers (h.ext x1) (hb.ext x1) r).mono fun w g2 x2 => ?_
  have h2 := (h.ext x1).ext x2
  have hb2 := (hb.ext x1).ext x2
  rw [ok_len h2]
  refine ⟨_, rfl, inR_le (by omega) (by have := t.2.1; omega), ?_⟩
  rw [Int.toNat_natCast]
  refine lc_filterR (p := fun k => crowd ns gs k) (Nat.le_trans t.2.1 (by decide)) (fun v => rfl) (fun k g' hk hx => ?_) fun g3 x3 hl hd => ?_
  · simp only [ok_def, okS_seq, okS_ret, okS_asg, okS_if, okS_E, okS_par, okS_aug, okS_nop, nxt_nx, nxt_rt, okS_brk, okS_cnt, ok_var, ok_C, ok_op2, ok_op1, ok_call, ok_acons, ok_anil, ok_lst, ok_tup, ok_tVal, ok_mAnd, ok_mOr, ok_mNot, ok_if, ok_tNot, ok_tAnd, ok_tOr, ok_tYes, ok_chain, ok_star, ok_gName, ok_oNone, ok_oSome, ok_sl, ok_rev, ok_mt, ok_ok, ok_lc, okS_for, putL, wipe, startM, List.map_cons, List.map_nil, List.length_cons, List.length_nil, List.replicate, List.cons_append, List.nil_append, Nat.reduceAdd, Nat.reduceSub, List.getElem?_cons_zero, List.getElem?_cons_succ, List.set_cons_succ, List.set_cons_zero, Option.some.injEq, W.bl.injEq, W.int.injEq, W.ref.injEq, exists_eq_left', exists_eq_left, decide_eq_true_eq, true_and, and_true, ok_add, ok_sub, ok_lt, ok_le, ok_gt, ok_ge, ok_neg, ok_mul, ok_div, ok_mod, ok_pow, ok_max2, ok_min2, ok_abs, ok_int, ok_iLst, ok_iTup, ok_iEnum, ok_iZip, ok_iRng1, exists_list1, List.cons.injEq, exists_and_left, exists_const, exists_eq, if_true, if_false, Bool.not_true, Bool.not_false, Bool.false_eq_true, decide_true, decide_false]
    exact (s_crowded (h2.ext hx) (hb2.ext hx) r).mono fun w g4 ⟨q1, q2⟩ => ⟨_, q2, q1, rfl⟩
  · exact fst_ok (Q := fun w g' => Ext g g' ∧ w = fst (sel ns.length (crowd ns gs))) hl fun g' hx => ⟨((x1.trans x2).trans x3).trans hx, rfl⟩
theorem s_give_paper {g : G} {a b : Nat} {ns ss : List Int} (h : IL g a ns) (t : Team ns) (hb : IL g b ss) (r : Rise 60 ss) : Ok (m_give_paper [.ref a, .ref b] g) fun w g' => Ext g g' ∧ w = fst (sel 60 (lack ns ss)) := by
  unfold m_give_paper b_give_paper
  simp only [ok_def, okS_seq, okS_ret, okS_asg, okS_if, okS_E, okS_par, okS_aug, okS_nop, nxt_nx, nxt_rt, okS_brk, okS_cnt, ok_var, ok_C, ok_op2, ok_op1, ok_call, ok_acons, ok_anil, ok_lst, ok_tup, ok_tVal, ok_mAnd, ok_mOr, ok_mNot, ok_if, ok_tNot, ok_tAnd, ok_tOr, ok_tYes, ok_chain, ok_star, ok_gName, ok_oNone, ok_oSome, ok_sl, ok_rev, ok_mt, ok_ok, ok_lc, okS_for, putL, wipe, startM, List.map_cons, List.map_nil, List.length_cons, List.length_nil, List.replicate, List.cons_append, List.nil_append, Nat.reduceAdd, Nat.reduceSub, List.getElem?_cons_zero, List.getElem?_cons_succ, List.set_cons_succ, List.set_cons_zero, Option.some.injEq, W.bl.injEq, W.int.injEq, W.ref.injEq, exists_eq_left', exists_eq_left, decide_eq_true_eq, true_and, and_true, ok_add, ok_sub, ok_lt, ok_le, ok_gt, ok_ge, ok_neg, ok_mul, ok_div, ok_mod, ok_pow, ok_max2, ok_min2, ok_abs, ok_int, ok_iLst, ok_iTup, ok_iEnum, ok_iZip, ok_iRng1, exists_list1, List.cons.injEq, exists_and_left, exists_const, exists_eq, if_true, if_false, Bool.not_true, Bool.not_false, Bool.false_eq_true, decide_true, decide_false]
  refine (s_need_team h t).mono fun w g1 x1 => ?_
  refine (s_need_jobs (hb.ext x1) r).mono fun w g2 x2 => ?_
  have h2 := (h.ext x1).ext x2
  have hb2 := (hb.ext x1).ext x2
  refine ⟨by decide, ?_⟩
  refine lc_filterR (n := 60) (p := fun k => lack ns ss k) (by decide) (fun v => rfl) (fun k g' hk hx => ?_) fun g3 x3 hl hd => ?_
  · simp only [ok_def, okS_seq, okS_ret, okS_asg, okS_if, okS_E, okS_par, okS_aug, okS_nop, nxt_nx, nxt_rt, okS_brk, okS_cnt, ok_var, ok_C, ok_op2, ok_op1, ok_call, ok_acons, ok_anil, ok_lst, ok_tup, ok_tVal, ok_mAnd, ok_mOr, ok_mNot, ok_if, ok_tNot, ok_tAnd, ok_tOr, ok_tYes, ok_chain, ok_star, ok_gName, ok_oNone, ok_oSome, ok_sl, ok_rev, ok_mt, ok_ok, ok_lc, okS_for, putL, wipe, startM, List.map_cons, List.map_nil, List.length_cons, List.length_nil, List.replicate, List.cons_append, List.nil_append, Nat.reduceAdd, Nat.reduceSub, List.getElem?_cons_zero, List.getElem?_cons_succ, List.set_cons_succ, List.set_cons_zero, Option.some.injEq, W.bl.injEq, W.int.injEq, W.ref.injEq, exists_eq_left', exists_eq_left, decide_eq_true_eq, true_and, and_true, ok_add, ok_sub, ok_lt, ok_le, ok_gt, ok_ge, ok_neg, ok_mul, ok_div, ok_mod, ok_pow, ok_max2, ok_min2, ok_abs, ok_int, ok_iLst, ok_iTup, ok_iEnum, ok_iZip, ok_iRng1, exists_list1, List.cons.injEq, exists_and_left, exists_const, exists_eq, if_true, if_false, Bool.not_true, Bool.not_false, Bool.false_eq_true, decide_true, decide_false]
    exact (s_lacking (h2.ext hx) (Nat.le_trans t.2.1 (by decide)) (hb2.ext hx) (Nat.le_trans r.2.1 (by decide))).mono fun w g4 ⟨q1, q2⟩ => ⟨_, q2, q1, rfl⟩
  · exact fst_ok (Q := fun w g' => Ext g g' ∧ w = fst (sel 60 (lack ns ss))) hl fun g' hx => ⟨((x1.trans x2).trans x3).trans hx, rfl⟩
theorem s_can_work {g : G} {a b : Nat} {ns gs : List Int} (h : IL g a ns) (t : Team ns) (hb : IL g b gs) (r : Rise ns.length gs) : Ok (m_can_work [.ref a, .ref b] g) fun w g' => Ext g g' ∧ w = .bl (decide (fst (sel ns.length (crowd ns gs)) = .non)) := by
  unfold m_can_work b_can_work
  simp only [ok_def, okS_seq, okS_ret, okS_asg, okS_if, okS_E, okS_par, okS_aug, okS_nop, nxt_nx, nxt_rt, okS_brk, okS_cnt, ok_var, ok_C, ok_op2, ok_op1, ok_call, ok_acons, ok_anil, ok_lst, ok_tup, ok_tVal, ok_mAnd, ok_mOr, ok_mNot, ok_if, ok_tNot, ok_tAnd, ok_tOr, ok_tYes, ok_chain, ok_star, ok_gName, ok_oNone, ok_oSome, ok_sl, ok_rev, ok_mt, ok_ok, ok_lc, okS_for, putL, wipe, startM, List.map_cons, List.map_nil, List.length_cons, List.length_nil, List.replicate, List.cons_append, List.nil_append, Nat.reduceAdd, Nat.reduceSub, List.getElem?_cons_zero, List.getElem?_cons_succ, List.set_cons_succ, List.set_cons_zero, Option.some.injEq, W.bl.injEq, W.int.injEq, W.ref.injEq, exists_eq_left', exists_eq_left, decide_eq_true_eq, true_and, and_true, ok_add, ok_sub, ok_lt, ok_le, ok_gt, ok_ge, ok_neg, ok_mul, ok_div, ok_mod, ok_pow, ok_max2, ok_min2, ok_abs, ok_int, ok_iLst, ok_iTup, ok_iEnum, ok_iZip, ok_iRng1, exists_list1, List.cons.injEq, exists_and_left, exists_const, exists_eq, if_true, if_false, Bool.not_true, Bool.not_false, Bool.false_eq_true, decide_true, decide_false]
  refine (s_work_paper h t hb r).mono fun w g1 ⟨x1, e⟩ => ?_
  subst e
  unfold opIsN
  rw [ok_ok]
  exact ⟨x1, rfl⟩
theorem s_can_give {g : G} {a b : Nat} {ns ss : List Int} (h : IL g a ns) (t : Team ns) (hb : IL g b ss) (r : Rise 60 ss) : Ok (m_can_give [.ref a, .ref b] g) fun w g' => Ext g g' ∧ w = .bl (decide (fst (sel 60 (lack ns ss)) = .non)) := by
  unfold m_can_give b_can_give
  simp only [ok_def, okS_seq, okS_ret, okS_asg, okS_if, okS_E, okS_par, okS_aug, okS_nop, nxt_nx, nxt_rt, okS_brk, okS_cnt, ok_var, ok_C, ok_op2, ok_op1, ok_call, ok_acons, ok_anil, ok_lst, ok_tup, ok_tVal, ok_mAnd, ok_mOr, ok_mNot, ok_if, ok_tNot, ok_tAnd, ok_tOr, ok_tYes, ok_chain, ok_star, ok_gName, ok_oNone, ok_oSome, ok_sl, ok_rev, ok_mt, ok_ok, ok_lc, okS_for, putL, wipe, startM, List.map_cons, List.map_nil, List.length_cons, List.length_nil, List.replicate, List.cons_append, List.nil_append, Nat.reduceAdd, Nat.reduceSub, List.getElem?_cons_zero, List.getElem?_cons_succ, List.set_cons_succ, List.set_cons_zero, Option.some.injEq, W.bl.injEq, W.int.injEq, W.ref.injEq, exists_eq_left', exists_eq_left, decide_eq_true_eq, true_and, and_true, ok_add, ok_sub, ok_lt, ok_le, ok_gt, ok_ge, ok_neg, ok_mul, ok_div, ok_mod, ok_pow, ok_max2, ok_min2, ok_abs, ok_int, ok_iLst, ok_iTup, ok_iEnum, ok_iZip, ok_iRng1, exists_list1, List.cons.injEq, exists_and_left, exists_const, exists_eq, if_true, if_false, Bool.not_true, Bool.not_false, Bool.false_eq_true, decide_true, decide_false]
  refine (s_give_paper h t hb r).mono fun w g1 ⟨x1, e⟩ => ?_
  subst e
  unfold opIsN
  rw [ok_ok]
  exact ⟨x1, rfl⟩
theorem s_shows_work {g : G} {a b : Nat} {ns gs : List Int} {x : Int} (h : IL g a ns) (t : Team ns) (hb : IL g b gs) (r : Rise ns.length gs) (hx : 0 ≤ x) : Ok (m_shows_work_paper [.ref a, .ref b, .int x] g) fun w g' => Ext g g' ∧ w = .bl (crowd ns gs x) := by
  unfold m_shows_work_paper b_shows_work_paper
  simp only [ok_def, okS_seq, okS_ret, okS_asg, okS_if, okS_E, okS_par, okS_aug, okS_nop, nxt_nx, nxt_rt, okS_brk, okS_cnt, ok_var, ok_C, ok_op2, ok_op1, ok_call, ok_acons, ok_anil, ok_lst, ok_tup, ok_tVal, ok_mAnd, ok_mOr, ok_mNot, ok_if, ok_tNot, ok_tAnd, ok_tOr, ok_tYes, ok_chain, ok_star, ok_gName, ok_oNone, ok_oSome, ok_sl, ok_rev, ok_mt, ok_ok, ok_lc, okS_for, putL, wipe, startM, List.map_cons, List.map_nil, List.length_cons, List.length_nil, List.replicate, List.cons_append, List.nil_append, Nat.reduceAdd, Nat.reduceSub, List.getElem?_cons_zero, List.getElem?_cons_succ, List.set_cons_succ, List.set_cons_zero, Option.some.injEq, W.bl.injEq, W.int.injEq, W.ref.injEq, exists_eq_left', exists_eq_left, decide_eq_true_eq, true_and, and_true, ok_add, ok_sub, ok_lt, ok_le, ok_gt, ok_ge, ok_neg, ok_mul, ok_div, ok_mod, ok_pow, ok_max2, ok_min2, ok_abs, ok_int, ok_iLst, ok_iTup, ok_iEnum, ok_iZip, ok_iRng1, exists_list1, List.cons.injEq, exists_and_left, exists_const, exists_eq, if_true, if_false, Bool.not_true, Bool.not_false, Bool.false_eq_true, decide_true, decide_false, okI_is_integer, hx]
  refine (s_need_team h t).mono fun w g1 x1 => ?_
  refine (s_need_workers (h.ext x1) (hb.ext x1) r).mono fun w g2 x2 => ?_
  exact (s_crowded ((h.ext x1).ext x2) ((hb.ext x1).ext x2) r).mono fun w g3 ⟨x3, e⟩ => ⟨(x1.trans x2).trans x3, e⟩
theorem s_shows_give {g : G} {a b : Nat} {ns ss : List Int} {x : Int} (h : IL g a ns) (t : Team ns) (hb : IL g b ss) (r : Rise 60 ss) (hx : 0 ≤ x) : Ok (m_shows_give_paper [.ref a, .ref b, .int x] g) fun w g' => Ext g g' ∧ w = .bl (lack ns ss x) := by
  unfold m_shows_give_paper b_shows_give_paper
  simp only [ok_def, okS_seq, okS_ret, okS_asg, okS_if, okS_E, okS_par, okS_aug, okS_nop, nxt_nx, nxt_rt, okS_brk, okS_cnt, ok_var, ok_C, ok_op2, ok_op1, ok_call, ok_acons, ok_anil, ok_lst, ok_tup, ok_tVal, ok_mAnd, ok_mOr, ok_mNot, ok_if, ok_tNot, ok_tAnd, ok_tOr, ok_tYes, ok_chain, ok_star, ok_gName, ok_oNone, ok_oSome, ok_sl, ok_rev, ok_mt, ok_ok, ok_lc, okS_for, putL, wipe, startM, List.map_cons, List.map_nil, List.length_cons, List.length_nil, List.replicate, List.cons_append, List.nil_append, Nat.reduceAdd, Nat.reduceSub, List.getElem?_cons_zero, List.getElem?_cons_succ, List.set_cons_succ, List.set_cons_zero, Option.some.injEq, W.bl.injEq, W.int.injEq, W.ref.injEq, exists_eq_left', exists_eq_left, decide_eq_true_eq, true_and, and_true, ok_add, ok_sub, ok_lt, ok_le, ok_gt, ok_ge, ok_neg, ok_mul, ok_div, ok_mod, ok_pow, ok_max2, ok_min2, ok_abs, ok_int, ok_iLst, ok_iTup, ok_iEnum, ok_iZip, ok_iRng1, exists_list1, List.cons.injEq, exists_and_left, exists_const, exists_eq, if_true, if_false, Bool.not_true, Bool.not_false, Bool.false_eq_true, decide_true, decide_false, okI_is_integer, hx]
  refine (s_need_team h t).mono fun w g1 x1 => ?_
  refine (s_need_jobs (hb.ext x1) r).mono fun w g2 x2 => ?_
  exact (s_lacking ((h.ext x1).ext x2) (Nat.le_trans t.2.1 (by decide)) ((hb.ext x1).ext x2) (Nat.le_trans r.2.1 (by decide))).mono fun w g3 ⟨x3, e⟩ => ⟨(x1.trans x2).trans x3, e⟩
/-- a thing that is no number from 0 on -/
def Odd (g : G) (w : W) : Prop := (∃ b, m_is_integer [w] g = .ok (.bl b) g ∧ (b = true → ∃ i : Int, w = .int i ∧ i < 0))
theorem s_shows_workX {g : G} {a b : Nat} {ns gs : List Int} {w : W} (h : IL g a ns) (t : Team ns) (hb : IL g b gs) (r : Rise ns.length gs) (hw : ∀ g', Ext g g' → Odd g' w) : Ok (m_shows_work_paper [.ref a, .ref b, w] g) fun w g' => Ext g g' ∧ w = .bl false := by
  unfold m_shows_work_paper b_shows_work_paper
  simp only [ok_def, okS_seq, okS_ret, okS_asg, okS_if, okS_E, okS_par, okS_aug, okS_nop, nxt_nx, nxt_rt, okS_brk, okS_cnt, ok_var, ok_C, ok_op2, ok_op1, ok_call, ok_acons, ok_anil, ok_lst, ok_tup, ok_tVal, ok_mAnd, ok_mOr, ok_mNot, ok_if, ok_tNot, ok_tAnd, ok_tOr, ok_tYes, ok_chain, ok_star, ok_gName, ok_oNone, ok_oSome, ok_sl, ok_rev, ok_mt, ok_ok, ok_lc, okS_for, putL, wipe, startM, List.map_cons, List.map_nil, List.length_cons, List.length_nil, List.replicate, List.cons_append, List.nil_append, Nat.reduceAdd, Nat.reduceSub, List.getElem?_cons_zero, List.getElem?_cons_succ, List.set_cons_succ, List.set_cons_zero, Option.some.injEq, W.bl.injEq, W.int.injEq, W.ref.injEq, exists_eq_left', exists_eq_left, decide_eq_true_eq, true_and, and_true, ok_add, ok_sub, ok_lt, ok_le, ok_gt, ok_ge, ok_neg, ok_mul, ok_div, ok_mod, ok_pow, ok_max2, ok_min2, ok_abs, ok_int, ok_iLst, ok_iTup, ok_iEnum, ok_iZip, ok_iRng1, exists_list1, List.cons.injEq, exists_and_left, exists_const, exists_eq, if_true, if_false, Bool.not_true, Bool.not_false, Bool.false_eq_true, decide_true, decide_false]
  refine (s_need_team h t).mono fun _ g1 x1 => ?_
  refine (s_need_workers (h.ext x1) (hb.ext x1) r).mono fun _ g2 x2 => ?_
  obtain ⟨k, e, hk⟩ := hw g2 (x1.trans x2)
  rw [e, ok_ok]
  refine ⟨_, rfl, ?_⟩
  cases k with
  | false => exact x1.trans x2
  | true =>
    obtain ⟨i, rfl, hi⟩ := hk rfl
    rw [if_pos rfl, ok_ge]
    refine ⟨_, rfl, ?_⟩
    rw [if_neg (by simp; omega)]
    exact x1.trans x2
theorem s_shows_giveX {g : G} {a b : Nat} {ns ss : List Int} {w : W} (h : IL g a ns) (t : Team ns) (hb : IL g b ss) (r : Rise 60 ss) (hw : ∀ g', Ext g g' → Odd g' w) : Ok (m_shows_give_paper [.ref a, .ref b, w] g) fun w g' => Ext g g' ∧ w = .bl false := by
  unfold m_shows_give_paper b_shows_give_paper
  simp only [ok_def, okS_seq, okS_ret, okS_asg, okS_if, okS_E, okS_par, okS_aug, okS_nop, nxt_nx, nxt_rt, okS_brk, okS_cnt, ok_var, ok_C, ok_op2, ok_op1, ok_call, ok_acons, ok_anil, ok_lst, ok_tup, ok_tVal, ok_mAnd, ok_mOr, ok_mNot, ok_if, ok_tNot, ok_tAnd, ok_tOr, ok_tYes, ok_chain, ok_star, ok_gName, ok_oNone, ok_oSome, ok_sl, ok_rev, ok_mt, ok_ok, ok_lc, okS_for, putL, wipe, startM, List.map_cons, List.map_nil, List.length_cons, List.length_nil, List.replicate, List.cons_append, List.nil_append, Nat.reduceAdd, Nat.reduceSub, List.getElem?_cons_zero, List.getElem?_cons_succ, List.set_cons_succ, List.set_cons_zero, Option.some.injEq, W.bl.injEq, W.int.injEq, W.ref.injEq, exists_eq_left', exists_eq_left, decide_eq_true_eq, true_and, and_true, ok_add, ok_sub, ok_lt, ok_le, ok_gt, ok_ge, ok_neg, ok_mul, ok_div, ok_mod, ok_pow, ok_max2, ok_min2, ok_abs, ok_int, ok_iLst, ok_iTup, ok_iEnum, ok_iZip, ok_iRng1, exists_list1, List.cons.injEq, exists_and_left, exists_const, exists_eq, if_true, if_false, Bool.not_true, Bool.not_false, Bool.false_eq_true, decide_true, decide_false]
  refine (s_need_team h t).mono fun _ g1 x1 => ?_
  refine (s_need_jobs (hb.ext x1) r).mono fun _ g2 x2 => ?_
  obtain ⟨k, e, hk⟩ := hw g2 (x1.trans x2)
  rw [e, ok_ok]
  refine ⟨_, rfl, ?_⟩
  cases k with
  | false => exact x1.trans x2
  | true =>
    obtain ⟨i, rfl, hi⟩ := hk rfl
    rw [if_pos rfl, ok_ge]
    refine ⟨_, rfl, ?_⟩
    rw [if_neg (by simp; omega)]
    exact x1.trans x2
theorem join_len (ts : List PySem.Str) (c : Nat) (h : ∀ t ∈ ts, t.length ≤ c) : (PySem.Str.join (PySem.Str.ofString ", ") ts).length ≤ (c + 2) * ts.length := by
  have e2 : (PySem.Str.ofString ", ").length = 2 := by decide
  have ap : ∀ a b : PySem.Str, (a ++ b).length = a.length + b.length := fun a b => Array.size_append
  induction ts with
  | nil => show (PySem.Str.empty).length ≤ _; simp [PySem.Str.empty, PySem.Str.length]
  | cons t ts ih =>
    have h1 := h t List.mem_cons_self
    have ih := ih fun x hx => h x (List.mem_cons_of_mem _ hx)
    cases ts with
    | nil => show t.length ≤ _; simp; omega
    | cons u r =>
      show (t ++ PySem.Str.ofString ", " ++ PySem.Str.join (PySem.Str.ofString ", ") (u :: r)).length ≤ _
      rw [ap, ap, e2]
      rw [List.length_cons (a := t), Nat.mul_add]
      omega
theorem list_len (ds : List PySem.PyData) (c : Nat) (h : ∀ d ∈ ds, d.shown.length ≤ c) : (PySem.PyData.list ds).shown.length ≤ (c + 2) * ds.length + 2 := by
  have ap : ∀ a b : PySem.Str, (a ++ b).length = a.length + b.length := fun a b => Array.size_append
  rw [PySem.PyData.shown_list, ap, ap]
  have hall : ∀ ds : List PySem.PyData, (∀ d ∈ ds, d.shown.length ≤ c) → ∀ t ∈ PySem.PyData.shownAll ds, t.length ≤ c := by
    intro ds
    induction ds with
    | nil => intro _ t ht; cases ht
    | cons d ds ih =>
      intro h t ht
      rcases List.mem_cons.mp ht with rfl | ht
      · exact h d List.mem_cons_self
      · exact ih (fun x hx => h x (List.mem_cons_of_mem _ hx)) t ht
  have := join_len (PySem.PyData.shownAll ds) c (hall ds h)
  rw [PySem.PyData.shownAll_length] at this
  have e1 : (PySem.Str.ofString "[").length = 1 := by decide
  have e2 : (PySem.Str.ofString "]").length = 1 := by decide
  show (PySem.Str.ofString "[").length + _ + (PySem.Str.ofString "]").length ≤ _
  omega
theorem small_int : ∀ n : Fin 100, (PySem.PyData.int ((n.val : Nat) : Int)).shown.length ≤ 6 ∧ ((n.val : Nat) : Int).natAbs.log2 < 1920 := by decide +kernel
end M
/-! K32d: the law's lists, texts, things. -/
namespace M
theorem cut_len20 (gs : List Int) : (cut gs none (some 20)).length ≤ 20 ∧ (cut gs (some (-20)) none).length ≤ 20 := by
  constructor
  · unfold cut sIx
    dsimp only
    rw [if_neg (by decide), List.length_take]
    have : (20 : Int).toNat = 20 := rfl
    omega
  · unfold cut sIx
    dsimp only
    rw [if_pos (by decide), List.length_take, List.length_drop]
    omega
theorem ixW {g : G} {p : Nat} {ws : List W} {i : Nat} {w : W} {Q : W → G → Prop} (h : g[p]? = some (.lst ws)) (hi : ws[i]? = some w) : Ok (opIx (.ref p) (.int (i : Int)) g) Q ↔ Q w g := ixPU h hi
theorem s_rising {g : G} {p m n : Nat} (h : PU g p (m + 100)) (hn : n ≤ 60) : Ok (m__law_rising [.ref p, .int n, .int 20] g) fun w g' => ∃ b gs, w = .ref b ∧ g.length ≤ b ∧ b < g'.length ∧ Fr p g g' ∧ PU g' p m ∧ IL g' b gs ∧ Rise n gs := by
  have hpg := h.lt
  have eqI : ∀ (i j : Int) (g : G) (Q : W → G → Prop), Ok (opEq (.int i) (.int j) g) Q ↔ Q (.bl (i == j)) g := fun i j g Q => by
    unfold opEq
    simp only [rdD, eqD]
    rw [ok_ok]
  unfold m__law_rising b__law_rising
  simp only [ok_def, okS_seq, okS_ret, okS_asg, okS_if, okS_E, okS_par, okS_aug, okS_nop, nxt_nx, nxt_rt, okS_brk, okS_cnt, ok_var, ok_C, ok_op2, ok_op1, ok_call, ok_acons, ok_anil, ok_lst, ok_tup, ok_tVal, ok_mAnd, ok_mOr, ok_mNot, ok_if, ok_tNot, ok_tAnd, ok_tOr, ok_tYes, ok_chain, ok_star, ok_gName, ok_oNone, ok_oSome, ok_sl, ok_rev, ok_mt, ok_ok, ok_lc, okS_for, putL, wipe, startM, List.map_cons, List.map_nil, List.length_cons, List.length_nil, List.replicate, List.cons_append, List.nil_append, Nat.reduceAdd, Nat.reduceSub, List.getElem?_cons_zero, List.getElem?_cons_succ, List.set_cons_succ, List.set_cons_zero, Option.some.injEq, W.bl.injEq, W.int.injEq, W.ref.injEq, exists_eq_left', exists_eq_left, decide_eq_true_eq, true_and, and_true, ok_add, ok_sub, ok_lt, ok_le, ok_gt, ok_ge, ok_neg, ok_mul, ok_div, ok_mod, ok_pow, ok_max2, ok_min2, ok_abs, ok_int, ok_iLst, ok_iTup, ok_iEnum, ok_iZip, ok_iRng1, exists_list1, List.cons.injEq, exists_and_left, exists_const, exists_eq, if_true, if_false, Bool.not_true, Bool.not_false, Bool.false_eq_true, decide_true, decide_false]
  refine (s_pick (n := m + 99) (h.mono (by omega)) (by omega) (lgs (by omega) (by omega))).mono fun w g1 ⟨bent, e, z1, z2, f1, u1⟩ => ?_
  subst e
  refine ⟨inR_le (by omega) (by omega), ?_⟩
  rw [Int.toNat_natCast]
  have l1 := f1.1
  refine lc_invF n (fun i acc k => ∃ as : List Int, Fr p g k ∧ PU k p (m + 10 + (n - i)) ∧ acc = as.map .int ∧ as.Pairwise (· < ·) ∧ (∀ x ∈ as, 0 ≤ x ∧ x < i)) (Nat.le_trans hn (by decide)) (fun i acc k hi hd hp hal => ?_) (fun acc k hd hp => ?_) _ 0 [] _ (Nat.zero_add _) (get_new _ _) ⟨[], f1.trans (Fr.snoc _ _), (u1.ext (Ext.snoc _ _)).mono (by omega), rfl, .nil, fun x hx => (nomatch hx)⟩ (Nat.le_refl _)
  · obtain ⟨as, f, u, rfl, hp1, hp2⟩ := hp
    refine ⟨_, _, rng_at hi, ?_⟩
    have e0 : (0 : Int) + i = i := by omega
    rw [ok_gName, e0]
    have yes : ∀ (k' : G), k'[g1.length]? = some (.lst (as.map .int)) → Fr p g k' → PU k' p (m + 10 + (n - (i + 1))) → (k'[g1.length]? = some (.lst (as.map .int)) ∧ Fr p g (k'.set g1.length (.lst (as.map .int ++ [.int i]))) ∧ PU (k'.set g1.length (.lst (as.map .int ++ [.int i]))) p (m + 10 + (n - (i + 1))) ∧ ∃ bs : List Int, as.map .int ++ [W.int i] = bs.map .int ∧ bs.Pairwise (· < ·) ∧ (∀ x ∈ bs, 0 ≤ x ∧ x < ((i + 1 : Nat) : Int))) := by
      intro k' h1 h2 h3
      refine ⟨h1, h2.setNew (by omega) _, h3.set (by omega) _, as ++ [(i : Int)], by simp, ?_, fun x hx => ?_⟩
      · rw [List.pairwise_append]
        refine ⟨hp1, by simp, fun x hx y hy => ?_⟩
        rw [List.mem_singleton.mp hy]
        exact (hp2 x hx).2
      · rcases List.mem_append.mp hx with hx | hx
        · have := hp2 x hx; omega
        · rw [List.mem_singleton.mp hx]; omega
    simp only [ok_def, okS_seq, okS_ret, okS_asg, okS_if, okS_E, okS_par, okS_aug, okS_nop, nxt_nx, nxt_rt, okS_brk, okS_cnt, ok_var, ok_C, ok_op2, ok_op1, ok_call, ok_acons, ok_anil, ok_lst, ok_tup, ok_tVal, ok_mAnd, ok_mOr, ok_mNot, ok_if, ok_tNot, ok_tAnd, ok_tOr, ok_tYes, ok_chain, ok_star, ok_gName, ok_oNone, ok_oSome, ok_sl, ok_rev, ok_mt, ok_ok, ok_lc, okS_for, putL, wipe, startM, List.map_cons, List.map_nil, List.length_cons, List.length_nil, List.replicate, List.cons_append, List.nil_append, Nat.reduceAdd, Nat.reduceSub, List.getElem?_cons_zero, List.getElem?_cons_succ, List.set_cons_succ, List.set_cons_zero, Option.some.injEq, W.bl.injEq, W.int.injEq, W.ref.injEq, exists_eq_left', exists_eq_left, decide_eq_true_eq, true_and, and_true, ok_add, ok_sub, ok_lt, ok_le, ok_gt, ok_ge, ok_neg, ok_mul, ok_div, ok_mod, ok_pow, ok_max2, ok_min2, ok_abs, ok_int, ok_iLst, ok_iTup, ok_iEnum, ok_iZip, ok_iRng1, exists_list1, List.cons.injEq, exists_and_left, exists_const, exists_eq, if_true, if_false, Bool.not_true, Bool.not_false, Bool.false_eq_true, decide_true, decide_false, eqI]
    by_cases b3 : (bent == 3) = true
    · rw [if_pos b3]
      exact yes k hd f (u.mono (by omega))
    · rw [if_neg b3]
      refine ⟨by decide, ?_⟩
      have hL : IL (k ++ [O.lst [W.int 2, W.int 5, W.int 9, W.int 1]]) k.length [2, 5, 9, 1] := lst_new _ _
      rw [ok_ix hL z1 (by simp; omega)]
      have hsel : ∀ x ∈ ([2, 5, 9, 1] : List Int), 1 ≤ x ∧ x ≤ 9 := by decide
      have hs := hsel _ (getD_mem (ns := [2, 5, 9, 1]) (i := bent.toNat) (by simp; omega))
      refine (s_pick (n := m + 10 + (n - (i + 1))) ((u.ext (Ext.snoc _ _)).mono (by omega)) (by omega) (lgs (by omega) (by omega))).mono fun w k2 ⟨t, e, t1, t2, f2, u2⟩ => ?_
      subst e
      rw [eqI]
      have hd2 := f2.get ((Ext.snoc k (O.lst [W.int 2, W.int 5, W.int 9, W.int 1])).get hd) (by omega)
      have f3 := (f.trans (Fr.snoc k (O.lst [W.int 2, W.int 5, W.int 9, W.int 1]))).trans f2
      refine ⟨_, rfl, ?_⟩
      split
      · exact yes k2 hd2 f3 u2
      · exact ⟨hd2, f3, u2, as, rfl, hp1, fun x hx => by have := hp2 x hx; omega⟩
  · obtain ⟨as, f, u, rfl, hp1, hp2⟩ := hp
    refine ⟨rng_stop (Nat.le_refl _), ?_⟩
    have hA : lstAt k g1.length = some (as.map .int) := lstAt_of hd
    have hA2 := (Ext.snoc k (O.lst (cut (as.map W.int) none (some 20)))).lst hA
    simp only [ok_def, okS_seq, okS_ret, okS_asg, okS_if, okS_E, okS_par, okS_aug, okS_nop, nxt_nx, nxt_rt, okS_brk, okS_cnt, ok_var, ok_C, ok_op2, ok_op1, ok_call, ok_acons, ok_anil, ok_lst, ok_tup, ok_tVal, ok_mAnd, ok_mOr, ok_mNot, ok_if, ok_tNot, ok_tAnd, ok_tOr, ok_tYes, ok_chain, ok_star, ok_gName, ok_oNone, ok_oSome, ok_sl, ok_rev, ok_mt, ok_ok, ok_lc, okS_for, putL, wipe, startM, List.map_cons, List.map_nil, List.length_cons, List.length_nil, List.replicate, List.cons_append, List.nil_append, Nat.reduceAdd, Nat.reduceSub, List.getElem?_cons_zero, List.getElem?_cons_succ, List.set_cons_succ, List.set_cons_zero, Option.some.injEq, W.bl.injEq, W.int.injEq, W.ref.injEq, exists_eq_left', exists_eq_left, decide_eq_true_eq, true_and, and_true, ok_add, ok_sub, ok_lt, ok_le, ok_gt, ok_ge, ok_neg, ok_mul, ok_div, ok_mod, ok_pow, ok_max2, ok_min2, ok_abs, ok_int, ok_iLst, ok_iTup, ok_iEnum, ok_iZip, ok_iRng1, exists_list1, List.cons.injEq, exists_and_left, exists_const, exists_eq, if_true, if_false, Bool.not_true, Bool.not_false, Bool.false_eq_true, decide_true, decide_false]
    refine ⟨_, hA, _, hA2, by decide, ?_⟩
    rw [cut_map, cut_map]
    generalize hk1 : k ++ [O.lst ((cut as none (some 20)).map .int)] = k1
    have c1 : IL k1 k.length (cut as none (some 20)) := by rw [← hk1]; exact lst_new _ _
    have x1 : Ext k k1 := by rw [← hk1]; exact Ext.snoc _ _
    have hneg : -(20 : Int) = -20 := rfl
    generalize hk2 : k1 ++ [O.lst ((cut as (some (-20)) none).map .int)] = k2
    have c2 : IL k2 k1.length (cut as (some (-20)) none) := by rw [← hk2]; exact lst_new _ _
    have x2 : Ext k1 k2 := by rw [← hk2]; exact Ext.snoc _ _
    have hd3 := get_new k2 (O.lst [W.ref k.length, W.ref k1.length])
    have x3 := Ext.snoc k2 (O.lst [W.ref k.length, W.ref k1.length])
    generalize k2 ++ [O.lst [W.ref k.length, W.ref k1.length]] = k3 at *
    have X := x1.trans (x2.trans x3)
    have hkl := X.len
    have hx1 := x1.len
    have hx2 := x2.len
    have fl := f.1
    refine (s_pick (n := m) ((u.ext X).mono (by omega)) (by omega) (lgs (by omega) (by omega))).mono fun w k4 ⟨t, e, t1, t2, f4, u4⟩ => ?_
    subst e
    have hd4 := f4.get hd3 (by omega)
    have ff := (f.trans (X.fr p)).trans f4
    have rise : ∀ bs : List Int, bs.Sublist as → bs.length ≤ 20 → Rise n bs := fun bs hb hl => ⟨hp1.sublist hb, hl, fun x hx => hp2 x (hb.subset hx)⟩
    have c1' := ((c1.ext x2).ext x3).fr f4 (by omega)
    have c2' := (c2.ext x3).fr f4 (by omega)
    obtain ⟨j, rfl⟩ : ∃ j : Nat, t = j := ⟨t.toNat, by omega⟩
    rcases (show j = 0 ∨ j = 1 by omega) with rfl | rfl
    · rw [ixW hd4 (i := 0) rfl]
      exact ⟨_, rfl, by omega, c1'.lt, ff, u4, _, c1', rise _ (cut_sub _ _ _) (cut_len20 _).1⟩
    · rw [ixW hd4 (i := 1) rfl]
      exact ⟨_, rfl, by omega, c2'.lt, ff, u4, _, c2', rise _ (cut_sub _ _ _) (cut_len20 _).2⟩
/-! ### texts -/
def SD (c : Nat) (d : D) : Prop := (toPy d).showable = true ∧ (toPy d).shown.length ≤ c
theorem SD.mono {c e : Nat} {d : D} (h : SD c d) (l : c ≤ e) : SD e d := ⟨h.1, Nat.le_trans h.2 l⟩
theorem SD_int {i : Int} (h0 : 0 ≤ i) (h1 : i < 100) : SD 6 (.int i) := by
  have := small_int ⟨i.toNat, by omega⟩
  have e : ((i.toNat : Nat) : Int) = i := by omega
  simp only [e] at this
  exact ⟨by simp [toPy, PySem.PyData.showable]; exact this.2, this.1⟩
theorem SD_bl (b : Bool) : SD 6 (.bl b) := ⟨by cases b <;> rfl, by cases b <;> decide⟩
theorem SD_non : SD 6 .non := ⟨rfl, by decide⟩
theorem toPys_map (ds : List D) : toPys ds = ds.map toPy := by
  induction ds with
  | nil => rfl
  | cons d ds ih => rw [toPys, ih]; rfl
theorem SD_lst {c k : Nat} {ds : List D} (h : ∀ d ∈ ds, SD c d) (hk : ds.length ≤ k) : SD ((c + 2) * k + 2) (.lst ds) := by
  refine ⟨?_, ?_⟩
  · show PySem.PyData.showableAll (toPys ds) = true
    rw [toPys_map]
    exact PySem.Spec.showableAll_of fun x hx => by obtain ⟨d, hd, rfl⟩ := List.mem_map.mp hx; exact (h d hd).1
  · show (PySem.PyData.list (toPys ds)).shown.length ≤ _
    rw [toPys_map]
    have := list_len (ds.map toPy) c fun x hx => by obtain ⟨d, hd, rfl⟩ := List.mem_map.mp hx; exact (h d hd).2
    rw [List.length_map] at this
    exact Nat.le_trans this (Nat.add_le_add_right (Nat.mul_le_mul_left _ hk) 2)
theorem SD_ints {ns : List Int} (h : ∀ x ∈ ns, 0 ≤ x ∧ x < 100) (hl : ns.length ≤ 20) : SD 200 (.lst (ns.map .int)) :=
  (SD_lst (c := 6) (k := 20) (fun d hd => by obtain ⟨x, hx, rfl⟩ := List.mem_map.mp hd; exact SD_int (h x hx).1 (h x hx).2) (by simpa using hl)).mono (by decide)
theorem ok_repr {g : G} {w : W} {d : D} {c : Nat} {Q : W → G → Prop} (h : rdD 60 g w = some d) (s : SD c d) (hc : c ≤ 100000) : Ok (bRepr [w] g) Q ↔ Q (.str (toPy d).shown) g := by
  unfold bRepr
  dsimp only
  rw [h]
  dsimp only
  rw [s.1, decide_eq_true (Nat.le_trans s.2 (Nat.le_trans hc (by decide)))]
  exact ok_ok
theorem rd_lst {n z : Nat} {g : G} {ws : List W} {ds : List D} (h : g[z]? = some (.lst ws)) (hd : rdDs n g ws = some ds) : rdD (n + 1) g (.ref z) = some (.lst ds) := by
  rw [rdD, h]
  dsimp only
  rw [hd]
theorem ok_neS {g : G} {a b : PySem.Str} {Q : W → G → Prop} : Ok (opNe (.str a) (.str b) g) Q ↔ Q (.bl (!decide (a = b))) g := by
  unfold opNe
  exact ok_ok
theorem ok_eqS {g : G} {a b : PySem.Str} {Q : W → G → Prop} : Ok (opEq (.str a) (.str b) g) Q ↔ Q (.bl (decide (a = b))) g := by
  unfold opEq
  exact ok_ok
theorem ok_callP {f : Fn} {n : Nat} {pm : List Nat} {as : MA} {ρ : Env} {g : G} {Q : W → G → Prop} : Ok (mCallP f n pm as ρ g) Q ↔ Ok (as ρ g) fun xs g1 => xs.length = n ∧ Ok (f (pick pm xs) g1) Q := by
  unfold mCallP
  simp only [ok_bind, ok_iteB]
theorem pick2 {α : Type} (a b : α) : pick [0, 1] [a, b] = [a, b] := rfl
theorem pick3 {α : Type} (a b c : α) : pick [0, 1, 2] [a, b, c] = [a, b, c] := rfl
theorem ok_isN {w : W} {g : G} {Q : W → G → Prop} : Ok (opIsN w g) Q ↔ Q (.bl (decide (w = .non))) g := ok_ok
theorem ok_notN {w : W} {g : G} {Q : W → G → Prop} : Ok (opNotN w g) Q ↔ Q (.bl (!decide (w = .non))) g := ok_ok
theorem ok_in {g : G} {a : Nat} {l : List Int} {x : Int} {Q : W → G → Prop} (h : IL g a l) : Ok (opIn (.int x) (.ref a) g) Q ↔ Q (.bl (decide (x ∈ l))) g := by
  unfold opIn
  dsimp only
  rw [seq_of_lst h]
  dsimp only
  have e1 : (l.map W.int).all flat = true := by rw [List.all_eq_true]; intro w hw; obtain ⟨i, _, rfl⟩ := List.mem_map.mp hw; rfl
  have e2 : inF (.int x) (l.map .int) = decide (x ∈ l) := by
    unfold inF
    clear h e1
    induction l with
    | nil => rfl
    | cons a l ih =>
      rw [List.map_cons, List.any_cons, ih]
      simp only [eqF, List.mem_cons]
      by_cases q : a = x
      · simp [q]
      · have : ¬ x = a := fun e => q e.symm
        simp [q, this]
  rw [e1, e2]
  exact ok_ok
theorem mem_sel {n : Nat} {p : Int → Bool} {x : Int} (h0 : 0 ≤ x) (hb : ∀ y : Int, n ≤ y → p y = false) : decide (x ∈ sel n p) = p x := by
  by_cases hp : p x = true
  · rw [hp, decide_eq_true_eq]
    unfold sel
    rw [List.mem_map]
    have : x < n := by
      apply Classical.byContradiction
      intro hc
      have := hb x (by omega)
      rw [hp] at this
      cases this
    have e : ((x.toNat : Nat) : Int) = x := by omega
    exact ⟨x.toNat, List.mem_filter.mpr ⟨List.mem_range.mpr (by omega), by rw [e]; exact hp⟩, e⟩
  · have hf : p x = false := by simpa using hp
    rw [hf, decide_eq_false_iff_not]
    unfold sel
    rw [List.mem_map]
    rintro ⟨k, hk, rfl⟩
    exact hp (List.mem_filter.mp hk).2
theorem crowd_far {ns gs : List Int} (r : Rise ns.length gs) (h : ns.length ≤ 20) : ∀ y : Int, 20 ≤ y → crowd ns gs y = false := by
  intro y hy
  unfold crowd
  rw [decide_eq_false_iff_not]
  have := List.length_filter_le (fun w => decide (ns.getD w.toNat 0 ≤ y)) gs
  have := r.2.1
  omega
theorem lack_far {ns ss : List Int} (r : Rise 60 ss) : ∀ y : Int, 60 ≤ y → lack ns ss y = false := by
  intro y hy
  unfold lack
  rw [decide_eq_false_iff_not]
  have : ss.filter (fun s => decide (y ≤ s)) = [] := by
    rw [List.filter_eq_nil_iff]
    intro s hs
    have := r.2.2 s hs
    simp
    omega
  rw [this]
  simp
theorem crowd_own {ns gs : List Int} (r : Rise ns.length gs) : ∀ y : Int, (ns.length : Int) ≤ y → crowd ns gs y = false := by
  intro y hy
  unfold crowd
  rw [decide_eq_false_iff_not]
  have h1 := List.length_filter_le (fun w => decide (ns.getD w.toNat 0 ≤ y)) gs
  have h2 : gs.length ≤ ns.length := by
    have h2 : ∀ (m : Nat) (l : List Int), l.Pairwise (· < ·) → (∀ x ∈ l, 0 ≤ x ∧ x < m) → l.length ≤ m := by
      intro m
      induction m with
      | zero => intro l _ hx; cases l with
        | nil => simp
        | cons a l => have := hx a List.mem_cons_self; omega
      | succ m ih =>
        intro l hp hx
        rcases List.eq_nil_or_concat l with e | ⟨l', z, e⟩
        · rw [e]; simp
        · rw [List.concat_eq_append] at e
          subst e
          rw [List.pairwise_append] at hp
          have := ih l' hp.1 fun x hm => ⟨(hx x (List.mem_append_left _ hm)).1, by
            have h1 := hp.2.2 x hm z (by simp)
            have h2 := (hx z (by simp)).2
            omega⟩
          simp
          omega
    exact h2 ns.length gs r.1 r.2.2
  omega
/-! ### things -/
theorem odd_ty {g : G} {w : W} {t : String} (h : tyOf g w = some t) (hk : subTy t "int" = false ∨ subTy t "bool" = true ∨ ∃ i : Int, w = .int i ∧ i < 0) : Odd g w := by
  have key : Ok (m_is_integer [w] g) fun x g' => g' = g ∧ x = .bl (subTy t "int" && !subTy t "bool") := by
    have isi : ∀ (n : String) (Q : W → G → Prop), kinds.contains n = true → (Ok (bIsi [w, .ty n] g) Q ↔ Q (.bl (subTy t n)) g) := by
      intro n Q hn
      unfold bIsi
      dsimp only
      rw [h]
      dsimp only
      rw [if_pos hn]
      exact ok_ok
    unfold m_is_integer b_is_integer
    simp only [ok_def, okS_seq, okS_ret, okS_asg, okS_if, okS_E, okS_par, okS_aug, okS_nop, nxt_nx, nxt_rt, okS_brk, okS_cnt, ok_var, ok_C, ok_op2, ok_op1, ok_call, ok_acons, ok_anil, ok_lst, ok_tup, ok_tVal, ok_mAnd, ok_mOr, ok_mNot, ok_if, ok_tNot, ok_tAnd, ok_tOr, ok_tYes, ok_chain, ok_star, ok_gName, ok_oNone, ok_oSome, ok_sl, ok_rev, ok_mt, ok_ok, ok_lc, okS_for, putL, wipe, startM, List.map_cons, List.map_nil, List.length_cons, List.length_nil, List.replicate, List.cons_append, List.nil_append, Nat.reduceAdd, Nat.reduceSub, List.getElem?_cons_zero, List.getElem?_cons_succ, List.set_cons_succ, List.set_cons_zero, Option.some.injEq, W.bl.injEq, W.int.injEq, W.ref.injEq, exists_eq_left', exists_eq_left, decide_eq_true_eq, true_and, and_true, ok_add, ok_sub, ok_lt, ok_le, ok_gt, ok_ge, ok_neg, ok_mul, ok_div, ok_mod, ok_pow, ok_max2, ok_min2, ok_abs, ok_int, ok_iLst, ok_iTup, ok_iEnum, ok_iZip, ok_iRng1, exists_list1, List.cons.injEq, exists_and_left, exists_const, exists_eq, if_true, if_false, Bool.not_true, Bool.not_false, Bool.false_eq_true, decide_true, decide_false, isi "int" _ (by decide), isi "bool" _ (by decide)]
    cases subTy t "int" <;> cases subTy t "bool" <;> simp
  obtain ⟨x, g', e, rfl, rfl⟩ := key
  refine ⟨_, e, fun hb => ?_⟩
  rw [Bool.and_eq_true] at hb
  rcases hk with h1 | h1 | h1
  · rw [h1] at hb; simp at hb
  · rw [h1] at hb; simp at hb
  · exact h1
theorem tyOf_ext {g g' : G} {a : Nat} {o : O} (h : Ext g g') (e : g[a]? = some o) : tyOf g' (.ref a) = tyOf g (.ref a) := by
  unfold tyOf
  dsimp only
  rw [h.get e, e]
theorem odd_ref {g : G} {a : Nat} {o : O} (h : g[a]? = some o) (ho : ∀ c fs, o ≠ .ins c fs) : Odd g (.ref a) := by
  cases o with
  | lst ws => exact odd_ty (t := "list") (by unfold tyOf; dsimp only; rw [h]) (.inl (by decide))
  | fls ws => exact odd_ty (t := "list") (by unfold tyOf; dsimp only; rw [h]) (.inl (by decide))
  | tup ws => exact odd_ty (t := "tuple") (by unfold tyOf; dsimp only; rw [h]) (.inl (by decide))
  | dct kvs => exact odd_ty (t := "dict") (by unfold tyOf; dsimp only; rw [h]) (.inl (by decide))
  | ins c fs => exact absurd rfl (ho c fs)
theorem ok_D0 {ρ : Env} {g : G} {Q : W → G → Prop} : Ok (mD0 ρ g) Q ↔ Q (.ref g.length) (g ++ [.dct []]) := ok_ok
theorem ok_D1 {x : M.Str} {i : Int} {ρ : Env} {g : G} {Q : W → G → Prop} : Ok (mD1 x i ρ g) Q ↔ Q (.ref g.length) (g ++ [.dct [(.inr x, .int i)]]) := ok_ok
theorem s_things (g : G) : Ok (m__law_things [] g) fun w g' => Ext g g' ∧ ∃ b ws, w = .ref b ∧ g'[b]? = some (.lst ws) ∧ ws.length ≤ 20 ∧ ∀ x ∈ ws, ∀ g'', Ext g' g'' → Odd g'' x := by
  unfold m__law_things b__law_things
  simp only [ok_def, okS_seq, okS_ret, okS_asg, okS_if, okS_E, okS_par, okS_aug, okS_nop, nxt_nx, nxt_rt, okS_brk, okS_cnt, ok_var, ok_C, ok_op2, ok_op1, ok_call, ok_acons, ok_anil, ok_lst, ok_tup, ok_tVal, ok_mAnd, ok_mOr, ok_mNot, ok_if, ok_tNot, ok_tAnd, ok_tOr, ok_tYes, ok_chain, ok_star, ok_gName, ok_oNone, ok_oSome, ok_sl, ok_rev, ok_mt, ok_ok, ok_lc, okS_for, putL, wipe, startM, List.map_cons, List.map_nil, List.length_cons, List.length_nil, List.replicate, List.cons_append, List.nil_append, Nat.reduceAdd, Nat.reduceSub, List.getElem?_cons_zero, List.getElem?_cons_succ, List.set_cons_succ, List.set_cons_zero, Option.some.injEq, W.bl.injEq, W.int.injEq, W.ref.injEq, exists_eq_left', exists_eq_left, decide_eq_true_eq, true_and, and_true, ok_add, ok_sub, ok_lt, ok_le, ok_gt, ok_ge, ok_neg, ok_mul, ok_div, ok_mod, ok_pow, ok_max2, ok_min2, ok_abs, ok_int, ok_iLst, ok_iTup, ok_iEnum, ok_iZip, ok_iRng1, exists_list1, List.cons.injEq, exists_and_left, exists_const, exists_eq, if_true, if_false, Bool.not_true, Bool.not_false, Bool.false_eq_true, decide_true, decide_false, ok_D0, ok_D1]
  refine ⟨by decide, by decide, by decide, by decide, ⟨by decide, by decide, by decide⟩, by decide, by decide, by decide, by decide, ?_⟩
  generalize hA : g ++ [O.tup []] = gA
  have xA : Ext g gA := by rw [← hA]; exact Ext.snoc _ _
  have nA : gA[g.length]? = some (.tup []) := by rw [← hA]; exact get_new _ _
  generalize hB : gA ++ [O.lst []] = gB
  have xB : Ext gA gB := by rw [← hB]; exact Ext.snoc _ _
  have nB : gB[gA.length]? = some (.lst []) := by rw [← hB]; exact get_new _ _
  generalize hC : gB ++ [O.dct []] = gC
  have xC : Ext gB gC := by rw [← hC]; exact Ext.snoc _ _
  have nC : gC[gB.length]? = some (.dct []) := by rw [← hC]; exact get_new _ _
  generalize hD : gC ++ [O.lst [W.int 0]] = gD
  have xD : Ext gC gD := by rw [← hD]; exact Ext.snoc _ _
  have nD : gD[gC.length]? = some (.lst [W.int 0]) := by rw [← hD]; exact get_new _ _
  generalize hE : gD ++ [O.tup [W.int 0]] = gE
  have xE : Ext gD gE := by rw [← hE]; exact Ext.snoc _ _
  have nE : gE[gD.length]? = some (.tup [W.int 0]) := by rw [← hE]; exact get_new _ _
  generalize hF : gE ++ [O.lst [W.non]] = gF
  have xF : Ext gE gF := by rw [← hF]; exact Ext.snoc _ _
  have nF : gF[gE.length]? = some (.lst [W.non]) := by rw [← hF]; exact get_new _ _
  generalize hG : gF ++ [O.dct [(Sum.inr (PySem.Str.ofString "0"), W.int 0)]] = gG
  have xG : Ext gF gG := by rw [← hG]; exact Ext.snoc _ _
  have nG : gG[gF.length]? = some (.dct [(Sum.inr (PySem.Str.ofString "0"), W.int 0)]) := by rw [← hG]; exact get_new _ _
  generalize hH : gG ++ [O.tup []] = gH
  have xH : Ext gG gH := by rw [← hH]; exact Ext.snoc _ _
  generalize hI : gH ++ [O.tup [W.ref gG.length]] = gI
  have xI : Ext gH gI := by rw [← hI]; exact Ext.snoc _ _
  have nI : gI[gH.length]? = some (.tup [W.ref gG.length]) := by rw [← hI]; exact get_new _ _
  refine ⟨xA.trans (xB.trans (xC.trans (xD.trans (xE.trans (xF.trans (xG.trans (xH.trans (xI.trans (Ext.snoc _ _))))))))), _, get_new _ _, (show 16 ≤ 20 by decide), fun x hx g'' h => ?_⟩
  have yI := (Ext.snoc gI _).trans h
  have yH := xI.trans yI
  have yG := xH.trans yH
  have yF := xG.trans yG
  have yE := xF.trans yF
  have yD := xE.trans yE
  have yC := xD.trans yD
  have yB := xC.trans yC
  have yA := xB.trans yB
  simp only [List.mem_cons, List.not_mem_nil, or_false] at hx
  rcases hx with rfl | rfl | rfl | rfl | rfl | rfl | rfl | rfl | rfl | rfl | rfl | rfl | rfl | rfl | rfl | rfl
  · exact odd_ty (t := "NoneType") rfl (.inl (by decide))
  · exact odd_ty (t := "bool") rfl (.inr (.inl (by decide)))
  · exact odd_ty (t := "bool") rfl (.inr (.inl (by decide)))
  · exact odd_ty (t := "str") rfl (.inl (by decide))
  · exact odd_ty (t := "str") rfl (.inl (by decide))
  · exact odd_ref (yA.get nA) (fun _ _ => nofun)
  · exact odd_ref (yB.get nB) (fun _ _ => nofun)
  · exact odd_ref (yC.get nC) (fun _ _ => nofun)
  · exact odd_ref (yD.get nD) (fun _ _ => nofun)
  · exact odd_ref (yE.get nE) (fun _ _ => nofun)
  · exact odd_ty (t := "int") rfl (.inr (.inr ⟨_, rfl, by decide⟩))
  · exact odd_ty (t := "int") rfl (.inr (.inr ⟨_, rfl, by decide⟩))
  · exact odd_ref (yF.get nF) (fun _ _ => nofun)
  · exact odd_ty (t := "str") rfl (.inl (by decide))
  · exact odd_ref (yG.get nG) (fun _ _ => nofun)
  · exact odd_ref (yI.get nI) (fun _ _ => nofun)
end M
/-! K32e: the law. -/
namespace M
theorem sel_crowd {ns gs : List Int} (r : Rise ns.length gs) (h : ns.length ≤ 20) : sel 70 (crowd ns gs) = sel ns.length (crowd ns gs) :=
  sel_more (by omega) fun k h1 _ => crowd_own r k (by omega)
theorem sel_lack {ns ss : List Int} (r : Rise 60 ss) : sel 70 (lack ns ss) = sel 60 (lack ns ss) :=
  sel_more (by omega) fun k h1 _ => lack_far r k (by omega)
theorem fst_rd (l : List Int) : ∃ d, (∀ n g, rdD n g (fst l) = some d) ∧ ((∀ x ∈ l, 0 ≤ x ∧ x < 100) → SD 6 d) := by
  cases l with
  | nil => exact ⟨.non, fun n g => by show rdD n g .non = _; cases n <;> rw [rdD], fun _ => SD_non⟩
  | cons a l => exact ⟨.int a, fun n g => by show rdD n g (.int a) = _; cases n <;> rw [rdD], fun h => SD_int (h a List.mem_cons_self).1 (h a List.mem_cons_self).2⟩
theorem sel_small {n : Nat} {p : Int → Bool} (h : n ≤ 100) : ∀ x ∈ sel n p, 0 ≤ x ∧ x < 100 := by
  intro x hx
  unfold sel at hx
  obtain ⟨k, hk, rfl⟩ := List.mem_map.mp hx
  have := List.mem_range.mp (List.mem_filter.mp hk).1
  omega
theorem rd_bl (n : Nat) (g : G) (b : Bool) : rdD n g (.bl b) = some (.bl b) := by cases n <;> rw [rdD]
/-- the text of [w, b] -/
theorem ok_repr2 {g : G} {w : W} {b : Bool} {z : Nat} {d : D} {Q : W → G → Prop} (h : g[z]? = some (.lst [w, .bl b])) (hd : ∀ n g, rdD n g w = some d) (s : SD 6 d) : Ok (bRepr [.ref z] g) Q ↔ Q (.str (toPy (.lst [d, .bl b])).shown) g := by
  refine ok_repr (c := 18) (rd_lst h ?_) (SD_lst (c := 6) (k := 2) (fun x hx => ?_) (by simp)) (by omega)
  · rw [rdDs, hd]
    dsimp only
    rw [rdDs, rd_bl]
    dsimp only
    rw [rdDs]
  · simp only [List.mem_cons, List.not_mem_nil, or_false] at hx
    rcases hx with rfl | rfl
    · exact s
    · exact SD_bl b
theorem ok_repr3 {g : G} {a b c z : Nat} {ns gs ss : List Int} {Q : W → G → Prop} (h : g[z]? = some (.lst [.ref a, .ref b, .ref c])) (ha : IL g a ns) (hb : IL g b gs) (hc : IL g c ss) (sa : SD 200 (.lst (ns.map .int))) (sb : SD 200 (.lst (gs.map .int))) (sc : SD 200 (.lst (ss.map .int))) :
    Ok (bRepr [.ref z] g) Q ↔ Q (.str (toPy (.lst [.lst (ns.map .int), .lst (gs.map .int), .lst (ss.map .int)])).shown) g := by
  refine ok_repr (c := (200 + 2) * 3 + 2) (rd_lst h ?_) (SD_lst (c := 200) (k := 3) (fun x hx => ?_) (by simp)) (by omega)
  · rw [rdDs, rdD_IL ha]
    dsimp only
    rw [rdDs, rdD_IL hb]
    dsimp only
    rw [rdDs, rdD_IL hc]
    dsimp only
    rw [rdDs]
  · simp only [List.mem_cons, List.not_mem_nil, or_false] at hx
    rcases hx with rfl | rfl | rfl
    · exact sa
    · exact sb
    · exact sc
theorem ok_reprB {g : G} {b : Bool} {Q : W → G → Prop} : Ok (bRepr [.bl b] g) Q ↔ Q (.str (toPy (.bl b)).shown) g := ok_repr (rd_bl 60 g b) (SD_bl b) (by omega)
theorem shown_ff : (toPy (.lst [.bl false, .bl false])).shown = PySem.Str.ofString "[False, False]" := by decide +kernel
def rg (a b : Int) : List Int := (List.range (b - a).toNat).map fun i : Nat => a + i
theorem rgW_eq (a b : Int) : rgW a b = (rg a b).map .int := by
  unfold rgW rg
  rw [List.map_map]
  rfl
theorem ok_lrg1c {n : Int} {ρ : Env} {g : G} {Q : W → G → Prop} (h : inR2 0 n = true) : Ok (mLrg1 (mC (.int n)) ρ g) Q ↔ Q (.ref g.length) (g ++ [.lst ((rg 0 n).map .int)]) := by
  unfold mLrg1
  rw [ok_bind, ok_C]
  dsimp only
  rw [if_pos h, ok_ok, rgW_eq]
theorem ok_lrg2c {n k : Int} {ρ : Env} {g : G} {Q : W → G → Prop} (h : inR2 n k = true) : Ok (mLrg2 (mC (.int n)) (mC (.int k)) ρ g) Q ↔ Q (.ref g.length) (g ++ [.lst ((rg n k).map .int)]) := by
  unfold mLrg2
  rw [ok_bind, ok_C, ok_bind, ok_C]
  dsimp only
  rw [if_pos h, ok_ok, rgW_eq]
theorem rg_len (a b : Int) : (rg a b).length = (b - a).toNat := by simp [rg]
theorem rg_mem {a b x : Int} (h : x ∈ rg a b) : a ≤ x ∧ x < b := by
  unfold rg at h
  obtain ⟨i, hi, rfl⟩ := List.mem_map.mp h
  have := List.mem_range.mp hi
  omega
theorem W_at {g : G} {a i : Nat} {ws : List W} {w : W} (h : g[a]? = some (.lst ws)) (hi : ws[i]? = some w) : itAt (.lst a) i g = .go w g := by
  unfold itAt
  dsimp only
  rw [lstAt_of h]
  dsimp only
  rw [hi]
theorem W_stop {g : G} {a i : Nat} {ws : List W} (h : g[a]? = some (.lst ws)) (hi : ws.length ≤ i) : itAt (.lst a) i g = .stop := by
  unfold itAt
  dsimp only
  rw [lstAt_of h]
  dsimp only
  rw [List.getElem?_eq_none hi]
theorem W_len {g : G} {a : Nat} {ws : List W} (h : g[a]? = some (.lst ws)) : itLen (.lst a) g = ws.length := by
  unfold itLen
  dsimp only
  rw [lstAt_of h]
  rfl
theorem s_right {g : G} {p a b c m : Nat} {ns gs ss : List Int} (u : PU g p (m + 10)) (ha : IL g a ns) (hb : IL g b gs) (hc : IL g c ss) (hap : a ≠ p) (hbp : b ≠ p) (hcp : c ≠ p) (t : Team ns) (r : Rise ns.length gs) (r2 : Rise 60 ss) :
    Ok (m__law_right [.ref p, .ref a, .ref b, .ref c] g) fun w g' => w = .bl true ∧ Fr p g g' ∧ PU g' p m := by
  have sA : SD 200 (.lst (ns.map .int)) := SD_ints (fun x hx => by have := t.lt x hx; omega) t.2.1
  have sB : SD 200 (.lst (gs.map .int)) := SD_ints (fun x hx => by have := r.2.2 x hx; have := t.2.1; omega) r.2.1
  have sC : SD 200 (.lst (ss.map .int)) := SD_ints (fun x hx => by have := r2.2.2 x hx; omega) r2.2.1
  have lN : ns.length ≤ SZ := Nat.le_trans t.2.1 (by decide)
  have lS : ss.length ≤ SZ := Nat.le_trans r2.2.1 (by decide)
  unfold m__law_right b__law_right
  simp only [ok_def, okS_seq, okS_ret, okS_asg, okS_if, okS_E, okS_par, okS_aug, okS_nop, nxt_nx, nxt_rt, okS_brk, okS_cnt, ok_var, ok_C, ok_op2, ok_op1, ok_call, ok_acons, ok_anil, ok_lst, ok_tup, ok_tVal, ok_mAnd, ok_mOr, ok_mNot, ok_if, ok_tNot, ok_tAnd, ok_tOr, ok_tYes, ok_chain, ok_star, ok_gName, ok_oNone, ok_oSome, ok_sl, ok_rev, ok_mt, ok_ok, ok_lc, okS_for, putL, wipe, startM, List.map_cons, List.map_nil, List.length_cons, List.length_nil, List.replicate, List.cons_append, List.nil_append, Nat.reduceAdd, Nat.reduceSub, List.getElem?_cons_zero, List.getElem?_cons_succ, List.set_cons_succ, List.set_cons_zero, Option.some.injEq, W.bl.injEq, W.int.injEq, W.ref.injEq, exists_eq_left', exists_eq_left, decide_eq_true_eq, true_and, and_true, ok_add, ok_sub, ok_lt, ok_le, ok_gt, ok_ge, ok_neg, ok_mul, ok_div, ok_mod, ok_pow, ok_max2, ok_min2, ok_abs, ok_int, ok_iLst, ok_iTup, ok_iEnum, ok_iZip, ok_iRng1, exists_list1, List.cons.injEq, exists_and_left, exists_const, exists_eq, if_true, if_false, Bool.not_true, Bool.not_false, Bool.false_eq_true, decide_true, decide_false, ok_callP, pick2, pick3]
  refine ⟨by decide, ?_⟩
  have x1 := Ext.snoc g (O.lst [W.ref a, W.ref b, W.ref c])
  rw [ok_repr3 (get_new _ _) (ha.ext x1) (hb.ext x1) (hc.ext x1) sA sB sC]
  generalize hS0 : (toPy (.lst [.lst (ns.map .int), .lst (gs.map .int), .lst (ss.map .int)])).shown = S0
  generalize g ++ [O.lst [W.ref a, W.ref b, W.ref c]] = g1 at *
  have ha1 := ha.ext x1
  have hb1 := hb.ext x1
  have hc1 := hc.ext x1
  refine ⟨by decide, ?_⟩
  refine lc_filterR (n := 70) (p := fun k => crowd ns gs k) (by decide) (fun v => rfl) (fun k g' hk hx => ?_) fun g2 x2 hl2 _ => ?_
  · simp only [ok_def, okS_seq, okS_ret, okS_asg, okS_if, okS_E, okS_par, okS_aug, okS_nop, nxt_nx, nxt_rt, okS_brk, okS_cnt, ok_var, ok_C, ok_op2, ok_op1, ok_call, ok_acons, ok_anil, ok_lst, ok_tup, ok_tVal, ok_mAnd, ok_mOr, ok_mNot, ok_if, ok_tNot, ok_tAnd, ok_tOr, ok_tYes, ok_chain, ok_star, ok_gName, ok_oNone, ok_oSome, ok_sl, ok_rev, ok_mt, ok_ok, ok_lc, okS_for, putL, wipe, startM, List.map_cons, List.map_nil, List.length_cons, List.length_nil, List.replicate, List.cons_append, List.nil_append, Nat.reduceAdd, Nat.reduceSub, List.getElem?_cons_zero, List.getElem?_cons_succ, List.set_cons_succ, List.set_cons_zero, Option.some.injEq, W.bl.injEq, W.int.injEq, W.ref.injEq, exists_eq_left', exists_eq_left, decide_eq_true_eq, true_and, and_true, ok_add, ok_sub, ok_lt, ok_le, ok_gt, ok_ge, ok_neg, ok_mul, ok_div, ok_mod, ok_pow, ok_max2, ok_min2, ok_abs, ok_int, ok_iLst, ok_iTup, ok_iEnum, ok_iZip, ok_iRng1, exists_list1, List.cons.injEq, exists_and_left, exists_const, exists_eq, if_true, if_false, Bool.not_true, Bool.not_false, Bool.false_eq_true, decide_true, decide_false]
    exact (s_law_crowd (ha1.ext hx) (hb1.ext hx) r).mono fun w g4 ⟨q1, q2⟩ => ⟨_, q2, q1, rfl⟩
  change IL g2 g1.length (sel 70 (crowd ns gs)) at hl2
  rw [sel_crowd r t.2.1] at hl2
  refine fst_ok hl2 fun g3 x3 => ?_
  obtain ⟨d, hd, hds⟩ := fst_rd (sel ns.length (crowd ns gs))
  have hds := hds (sel_small (by have := t.2.1; omega))
  have X3 := x2.trans x3
  try dsimp only
  refine (s_work_paper (ha1.ext X3) t (hb1.ext X3) r).mono fun _ g4 ⟨x4, e⟩ => ?_
  subst e
  have X4 := X3.trans x4
  refine (s_can_work (ha1.ext X4) t (hb1.ext X4) r).mono fun _ g5 ⟨x5, e⟩ => ?_
  subst e
  refine ⟨by decide, ?_⟩
  rw [ok_repr2 (get_new _ _) hd hds, ok_isN]
  refine ⟨by decide, ?_⟩
  rw [ok_repr2 (get_new _ _) hd hds, ok_neS]
  refine ⟨_, rfl, ?_⟩
  rw [decide_eq_true rfl, if_neg (by decide)]
  have X6 := X4.trans (x5.trans ((Ext.snoc g5 (O.lst [fst (sel ns.length (crowd ns gs)), W.bl (decide (fst (sel ns.length (crowd ns gs)) = W.non))])).trans (Ext.snoc _ (O.lst [fst (sel ns.length (crowd ns gs)), W.bl (decide (fst (sel ns.length (crowd ns gs)) = W.non))]))))
  have hlC := hl2.ext (x3.trans (x4.trans (x5.trans ((Ext.snoc g5 (O.lst [fst (sel ns.length (crowd ns gs)), W.bl (decide (fst (sel ns.length (crowd ns gs)) = W.non))])).trans (Ext.snoc _ (O.lst [fst (sel ns.length (crowd ns gs)), W.bl (decide (fst (sel ns.length (crowd ns gs)) = W.non))]))))))
  generalize g5 ++ [O.lst [fst (sel ns.length (crowd ns gs)), W.bl (decide (fst (sel ns.length (crowd ns gs)) = W.non))]] ++ [O.lst [fst (sel ns.length (crowd ns gs)), W.bl (decide (fst (sel ns.length (crowd ns gs)) = W.non))]] = g6 at *
  refine ⟨by decide, ?_⟩
  refine lc_filterR (n := 70) (p := fun k => lack ns ss k) (by decide) (fun v => rfl) (fun k g' hk hx => ?_) fun g7 x7 hl7 _ => ?_
  · simp only [ok_def, okS_seq, okS_ret, okS_asg, okS_if, okS_E, okS_par, okS_aug, okS_nop, nxt_nx, nxt_rt, okS_brk, okS_cnt, ok_var, ok_C, ok_op2, ok_op1, ok_call, ok_acons, ok_anil, ok_lst, ok_tup, ok_tVal, ok_mAnd, ok_mOr, ok_mNot, ok_if, ok_tNot, ok_tAnd, ok_tOr, ok_tYes, ok_chain, ok_star, ok_gName, ok_oNone, ok_oSome, ok_sl, ok_rev, ok_mt, ok_ok, ok_lc, okS_for, putL, wipe, startM, List.map_cons, List.map_nil, List.length_cons, List.length_nil, List.replicate, List.cons_append, List.nil_append, Nat.reduceAdd, Nat.reduceSub, List.getElem?_cons_zero, List.getElem?_cons_succ, List.set_cons_succ, List.set_cons_zero, Option.some.injEq, W.bl.injEq, W.int.injEq, W.ref.injEq, exists_eq_left', exists_eq_left, decide_eq_true_eq, true_and, and_true, ok_add, ok_sub, ok_lt, ok_le, ok_gt, ok_ge, ok_neg, ok_mul, ok_div, ok_mod, ok_pow, ok_max2, ok_min2, ok_abs, ok_int, ok_iLst, ok_iTup, ok_iEnum, ok_iZip, ok_iRng1, exists_list1, List.cons.injEq, exists_and_left, exists_const, exists_eq, if_true, if_false, Bool.not_true, Bool.not_false, Bool.false_eq_true, decide_true, decide_false]
    exact (s_law_lack ((ha1.ext X6).ext hx) lN ((hc1.ext X6).ext hx) lS).mono fun w g4 ⟨q1, q2⟩ => ⟨_, q2, q1, rfl⟩
  change IL g7 g6.length (sel 70 (lack ns ss)) at hl7
  rw [sel_lack r2] at hl7
  refine fst_ok hl7 fun g8 x8 => ?_
  obtain ⟨d2, hd2, hds2⟩ := fst_rd (sel 60 (lack ns ss))
  have hds2 := hds2 (sel_small (by omega))
  have X8 := X6.trans (x7.trans x8)
  try dsimp only
  refine (s_give_paper (ha1.ext X8) t (hc1.ext X8) r2).mono fun _ g9 ⟨x9, e⟩ => ?_
  subst e
  have X9 := X8.trans x9
  refine (s_can_give (ha1.ext X9) t (hc1.ext X9) r2).mono fun _ g10 ⟨x10, e⟩ => ?_
  subst e
  refine ⟨by decide, ?_⟩
  rw [ok_repr2 (get_new _ _) hd2 hds2, ok_isN]
  refine ⟨by decide, ?_⟩
  rw [ok_repr2 (get_new _ _) hd2 hds2, ok_neS]
  refine ⟨_, rfl, ?_⟩
  rw [decide_eq_true rfl, if_neg (by decide)]
  have x11 := x8.trans (x9.trans (x10.trans ((Ext.snoc g10 (O.lst [fst (sel 60 (lack ns ss)), W.bl (decide (fst (sel 60 (lack ns ss)) = W.non))])).trans (Ext.snoc _ (O.lst [fst (sel 60 (lack ns ss)), W.bl (decide (fst (sel 60 (lack ns ss)) = W.non))])))))
  have hlL := hl7.ext x11
  have hlC := hlC.ext (x7.trans x11)
  have X11 := X6.trans (x7.trans x11)
  generalize g10 ++ [O.lst [fst (sel 60 (lack ns ss)), W.bl (decide (fst (sel 60 (lack ns ss)) = W.non))]] ++ [O.lst [fst (sel 60 (lack ns ss)), W.bl (decide (fst (sel 60 (lack ns ss)) = W.non))]] = g11 at *
  have hpg := u.lt
  have hg1l := x1.len
  have hg6l := X6.len
  rw [ok_lrg1c (by decide)]
  refine ⟨⟨by decide, by decide, by decide⟩, ⟨by decide, by decide, by decide⟩, ?_⟩
  have x12 := Ext.snoc g11 (O.lst ((rg 0 63).map .int))
  have hR12 := get_new g11 (O.lst ((rg 0 63).map .int))
  have hg11l := X11.len
  generalize g11 ++ [O.lst ((rg 0 63).map .int)] = g12 at *
  have X12 := x1.trans (X11.trans x12)
  refine (s_pick (n := m) ((u.ext X12).mono (by omega)) (by decide) (by decide)).mono fun w g13 ⟨tt, e, t1, t2, f13, u13⟩ => ?_
  subst e
  rw [ok_add]
  refine ⟨by decide, ?_⟩
  have hR13 := f13.get hR12 (by omega)
  have x14 := Ext.snoc g13 (O.lst [W.int (10 ^ Int.toNat 30), W.int (100 + tt)])
  have hR14 := x14.get hR13
  have hN14 := get_new g13 (O.lst [W.int (10 ^ Int.toNat 30), W.int (100 + tt)])
  have h12l := X12.len
  have h13l := f13.1
  generalize g13 ++ [O.lst [W.int (10 ^ Int.toNat 30), W.int (100 + tt)]] = g14 at *
  rw [ok_addL hR14 hN14 (show _ ≤ SZ by simp [rg]; decide)]
  have x15 := Ext.snoc g14 (O.lst ((rg 0 63).map W.int ++ [W.int (10 ^ Int.toNat 30), W.int (100 + tt)]))
  have hX : IL (g14 ++ [O.lst ((rg 0 63).map W.int ++ [W.int (10 ^ Int.toNat 30), W.int (100 + tt)])]) g14.length (rg 0 63 ++ [10 ^ Int.toNat 30, 100 + tt]) := by
    have := lst_new g14 ((rg 0 63).map W.int ++ [W.int (10 ^ Int.toNat 30), W.int (100 + tt)])
    unfold IL
    rw [this, List.map_append]
    rfl
  have hxs : ∀ x ∈ rg 0 63 ++ [10 ^ Int.toNat 30, 100 + tt], 0 ≤ x := by
    intro x hx
    rcases List.mem_append.mp hx with hx | hx
    · exact (rg_mem hx).1
    · simp only [List.mem_cons, List.not_mem_nil, or_false] at hx
      rcases hx with rfl | rfl
      · decide
      · omega
  generalize rg 0 63 ++ [10 ^ Int.toNat 30, 100 + tt] = xs at *
  generalize g14 ++ [O.lst ((rg 0 63).map W.int ++ [W.int (10 ^ Int.toNat 30), W.int (100 + tt)])] = g15 at *
  have y15 := x14.trans x15
  have F15 := (X12.fr p).trans (f13.trans (y15.fr p))
  have u15 := u13.ext y15
  have ha15 := ha.fr F15 hap
  have hb15 := hb.fr F15 hbp
  have hc15 := hc.fr F15 hcp
  have hlC15 := (hlC.ext x12).fr (f13.trans (y15.fr p)) (by omega)
  have hlL15 := (hlL.ext x12).fr (f13.trans (y15.fr p)) (by omega)
  refine ⟨_, rfl, _, hX, ?_⟩
  rw [hX.itl]
  generalize hT : nxt _ _ = T
  refine forGo_inv xs.length (fun i ρ k => ∃ r8 : Option W, ρ = [some (.ref p), some (.ref a), some (.ref b), some (.ref c), some (.str S0), some (.ref g1.length), some (fst (sel 60 (lack ns ss))), some (.ref g6.length), r8, none] ∧ Ext g15 k) (fun i ρ k hi hp => ?_) (fun ρ k hp => ?_) _ 0 _ _ (Nat.zero_add _) ⟨_, rfl, Ext.refl _⟩
  · obtain ⟨r8, rfl, hk⟩ := hp
    have hx0 := hxs _ (getD_mem hi)
    refine ⟨_, _, (hX.ext hk).at hi, ?_⟩
    generalize xs.getD i 0 = x at *
    simp only [ok_def, okS_seq, okS_ret, okS_asg, okS_if, okS_E, okS_par, okS_aug, okS_nop, nxt_nx, nxt_rt, okS_brk, okS_cnt, ok_var, ok_C, ok_op2, ok_op1, ok_call, ok_acons, ok_anil, ok_lst, ok_tup, ok_tVal, ok_mAnd, ok_mOr, ok_mNot, ok_if, ok_tNot, ok_tAnd, ok_tOr, ok_tYes, ok_chain, ok_star, ok_gName, ok_oNone, ok_oSome, ok_sl, ok_rev, ok_mt, ok_ok, ok_lc, okS_for, putL, wipe, startM, List.map_cons, List.map_nil, List.length_cons, List.length_nil, List.replicate, List.cons_append, List.nil_append, Nat.reduceAdd, Nat.reduceSub, List.getElem?_cons_zero, List.getElem?_cons_succ, List.set_cons_succ, List.set_cons_zero, Option.some.injEq, W.bl.injEq, W.int.injEq, W.ref.injEq, exists_eq_left', exists_eq_left, decide_eq_true_eq, true_and, and_true, ok_add, ok_sub, ok_lt, ok_le, ok_gt, ok_ge, ok_neg, ok_mul, ok_div, ok_mod, ok_pow, ok_max2, ok_min2, ok_abs, ok_int, ok_iLst, ok_iTup, ok_iEnum, ok_iZip, ok_iRng1, exists_list1, List.cons.injEq, exists_and_left, exists_const, exists_eq, if_true, if_false, Bool.not_true, Bool.not_false, Bool.false_eq_true, decide_true, decide_false, ok_callP, pick3]
    refine (s_shows_work (ha15.ext hk) t (hb15.ext hk) r hx0).mono fun _ k1 ⟨z1, e⟩ => ?_
    subst e
    rw [ok_reprB, ok_in (hlC15.ext (hk.trans z1)), mem_sel hx0 (fun y hy => crowd_own r y hy), ok_reprB, ok_neS]
    refine ⟨_, rfl, ?_⟩
    rw [decide_eq_true rfl, if_neg (by decide)]
    refine (s_shows_give (ha15.ext (hk.trans z1)) t (hc15.ext (hk.trans z1)) r2 hx0).mono fun _ k2 ⟨z2, e⟩ => ?_
    subst e
    rw [ok_reprB, ok_in (hlL15.ext ((hk.trans z1).trans z2)), mem_sel hx0 (fun y hy => lack_far r2 y hy), ok_reprB, ok_neS]
    refine ⟨_, rfl, ?_⟩
    rw [decide_eq_true rfl, if_neg (by decide)]
    exact (hk.trans z1).trans z2
  · obtain ⟨r8, rfl, hk⟩ := hp
    refine ⟨(hX.ext hk).stop, ?_⟩
    rw [← hT]
    simp only [ok_def, okS_seq, okS_ret, okS_asg, okS_if, okS_E, okS_par, okS_aug, okS_nop, nxt_nx, nxt_rt, okS_brk, okS_cnt, ok_var, ok_C, ok_op2, ok_op1, ok_call, ok_acons, ok_anil, ok_lst, ok_tup, ok_tVal, ok_mAnd, ok_mOr, ok_mNot, ok_if, ok_tNot, ok_tAnd, ok_tOr, ok_tYes, ok_chain, ok_star, ok_gName, ok_oNone, ok_oSome, ok_sl, ok_rev, ok_mt, ok_ok, ok_lc, okS_for, putL, wipe, startM, List.map_cons, List.map_nil, List.length_cons, List.length_nil, List.replicate, List.cons_append, List.nil_append, Nat.reduceAdd, Nat.reduceSub, List.getElem?_cons_zero, List.getElem?_cons_succ, List.set_cons_succ, List.set_cons_zero, Option.some.injEq, W.bl.injEq, W.int.injEq, W.ref.injEq, exists_eq_left', exists_eq_left, decide_eq_true_eq, true_and, and_true, ok_add, ok_sub, ok_lt, ok_le, ok_gt, ok_ge, ok_neg, ok_mul, ok_div, ok_mod, ok_pow, ok_max2, ok_min2, ok_abs, ok_int, ok_iLst, ok_iTup, ok_iEnum, ok_iZip, ok_iRng1, exists_list1, List.cons.injEq, exists_and_left, exists_const, exists_eq, if_true, if_false, Bool.not_true, Bool.not_false, Bool.false_eq_true, decide_true, decide_false]
    refine (s_things k).mono fun _ k1 ⟨z1, bb, ws, e, hb1, hwl, hws⟩ => ?_
    subst e
    refine ⟨_, rfl, _, lstAt_of hb1, ?_⟩
    rw [W_len hb1]
    refine forGo_inv ws.length (fun i ρ q => ∃ r9 : Option W, ρ = [some (.ref p), some (.ref a), some (.ref b), some (.ref c), some (.str S0), some (.ref g1.length), some (fst (sel 60 (lack ns ss))), some (.ref g6.length), r8, r9] ∧ Ext k1 q) (fun i ρ q hi hp => ?_) (fun ρ q hp => ?_) _ 0 _ _ (Nat.zero_add _) ⟨_, rfl, Ext.refl _⟩
    · obtain ⟨r9, rfl, hq⟩ := hp
      refine ⟨_, _, W_at (hq.get hb1) (List.getElem?_eq_getElem hi), ?_⟩
      have hodd := hws _ (List.getElem_mem hi)
      generalize ws[i] = y at *
      have K := hk.trans (z1.trans hq)
      simp only [ok_def, okS_seq, okS_ret, okS_asg, okS_if, okS_E, okS_par, okS_aug, okS_nop, nxt_nx, nxt_rt, okS_brk, okS_cnt, ok_var, ok_C, ok_op2, ok_op1, ok_call, ok_acons, ok_anil, ok_lst, ok_tup, ok_tVal, ok_mAnd, ok_mOr, ok_mNot, ok_if, ok_tNot, ok_tAnd, ok_tOr, ok_tYes, ok_chain, ok_star, ok_gName, ok_oNone, ok_oSome, ok_sl, ok_rev, ok_mt, ok_ok, ok_lc, okS_for, putL, wipe, startM, List.map_cons, List.map_nil, List.length_cons, List.length_nil, List.replicate, List.cons_append, List.nil_append, Nat.reduceAdd, Nat.reduceSub, List.getElem?_cons_zero, List.getElem?_cons_succ, List.set_cons_succ, List.set_cons_zero, Option.some.injEq, W.bl.injEq, W.int.injEq, W.ref.injEq, exists_eq_left', exists_eq_left, decide_eq_true_eq, true_and, and_true, ok_add, ok_sub, ok_lt, ok_le, ok_gt, ok_ge, ok_neg, ok_mul, ok_div, ok_mod, ok_pow, ok_max2, ok_min2, ok_abs, ok_int, ok_iLst, ok_iTup, ok_iEnum, ok_iZip, ok_iRng1, exists_list1, List.cons.injEq, exists_and_left, exists_const, exists_eq, if_true, if_false, Bool.not_true, Bool.not_false, Bool.false_eq_true, decide_true, decide_false]
      refine (s_shows_workX (ha15.ext K) t (hb15.ext K) r fun g' hx => hodd g' (hq.trans hx)).mono fun _ k2 ⟨z2, e⟩ => ?_
      subst e
      refine (s_shows_giveX (ha15.ext (K.trans z2)) t (hc15.ext (K.trans z2)) r2 fun g' hx => hodd g' ((hq.trans z2).trans hx)).mono fun _ k3 ⟨z3, e⟩ => ?_
      subst e
      refine ⟨by decide, ?_⟩
      rw [ok_repr2 (get_new _ _) (fun n g => rd_bl n g false) (SD_bl false), shown_ff, ok_neS]
      refine ⟨_, rfl, ?_⟩
      rw [decide_eq_true rfl, if_neg (by decide)]
      exact ((hq.trans z2).trans z3).trans (Ext.snoc _ _)
    · obtain ⟨r9, rfl, hq⟩ := hp
      have K := hk.trans (z1.trans hq)
      refine ⟨W_stop (hq.get hb1) (Nat.le_refl _), ?_⟩
      simp only [ok_def, okS_seq, okS_ret, okS_asg, okS_if, okS_E, okS_par, okS_aug, okS_nop, nxt_nx, nxt_rt, okS_brk, okS_cnt, ok_var, ok_C, ok_op2, ok_op1, ok_call, ok_acons, ok_anil, ok_lst, ok_tup, ok_tVal, ok_mAnd, ok_mOr, ok_mNot, ok_if, ok_tNot, ok_tAnd, ok_tOr, ok_tYes, ok_chain, ok_star, ok_gName, ok_oNone, ok_oSome, ok_sl, ok_rev, ok_mt, ok_ok, ok_lc, okS_for, putL, wipe, startM, List.map_cons, List.map_nil, List.length_cons, List.length_nil, List.replicate, List.cons_append, List.nil_append, Nat.reduceAdd, Nat.reduceSub, List.getElem?_cons_zero, List.getElem?_cons_succ, List.set_cons_succ, List.set_cons_zero, Option.some.injEq, W.bl.injEq, W.int.injEq, W.ref.injEq, exists_eq_left', exists_eq_left, decide_eq_true_eq, true_and, and_true, ok_add, ok_sub, ok_lt, ok_le, ok_gt, ok_ge, ok_neg, ok_mul, ok_div, ok_mod, ok_pow, ok_max2, ok_min2, ok_abs, ok_int, ok_iLst, ok_iTup, ok_iEnum, ok_iZip, ok_iRng1, exists_list1, List.cons.injEq, exists_and_left, exists_const, exists_eq, if_true, if_false, Bool.not_true, Bool.not_false, Bool.false_eq_true, decide_true, decide_false]
      refine ⟨by decide, ?_⟩
      have xq := Ext.snoc q (O.lst [W.ref a, W.ref b, W.ref c])
      rw [ok_repr3 (get_new _ _) ((ha15.ext K).ext xq) ((hb15.ext K).ext xq) ((hc15.ext K).ext xq) sA sB sC, hS0, ok_eqS, decide_eq_true rfl]
      exact ⟨rfl, F15.trans ((K.trans xq).fr p), u15.ext (K.trans xq)⟩
theorem wp_lit {g : G} {a b : Nat} {ns gs : List Int} {v : W} (h : IL g a ns) (hb : IL g b gs) (t : Team ns) (r : Rise ns.length gs) (e : fst (sel ns.length (crowd ns gs)) = v) : Ok (m_work_paper [.ref a, .ref b] g) fun w g' => Ext g g' ∧ w = v := by
  subst e
  exact s_work_paper h t hb r
theorem gp_lit {g : G} {a b : Nat} {ns gs : List Int} {v : W} (h : IL g a ns) (hb : IL g b gs) (t : Team ns) (r : Rise 60 gs) (e : fst (sel 60 (lack ns gs)) = v) : Ok (m_give_paper [.ref a, .ref b] g) fun w g' => Ext g g' ∧ w = v := by
  subst e
  exact s_give_paper h t hb r
def Fl1 (w : W) : Prop := ∃ d, (∀ n g, rdD n g w = some d) ∧ eqD d d = true
theorem Fl1_int (i : Int) : Fl1 (.int i) := ⟨.int i, fun n g => by cases n <;> rw [rdD], by simp [eqD]⟩
theorem Fl1_non : Fl1 .non := ⟨.non, fun n g => by cases n <;> rw [rdD], by simp [eqD]⟩
theorem rd3 {g : G} {a : Nat} {w1 w2 w3 : W} {d1 d2 d3 : D} (h : g[a]? = some (.lst [w1, w2, w3])) (h1 : ∀ n g, rdD n g w1 = some d1) (h2 : ∀ n g, rdD n g w2 = some d2) (h3 : ∀ n g, rdD n g w3 = some d3) : rdD 60 g (.ref a) = some (.lst [d1, d2, d3]) := by
  refine rd_lst h ?_
  rw [rdDs, h1]
  dsimp only
  rw [rdDs, h2]
  dsimp only
  rw [rdDs, h3]
  dsimp only
  rw [rdDs]
theorem ok_ne3 {g : G} {a b : Nat} {w1 w2 w3 : W} {Q : W → G → Prop} (h : g[a]? = some (.lst [w1, w2, w3])) (h' : g[b]? = some (.lst [w1, w2, w3])) (f1 : Fl1 w1) (f2 : Fl1 w2) (f3 : Fl1 w3) : Ok (opNe (.ref a) (.ref b) g) Q ↔ Q (.bl false) g := by
  obtain ⟨d1, r1, e1⟩ := f1
  obtain ⟨d2, r2, e2⟩ := f2
  obtain ⟨d3, r3, e3⟩ := f3
  unfold opNe
  dsimp only
  rw [rd3 h r1 r2 r3, rd3 h' r1 r2 r3]
  dsimp only
  rw [ok_ok]
  simp [eqD, eqDs, e1, e2, e3]
theorem ok_eq3 {g : G} {a b : Nat} {w1 w2 w3 : W} {Q : W → G → Prop} (h : g[a]? = some (.lst [w1, w2, w3])) (h' : g[b]? = some (.lst [w1, w2, w3])) (f1 : Fl1 w1) (f2 : Fl1 w2) (f3 : Fl1 w3) : Ok (opEq (.ref a) (.ref b) g) Q ↔ Q (.bl true) g := by
  obtain ⟨d1, r1, e1⟩ := f1
  obtain ⟨d2, r2, e2⟩ := f2
  obtain ⟨d3, r3, e3⟩ := f3
  unfold opEq
  dsimp only
  rw [rd3 h r1 r2 r3, rd3 h' r1 r2 r3]
  dsimp only
  rw [ok_ok]
  simp [eqD, eqDs, e1, e2, e3]
theorem new1 (g : G) (ns gs : List Int) : IL (g ++ [O.lst (ns.map .int)] ++ [O.lst (gs.map .int)]) g.length ns := (show IL _ _ _ from lst_new _ _).ext (Ext.snoc _ _)
theorem new2 (g : G) (ns gs : List Int) : IL (g ++ [O.lst (ns.map .int)] ++ [O.lst (gs.map .int)]) (g ++ [O.lst (ns.map .int)]).length gs := lst_new _ _
theorem team_great : Team (rg 40 60) := team_high (ls := rg 40 60) (by decide) (by decide) (by decide) (List.Perm.refl _)
theorem hM : ∀ ns : List Int, ns.length ≤ 63 → (∀ z ∈ ns, lg z ≤ 1048576) → ∃ g, m_law [.ref 0] [.fls (ns.map .int)] = .ok (.bl true) g := by
  intro ns hn _
  suffices h : Ok (m_law [.ref 0] [.fls (ns.map .int)]) fun w _ => w = .bl true by
    obtain ⟨w, g, e, rfl⟩ := h
    exact ⟨g, e⟩
  have hS : IL [.fls (ns.map .int)] 0 ns := rfl
  unfold m_law b_law
  simp only [okS_seq (s1 := sFor _ _ _), okS_for, ok_iRng1, ok_acons, ok_anil, ok_call, ok_C, ok_var, startM, ok_def, okS_seq, okS_ret, okS_asg, okS_if, okS_E, okS_par, okS_aug, okS_nop, nxt_nx, nxt_rt, okS_brk, okS_cnt, ok_var, ok_C, ok_op2, ok_op1, ok_call, ok_acons, ok_anil, ok_lst, ok_tup, ok_tVal, ok_mAnd, ok_mOr, ok_mNot, ok_if, ok_tNot, ok_tAnd, ok_tOr, ok_tYes, ok_chain, ok_star, ok_gName, ok_oNone, ok_oSome, ok_sl, ok_rev, ok_mt, ok_ok, ok_lc, okS_for, putL, wipe, startM, List.map_cons, List.map_nil, List.length_cons, List.length_nil, List.replicate, List.cons_append, List.nil_append, Nat.reduceAdd, Nat.reduceSub, List.getElem?_cons_zero, List.getElem?_cons_succ, List.set_cons_succ, List.set_cons_zero, Option.some.injEq, W.bl.injEq, W.int.injEq, W.ref.injEq, exists_eq_left', exists_eq_left, decide_eq_true_eq, true_and, and_true, ok_add, ok_sub, ok_lt, ok_le, ok_gt, ok_ge, ok_neg, ok_mul, ok_div, ok_mod, ok_pow, ok_max2, ok_min2, ok_abs, ok_int, ok_iLst, ok_iTup, ok_iEnum, ok_iZip, ok_iRng1, exists_list1, List.cons.injEq, exists_and_left, exists_const, exists_eq, if_true, if_false, Bool.not_true, Bool.not_false, Bool.false_eq_true, decide_true, decide_false, ok_len hS]
  generalize hT : nxt _ _ = T
  have hTail : ∀ r1 r2 r3 r4 r5 r6 r7 g, T (.nx [some (.ref 0), r1, r2, r3, r4, r5, r6, r7]) g := by
    intro r1 r2 r3 r4 r5 r6 r7 g
    rw [← hT]
    simp only [ok_def, okS_seq, okS_ret, okS_asg, okS_if, okS_E, okS_par, okS_aug, okS_nop, nxt_nx, nxt_rt, okS_brk, okS_cnt, ok_var, ok_C, ok_op2, ok_op1, ok_call, ok_acons, ok_anil, ok_lst, ok_tup, ok_tVal, ok_mAnd, ok_mOr, ok_mNot, ok_if, ok_tNot, ok_tAnd, ok_tOr, ok_tYes, ok_chain, ok_star, ok_gName, ok_oNone, ok_oSome, ok_sl, ok_rev, ok_mt, ok_ok, ok_lc, okS_for, putL, wipe, startM, List.map_cons, List.map_nil, List.length_cons, List.length_nil, List.replicate, List.cons_append, List.nil_append, Nat.reduceAdd, Nat.reduceSub, List.getElem?_cons_zero, List.getElem?_cons_succ, List.set_cons_succ, List.set_cons_zero, Option.some.injEq, W.bl.injEq, W.int.injEq, W.ref.injEq, exists_eq_left', exists_eq_left, decide_eq_true_eq, true_and, and_true, ok_add, ok_sub, ok_lt, ok_le, ok_gt, ok_ge, ok_neg, ok_mul, ok_div, ok_mod, ok_pow, ok_max2, ok_min2, ok_abs, ok_int, ok_iLst, ok_iTup, ok_iEnum, ok_iZip, ok_iRng1, exists_list1, List.cons.injEq, exists_and_left, exists_const, exists_eq, if_true, if_false, Bool.not_true, Bool.not_false, Bool.false_eq_true, decide_true, decide_false]
    refine ⟨by decide, by decide, ?_⟩
    refine (wp_lit (v := .int 0) (new1 g [0] [0]) (new2 g [0] [0]) (team_low (by decide) (by decide) (by decide)) (by unfold Rise; decide) (by decide +kernel)).mono fun _ g1 ⟨_, e⟩ => ?_
    subst e
    refine ⟨by decide, by decide, ?_⟩
    refine (wp_lit (v := .int 1) (new1 g1 [1, 1, 3] [0, 1, 2]) (new2 g1 [1, 1, 3] [0, 1, 2]) (team_low (by decide) (by decide) (by decide)) (by unfold Rise; decide) (by decide +kernel)).mono fun _ g2 ⟨_, e⟩ => ?_
    subst e
    refine ⟨by decide, by decide, ?_⟩
    refine (wp_lit (v := .non) (new1 g2 [1, 1] []) (new2 g2 [1, 1] []) (team_low (by decide) (by decide) (by decide)) (by unfold Rise; decide) (by decide +kernel)).mono fun _ g3 ⟨_, e⟩ => ?_
    subst e
    refine ⟨by decide, by decide, ?_⟩
    rw [ok_ne3 ((Ext.snoc _ _).get (get_new _ _)) (get_new _ _) (Fl1_int 0) (Fl1_int 1) Fl1_non]
    refine ⟨_, rfl, ?_⟩
    rw [if_neg (by decide)]
    refine ⟨by decide, ?_⟩
    refine (ok_mulL (n := 20) (get_new _ _) (by decide)).mpr ?_
    rw [ok_lrg1c (by decide)]
    refine (wp_lit (v := .non) (new1 _ (List.replicate 20 20) (rg 0 20)) (new2 _ (List.replicate 20 20) (rg 0 20)) (team_low (by decide) (by decide) (by decide)) (by unfold Rise; decide) (by decide +kernel)).mono fun _ g4 ⟨_, e⟩ => ?_
    subst e
    rw [ok_notN]
    refine ⟨_, rfl, ?_⟩
    rw [if_neg (by decide)]
    refine ⟨by decide, by decide, ?_⟩
    refine (gp_lit (v := .non) (new1 g4 [2, 1, 2] [0, 1]) (new2 g4 [2, 1, 2] [0, 1]) (team_low (by decide) (by decide) (by decide)) (by unfold Rise; decide) (by decide +kernel)).mono fun _ g5 ⟨_, e⟩ => ?_
    subst e
    refine ⟨by decide, by decide, ?_⟩
    refine (gp_lit (v := .int 2) (new1 g5 [2, 1, 2] [0, 1, 2]) (new2 g5 [2, 1, 2] [0, 1, 2]) (team_low (by decide) (by decide) (by decide)) (by unfold Rise; decide) (by decide +kernel)).mono fun _ g6 ⟨_, e⟩ => ?_
    subst e
    refine ⟨by decide, by decide, ?_⟩
    refine (gp_lit (v := .int 0) (new1 g6 [5] [3, 4]) (new2 g6 [5] [3, 4]) (team_low (by decide) (by decide) (by decide)) (by unfold Rise; decide) (by decide +kernel)).mono fun _ g7 ⟨_, e⟩ => ?_
    subst e
    refine ⟨by decide, by decide, ?_⟩
    rw [ok_ne3 ((Ext.snoc _ _).get (get_new _ _)) (get_new _ _) Fl1_non (Fl1_int 2) (Fl1_int 0)]
    refine ⟨_, rfl, ?_⟩
    rw [if_neg (by decide)]
    refine ⟨by decide, by decide, ?_⟩
    refine (gp_lit (v := .int 5) (new1 _ [5] [59]) (new2 _ [5] [59]) (team_low (by decide) (by decide) (by decide)) (by unfold Rise; decide) (by decide +kernel)).mono fun _ g8 ⟨_, e⟩ => ?_
    subst e
    rw [ok_neI]
    refine ⟨_, rfl, ?_⟩
    rw [if_neg (by decide)]
    refine ⟨by decide, ?_⟩
    refine (ok_mulL (n := 20) (get_new _ _) (by decide)).mpr ?_
    rw [ok_lrg2c (by decide)]
    refine (gp_lit (v := .non) (new1 _ (List.replicate 20 40) (rg 20 40)) (new2 _ (List.replicate 20 40) (rg 20 40)) (team_low (by decide) (by decide) (by decide)) (by unfold Rise; decide) (by decide +kernel)).mono fun _ g9 ⟨_, e⟩ => ?_
    subst e
    rw [ok_notN]
    refine ⟨_, rfl, ?_⟩
    rw [if_neg (by decide)]
    refine ⟨by decide, ?_⟩
    refine (ok_mulL (n := 20) (get_new _ _) (by decide)).mpr ?_
    rw [ok_lrg2c (by decide)]
    refine (gp_lit (v := .int 40) (new1 _ (List.replicate 20 40) (rg 21 41)) (new2 _ (List.replicate 20 40) (rg 21 41)) (team_low (by decide) (by decide) (by decide)) (by unfold Rise; decide) (by decide +kernel)).mono fun _ g10 ⟨_, e⟩ => ?_
    subst e
    rw [ok_neI]
    refine ⟨_, rfl, ?_⟩
    rw [if_neg (by decide)]
    rw [ok_lrg2c (by decide)]
    have hG : IL (g10 ++ [O.lst ((rg 40 60).map .int)]) g10.length (rg 40 60) := lst_new _ _
    generalize g10 ++ [O.lst ((rg 40 60).map .int)] = g11 at *
    rw [ok_lrg2c (by decide)]
    have hx1 := Ext.snoc g11 (O.lst ((rg 39 59).map .int))
    have hB1 : IL (g11 ++ [O.lst ((rg 39 59).map .int)]) g11.length (rg 39 59) := lst_new _ _
    generalize g11 ++ [O.lst ((rg 39 59).map .int)] = g12 at *
    refine (gp_lit (v := .non) (hG.ext hx1) hB1 team_great (by unfold Rise; decide) (by decide +kernel)).mono fun _ g13 ⟨x13, e⟩ => ?_
    subst e
    refine ⟨by decide, ?_⟩
    have hx2 := Ext.snoc g13 (O.lst [W.int 57, W.int 58, W.int 59])
    have hB2 : IL (g13 ++ [O.lst [W.int 57, W.int 58, W.int 59]]) g13.length [57, 58, 59] := lst_new _ _
    generalize g13 ++ [O.lst [W.int 57, W.int 58, W.int 59]] = g14 at *
    refine (gp_lit (v := .int 57) (((hG.ext hx1).ext x13).ext hx2) hB2 team_great (by unfold Rise; decide) (by decide +kernel)).mono fun _ g15 ⟨x15, e⟩ => ?_
    subst e
    refine ⟨by decide, ?_⟩
    have hx3 := Ext.snoc g15 (O.lst [W.int 59])
    have hB3 : IL (g15 ++ [O.lst [W.int 59]]) g15.length [59] := lst_new _ _
    generalize g15 ++ [O.lst [W.int 59]] = g16 at *
    have hG16 := ((((hG.ext hx1).ext x13).ext hx2).ext x15).ext hx3
    refine (gp_lit (v := .int 59) hG16 hB3 team_great (by unfold Rise; decide) (by decide +kernel)).mono fun _ g17 ⟨x17, e⟩ => ?_
    subst e
    refine ⟨by decide, by decide, ?_⟩
    rw [ok_eq3 ((Ext.snoc _ _).get (get_new _ _)) (get_new _ _) Fl1_non (Fl1_int 57) (Fl1_int 59)]
    refine ⟨_, rfl, ?_⟩
    rw [if_pos rfl]
    have hG18 := (hG16.ext x17).ext ((Ext.snoc g17 (O.lst [W.non, W.int 57, W.int 59])).trans (Ext.snoc _ (O.lst [W.non, W.int 57, W.int 59])))
    generalize g17 ++ [O.lst [W.non, W.int 57, W.int 59]] ++ [O.lst [W.non, W.int 57, W.int 59]] = g18 at *
    rw [ok_lrg1c (by decide)]
    have hx4 := Ext.snoc g18 (O.lst ((rg 0 20).map .int))
    have hB4 : IL (g18 ++ [O.lst ((rg 0 20).map .int)]) g18.length (rg 0 20) := lst_new _ _
    generalize g18 ++ [O.lst ((rg 0 20).map .int)] = g19 at *
    refine (wp_lit (v := .non) (hG18.ext hx4) hB4 team_great (by unfold Rise; decide) (by decide +kernel)).mono fun _ g20 ⟨x20, e⟩ => ?_
    subst e
    rw [ok_isN]
    refine ⟨_, rfl, ?_⟩
    rw [if_pos (by decide)]
    refine ⟨by decide, ?_⟩
    have hx5 := Ext.snoc g20 (O.lst [W.int 59])
    have hB5 : IL (g20 ++ [O.lst [W.int 59]]) g20.length [59] := lst_new _ _
    generalize g20 ++ [O.lst [W.int 59]] = g21 at *
    refine (s_shows_give (((hG18.ext hx4).ext x20).ext hx5) team_great hB5 (by unfold Rise; decide) (by decide)).mono fun _ g22 ⟨_, e⟩ => ?_
    rw [e]
    decide +kernel
  refine ⟨inR_le (by omega) (by omega), ?_⟩
  obtain ⟨n, hn2⟩ : ∃ n, n = (max 1 (min 4 (ns.length : Int))).toNat := ⟨_, rfl⟩
  rw [← hn2]
  refine forGo_inv n (fun i ρ g' => ∃ r1 r2 r3 r4 r5 r6 r7 : Option W, ρ = [some (.ref 0), r1, r2, r3, r4, r5, r6, r7] ∧ IL g' 0 ns) (fun i ρ g' hi hp => ?_) (fun ρ g' hp => ?_) _ 0 _ _ (Nat.zero_add _) ⟨_, _, _, _, _, _, _, rfl, hS⟩
  · obtain ⟨r1, r2, r3, r4, r5, r6, r7, rfl, hS'⟩ := hp
    refine ⟨_, _, rng_at hi, ?_⟩
    simp only [ok_def, okS_seq, okS_ret, okS_asg, okS_if, okS_E, okS_par, okS_aug, okS_nop, nxt_nx, nxt_rt, okS_brk, okS_cnt, ok_var, ok_C, ok_op2, ok_op1, ok_call, ok_acons, ok_anil, ok_lst, ok_tup, ok_tVal, ok_mAnd, ok_mOr, ok_mNot, ok_if, ok_tNot, ok_tAnd, ok_tOr, ok_tYes, ok_chain, ok_star, ok_gName, ok_oNone, ok_oSome, ok_sl, ok_rev, ok_mt, ok_ok, ok_lc, okS_for, putL, wipe, startM, List.map_cons, List.map_nil, List.length_cons, List.length_nil, List.replicate, List.cons_append, List.nil_append, Nat.reduceAdd, Nat.reduceSub, List.getElem?_cons_zero, List.getElem?_cons_succ, List.set_cons_succ, List.set_cons_zero, Option.some.injEq, W.bl.injEq, W.int.injEq, W.ref.injEq, exists_eq_left', exists_eq_left, decide_eq_true_eq, true_and, and_true, ok_add, ok_sub, ok_lt, ok_le, ok_gt, ok_ge, ok_neg, ok_mul, ok_div, ok_mod, ok_pow, ok_max2, ok_min2, ok_abs, ok_int, ok_iLst, ok_iTup, ok_iEnum, ok_iZip, ok_iRng1, exists_list1, List.cons.injEq, exists_and_left, exists_const, exists_eq, if_true, if_false, Bool.not_true, Bool.not_false, Bool.false_eq_true, decide_true, decide_false]
    have e0 : (0 : Int) + i = i := by omega
    rw [e0]
    refine (s_store hS' (by omega)).mono fun w g1 ⟨x1, e, u1⟩ => ?_
    subst e
    have hpl := u1.lt
    have hg0 := hS'.lt
    generalize hP : g'.length = P at *
    refine (s_deal (m := 3000) (u1.mono (by decide)) (by decide) (by decide) (by decide) (by decide)).mono fun w g2 ⟨b1, d1, e, q1, q2, f2, u2, i1, l1, l1', v1⟩ => ?_
    subst e
    refine (s_deal (m := 2800) (u2.mono (by decide)) (by decide) (by decide) (by decide) (by decide)).mono fun w g3 ⟨b2, d2, e, q3, q4, f3, u3, i2, l2, l2', v2⟩ => ?_
    subst e
    refine (s_deal (m := 2600) (u3.mono (by decide)) (by decide) (by decide) (by decide) (by decide)).mono fun w g4 ⟨b3, d3, e, q5, q6, f4, u4, i3, l3, l3', v3⟩ => ?_
    subst e
    refine (s_high (m := 2400) (u4.mono (by decide))).mono fun w g5 ⟨b4, d4, e, q7, q8, f5, u5, i4, t4⟩ => ?_
    subst e
    have e1 := f2.1
    have e2 := f3.1
    have e3 := f4.1
    have t1 : Team d1 := team_low l1 (by omega) fun x hx => by have := v1 x hx; omega
    have t2 : Team d2 := team_low l2 (by omega) fun x hx => by have := v2 x hx; omega
    have t3 : Team d3 := team_low l3 (by omega) fun x hx => by have := v3 x hx; omega
    have i1' := ((i1.fr f3 (by omega)).fr f4 (by omega)).fr f5 (by omega)
    have i2' := (i2.fr f4 (by omega)).fr f5 (by omega)
    have i3' := i3.fr f5 (by omega)
    refine ⟨by decide, _, lst_new _ _, ?_⟩
    have xL := Ext.snoc g5 (O.lst [W.ref b1, W.ref b2, W.ref b3, W.ref b4])
    have hL := get_new g5 (O.lst [W.ref b1, W.ref b2, W.ref b3, W.ref b4])
    have u6 := u5.ext xL
    have F6 := (((f2.trans f3).trans f4).trans f5).trans (xL.fr P)
    have e4 := f5.1
    have hLP : g5.length ≠ P := by omega
    generalize g5 ++ [O.lst [W.ref b1, W.ref b2, W.ref b3, W.ref b4]] = g6 at *
    have pick : ∀ j, j < 4 → ∃ q ls, [W.ref b1, W.ref b2, W.ref b3, W.ref b4][j]? = some (.ref q) ∧ IL g6 q ls ∧ Team ls ∧ q ≠ P := by
      intro j hj
      rcases (show j = 0 ∨ j = 1 ∨ j = 2 ∨ j = 3 by omega) with rfl | rfl | rfl | rfl
      · exact ⟨_, _, rfl, i1'.ext xL, t1, by omega⟩
      · exact ⟨_, _, rfl, i2'.ext xL, t2, by omega⟩
      · exact ⟨_, _, rfl, i3'.ext xL, t3, by omega⟩
      · exact ⟨_, _, rfl, i4.ext xL, t4, by omega⟩
    have hlen : [W.ref b1, W.ref b2, W.ref b3, W.ref b4].length = 4 := rfl
    rw [W_len hL]
    generalize [W.ref b1, W.ref b2, W.ref b3, W.ref b4] = us at *
    rw [hlen]
    have hS6 := (hS'.ext x1).fr F6 (by omega)
    refine forGo_inv 4 (fun j ρ k => ∃ r2 r3 r5 r6 r7 : Option W, ρ = [some (.ref 0), some (.int i), r2, r3, some (.ref P), r5, r6, r7] ∧ Fr P g6 k ∧ PU k P (400 * (4 - j))) (fun j ρ k hj hp => ?_) (fun ρ k hp => ?_) _ 0 _ _ (Nat.zero_add _) ⟨_, _, _, _, _, rfl, Fr.refl _ _, u6.mono (by decide)⟩
    · obtain ⟨r2, r3, r5, r6, r7, rfl, f, u⟩ := hp
      obtain ⟨q, ls, hq, hql, ht, hqP⟩ := pick j hj
      refine ⟨_, _, W_at (f.get hL hLP) hq, ?_⟩
      have hk := hql.fr f hqP
      have hfl := f.1
      have hPk := u.lt
      simp only [ok_def, okS_seq, okS_ret, okS_asg, okS_if, okS_E, okS_par, okS_aug, okS_nop, nxt_nx, nxt_rt, okS_brk, okS_cnt, ok_var, ok_C, ok_op2, ok_op1, ok_call, ok_acons, ok_anil, ok_lst, ok_tup, ok_tVal, ok_mAnd, ok_mOr, ok_mNot, ok_if, ok_tNot, ok_tAnd, ok_tOr, ok_tYes, ok_chain, ok_star, ok_gName, ok_oNone, ok_oSome, ok_sl, ok_rev, ok_mt, ok_ok, ok_lc, okS_for, putL, wipe, startM, List.map_cons, List.map_nil, List.length_cons, List.length_nil, List.replicate, List.cons_append, List.nil_append, Nat.reduceAdd, Nat.reduceSub, List.getElem?_cons_zero, List.getElem?_cons_succ, List.set_cons_succ, List.set_cons_zero, Option.some.injEq, W.bl.injEq, W.int.injEq, W.ref.injEq, exists_eq_left', exists_eq_left, decide_eq_true_eq, true_and, and_true, ok_add, ok_sub, ok_lt, ok_le, ok_gt, ok_ge, ok_neg, ok_mul, ok_div, ok_mod, ok_pow, ok_max2, ok_min2, ok_abs, ok_int, ok_iLst, ok_iTup, ok_iEnum, ok_iZip, ok_iRng1, exists_list1, List.cons.injEq, exists_and_left, exists_const, exists_eq, if_true, if_false, Bool.not_true, Bool.not_false, Bool.false_eq_true, decide_true, decide_false]
      rw [ok_len hk]
      refine (s_rising (n := ls.length) (m := 400 * (4 - (j + 1)) + 250) (u.mono (by omega)) (by have := ht.2.1; omega)).mono fun w k1 ⟨bg, gs, e, a1, a2, fa, ua, ig, rg1⟩ => ?_
      subst e
      have hk1 := hk.fr fa hqP
      have hka := fa.1
      have hmx := ht.lt _ (maxL_in ls ht.ne)
      rw [ok_maxL hk1 ht.ne, ok_add]
      refine ⟨by decide, ?_⟩
      have xM := Ext.snoc k1 (O.lst [W.int 60, W.int (maxL ls + 1), W.int 20])
      have hM1 : IL (k1 ++ [O.lst [W.int 60, W.int (maxL ls + 1), W.int 20]]) k1.length [60, maxL ls + 1, 20] := lst_new _ _
      have kl1 := xM.len
      have hkP := ua.lt
      refine (s_pick (n := 400 * (4 - (j + 1)) + 249) ((ua.ext xM).mono (by omega)) (by omega) (by decide)).mono fun w k2 ⟨tk, e, tk1, tk2, fb, ub⟩ => ?_
      subst e
      rw [ok_ix (hM1.fr fb (by omega)) tk1 (by simp; omega)]
      obtain ⟨nn, hnn, hnn2⟩ : ∃ nn : Nat, ([60, maxL ls + 1, 20] : List Int).getD tk.toNat 0 = nn ∧ nn ≤ 60 := by
        have : ∀ x ∈ ([60, maxL ls + 1, 20] : List Int), 0 ≤ x ∧ x ≤ 60 := by
          intro x hx
          simp only [List.mem_cons, List.not_mem_nil, or_false] at hx
          omega
        have := this _ (getD_mem (ns := [60, maxL ls + 1, 20]) (i := tk.toNat) (by simp; omega))
        exact ⟨(([60, maxL ls + 1, 20] : List Int).getD tk.toNat 0).toNat, by omega, by omega⟩
      rw [hnn]
      refine (s_rising (n := nn) (m := 400 * (4 - (j + 1)) + 100) (ub.mono (by omega)) hnn2).mono fun w k3 ⟨bs, ss, e, c1, c2, fc, uc, is, rs⟩ => ?_
      subst e
      have hk3 := ((hk1.ext xM).fr fb hqP).fr fc hqP
      have kb := fb.1
      have ig3 := ((ig.ext xM).fr fb (by omega)).fr fc (by omega)
      have rs60 : Rise 60 ss := ⟨rs.1, rs.2.1, fun x hx => by have := rs.2.2 x hx; omega⟩
      refine (s_right (m := 400 * (4 - (j + 1))) (uc.mono (by omega)) hk3 ig3 is hqP (by omega) (by omega) ht rg1 rs60).mono fun w k4 ⟨e, fd, ud⟩ => ?_
      subst e
      refine ⟨_, rfl, ?_⟩
      rw [if_neg (by decide)]
      exact ⟨_, _, _, _, _, ⟨rfl, rfl, rfl, rfl, rfl⟩, (((((f.trans fa).trans (xM.fr P)).trans fb).trans fc).trans fd), ud⟩
    · obtain ⟨r2, r3, r5, r6, r7, rfl, f, u⟩ := hp
      exact ⟨W_stop (f.get hL hLP) (by omega), _, _, _, _, _, _, _, rfl, hS6.fr f (by omega)⟩
  · obtain ⟨r1, r2, r3, r4, r5, r6, r7, rfl, _⟩ := hp
    exact ⟨rng_stop (Nat.le_refl _), hTail _ _ _ _ _ _ _ _⟩
end M
namespace M
open PySem PySem.Spec PyProof.Rows L2
def top (i : Nat) : Stmt := PySem.Challenge.pw_nestboards_k32_papers_of_sets_judged.main.body.getD i (.Pass ⟨0, 0, 0, 0⟩)
structure Facts (K : M.Frag) (mg : PySem.Str → Option Value) : Prop where
  g_is_integer : mg "is_integer" = some (.ref (He.ga K "is_integer"))
  f_is_integer : ∃ fd, FunD K "is_integer" "is_integer" (defArgs (top 9)) (defBody (top 9)) (defScope (top 9)) [] [] (He.ga K "is_integer") fd
  g_spare_by : mg "spare_by" = some (.ref (He.ga K "spare_by"))
  f_spare_by : ∃ fd, FunD K "spare_by" "spare_by" (defArgs (top 11)) (defBody (top 11)) (defScope (top 11)) [] [] (He.ga K "spare_by") fd
  g_is_team : mg "is_team" = some (.ref (He.ga K "is_team"))
  f_is_team : ∃ fd, FunD K "is_team" "is_team" (defArgs (top 10)) (defBody (top 10)) (defScope (top 10)) [] [] (He.ga K "is_team") fd
  g_need_team : mg "need_team" = some (.ref (He.ga K "need_team"))
  f_need_team : ∃ fd, FunD K "need_team" "need_team" (defArgs (top 12)) (defBody (top 12)) (defScope (top 12)) [] [] (He.ga K "need_team") fd
  g_is_rising : mg "is_rising" = some (.ref (He.ga K "is_rising"))
  f_is_rising : ∃ fd, FunD K "is_rising" "is_rising" (defArgs (top 14)) (defBody (top 14)) (defScope (top 14)) [] [] (He.ga K "is_rising") fd
  g_need_workers : mg "need_workers" = some (.ref (He.ga K "need_workers"))
  f_need_workers : ∃ fd, FunD K "need_workers" "need_workers" (defArgs (top 15)) (defBody (top 15)) (defScope (top 15)) [] [] (He.ga K "need_workers") fd
  g_need_jobs : mg "need_jobs" = some (.ref (He.ga K "need_jobs"))
  f_need_jobs : ∃ fd, FunD K "need_jobs" "need_jobs" (defArgs (top 16)) (defBody (top 16)) (defScope (top 16)) [] [] (He.ga K "need_jobs") fd
  g_able_for : mg "able_for" = some (.ref (He.ga K "able_for"))
  f_able_for : ∃ fd, FunD K "able_for" "able_for" (defArgs (top 17)) (defBody (top 17)) (defScope (top 17)) [] [] (He.ga K "able_for") fd
  g_is_crowded : mg "is_crowded" = some (.ref (He.ga K "is_crowded"))
  f_is_crowded : ∃ fd, FunD K "is_crowded" "is_crowded" (defArgs (top 18)) (defBody (top 18)) (defScope (top 18)) [] [] (He.ga K "is_crowded") fd
  g_is_lacking : mg "is_lacking" = some (.ref (He.ga K "is_lacking"))
  f_is_lacking : ∃ fd, FunD K "is_lacking" "is_lacking" (defArgs (top 19)) (defBody (top 19)) (defScope (top 19)) [] [] (He.ga K "is_lacking") fd
  g_work_paper : mg "work_paper" = some (.ref (He.ga K "work_paper"))
  f_work_paper : ∃ fd, FunD K "work_paper" "work_paper" (defArgs (top 21)) (defBody (top 21)) (defScope (top 21)) [] [] (He.ga K "work_paper") fd
  g_can_work : mg "can_work" = some (.ref (He.ga K "can_work"))
  f_can_work : ∃ fd, FunD K "can_work" "can_work" (defArgs (top 20)) (defBody (top 20)) (defScope (top 20)) [] [] (He.ga K "can_work") fd
  g_shows_work_paper : mg "shows_work_paper" = some (.ref (He.ga K "shows_work_paper"))
  f_shows_work_paper : ∃ fd, FunD K "shows_work_paper" "shows_work_paper" (defArgs (top 22)) (defBody (top 22)) (defScope (top 22)) [] [] (He.ga K "shows_work_paper") fd
  g_give_paper : mg "give_paper" = some (.ref (He.ga K "give_paper"))
  f_give_paper : ∃ fd, FunD K "give_paper" "give_paper" (defArgs (top 24)) (defBody (top 24)) (defScope (top 24)) [] [] (He.ga K "give_paper") fd
  g_can_give : mg "can_give" = some (.ref (He.ga K "can_give"))
  f_can_give : ∃ fd, FunD K "can_give" "can_give" (defArgs (top 23)) (defBody (top 23)) (defScope (top 23)) [] [] (He.ga K "can_give") fd
  g_shows_give_paper : mg "shows_give_paper" = some (.ref (He.ga K "shows_give_paper"))
  f_shows_give_paper : ∃ fd, FunD K "shows_give_paper" "shows_give_paper" (defArgs (top 25)) (defBody (top 25)) (defScope (top 25)) [] [] (He.ga K "shows_give_paper") fd
  g__law_store : mg "_law_store" = some (.ref (He.ga K "_law_store"))
  f__law_store : ∃ fd, FunD K "_law_store" "_law_store" (defArgs (top 27)) (defBody (top 27)) (defScope (top 27)) [] [] (He.ga K "_law_store") fd
  g__law_pick : mg "_law_pick" = some (.ref (He.ga K "_law_pick"))
  f__law_pick : ∃ fd, FunD K "_law_pick" "_law_pick" (defArgs (top 28)) (defBody (top 28)) (defScope (top 28)) [] [] (He.ga K "_law_pick") fd
  g__law_deal : mg "_law_deal" = some (.ref (He.ga K "_law_deal"))
  f__law_deal : ∃ fd, FunD K "_law_deal" "_law_deal" (defArgs (top 29)) (defBody (top 29)) (defScope (top 29)) [] [] (He.ga K "_law_deal") fd
  g__law_order : mg "_law_order" = some (.ref (He.ga K "_law_order"))
  f__law_order : ∃ fd, FunD K "_law_order" "_law_order" (defArgs (top 30)) (defBody (top 30)) (defScope (top 30)) [] [] (He.ga K "_law_order") fd
  g__law_high : mg "_law_high" = some (.ref (He.ga K "_law_high"))
  f__law_high : ∃ fd, FunD K "_law_high" "_law_high" (defArgs (top 31)) (defBody (top 31)) (defScope (top 31)) [] [] (He.ga K "_law_high") fd
  g__law_crowd : mg "_law_crowd" = some (.ref (He.ga K "_law_crowd"))
  f__law_crowd : ∃ fd, FunD K "_law_crowd" "_law_crowd" (defArgs (top 32)) (defBody (top 32)) (defScope (top 32)) [] [] (He.ga K "_law_crowd") fd
  g__law_lack : mg "_law_lack" = some (.ref (He.ga K "_law_lack"))
  f__law_lack : ∃ fd, FunD K "_law_lack" "_law_lack" (defArgs (top 33)) (defBody (top 33)) (defScope (top 33)) [] [] (He.ga K "_law_lack") fd
  g__law_rising : mg "_law_rising" = some (.ref (He.ga K "_law_rising"))
  f__law_rising : ∃ fd, FunD K "_law_rising" "_law_rising" (defArgs (top 34)) (defBody (top 34)) (defScope (top 34)) [] [] (He.ga K "_law_rising") fd
  g__law_things : mg "_law_things" = some (.ref (He.ga K "_law_things"))
  f__law_things : ∃ fd, FunD K "_law_things" "_law_things" (defArgs (top 35)) (defBody (top 35)) (defScope (top 35)) [] [] (He.ga K "_law_things") fd
  g__law_right : mg "_law_right" = some (.ref (He.ga K "_law_right"))
  f__law_right : ∃ fd, FunD K "_law_right" "_law_right" (defArgs (top 36)) (defBody (top 36)) (defScope (top 36)) [] [] (He.ga K "_law_right") fd
  g_law : mg "law" = some (.ref (He.ga K "law"))
  f_law : ∃ fd, FunD K "law" "law" (defArgs (top 37)) (defBody (top 37)) (defScope (top 37)) [] [] (He.ga K "law") fd
  b_abs : mg "abs" = none
  b_all : mg "all" = none
  b_bool : mg "bool" = none
  b_enumerate : mg "enumerate" = none
  b_int : mg "int" = none
  b_isinstance : mg "isinstance" = none
  b_len : mg "len" = none
  b_list : mg "list" = none
  b_max : mg "max" = none
  b_min : mg "min" = none
  b_range : mg "range" = none
  b_repr : mg "repr" = none
  b_sorted : mg "sorted" = none
  b_zip : mg "zip" = none
  i_MOST_WORKERS : ∃ t, mg "MOST_WORKERS" = some (.int 20 t)
  i_MOST_SPARE : ∃ t, mg "MOST_SPARE" = some (.int 40 t)
  i_MOST_JOB : ∃ t, mg "MOST_JOB" = some (.int 59 t)
  e_NestError : ExcOk K mg "NestError"
  e_InvalidTeam : ExcOk K mg "InvalidTeam"
  e_InvalidWorkers : ExcOk K mg "InvalidWorkers"
  e_InvalidJobs : ExcOk K mg "InvalidJobs"
theorem sc_is_integer : FnScope ["thing"] ["thing"] (defScope (top 9)) := ⟨rfl, rfl, rfl, by decide +kernel, rfl, by decide +kernel, by decide +kernel⟩
theorem sc_spare_by : FnScope ["levels", "place", "level"] ["levels"] (defScope (top 11)) := ⟨rfl, rfl, rfl, by decide +kernel, rfl, by decide +kernel, by decide +kernel⟩
theorem sc_is_team : FnScope ["thing", "level"] ["thing"] (defScope (top 10)) := ⟨rfl, rfl, rfl, by decide +kernel, rfl, by decide +kernel, by decide +kernel⟩
theorem sc_need_team : FnScope ["team"] ["team"] (defScope (top 12)) := ⟨rfl, rfl, rfl, by decide +kernel, rfl, by decide +kernel, by decide +kernel⟩
theorem sc_is_rising : FnScope ["thing", "most", "greatest", "item", "one", "other"] ["thing", "most", "greatest"] (defScope (top 14)) := ⟨rfl, rfl, rfl, by decide +kernel, rfl, by decide +kernel, by decide +kernel⟩
theorem sc_need_workers : FnScope ["team", "workers"] ["team", "workers"] (defScope (top 15)) := ⟨rfl, rfl, rfl, by decide +kernel, rfl, by decide +kernel, by decide +kernel⟩
theorem sc_need_jobs : FnScope ["jobs"] ["jobs"] (defScope (top 16)) := ⟨rfl, rfl, rfl, by decide +kernel, rfl, by decide +kernel, by decide +kernel⟩
theorem sc_able_for : FnScope ["team", "job", "level"] ["team", "job"] (defScope (top 17)) := ⟨rfl, rfl, rfl, by decide +kernel, rfl, by decide +kernel, by decide +kernel⟩
theorem sc_is_crowded : FnScope ["team", "workers", "first", "worker"] ["team", "workers", "first"] (defScope (top 18)) := ⟨rfl, rfl, rfl, by decide +kernel, rfl, by decide +kernel, by decide +kernel⟩
theorem sc_is_lacking : FnScope ["team", "jobs", "first", "job"] ["team", "jobs", "first"] (defScope (top 19)) := ⟨rfl, rfl, rfl, by decide +kernel, rfl, by decide +kernel, by decide +kernel⟩
theorem sc_work_paper : FnScope ["team", "workers", "found", "first"] ["team", "workers"] (defScope (top 21)) := ⟨rfl, rfl, rfl, by decide +kernel, rfl, by decide +kernel, by decide +kernel⟩
theorem sc_can_work : FnScope ["team", "workers"] ["team", "workers"] (defScope (top 20)) := ⟨rfl, rfl, rfl, by decide +kernel, rfl, by decide +kernel, by decide +kernel⟩
theorem sc_shows_work_paper : FnScope ["team", "workers", "thing"] ["team", "workers", "thing"] (defScope (top 22)) := ⟨rfl, rfl, rfl, by decide +kernel, rfl, by decide +kernel, by decide +kernel⟩
theorem sc_give_paper : FnScope ["team", "jobs", "found", "first"] ["team", "jobs"] (defScope (top 24)) := ⟨rfl, rfl, rfl, by decide +kernel, rfl, by decide +kernel, by decide +kernel⟩
theorem sc_can_give : FnScope ["team", "jobs"] ["team", "jobs"] (defScope (top 23)) := ⟨rfl, rfl, rfl, by decide +kernel, rfl, by decide +kernel, by decide +kernel⟩
theorem sc_shows_give_paper : FnScope ["team", "jobs", "thing"] ["team", "jobs", "thing"] (defScope (top 25)) := ⟨rfl, rfl, rfl, by decide +kernel, rfl, by decide +kernel, by decide +kernel⟩
theorem sc__law_store : FnScope ["script", "k", "cell"] ["script", "k"] (defScope (top 27)) := ⟨rfl, rfl, rfl, by decide +kernel, rfl, by decide +kernel, by decide +kernel⟩
theorem sc__law_pick : FnScope ["store", "bound", "mixed", "digit"] ["store", "bound"] (defScope (top 28)) := ⟨rfl, rfl, rfl, by decide +kernel, rfl, by decide +kernel, by decide +kernel⟩
theorem sc__law_deal : FnScope ["store", "most", "top", "size_here", "bent", "some", "found", "turn", "spot"] ["store", "most", "top"] (defScope (top 29)) := ⟨rfl, rfl, rfl, by decide +kernel, rfl, by decide +kernel, by decide +kernel⟩
theorem sc__law_order : FnScope ["deal", "own", "who"] ["deal"] (defScope (top 30)) := ⟨rfl, rfl, rfl, by decide +kernel, rfl, by decide +kernel, by decide +kernel⟩
theorem sc__law_high : FnScope ["store", "place", "far", "left", "turn"] ["store"] (defScope (top 31)) := ⟨rfl, rfl, rfl, by decide +kernel, rfl, by decide +kernel, by decide +kernel⟩
theorem sc__law_crowd : FnScope ["deal", "gang", "first", "who"] ["deal", "gang", "first"] (defScope (top 32)) := ⟨rfl, rfl, rfl, by decide +kernel, rfl, by decide +kernel, by decide +kernel⟩
theorem sc__law_lack : FnScope ["deal", "goods", "first", "own", "spot"] ["deal", "goods", "first"] (defScope (top 33)) := ⟨rfl, rfl, rfl, by decide +kernel, rfl, by decide +kernel, by decide +kernel⟩
theorem sc__law_rising : FnScope ["store", "size_here", "most", "bent", "found", "spot"] ["store", "size_here", "most"] (defScope (top 34)) := ⟨rfl, rfl, rfl, by decide +kernel, rfl, by decide +kernel, by decide +kernel⟩
theorem sc__law_things : FnScope [] [] (defScope (top 35)) := ⟨rfl, rfl, rfl, by decide +kernel, rfl, by decide +kernel, by decide +kernel⟩
theorem sc__law_right : FnScope ["store", "deal", "gang", "goods", "kept", "some", "due", "lots", "first", "bad"] ["store", "deal", "gang", "goods"] (defScope (top 36)) := ⟨rfl, rfl, rfl, by decide +kernel, rfl, by decide +kernel, by decide +kernel⟩
theorem sc_law : FnScope ["script", "k", "told", "great", "store", "deal", "gang", "goods"] ["script"] (defScope (top 37)) := ⟨rfl, rfl, rfl, by decide +kernel, rfl, by decide +kernel, by decide +kernel⟩
section
variable {P : Program} {w : World} {K : M.Frag} {mg : PySem.Str → Option Value} {base : Heap} (T : Facts K mg)
include T
theorem ok_is_integer : DefOk P w K mg base "is_integer" ["thing"] 1 m_is_integer := by
  obtain ⟨fd, F⟩ := T.f_is_integer
  refine ⟨T.g_is_integer, F.kp, mDef_ar _ _ _, fd, ⟨FunD.self F, F.bindsA (ps := ["thing"]) (fun _ _ _ _ _ _ us hl => match us, hl with | [_], _ => rfl)⟩, m_def (k := 0) F sc_is_integer fun cdv A outer s H E hr => ?_⟩
  have tk := (takes_of rfl rfl rfl rfl : Takes (cxOf (L2.CX P w) P w K mg base ["thing"] "is_integer" (defScope (top 9)) (He.ga K "is_integer") cdv A outer s H E) (fun c d _ H => E c d H))
  unfold b_is_integer
  exact m_sone (m_ret (m_and (m_callB c_isi T.b_isinstance (m_acons (m_var 0) (m_acons (m_ty T.b_int (by decide +kernel)) (m_anil)))) (m_one (m_not (m_callB c_isi T.b_isinstance (m_acons (m_var 0) (m_acons (m_ty T.b_bool (by decide +kernel)) (m_anil))))))))
theorem ok_spare_by : DefOk P w K mg base "spare_by" ["levels"] 1 m_spare_by := by
  obtain ⟨fd, F⟩ := T.f_spare_by
  refine ⟨T.g_spare_by, F.kp, mDef_ar _ _ _, fd, ⟨FunD.self F, F.bindsA (ps := ["levels"]) (fun _ _ _ _ _ _ us hl => match us, hl with | [_], _ => rfl)⟩, m_def (k := 0) F sc_spare_by fun cdv A outer s H E hr => ?_⟩
  have tk := (takes_of rfl rfl rfl rfl : Takes (cxOf (L2.CX P w) P w K mg base ["levels", "place", "level"] "spare_by" (defScope (top 11)) (He.ga K "spare_by") cdv A outer s H E) (fun c d _ H => E c d H))
  unfold b_spare_by
  exact m_sone (m_ret (m_lc (own := [("place", 1), ("level", 2)]) sc_spare_by.nd (m_iEnum T.b_enumerate (m_acons (m_var 0) (m_anil))) (blkOk_by (by kernel_rfl)) (fun _ _ _ _ _ => m_gTup rfl (m_gcons (m_gName 1  sc_spare_by.nd) (m_gcons (m_gName 2  sc_spare_by.nd) (m_gnil)))) (fun _ _ _ _ _ => m_tsNil) (fun _ _ _ _ _ => m_bin o_sub (m_var 2) (m_var 1))))
theorem ok_is_team : DefOk P w K mg base "is_team" ["thing"] 2 m_is_team := by
  obtain ⟨fd, F⟩ := T.f_is_team
  refine ⟨T.g_is_team, F.kp, mDef_ar _ _ _, fd, ⟨FunD.self F, F.bindsA (ps := ["thing"]) (fun _ _ _ _ _ _ us hl => match us, hl with | [_], _ => rfl)⟩, m_def (k := 1) F sc_is_team fun cdv A outer s H E hr => ?_⟩
  have tk := (takes_of rfl rfl rfl rfl : Takes (cxOf (L2.CX P w) P w K mg base ["thing", "level"] "is_team" (defScope (top 10)) (He.ga K "is_team") cdv A outer s H E) (fun c d _ H => E c d H))
  unfold b_is_team
  exact m_cons (m_if (PW.pt (m_tOr (m_tNot (m_tVal (m_callB c_isi T.b_isinstance (m_acons (m_var 0) (m_acons (m_ty T.b_list (by decide +kernel)) (m_anil)))))) (m_or1 (m_tNot (m_tChain o_le o_le (m_int) (m_callB c_len T.b_len (m_acons (m_var 0) (m_anil))) (m_gint T.i_MOST_WORKERS)))))) (m_sone (m_ret (m_bl))) (m_nil))
    (m_cons (m_if (m_tNot (m_tVal (m_callB (c_all rfl) T.b_all (m_acons (m_lc (own := [("level", 1)]) sc_is_team.nd (m_iLst (m_var 0)) (blkOk_by (by kernel_rfl)) (fun _ _ _ _ _ => m_gName 1  sc_is_team.nd) (fun _ _ _ _ _ => m_tsNil) (fun _ _ _ _ _ => m_and (m_call (ok_is_integer T) (hr.mono (by decide)) takes0 (m_acons (m_var 1) (m_anil))) (m_one (m_cmp o_ge (m_var 1) (m_int))))) (m_anil))))) (m_sone (m_ret (m_bl))) (m_nil))
    (m_sone (m_ret (m_cmp o_le (m_callB (c_max rfl) T.b_max (m_acons (m_call (ok_spare_by T) (hr.mono (by decide)) tk (m_acons (m_callB c_sorted T.b_sorted (m_acons (m_var 0) (m_anil))) (m_anil))) (m_anil))) (m_gint T.i_MOST_SPARE)))))
theorem ok_need_team : DefOk P w K mg base "need_team" ["team"] 3 m_need_team := by
  obtain ⟨fd, F⟩ := T.f_need_team
  refine ⟨T.g_need_team, F.kp, mDef_ar _ _ _, fd, ⟨FunD.self F, F.bindsA (ps := ["team"]) (fun _ _ _ _ _ _ us hl => match us, hl with | [_], _ => rfl)⟩, m_def (k := 2) F sc_need_team fun cdv A outer s H E hr => ?_⟩
  have tk := (takes_of rfl rfl rfl rfl : Takes (cxOf (L2.CX P w) P w K mg base ["team"] "need_team" (defScope (top 12)) (He.ga K "need_team") cdv A outer s H E) (fun c d _ H => E c d H))
  unfold b_need_team
  exact m_sone (m_if (m_tNot (m_tVal (m_call (ok_is_team T) (hr.mono (by decide)) tk (m_acons (m_var 0) (m_anil))))) (m_sone (m_raise T.e_InvalidTeam tk)) (m_nil))
theorem ok_is_rising : DefOk P w K mg base "is_rising" ["thing", "most", "greatest"] 2 m_is_rising := by
  obtain ⟨fd, F⟩ := T.f_is_rising
  refine ⟨T.g_is_rising, F.kp, mDef_ar _ _ _, fd, ⟨FunD.self F, F.bindsA (ps := ["thing", "most", "greatest"]) (fun _ _ _ _ _ _ us hl => match us, hl with | [_, _, _], _ => rfl)⟩, m_def (k := 1) F sc_is_rising fun cdv A outer s H E hr => ?_⟩
  have tk := (takes_of rfl rfl rfl rfl : Takes (cxOf (L2.CX P w) P w K mg base ["thing", "most", "greatest", "item", "one", "other"] "is_rising" (defScope (top 14)) (He.ga K "is_rising") cdv A outer s H E) (fun c d _ H => E c d H))
  unfold b_is_rising
  exact m_cons (m_if (PW.pt (m_tOr (m_tNot (m_tVal (m_callB c_isi T.b_isinstance (m_acons (m_var 0) (m_acons (m_ty T.b_list (by decide +kernel)) (m_anil)))))) (m_or1 (m_tCmp o_gt (m_callB c_len T.b_len (m_acons (m_var 0) (m_anil))) (m_var 1))))) (m_sone (m_ret (m_bl))) (m_nil))
    (m_cons (m_if (m_tNot (m_tVal (m_callB (c_all rfl) T.b_all (m_acons (m_lc (own := [("item", 3)]) sc_is_rising.nd (m_iLst (m_var 0)) (blkOk_by (by kernel_rfl)) (fun _ _ _ _ _ => m_gName 3  sc_is_rising.nd) (fun _ _ _ _ _ => m_tsNil) (fun _ _ _ _ _ => m_and (m_call (ok_is_integer T) (hr.mono (by decide)) takes0 (m_acons (m_var 3) (m_anil))) (m_one (m_chain o_le o_le (m_int) (m_var 3) (m_var 2))))) (m_anil))))) (m_sone (m_ret (m_bl))) (m_nil))
    (m_sone (m_ret (m_callB (c_all rfl) T.b_all (m_acons (m_lc (own := [("one", 4), ("other", 5)]) sc_is_rising.nd (m_iZip T.b_zip (m_acons (m_var 0) (m_acons (m_sl (m_var 0) (m_oSome (m_int)) (m_oNone)) (m_anil)))) (blkOk_by (by kernel_rfl)) (fun _ _ _ _ _ => m_gTup rfl (m_gcons (m_gName 4  sc_is_rising.nd) (m_gcons (m_gName 5  sc_is_rising.nd) (m_gnil)))) (fun _ _ _ _ _ => m_tsNil) (fun _ _ _ _ _ => m_cmp o_lt (m_var 4) (m_var 5))) (m_anil))))))
theorem ok_need_workers : DefOk P w K mg base "need_workers" ["team", "workers"] 3 m_need_workers := by
  obtain ⟨fd, F⟩ := T.f_need_workers
  refine ⟨T.g_need_workers, F.kp, mDef_ar _ _ _, fd, ⟨FunD.self F, F.bindsA (ps := ["team", "workers"]) (fun _ _ _ _ _ _ us hl => match us, hl with | [_, _], _ => rfl)⟩, m_def (k := 2) F sc_need_workers fun cdv A outer s H E hr => ?_⟩
  have tk := (takes_of rfl rfl rfl rfl : Takes (cxOf (L2.CX P w) P w K mg base ["team", "workers"] "need_workers" (defScope (top 15)) (He.ga K "need_workers") cdv A outer s H E) (fun c d _ H => E c d H))
  unfold b_need_workers
  exact m_sone (m_if (m_tNot (m_tVal (m_call (ok_is_rising T) (hr.mono (by decide)) tk (m_acons (m_var 1) (m_acons (m_callB c_len T.b_len (m_acons (m_var 0) (m_anil))) (m_acons (m_bin o_sub (m_callB c_len T.b_len (m_acons (m_var 0) (m_anil))) (m_int)) (m_anil))))))) (m_sone (m_raise T.e_InvalidWorkers tk)) (m_nil))
theorem ok_need_jobs : DefOk P w K mg base "need_jobs" ["jobs"] 3 m_need_jobs := by
  obtain ⟨fd, F⟩ := T.f_need_jobs
  refine ⟨T.g_need_jobs, F.kp, mDef_ar _ _ _, fd, ⟨FunD.self F, F.bindsA (ps := ["jobs"]) (fun _ _ _ _ _ _ us hl => match us, hl with | [_], _ => rfl)⟩, m_def (k := 2) F sc_need_jobs fun cdv A outer s H E hr => ?_⟩
  have tk := (takes_of rfl rfl rfl rfl : Takes (cxOf (L2.CX P w) P w K mg base ["jobs"] "need_jobs" (defScope (top 16)) (He.ga K "need_jobs") cdv A outer s H E) (fun c d _ H => E c d H))
  unfold b_need_jobs
  exact m_sone (m_if (m_tNot (m_tVal (m_call (ok_is_rising T) (hr.mono (by decide)) tk (m_acons (m_var 0) (m_acons (m_gint T.i_MOST_WORKERS) (m_acons (m_gint T.i_MOST_JOB) (m_anil))))))) (m_sone (m_raise T.e_InvalidJobs tk)) (m_nil))
theorem ok_able_for : DefOk P w K mg base "able_for" ["team", "job"] 1 m_able_for := by
  obtain ⟨fd, F⟩ := T.f_able_for
  refine ⟨T.g_able_for, F.kp, mDef_ar _ _ _, fd, ⟨FunD.self F, F.bindsA (ps := ["team", "job"]) (fun _ _ _ _ _ _ us hl => match us, hl with | [_, _], _ => rfl)⟩, m_def (k := 0) F sc_able_for fun cdv A outer s H E hr => ?_⟩
  have tk := (takes_of rfl rfl rfl rfl : Takes (cxOf (L2.CX P w) P w K mg base ["team", "job", "level"] "able_for" (defScope (top 17)) (He.ga K "able_for") cdv A outer s H E) (fun c d _ H => E c d H))
  unfold b_able_for
  exact m_sone (m_ret (m_callB c_len T.b_len (m_acons (m_lc (own := [("level", 2)]) sc_able_for.nd (m_iLst (m_var 0)) (blkOk_by (by kernel_rfl)) (fun _ _ _ _ _ => m_gName 2  sc_able_for.nd) (fun _ _ _ _ _ => m_tsOne (m_tCmp o_gt (m_var 2) (m_var 1))) (fun _ _ _ _ _ => m_var 2)) (m_anil))))
theorem ok_is_crowded : DefOk P w K mg base "is_crowded" ["team", "workers", "first"] 1 m_is_crowded := by
  obtain ⟨fd, F⟩ := T.f_is_crowded
  refine ⟨T.g_is_crowded, F.kp, mDef_ar _ _ _, fd, ⟨FunD.self F, F.bindsA (ps := ["team", "workers", "first"]) (fun _ _ _ _ _ _ us hl => match us, hl with | [_, _, _], _ => rfl)⟩, m_def (k := 0) F sc_is_crowded fun cdv A outer s H E hr => ?_⟩
  have tk := (takes_of rfl rfl rfl rfl : Takes (cxOf (L2.CX P w) P w K mg base ["team", "workers", "first", "worker"] "is_crowded" (defScope (top 18)) (He.ga K "is_crowded") cdv A outer s H E) (fun c d _ H => E c d H))
  unfold b_is_crowded
  exact m_sone (m_ret (m_cmp o_gt (m_callB c_len T.b_len (m_acons (m_lc (own := [("worker", 3)]) sc_is_crowded.nd (m_iLst (m_var 1)) (blkOk_by (by kernel_rfl)) (fun _ _ _ _ _ => m_gName 3  sc_is_crowded.nd) (fun _ _ _ _ _ => m_tsOne (m_tCmp o_le (m_ix (m_var 0) (m_var 3)) (m_var 2))) (fun _ _ _ _ _ => m_var 3)) (m_anil))) (m_var 2)))
theorem ok_is_lacking : DefOk P w K mg base "is_lacking" ["team", "jobs", "first"] 2 m_is_lacking := by
  obtain ⟨fd, F⟩ := T.f_is_lacking
  refine ⟨T.g_is_lacking, F.kp, mDef_ar _ _ _, fd, ⟨FunD.self F, F.bindsA (ps := ["team", "jobs", "first"]) (fun _ _ _ _ _ _ us hl => match us, hl with | [_, _, _], _ => rfl)⟩, m_def (k := 1) F sc_is_lacking fun cdv A outer s H E hr => ?_⟩
  have tk := (takes_of rfl rfl rfl rfl : Takes (cxOf (L2.CX P w) P w K mg base ["team", "jobs", "first", "job"] "is_lacking" (defScope (top 19)) (He.ga K "is_lacking") cdv A outer s H E) (fun c d _ H => E c d H))
  unfold b_is_lacking
  exact m_sone (m_ret (m_cmp o_lt (m_call (ok_able_for T) (hr.mono (by decide)) tk (m_acons (m_var 0) (m_acons (m_var 2) (m_anil)))) (m_callB c_len T.b_len (m_acons (m_lc (own := [("job", 3)]) sc_is_lacking.nd (m_iLst (m_var 1)) (blkOk_by (by kernel_rfl)) (fun _ _ _ _ _ => m_gName 3  sc_is_lacking.nd) (fun _ _ _ _ _ => m_tsOne (m_tCmp o_ge (m_var 3) (m_var 2))) (fun _ _ _ _ _ => m_var 3)) (m_anil)))))
theorem ok_work_paper : DefOk P w K mg base "work_paper" ["team", "workers"] 4 m_work_paper := by
  obtain ⟨fd, F⟩ := T.f_work_paper
  refine ⟨T.g_work_paper, F.kp, mDef_ar _ _ _, fd, ⟨FunD.self F, F.bindsA (ps := ["team", "workers"]) (fun _ _ _ _ _ _ us hl => match us, hl with | [_, _], _ => rfl)⟩, m_def (k := 3) F sc_work_paper fun cdv A outer s H E hr => ?_⟩
  have tk := (takes_of rfl rfl rfl rfl : Takes (cxOf (L2.CX P w) P w K mg base ["team", "workers", "found", "first"] "work_paper" (defScope (top 21)) (He.ga K "work_paper") cdv A outer s H E) (fun c d _ H => E c d H))
  unfold b_work_paper
  exact m_cons (m_expr (m_call (ok_need_team T) (hr.mono (by decide)) tk (m_acons (m_var 0) (m_anil))))
    (m_cons (m_expr (m_call (ok_need_workers T) (hr.mono (by decide)) tk (m_acons (m_var 0) (m_acons (m_var 1) (m_anil)))))
    (m_cons (m_setLc 2 (own := [("first", 3)]) sc_work_paper.nd (m_iRng1 T.b_range (m_acons (m_callB c_len T.b_len (m_acons (m_var 0) (m_anil))) (m_anil))) (blkOk_by (by kernel_rfl)) (fun _ _ _ _ _ => m_gName 3  sc_work_paper.nd) (fun _ _ _ _ _ => m_tsOne (m_tVal (m_call (ok_is_crowded T) (hr.mono (by decide)) takes0 (m_acons (m_var 0) (m_acons (m_var 1) (m_acons (m_var 3) (m_anil))))))) (fun _ _ _ _ _ => m_var 3))
    (m_sone (m_ret (m_ifE (m_tCmp (o_ne hr.units) (m_var 2) (m_lst (m_anil))) (m_ix (m_var 2) (m_int)) (m_non))))))
theorem ok_can_work : DefOk P w K mg base "can_work" ["team", "workers"] 5 m_can_work := by
  obtain ⟨fd, F⟩ := T.f_can_work
  refine ⟨T.g_can_work, F.kp, mDef_ar _ _ _, fd, ⟨FunD.self F, F.bindsA (ps := ["team", "workers"]) (fun _ _ _ _ _ _ us hl => match us, hl with | [_, _], _ => rfl)⟩, m_def (k := 4) F sc_can_work fun cdv A outer s H E hr => ?_⟩
  have tk := (takes_of rfl rfl rfl rfl : Takes (cxOf (L2.CX P w) P w K mg base ["team", "workers"] "can_work" (defScope (top 20)) (He.ga K "can_work") cdv A outer s H E) (fun c d _ H => E c d H))
  unfold b_can_work
  exact m_sone (m_ret (m_isN (m_call (ok_work_paper T) (hr.mono (by decide)) tk (m_acons (m_var 0) (m_acons (m_var 1) (m_anil))))))
theorem ok_shows_work_paper : DefOk P w K mg base "shows_work_paper" ["team", "workers", "thing"] 4 m_shows_work_paper := by
  obtain ⟨fd, F⟩ := T.f_shows_work_paper
  refine ⟨T.g_shows_work_paper, F.kp, mDef_ar _ _ _, fd, ⟨FunD.self F, F.bindsA (ps := ["team", "workers", "thing"]) (fun _ _ _ _ _ _ us hl => match us, hl with | [_, _, _], _ => rfl)⟩, m_def (k := 3) F sc_shows_work_paper fun cdv A outer s H E hr => ?_⟩
  have tk := (takes_of rfl rfl rfl rfl : Takes (cxOf (L2.CX P w) P w K mg base ["team", "workers", "thing"] "shows_work_paper" (defScope (top 22)) (He.ga K "shows_work_paper") cdv A outer s H E) (fun c d _ H => E c d H))
  unfold b_shows_work_paper
  exact m_cons (m_expr (m_call (ok_need_team T) (hr.mono (by decide)) tk (m_acons (m_var 0) (m_anil))))
    (m_cons (m_expr (m_call (ok_need_workers T) (hr.mono (by decide)) tk (m_acons (m_var 0) (m_acons (m_var 1) (m_anil)))))
    (m_sone (m_ret (m_and (m_call (ok_is_integer T) (hr.mono (by decide)) tk (m_acons (m_var 2) (m_anil))) (m_and (m_cmp o_ge (m_var 2) (m_int)) (m_one (m_call (ok_is_crowded T) (hr.mono (by decide)) tk (m_acons (m_var 0) (m_acons (m_var 1) (m_acons (m_var 2) (m_anil)))))))))))
theorem ok_give_paper : DefOk P w K mg base "give_paper" ["team", "jobs"] 4 m_give_paper := by
  obtain ⟨fd, F⟩ := T.f_give_paper
  refine ⟨T.g_give_paper, F.kp, mDef_ar _ _ _, fd, ⟨FunD.self F, F.bindsA (ps := ["team", "jobs"]) (fun _ _ _ _ _ _ us hl => match us, hl with | [_, _], _ => rfl)⟩, m_def (k := 3) F sc_give_paper fun cdv A outer s H E hr => ?_⟩
  have tk := (takes_of rfl rfl rfl rfl : Takes (cxOf (L2.CX P w) P w K mg base ["team", "jobs", "found", "first"] "give_paper" (defScope (top 24)) (He.ga K "give_paper") cdv A outer s H E) (fun c d _ H => E c d H))
  unfold b_give_paper
  exact m_cons (m_expr (m_call (ok_need_team T) (hr.mono (by decide)) tk (m_acons (m_var 0) (m_anil))))
    (m_cons (m_expr (m_call (ok_need_jobs T) (hr.mono (by decide)) tk (m_acons (m_var 1) (m_anil))))
    (m_cons (m_setLc 2 (own := [("first", 3)]) sc_give_paper.nd (m_iRng1 T.b_range (m_acons (m_bin o_add (m_gint T.i_MOST_JOB) (m_int)) (m_anil))) (blkOk_by (by kernel_rfl)) (fun _ _ _ _ _ => m_gName 3  sc_give_paper.nd) (fun _ _ _ _ _ => m_tsOne (m_tVal (m_call (ok_is_lacking T) (hr.mono (by decide)) takes0 (m_acons (m_var 0) (m_acons (m_var 1) (m_acons (m_var 3) (m_anil))))))) (fun _ _ _ _ _ => m_var 3))
    (m_sone (m_ret (m_ifE (m_tCmp (o_ne hr.units) (m_var 2) (m_lst (m_anil))) (m_ix (m_var 2) (m_int)) (m_non))))))
theorem ok_can_give : DefOk P w K mg base "can_give" ["team", "jobs"] 5 m_can_give := by
  obtain ⟨fd, F⟩ := T.f_can_give
  refine ⟨T.g_can_give, F.kp, mDef_ar _ _ _, fd, ⟨FunD.self F, F.bindsA (ps := ["team", "jobs"]) (fun _ _ _ _ _ _ us hl => match us, hl with | [_, _], _ => rfl)⟩, m_def (k := 4) F sc_can_give fun cdv A outer s H E hr => ?_⟩
  have tk := (takes_of rfl rfl rfl rfl : Takes (cxOf (L2.CX P w) P w K mg base ["team", "jobs"] "can_give" (defScope (top 23)) (He.ga K "can_give") cdv A outer s H E) (fun c d _ H => E c d H))
  unfold b_can_give
  exact m_sone (m_ret (m_isN (m_call (ok_give_paper T) (hr.mono (by decide)) tk (m_acons (m_var 0) (m_acons (m_var 1) (m_anil))))))
theorem ok_shows_give_paper : DefOk P w K mg base "shows_give_paper" ["team", "jobs", "thing"] 4 m_shows_give_paper := by
  obtain ⟨fd, F⟩ := T.f_shows_give_paper
  refine ⟨T.g_shows_give_paper, F.kp, mDef_ar _ _ _, fd, ⟨FunD.self F, F.bindsA (ps := ["team", "jobs", "thing"]) (fun _ _ _ _ _ _ us hl => match us, hl with | [_, _, _], _ => rfl)⟩, m_def (k := 3) F sc_shows_give_paper fun cdv A outer s H E hr => ?_⟩
  have tk := (takes_of rfl rfl rfl rfl : Takes (cxOf (L2.CX P w) P w K mg base ["team", "jobs", "thing"] "shows_give_paper" (defScope (top 25)) (He.ga K "shows_give_paper") cdv A outer s H E) (fun c d _ H => E c d H))
  unfold b_shows_give_paper
  exact m_cons (m_expr (m_call (ok_need_team T) (hr.mono (by decide)) tk (m_acons (m_var 0) (m_anil))))
    (m_cons (m_expr (m_call (ok_need_jobs T) (hr.mono (by decide)) tk (m_acons (m_var 1) (m_anil))))
    (m_sone (m_ret (m_and (m_call (ok_is_integer T) (hr.mono (by decide)) tk (m_acons (m_var 2) (m_anil))) (m_and (m_cmp o_ge (m_var 2) (m_int)) (m_one (m_call (ok_is_lacking T) (hr.mono (by decide)) tk (m_acons (m_var 0) (m_acons (m_var 1) (m_acons (m_var 2) (m_anil)))))))))))
theorem ok__law_store : DefOk P w K mg base "_law_store" ["script", "k"] 1 m__law_store := by
  obtain ⟨fd, F⟩ := T.f__law_store
  refine ⟨T.g__law_store, F.kp, mDef_ar _ _ _, fd, ⟨FunD.self F, F.bindsA (ps := ["script", "k"]) (fun _ _ _ _ _ _ us hl => match us, hl with | [_, _], _ => rfl)⟩, m_def (k := 0) F sc__law_store fun cdv A outer s H E hr => ?_⟩
  have tk := (takes_of rfl rfl rfl rfl : Takes (cxOf (L2.CX P w) P w K mg base ["script", "k", "cell"] "_law_store" (defScope (top 27)) (He.ga K "_law_store") cdv A outer s H E) (fun c d _ H => E c d H))
  unfold b__law_store
  exact m_cons (m_set 2 sc__law_store.nd (m_ifE (m_tCmp o_lt (m_var 1) (m_callB c_len T.b_len (m_acons (m_var 0) (m_anil)))) (m_callB c_abs T.b_abs (m_acons (m_ix (m_var 0) (m_var 1)) (m_anil))) (m_int)))
    (m_sone (m_ret (m_lst (m_acons (m_callB (c_max rfl) T.b_max (m_acons (m_int) (m_acons (m_bin o_sub (m_var 2) (m_bin o_pow (m_int) (m_int))) (m_anil)))) (m_acons (m_bin o_add (m_bin o_mul (m_bin o_mod (m_callTy c_int T.b_int (m_acons (m_var 2) (m_anil))) (m_bin o_add (m_bin o_pow (m_int) (m_int)) (m_int))) (m_int)) (m_bin o_mul (m_int) (m_var 1))) (m_acons (m_int) (m_anil)))))))
theorem ok__law_pick : DefOk P w K mg base "_law_pick" ["store", "bound"] 1 m__law_pick := by
  obtain ⟨fd, F⟩ := T.f__law_pick
  refine ⟨T.g__law_pick, F.kp, mDef_ar _ _ _, fd, ⟨FunD.self F, F.bindsA (ps := ["store", "bound"]) (fun _ _ _ _ _ _ us hl => match us, hl with | [_, _], _ => rfl)⟩, m_def (k := 0) F sc__law_pick fun cdv A outer s H E hr => ?_⟩
  have tk := (takes_of rfl rfl rfl rfl : Takes (cxOf (L2.CX P w) P w K mg base ["store", "bound", "mixed", "digit"] "_law_pick" (defScope (top 28)) (He.ga K "_law_pick") cdv A outer s H E) (fun c d _ H => E c d H))
  unfold b__law_pick
  exact m_cons (m_if (m_tCmp o_gt (m_ix (m_var 0) (m_int)) (m_int)) (m_cons (m_set 3 sc__law_pick.nd (m_bin o_mod (m_callTy c_int T.b_int (m_acons (m_ix (m_var 0) (m_int)) (m_anil))) (m_var 1)))
    (m_cons (m_asg (vs := []) (m_bin o_div (m_ix (m_var 0) (m_int)) (m_var 1)) (m_gSub (m_var 0) (m_int)))
    (m_sone (m_ret (m_var 3))))) (m_nil))
    (m_cons (m_asg (vs := []) (m_bin o_add (m_ix (m_var 0) (m_int)) (m_int)) (m_gSub (m_var 0) (m_int)))
    (m_cons (m_set 2 sc__law_pick.nd (m_bin o_mod (m_callTy c_int T.b_int (m_acons (m_bin o_pow (m_bin o_add (m_ix (m_var 0) (m_int)) (m_bin o_mul (m_int) (m_ix (m_var 0) (m_int)))) (m_int)) (m_anil))) (m_bin o_add (m_bin o_pow (m_int) (m_int)) (m_int))))
    (m_cons (m_set 2 sc__law_pick.nd (m_bin o_mod (m_callTy c_int T.b_int (m_acons (m_bin o_pow (m_bin o_add (m_var 2) (m_bin o_mul (m_int) (m_ix (m_var 0) (m_int)))) (m_int)) (m_anil))) (m_bin o_add (m_bin o_pow (m_int) (m_int)) (m_int))))
    (m_sone (m_ret (m_bin o_mod (m_callTy c_int T.b_int (m_acons (m_bin o_div (m_var 2) (m_int)) (m_anil))) (m_var 1)))))))
theorem ok__law_deal : DefOk P w K mg base "_law_deal" ["store", "most", "top"] 2 m__law_deal := by
  obtain ⟨fd, F⟩ := T.f__law_deal
  refine ⟨T.g__law_deal, F.kp, mDef_ar _ _ _, fd, ⟨FunD.self F, F.bindsA (ps := ["store", "most", "top"]) (fun _ _ _ _ _ _ us hl => match us, hl with | [_, _, _], _ => rfl)⟩, m_def (k := 1) F sc__law_deal fun cdv A outer s H E hr => ?_⟩
  have tk := (takes_of rfl rfl rfl rfl : Takes (cxOf (L2.CX P w) P w K mg base ["store", "most", "top", "size_here", "bent", "some", "found", "turn", "spot"] "_law_deal" (defScope (top 29)) (He.ga K "_law_deal") cdv A outer s H E) (fun c d _ H => E c d H))
  unfold b__law_deal
  exact m_cons (m_asg (vs := [3, 4]) (m_tup (m_acons (m_bin o_add (m_int) (m_call (ok__law_pick T) (hr.mono (by decide)) tk (m_acons (m_var 0) (m_acons (m_var 1) (m_anil))))) (m_acons (m_call (ok__law_pick T) (hr.mono (by decide)) tk (m_acons (m_var 0) (m_acons (m_int) (m_anil)))) (m_anil)))) (m_gTup rfl (m_gcons (m_gName 3 (vs := [3, 4]) sc__law_deal.nd) (m_gcons (m_gName 4 (vs := [3, 4]) sc__law_deal.nd) (m_gnil)))))
    (m_cons (m_if (m_tCmp (o_eq hr.units) (m_var 4) (m_int)) (m_cons (m_set 5 sc__law_deal.nd (m_lc (own := [("turn", 7)]) sc__law_deal.nd (m_iRng1 T.b_range (m_acons (m_int) (m_anil))) (blkOk_by (by kernel_rfl)) (fun _ _ _ _ _ => m_gName 7  sc__law_deal.nd) (fun _ _ _ _ _ => m_tsNil) (fun _ _ _ _ _ => m_call (ok__law_pick T) (hr.mono (by decide)) takes0 (m_acons (m_var 0) (m_acons (m_bin o_add (m_var 2) (m_int)) (m_anil))))))
    (m_sone (m_ret (m_lc (own := [("turn", 7)]) sc__law_deal.nd (m_iRng1 T.b_range (m_acons (m_var 3) (m_anil))) (blkOk_by (by kernel_rfl)) (fun _ _ _ _ _ => m_gName 7  sc__law_deal.nd) (fun _ _ _ _ _ => m_tsNil) (fun _ _ _ _ _ => m_ix (m_var 5) (m_call (ok__law_pick T) (hr.mono (by decide)) takes0 (m_acons (m_var 0) (m_acons (m_int) (m_anil))))))))) (m_nil))
    (m_cons (m_if (m_tCmp (o_eq hr.units) (m_var 4) (m_int)) (m_sone (m_ret (m_lc (own := [("turn", 7)]) sc__law_deal.nd (m_iRng1 T.b_range (m_acons (m_var 3) (m_anil))) (blkOk_by (by kernel_rfl)) (fun _ _ _ _ _ => m_gName 7  sc__law_deal.nd) (fun _ _ _ _ _ => m_tsNil) (fun _ _ _ _ _ => m_call (ok__law_pick T) (hr.mono (by decide)) takes0 (m_acons (m_var 0) (m_acons (m_bin o_add (m_callB (c_min rfl) T.b_min (m_acons (m_var 2) (m_acons (m_int) (m_anil)))) (m_int)) (m_anil))))))) (m_nil))
    (m_cons (m_if (m_tCmp (o_eq hr.units) (m_var 4) (m_int)) (m_cons (m_set 6 sc__law_deal.nd (m_lc (own := [("spot", 8)]) sc__law_deal.nd (m_iRng1 T.b_range (m_acons (m_var 3) (m_anil))) (blkOk_by (by kernel_rfl)) (fun _ _ _ _ _ => m_gName 8  sc__law_deal.nd) (fun _ _ _ _ _ => m_tsNil) (fun _ _ _ _ _ => m_callB (c_min rfl) T.b_min (m_acons (m_var 2) (m_acons (m_bin o_add (m_var 8) (m_call (ok__law_pick T) (hr.mono (by decide)) takes0 (m_acons (m_var 0) (m_acons (m_int) (m_anil))))) (m_anil))))))
    (m_sone (m_ret (m_lc (own := [("turn", 7)]) sc__law_deal.nd (m_iRng1 T.b_range (m_acons (m_var 3) (m_anil))) (blkOk_by (by kernel_rfl)) (fun _ _ _ _ _ => m_gName 7  sc__law_deal.nd) (fun _ _ _ _ _ => m_tsNil) (fun _ _ _ _ _ => m_mt t_pop PySem.F.slot_list_pop PySem.F.type_list_pop (m_var 6) (m_acons (m_call (ok__law_pick T) (hr.mono (by decide)) takes0 (m_acons (m_var 0) (m_acons (m_callB c_len T.b_len (m_acons (m_var 6) (m_anil))) (m_anil)))) (m_anil))))))) (m_nil))
    (m_cons (m_if (m_tCmp (o_eq hr.units) (m_var 4) (m_int)) (m_sone (m_ret (m_bin o_mul (m_lst (m_acons (m_call (ok__law_pick T) (hr.mono (by decide)) tk (m_acons (m_var 0) (m_acons (m_bin o_add (m_var 2) (m_int)) (m_anil)))) (m_anil))) (m_var 3)))) (m_nil))
    (m_sone (m_ret (m_lc (own := [("turn", 7)]) sc__law_deal.nd (m_iRng1 T.b_range (m_acons (m_var 3) (m_anil))) (blkOk_by (by kernel_rfl)) (fun _ _ _ _ _ => m_gName 7  sc__law_deal.nd) (fun _ _ _ _ _ => m_tsNil) (fun _ _ _ _ _ => m_bin o_sub (m_var 2) (m_call (ok__law_pick T) (hr.mono (by decide)) takes0 (m_acons (m_var 0) (m_acons (m_ix (m_lst (m_acons (m_bin o_add (m_var 2) (m_int)) (m_acons (m_bin o_add (m_callB (c_min rfl) T.b_min (m_acons (m_var 2) (m_acons (m_int) (m_anil)))) (m_int)) (m_anil)))) (m_callTy c_int T.b_int (m_acons (m_cmp (o_eq hr.units) (m_var 4) (m_int)) (m_anil)))) (m_anil))))))))))))
theorem ok__law_order : DefOk P w K mg base "_law_order" ["deal"] 1 m__law_order := by
  obtain ⟨fd, F⟩ := T.f__law_order
  refine ⟨T.g__law_order, F.kp, mDef_ar _ _ _, fd, ⟨FunD.self F, F.bindsA (ps := ["deal"]) (fun _ _ _ _ _ _ us hl => match us, hl with | [_], _ => rfl)⟩, m_def (k := 0) F sc__law_order fun cdv A outer s H E hr => ?_⟩
  have tk := (takes_of rfl rfl rfl rfl : Takes (cxOf (L2.CX P w) P w K mg base ["deal", "own", "who"] "_law_order" (defScope (top 30)) (He.ga K "_law_order") cdv A outer s H E) (fun c d _ H => E c d H))
  unfold b__law_order
  exact m_sone (m_ret (m_lc (own := [("own", 1), ("who", 2)]) sc__law_order.nd (m_iLst (m_callB c_sorted T.b_sorted (m_acons (m_lc (own := [("who", 2), ("own", 1)]) sc__law_order.nd (m_iEnum T.b_enumerate (m_acons (m_var 0) (m_anil))) (blkOk_by (by kernel_rfl)) (fun _ _ _ _ _ => m_gTup rfl (m_gcons (m_gName 2  sc__law_order.nd) (m_gcons (m_gName 1  sc__law_order.nd) (m_gnil)))) (fun _ _ _ _ _ => m_tsNil) (fun _ _ _ _ _ => m_tup (m_acons (m_var 1) (m_acons (m_var 2) (m_anil))))) (m_anil)))) (blkOk_by (by kernel_rfl)) (fun _ _ _ _ _ => m_gTup rfl (m_gcons (m_gName 1  sc__law_order.nd) (m_gcons (m_gName 2  sc__law_order.nd) (m_gnil)))) (fun _ _ _ _ _ => m_tsNil) (fun _ _ _ _ _ => m_var 2)))
theorem ok__law_high : DefOk P w K mg base "_law_high" ["store"] 2 m__law_high := by
  obtain ⟨fd, F⟩ := T.f__law_high
  refine ⟨T.g__law_high, F.kp, mDef_ar _ _ _, fd, ⟨FunD.self F, F.bindsA (ps := ["store"]) (fun _ _ _ _ _ _ us hl => match us, hl with | [_], _ => rfl)⟩, m_def (k := 1) F sc__law_high fun cdv A outer s H E hr => ?_⟩
  have tk := (takes_of rfl rfl rfl rfl : Takes (cxOf (L2.CX P w) P w K mg base ["store", "place", "far", "left", "turn"] "_law_high" (defScope (top 31)) (He.ga K "_law_high") cdv A outer s H E) (fun c d _ H => E c d H))
  unfold b__law_high
  exact m_cons (m_asg (vs := [2, 3]) (m_tup (m_acons (m_ix (m_lst (m_acons (m_int) (m_acons (m_int) (m_acons (m_int) (m_anil))))) (m_call (ok__law_pick T) (hr.mono (by decide)) tk (m_acons (m_var 0) (m_acons (m_int) (m_anil))))) (m_acons (m_lst (m_anil)) (m_anil)))) (m_gTup rfl (m_gcons (m_gName 2 (vs := [2, 3]) sc__law_high.nd) (m_gcons (m_gName 3 (vs := [2, 3]) sc__law_high.nd) (m_gnil)))))
    (m_cons (m_for (passes_of rfl) (m_iRng1 T.b_range (m_acons (m_bin o_add (m_int) (m_call (ok__law_pick T) (hr.mono (by decide)) tk (m_acons (m_var 0) (m_acons (m_int) (m_anil))))) (m_anil))) (m_gName 1 (vs := [1]) sc__law_high.nd) (m_sone (m_expr (m_mt t_append PySem.F.slot_list_append PySem.F.type_list_append (m_var 3) (m_acons (m_bin o_sub (m_bin o_add (m_int) (m_var 1)) (m_call (ok__law_pick T) (hr.mono (by decide)) tk (m_acons (m_var 0) (m_acons (m_var 2) (m_anil))))) (m_anil))))))
    (m_sone (m_ret (m_lc (own := [("turn", 4)]) sc__law_high.nd (m_iRng1 T.b_range (m_acons (m_callB c_len T.b_len (m_acons (m_var 3) (m_anil))) (m_anil))) (blkOk_by (by kernel_rfl)) (fun _ _ _ _ _ => m_gName 4  sc__law_high.nd) (fun _ _ _ _ _ => m_tsNil) (fun _ _ _ _ _ => m_mt t_pop PySem.F.slot_list_pop PySem.F.type_list_pop (m_var 3) (m_acons (m_call (ok__law_pick T) (hr.mono (by decide)) takes0 (m_acons (m_var 0) (m_acons (m_callB c_len T.b_len (m_acons (m_var 3) (m_anil))) (m_anil)))) (m_anil)))))))
theorem ok__law_crowd : DefOk P w K mg base "_law_crowd" ["deal", "gang", "first"] 1 m__law_crowd := by
  obtain ⟨fd, F⟩ := T.f__law_crowd
  refine ⟨T.g__law_crowd, F.kp, mDef_ar _ _ _, fd, ⟨FunD.self F, F.bindsA (ps := ["deal", "gang", "first"]) (fun _ _ _ _ _ _ us hl => match us, hl with | [_, _, _], _ => rfl)⟩, m_def (k := 0) F sc__law_crowd fun cdv A outer s H E hr => ?_⟩
  have tk := (takes_of rfl rfl rfl rfl : Takes (cxOf (L2.CX P w) P w K mg base ["deal", "gang", "first", "who"] "_law_crowd" (defScope (top 32)) (He.ga K "_law_crowd") cdv A outer s H E) (fun c d _ H => E c d H))
  unfold b__law_crowd
  exact m_sone (m_ret (m_cmp o_gt (m_callB c_len T.b_len (m_acons (m_lc (own := [("who", 3)]) sc__law_crowd.nd (m_iLst (m_var 1)) (blkOk_by (by kernel_rfl)) (fun _ _ _ _ _ => m_gName 3  sc__law_crowd.nd) (fun _ _ _ _ _ => m_tsOne (m_tCmp o_le (m_ix (m_var 0) (m_var 3)) (m_var 2))) (fun _ _ _ _ _ => m_var 3)) (m_anil))) (m_var 2)))
theorem ok__law_lack : DefOk P w K mg base "_law_lack" ["deal", "goods", "first"] 1 m__law_lack := by
  obtain ⟨fd, F⟩ := T.f__law_lack
  refine ⟨T.g__law_lack, F.kp, mDef_ar _ _ _, fd, ⟨FunD.self F, F.bindsA (ps := ["deal", "goods", "first"]) (fun _ _ _ _ _ _ us hl => match us, hl with | [_, _, _], _ => rfl)⟩, m_def (k := 0) F sc__law_lack fun cdv A outer s H E hr => ?_⟩
  have tk := (takes_of rfl rfl rfl rfl : Takes (cxOf (L2.CX P w) P w K mg base ["deal", "goods", "first", "own", "spot"] "_law_lack" (defScope (top 33)) (He.ga K "_law_lack") cdv A outer s H E) (fun c d _ H => E c d H))
  unfold b__law_lack
  exact m_sone (m_ret (m_cmp o_lt (m_callB c_len T.b_len (m_acons (m_lc (own := [("own", 3)]) sc__law_lack.nd (m_iLst (m_var 0)) (blkOk_by (by kernel_rfl)) (fun _ _ _ _ _ => m_gName 3  sc__law_lack.nd) (fun _ _ _ _ _ => m_tsOne (m_tCmp o_gt (m_var 3) (m_var 2))) (fun _ _ _ _ _ => m_var 3)) (m_anil))) (m_callB c_len T.b_len (m_acons (m_lc (own := [("spot", 4)]) sc__law_lack.nd (m_iLst (m_var 1)) (blkOk_by (by kernel_rfl)) (fun _ _ _ _ _ => m_gName 4  sc__law_lack.nd) (fun _ _ _ _ _ => m_tsOne (m_tCmp o_ge (m_var 4) (m_var 2))) (fun _ _ _ _ _ => m_var 4)) (m_anil)))))
theorem ok__law_rising : DefOk P w K mg base "_law_rising" ["store", "size_here", "most"] 2 m__law_rising := by
  obtain ⟨fd, F⟩ := T.f__law_rising
  refine ⟨T.g__law_rising, F.kp, mDef_ar _ _ _, fd, ⟨FunD.self F, F.bindsA (ps := ["store", "size_here", "most"]) (fun _ _ _ _ _ _ us hl => match us, hl with | [_, _, _], _ => rfl)⟩, m_def (k := 1) F sc__law_rising fun cdv A outer s H E hr => ?_⟩
  have tk := (takes_of rfl rfl rfl rfl : Takes (cxOf (L2.CX P w) P w K mg base ["store", "size_here", "most", "bent", "found", "spot"] "_law_rising" (defScope (top 34)) (He.ga K "_law_rising") cdv A outer s H E) (fun c d _ H => E c d H))
  unfold b__law_rising
  exact m_cons (m_set 3 sc__law_rising.nd (m_call (ok__law_pick T) (hr.mono (by decide)) tk (m_acons (m_var 0) (m_acons (m_int) (m_anil)))))
    (m_cons (m_setLc 4 (own := [("spot", 5)]) sc__law_rising.nd (m_iRng1 T.b_range (m_acons (m_var 1) (m_anil))) (blkOk_by (by kernel_rfl)) (fun _ _ _ _ _ => m_gName 5  sc__law_rising.nd) (fun _ _ _ _ _ => m_tsOne (PW.pt (m_tOr (m_tCmp (o_eq hr.units) (m_var 3) (m_int)) (m_or1 (m_tCmp (o_eq hr.units) (m_call (ok__law_pick T) (hr.mono (by decide)) takes0 (m_acons (m_var 0) (m_acons (m_ix (m_lst (m_acons (m_int) (m_acons (m_int) (m_acons (m_int) (m_acons (m_int) (m_anil)))))) (m_var 3)) (m_anil)))) (m_int)))))) (fun _ _ _ _ _ => m_var 5))
    (m_sone (m_ret (m_ix (m_lst (m_acons (m_sl (m_var 4) (m_oNone) (m_oSome (m_var 2))) (m_acons (m_sl (m_var 4) (m_oSome (m_un o_neg (m_var 2))) (m_oNone)) (m_anil)))) (m_call (ok__law_pick T) (hr.mono (by decide)) tk (m_acons (m_var 0) (m_acons (m_int) (m_anil))))))))
theorem ok__law_things : DefOk P w K mg base "_law_things" [] 1 m__law_things := by
  obtain ⟨fd, F⟩ := T.f__law_things
  refine ⟨T.g__law_things, F.kp, mDef_ar _ _ _, fd, ⟨FunD.self F, F.bindsA (ps := []) (fun _ _ _ _ _ _ us hl => match us, hl with | [], _ => rfl)⟩, m_def (k := 0) F sc__law_things fun cdv A outer s H E hr => ?_⟩
  have tk := (takes_of rfl rfl rfl rfl : Takes (cxOf (L2.CX P w) P w K mg base [] "_law_things" (defScope (top 35)) (He.ga K "_law_things") cdv A outer s H E) (fun c d _ H => E c d H))
  unfold b__law_things
  exact m_sone (m_ret (m_lst (m_acons (m_non) (m_acons (m_bl) (m_acons (m_bl) (m_acons (m_str) (m_acons (m_str) (m_acons (m_tup (m_anil)) (m_acons (m_lst (m_anil)) (m_acons (m_d0) (m_acons (m_lst (m_acons (m_int) (m_anil))) (m_acons (m_tup (m_acons (m_int) (m_anil))) (m_acons (m_un o_neg (m_int)) (m_acons (m_bin o_sub (m_int) (m_bin o_pow (m_int) (m_int))) (m_acons (m_lst (m_acons (m_non) (m_anil))) (m_acons (m_str) (m_acons (m_d1) (m_acons (m_tup (m_acons (m_tup (m_anil)) (m_anil))) (m_anil)))))))))))))))))))
theorem ok__law_right : DefG P w K mg base "_law_right" ["store", "deal", "gang", "goods"] 6 m__law_right := by
  obtain ⟨fd, F⟩ := T.f__law_right
  refine ⟨T.g__law_right, F.kp, mDef_ar _ _ _, fd, ⟨FunD.self F, F.bindsA (ps := ["store", "deal", "gang", "goods"]) (fun _ _ _ _ _ _ us hl => match us, hl with | [_, _, _, _], _ => rfl)⟩, m_defG (k := 5) F sc__law_right fun cdv A outer s H E hgu hr => ?_⟩
  have tk := (takes_of rfl rfl rfl rfl : Takes (cxOf (L2.CX P w) P w K mg base ["store", "deal", "gang", "goods", "kept", "some", "due", "lots", "first", "bad"] "_law_right" (defScope (top 36)) (He.ga K "_law_right") cdv A outer s H E) (fun c d _ H => E c d H))
  unfold b__law_right
  exact m_cons (m_set 4 sc__law_right.nd (m_callB (c_repr hgu hr.units) T.b_repr (m_acons (m_lst (m_acons (m_var 1) (m_acons (m_var 2) (m_acons (m_var 3) (m_anil))))) (m_anil))))
    (m_cons (m_setLc 5 (own := [("first", 8)]) sc__law_right.nd (m_iRng1 T.b_range (m_acons (m_int) (m_anil))) (blkOk_by (by kernel_rfl)) (fun _ _ _ _ _ => m_gName 8  sc__law_right.nd) (fun _ _ _ _ _ => m_tsOne (m_tVal (m_call (ok__law_crowd T) (hr.mono (by decide)) takes0 (m_acons (m_var 1) (m_acons (m_var 2) (m_acons (m_var 8) (m_anil))))))) (fun _ _ _ _ _ => m_var 8))
    (m_cons (m_set 6 sc__law_right.nd (m_ifE (m_tCmp (o_ne hr.units) (m_var 5) (m_lst (m_anil))) (m_ix (m_var 5) (m_int)) (m_non)))
    (m_cons (m_if (m_tCmp (o_ne hr.units) (m_callB (c_repr hgu hr.units) T.b_repr (m_acons (m_lst (m_acons (m_callKw (ks := ["team", "workers"]) [0, 1] ((ok_work_paper T).g) (T.f_work_paper).choose_spec (fun _ _ _ _ _ _ ws hl => match ws, hl with | [_, _], _ => rfl) hgu (hr.mono (by decide)) tk (m_kcons (m_var 1) (m_kcons (m_var 2) (m_knil)))) (m_acons (m_call (ok_can_work T) (hr.mono (by decide)) tk (m_acons (m_var 1) (m_acons (m_var 2) (m_anil)))) (m_anil)))) (m_anil))) (m_callB (c_repr hgu hr.units) T.b_repr (m_acons (m_lst (m_acons (m_var 6) (m_acons (m_isN (m_var 6)) (m_anil)))) (m_anil)))) (m_sone (m_ret (m_bl))) (m_nil))
    (m_cons (m_setLc 7 (own := [("first", 8)]) sc__law_right.nd (m_iRng1 T.b_range (m_acons (m_int) (m_anil))) (blkOk_by (by kernel_rfl)) (fun _ _ _ _ _ => m_gName 8  sc__law_right.nd) (fun _ _ _ _ _ => m_tsOne (m_tVal (m_call (ok__law_lack T) (hr.mono (by decide)) takes0 (m_acons (m_var 1) (m_acons (m_var 3) (m_acons (m_var 8) (m_anil))))))) (fun _ _ _ _ _ => m_var 8))
    (m_cons (m_set 6 sc__law_right.nd (m_ifE (m_tCmp (o_ne hr.units) (m_var 7) (m_lst (m_anil))) (m_ix (m_var 7) (m_int)) (m_non)))
    (m_cons (m_if (m_tCmp (o_ne hr.units) (m_callB (c_repr hgu hr.units) T.b_repr (m_acons (m_lst (m_acons (m_callKw (ks := ["team", "jobs"]) [0, 1] ((ok_give_paper T).g) (T.f_give_paper).choose_spec (fun _ _ _ _ _ _ ws hl => match ws, hl with | [_, _], _ => rfl) hgu (hr.mono (by decide)) tk (m_kcons (m_var 1) (m_kcons (m_var 3) (m_knil)))) (m_acons (m_call (ok_can_give T) (hr.mono (by decide)) tk (m_acons (m_var 1) (m_acons (m_var 3) (m_anil)))) (m_anil)))) (m_anil))) (m_callB (c_repr hgu hr.units) T.b_repr (m_acons (m_lst (m_acons (m_var 6) (m_acons (m_isN (m_var 6)) (m_anil)))) (m_anil)))) (m_sone (m_ret (m_bl))) (m_nil))
    (m_cons (m_for (passes_of rfl) (m_iLst (m_bin o_add (m_lrg1 T.b_list T.b_range (m_int)) (m_lst (m_acons (m_bin o_pow (m_int) (m_int)) (m_acons (m_bin o_add (m_int) (m_call (ok__law_pick T) (hr.mono (by decide)) tk (m_acons (m_var 0) (m_acons (m_bin o_pow (m_int) (m_int)) (m_anil))))) (m_anil)))))) (m_gName 8 (vs := [8]) sc__law_right.nd) (m_cons (m_if (m_tCmp (o_ne hr.units) (m_callB (c_repr hgu hr.units) T.b_repr (m_acons (m_callKw (ks := ["team", "workers", "thing"]) [0, 1, 2] ((ok_shows_work_paper T).g) (T.f_shows_work_paper).choose_spec (fun _ _ _ _ _ _ ws hl => match ws, hl with | [_, _, _], _ => rfl) hgu (hr.mono (by decide)) tk (m_kcons (m_var 1) (m_kcons (m_var 2) (m_kcons (m_var 8) (m_knil))))) (m_anil))) (m_callB (c_repr hgu hr.units) T.b_repr (m_acons (m_cmp o_in (m_var 8) (m_var 5)) (m_anil)))) (m_sone (m_ret (m_bl))) (m_nil))
    (m_sone (m_if (m_tCmp (o_ne hr.units) (m_callB (c_repr hgu hr.units) T.b_repr (m_acons (m_callKw (ks := ["team", "jobs", "thing"]) [0, 1, 2] ((ok_shows_give_paper T).g) (T.f_shows_give_paper).choose_spec (fun _ _ _ _ _ _ ws hl => match ws, hl with | [_, _, _], _ => rfl) hgu (hr.mono (by decide)) tk (m_kcons (m_var 1) (m_kcons (m_var 3) (m_kcons (m_var 8) (m_knil))))) (m_anil))) (m_callB (c_repr hgu hr.units) T.b_repr (m_acons (m_cmp o_in (m_var 8) (m_var 7)) (m_anil)))) (m_sone (m_ret (m_bl))) (m_nil)))))
    (m_cons (m_for (passes_of rfl) (m_iLst (m_callG0 ((ok__law_things T).g) hgu (hr.mono (by decide)) tk)) (m_gName 9 (vs := [9]) sc__law_right.nd) (m_sone (m_if (m_tCmp (o_ne hr.units) (m_callB (c_repr hgu hr.units) T.b_repr (m_acons (m_lst (m_acons (m_call (ok_shows_work_paper T) (hr.mono (by decide)) tk (m_acons (m_var 1) (m_acons (m_var 2) (m_acons (m_var 9) (m_anil))))) (m_acons (m_call (ok_shows_give_paper T) (hr.mono (by decide)) tk (m_acons (m_var 1) (m_acons (m_var 3) (m_acons (m_var 9) (m_anil))))) (m_anil)))) (m_anil))) (m_str)) (m_sone (m_ret (m_bl))) (m_nil))))
    (m_sone (m_ret (m_cmp (o_eq hr.units) (m_callB (c_repr hgu hr.units) T.b_repr (m_acons (m_lst (m_acons (m_var 1) (m_acons (m_var 2) (m_acons (m_var 3) (m_anil))))) (m_anil))) (m_var 4))))))))))))
theorem ok_law : DefG P w K mg base "law" ["script"] 7 m_law := by
  obtain ⟨fd, F⟩ := T.f_law
  refine ⟨T.g_law, F.kp, mDef_ar _ _ _, fd, ⟨FunD.self F, F.bindsA (ps := ["script"]) (fun _ _ _ _ _ _ us hl => match us, hl with | [_], _ => rfl)⟩, m_defG (k := 6) F sc_law fun cdv A outer s H E hgu hr => ?_⟩
  have tk := (takes_of rfl rfl rfl rfl : Takes (cxOf (L2.CX P w) P w K mg base ["script", "k", "told", "great", "store", "deal", "gang", "goods"] "law" (defScope (top 37)) (He.ga K "law") cdv A outer s H E) (fun c d _ H => E c d H))
  unfold b_law
  exact m_cons (m_for (passes_of rfl) (m_iRng1 T.b_range (m_acons (m_callB (c_max rfl) T.b_max (m_acons (m_int) (m_acons (m_callB (c_min rfl) T.b_min (m_acons (m_int) (m_acons (m_callB c_len T.b_len (m_acons (m_var 0) (m_anil))) (m_anil)))) (m_anil)))) (m_anil))) (m_gName 1 (vs := [1]) sc_law.nd) (m_cons (m_set 4 sc_law.nd (m_call (ok__law_store T) (hr.mono (by decide)) tk (m_acons (m_var 0) (m_acons (m_var 1) (m_anil)))))
    (m_sone (m_for (passes_of rfl) (m_iLst (m_lst (m_acons (m_call (ok__law_deal T) (hr.mono (by decide)) tk (m_acons (m_var 4) (m_acons (m_int) (m_acons (m_int) (m_anil))))) (m_acons (m_call (ok__law_deal T) (hr.mono (by decide)) tk (m_acons (m_var 4) (m_acons (m_int) (m_acons (m_int) (m_anil))))) (m_acons (m_call (ok__law_deal T) (hr.mono (by decide)) tk (m_acons (m_var 4) (m_acons (m_int) (m_acons (m_int) (m_anil))))) (m_acons (m_call (ok__law_high T) (hr.mono (by decide)) tk (m_acons (m_var 4) (m_anil))) (m_anil))))))) (m_gName 5 (vs := [5]) sc_law.nd) (m_cons (m_set 6 sc_law.nd (m_call (ok__law_rising T) (hr.mono (by decide)) tk (m_acons (m_var 4) (m_acons (m_callB c_len T.b_len (m_acons (m_var 5) (m_anil))) (m_acons (m_int) (m_anil))))))
    (m_cons (m_set 7 sc_law.nd (m_call (ok__law_rising T) (hr.mono (by decide)) tk (m_acons (m_var 4) (m_acons (m_ix (m_lst (m_acons (m_int) (m_acons (m_bin o_add (m_callB (c_max rfl) T.b_max (m_acons (m_var 5) (m_anil))) (m_int)) (m_acons (m_int) (m_anil))))) (m_call (ok__law_pick T) (hr.mono (by decide)) tk (m_acons (m_var 4) (m_acons (m_int) (m_anil))))) (m_acons (m_int) (m_anil))))))
    (m_sone (m_if (m_tNot (m_tVal (m_callG (ok__law_right T) hgu (hr.mono (by decide)) tk (m_acons (m_var 4) (m_acons (m_var 5) (m_acons (m_var 6) (m_acons (m_var 7) (m_anil)))))))) (m_sone (m_ret (m_bl))) (m_nil)))))))))
    (m_cons (m_set 2 sc_law.nd (m_lst (m_acons (m_call (ok_work_paper T) (hr.mono (by decide)) tk (m_acons (m_lst (m_acons (m_int) (m_anil))) (m_acons (m_lst (m_acons (m_int) (m_anil))) (m_anil)))) (m_acons (m_call (ok_work_paper T) (hr.mono (by decide)) tk (m_acons (m_lst (m_acons (m_int) (m_acons (m_int) (m_acons (m_int) (m_anil))))) (m_acons (m_lst (m_acons (m_int) (m_acons (m_int) (m_acons (m_int) (m_anil))))) (m_anil)))) (m_acons (m_call (ok_work_paper T) (hr.mono (by decide)) tk (m_acons (m_lst (m_acons (m_int) (m_acons (m_int) (m_anil)))) (m_acons (m_lst (m_anil)) (m_anil)))) (m_anil))))))
    (m_cons (m_if (PW.pt (m_tOr (m_tCmp (o_ne hr.units) (m_var 2) (m_lst (m_acons (m_int) (m_acons (m_int) (m_acons (m_non) (m_anil)))))) (m_or1 (m_tNotN (m_call (ok_work_paper T) (hr.mono (by decide)) tk (m_acons (m_bin o_mul (m_lst (m_acons (m_int) (m_anil))) (m_int)) (m_acons (m_lrg1 T.b_list T.b_range (m_int)) (m_anil)))))))) (m_sone (m_ret (m_bl))) (m_nil))
    (m_cons (m_set 2 sc_law.nd (m_lst (m_acons (m_call (ok_give_paper T) (hr.mono (by decide)) tk (m_acons (m_lst (m_acons (m_int) (m_acons (m_int) (m_acons (m_int) (m_anil))))) (m_acons (m_lst (m_acons (m_int) (m_acons (m_int) (m_anil)))) (m_anil)))) (m_acons (m_call (ok_give_paper T) (hr.mono (by decide)) tk (m_acons (m_lst (m_acons (m_int) (m_acons (m_int) (m_acons (m_int) (m_anil))))) (m_acons (m_lst (m_acons (m_int) (m_acons (m_int) (m_acons (m_int) (m_anil))))) (m_anil)))) (m_acons (m_call (ok_give_paper T) (hr.mono (by decide)) tk (m_acons (m_lst (m_acons (m_int) (m_anil))) (m_acons (m_lst (m_acons (m_int) (m_acons (m_int) (m_anil)))) (m_anil)))) (m_anil))))))
    (m_cons (m_if (PW.pt (m_tOr (m_tCmp (o_ne hr.units) (m_var 2) (m_lst (m_acons (m_non) (m_acons (m_int) (m_acons (m_int) (m_anil)))))) (m_or1 (m_tCmp (o_ne hr.units) (m_call (ok_give_paper T) (hr.mono (by decide)) tk (m_acons (m_lst (m_acons (m_int) (m_anil))) (m_acons (m_lst (m_acons (m_int) (m_anil))) (m_anil)))) (m_int))))) (m_sone (m_ret (m_bl))) (m_nil))
    (m_cons (m_if (PW.pt (m_tOr (m_tNotN (m_call (ok_give_paper T) (hr.mono (by decide)) tk (m_acons (m_bin o_mul (m_lst (m_acons (m_int) (m_anil))) (m_int)) (m_acons (m_lrg2 T.b_list T.b_range (m_int) (m_int)) (m_anil))))) (m_or1 (m_tCmp (o_ne hr.units) (m_call (ok_give_paper T) (hr.mono (by decide)) tk (m_acons (m_bin o_mul (m_lst (m_acons (m_int) (m_anil))) (m_int)) (m_acons (m_lrg2 T.b_list T.b_range (m_int) (m_int)) (m_anil)))) (m_int))))) (m_sone (m_ret (m_bl))) (m_nil))
    (m_cons (m_set 3 sc_law.nd (m_lrg2 T.b_list T.b_range (m_int) (m_int)))
    (m_cons (m_set 2 sc_law.nd (m_lst (m_acons (m_call (ok_give_paper T) (hr.mono (by decide)) tk (m_acons (m_var 3) (m_acons (m_lrg2 T.b_list T.b_range (m_int) (m_int)) (m_anil)))) (m_acons (m_call (ok_give_paper T) (hr.mono (by decide)) tk (m_acons (m_var 3) (m_acons (m_lst (m_acons (m_int) (m_acons (m_int) (m_acons (m_int) (m_anil))))) (m_anil)))) (m_acons (m_call (ok_give_paper T) (hr.mono (by decide)) tk (m_acons (m_var 3) (m_acons (m_lst (m_acons (m_int) (m_anil))) (m_anil)))) (m_anil))))))
    (m_sone (m_ret (m_and (m_cmp (o_eq hr.units) (m_var 2) (m_lst (m_acons (m_non) (m_acons (m_int) (m_acons (m_int) (m_anil)))))) (m_and (m_isN (m_call (ok_work_paper T) (hr.mono (by decide)) tk (m_acons (m_var 3) (m_acons (m_lrg1 T.b_list T.b_range (m_int)) (m_anil))))) (m_one (m_call (ok_shows_give_paper T) (hr.mono (by decide)) tk (m_acons (m_var 3) (m_acons (m_lst (m_acons (m_int) (m_anil))) (m_acons (m_int) (m_anil)))))))))))))))))
end

end M
namespace M
open PySem PySem.Spec PyProof.Rows L2
def hdFn : List He.DefD := [⟨("is_integer", none), "is_integer", "is_integer", defArgs (top 9), defBody (top 9), defScope (top 9), [], []⟩,
  ⟨("is_team", none), "is_team", "is_team", defArgs (top 10), defBody (top 10), defScope (top 10), [], []⟩,
  ⟨("spare_by", none), "spare_by", "spare_by", defArgs (top 11), defBody (top 11), defScope (top 11), [], []⟩,
  ⟨("need_team", none), "need_team", "need_team", defArgs (top 12), defBody (top 12), defScope (top 12), [], []⟩,
  ⟨("is_rising", none), "is_rising", "is_rising", defArgs (top 14), defBody (top 14), defScope (top 14), [], []⟩,
  ⟨("need_workers", none), "need_workers", "need_workers", defArgs (top 15), defBody (top 15), defScope (top 15), [], []⟩,
  ⟨("need_jobs", none), "need_jobs", "need_jobs", defArgs (top 16), defBody (top 16), defScope (top 16), [], []⟩,
  ⟨("able_for", none), "able_for", "able_for", defArgs (top 17), defBody (top 17), defScope (top 17), [], []⟩,
  ⟨("is_crowded", none), "is_crowded", "is_crowded", defArgs (top 18), defBody (top 18), defScope (top 18), [], []⟩,
  ⟨("is_lacking", none), "is_lacking", "is_lacking", defArgs (top 19), defBody (top 19), defScope (top 19), [], []⟩,
  ⟨("can_work", none), "can_work", "can_work", defArgs (top 20), defBody (top 20), defScope (top 20), [], []⟩,
  ⟨("work_paper", none), "work_paper", "work_paper", defArgs (top 21), defBody (top 21), defScope (top 21), [], []⟩,
  ⟨("shows_work_paper", none), "shows_work_paper", "shows_work_paper", defArgs (top 22), defBody (top 22), defScope (top 22), [], []⟩,
  ⟨("can_give", none), "can_give", "can_give", defArgs (top 23), defBody (top 23), defScope (top 23), [], []⟩,
  ⟨("give_paper", none), "give_paper", "give_paper", defArgs (top 24), defBody (top 24), defScope (top 24), [], []⟩,
  ⟨("shows_give_paper", none), "shows_give_paper", "shows_give_paper", defArgs (top 25), defBody (top 25), defScope (top 25), [], []⟩,
  ⟨("_law_store", none), "_law_store", "_law_store", defArgs (top 27), defBody (top 27), defScope (top 27), [], []⟩,
  ⟨("_law_pick", none), "_law_pick", "_law_pick", defArgs (top 28), defBody (top 28), defScope (top 28), [], []⟩,
  ⟨("_law_deal", none), "_law_deal", "_law_deal", defArgs (top 29), defBody (top 29), defScope (top 29), [], []⟩,
  ⟨("_law_order", none), "_law_order", "_law_order", defArgs (top 30), defBody (top 30), defScope (top 30), [], []⟩,
  ⟨("_law_high", none), "_law_high", "_law_high", defArgs (top 31), defBody (top 31), defScope (top 31), [], []⟩,
  ⟨("_law_crowd", none), "_law_crowd", "_law_crowd", defArgs (top 32), defBody (top 32), defScope (top 32), [], []⟩,
  ⟨("_law_lack", none), "_law_lack", "_law_lack", defArgs (top 33), defBody (top 33), defScope (top 33), [], []⟩,
  ⟨("_law_rising", none), "_law_rising", "_law_rising", defArgs (top 34), defBody (top 34), defScope (top 34), [], []⟩,
  ⟨("_law_things", none), "_law_things", "_law_things", defArgs (top 35), defBody (top 35), defScope (top 35), [], []⟩,
  ⟨("_law_right", none), "_law_right", "_law_right", defArgs (top 36), defBody (top 36), defScope (top 36), [], []⟩,
  ⟨("law", none), "law", "law", defArgs (top 37), defBody (top 37), defScope (top 37), [], []⟩]
def hdFa : List He.Fa := [.glo "is_integer", .glo "is_team", .glo "spare_by", .glo "need_team", .glo "is_rising", .glo "need_workers", .glo "need_jobs", .glo "able_for", .glo "is_crowded", .glo "is_lacking", .glo "can_work", .glo "work_paper", .glo "shows_work_paper", .glo "can_give", .glo "give_paper", .glo "shows_give_paper", .glo "_law_store", .glo "_law_pick", .glo "_law_deal", .glo "_law_order", .glo "_law_high", .glo "_law_crowd", .glo "_law_lack", .glo "_law_rising", .glo "_law_things", .glo "_law_right", .glo "law", .free "abs", .free "all", .free "bool", .free "enumerate", .free "int", .free "isinstance", .free "len", .free "list", .free "max", .free "min", .free "range", .free "repr", .free "sorted", .free "zip", .int "MOST_WORKERS" 20, .int "MOST_SPARE" 40, .int "MOST_JOB" 59, .glo "NestError", .exc "NestError", .glo "InvalidTeam", .exc "InvalidTeam", .glo "InvalidWorkers", .exc "InvalidWorkers", .glo "InvalidJobs", .exc "InvalidJobs"]
def hdFs : List Hx.Look := hdFa.map fun f K => f.ok K
abbrev hdR : PySem.W.OpenRow := PySem.W.OpenLaw.row PySem.Challenge.rw_nestboards_k32_papers_of_sets_judged
abbrev hdH : PySem.W.Hook := Hx.hookX 4 hdFs hdFn
def hdOb (s : PySem.W.SharedT) : He.AlD := Hx.obsXG 4 hdFs hdFn (HandSHeadRun.getT s)
theorem hdOb_eq (s : PySem.W.SharedT) : hdOb s = hdH.obs s.abs := Hx.obsXG_eq (HandSHeadRun.getT_eq s)
def hdL0 : List PySem.Str := ["__name__", "NestError", "InvalidTeam", "InvalidWorkers", "InvalidJobs", "MOST_WORKERS", "MOST_SPARE", "MOST_JOB", "is_integer", "is_team", "spare_by", "need_team", "is_rising", "need_workers", "need_jobs", "able_for", "is_crowded", "is_lacking", "can_work", "work_paper", "shows_work_paper", "can_give", "give_paper", "shows_give_paper", "_law_store", "_law_pick", "_law_deal", "_law_order", "_law_high", "_law_crowd"]
def hdL1 : List PySem.Str := ["_law_lack", "_law_rising", "_law_things", "_law_right"]
def hdLoose : List PySem.Str := hdL0 ++ hdL1
theorem hdRun (w : World) : HandSHeadRun.RunEq hdR (PySem.W.view hdR.prog [37]) hdH hdOb 20000 hdLoose w := by
  intro os
  kernel_rfl
theorem hdFact {K : M.Frag} (c : Hx.SaysX hdFs hdFn K) (i : Nat) {f : He.Fa} (h : hdFa[i]? = some f) : f.ok K = true := c.fact i (f := fun K => f.ok K) (by unfold hdFs; rw [List.getElem?_map, h]; rfl)
theorem hdFacts {K : M.Frag} {h : Heap} {mg : PySem.Str → Option Value} (X : K.In h) (G : h.Ns mainGlobals mg) (c : Hx.SaysX hdFs hdFn K) : Facts K mg where
  g_is_integer := He.glo_ok X G (hdFact c 0 rfl)
  g_is_team := He.glo_ok X G (hdFact c 1 rfl)
  g_spare_by := He.glo_ok X G (hdFact c 2 rfl)
  g_need_team := He.glo_ok X G (hdFact c 3 rfl)
  g_is_rising := He.glo_ok X G (hdFact c 4 rfl)
  g_need_workers := He.glo_ok X G (hdFact c 5 rfl)
  g_need_jobs := He.glo_ok X G (hdFact c 6 rfl)
  g_able_for := He.glo_ok X G (hdFact c 7 rfl)
  g_is_crowded := He.glo_ok X G (hdFact c 8 rfl)
  g_is_lacking := He.glo_ok X G (hdFact c 9 rfl)
  g_can_work := He.glo_ok X G (hdFact c 10 rfl)
  g_work_paper := He.glo_ok X G (hdFact c 11 rfl)
  g_shows_work_paper := He.glo_ok X G (hdFact c 12 rfl)
  g_can_give := He.glo_ok X G (hdFact c 13 rfl)
  g_give_paper := He.glo_ok X G (hdFact c 14 rfl)
  g_shows_give_paper := He.glo_ok X G (hdFact c 15 rfl)
  g__law_store := He.glo_ok X G (hdFact c 16 rfl)
  g__law_pick := He.glo_ok X G (hdFact c 17 rfl)
  g__law_deal := He.glo_ok X G (hdFact c 18 rfl)
  g__law_order := He.glo_ok X G (hdFact c 19 rfl)
  g__law_high := He.glo_ok X G (hdFact c 20 rfl)
  g__law_crowd := He.glo_ok X G (hdFact c 21 rfl)
  g__law_lack := He.glo_ok X G (hdFact c 22 rfl)
  g__law_rising := He.glo_ok X G (hdFact c 23 rfl)
  g__law_things := He.glo_ok X G (hdFact c 24 rfl)
  g__law_right := He.glo_ok X G (hdFact c 25 rfl)
  g_law := He.glo_ok X G (hdFact c 26 rfl)
  f_is_integer := c.def_ 0 rfl
  f_is_team := c.def_ 1 rfl
  f_spare_by := c.def_ 2 rfl
  f_need_team := c.def_ 3 rfl
  f_is_rising := c.def_ 4 rfl
  f_need_workers := c.def_ 5 rfl
  f_need_jobs := c.def_ 6 rfl
  f_able_for := c.def_ 7 rfl
  f_is_crowded := c.def_ 8 rfl
  f_is_lacking := c.def_ 9 rfl
  f_can_work := c.def_ 10 rfl
  f_work_paper := c.def_ 11 rfl
  f_shows_work_paper := c.def_ 12 rfl
  f_can_give := c.def_ 13 rfl
  f_give_paper := c.def_ 14 rfl
  f_shows_give_paper := c.def_ 15 rfl
  f__law_store := c.def_ 16 rfl
  f__law_pick := c.def_ 17 rfl
  f__law_deal := c.def_ 18 rfl
  f__law_order := c.def_ 19 rfl
  f__law_high := c.def_ 20 rfl
  f__law_crowd := c.def_ 21 rfl
  f__law_lack := c.def_ 22 rfl
  f__law_rising := c.def_ 23 rfl
  f__law_things := c.def_ 24 rfl
  f__law_right := c.def_ 25 rfl
  f_law := c.def_ 26 rfl
  b_abs := He.free_ok X G (hdFact c 27 rfl)
  b_all := He.free_ok X G (hdFact c 28 rfl)
  b_bool := He.free_ok X G (hdFact c 29 rfl)
  b_enumerate := He.free_ok X G (hdFact c 30 rfl)
  b_int := He.free_ok X G (hdFact c 31 rfl)
  b_isinstance := He.free_ok X G (hdFact c 32 rfl)
  b_len := He.free_ok X G (hdFact c 33 rfl)
  b_list := He.free_ok X G (hdFact c 34 rfl)
  b_max := He.free_ok X G (hdFact c 35 rfl)
  b_min := He.free_ok X G (hdFact c 36 rfl)
  b_range := He.free_ok X G (hdFact c 37 rfl)
  b_repr := He.free_ok X G (hdFact c 38 rfl)
  b_sorted := He.free_ok X G (hdFact c 39 rfl)
  b_zip := He.free_ok X G (hdFact c 40 rfl)
  i_MOST_WORKERS := He.int_ok X G (hdFact c 41 rfl)
  i_MOST_SPARE := He.int_ok X G (hdFact c 42 rfl)
  i_MOST_JOB := He.int_ok X G (hdFact c 43 rfl)
  e_NestError := ⟨He.glo_ok X G (hdFact c 44 rfl), (He.exc_ok (hdFact c 45 rfl)).1, (He.exc_ok (hdFact c 45 rfl)).2.1, (He.exc_ok (hdFact c 45 rfl)).2.2.1, (He.exc_ok (hdFact c 45 rfl)).2.2.2⟩
  e_InvalidTeam := ⟨He.glo_ok X G (hdFact c 46 rfl), (He.exc_ok (hdFact c 47 rfl)).1, (He.exc_ok (hdFact c 47 rfl)).2.1, (He.exc_ok (hdFact c 47 rfl)).2.2.1, (He.exc_ok (hdFact c 47 rfl)).2.2.2⟩
  e_InvalidWorkers := ⟨He.glo_ok X G (hdFact c 48 rfl), (He.exc_ok (hdFact c 49 rfl)).1, (He.exc_ok (hdFact c 49 rfl)).2.1, (He.exc_ok (hdFact c 49 rfl)).2.2.1, (He.exc_ok (hdFact c 49 rfl)).2.2.2⟩
  e_InvalidJobs := ⟨He.glo_ok X G (hdFact c 50 rfl), (He.exc_ok (hdFact c 51 rfl)).1, (He.exc_ok (hdFact c 51 rfl)).2.1, (He.exc_ok (hdFact c 51 rfl)).2.2.1, (He.exc_ok (hdFact c 51 rfl)).2.2.2⟩
end M
open PySem PySem.W PySem.Calls PyProof.Rows
set_option maxHeartbeats 0 in
theorem PySem.Challenge.cw_nestboards_k32_papers_of_sets_judged_holds : PySem.Challenge.rw_nestboards_k32_papers_of_sets_judged.Holds := by
  w_on; o_law
  refine HandSHeadRun.head_any (r := OpenLaw.row PySem.Challenge.rw_nestboards_k32_papers_of_sets_judged) (q := view (OpenLaw.row PySem.Challenge.rw_nestboards_k32_papers_of_sets_judged).prog [37]) (H := M.hdH) (ob := M.hdOb) (M := 20000) (loose := M.hdLoose) (d := HandSHeadRun.topDef (OpenLaw.row PySem.Challenge.rw_nestboards_k32_papers_of_sets_judged).prog 37) (kwd := []) M.hdOb_eq
    (by kernel_rfl) (fun s => by kernel_rfl) M.hdRun (by kernel_rfl) (by kernel_rfl) (by kernel_rfl) (by rfl) (by first | assumption | decide +kernel) (by decide +kernel) ⟨rfl, rfl, rfl, rfl, rfl, by decide +kernel⟩ ?hw ?hc
  case hw => w_witness2
  case hc => exact M.walk_MG (l := PySem.Challenge.rw_nestboards_k32_papers_of_sets_judged) (k := 7) (f := M.m_law) rfl (by kernel_rfl) ⟨rfl, by decide, by decide⟩ (by kernel_rfl) (fun w K mg h X G c base h1 h2 => M.ok_law (M.hdFacts h1 h2 c)) M.hM
