import PyProof.Rows.All
import PyProof.P3Statements
import PyProof.ReprReads
import HandS.ForMost
import HandS.ForExc
import HandS.Walk
import HandS.Wide
import HandS.TupLe
import HandS.Zip0
import PyProof.EnumMake
import PyProof.EnumFor
import PyProof.ReprLen
import PySem.Challenge.RW_twostoreys_k83_stair_rest

section
set_option Elab.async false
set_option linter.all false
/-! Dat: plain semantics of a part of Python over data (PyData), without a heap. -/
namespace Dt
open PySem

abbrev D := PyData
abbrev SL : Nat := 16777216
/-- an exception: its class's name, its fields -/
structure Exc where
  cls : Str
  args : List D
inductive Res (α : Type) where
  | ok (a : α)
  | ex (e : Exc)
  | er
namespace Res
def bind {α β : Type} : Res α → (α → Res β) → Res β
  | .ok a, f => f a
  | .ex e, _ => .ex e
  | .er, _ => .er
theorem bind_ok {α β : Type} (a : α) (f : α → Res β) : (Res.ok a).bind f = f a := rfl
theorem bind_ex {α β : Type} (e : Exc) (f : α → Res β) : (Res.ex e).bind f = Res.ex e := rfl
theorem bind_er {α β : Type} (f : α → Res β) : (Res.er).bind f = Res.er := rfl
end Res

/-! ### environments: a slot a name -/
abbrev Ev := List (Option D)
def look : Ev → Nat → Option D
  | [], _ => none
  | x :: _, 0 => x
  | _ :: r, i + 1 => look r i
def put : Ev → Nat → D → Ev
  | [], _, _ => []
  | _ :: r, 0, d => some d :: r
  | x :: r, i + 1, d => x :: put r i d
def clr : Ev → Nat → Ev
  | [], _ => []
  | _ :: r, 0 => none :: r
  | x :: r, i + 1 => x :: clr r i
def clrs (δ : Ev) : List Nat → Ev
  | [] => δ
  | i :: r => clr (clrs δ r) i
theorem look_get : ∀ (δ : Ev) (i : Nat) (d : D), look δ i = some d ↔ δ[i]? = some (some d)
  | [], i, d => by simp [look]
  | x :: r, 0, d => by simp [look]
  | x :: r, i + 1, d => by simpa [look] using look_get r i d
theorem put_len : ∀ (δ : Ev) (i : Nat) (d : D), (put δ i d).length = δ.length
  | [], _, _ => rfl
  | _ :: r, 0, _ => rfl
  | x :: r, i + 1, d => by simp [put, put_len r i d]
theorem clr_len : ∀ (δ : Ev) (i : Nat), (clr δ i).length = δ.length
  | [], _ => rfl
  | _ :: r, 0 => rfl
  | x :: r, i + 1 => by simp [clr, clr_len r i]
theorem clrs_len (δ : Ev) : ∀ l : List Nat, (clrs δ l).length = δ.length
  | [] => rfl
  | i :: r => by rw [clrs, clr_len, clrs_len δ r]
theorem look_put : ∀ (δ : Ev) (i j : Nat) (d e : D), look (put δ i d) j = some e → (j = i ∧ e = d) ∨ (j ≠ i ∧ look δ j = some e)
  | [], _, _, _, _, h => by simp [put, look] at h
  | _ :: r, 0, 0, d, e, h => by simp [put, look] at h; exact .inl ⟨rfl, h.symm⟩
  | _ :: r, 0, j + 1, d, e, h => .inr ⟨by omega, h⟩
  | _ :: r, i + 1, 0, d, e, h => .inr ⟨by omega, h⟩
  | x :: r, i + 1, j + 1, d, e, h => by
    rcases look_put r i j d e h with ⟨a, b⟩ | ⟨a, b⟩
    · exact .inl ⟨by omega, b⟩
    · exact .inr ⟨by omega, b⟩
theorem look_clr : ∀ (δ : Ev) (i j : Nat) (e : D), look (clr δ i) j = some e → j ≠ i ∧ look δ j = some e
  | [], _, _, _, h => by simp [clr, look] at h
  | _ :: r, 0, 0, e, h => by simp [clr, look] at h
  | _ :: r, 0, j + 1, e, h => ⟨by omega, h⟩
  | _ :: r, i + 1, 0, e, h => ⟨by omega, h⟩
  | x :: r, i + 1, j + 1, e, h => by
    obtain ⟨a, b⟩ := look_clr r i j e h
    exact ⟨by omega, b⟩
theorem look_clrs (δ : Ev) : ∀ (l : List Nat) (j : Nat) (e : D), look (clrs δ l) j = some e → j ∉ l ∧ look δ j = some e
  | [], j, e, h => ⟨by simp, h⟩
  | i :: r, j, e, h => by
    obtain ⟨a, b⟩ := look_clr _ i j e h
    obtain ⟨a', b'⟩ := look_clrs δ r j e b
    exact ⟨by simp [a, a'], b'⟩

/-! ### expressions -/
abbrev Fx := Ev → Res D
abbrev Tx := Ev → Res Bool
abbrev Ax := Ev → Res (List D)
def xName (i : Nat) : Fx := fun δ => match look δ i with
  | some d => .ok d
  | none => .er
def xC (d : D) : Fx := fun _ => .ok d
def x1 (op : D → Res D) (f : Fx) : Fx := fun δ => (f δ).bind op
def x2 (op : D → D → Res D) (f g : Fx) : Fx := fun δ => (f δ).bind fun a => (g δ).bind fun b => op a b
def aNil : Ax := fun _ => .ok []
def aCons (f : Fx) (r : Ax) : Ax := fun δ => (f δ).bind fun a => (r δ).bind fun as => .ok (a :: as)
def xN (op : List D → Res D) (a : Ax) : Fx := fun δ => (a δ).bind op
/-- a test from a bool -/
def tB (f : Fx) : Tx := fun δ => (f δ).bind fun
  | .bool b => .ok b
  | _ => .er
def tAnd (t u : Tx) : Tx := fun δ => (t δ).bind fun b => if b = true then u δ else .ok false
def tOr (t u : Tx) : Tx := fun δ => (t δ).bind fun b => if b = true then .ok true else u δ
def tNot (t : Tx) : Tx := fun δ => (t δ).bind fun b => .ok !b
def xAnd (f g : Fx) : Fx := fun δ => (f δ).bind fun
  | .bool b => if b = true then g δ else .ok (.bool false)
  | _ => .er
def xOr (f g : Fx) : Fx := fun δ => (f δ).bind fun
  | .bool b => if b = true then .ok (.bool true) else g δ
  | _ => .er
def xIf (t : Tx) (f g : Fx) : Fx := fun δ => (t δ).bind fun b => if b = true then f δ else g δ
def xChain (op op' : D → D → Res D) (f g h : Fx) : Fx := fun δ => (f δ).bind fun a => (g δ).bind fun b => (op a b).bind fun
  | .bool c => if c = true then (h δ).bind fun e => op' b e else .ok (.bool false)
  | _ => .er

/-! ### operators -/
def small64 (a : Int) : Bool := decide (a.natAbs < 18446744073709551616)
def oAdd : D → D → Res D
  | .int a, .int b => .ok (.int (a + b))
  | .str a, .str b => if a.length + b.length ≤ SL then .ok (.str (a ++ b)) else .er
  | .list a, .list b => if a.length + b.length ≤ SL then .ok (.list (a ++ b)) else .er
  | _, _ => .er
def oSub : D → D → Res D
  | .int a, .int b => .ok (.int (a - b))
  | _, _ => .er
def oMul : D → D → Res D
  | .int a, .int b => if (small64 a || small64 b || decide (a.natAbs.log2 + b.natAbs.log2 < 1000000)) = true then .ok (.int (a * b)) else .er
  | _, _ => .er
def oDiv : D → D → Res D
  | .int a, .int b => if b ≠ 0 ∧ b.natAbs < 1073741824 then .ok (.int (a.fdiv b)) else .er
  | _, _ => .er
def oMod : D → D → Res D
  | .int a, .int b => if b ≠ 0 then .ok (.int (a.fmod b)) else .er
  | _, _ => .er
def oPow : D → D → Res D
  | .int a, .int b => if 0 ≤ b ∧ b ≤ 1000000 ∧ a.natAbs < 18446744073709551616 then .ok (.int (a ^ b.toNat)) else .er
  | _, _ => .er
def oNeg : D → Res D
  | .int a => .ok (.int (-a))
  | _ => .er
def oNot : D → Res D
  | .bool b => .ok (.bool !b)
  | _ => .er
def oCmp (p : Int → Int → Bool) : D → D → Res D
  | .int a, .int b => .ok (.bool (p a b))
  | _, _ => .er
def oLt : D → D → Res D := oCmp fun i j => decide (i < j)
def oLe : D → D → Res D := oCmp fun i j => decide (i ≤ j)
def oGt : D → D → Res D := oCmp fun i j => decide (j < i)
def oGe : D → D → Res D := oCmp fun i j => decide (j ≤ i)
def shp (d : D) : Bool := d.canLay0 && decide (d.depth ≤ 64)
def eqB : D → D → Res Bool
  | .int a, .int b => .ok (a == b)
  | .str a, .str b => .ok (a == b)
  | .bool a, .bool b => .ok (a == b)
  | a, b => if (shp a && shp b) = true then .ok (PyData.eqv a b) else .er
def oEq (a b : D) : Res D := (eqB a b).bind fun c => .ok (.bool c)
def oNe (a b : D) : Res D := (eqB a b).bind fun c => .ok (.bool !c)
def isNone : D → Bool
  | .none => true
  | _ => false
/-- x is None -/
def oIsN (a : D) : Res D := .ok (.bool (isNone a))
def oNotN (a : D) : Res D := .ok (.bool !(isNone a))
/-- x is True, of a bool x -/
def oIsT : D → Res D
  | .bool b => .ok (.bool b)
  | _ => .er
def oNotT : D → Res D
  | .bool b => .ok (.bool !b)
  | _ => .er
/-- x is not True -/
def oNotTrue (d e : D) : Res D := match e with
  | .bool true => oNotT d
  | _ => .er
/-- an item at an index of any sign -/
def getI {α : Type} (xs : List α) (i : Int) : Option α :=
  if 0 ≤ i then (if i < xs.length then xs[i.toNat]? else none) else if -(xs.length : Int) ≤ i then xs[(i + xs.length).toNat]? else none
def oIx : D → D → Res D
  | .list xs, .int i => match getI xs i with
    | some d => .ok d
    | none => .er
  | .tuple xs, .int i => match getI xs i with
    | some d => .ok d
    | none => .er
  | _, _ => .er
def cIx (n d : Nat) : Option Int → Nat
  | none => d
  | some i => if i < 0 then (max (i + (n : Int)) 0).toNat else (min i (n : Int)).toNat
def cutL {α : Type} (xs : List α) (lo hi : Option Int) : List α := (xs.drop (cIx xs.length 0 lo)).take (cIx xs.length xs.length hi - cIx xs.length 0 lo)
/-- a part of a slice -/
abbrev Px := Ev → Res (Option Int)
def pNo : Px := fun _ => .ok none
def pAt (f : Fx) : Px := fun δ => (f δ).bind fun
  | .int i => .ok (some i)
  | _ => .er
def oCut : D → Option Int → Option Int → Res D
  | .list xs, lo, hi => .ok (.list (cutL xs lo hi))
  | _, _, _ => .er
def xCut (f : Fx) (lo hi : Px) : Fx := fun δ => (f δ).bind fun a => (lo δ).bind fun l => (hi δ).bind fun h => oCut a l h
def oLen : D → Res D
  | .list xs => .ok (.int xs.length)
  | .tuple xs => .ok (.int xs.length)
  | .str x => if x.length ≤ SL then .ok (.int x.length) else .er
  | _ => .er
def bLen : List D → Res D
  | [x] => oLen x
  | _ => .er
def bAbs : List D → Res D
  | [.int i] => .ok (.int (if i < 0 then -i else i))
  | _ => .er
def bMax : List D → Res D
  | [.int i, .int j] => .ok (.int (if j > i then j else i))
  | _ => .er
def bMin : List D → Res D
  | [.int i, .int j] => .ok (.int (if j < i then j else i))
  | _ => .er
def bInt : List D → Res D
  | [.int i] => .ok (.int i)
  | [.bool b] => .ok (.int (if b then 1 else 0))
  | _ => .er
def bList : List D → Res D
  | [.list xs] => .ok (.list xs)
  | [.tuple xs] => .ok (.list xs)
  | _ => .er
def bTuple : List D → Res D
  | [.list xs] => .ok (.tuple xs)
  | [.tuple xs] => .ok (.tuple xs)
  | _ => .er
def bRepr : List D → Res D
  | [d] => if (d.showable && decide (d.depth ≤ 64) && decide (d.shown.length ≤ SL)) = true then .ok (.str d.shown) else .er
  | _ => .er
/-- a list's, a tuple's display -/
def dList (xs : List D) : Res D := if xs.length ≤ SL then .ok (.list xs) else .er
def dTuple (xs : List D) : Res D := if xs.length ≤ SL then .ok (.tuple xs) else .er

/-- a list, nothing else -/
def oLst : D → Res D
  | .list xs => .ok (.list xs)
  | _ => .er
/-- xs + ys of lists -/
def oCat : D → D → Res D
  | .list a, .list b => oAdd (.list a) (.list b)
  | _, _ => .er

/-! ### what is walked -/
def rangeL (lo : Int) (n : Nat) (c : Int) : List D := (List.range n).map fun (i : Nat) => .int (lo + (i : Int) * c)
def b62 (i : Int) : Bool := decide (i.natAbs < 4611686018427387904)
def wRange : List D → Res (List D)
  | [.int j] => if b62 j = true then .ok (rangeL 0 j.toNat 1) else .er
  | [.int i, .int j] => if (b62 i && b62 j) = true then .ok (rangeL i (j - i).toNat 1) else .er
  | [.int i, .int j, .int c] => if (b62 i && b62 j && decide (c = -1)) = true then .ok (rangeL i (i - j).toNat (-1)) else .er
  | _ => .er
def wSeq : D → Res (List D)
  | .list xs => .ok xs
  | .tuple xs => .ok xs
  | _ => .er
def wEnum (d : D) : Res (List D) := (wSeq d).bind fun xs => .ok ((List.range xs.length).zipWith (fun (i : Nat) x => .tuple [.int i, x]) xs)
def iRange (a : Ax) : Ax := fun δ => (a δ).bind wRange
def iSeq (f : Fx) : Ax := fun δ => (f δ).bind wSeq
def iEnum (f : Fx) : Ax := fun δ => (f δ).bind wEnum

/-! ### targets -/
abbrev Gx := D → Ev → Option Ev
def gN (i : Nat) : Gx := fun d δ => some (put δ i d)
def putAll : Ev → List Nat → List D → Ev
  | δ, i :: r, d :: ds => putAll (put δ i d) r ds
  | δ, _, _ => δ
def gT (l : List Nat) : Gx := fun d δ => match d with
  | .tuple ds => if ds.length = l.length then some (putAll δ l ds) else none
  | _ => none

/-! ### comprehensions -/
def compGo (g : Gx) (c : Tx) (e : Fx) (δ : Ev) : List D → Res (List D)
  | [] => .ok []
  | x :: xs => match g x δ with
    | none => .er
    | some δ1 => match c δ1 with
      | .ok true => match e δ1 with
        | .ok y => (compGo g c e δ xs).bind fun ys => .ok (y :: ys)
        | _ => .er
      | .ok false => compGo g c e δ xs
      | _ => .er
def tYes : Tx := fun _ => .ok true
def xComp (i : Ax) (vs : List Nat) (g : Gx) (c : Tx) (e : Fx) : Fx := fun δ => (i δ).bind fun xs =>
  if xs.length ≤ SL then (match compGo g c e (clrs δ vs) xs with
    | .ok ys => .ok (.list ys)
    | _ => .er) else .er

/-- scalars, flat data -/
def scal : D → Bool
  | .none => true
  | .bool _ => true
  | .int _ => true
  | .str _ => true
  | _ => false

/-! ### statements -/
inductive Out where
  | nx (δ : Ev)
  | rt (d : D)
  | bk (δ : Ev)
  | ct (δ : Ev)
  | ex (e : Exc) (δ : Ev)
  | er
abbrev Sx := Ev → Out
def Res.out {α : Type} (r : Res α) (δ : Ev) (k : α → Out) : Out := match r with
  | .ok a => k a
  | .ex e => .ex e δ
  | .er => .er
theorem Res.out_ok {α : Type} (a : α) (δ : Ev) (k : α → Out) : (Res.ok a).out δ k = k a := rfl
def sNx : Sx := fun δ => .nx δ
def sBk : Sx := fun δ => .bk δ
def sCt : Sx := fun δ => .ct δ
def Out.seq (o : Out) (k : Sx) : Out := match o with
  | .nx δ => k δ
  | o => o
def sSeq (s t : Sx) : Sx := fun δ => (s δ).seq t
def sSet (i : Nat) (f : Fx) : Sx := fun δ => (f δ).out δ fun d => .nx (put δ i d)
def sPar (i j : Nat) (f g : Fx) : Sx := fun δ => (f δ).out δ fun a => (g δ).out δ fun b => .nx (put (put δ i a) j b)
/-- xs[k] = e, xs in slot i -/
def sIx (i : Nat) (fk f : Fx) : Sx := fun δ => match look δ i with
  | some (.list ds) => (f δ).out δ fun d => (fk δ).out δ fun k => match k with
    | .int k => if 0 ≤ k ∧ k < ds.length then .nx (put δ i (.list (ds.set k.toNat d))) else .er
    | _ => .er
  | _ => .er
/-- xs.append(e), xs in slot i -/
def sApp (i : Nat) (f : Fx) : Sx := fun δ => match look δ i with
  | some (.list ds) => (f δ).out δ fun d => if ds.length < SL then .nx (put δ i (.list (ds ++ [d]))) else .er
  | _ => .er
/-- return of a flat list -/
def sRetN (f : Fx) : Sx := fun δ => (f δ).out δ fun d => match d with
  | .list ds => if ds.all scal = true then .rt d else .er
  | _ => .er
/-- return of a scalar -/
def sRetS (f : Fx) : Sx := fun δ => (f δ).out δ fun d => if scal d = true then .rt d else .er
def sRet (f : Fx) : Sx := fun δ => (f δ).out δ fun d => .rt d
def sIf (t : Tx) (a b : Sx) : Sx := fun δ => (t δ).out δ fun c => if c = true then a δ else b δ
def forGo (g : Gx) (b : Sx) : List D → Sx
  | [], δ => .nx δ
  | x :: xs, δ => match g x δ with
    | none => .er
    | some δ1 => match b δ1 with
      | .nx δ2 => forGo g b xs δ2
      | .ct δ2 => forGo g b xs δ2
      | .bk δ2 => .nx δ2
      | .rt d => .rt d
      | .ex e δ2 => .ex e δ2
      | .er => .er
def sFor (i : Ax) (g : Gx) (b : Sx) : Sx := fun δ => (i δ).out δ fun xs => forGo g b xs δ
def whGo (t : Tx) (b : Sx) : Nat → Sx
  | 0, _ => .er
  | n + 1, δ => (t δ).out δ fun c => if c = true then (match b δ with
      | .nx δ2 => whGo t b n δ2
      | .ct δ2 => whGo t b n δ2
      | .bk δ2 => .nx δ2
      | .rt d => .rt d
      | .ex e δ2 => .ex e δ2
      | .er => .er) else .nx δ
/-- n: turns that are enough -/
def sWh (n : Ev → Nat) (t : Tx) (b : Sx) : Sx := fun δ => whGo t b (n δ) δ

/-! ### a def -/
def startE (N : Nat) (ds : List D) : Ev := ds.map some ++ List.replicate (N - ds.length) none
/-- N slots, P parameters -/
def runD (N P : Nat) (s : Sx) : List D → Res D := fun ds => if ds.length = P then (match s (startE N ds) with
  | .rt d => .ok d
  | .nx _ => .ok .none
  | .ex e _ => .ex e
  | _ => .er) else .er
def flat : D → Bool
  | .list xs => xs.all scal
  | .tuple xs => xs.all scal
  | d => scal d
end Dt
end

section
set_option Elab.async false
set_option linter.all false
set_option autoImplicit false
set_option maxRecDepth 100000
set_option maxHeartbeats 4000000
/-! WkA: the data semantics is kept by the machine: states, expressions. -/
namespace Wk
open PySem PySem.Spec PyProof.Rows L2 Dt

/-! ### data in a heap -/
theorem seqT_same {K : PySem.W.Frag} {H H' : Hp} {a : Addr} {xs : List V} (e : Same H H') (h : SqT K H a xs) : SqT K H' a xs := by
  rcases h with (h | ⟨o, h⟩) | h
  · exact Or.inl (Or.inl (e _ _ h))
  · exact Or.inl (Or.inr ⟨o, e _ _ h⟩)
  · exact Or.inr h
mutual
theorem dp_same {K : PySem.W.Frag} {H H' : Hp} (e : Same H H') : ∀ (d : D) {v : V}, Dp K H v d → Dp K H' v d
  | .none, _, h => by cases h; exact .non
  | .bool b, _, h => by cases h; exact .bl b
  | .int i, _, h => by cases h; exact .int i
  | .str x, _, h => by cases h; exact .str x
  | .list ds, _, h => by
    cases h with
    | lst hs ha => exact .lst (e.seq hs) (dps_same e ds ha)
  | .tuple ds, _, h => by
    cases h with
    | tup hs ha => exact .tup (seqT_same e hs) (dps_same e ds ha)
  | .dict _, _, h => by cases h
theorem dps_same {K : PySem.W.Frag} {H H' : Hp} (e : Same H H') : ∀ (ds : List D) {vs : List V}, DpAll K H vs ds → DpAll K H' vs ds
  | [], _, h => by cases h; exact .nil
  | d :: ds, _, h => by
    cases h with
    | cons h1 h2 => exact .cons (dp_same e d h1) (dps_same e ds h2)
end
theorem dps_len {K : PySem.W.Frag} {H : Hp} : ∀ {ds : List D} {vs : List V}, DpAll K H vs ds → vs.length = ds.length
  | [], _, h => by cases h; rfl
  | d :: ds, _, h => by
    cases h with
    | cons h1 h2 => simp [dps_len h2]
theorem dps_get {K : PySem.W.Frag} {H : Hp} : ∀ {ds : List D} {vs : List V} {i : Nat} {d : D}, DpAll K H vs ds → ds[i]? = some d → ∃ v, vs[i]? = some v ∧ Dp K H v d
  | [], _, _, _, _, e => by simp at e
  | x :: ds, _, 0, d, h, e => by
    cases h with
    | cons h1 h2 =>
      simp at e
      subst e
      exact ⟨_, rfl, h1⟩
  | x :: ds, _, i + 1, d, h, e => by
    cases h with
    | cons h1 h2 =>
      obtain ⟨v, a, b⟩ := dps_get (i := i) (d := d) h2 (by simpa using e)
      exact ⟨v, by simpa using a, b⟩
theorem dps_app {K : PySem.W.Frag} {H : Hp} : ∀ {ds es : List D} {vs us : List V}, DpAll K H vs ds → DpAll K H us es → DpAll K H (vs ++ us) (ds ++ es)
  | [], _, _, _, h, g => by cases h; exact g
  | d :: ds, es, _, _, h, g => by
    cases h with
    | cons h1 h2 => exact .cons h1 (dps_app h2 g)
theorem dps_take {K : PySem.W.Frag} {H : Hp} : ∀ (n : Nat) {ds : List D} {vs : List V}, DpAll K H vs ds → DpAll K H (vs.take n) (ds.take n)
  | 0, _, _, _ => by simpa using .nil
  | n + 1, [], _, h => by cases h; simpa using .nil
  | n + 1, d :: ds, _, h => by
    cases h with
    | cons h1 h2 => simpa using .cons h1 (dps_take n h2)
theorem dps_drop {K : PySem.W.Frag} {H : Hp} : ∀ (n : Nat) {ds : List D} {vs : List V}, DpAll K H vs ds → DpAll K H (vs.drop n) (ds.drop n)
  | 0, _, _, h => by simpa using h
  | n + 1, [], _, h => by cases h; simpa using .nil
  | n + 1, d :: ds, _, h => by
    cases h with
    | cons h1 h2 => simpa using dps_drop n h2
theorem dps_set {K : PySem.W.Frag} {H : Hp} {v : V} {d : D} (r : Dp K H v d) : ∀ (i : Nat) {ds : List D} {vs : List V}, DpAll K H vs ds → DpAll K H (vs.set i v) (ds.set i d)
  | _, [], _, h => by cases h; simpa using .nil
  | 0, e :: ds, _, h => by
    cases h with
    | cons h1 h2 => simpa using .cons r h2
  | i + 1, e :: ds, _, h => by
    cases h with
    | cons h1 h2 => simpa using .cons h1 (dps_set r i h2)

/-! ### the state -/
/-- the heap at the def's entry, the region of its arguments, the region of what stands still -/
structure GS where
  H0 : Hp
  F0 : Hp
  F : Hp
structure Grow (G : GS) (H : Hp) (G' : GS) (H' : Hp) : Prop where
  h0 : G'.H0 = G.H0
  f0 : G'.F0 = G.F0
  s : Same H H'
  sf : Same G.F G'.F
  sub : Same G'.F H'
  nw : ∀ a, G'.F a ≠ none → G.F a = none → H a = none
structure Own (K : PySem.W.Frag) (G : GS) (H : Hp) (a : Addr) (ds : List D) : Prop where
  at_ : ∃ vs, H a = some (.lst vs) ∧ DpAll K G.F vs ds
  nf : G.F a = none
  n0 : G.H0 a = none
structure Abs (K : PySem.W.Frag) (G : GS) (σ : L2.St) (H : Hp) (δ : Ev) (O : List Nat) : Prop where
  len : σ.length = δ.length
  s0 : Same G.H0 H
  sf0 : Same G.F0 G.F
  sf : Same G.F H
  nw : ∀ a, G.F a ≠ none → G.F0 a = none → G.H0 a = none
  pl : ∀ i d, i ∉ O → look δ i = some d → ∃ v, σ[i]? = some (some v) ∧ Dp K G.F v d
  ow : ∀ i d, i ∈ O → look δ i = some d → ∃ a ds, d = .list ds ∧ σ[i]? = some (some (.ref a)) ∧ Own K G H a ds
  dj : ∀ i j a d e, i ∈ O → j ∈ O → look δ i = some d → look δ j = some e → σ[i]? = some (some (.ref a)) → σ[j]? = some (some (.ref a)) → i = j
section
variable {K : PySem.W.Frag} {G G' G'' : GS} {σ : L2.St} {H H' H'' : Hp} {δ : Ev} {O : List Nat}
theorem Grow.trans (g : Grow G H G' H') (g' : Grow G' H' G'' H'') : Grow G H G'' H'' :=
  ⟨g'.h0.trans g.h0, g'.f0.trans g.f0, g.s.trans g'.s, g.sf.trans g'.sf, g'.sub, fun a h1 h2 => by
    cases e : G'.F a with
    | none => exact g.s.free (g'.nw a h1 e)
    | some o => exact g.nw a (by rw [e]; simp) h2⟩
theorem Grow.self (A : Same G.F H) : Grow G H G H := ⟨rfl, rfl, Same.refl _, Same.refl _, A, fun a h h' => absurd h' h⟩
theorem Own.grow {a : Addr} {ds : List D} (w : Own K G H a ds) (g : Grow G H G' H') : Own K G' H' a ds := by
  obtain ⟨vs, h1, h2⟩ := w.at_
  refine ⟨⟨vs, g.s _ _ h1, dps_same g.sf _ h2⟩, ?_, by rw [g.h0]; exact w.n0⟩
  cases e : G'.F a with
  | none => rfl
  | some o =>
    have z := g.nw a (by rw [e]; simp) w.nf
    rw [h1] at z
    cases z
theorem Abs.grow (A : Abs K G σ H δ O) (g : Grow G H G' H') : Abs K G' σ H' δ O where
  len := A.len
  s0 := by rw [g.h0]; exact A.s0.trans g.s
  sf0 := by rw [g.f0]; exact A.sf0.trans g.sf
  sf := g.sub
  nw := fun a h1 h2 => by
    rw [g.h0]
    rw [g.f0] at h2
    cases e : G.F a with
    | none => exact A.s0.free (g.nw a h1 e)
    | some o => exact A.nw a (by rw [e]; simp) h2
  pl := fun i d hi hl => let ⟨v, h1, h2⟩ := A.pl i d hi hl; ⟨v, h1, dp_same g.sf _ h2⟩
  ow := fun i d hi hl => let ⟨a, ds, h1, h2, h3⟩ := A.ow i d hi hl; ⟨a, ds, h1, h2, h3.grow g⟩
  dj := A.dj
/-- a value that is seen: it stands still, or it is an owned list whose items stand still -/
def Vw (m : Bool) (K : PySem.W.Frag) (G : GS) (H : Hp) (v : V) (d : D) : Prop :=
  Dp K G.F v d ∨ (m = false ∧ ∃ a vs ds, d = .list ds ∧ v = .ref a ∧ H a = some (.lst vs) ∧ DpAll K G.F vs ds)
inductive VwAll (m : Bool) (K : PySem.W.Frag) (G : GS) (H : Hp) : List V → List D → Prop
  | nil : VwAll m K G H [] []
  | cons {v : V} {vs : List V} {d : D} {ds : List D} : Vw m K G H v d → VwAll m K G H vs ds → VwAll m K G H (v :: vs) (d :: ds)
theorem Vw.grow {m : Bool} {v : V} {d : D} (w : Vw m K G H v d) (g : Grow G H G' H') : Vw m K G' H' v d := by
  rcases w with h | ⟨e, a, vs, ds, e1, e2, h1, h2⟩
  · exact .inl (dp_same g.sf _ h)
  · exact .inr ⟨e, a, vs, ds, e1, e2, g.s _ _ h1, dps_same g.sf _ h2⟩
theorem VwAll.grow {m : Bool} : ∀ {ds : List D} {vs : List V}, VwAll m K G H vs ds → Grow G H G' H' → VwAll m K G' H' vs ds
  | [], _, h, _ => by cases h; exact .nil
  | d :: ds, _, h, g => by
    cases h with
    | cons h1 h2 => exact .cons (h1.grow g) (VwAll.grow h2 g)
theorem Vw.weak {m : Bool} {v : V} {d : D} (w : Vw true K G H v d) : Vw m K G H v d := by
  rcases w with h | ⟨e, _⟩
  · exact .inl h
  · cases e
theorem Vw.still {v : V} {d : D} (w : Vw true K G H v d) : Dp K G.F v d := by
  rcases w with h | ⟨e, _⟩
  · exact h
  · cases e
theorem Vw.seen {m : Bool} {v : V} {d : D} (w : Vw m K G H v d) (s : Same G.F H) : Dp K H v d := by
  rcases w with h | ⟨e, a, vs, ds, rfl, rfl, h1, h2⟩
  · exact dp_same s _ h
  · exact .lst (SqL.of h1) (dps_same s _ h2)
theorem VwAll.still : ∀ {ds : List D} {vs : List V}, VwAll true K G H vs ds → DpAll K G.F vs ds
  | [], _, h => by cases h; exact .nil
  | d :: ds, _, h => by
    cases h with
    | cons h1 h2 => exact .cons h1.still (VwAll.still h2)
theorem VwAll.seen {m : Bool} (s : Same G.F H) : ∀ {ds : List D} {vs : List V}, VwAll m K G H vs ds → DpAll K H vs ds
  | [], _, h => by cases h; exact .nil
  | d :: ds, _, h => by
    cases h with
    | cons h1 h2 => exact .cons (h1.seen s) (VwAll.seen s h2)
theorem Vw.int {m : Bool} {v : V} {i : Int} (w : Vw m K G H v (.int i)) : v = .int i := by
  rcases w with h | ⟨_, _, _, _, e, _⟩
  · cases h; rfl
  · cases e
theorem Vw.str {m : Bool} {v : V} {i : Str} (w : Vw m K G H v (.str i)) : v = .str i := by
  rcases w with h | ⟨_, _, _, _, e, _⟩
  · cases h; rfl
  · cases e
theorem Vw.bl {m : Bool} {v : V} {i : Bool} (w : Vw m K G H v (.bool i)) : v = .bl i := by
  rcases w with h | ⟨_, _, _, _, e, _⟩
  · cases h; rfl
  · cases e
theorem Vw.non {m : Bool} {v : V} (w : Vw m K G H v .none) : v = .non := by
  rcases w with h | ⟨_, _, _, _, e, _⟩
  · cases h; rfl
  · cases e
/-- a list that is seen: it is read in the heap, its items stand still -/
theorem Vw.lst {m : Bool} {v : V} {ds : List D} (w : Vw m K G H v (.list ds)) (s : Same G.F H) : ∃ a vs, v = .ref a ∧ SqL K H a vs ∧ DpAll K G.F vs ds := by
  rcases w with h | ⟨_, a, vs, ds', e, rfl, h1, h2⟩
  · cases h with
    | lst hs ha => exact ⟨_, _, rfl, s.seq hs, ha⟩
  · cases e
    exact ⟨a, vs, rfl, SqL.of h1, h2⟩
theorem Vw.tup {m : Bool} {v : V} {ds : List D} (w : Vw m K G H v (.tuple ds)) : ∃ a vs, v = .ref a ∧ SqT K G.F a vs ∧ DpAll K G.F vs ds := by
  rcases w with h | ⟨_, _, _, _, e, _⟩
  · cases h with
    | tup hs ha => exact ⟨_, _, rfl, hs, ha⟩
  · cases e
end

/-! ### readings -/
/-- how an exception of the data lies in the heap: class, own dict, the region, the heap -/
abbrev EK := Exc → Value → Option Addr → Hp → Prop
section
variable (ek : EK) (K : PySem.W.Frag) (W : WX) (σ : L2.St)
def Fin {α : Type} (P : α → GS → Hp → Prop) (G : GS) (H : Hp) : Res α → Prop
  | .ok a => P a G H
  | .ex e => ∀ c a G' H', Grow G H G' H' → ek e c a H' → W c a σ H'
  | .er => False
end
def Mono {α : Type} (P : α → GS → Hp → Prop) : Prop := ∀ a G H G' H', Grow G H G' H' → P a G H → P a G' H'
def PD (m : Bool) (K : PySem.W.Frag) (Q : VK) : D → GS → Hp → Prop := fun d G H => ∀ v G' H', Grow G H G' H' → Vw m K G' H' v d → Q v H'
def PAs (m : Bool) (K : PySem.W.Frag) (Q : List V → Hp → Prop) : List D → GS → Hp → Prop := fun ds G H => ∀ vs G' H', Grow G H G' H' → VwAll m K G' H' vs ds → Q vs H'
def PB {α : Type} (Q : α → Hp → Prop) : α → GS → Hp → Prop := fun b G H => ∀ G' H', Grow G H G' H' → Q b H'
theorem mono_PD {m : Bool} {K : PySem.W.Frag} {Q : VK} : Mono (PD m K Q) := fun _ _ _ _ _ g h v G' H' g' w => h v G' H' (g.trans g') w
theorem mono_PAs {m : Bool} {K : PySem.W.Frag} {Q : List V → Hp → Prop} : Mono (PAs m K Q) := fun _ _ _ _ _ g h v G' H' g' w => h v G' H' (g.trans g') w
theorem mono_PB {α : Type} {Q : α → Hp → Prop} : Mono (PB Q) := fun _ _ _ _ _ g h G' H' g' => h G' H' (g.trans g')
section
variable {ek : EK} {K : PySem.W.Frag} {W : WX} {σ : L2.St} {O : List Nat} {G G1 : GS} {H H1 : Hp} {δ : Ev}
theorem Fin.mono {α : Type} {P : α → GS → Hp → Prop} (hP : Mono P) (g : Grow G H G1 H1) : ∀ {r : Res α}, Fin ek W σ P G H r → Fin ek W σ P G1 H1 r
  | .ok a, h => hP a _ _ _ _ g h
  | .ex e, h => fun c a G' H' g' k => h c a G' H' (g.trans g') k
  | .er, h => h
end
/-- an expression, a test, an argument list, a slice's part, by its data function -/
def tD (ek : EK) (K : PySem.W.Frag) (W : WX) (O : List Nat) (m : Bool) (f : Fx) : TE := fun σ H Q => ∃ G δ, Abs K G σ H δ O ∧ Fin ek W σ (PD m K Q) G H (f δ)
def tT (ek : EK) (K : PySem.W.Frag) (W : WX) (O : List Nat) (t : Tx) : TT := fun σ H Q => ∃ G δ, Abs K G σ H δ O ∧ Fin ek W σ (PB Q) G H (t δ)
def tAs (ek : EK) (K : PySem.W.Frag) (W : WX) (O : List Nat) (m : Bool) (a : Ax) : TA := fun σ H Q => ∃ G δ, Abs K G σ H δ O ∧ Fin ek W σ (PAs m K Q) G H (a δ)
def tP (ek : EK) (K : PySem.W.Frag) (W : WX) (O : List Nat) (p : Px) : TO := fun σ H Q => ∃ G δ, Abs K G σ H δ O ∧ Fin ek W σ (PB Q) G H (p δ)
/-- a fresh list -/
def PN (K : PySem.W.Frag) (Q : VK) : D → GS → Hp → Prop := fun d G H => ∀ a vs ds G' H', d = .list ds → Grow G H G' H' → H' a = some (.lst vs) → H a = none → G'.F a = none → DpAll K G'.F vs ds → Q (.ref a) H'
theorem mono_PN {K : PySem.W.Frag} {Q : VK} : Mono (PN K Q) := fun _ _ _ _ _ g h a vs ds G' H' e g' h1 h2 h3 h4 => h a vs ds G' H' e (g.trans g') h1 (g.s.free h2) h3 h4
def tN (ek : EK) (K : PySem.W.Frag) (W : WX) (O : List Nat) (f : Fx) : TE := fun σ H Q => ∃ G δ, Abs K G σ H δ O ∧ Fin ek W σ (PN K Q) G H (f δ)
section
variable {ek : EK} {K : PySem.W.Frag} {W : WX} {σ : L2.St} {O : List Nat} {G G1 : GS} {H H1 : Hp} {δ : Ev} {m : Bool} {f : Fx}
theorem tD_bind {β : Type} {P : β → GS → Hp → Prop} {k : D → Res β} {Q' : VK} (A : Abs K G σ H δ O) (hP : Mono P) (h : Fin ek W σ P G H ((f δ).bind k))
    (hk : ∀ d v G1 H1, f δ = .ok d → Grow G H G1 H1 → Abs K G1 σ H1 δ O → Vw m K G1 H1 v d → Fin ek W σ P G1 H1 (k d) → Q' v H1) : tD ek K W O m f σ H Q' := by
  refine ⟨G, δ, A, ?_⟩
  cases e : f δ with
  | ok d =>
    rw [e] at h
    exact fun v G1 H1 g w => hk d v G1 H1 e g (A.grow g) w (h.mono hP g)
  | ex x =>
    rw [e] at h
    exact h
  | er =>
    rw [e] at h
    exact h
theorem tT_bind {β : Type} {P : β → GS → Hp → Prop} {t : Tx} {k : Bool → Res β} {Q' : Bool → Hp → Prop} (A : Abs K G σ H δ O) (hP : Mono P) (h : Fin ek W σ P G H ((t δ).bind k))
    (hk : ∀ b G1 H1, t δ = .ok b → Grow G H G1 H1 → Abs K G1 σ H1 δ O → Fin ek W σ P G1 H1 (k b) → Q' b H1) : tT ek K W O t σ H Q' := by
  refine ⟨G, δ, A, ?_⟩
  cases e : t δ with
  | ok d =>
    rw [e] at h
    exact fun G1 H1 g => hk d G1 H1 e g (A.grow g) (h.mono hP g)
  | ex x =>
    rw [e] at h
    exact h
  | er =>
    rw [e] at h
    exact h
theorem tAs_bind {β : Type} {P : β → GS → Hp → Prop} {a : Ax} {k : List D → Res β} {Q' : List V → Hp → Prop} (A : Abs K G σ H δ O) (hP : Mono P) (h : Fin ek W σ P G H ((a δ).bind k))
    (hk : ∀ ds vs G1 H1, a δ = .ok ds → Grow G H G1 H1 → Abs K G1 σ H1 δ O → VwAll m K G1 H1 vs ds → Fin ek W σ P G1 H1 (k ds) → Q' vs H1) : tAs ek K W O m a σ H Q' := by
  refine ⟨G, δ, A, ?_⟩
  cases e : a δ with
  | ok d =>
    rw [e] at h
    exact fun vs G1 H1 g w => hk d vs G1 H1 e g (A.grow g) w (h.mono hP g)
  | ex x =>
    rw [e] at h
    exact h
  | er =>
    rw [e] at h
    exact h
theorem tP_bind {β : Type} {P : β → GS → Hp → Prop} {a : Px} {k : Option Int → Res β} {Q' : Option Int → Hp → Prop} (A : Abs K G σ H δ O) (hP : Mono P) (h : Fin ek W σ P G H ((a δ).bind k))
    (hk : ∀ o G1 H1, a δ = .ok o → Grow G H G1 H1 → Abs K G1 σ H1 δ O → Fin ek W σ P G1 H1 (k o) → Q' o H1) : tP ek K W O a σ H Q' := by
  refine ⟨G, δ, A, ?_⟩
  cases e : a δ with
  | ok d =>
    rw [e] at h
    exact fun G1 H1 g => hk d G1 H1 e g (A.grow g) (h.mono hP g)
  | ex x =>
    rw [e] at h
    exact h
  | er =>
    rw [e] at h
    exact h
/-- a new object that stands still -/
theorem Grow.alloc {p : Addr} {o : HO} (A : Same G.F H) (hp : H p = none) : Grow G H { G with F := upd G.F p o } (upd H p o) where
  h0 := rfl
  f0 := rfl
  s := fun b u q => by rw [upd_ne (ne_of_none q hp)]; exact q
  sf := fun b u q => by
    show (upd G.F p o) b = some u
    rw [upd_ne (ne_of_none (A _ _ q) hp)]
    exact q
  sub := fun b u q => by
    have q' : (upd G.F p o) b = some u := q
    by_cases hb : b = p
    · subst hb
      rw [upd_same] at q' ⊢
      exact q'
    · rw [upd_ne hb] at q' ⊢
      exact A _ _ q'
  nw := fun a h1 h2 => by
    by_cases ha : a = p
    · subst ha; exact hp
    · have h1' : (upd G.F p o) a ≠ none := h1
      rw [upd_ne ha] at h1'
      exact absurd h2 h1'
/-- a new object that is owned -/
theorem Grow.fresh {p : Addr} {o : HO} (A : Same G.F H) (hp : H p = none) : Grow G H G (upd H p o) where
  h0 := rfl
  f0 := rfl
  s := fun b u q => by rw [upd_ne (ne_of_none q hp)]; exact q
  sf := Same.refl _
  sub := fun b u q => by rw [upd_ne (ne_of_none (A _ _ q) hp)]; exact A _ _ q
  nw := fun a h1 h2 => absurd h2 h1
theorem Grow.freeze {p : Addr} {o : HO} (A : Same G.F H) {G' : GS} {H' : Hp} (g : Grow G H G' H') (h1 : H' p = some o) (h2 : H p = none) : Grow G H { G' with F := upd G'.F p o } H' where
  h0 := g.h0
  f0 := g.f0
  s := g.s
  sf := fun b u q => by
    have hb : b ≠ p := fun z => by
      subst z
      have z := A _ _ q
      rw [h2] at z
      cases z
    show (upd G'.F p o) b = some u
    rw [upd_ne hb]
    exact g.sf _ _ q
  sub := fun b u q => by
    have q' : (upd G'.F p o) b = some u := q
    by_cases hb : b = p
    · subst hb
      rw [upd_same] at q'
      rw [h1]
      exact q'
    · rw [upd_ne hb] at q'
      exact g.sub _ _ q'
  nw := fun a h3 h4 => by
    have h3' : (upd G'.F p o) a ≠ none := h3
    by_cases ha : a = p
    · subst ha; exact h2
    · rw [upd_ne ha] at h3'
      exact g.nw a h3' h4
end
end Wk
end

section
set_option Elab.async false
set_option linter.all false
set_option autoImplicit false
set_option maxRecDepth 100000
set_option maxHeartbeats 4000000
/-! WkB: expressions by their data functions. -/
namespace Wk
open PySem PySem.Spec PyProof.Rows L2 Dt

section
variable {X : Cx} {ek : EK} {W : WX} {O : List Nat} {m m1 m2 : Bool} {a b : Expr} {f g : Fx} {pos : Pos}

/-- as it stands still, so it is seen -/
theorem de_see {e : Expr} (h : PE X e (tD ek X.K W O true f)) : PE X e (tD ek X.K W O m f) := by
  refine ⟨fun pins s σ H Q I ⟨G, δ, A, q⟩ => h.run pins s σ H Q I ⟨G, δ, A, ?_⟩⟩
  cases e : f δ with
  | ok d =>
    rw [e] at q
    exact fun v G' H' g w => q v G' H' g w.weak
  | ex x =>
    rw [e] at q
    exact q
  | er =>
    rw [e] at q
    exact q
/-- a fresh list stands still from now on -/
theorem de_new {e : Expr} (h : PE X e (tN ek X.K W O f)) : PE X e (tD ek X.K W O true f) := by
  refine ⟨fun pins s σ H Q I ⟨G, δ, A, q⟩ => h.run pins s σ H Q I ⟨G, δ, A, ?_⟩⟩
  cases e : f δ with
  | ok d =>
    rw [e] at q
    intro a vs ds G' H' ed g h1 h2 h3 h4
    subst ed
    refine q (.ref a) _ H' (Grow.freeze A.sf g h1 h2) (.inl ?_)
    refine .lst (SqL.of (upd_same (o := .lst vs))) (dps_same (fun b u z => ?_) _ h4)
    show (upd G'.F a (.lst vs)) b = some u
    rw [upd_ne (fun w => by rw [w, h3] at z; cases z)]
    exact z
  | ex x =>
    rw [e] at q
    exact q
  | er =>
    rw [e] at q
    exact q

/-! ### names, constants -/
/-- a name whose value stands still; slot i -/
theorem dv (i : Nat) {x : Str} {pos : Pos} (hi : i ∉ O := by decide) (hN : X.N[i]? = some x := by rfl)
    (hv : Vis X.env.scope x := by first | exact Or.inl rfl | exact Or.inr (Or.inl rfl) | exact Or.inr (Or.inr rfl))
    (hd : (x == ("__debug__" : Str)) = false := by decide) (hcd : (x == ("__classdict__" : Str)) = false := by decide) :
    PE X (.Name x pos) (tD ek X.K W O true (xName i)) := by
  refine ⟨fun pins s σ H Q I ⟨G, δ, A, q⟩ => (pe_var hN hv hd hcd).run pins s σ H Q I ?_⟩
  unfold xName at q
  cases e : look δ i with
  | none =>
    rw [e] at q
    exact q.elim
  | some d =>
    rw [e] at q
    obtain ⟨v, h1, h2⟩ := A.pl i d hi e
    exact ⟨v, h1, q v G H (Grow.self A.sf) (.inl h2)⟩
/-- any name, seen -/
theorem dvo (i : Nat) {x : Str} {pos : Pos} (hN : X.N[i]? = some x := by rfl)
    (hv : Vis X.env.scope x := by first | exact Or.inl rfl | exact Or.inr (Or.inl rfl) | exact Or.inr (Or.inr rfl))
    (hd : (x == ("__debug__" : Str)) = false := by decide) (hcd : (x == ("__classdict__" : Str)) = false := by decide) :
    PE X (.Name x pos) (tD ek X.K W O false (xName i)) := by
  refine ⟨fun pins s σ H Q I ⟨G, δ, A, q⟩ => (pe_var hN hv hd hcd).run pins s σ H Q I ?_⟩
  unfold xName at q
  cases e : look δ i with
  | none =>
    rw [e] at q
    exact q.elim
  | some d =>
    rw [e] at q
    by_cases hi : i ∈ O
    · obtain ⟨a, ds, rfl, h1, ⟨vs, h2, h3⟩, _, _⟩ := A.ow i d hi e
      exact ⟨_, h1, q _ G H (Grow.self A.sf) (.inr ⟨rfl, a, vs, ds, rfl, rfl, h2, h3⟩)⟩
    · obtain ⟨v, h1, h2⟩ := A.pl i d hi e
      exact ⟨v, h1, q v G H (Grow.self A.sf) (.inl h2)⟩
theorem dc_int {i : Int} {j : Nat} : PE X (.Constant (.int i) j pos) (tD ek X.K W O true (xC (.int i))) :=
  ⟨fun pins s σ H Q I ⟨G, δ, A, q⟩ => pe_int.run pins s σ H Q I (q _ G H (Grow.self A.sf) (.inl (.int i)))⟩
theorem dc_bl {c : Bool} {j : Nat} : PE X (.Constant (.bool c) j pos) (tD ek X.K W O true (xC (.bool c))) :=
  ⟨fun pins s σ H Q I ⟨G, δ, A, q⟩ => pe_bl.run pins s σ H Q I (q _ G H (Grow.self A.sf) (.inl (.bl c)))⟩
theorem dc_non {j : Nat} : PE X (.Constant .none j pos) (tD ek X.K W O true (xC .none)) :=
  ⟨fun pins s σ H Q I ⟨G, δ, A, q⟩ => pe_non.run pins s σ H Q I (q _ G H (Grow.self A.sf) (.inl .non))⟩
theorem dc_str {x : Str} {j : Nat} : PE X (.Constant (.str x) j pos) (tD ek X.K W O true (xC (.str x))) :=
  ⟨fun pins s σ H Q I ⟨G, δ, A, q⟩ => pe_str.run pins s σ H Q I (q _ G H (Grow.self A.sf) (.inl (.str x)))⟩

/-! ### operators -/
/-- the operator fv does what opD says -/
structure OpS (X : Cx) (fv : Value → Value → Sem Value) (opD : D → D → Res D) : Prop where
  ok : ∀ d e r, opD d e = .ok r → ∃ r2 : R2, OpR X fv r2 ∧ ∀ (m1 m2 : Bool) (v u : V) (G : GS) (H : Hp) (Q : VK), Same G.F H → Vw m1 X.K G H v d → Vw m2 X.K G H u e → PD true X.K Q r G H → r2 v u H Q
  nx : ∀ d e x, opD d e ≠ .ex x
theorem opr_never {fv : Value → Value → Sem Value} : OpR X fv (fun _ _ _ _ => False) := fun _ _ _ _ _ _ _ _ _ _ _ _ h => h.elim
theorem OpS.pick {fv : Value → Value → Sem Value} {opD : D → D → Res D} (S : OpS X fv opD) (σ : L2.St) (r1 r2' : Res D) (Q : VK) : ∃ r2 : R2, OpR X fv r2 ∧
    ∀ (d e : D) (m1 m2 : Bool) (v u : V) (G : GS) (H : Hp), r1 = .ok d → r2' = .ok e → Same G.F H → Vw m1 X.K G H v d → Vw m2 X.K G H u e → Fin ek W σ (PD true X.K Q) G H (opD d e) → r2 v u H Q := by
  cases r1 with
  | ok d =>
    cases r2' with
    | ok e =>
      cases hr : opD d e with
      | ok r =>
        obtain ⟨r2, h1, h2⟩ := S.ok d e r hr
        refine ⟨r2, h1, fun d' e' m1 m2 v u G H e1 e2 s w1 w2 h => ?_⟩
        cases e1
        cases e2
        rw [hr] at h
        exact h2 m1 m2 v u G H Q s w1 w2 h
      | ex x => exact absurd hr (S.nx d e x)
      | er =>
        refine ⟨_, opr_never, fun d' e' m1 m2 v u G H e1 e2 s w1 w2 h => ?_⟩
        cases e1
        cases e2
        rw [hr] at h
        exact h
    | ex x => exact ⟨_, opr_never, fun d' e' m1 m2 v u G H e1 e2 => nomatch e2⟩
    | er => exact ⟨_, opr_never, fun d' e' m1 m2 v u G H e1 e2 => nomatch e2⟩
  | ex x => exact ⟨_, opr_never, fun d' e' m1 m2 v u G H e1 e2 => nomatch e1⟩
  | er => exact ⟨_, opr_never, fun d' e' m1 m2 v u G H e1 e2 => nomatch e1⟩
theorem two_of {fv : Value → Value → Sem Value} {opD : D → D → Res D} (S : OpS X fv opD) {σ : L2.St} {H : Hp} {Q : VK} (h : tD ek X.K W O true (x2 opD f g) σ H Q) :
    ∃ r2 : R2, OpR X fv r2 ∧ tOp r2 (tD ek X.K W O m1 f) (tD ek X.K W O m2 g) σ H Q := by
  obtain ⟨G, δ, A, q⟩ := h
  obtain ⟨r2, h1, h2⟩ := S.pick (ek := ek) (W := W) σ (f δ) (g δ) Q
  refine ⟨r2, h1, tD_bind A mono_PD q fun d v G1 H1 hd g1 A1 w1 q1 => tD_bind A1 mono_PD q1 fun e u G2 H2 he g2 A2 w2 q2 => ?_⟩
  exact h2 d e m1 m2 v u G2 H2 hd he A2.sf (w1.grow g2) w2 q2
theorem de_bin {op : Operator} {opD : D → D → Res D} (S : OpS X (binaryOp op) opD) (ha : PE X a (tD ek X.K W O m1 f)) (hb : PE X b (tD ek X.K W O m2 g)) :
    PE X (.BinOp a op b pos) (tD ek X.K W O true (x2 opD f g)) := by
  refine ⟨fun pins s σ H Q I h => ?_⟩
  obtain ⟨r2, h1, h2⟩ := two_of (m1 := m1) (m2 := m2) S h
  exact (pe_op h1 ha hb).run pins s σ H Q I h2
theorem de_cmp {op : CmpOp} {opD : D → D → Res D} (S : OpS X (compareOp op) opD) (ha : PE X a (tD ek X.K W O m1 f)) (hb : PE X b (tD ek X.K W O m2 g)) (hm : behindInMarks op b = false := by first | exact nomark _ | rfl) :
    PE X (.Compare a [op] [b] pos) (tD ek X.K W O true (x2 opD f g)) := by
  refine ⟨fun pins s σ H Q I h => ?_⟩
  obtain ⟨r2, h1, h2⟩ := two_of (m1 := m1) (m2 := m2) S h
  exact (pe_cmpR h1 ha hb hm).run pins s σ H Q I h2

theorem ops_ints {fv : Value → Value → Sem Value} {opD : D → D → Res D} (hn : ∀ d e x, opD d e ≠ .ex x)
    (h : ∀ d e r, opD d e = .ok r → ∃ i j, d = .int i ∧ e = .int j ∧ ∃ (C : Int → Int → Prop) (g : Int → Int → V), OpR X fv (rI C g) ∧ C i j ∧ ∀ F : Hp, Dp X.K F (g i j) r) : OpS X fv opD := by
  refine ⟨fun d e r hr => ?_, hn⟩
  obtain ⟨i, j, rfl, rfl, C, g, h1, h2, h3⟩ := h d e r hr
  exact ⟨_, h1, fun m1 m2 v u G H Q s w1 w2 q => ⟨i, j, w1.int, w2.int, h2, q _ G H (Grow.self s) (.inl (h3 _))⟩⟩
theorem opr_rI0 {fv : Value → Value → Sem Value} {g : Int → Int → V} (h : OpR X fv (rI0 g)) : OpR X fv (rI (fun _ _ => True) g) :=
  fun pins s σ H x y v u Q I rx ry ⟨i, j, e1, e2, _, q⟩ => h pins s σ H x y v u Q I rx ry ⟨i, j, e1, e2, q⟩
theorem opS_sub : OpS X (binaryOp .Sub) oSub := by
  refine ops_ints (fun d e x => ?_) fun d e r hr => ?_
  · cases d <;> cases e <;> simp [oSub]
  · cases d <;> cases e <;> simp [oSub] at hr
    subst hr
    exact ⟨_, _, rfl, rfl, _, _, opr_rI0 op_sub, trivial, fun F => .int _⟩
theorem opS_mul : OpS X (binaryOp .Mult) oMul := by
  refine ops_ints (fun d e x => ?_) fun d e r hr => ?_
  · cases d <;> cases e <;> (intro h; simp only [oMul] at h; first | (cases h; done) | (split at h <;> cases h))
  · cases d <;> cases e <;> (simp only [oMul] at hr; first | (cases hr; done) | (split at hr <;> first | (cases hr; done) | skip))
    rename_i h
    cases hr
    simp only [Dt.small64, Bool.or_eq_true, decide_eq_true_eq] at h
    rcases h with h | h
    · refine ⟨_, _, rfl, rfl, _, _, op_mul, ?_, fun F => .int _⟩
      unfold CMul
      omega
    · exact ⟨_, _, rfl, rfl, _, _, op_mulW, h, fun F => .int _⟩
theorem opS_div : OpS X (binaryOp .FloorDiv) oDiv := by
  refine ops_ints (fun d e x => ?_) fun d e r hr => ?_
  · cases d <;> cases e <;> (intro h; simp only [oDiv] at h; first | (cases h; done) | (split at h <;> cases h))
  · cases d <;> cases e <;> (simp only [oDiv] at hr; first | (cases hr; done) | (split at hr <;> first | (cases hr; done) | skip))
    rename_i h
    cases hr
    exact ⟨_, _, rfl, rfl, _, _, op_fdivN, h, fun F => .int _⟩
theorem opS_mod : OpS X (binaryOp .Mod) oMod := by
  refine ops_ints (fun d e x => ?_) fun d e r hr => ?_
  · cases d <;> cases e <;> (intro h; simp only [oMod] at h; first | (cases h; done) | (split at h <;> cases h))
  · cases d <;> cases e <;> (simp only [oMod] at hr; first | (cases hr; done) | (split at hr <;> first | (cases hr; done) | skip))
    rename_i h
    cases hr
    exact ⟨_, _, rfl, rfl, _, _, op_modN, h, fun F => .int _⟩
theorem opS_pow : OpS X (binaryOp .Pow) oPow := by
  refine ops_ints (fun d e x => ?_) fun d e r hr => ?_
  · cases d <;> cases e <;> (intro h; simp only [oPow] at h; first | (cases h; done) | (split at h <;> cases h))
  · cases d <;> cases e <;> (simp only [oPow] at hr; first | (cases hr; done) | (split at hr <;> first | (cases hr; done) | skip))
    rename_i h
    cases hr
    exact ⟨_, _, rfl, rfl, _, _, op_pow, h, fun F => .int _⟩
theorem opS_cmp {fv : Value → Value → Sem Value} {p : Int → Int → Bool} (h : OpR X fv (rI0 fun i j => .bl (p i j))) : OpS X fv (oCmp p) := by
  refine ops_ints (fun d e x => ?_) fun d e r hr => ?_
  · cases d <;> cases e <;> simp [oCmp]
  · cases d <;> cases e <;> simp [oCmp] at hr
    subst hr
    exact ⟨_, _, rfl, rfl, _, _, opr_rI0 h, trivial, fun F => .bl _⟩
theorem opS_lt : OpS X (compareOp .Lt) oLt := opS_cmp op_lt
theorem opS_le : OpS X (compareOp .LtE) oLe := opS_cmp op_le
theorem opS_gt : OpS X (compareOp .Gt) oGt := opS_cmp op_gt
theorem opS_ge : OpS X (compareOp .GtE) oGe := opS_cmp op_ge
/-- xs + ys, of any two lists that are read -/
def rCatL (K : PySem.W.Frag) : R2 := fun x y H Q => ∃ l b xs zs, x = .ref l ∧ y = .ref b ∧ SqL K H l xs ∧ SqL K H b zs ∧ xs.length + zs.length ≤ sizeLine ∧
  ∀ p, H p = none → Q (.ref p) (upd H p (.lst (xs ++ zs)))
theorem op_catL : OpR X (binaryOp .Add) (rCatL X.K) := by
  intro pins s σ H x y v u Q I rx ry ⟨l, b, xs, zs, e1, e2, h1, h2, hz, q⟩
  subst e1 e2
  cases rx
  cases ry
  obtain ⟨vs, r1, p1, _⟩ := I.list h1
  obtain ⟨ws, r2, p2, _⟩ := I.list h2
  obtain ⟨⟨c1, d1, t1, s1⟩, n1, o1, k1, _, z1⟩ := p1
  obtain ⟨⟨c2, d2, t2, s2⟩, n2, o2, k2, _, z2⟩ := p2
  simp only at k1 z1 k2 z2
  subst k1 z1 k2 z2
  have hz' : vs.toArray.size + ws.toArray.size ≤ sizeLine := by
    rw [List.size_toArray, List.size_toArray, ← r1.length, ← r2.length]
    exact hz
  refine concat_meets ⟨_, o1, rfl⟩ ⟨_, o2, rfl⟩ noFill_list_add seq_list_add PySem.F.slot_list_add PySem.F.entry_list_add
    (PySem.F.args_list_add_2 _ _) (list_addW l b vs.toArray ws.toArray n1 n2 d1 d2 s1 s2 hz') ⟨o1, o2, ?_⟩
  have ea : vs.toArray ++ ws.toArray = (vs ++ ws).toArray := by simp
  rw [ea]
  exact ⟨.ref _, _, I.lnew (t' := s.toks) (r1.append r2) (by rw [List.length_append]; exact hz), rfl, q _ I.fresh⟩
theorem sl_line : SL = sizeLine := by decide
theorem sl_le {n : Nat} (h : n ≤ SL) : n ≤ sizeLine := by rw [← sl_line]; exact h
theorem sl_lt {n : Nat} (h : n < SL) : n < sizeLine := by rw [← sl_line]; exact h
/-- a new list of what stands still -/
theorem PD.list {K : PySem.W.Frag} {G : GS} {H : Hp} {Q : VK} {vs : List V} {ds : List D} (q : PD true K Q (.list ds) G H) (s : Same G.F H) (hd : DpAll K G.F vs ds) :
    ∀ p, H p = none → Q (.ref p) (upd H p (.lst vs)) := fun p hp => by
  have g := Grow.alloc (o := .lst vs) s hp
  exact q _ _ _ g (.inl (.lst (SqL.of upd_same) (dps_same g.sf _ hd)))
theorem PD.tuple {K : PySem.W.Frag} {G : GS} {H : Hp} {Q : VK} {vs : List V} {ds : List D} (q : PD true K Q (.tuple ds) G H) (s : Same G.F H) (hd : DpAll K G.F vs ds) :
    ∀ p, H p = none → Q (.ref p) (upd H p (.tup vs)) := fun p hp => by
  have g := Grow.alloc (o := .tup vs) s hp
  exact q _ _ _ g (.inl (.tup (SqT.of upd_same) (dps_same g.sf _ hd)))
theorem opS_add : OpS X (binaryOp .Add) oAdd := by
  refine ⟨fun d e r hr => ?_, fun d e x => ?_⟩
  · cases d <;> cases e <;> (simp only [oAdd] at hr; first | (split at hr <;> first | (cases hr; done) | skip) | cases hr)
    · exact ⟨_, op_add, fun m1 m2 v u G H Q s w1 w2 q => ⟨_, _, w1.int, w2.int, q _ G H (Grow.self s) (.inl (.int _))⟩⟩
    · rename_i hz
      cases hr
      exact ⟨_, op_add_str, fun m1 m2 v u G H Q s w1 w2 q => ⟨_, _, w1.str, w2.str, sl_le hz, q _ G H (Grow.self s) (.inl (.str _))⟩⟩
    · rename_i hz
      cases hr
      refine ⟨_, op_catL, fun m1 m2 v u G H Q s w1 w2 q => ?_⟩
      obtain ⟨l, vs, rfl, h1, k1⟩ := w1.lst s
      obtain ⟨b, us, rfl, h2, k2⟩ := w2.lst s
      exact ⟨l, b, vs, us, rfl, rfl, h1, h2, by rw [dps_len k1, dps_len k2]; exact sl_le hz, PD.list q s (dps_app k1 k2)⟩
  · cases d <;> cases e <;> (intro h; simp only [oAdd] at h; first | (cases h; done) | (split at h <;> cases h))
theorem dpd_shaped {d : D} (h : shp d = true) : SeqAt.shaped d = true := h
theorem opS_eqB {fv : Value → Value → Sem Value} {neg : Bool} (hs : OpR X fv (fun x y H Q => scal x y = true ∧ Q (.bl (if neg then !decide (x = y) else decide (x = y))) H))
    (hd : OpR X fv (fun x y H Q => ∃ d e, Dp X.K H x d ∧ Dp X.K H y e ∧ SeqAt.shaped d = true ∧ SeqAt.shaped e = true ∧ Q (.bl (if neg then !PyData.eqv d e else PyData.eqv d e)) H)) :
    OpS X fv (fun d e => (eqB d e).bind fun c => .ok (.bool (if neg then !c else c))) := by
  have gen : ∀ (d e : D) (c : Bool), (if (shp d && shp e) = true then (.ok (PyData.eqv d e) : Res Bool) else .er) = .ok c →
      ∃ r2 : R2, OpR X fv r2 ∧ ∀ (m1 m2 : Bool) (v u : V) (G : GS) (H : Hp) (Q : VK), Same G.F H → Vw m1 X.K G H v d → Vw m2 X.K G H u e → PD true X.K Q (.bool (if neg then !c else c)) G H → r2 v u H Q := by
    intro d e c h
    split at h
    · rename_i hh
      cases h
      simp only [Bool.and_eq_true] at hh
      exact ⟨_, hd, fun m1 m2 v u G H Q s w1 w2 q => ⟨d, e, w1.seen s, w2.seen s, hh.1, hh.2, q _ G H (Grow.self s) (.inl (.bl _))⟩⟩
    · cases h
  refine ⟨fun d e r hr => ?_, fun d e x => ?_⟩
  · cases hc : eqB d e with
    | ok c =>
      rw [hc] at hr
      cases hr
      unfold eqB at hc
      split at hc
      · cases hc
        exact ⟨_, hs, fun m1 m2 v u G H Q s w1 w2 q => by
          rw [w1.int, w2.int]
          refine ⟨rfl, ?_⟩
          rw [dec_int]
          exact q _ G H (Grow.self s) (.inl (.bl _))⟩
      · cases hc
        exact ⟨_, hs, fun m1 m2 v u G H Q s w1 w2 q => by
          rw [w1.str, w2.str]
          refine ⟨rfl, ?_⟩
          rw [dec_str]
          exact q _ G H (Grow.self s) (.inl (.bl _))⟩
      · cases hc
        exact ⟨_, hs, fun m1 m2 v u G H Q s w1 w2 q => by
          rw [w1.bl, w2.bl]
          refine ⟨rfl, ?_⟩
          rw [dec_bl]
          exact q _ G H (Grow.self s) (.inl (.bl _))⟩
      · exact gen _ _ _ hc
    | ex x =>
      rw [hc] at hr
      cases hr
    | er =>
      rw [hc] at hr
      cases hr
  · intro h
    cases hc : eqB d e with
    | ok c =>
      rw [hc] at h
      cases h
    | ex y =>
      unfold eqB at hc
      split at hc
      · cases hc
      · cases hc
      · cases hc
      · split at hc <;> cases hc
    | er =>
      rw [hc] at h
      cases h
theorem opS_eq (hu : X.A.units + 64 < cLine) : OpS X (compareOp .Eq) oEq :=
  opS_eqB (neg := false) (fun pins s σ H x y v u Q I rx ry h => op_eq pins s σ H x y v u Q I rx ry h) (fun pins s σ H x y v u Q I rx ry h => op_eqD hu pins s σ H x y v u Q I rx ry h)
theorem opS_ne (hu : X.A.units + 64 < cLine) : OpS X (compareOp .NotEq) oNe :=
  opS_eqB (neg := true) (fun pins s σ H x y v u Q I rx ry h => op_ne pins s σ H x y v u Q I rx ry h) (fun pins s σ H x y v u Q I rx ry h => op_neD hu pins s σ H x y v u Q I rx ry h)
end
end Wk
end

section
set_option Elab.async false
set_option linter.all false
set_option autoImplicit false
set_option maxRecDepth 100000
set_option maxHeartbeats 4000000
/-! WkC: tests, subscripts, calls of built-ins, displays. -/
namespace Wk
open PySem PySem.Spec PyProof.Rows L2 Dt

section
variable {X : Cx} {ek : EK} {W : WX} {O : List Nat} {m m1 m2 m3 : Bool} {a b c : Expr} {rest : List Expr} {f g h' : Fx} {t u : Tx} {pos : Pos}

/-! ### tests -/
theorem tB_of {σ : L2.St} {H : Hp} {Q : Bool → Hp → Prop} (h : tT ek X.K W O (Dt.tB f) σ H Q) : tD ek X.K W O m f σ H (fun x H' => ∃ k, x = .bl k ∧ Q k H') := by
  obtain ⟨G, δ, A, q⟩ := h
  refine tD_bind A mono_PB q fun d v G1 H1 hd g1 A1 w1 q1 => ?_
  cases d with
  | bool k =>
    have q2 : PB Q k G1 H1 := q1
    exact ⟨k, w1.bl, q2 G1 H1 (Grow.self A1.sf)⟩
  | none => exact q1.elim
  | int i => exact q1.elim
  | str x => exact q1.elim
  | list xs => exact q1.elim
  | tuple xs => exact q1.elim
  | dict xs => exact q1.elim
theorem dt_val (h : PE X a (tD ek X.K W O m f)) (he : ∀ whole, isTrue a X.env whole = (do let v ← whole; standAt a.pos; holding [v] (truthy v)) := by intro _; rfl) : PT X a (tT ek X.K W O (Dt.tB f)) :=
  ⟨fun pins s σ H Q I q => (pt_val h he).run pins s σ H Q I (tB_of q)⟩
theorem dt_cmp {op : CmpOp} {opD : D → D → Res D} (S : OpS X (compareOp op) opD) (ha : PE X a (tD ek X.K W O m1 f)) (hb : PE X b (tD ek X.K W O m2 g)) (hm : behindInMarks op b = false := by first | exact nomark _ | rfl) :
    PT X (.Compare a [op] [b] pos) (tT ek X.K W O (Dt.tB (x2 opD f g))) := by
  refine ⟨fun pins s σ H Q I h => ?_⟩
  obtain ⟨r2, h1, h2⟩ := two_of (m1 := m1) (m2 := m2) S (tB_of h)
  exact (pt_cmpR h1 ha hb hm).run pins s σ H Q I h2
theorem dt_not (h : PT X a (tT ek X.K W O t)) : PT X (.UnaryOp .Not a pos) (tT ek X.K W O (Dt.tNot t)) := by
  refine ⟨fun pins s σ H Q I ⟨G, δ, A, q⟩ => (pt_not h).run pins s σ H Q I ?_⟩
  exact tT_bind A mono_PB q fun k G1 H1 hd g1 A1 q1 => (show PB Q (!k) G1 H1 from q1) G1 H1 (Grow.self A1.sf)
theorem dw_and1 (h : PT X a (tT ek X.K W O t)) : PW X (.BoolOp .And [a] pos) (tT ek X.K W O t) := pw_and1 h
theorem dw_or1 (h : PT X a (tT ek X.K W O t)) : PW X (.BoolOp .Or [a] pos) (tT ek X.K W O t) := pw_or1 h
theorem dw_and (h : PT X a (tT ek X.K W O t)) (hb : PW X (.BoolOp .And (b :: rest) pos) (tT ek X.K W O u)) : PW X (.BoolOp .And (a :: b :: rest) pos) (tT ek X.K W O (Dt.tAnd t u)) := by
  refine ⟨fun whole pins s σ H Q I ⟨G, δ, A, q⟩ => (pw_and h hb).run whole pins s σ H Q I ?_⟩
  refine tT_bind A mono_PB q fun k G1 H1 hd g1 A1 q1 => ?_
  cases k with
  | true => exact ⟨G1, δ, A1, q1⟩
  | false => exact (show PB Q false G1 H1 from q1) G1 H1 (Grow.self A1.sf)
theorem dw_or (h : PT X a (tT ek X.K W O t)) (hb : PW X (.BoolOp .Or (b :: rest) pos) (tT ek X.K W O u)) : PW X (.BoolOp .Or (a :: b :: rest) pos) (tT ek X.K W O (Dt.tOr t u)) := by
  refine ⟨fun whole pins s σ H Q I ⟨G, δ, A, q⟩ => (pw_or h hb).run whole pins s σ H Q I ?_⟩
  refine tT_bind A mono_PB q fun k G1 H1 hd g1 A1 q1 => ?_
  cases k with
  | true => exact (show PB Q true G1 H1 from q1) G1 H1 (Grow.self A1.sf)
  | false => exact ⟨G1, δ, A1, q1⟩
/-- and, or as values -/
theorem de_one {op : BoolOp} (h : PE X a (tD ek X.K W O m f)) : PE X (.BoolOp op [a] pos) (tD ek X.K W O m f) := pe_one h
theorem de_and (ha : PE X a (tD ek X.K W O m1 f)) (hb : PE X (.BoolOp .And (b :: rest) pos) (tD ek X.K W O true g)) : PE X (.BoolOp .And (a :: b :: rest) pos) (tD ek X.K W O true (xAnd f g)) := by
  refine ⟨fun pins s σ H Q I ⟨G, δ, A, q⟩ => (pe_and ha hb).run pins s σ H Q I ?_⟩
  refine tD_bind A mono_PD q fun d v G1 H1 hd g1 A1 w1 q1 => ?_
  cases d with
  | bool k =>
    refine ⟨k, w1.bl, ?_⟩
    cases k with
    | true => exact ⟨G1, δ, A1, q1⟩
    | false => exact (show PD true X.K Q (.bool false) G1 H1 from q1) _ G1 H1 (Grow.self A1.sf) (.inl (.bl _))
  | none => exact q1.elim
  | int i => exact q1.elim
  | str x => exact q1.elim
  | list xs => exact q1.elim
  | tuple xs => exact q1.elim
  | dict xs => exact q1.elim
theorem de_or (ha : PE X a (tD ek X.K W O m1 f)) (hb : PE X (.BoolOp .Or (b :: rest) pos) (tD ek X.K W O true g)) : PE X (.BoolOp .Or (a :: b :: rest) pos) (tD ek X.K W O true (xOr f g)) := by
  refine ⟨fun pins s σ H Q I ⟨G, δ, A, q⟩ => (pe_or ha hb).run pins s σ H Q I ?_⟩
  refine tD_bind A mono_PD q fun d v G1 H1 hd g1 A1 w1 q1 => ?_
  cases d with
  | bool k =>
    refine ⟨k, w1.bl, ?_⟩
    cases k with
    | true => exact (show PD true X.K Q (.bool true) G1 H1 from q1) _ G1 H1 (Grow.self A1.sf) (.inl (.bl _))
    | false => exact ⟨G1, δ, A1, q1⟩
  | none => exact q1.elim
  | int i => exact q1.elim
  | str x => exact q1.elim
  | list xs => exact q1.elim
  | tuple xs => exact q1.elim
  | dict xs => exact q1.elim
theorem de_if (ht : PT X c (tT ek X.K W O t)) (ha : PE X a (tD ek X.K W O m f)) (hb : PE X b (tD ek X.K W O m g)) : PE X (.IfExp c a b pos) (tD ek X.K W O m (xIf t f g)) := by
  refine ⟨fun pins s σ H Q I ⟨G, δ, A, q⟩ => (pe_ifExp ht ha hb).run pins s σ H Q I ?_⟩
  refine tT_bind A mono_PD q fun k G1 H1 hd g1 A1 q1 => ?_
  cases k with
  | true => exact ⟨G1, δ, A1, q1⟩
  | false => exact ⟨G1, δ, A1, q1⟩

/-! ### one-place operators, is -/
theorem de_neg (ha : PE X a (tD ek X.K W O m1 f)) : PE X (.UnaryOp .USub a pos) (tD ek X.K W O true (x1 oNeg f)) := by
  refine ⟨fun pins s σ H Q I ⟨G, δ, A, q⟩ => (pe_un un_neg ha).run pins s σ H Q I ?_⟩
  refine tD_bind A mono_PD q fun d v G1 H1 hd g1 A1 w1 q1 => ?_
  cases d with
  | int i => exact ⟨i, w1.int, (show PD true X.K Q (.int (-i)) G1 H1 from q1) _ G1 H1 (Grow.self A1.sf) (.inl (.int _))⟩
  | none => exact q1.elim
  | bool i => exact q1.elim
  | str x => exact q1.elim
  | list xs => exact q1.elim
  | tuple xs => exact q1.elim
  | dict xs => exact q1.elim
theorem de_not (ha : PE X a (tD ek X.K W O m1 f)) : PE X (.UnaryOp .Not a pos) (tD ek X.K W O true (x1 oNot f)) := by
  refine ⟨fun pins s σ H Q I ⟨G, δ, A, q⟩ => (pe_not ha).run pins s σ H Q I ?_⟩
  refine tD_bind A mono_PD q fun d v G1 H1 hd g1 A1 w1 q1 => ?_
  cases d with
  | bool i => exact ⟨i, w1.bl, (show PD true X.K Q (.bool (!i)) G1 H1 from q1) _ G1 H1 (Grow.self A1.sf) (.inl (.bl _))⟩
  | none => exact q1.elim
  | int i => exact q1.elim
  | str x => exact q1.elim
  | list xs => exact q1.elim
  | tuple xs => exact q1.elim
  | dict xs => exact q1.elim
theorem vw_none {K : PySem.W.Frag} {G : GS} {H : Hp} {v : V} {d : D} (w : Vw m K G H v d) : decide (v = .non) = isNone d := by
  rcases w with h | ⟨_, a, vs, ds, rfl, rfl, _⟩
  · cases h <;> first | rfl | exact decide_eq_true rfl | exact decide_eq_false (by intro z; cases z)
  · exact decide_eq_false (by intro z; cases z)
theorem x1_oIsN {σ : L2.St} {H : Hp} {Q : VK} {neg : Bool} (h : tD ek X.K W O true (x1 (fun d => .ok (.bool (if neg then !(isNone d) else isNone d))) f) σ H Q) :
    tD ek X.K W O m f σ H fun x H1 => Q (.bl (if neg then !decide (x = .non) else decide (x = .non))) H1 := by
  obtain ⟨G, δ, A, q⟩ := h
  refine tD_bind A mono_PD q fun d v G1 H1 hd g1 A1 w1 q1 => ?_
  rw [vw_none w1]
  exact (show PD true X.K Q (.bool _) G1 H1 from q1) _ G1 H1 (Grow.self A1.sf) (.inl (.bl _))
theorem de_isN {j : Nat} {p : Pos} (ha : PE X a (tD ek X.K W O m1 f)) : PE X (.Compare a [.Is] [.Constant .none j p] pos) (tD ek X.K W O true (x1 oIsN f)) :=
  ⟨fun pins s σ H Q I h => (pe_cmp (pc_isN ha)).run pins s σ H Q I (x1_oIsN (neg := false) h)⟩
theorem de_notN {j : Nat} {p : Pos} (ha : PE X a (tD ek X.K W O m1 f)) : PE X (.Compare a [.IsNot] [.Constant .none j p] pos) (tD ek X.K W O true (x1 oNotN f)) :=
  ⟨fun pins s σ H Q I h => (pe_cmp (pc_notN ha)).run pins s σ H Q I (x1_oIsN (neg := true) h)⟩
theorem dt_isN {j : Nat} {p : Pos} (ha : PE X a (tD ek X.K W O m1 f)) : PT X (.Compare a [.Is] [.Constant .none j p] pos) (tT ek X.K W O (Dt.tB (x1 oIsN f))) :=
  ⟨fun pins s σ H Q I h => (pt_cmp (pc_isN ha)).run pins s σ H Q I (x1_oIsN (neg := false) (tB_of h))⟩
theorem dt_notN {j : Nat} {p : Pos} (ha : PE X a (tD ek X.K W O m1 f)) : PT X (.Compare a [.IsNot] [.Constant .none j p] pos) (tT ek X.K W O (Dt.tB (x1 oNotN f))) :=
  ⟨fun pins s σ H Q I h => (pt_cmp (pc_notN ha)).run pins s σ H Q I (x1_oIsN (neg := true) (tB_of h))⟩
/-- x is not True, of a bool x -/
theorem opS_notT : OpS X (compareOp .IsNot) oNotTrue := by
  refine ⟨fun d e r hr => ?_, fun d e x => ?_⟩
  · cases e with
    | bool k =>
      cases k with
      | true =>
        cases d with
        | bool i =>
          cases hr
          refine ⟨_, op_isnot_bl, fun m1 m2 v u G H Q s w1 w2 q => ⟨i, true, w1.bl, w2.bl, ?_⟩⟩
          have e : (!decide (i = true)) = !i := by cases i <;> rfl
          rw [e]
          exact q _ G H (Grow.self s) (.inl (.bl _))
        | none => cases hr
        | int i => cases hr
        | str x => cases hr
        | list xs => cases hr
        | tuple xs => cases hr
        | dict xs => cases hr
      | false => cases hr
    | none => cases hr
    | int i => cases hr
    | str x => cases hr
    | list xs => cases hr
    | tuple xs => cases hr
    | dict xs => cases hr
  · intro z
    unfold oNotTrue at z
    split at z
    · cases d <;> cases z
    · cases z

/-! ### chains -/
theorem chain_of {op op' : CmpOp} {o1 o2 : D → D → Res D} (S1 : OpS X (compareOp op) o1) (S2 : OpS X (compareOp op') o2) {σ : L2.St} {H : Hp} {Q : VK} (h : tD ek X.K W O true (xChain o1 o2 f g h') σ H Q) :
    ∃ r r' : R2, OpR X (compareOp op) r ∧ OpR X (compareOp op') r' ∧ tChain r r' (tD ek X.K W O m1 f) (tD ek X.K W O m2 g) (tD ek X.K W O m3 h') σ H Q := by
  obtain ⟨G, δ, A, q⟩ := h
  have pickQ : ∀ Q1 : VK, ∃ r1 : R2, OpR X (compareOp op) r1 ∧ ∀ (d e : D) (m1 m2 : Bool) (v u : V) (G : GS) (H : Hp), f δ = .ok d → g δ = .ok e → Same G.F H → Vw m1 X.K G H v d → Vw m2 X.K G H u e → Fin ek W σ (PD true X.K Q1) G H (o1 d e) → r1 v u H Q1 :=
    fun Q1 => S1.pick (ek := ek) (W := W) σ (f δ) (g δ) Q1
  obtain ⟨r2, k3, k4⟩ := S2.pick (ek := ek) (W := W) σ (g δ) (h' δ) Q
  -- the first operator's rule does not hang on what is wanted
  cases hf : f δ with
  | ok d =>
    cases hg : g δ with
    | ok e =>
      cases hr : o1 d e with
      | ok r =>
        obtain ⟨r1, k1, k2⟩ := S1.ok d e r hr
        refine ⟨r1, r2, k1, k3, ?_⟩
        have q0 : Fin ek W σ (PD true X.K Q) G H ((f δ).bind fun a => (g δ).bind fun b => (o1 a b).bind fun z => match z with
          | .bool c => if c = true then (h' δ).bind fun e => o2 b e else .ok (.bool false)
          | _ => .er) := q
        refine tD_bind A mono_PD q0 fun d' v G1 H1 hd g1 A1 w1 q1 => tD_bind A1 mono_PD q1 fun e' u G2 H2 he g2 A2 w2 q2 => ?_
        rw [hf] at hd
        rw [hg] at he
        cases hd
        cases he
        rw [hr] at q2
        refine k2 m1 m2 v u G2 H2 _ A2.sf (w1.grow g2) w2 fun z G3 H3 g3 w3 => ?_
        have q3 := q2
        cases r with
        | bool k =>
          refine ⟨k, w3.bl, ?_⟩
          cases k with
          | true =>
            rw [if_pos rfl]
            have q4 : Fin ek W σ (PD true X.K Q) G2 H2 ((h' δ).bind fun e' => o2 e e') := q3
            refine tD_bind (A2.grow g3) mono_PD (q4.mono mono_PD g3) fun e3 u3 G4 H4 he3 g4 A4 w4 q5 => ?_
            exact k4 e e3 m2 m3 u u3 G4 H4 hg he3 A4.sf ((w2.grow g3).grow g4) w4 q5
          | false =>
            rw [if_neg Bool.false_ne_true]
            exact (show PD true X.K Q (.bool false) G2 H2 from q3) _ G3 H3 g3 (.inl (.bl _))
        | none => exact q3.elim
        | int i => exact q3.elim
        | str x => exact q3.elim
        | list xs => exact q3.elim
        | tuple xs => exact q3.elim
        | dict xs => exact q3.elim
      | ex x => exact absurd hr (S1.nx d e x)
      | er =>
        exfalso
        have q0 := q
        unfold xChain at q0
        rw [hf, Res.bind_ok, hg, Res.bind_ok, hr] at q0
        exact q0
    | ex x =>
      refine ⟨_, _, opr_never, k3, ⟨G, δ, A, ?_⟩⟩
      unfold xChain at q
      rw [hf, Res.bind_ok, hg] at q
      rw [hf]
      exact fun v G1 H1 g1 w1 => ⟨G1, δ, A.grow g1, by rw [hg]; exact fun c a G' H' g' k => q c a G' H' (g1.trans g') k⟩
    | er =>
      exfalso
      unfold xChain at q
      rw [hf, Res.bind_ok, hg] at q
      exact q
  | ex x =>
    refine ⟨_, _, opr_never, k3, ⟨G, δ, A, ?_⟩⟩
    unfold xChain at q
    rw [hf] at q
    rw [hf]
    exact q
  | er =>
    exfalso
    unfold xChain at q
    rw [hf] at q
    exact q
theorem de_chain {op op' : CmpOp} {o1 o2 : D → D → Res D} (S1 : OpS X (compareOp op) o1) (S2 : OpS X (compareOp op') o2) (ha : PE X a (tD ek X.K W O m1 f)) (hb : PE X b (tD ek X.K W O m2 g)) (hc : PE X c (tD ek X.K W O m3 h'))
    (hm : lastMarks [op, op'] [b, c] = false := by with_unfolding_all rfl) : PE X (.Compare a [op, op'] [b, c] pos) (tD ek X.K W O true (xChain o1 o2 f g h')) := by
  refine ⟨fun pins s σ H Q I h => ?_⟩
  obtain ⟨r, r', k1, k2, k3⟩ := chain_of (m1 := m1) (m2 := m2) (m3 := m3) S1 S2 h
  exact (pe_chain k1 k2 ha hb hc hm).run pins s σ H Q I k3
theorem dt_chain {op op' : CmpOp} {o1 o2 : D → D → Res D} (S1 : OpS X (compareOp op) o1) (S2 : OpS X (compareOp op') o2) (ha : PE X a (tD ek X.K W O m1 f)) (hb : PE X b (tD ek X.K W O m2 g)) (hc : PE X c (tD ek X.K W O m3 h'))
    (hm : lastMarks [op, op'] [b, c] = false := by with_unfolding_all rfl) : PT X (.Compare a [op, op'] [b, c] pos) (tT ek X.K W O (Dt.tB (xChain o1 o2 f g h'))) := by
  refine ⟨fun pins s σ H Q I h => ?_⟩
  obtain ⟨r, r', k1, k2, k3⟩ := chain_of (m1 := m1) (m2 := m2) (m3 := m3) S1 S2 (tB_of h)
  exact (pt_chain k1 k2 ha hb hc hm).run pins s σ H Q I k3

/-! ### subscripts -/
theorem getI_atI {α : Type} {xs : List α} {i : Int} {v : α} (h : getI xs i = some v) : atI xs i = some v := by
  unfold getI at h
  unfold atI ixN
  split at h
  · rename_i h0
    split at h
    · rename_i h1
      rw [if_pos h0, if_pos h1]
      exact h
    · cases h
  · rename_i h0
    rw [if_neg h0]
    split at h
    · rename_i h1
      rw [if_pos h1]
      exact h
    · cases h
theorem getI_get {α : Type} {xs : List α} {i : Int} {v : α} (h : getI xs i = some v) : ∃ j : Nat, (∀ {β : Type} (ys : List β), ys.length = xs.length → getI ys i = ys[j]?) ∧ xs[j]? = some v := by
  unfold getI at h
  split at h
  · rename_i h0
    split at h
    · rename_i h1
      exact ⟨i.toNat, fun ys e => by unfold getI; rw [if_pos h0, if_pos (by rw [e]; exact h1)], h⟩
    · cases h
  · rename_i h0
    split at h
    · rename_i h1
      exact ⟨(i + xs.length).toNat, fun ys e => by unfold getI; rw [if_neg h0, if_pos (by rw [e]; exact h1), e], h⟩
    · cases h
theorem dps_getI {K : PySem.W.Frag} {H : Hp} {ds : List D} {vs : List V} {i : Int} {d : D} (h : DpAll K H vs ds) (e : getI ds i = some d) : ∃ v, atI vs i = some v ∧ Dp K H v d := by
  obtain ⟨j, h1, h2⟩ := getI_get e
  obtain ⟨v, h3, h4⟩ := dps_get h h2
  exact ⟨v, getI_atI ((h1 vs (dps_len h)).trans h3), h4⟩
theorem de_ix (ha : PE X a (tD ek X.K W O m1 f)) (hb : PE X b (tD ek X.K W O m2 g)) (hs : PlainIx b := by exact fun _ _ => rfl) : PE X (.Subscript a b pos) (tD ek X.K W O true (x2 oIx f g)) := by
  refine ⟨fun pins s σ H Q I ⟨G, δ, A, q⟩ => ?_⟩
  have key : ∃ r2 : R2, IxR X r2 ∧ ∀ (d e : D) (v u : V) (G : GS) (H : Hp), f δ = .ok d → g δ = .ok e → Same G.F H → Vw m1 X.K G H v d → Vw m2 X.K G H u e → Fin ek W σ (PD true X.K Q) G H (oIx d e) → r2 v u H Q := by
    have nev : IxR X (fun _ _ _ _ => False) := fun _ _ _ _ _ _ _ _ _ _ _ _ _ _ h => h.elim
    have none : (∀ (d e : D) (G : GS) (H : Hp), f δ = .ok d → g δ = .ok e → Fin ek W σ (PD true X.K Q) G H (oIx d e) → False) →
        ∃ r2 : R2, IxR X r2 ∧ ∀ (d e : D) (v u : V) (G : GS) (H : Hp), f δ = .ok d → g δ = .ok e → Same G.F H → Vw m1 X.K G H v d → Vw m2 X.K G H u e → Fin ek W σ (PD true X.K Q) G H (oIx d e) → r2 v u H Q :=
      fun z => ⟨_, nev, fun d e v u G H e1 e2 _ _ _ h => z d e G H e1 e2 h⟩
    cases hf : f δ with
    | ok d =>
      cases d with
      | list xs =>
        refine ⟨_, ix_list, fun d e v u G H e1 e2 s w1 w2 h => ?_⟩
        cases e1
        cases e with
        | int i =>
          simp only [oIx] at h
          cases hi : getI xs i with
          | some y =>
            rw [hi] at h
            obtain ⟨l, vs, rfl, h1, k1⟩ := w1.lst s
            obtain ⟨z, h2, h3⟩ := dps_getI k1 hi
            exact ⟨l, vs, i, z, rfl, w2.int, h1, h2, h z G H (Grow.self s) (.inl h3)⟩
          | none =>
            rw [hi] at h
            exact h.elim
        | none => exact h.elim
        | bool i => exact h.elim
        | str x => exact h.elim
        | list xs => exact h.elim
        | tuple xs => exact h.elim
        | dict xs => exact h.elim
      | tuple xs =>
        refine ⟨_, ix_tup, fun d e v u G H e1 e2 s w1 w2 h => ?_⟩
        cases e1
        cases e with
        | int i =>
          simp only [oIx] at h
          cases hi : getI xs i with
          | some y =>
            rw [hi] at h
            obtain ⟨l, vs, rfl, h1, k1⟩ := w1.tup
            obtain ⟨z, h2, h3⟩ := dps_getI k1 hi
            exact ⟨l, vs, i, z, rfl, w2.int, seqT_same s h1, h2, h z G H (Grow.self s) (.inl h3)⟩
          | none =>
            rw [hi] at h
            exact h.elim
        | none => exact h.elim
        | bool i => exact h.elim
        | str x => exact h.elim
        | list xs => exact h.elim
        | tuple xs => exact h.elim
        | dict xs => exact h.elim
      | none => exact ⟨_, nev, fun d e v u G H e1 e2 _ _ _ h => by cases e1; exact h⟩
      | bool i => exact ⟨_, nev, fun d e v u G H e1 e2 _ _ _ h => by cases e1; exact h⟩
      | int i => exact ⟨_, nev, fun d e v u G H e1 e2 _ _ _ h => by cases e1; exact h⟩
      | str x => exact ⟨_, nev, fun d e v u G H e1 e2 _ _ _ h => by cases e1; exact h⟩
      | dict xs => exact ⟨_, nev, fun d e v u G H e1 e2 _ _ _ h => by cases e1; exact h⟩
    | ex x => exact ⟨_, nev, fun d e v u G H e1 e2 => nomatch e1⟩
    | er => exact ⟨_, nev, fun d e v u G H e1 e2 => nomatch e1⟩
  obtain ⟨r2, k1, k2⟩ := key
  refine (pe_ix k1 ha hb hs).run pins s σ H Q I (tD_bind A mono_PD q fun d v G1 H1 hd g1 A1 w1 q1 => tD_bind A1 mono_PD q1 fun e u G2 H2 he g2 A2 w2 q2 => ?_)
  exact k2 d e v u G2 H2 hd he A2.sf (w1.grow g2) w2 q2
/-! slices of lists -/
theorem cix_sIx (n d : Nat) (o : Option Int) : cIx n d o = HT.sIx n d o := by
  cases o with
  | none => rfl
  | some i =>
    show (if i < 0 then (max (i + (n : Int)) 0).toNat else (min i (n : Int)).toNat) = if i < 0 then (i + (n : Int)).toNat else min i.toNat n
    split <;> omega
theorem cutL_cutV (vs : List V) (lo hi : Option Int) : cutL vs lo hi = cutV vs lo hi := by
  unfold cutL cutV
  rw [cix_sIx, cix_sIx]
theorem dps_cut {K : PySem.W.Frag} {H : Hp} {ds : List D} {vs : List V} (h : DpAll K H vs ds) (lo hi : Option Int) : DpAll K H (cutL vs lo hi) (cutL ds lo hi) := by
  unfold cutL
  rw [dps_len h]
  exact dps_take _ (dps_drop _ h)
theorem dp_no : PO X none (tP ek X.K W O pNo) :=
  ⟨fun pins s σ H Q I ⟨G, δ, A, q⟩ => po_none.run pins s σ H Q I ((show PB Q none G H from q) G H (Grow.self A.sf))⟩
theorem dp_at (h : PE X a (tD ek X.K W O m f)) : PO X (some a) (tP ek X.K W O (pAt f)) := by
  refine ⟨fun pins s σ H Q I ⟨G, δ, A, q⟩ => (po_some h).run pins s σ H Q I ?_⟩
  refine tD_bind A mono_PB q fun d v G1 H1 hd g1 A1 w1 q1 => ?_
  cases d with
  | int i => exact ⟨i, w1.int, (show PB Q (some i) G1 H1 from q1) G1 H1 (Grow.self A1.sf)⟩
  | none => exact q1.elim
  | bool i => exact q1.elim
  | str x => exact q1.elim
  | list xs => exact q1.elim
  | tuple xs => exact q1.elim
  | dict xs => exact q1.elim
end
end Wk
end

section
set_option Elab.async false
set_option linter.all false
set_option autoImplicit false
set_option maxRecDepth 100000
set_option maxHeartbeats 4000000
/-! WkD: argument lists, built-ins, displays, slices, calls of defs. -/
namespace Wk
open PySem PySem.Spec PyProof.Rows L2 Dt

theorem VwAll.one {m : Bool} {K : PySem.W.Frag} {G : GS} {H : Hp} {vs : List V} {d : D} (h : VwAll m K G H vs [d]) : ∃ v, vs = [v] ∧ Vw m K G H v d := by
  cases h with
  | cons h1 h2 =>
    cases h2
    exact ⟨_, rfl, h1⟩
theorem VwAll.two {m : Bool} {K : PySem.W.Frag} {G : GS} {H : Hp} {vs : List V} {d e : D} (h : VwAll m K G H vs [d, e]) : ∃ v u, vs = [v, u] ∧ Vw m K G H v d ∧ Vw m K G H u e := by
  cases h with
  | cons h1 h2 =>
    obtain ⟨u, rfl, h3⟩ := h2.one
    exact ⟨_, _, rfl, h1, h3⟩
theorem VwAll.three {m : Bool} {K : PySem.W.Frag} {G : GS} {H : Hp} {vs : List V} {d e f : D} (h : VwAll m K G H vs [d, e, f]) : ∃ v u w, vs = [v, u, w] ∧ Vw m K G H v d ∧ Vw m K G H u e ∧ Vw m K G H w f := by
  cases h with
  | cons h1 h2 =>
    obtain ⟨u, w, rfl, h3, h4⟩ := h2.two
    exact ⟨_, _, _, rfl, h1, h3, h4⟩
theorem VwAll.len {m : Bool} {K : PySem.W.Frag} {G : GS} {H : Hp} : ∀ {ds : List D} {vs : List V}, VwAll m K G H vs ds → vs.length = ds.length
  | [], _, h => by cases h; rfl
  | d :: ds, _, h => by
    cases h with
    | cons h1 h2 => simp [VwAll.len h2]
mutual
theorem dp_nodict {K : PySem.W.Frag} {H : Hp} : ∀ (d : D) {v : V}, Dp K H v d → d.hasDict = false
  | .none, _, h => by simp [PyData.hasDict]
  | .bool b, _, h => by simp [PyData.hasDict]
  | .int i, _, h => by simp [PyData.hasDict]
  | .str x, _, h => by simp [PyData.hasDict]
  | .list ds, _, h => by
    cases h with
    | lst hs ha => simpa [PyData.hasDict] using dps_nodict ds ha
  | .tuple ds, _, h => by
    cases h with
    | tup hs ha => simpa [PyData.hasDict] using dps_nodict ds ha
  | .dict _, _, h => by cases h
theorem dps_nodict {K : PySem.W.Frag} {H : Hp} : ∀ (ds : List D) {vs : List V}, DpAll K H vs ds → PyData.hasDictAll ds = false
  | [], _, h => by simp [PyData.hasDictAll]
  | d :: ds, _, h => by
    cases h with
    | cons h1 h2 => simp [PyData.hasDictAll, dp_nodict d h1, dps_nodict ds h2]
end
section
variable {X : Cx} {ek : EK} {W : WX} {O : List Nat} {m m1 m2 m3 : Bool} {e : Expr} {es : List Expr} {f g : Fx} {r : Ax} {pos : Pos}

/-! ### argument lists -/
theorem da_nil : PA X [] (tAs ek X.K W O m aNil) :=
  ⟨fun pos pins s σ H Q I ⟨G, δ, A, q⟩ => pa_nil.run pos pins s σ H Q I ((show PAs m X.K Q [] G H from q) [] G H (Grow.self A.sf) .nil)⟩
theorem da_cons (he : PE X e (tD ek X.K W O m f)) (hr : PA X es (tAs ek X.K W O m r)) (hs : starEach (e :: es) X.env = (false, eval e X.env) :: starEach es X.env := by rfl) : PA X (e :: es) (tAs ek X.K W O m (aCons f r)) := by
  refine ⟨fun pos pins s σ H Q I ⟨G, δ, A, q⟩ => (pa_cons he hr hs).run pos pins s σ H Q I ?_⟩
  refine tD_bind A mono_PAs q fun d v G1 H1 hd g1 A1 w1 q1 => tAs_bind A1 mono_PAs q1 fun ds vs G2 H2 hds g2 A2 w2 q2 => ?_
  exact (show PAs m X.K Q (d :: ds) G2 H2 from q2) (v :: vs) G2 H2 (Grow.self A2.sf) (.cons (w1.grow g2) w2)

/-! ### built-ins -/
structure CallS (X : Cx) (P : VK → D → GS → Hp → Prop) (fv : Value) (opD : List D → Res D) : Prop where
  ok : ∀ ds z, opD ds = .ok z → ∃ R, CallR X fv R ∧ ∀ (m : Bool) (vs : List V) (G : GS) (H : Hp) (Q : VK), Same G.F H → VwAll m X.K G H vs ds → P Q z G H → R vs H Q
  nx : ∀ ds x, opD ds ≠ .ex x
theorem callr_never {fv : Value} : CallR X fv (fun _ _ _ => False) := fun _ _ _ _ _ _ _ _ _ h => h.elim
theorem call_of {P : VK → D → GS → Hp → Prop} (hP : ∀ Q, Mono (P Q)) {fv : Value} {opD : List D → Res D} (S : CallS X P fv opD) {σ : L2.St} {H : Hp} {Q : VK} {G : GS} {δ : Ev} (A : Abs X.K G σ H δ O)
    (q : Fin ek W σ (P Q) G H (xN opD r δ)) : ∃ R, CallR X fv R ∧ tCB R (tAs ek X.K W O m r) σ H Q := by
  cases hr : r δ with
  | ok ds =>
    cases ho : opD ds with
    | ok z =>
      obtain ⟨R, k1, k2⟩ := S.ok ds z ho
      refine ⟨R, k1, ?_⟩
      refine tAs_bind (k := opD) A (hP Q) q fun ds' vs G1 H1 hd g1 A1 w1 q1 => ?_
      rw [hr] at hd
      cases hd
      rw [ho] at q1
      exact k2 m vs G1 H1 Q A1.sf w1 q1
    | ex x => exact absurd ho (S.nx ds x)
    | er =>
      unfold xN at q
      rw [hr, Res.bind_ok, ho] at q
      exact q.elim
  | ex x =>
    unfold xN at q
    rw [hr] at q
    exact ⟨_, callr_never, G, δ, A, by rw [hr]; exact q⟩
  | er =>
    unfold xN at q
    rw [hr] at q
    exact q.elim
theorem de_callB {id : String} {x : Str} {p : Pos} {opD : List D → Res D} (S : CallS X (PD true X.K) (.builtin id) opD) (hm : X.mg x = none) (hv : bootBuiltins x = some (.builtin id)) (ha : PA X (e :: es) (tAs ek X.K W O m r)) (hg : Gl X x := by rfl)
    (hn : x ≠ "__name__" := by decide) (hdb : (x == ("__debug__" : Str)) = false := by decide) (he : starEach (e :: es) X.env = (false, eval e X.env) :: starEach es X.env := by rfl) (hpl : (backTo pos (starEach es X.env)).any (·.1) = false := by rfl) :
    PE X (.Call (.Name x p) (e :: es) [] pos) (tD ek X.K W O true (xN opD r)) := by
  refine ⟨fun pins s σ H Q I ⟨G, δ, A, q⟩ => ?_⟩
  obtain ⟨R, k1, k2⟩ := call_of (m := m) (fun _ => mono_PD) S A q
  exact (pe_callB k1 hg hm hv ha hn hdb he hpl).run pins s σ H Q I k2
theorem de_callTy {id : String} {x : Str} {p : Pos} {opD : List D → Res D} (S : CallS X (PD true X.K) (.type id) opD) (hm : X.mg x = none) (hv : bootBuiltins x = some (.type id)) (ha : PA X (e :: es) (tAs ek X.K W O m r)) (hg : Gl X x := by rfl)
    (hn : x ≠ "__name__" := by decide) (hdb : (x == ("__debug__" : Str)) = false := by decide) (he : starEach (e :: es) X.env = (false, eval e X.env) :: starEach es X.env := by rfl) (hpl : (backTo pos (starEach es X.env)).any (·.1) = false := by rfl) :
    PE X (.Call (.Name x p) (e :: es) [] pos) (tD ek X.K W O true (xN opD r)) := by
  refine ⟨fun pins s σ H Q I ⟨G, δ, A, q⟩ => ?_⟩
  obtain ⟨R, k1, k2⟩ := call_of (m := m) (fun _ => mono_PD) S A q
  exact (pe_callTy k1 hg hm hv ha hn hdb he hpl).run pins s σ H Q I k2
theorem dn_callTy {id : String} {x : Str} {p : Pos} {opD : List D → Res D} (S : CallS X (PN X.K) (.type id) opD) (hm : X.mg x = none) (hv : bootBuiltins x = some (.type id)) (ha : PA X (e :: es) (tAs ek X.K W O m r)) (hg : Gl X x := by rfl)
    (hn : x ≠ "__name__" := by decide) (hdb : (x == ("__debug__" : Str)) = false := by decide) (he : starEach (e :: es) X.env = (false, eval e X.env) :: starEach es X.env := by rfl) (hpl : (backTo pos (starEach es X.env)).any (·.1) = false := by rfl) :
    PE X (.Call (.Name x p) (e :: es) [] pos) (tN ek X.K W O (xN opD r)) := by
  refine ⟨fun pins s σ H Q I ⟨G, δ, A, q⟩ => ?_⟩
  obtain ⟨R, k1, k2⟩ := call_of (m := m) (fun _ => mono_PN) S A q
  exact (pe_callTy k1 hg hm hv ha hn hdb he hpl).run pins s σ H Q I k2
/-- a fresh list of what stands still -/
theorem PN.list {K : PySem.W.Frag} {G : GS} {H : Hp} {Q : VK} {vs : List V} {ds : List D} (q : PN K Q (.list ds) G H) (s : Same G.F H) (hd : DpAll K G.F vs ds) :
    ∀ p, H p = none → Q (.ref p) (upd H p (.lst vs)) := fun p hp =>
  q p vs ds G _ rfl (Grow.fresh s hp) upd_same hp (s.free hp) hd
theorem cS_len : CallS X (PD true X.K) (.builtin "len") bLen := by
  refine ⟨fun ds z hz => ?_, fun ds x h => ?_⟩
  · match ds, hz with
    | [d], hz =>
      refine ⟨_, call_len, fun m vs G H Q s w q => ?_⟩
      obtain ⟨v, rfl, w1⟩ := w.one
      have hz' : oLen d = .ok z := hz
      cases d with
      | list xs =>
        cases hz'
        obtain ⟨a, us, rfl, h1, k1⟩ := w1.lst s
        exact ⟨_, us.length, rfl, .inl ⟨us, h1, rfl⟩, by rw [dps_len k1]; exact q _ G H (Grow.self s) (.inl (.int _))⟩
      | tuple xs =>
        cases hz'
        obtain ⟨a, us, rfl, h1, k1⟩ := w1.tup
        exact ⟨_, us.length, rfl, .inr ⟨us, seqT_same s h1, rfl⟩, by rw [dps_len k1]; exact q _ G H (Grow.self s) (.inl (.int _))⟩
      | str x =>
        simp only [oLen] at hz'
        split at hz'
        · rename_i hl
          cases hz'
          have ev := w1.str
          subst ev
          exact ⟨_, x.length, rfl, ⟨sl_le hl, rfl⟩, q _ G H (Grow.self s) (.inl (.int _))⟩
        · cases hz'
      | none => cases hz'
      | bool i => cases hz'
      | int i => cases hz'
      | dict xs => cases hz'
  · match ds, h with
    | [d], h =>
      have h2 : oLen d = .ex x := h
      cases d <;> (simp only [oLen] at h2; first | (cases h2; done) | (split at h2 <;> cases h2))
theorem cS_abs : CallS X (PD true X.K) (.builtin "abs") bAbs := by
  refine ⟨fun ds z hz => ?_, fun ds x h => ?_⟩
  · unfold bAbs at hz
    split at hz
    · cases hz
      refine ⟨_, call_abs, fun m vs G H Q s w q => ?_⟩
      obtain ⟨v, rfl, w1⟩ := w.one
      exact ⟨_, by rw [w1.int], q _ G H (Grow.self s) (.inl (.int _))⟩
    · cases hz
  · unfold bAbs at h
    split at h <;> cases h
theorem cS_max (hc : X.calm = true) : CallS X (PD true X.K) (.builtin "max") bMax := by
  refine ⟨fun ds z hz => ?_, fun ds x h => ?_⟩
  · unfold bMax at hz
    split at hz
    · cases hz
      refine ⟨_, call_max2 hc, fun m vs G H Q s w q => ?_⟩
      obtain ⟨v, u, rfl, w1, w2⟩ := w.two
      exact ⟨_, _, by rw [w1.int, w2.int], q _ G H (Grow.self s) (.inl (.int _))⟩
    · cases hz
  · unfold bMax at h
    split at h <;> cases h
theorem cS_min (hc : X.calm = true) : CallS X (PD true X.K) (.builtin "min") bMin := by
  refine ⟨fun ds z hz => ?_, fun ds x h => ?_⟩
  · unfold bMin at hz
    split at hz
    · cases hz
      refine ⟨_, call_min2 hc, fun m vs G H Q s w q => ?_⟩
      obtain ⟨v, u, rfl, w1, w2⟩ := w.two
      exact ⟨_, _, by rw [w1.int, w2.int], q _ G H (Grow.self s) (.inl (.int _))⟩
    · cases hz
  · unfold bMin at h
    split at h <;> cases h
theorem cS_int : CallS X (PD true X.K) (.type "int") bInt := by
  refine ⟨fun ds z hz => ?_, fun ds x h => ?_⟩
  · unfold bInt at hz
    split at hz
    · cases hz
      refine ⟨_, call_int1, fun m vs G H Q s w q => ?_⟩
      obtain ⟨v, rfl, w1⟩ := w.one
      exact .inl ⟨_, by rw [w1.int], q _ G H (Grow.self s) (.inl (.int _))⟩
    · cases hz
      refine ⟨_, call_int1, fun m vs G H Q s w q => ?_⟩
      obtain ⟨v, rfl, w1⟩ := w.one
      exact .inr ⟨_, by rw [w1.bl], q _ G H (Grow.self s) (.inl (.int _))⟩
    · cases hz
  · unfold bInt at h
    split at h <;> cases h
theorem cS_list : CallS X (PN X.K) (.type "list") bList := by
  refine ⟨fun ds z hz => ?_, fun ds x h => ?_⟩
  · unfold bList at hz
    split at hz
    · cases hz
      refine ⟨_, call_list_of, fun m vs G H Q s w q => ?_⟩
      obtain ⟨v, rfl, w1⟩ := w.one
      obtain ⟨a, us, rfl, h1, k1⟩ := w1.lst s
      exact ⟨a, us, rfl, .inl h1, PN.list q s k1⟩
    · cases hz
      refine ⟨_, call_list_of, fun m vs G H Q s w q => ?_⟩
      obtain ⟨v, rfl, w1⟩ := w.one
      obtain ⟨a, us, rfl, h1, k1⟩ := w1.tup
      exact ⟨a, us, rfl, .inr (seqT_same s h1), PN.list q s k1⟩
    · cases hz
  · unfold bList at h
    split at h <;> cases h
theorem cS_tuple : CallS X (PD true X.K) (.type "tuple") bTuple := by
  refine ⟨fun ds z hz => ?_, fun ds x h => ?_⟩
  · unfold bTuple at hz
    split at hz
    · cases hz
      refine ⟨_, call_tuple_of, fun m vs G H Q s w q => ?_⟩
      obtain ⟨v, rfl, w1⟩ := w.one
      obtain ⟨a, us, rfl, h1, k1⟩ := w1.lst s
      exact ⟨a, us, rfl, .inl ⟨h1, PD.tuple q s k1⟩⟩
    · cases hz
      refine ⟨_, call_tuple_of, fun m vs G H Q s w q => ?_⟩
      obtain ⟨v, rfl, w1⟩ := w.one
      obtain ⟨a, us, rfl, h1, k1⟩ := w1.tup
      exact ⟨a, us, rfl, .inr ⟨seqT_same s h1, q _ G H (Grow.self s) (.inl (.tup h1 k1))⟩⟩
    · cases hz
  · unfold bTuple at h
    split at h <;> cases h
/-- repr of data -/
theorem call_reprD (hg : X.A.guards = some []) (hu : X.A.units + 200 < cLine) :
    CallR X (.builtin "repr") (fun xs H Q => ∃ x d, xs = [x] ∧ Dp X.K H x d ∧ d.showable = true ∧ d.depth ≤ 64 ∧ d.shown.length ≤ sizeLine ∧ Q (.str d.shown) H) := by
  intro pins s σ H xs us Q I r ⟨x, d, e, hd, hs, hdp, hz, q⟩
  subst e
  obtain ⟨u, rfl, rx⟩ := vals1 r
  cases d with
  | none =>
    cases hd
    cases rx
    exact PySem.P.repr_of_none ⟨.str _, H, I.tok _, ⟨_, rfl⟩, by simpa [PyData.shown] using q⟩
  | bool b =>
    cases hd
    cases rx
    exact PySem.P.repr_of_bool ⟨.str _, H, I.tok _, ⟨_, rfl⟩, by simpa [PyData.shown] using q⟩
  | int i =>
    cases hd
    obtain ⟨t, rfl⟩ := rx
    exact PySem.P.repr_of_int (by simpa [PyData.showable] using hs) ⟨.str _, H, I.tok _, ⟨_, rfl⟩, by simpa [PyData.shown] using q⟩
  | str x =>
    cases hd
    obtain ⟨t, rfl⟩ := rx
    exact PySem.P.repr_of_str ⟨.str _, H, I.tok _, ⟨_, rfl⟩, by simpa [PyData.shown] using q⟩ (by simpa [PyData.shown] using hz)
  | list ds =>
    have hn := dp_nodict _ hd
    obtain ⟨as, rd⟩ := Dp.reads I _ _ _ hd rx
    cases hd with
    | lst h1 h2 =>
      cases rx
      exact repr_of_reads' rd hs (fun z => by rw [hn] at z; cases z) hg (by omega) (fun _ _ e => e) (fun h' u tk hk => ⟨.str _, H, I.kept hk, ⟨_, rfl⟩, q⟩) hz
  | tuple ds =>
    have hn := dp_nodict _ hd
    obtain ⟨as, rd⟩ := Dp.reads I _ _ _ hd rx
    cases hd with
    | tup h1 h2 =>
      cases rx
      exact repr_of_reads' rd hs (fun z => by rw [hn] at z; cases z) hg (by omega) (fun _ _ e => e) (fun h' u tk hk => ⟨.str _, H, I.kept hk, ⟨_, rfl⟩, q⟩) hz
  | dict kvs => cases hd
theorem cS_repr (hg : X.A.guards = some []) (hu : X.A.units + 200 < cLine) : CallS X (PD true X.K) (.builtin "repr") bRepr := by
  refine ⟨fun ds z hz => ?_, fun ds x h => ?_⟩
  · unfold bRepr at hz
    split at hz
    · rename_i d
      split at hz
      · rename_i hh
        simp only [Bool.and_eq_true, decide_eq_true_eq] at hh
        cases hz
        refine ⟨_, call_reprD hg hu, fun m vs G H Q s w q => ?_⟩
        obtain ⟨v, rfl, w1⟩ := w.one
        exact ⟨v, d, rfl, w1.seen s, hh.1.1, hh.1.2, sl_le hh.2, q _ G H (Grow.self s) (.inl (.str _))⟩
      · cases hz
    · cases hz
  · unfold bRepr at h
    split at h
    · split at h <;> cases h
    · cases h

/-! ### displays, slices, sums of lists -/
theorem dn_disp (h : PA X es (tAs ek X.K W O true r)) : PE X (.List es pos) (tN ek X.K W O (xN dList r)) := by
  refine ⟨fun pins s σ H Q I ⟨G, δ, A, q⟩ => (pe_lst h).run pins s σ H Q I ?_⟩
  refine tAs_bind (k := dList) A mono_PN q fun ds vs G1 H1 hd g1 A1 w1 q1 => ?_
  unfold dList at q1
  split at q1
  · rename_i hl
    exact ⟨by rw [w1.len]; exact sl_le hl, PN.list (show PN X.K Q (.list ds) G1 H1 from q1) A1.sf w1.still⟩
  · exact q1.elim
theorem de_tup {k : Nat} (h : PA X es (tAs ek X.K W O true r)) : PE X (.Tuple es k pos) (tD ek X.K W O true (xN dTuple r)) := by
  refine ⟨fun pins s σ H Q I ⟨G, δ, A, q⟩ => (pe_tup h).run pins s σ H Q I ?_⟩
  refine tAs_bind (k := dTuple) A mono_PD q fun ds vs G1 H1 hd g1 A1 w1 q1 => ?_
  unfold dTuple at q1
  split at q1
  · rename_i hl
    exact ⟨by rw [w1.len]; exact sl_le hl, PD.tuple (show PD true X.K Q (.tuple ds) G1 H1 from q1) A1.sf w1.still⟩
  · exact q1.elim
theorem dn_cut {lo hi : Option Expr} {p2 : Pos} {pl ph : Px} (he : PE X e (tD ek X.K W O m f)) (hl : PO X lo (tP ek X.K W O pl)) (hh : PO X hi (tP ek X.K W O ph)) :
    PE X (.Subscript e (.Slice lo hi none p2) pos) (tN ek X.K W O (xCut f pl ph)) := by
  refine ⟨fun pins s σ H Q I ⟨G, δ, A, q⟩ => (pe_slice sl_list he hl hh).run pins s σ H Q I ?_⟩
  refine tD_bind A mono_PN q fun d v G1 H1 hd g1 A1 w1 q1 => tP_bind A1 mono_PN q1 fun l G2 H2 hl2 g2 A2 q2 => tP_bind A2 mono_PN q2 fun u G3 H3 hu3 g3 A3 q3 => ?_
  cases d with
  | list xs =>
    obtain ⟨a, us, rfl, h1, k1⟩ := ((w1.grow g2).grow g3).lst A3.sf
    refine ⟨a, us, rfl, h1, fun p hp => ?_⟩
    rw [← cutL_cutV]
    exact PN.list (show PN X.K Q (.list (cutL xs l u)) G3 H3 from q3) A3.sf (dps_cut k1 l u) p hp
  | none => exact q3.elim
  | bool i => exact q3.elim
  | int i => exact q3.elim
  | str x => exact q3.elim
  | tuple xs => exact q3.elim
  | dict xs => exact q3.elim
theorem dn_cat {b : Expr} (ha : PE X e (tD ek X.K W O m1 f)) (hb : PE X b (tD ek X.K W O m2 g)) : PE X (.BinOp e .Add b pos) (tN ek X.K W O (x2 oCat f g)) := by
  refine ⟨fun pins s σ H Q I ⟨G, δ, A, q⟩ => (pe_op op_catL ha hb).run pins s σ H Q I ?_⟩
  refine tD_bind A mono_PN q fun d v G1 H1 hd g1 A1 w1 q1 => tD_bind A1 mono_PN q1 fun d2 u G2 H2 he g2 A2 w2 q2 => ?_
  cases d with
  | list xs =>
    cases d2 with
    | list ys =>
      simp only [oCat, oAdd] at q2
      split at q2
      · rename_i hz
        obtain ⟨l, vs, rfl, h1, k1⟩ := (w1.grow g2).lst A2.sf
        obtain ⟨b, us, rfl, h2, k2⟩ := w2.lst A2.sf
        exact ⟨l, b, vs, us, rfl, rfl, h1, h2, by rw [dps_len k1, dps_len k2]; exact sl_le hz, PN.list (show PN X.K Q (.list (xs ++ ys)) G2 H2 from q2) A2.sf (dps_app k1 k2)⟩
      · exact q2.elim
    | none => exact q2.elim
    | bool i => exact q2.elim
    | int i => exact q2.elim
    | str x => exact q2.elim
    | tuple xs => exact q2.elim
    | dict xs => exact q2.elim
  | none => exact q2.elim
  | bool i => exact q2.elim
  | int i => exact q2.elim
  | str x => exact q2.elim
  | tuple xs => exact q2.elim
  | dict xs => exact q2.elim
end
end Wk
end

section
set_option Elab.async false
set_option linter.all false
set_option autoImplicit false
set_option maxRecDepth 100000
set_option maxHeartbeats 4000000
/-! WkE: what is walked, targets, comprehensions, calls of defs. -/
namespace Wk
open PySem PySem.Spec PyProof.Rows L2 Dt

/-! ### walks -/
/-- J gives the items xs, one by one, over the region F, while Hs holds of the heap -/
def DWalk (K : PySem.W.Frag) (J : It) (F : Hp) (Hs : Hp → Prop) (xs : List D) : Prop :=
  ∃ (Gp : Hp → Prop) (Y : Nat → Hp → V → Hp → Prop), Walk J xs.length Gp Y ∧ (∀ H, Same F H → Hs H → Gp H) ∧
    ∀ i d H x H', xs[i]? = some d → Same F H → Hs H → Y i H x H' → (H' = H ∧ Dp K F x d) ∨ ∃ T o, H T = none ∧ H' = upd H T o ∧ Dp K (upd F T o) x d
def PIt (m : Bool) (K : PySem.W.Frag) (R : It → Hp → Prop) : List D → GS → Hp → Prop := fun xs G H =>
  ∀ J G' H' (Hs : Hp → Prop), Grow G H G' H' → DWalk K J G'.F Hs xs → (m = true → ∀ H'', Hs H'') → (∀ H'', Same H' H'' → Hs H'') → R J H'
theorem mono_PIt {m : Bool} {K : PySem.W.Frag} {R : It → Hp → Prop} : Mono (PIt m K R) := fun _ _ _ _ _ g h J G' H' Hs g' => h J G' H' Hs (g.trans g')
def tI (ek : EK) (K : PySem.W.Frag) (W : WX) (O : List Nat) (m : Bool) (i : Ax) : TI := fun σ H R => ∃ G δ, Abs K G σ H δ O ∧ Fin ek W σ (PIt m K R) G H (i δ)
theorem rangeL_len (lo : Int) (n : Nat) (c : Int) : (rangeL lo n c).length = n := by simp [rangeL]
theorem rangeL_get {lo : Int} {n : Nat} {c : Int} {i : Nat} {d : D} (h : (rangeL lo n c)[i]? = some d) : d = .int (lo + (i : Int) * c) := by
  unfold rangeL at h
  rw [List.getElem?_map] at h
  cases e : (List.range n)[i]? with
  | none =>
    rw [e] at h
    cases h
  | some j =>
    have hj := List.getElem?_eq_some_iff.mp e
    obtain ⟨h1, h2⟩ := hj
    rw [List.getElem_range] at h2
    subst h2
    rw [e] at h
    exact (Option.some.inj h).symm
section
variable {X : Cx} {ek : EK} {W : WX} {O : List Nat} {m m1 m2 m3 : Bool} {e tg : Expr} {es : List Expr} {f g : Fx} {r : Ax} {pos p : Pos}
theorem dwalk_list {K : PySem.W.Frag} {F : Hp} {a : Addr} {vs : List V} {xs : List D} (hd : DpAll K F vs xs) : DWalk K (Itl K a) F (fun H => SqL K H a vs) xs := by
  refine ⟨_, _, by rw [← dps_len hd]; exact walk_list, fun H _ h => h, fun i d H x H' hi _ _ hy => ?_⟩
  obtain ⟨e1, e2⟩ := hy
  obtain ⟨v, h1, h2⟩ := dps_get hd hi
  rw [h1] at e2
  cases e2
  exact .inl ⟨e1, h2⟩
theorem dwalk_tup {K : PySem.W.Frag} {F : Hp} {a : Addr} {vs : List V} {xs : List D} (ht : SqT K F a vs) (hd : DpAll K F vs xs) : DWalk K (Itt K a) F (fun _ => True) xs := by
  refine ⟨_, _, by rw [← dps_len hd]; exact walk_tup, fun H s _ => seqT_same s ht, fun i d H x H' hi _ _ hy => ?_⟩
  obtain ⟨e1, e2⟩ := hy
  obtain ⟨v, h1, h2⟩ := dps_get hd hi
  rw [h1] at e2
  cases e2
  exact .inl ⟨e1, h2⟩
/-- over a list or a tuple that stands still, or an owned list (a comprehension's source) -/
theorem di_seq (he : PE X e (tD ek X.K W O m f)) : PI X tg e (tI ek X.K W O m (iSeq f)) := by
  refine ⟨fun pins s σ H R I ⟨G, δ, A, q⟩ => ?_⟩
  cases hf : f δ with
  | ok d =>
    cases d with
    | list xs =>
      refine (pi_list he).run pins s σ H R I (tD_bind (k := wSeq) A mono_PIt q fun d v G1 H1 hd g1 A1 w1 q1 => ?_)
      rw [hf] at hd
      cases hd
      have q2 : PIt m X.K R xs G1 H1 := q1
      rcases w1 with h | ⟨rfl, a, vs, ds, ed, rfl, h1, h2⟩
      · cases h with
        | lst hs ha =>
          refine ⟨_, rfl, ⟨_, A1.sf.seq hs⟩, q2 _ G1 H1 (fun _ => True) (Grow.self A1.sf) ?_ (fun _ _ => trivial) (fun _ _ => trivial)⟩
          obtain ⟨Gp, Y, w1, w2, w3⟩ := dwalk_list (a := by assumption) ha
          exact ⟨Gp, Y, w1, fun H s _ => w2 H s (s.seq hs), fun i d H x H' hi s _ hy => w3 i d H x H' hi s (s.seq hs) hy⟩
      · cases ed
        exact ⟨a, rfl, ⟨vs, SqL.of h1⟩, q2 _ G1 H1 _ (Grow.self A1.sf) (dwalk_list h2) (fun z => nomatch z) (fun H'' s => SqL.of (s _ _ h1))⟩
    | tuple xs =>
      refine (pi_tup he).run pins s σ H R I (tD_bind (k := wSeq) A mono_PIt q fun d v G1 H1 hd g1 A1 w1 q1 => ?_)
      rw [hf] at hd
      cases hd
      have q2 : PIt m X.K R xs G1 H1 := q1
      obtain ⟨a, vs, rfl, h1, h2⟩ := w1.tup
      exact ⟨a, rfl, ⟨vs, seqT_same A1.sf h1⟩, q2 _ G1 H1 _ (Grow.self A1.sf) (dwalk_tup h1 h2) (fun _ _ => trivial) (fun _ _ => trivial)⟩
    | none =>
      unfold iSeq at q
      rw [hf] at q
      exact q.elim
    | bool i =>
      unfold iSeq at q
      rw [hf] at q
      exact q.elim
    | int i =>
      unfold iSeq at q
      rw [hf] at q
      exact q.elim
    | str i =>
      unfold iSeq at q
      rw [hf] at q
      exact q.elim
    | dict i =>
      unfold iSeq at q
      rw [hf] at q
      exact q.elim
  | ex x =>
    refine (pi_list he).run pins s σ H R I ⟨G, δ, A, ?_⟩
    unfold iSeq at q
    rw [hf] at q ⊢
    exact q
  | er =>
    unfold iSeq at q
    rw [hf] at q
    exact q.elim
theorem b62_of {i : Int} (h : b62 i = true) : -(2 ^ 62) ≤ i ∧ i < 2 ^ 62 := by
  unfold b62 at h
  simp only [Bool.and_eq_true, decide_eq_true_eq] at h
  omega
theorem dwalk_range {K : PySem.W.Frag} {F : Hp} (lo c : Int) (n : Nat) : DWalk K (Itc lo c n) F (fun _ => True) (rangeL lo n c) := by
  refine ⟨_, _, by rw [rangeL_len]; exact walk_rangeC, fun _ _ _ => trivial, fun i d H x H' hi _ _ hy => ?_⟩
  obtain ⟨e1, e2⟩ := hy
  rw [rangeL_get hi, e2]
  exact .inl ⟨e1, .int _⟩
theorem dwalk_range1 {K : PySem.W.Frag} {F : Hp} (lo : Int) (n : Nat) : DWalk K (Itr lo n) F (fun _ => True) (rangeL lo n 1) := by
  refine ⟨_, _, by rw [rangeL_len]; exact walk_range, fun _ _ _ => trivial, fun i d H x H' hi _ _ hy => ?_⟩
  obtain ⟨e1, e2⟩ := hy
  rw [rangeL_get hi, e2, Int.mul_one]
  exact .inl ⟨e1, .int _⟩
theorem acons_ok {δ : Ev} {ds : List D} (h : aCons f r δ = .ok ds) : ∃ d ds', f δ = .ok d ∧ r δ = .ok ds' ∧ ds = d :: ds' := by
  unfold aCons at h
  cases e1 : f δ with
  | ok d =>
    rw [e1, Res.bind_ok] at h
    cases e2 : r δ with
    | ok ds' =>
      rw [e2, Res.bind_ok] at h
      cases h
      exact ⟨d, ds', rfl, rfl, rfl⟩
    | ex x =>
      rw [e2] at h
      cases h
    | er =>
      rw [e2] at h
      cases h
  | ex x =>
    rw [e1] at h
    cases h
  | er =>
    rw [e1] at h
    cases h
theorem anil_ok {δ : Ev} {ds : List D} (h : aNil δ = .ok ds) : ds = [] := by cases h; rfl
theorem di_range1 {a : Expr} (hm : X.mg "range" = none) (ha : PA X [a] (tAs ek X.K W O m1 (aCons f aNil))) (hg : Gl X "range" := by rfl) (hs : starEach [a] X.env = [(false, eval a X.env)] := by rfl) :
    PI X tg (.Call (.Name "range" p) [a] [] pos) (tI ek X.K W O true (iRange (aCons f aNil))) := by
  refine ⟨fun pins s σ H R I ⟨G, δ, A, q⟩ => (pi_range1 hg hm ha hs).run pins s σ H R I ?_⟩
  refine tAs_bind (k := wRange) A mono_PIt q fun ds vs G1 H1 hd g1 A1 w1 q1 => ?_
  obtain ⟨d, ds', _, e2, rfl⟩ := acons_ok hd
  obtain rfl := anil_ok e2
  obtain ⟨v, rfl, w2⟩ := w1.one
  cases d with
  | int j =>
    simp only [wRange] at q1
    split at q1
    · rename_i hb
      have hb' := b62_of hb
      exact ⟨j, by rw [w2.int], hb'.1, hb'.2, (show PIt true X.K R _ G1 H1 from q1) _ G1 H1 _ (Grow.self A1.sf) (dwalk_range1 0 _) (fun _ _ => trivial) (fun _ _ => trivial)⟩
    · exact q1.elim
  | none => exact q1.elim
  | bool i => exact q1.elim
  | str x => exact q1.elim
  | list xs => exact q1.elim
  | tuple xs => exact q1.elim
  | dict xs => exact q1.elim
theorem wRange2 {d e : D} {xs : List D} (h : wRange [d, e] = .ok xs) : ∃ i j, d = .int i ∧ e = .int j ∧ b62 i = true ∧ b62 j = true ∧ xs = rangeL i (j - i).toNat 1 := by
  cases d <;> cases e <;> simp only [wRange] at h <;> first | (cases h; done) | skip
  split at h
  · rename_i hb
    rw [Bool.and_eq_true] at hb
    cases h
    exact ⟨_, _, rfl, rfl, hb.1, hb.2, rfl⟩
  · cases h
theorem wRange3 {d e c : D} {xs : List D} (h : wRange [d, e, c] = .ok xs) : ∃ i j, d = .int i ∧ e = .int j ∧ c = .int (-1) ∧ b62 i = true ∧ b62 j = true ∧ xs = rangeL i (i - j).toNat (-1) := by
  cases d <;> cases e <;> cases c <;> simp only [wRange] at h <;> first | (cases h; done) | skip
  split at h
  · rename_i hb
    rw [Bool.and_eq_true, Bool.and_eq_true, decide_eq_true_eq] at hb
    obtain ⟨⟨h1, h2⟩, rfl⟩ := hb
    cases h
    exact ⟨_, _, rfl, rfl, rfl, h1, h2, rfl⟩
  · cases h
theorem wRange_nx {ds : List D} {x : Exc} : wRange ds ≠ .ex x := fun h => by
  unfold wRange at h
  split at h <;> first | (split at h <;> cases h) | cases h
theorem di_range2 {a b : Expr} {h1 : Fx} (hm : X.mg "range" = none) (ha : PA X [a, b] (tAs ek X.K W O m1 (aCons f (aCons h1 aNil)))) (hg : Gl X "range" := by rfl)
    (hs : starEach [a, b] X.env = [(false, eval a X.env), (false, eval b X.env)] := by rfl) (hs2 : starEach [b] X.env = [(false, eval b X.env)] := by rfl) :
    PI X tg (.Call (.Name "range" p) [a, b] [] pos) (tI ek X.K W O true (iRange (aCons f (aCons h1 aNil)))) := by
  refine ⟨fun pins s σ H R I ⟨G, δ, A, q⟩ => (pi_range2 hg hm ha hs hs2).run pins s σ H R I ?_⟩
  refine tAs_bind (k := wRange) A mono_PIt q fun ds vs G1 H1 hd g1 A1 w1 q1 => ?_
  obtain ⟨d, ds', _, e2, rfl⟩ := acons_ok hd
  obtain ⟨d2, ds2, _, e3, rfl⟩ := acons_ok e2
  obtain rfl := anil_ok e3
  obtain ⟨v, u, rfl, w2, w3⟩ := w1.two
  cases hw : wRange [d, d2] with
  | ok xs =>
    obtain ⟨i, j, rfl, rfl, b1, b2, rfl⟩ := wRange2 hw
    rw [hw] at q1
    exact ⟨i, j, by rw [w2.int, w3.int], ⟨(b62_of b1).1, (b62_of b1).2, (b62_of b2).1, (b62_of b2).2⟩,
      (show PIt true X.K R _ G1 H1 from q1) _ G1 H1 _ (Grow.self A1.sf) (dwalk_range1 i _) (fun _ _ => trivial) (fun _ _ => trivial)⟩
  | ex x => exact absurd hw wRange_nx
  | er =>
    rw [hw] at q1
    exact q1.elim
theorem di_range3 {a b c : Expr} {h1 h2 : Fx} (hm : X.mg "range" = none) (ha : PA X [a, b, c] (tAs ek X.K W O m1 (aCons f (aCons h1 (aCons h2 aNil))))) (hg : Gl X "range" := by rfl)
    (hs : starEach [a, b, c] X.env = (false, eval a X.env) :: starEach [b, c] X.env := by rfl) (hpl : (backTo pos (starEach [b, c] X.env)).any (·.1) = false := by rfl) :
    PI X tg (.Call (.Name "range" p) [a, b, c] [] pos) (tI ek X.K W O true (iRange (aCons f (aCons h1 (aCons h2 aNil))))) := by
  refine ⟨fun pins s σ H R I ⟨G, δ, A, q⟩ => (pi_range3 hg hm ha hs hpl).run pins s σ H R I ?_⟩
  refine tAs_bind (k := wRange) A mono_PIt q fun ds vs G1 H1 hd g1 A1 w1 q1 => ?_
  obtain ⟨d, ds', _, e2, rfl⟩ := acons_ok hd
  obtain ⟨d2, ds2, _, e3, rfl⟩ := acons_ok e2
  obtain ⟨d3, ds3, _, e4, rfl⟩ := acons_ok e3
  obtain rfl := anil_ok e4
  obtain ⟨v, u, w, rfl, w2, w3, w4⟩ := w1.three
  cases hw : wRange [d, d2, d3] with
  | ok xs =>
    obtain ⟨i, j, rfl, rfl, rfl, b1, b2, rfl⟩ := wRange3 hw
    rw [hw] at q1
    exact ⟨i, j, -1, _, by rw [w2.int, w3.int, w4.int], RgC.neg (b62_of b1).1 (b62_of b1).2 (b62_of b2).1 (b62_of b2).2,
      (show PIt true X.K R _ G1 H1 from q1) _ G1 H1 _ (Grow.self A1.sf) (dwalk_range i (-1) _) (fun _ _ => trivial) (fun _ _ => trivial)⟩
  | ex x => exact absurd hw wRange_nx
  | er =>
    rw [hw] at q1
    exact q1.elim

/-! ### targets -/
def tGd (K : PySem.W.Frag) (O l : List Nat) (gx : Gx) : TG := fun v σ H Q => ∃ G δ d δ', Abs K G σ H δ O ∧ Dp K G.F v d ∧ gx d δ = some δ' ∧
  ∀ σ', (∀ vs, (∀ i ∈ l, i ∈ vs) → wipe σ' vs = wipe σ vs) → Abs K G σ' H δ' O → Q σ' H
def tGds (K : PySem.W.Frag) (O l : List Nat) : TGs := fun vs σ H Q => ∃ G δ ds, Abs K G σ H δ O ∧ DpAll K G.F vs ds ∧ ds.length = l.length ∧
  ∀ σ', (∀ vs, (∀ i ∈ l, i ∈ vs) → wipe σ' vs = wipe σ vs) → Abs K G σ' H (putAll δ l ds) O → Q σ' H
theorem wipe_ext {σ τ : L2.St} {vs : List Nat} (hl : σ.length = τ.length) (h : ∀ i, i ∉ vs → σ[i]? = τ[i]?) : wipe σ vs = wipe τ vs := by
  have inn : ∀ (σ : L2.St) (vs : List Nat) (i : Nat), i ∈ vs → (wipe σ vs)[i]? = if i < σ.length then some none else none := by
    intro σ vs i
    induction vs with
    | nil => intro hi; cases hi
    | cons v r ih =>
      intro hi
      unfold wipe
      by_cases hv : v = i
      · subst hv
        rw [List.getElem?_set]
        simp [wipe_length]
      · rw [List.getElem?_set_ne hv]
        exact ih (by
          rcases List.mem_cons.mp hi with z | z
          · exact absurd z.symm hv
          · exact z)
  refine List.ext_getElem? fun i => ?_
  by_cases hi : i ∈ vs
  · rw [inn σ vs i hi, inn τ vs i hi, hl]
  · rw [wipe_out hi, wipe_out hi]
    exact h i hi
theorem wipe_set {σ : L2.St} {i : Nat} {x : Option V} {vs : List Nat} (h : i ∈ vs) : wipe (σ.set i x) vs = wipe σ vs :=
  wipe_ext (by simp) fun j hj => List.getElem?_set_ne (fun e => by subst e; exact hj h)
theorem abs_put {K : PySem.W.Frag} {G : GS} {σ : L2.St} {H : Hp} {δ : Ev} {i : Nat} {v : V} {d : D} (A : Abs K G σ H δ O) (hi : i ∉ O) (hd : Dp K G.F v d) : Abs K G (σ.set i (some v)) H (put δ i d) O where
  len := by rw [List.length_set, put_len]; exact A.len
  s0 := A.s0
  sf0 := A.sf0
  sf := A.sf
  nw := A.nw
  pl := fun j e hj hl => by
    rcases look_put δ i j d e hl with ⟨rfl, rfl⟩ | ⟨hne, hl'⟩
    · refine ⟨v, ?_, hd⟩
      have hlt : j < σ.length := by
        have z := (look_get _ _ _).mp hl
        have z2 := (List.getElem?_eq_some_iff.mp z).1
        rw [put_len] at z2
        rw [A.len]
        exact z2
      exact List.getElem?_set_self hlt
    · obtain ⟨u, h1, h2⟩ := A.pl j e hj hl'
      exact ⟨u, by rw [List.getElem?_set_ne (Ne.symm hne)]; exact h1, h2⟩
  ow := fun j e hj hl => by
    rcases look_put δ i j d e hl with ⟨rfl, rfl⟩ | ⟨hne, hl'⟩
    · exact absurd hj hi
    · obtain ⟨a, ds, h1, h2, h3⟩ := A.ow j e hj hl'
      exact ⟨a, ds, h1, by rw [List.getElem?_set_ne (Ne.symm hne)]; exact h2, h3⟩
  dj := fun j k a e e' hj hk hl hl' h1 h2 => by
    have nj : j ≠ i := fun z => hi (z ▸ hj)
    have nk : k ≠ i := fun z => hi (z ▸ hk)
    rw [List.getElem?_set_ne (Ne.symm nj)] at h1
    rw [List.getElem?_set_ne (Ne.symm nk)] at h2
    rcases look_put δ i j d e hl with ⟨z, _⟩ | ⟨_, l1⟩
    · exact absurd z nj
    · rcases look_put δ i k d e' hl' with ⟨z, _⟩ | ⟨_, l2⟩
      · exact absurd z nk
      · exact A.dj j k a e e' hj hk l1 l2 h1 h2
theorem dg_name (i : Nat) {x : Str} (hN : X.N.Nodup) (hi : i ∉ O := by decide) (hx : X.N[i]? = some x := by rfl) (hl : Loc X.env.scope x := by first | exact Or.inl rfl | exact Or.inr rfl)
    (hf : X.fn x = true ∨ X.env.scope.names.lookup x = some .local := by first | exact .inl rfl | exact .inr rfl) : PG X (.Name x pos) (tGd X.K O [i] (gN i)) := by
  refine ⟨fun pins s σ H v u Q I r ⟨G, δ, d, δ', A, hd, hg, q⟩ => (pg_name hN hx hl hf).run pins s σ H v u Q I r ?_⟩
  cases hg
  exact q _ (fun vs h => wipe_set (h i (by simp))) (abs_put A hi hd)
theorem dgs_nil : PGs X [] (tGds X.K O []) := by
  refine ⟨fun pins s σ H vs us Q I r ⟨G, δ, ds, A, hd, hl, q⟩ => pgs_nil.run pins s σ H vs us Q I r ?_⟩
  cases ds with
  | nil =>
    cases hd
    exact ⟨rfl, q _ (fun _ _ => rfl) A⟩
  | cons x xs => simp at hl
theorem dgs_cons (i : Nat) {x : Str} {l : List Nat} (hN : X.N.Nodup) (h2 : PGs X es (tGds X.K O l)) (hi : i ∉ O := by decide) (hx : X.N[i]? = some x := by rfl) (hl : Loc X.env.scope x := by first | exact Or.inl rfl | exact Or.inr rfl)
    (hf : X.fn x = true ∨ X.env.scope.names.lookup x = some .local := by first | exact .inl rfl | exact .inr rfl)
    (hs : (assignEach (.Name x pos :: es) X.env).map (·.2) = assign (.Name x pos) X.env :: (assignEach es X.env).map (·.2) := by rfl) : PGs X (.Name x pos :: es) (tGds X.K O (i :: l)) := by
  refine ⟨fun pins s σ H vs us Q I r ⟨G, δ, ds, A, hd, hlen, q⟩ => (pgs_cons (pg_name (pos := pos) hN hx hl hf) h2 hs).run pins s σ H vs us Q I r ?_⟩
  cases ds with
  | nil => simp at hlen
  | cons d ds =>
    cases hd with
    | cons hv hr =>
      refine ⟨_, _, rfl, G, put δ i d, ds, abs_put A hi hv, hr, by simpa using hlen, fun σ' hw A' => q σ' (fun vs h => ?_) A'⟩
      exact (hw vs fun j hj => h j (List.mem_cons_of_mem _ hj)).trans (wipe_set (h i (by simp)))
theorem dg_tup {l : List Nat} {k : Nat} (hc : X.calm = true) (h : PGs X es (tGds X.K O l)) (hn : (assignEach es X.env).length = l.length := by rfl) (hst : (assignEach es X.env).findIdx? (·.1) = none := by rfl) :
    PG X (.Tuple es k pos) (tGd X.K O l (gT l)) := by
  refine ⟨fun pins s σ H v u Q I r ⟨G, δ, d, δ', A, hd, hg, q⟩ => (pg_tup hc h hn hst).run pins s σ H v u Q I r ?_⟩
  unfold gT at hg
  cases d with
  | tuple ds =>
    simp only at hg
    split at hg
    · rename_i hl
      cases hg
      cases hd with
      | tup h1 h2 => exact ⟨_, _, rfl, seqT_same A.sf h1, by rw [dps_len h2]; exact hl, G, δ, ds, A, h2, hl, q⟩
    · cases hg
  | none => cases hg
  | bool i => cases hg
  | int i => cases hg
  | str x => cases hg
  | list xs => cases hg
  | dict xs => cases hg

/-! ### comprehensions -/
theorem abs_wipe {K : PySem.W.Frag} {G : GS} {σ : L2.St} {H : Hp} {δ : Ev} (A : Abs K G σ H δ O) (vs : List Nat) : Abs K G (wipe σ vs) H (clrs δ vs) O where
  len := by rw [wipe_length, clrs_len]; exact A.len
  s0 := A.s0
  sf0 := A.sf0
  sf := A.sf
  nw := A.nw
  pl := fun j e hj hl => by
    obtain ⟨h1, h2⟩ := look_clrs δ vs j e hl
    obtain ⟨v, h3, h4⟩ := A.pl j e hj h2
    exact ⟨v, by rw [wipe_out h1]; exact h3, h4⟩
  ow := fun j e hj hl => by
    obtain ⟨h1, h2⟩ := look_clrs δ vs j e hl
    obtain ⟨a, ds, h3, h4, h5⟩ := A.ow j e hj h2
    exact ⟨a, ds, h3, by rw [wipe_out h1]; exact h4, h5⟩
  dj := fun j k a e e' hj hk hl hl' h1 h2 => by
    obtain ⟨p1, p2⟩ := look_clrs δ vs j e hl
    obtain ⟨p3, p4⟩ := look_clrs δ vs k e' hl'
    rw [wipe_out p1] at h1
    rw [wipe_out p3] at h2
    exact A.dj j k a e e' hj hk p2 p4 h1 h2
abbrev W0 : WX := fun _ _ _ _ => False
theorem lc_read {i : Ax} {vs l : List Nat} {gx : Gx} {c : Tx} {el : Fx} {σ : L2.St} {H : Hp} {Q : VK} (hlv : ∀ j ∈ l, j ∈ vs) (h : tN ek X.K W O (xComp i vs gx c el) σ H Q) :
    tLc (tI ek X.K W O m i) (tGd X.K O l gx) (tT ek X.K W0 O c) (tD ek X.K W0 O true el) vs σ H Q := by
  obtain ⟨G, δ, A, q⟩ := h
  refine ⟨G, δ, A, ?_⟩
  unfold xComp at q
  cases hi : i δ with
  | ex x =>
    rw [hi] at q
    exact q
  | er =>
    rw [hi] at q
    exact q
  | ok xs =>
    rw [hi, Res.bind_ok] at q
    split at q
    · rename_i hlen
      cases hg : compGo gx c el (clrs δ vs) xs with
      | ex x =>
        rw [hg] at q
        exact q.elim
      | er =>
        rw [hg] at q
        exact q.elim
      | ok ys =>
        rw [hg] at q
        have q1 : PN X.K Q (.list ys) G H := q
        intro J G1 H1 Hs g1 ⟨Gp, Y, wk, w2, w3⟩ _ hst D hD
        have A1 := A.grow g1
        refine lc_it wk (fun j Hj => ∃ G', Grow G1 H1 G' Hj ∧ G'.F D = none ∧ ∃ acc ys1 ys2, Hj D = some (.lst acc) ∧ DpAll X.K G'.F acc ys1 ∧ ys1.length ≤ j ∧ compGo gx c el (clrs δ vs) (xs.drop j) = .ok ys2 ∧ ys = ys1 ++ ys2) ?_ ?_ ?_ ?_
        · exact ⟨G1, Grow.fresh A1.sf hD, A1.sf.free hD, [], [], ys, upd_same, .nil, Nat.le_refl _, hg, rfl⟩
        · rintro j Hj _ ⟨G', g', _⟩
          exact w2 Hj (g'.sf.trans g'.sub) (hst _ g'.s)
        · rintro j x Hj H' hj ⟨G', g', hDF, acc, ys1, ys2, hacc, hds, hl1, hc2, hys⟩ hy
          have hxj : xs[j]? = some xs[j] := List.getElem?_eq_getElem hj
          have hdrop : xs.drop j = xs[j] :: xs.drop (j + 1) := List.drop_eq_getElem_cons hj
          rw [hdrop] at hc2
          -- the region behind the yield
          have yl : ∃ G2, Grow G' Hj G2 H' ∧ Dp X.K G2.F x xs[j] := by
            rcases w3 j xs[j] Hj x H' hxj (g'.sf.trans g'.sub) (hst _ g'.s) hy with ⟨e1, e2⟩ | ⟨T, o, n1, e1, e2⟩
            · rw [e1]
              exact ⟨G', Grow.self g'.sub, dp_same g'.sf _ e2⟩
            · rw [e1]
              have g2 := Grow.alloc (o := o) g'.sub n1
              refine ⟨_, g2, dp_same (fun b u z => ?_) _ e2⟩
              show (upd G'.F T o) b = some u
              by_cases hb : b = T
              · subst hb
                rw [upd_same] at z ⊢
                exact z
              · rw [upd_ne hb] at z ⊢
                exact g'.sf _ _ z
          obtain ⟨G2, g2, dx⟩ := yl
          have accs : ∀ {G3 : GS} {H3 : Hp}, Grow G' Hj G3 H3 → H3 D = some (.lst acc) ∧ G3.F D = none := fun {G3 H3} g3 => by
            refine ⟨g3.s _ _ hacc, ?_⟩
            cases ez : G3.F D with
            | none => rfl
            | some u =>
              have z := g3.nw D (by rw [ez]; simp) hDF
              rw [hacc] at z
              cases z
          have A2 : Abs X.K G2 (wipe σ vs) H' (clrs δ vs) O := abs_wipe (A1.grow (g'.trans g2)) vs
          unfold compGo at hc2
          cases hgx : gx xs[j] (clrs δ vs) with
          | none =>
            rw [hgx] at hc2
            cases hc2
          | some δ1 =>
            rw [hgx] at hc2
            simp only at hc2
            refine ⟨G2, clrs δ vs, xs[j], δ1, A2, dx, hgx, fun σ2 hw A3 => ⟨?_, G2, δ1, A3, ?_⟩⟩
            · rw [hw vs hlv]
              exact wipe_ext (by rw [wipe_length]) fun k hk => wipe_out hk
            · cases hcb : c δ1 with
              | ex x =>
                rw [hcb] at hc2
                cases hc2
              | er =>
                rw [hcb] at hc2
                cases hc2
              | ok b =>
                rw [hcb] at hc2
                intro G3 H3 g3
                cases b with
                | false =>
                  rw [if_neg Bool.false_ne_true]
                  have gg := (g'.trans g2).trans g3
                  obtain ⟨a1, a2⟩ := accs (g2.trans g3)
                  exact ⟨G3, gg, a2, acc, ys1, ys2, a1, dps_same (g2.trans g3).sf _ hds, Nat.le_succ_of_le hl1, hc2, hys⟩
                | true =>
                  rw [if_pos rfl]
                  simp only at hc2
                  cases hel : el δ1 with
                  | ex x =>
                    rw [hel] at hc2
                    cases hc2
                  | er =>
                    rw [hel] at hc2
                    cases hc2
                  | ok y =>
                    rw [hel] at hc2
                    simp only at hc2
                    cases hrest : compGo gx c el (clrs δ vs) (xs.drop (j + 1)) with
                    | ex x =>
                      rw [hrest] at hc2
                      cases hc2
                    | er =>
                      rw [hrest] at hc2
                      cases hc2
                    | ok ys3 =>
                      rw [hrest, Res.bind_ok] at hc2
                      cases hc2
                      refine ⟨G3, δ1, A3.grow g3, ?_⟩
                      rw [hel]
                      intro yv G4 H4 g4 w4
                      have g24 := (g2.trans g3).trans g4
                      obtain ⟨a1, a2⟩ := accs g24
                      have gg := g'.trans g24
                      refine ⟨acc, a1, ?_, G4, ?_, a2, acc ++ [yv], ys1 ++ [y], ys3, upd_same, dps_app (dps_same g24.sf _ hds) (.cons w4.still .nil), by simp; exact hl1, by first | exact hrest | rfl, by rw [hys]; simp⟩
                      · rw [dps_len hds]
                        exact Nat.lt_of_le_of_lt hl1 (Nat.lt_of_lt_of_le hj (sl_le hlen))
                      · exact ⟨gg.h0, gg.f0, fun b u z => by rw [upd_ne (ne_of_none z hD)]; exact gg.s _ _ z, gg.sf, fun b u z => by
                          rw [upd_ne (ne_of_none z a2)]
                          exact gg.sub _ _ z, gg.nw⟩
        · rintro Hj ⟨G', g', hDF, acc, ys1, ys2, hacc, hds, hl1, hc2, hys⟩
          rw [List.drop_length] at hc2
          cases hc2
          rw [List.append_nil] at hys
          subst hys
          exact q1 D acc ys G' Hj rfl (g1.trans g') hacc (g1.s.free hD) hDF hds
    · exact q.elim
section
variable {scope : Scope} {own : List (Str × Nat)} {ifs : List Expr} {i : Ax} {l : List Nat} {gx : Gx} {c : Tx} {el : Fx} {elt iter : Expr}
theorem dn_comp (hc : X.calm = true) (hN : X.N.Nodup) (hi : PI X tg iter (tI ek X.K W O m i)) (ok : BlkOk X.N X.env.scope scope own)
    (hg : ∀ (s : Shared) (H : Hp) (C : Addr) (cl : List (Str × Addr)) (fp : List Addr), PG (X.blk s H scope (compEnvC scope cl C X.env) fp) tg (tGd X.K O l gx))
    (ht : ∀ (s : Shared) (H : Hp) (C : Addr) (cl : List (Str × Addr)) (fp : List Addr), PTs (X.blk s H scope (compEnvC scope cl C X.env) fp) ifs (tT ek X.K W0 O c))
    (he : ∀ (s : Shared) (H : Hp) (C : Addr) (cl : List (Str × Addr)) (fp : List Addr), PE (X.blk s H scope (compEnvC scope cl C X.env) fp) elt (tD ek X.K W0 O true el))
    (hlv : ∀ j ∈ l, j ∈ own.map (·.2) := by decide) (hs : ∀ x, foldedSetIterable iter X.env x = pure x := by intro _; rfl) :
    PE X (.ListComp elt [⟨tg, iter, ifs, 0⟩] scope pos) (tN ek X.K W O (xComp i (own.map (·.2)) gx c el)) :=
  ⟨fun pins s σ H Q I h => (pe_lc hc hN hi ok hg ht he hs).run pins s σ H Q I (lc_read hlv h)⟩
theorem dts_nil : PTs X [] (tT ek X.K W0 O Dt.tYes) :=
  ⟨fun pins s σ H Q I ⟨G, δ, A, q⟩ => pts_nil.run pins s σ H Q I ((show PB Q true G H from q) G H (Grow.self A.sf))⟩
theorem dts_one {t : Expr} (h : PT X t (tT ek X.K W0 O c)) : PTs X [t] (tT ek X.K W0 O c) := pts_one h
end
end
end Wk
end

section
set_option Elab.async false
set_option linter.all false
set_option autoImplicit false
set_option maxRecDepth 100000
set_option maxHeartbeats 4000000
/-! WkF: promises of defs by data functions, calls, statements, a def's body. -/
namespace Wk
open PySem PySem.Spec PyProof.Rows L2 Dt

/-! ### promises -/
/-- a fresh list of scalars, or a scalar -/
def Fresh (K : PySem.W.Frag) (H0 H' : Hp) (v : V) (d : D) : Prop :=
  scal d = true ∨ ∃ a vs ds, d = .list ds ∧ v = .ref a ∧ H0 a = none ∧ H' a = some (.lst vs) ∧ DpAll K (fun _ => none) vs ds
def spD (ek : EK) (K : PySem.W.Frag) (n : Nat) (fr : Bool) (f : List D → Res D) : Sp := fun vs H Q E => ∃ (F : Hp) (ds : List D), Same F H ∧ DpAll K F vs ds ∧ vs.length = n ∧
  match f ds with
  | .ok r => ∀ v G' H', Grow ⟨H, F, F⟩ H G' H' → Dp K G'.F v r → (fr = true → Fresh K H H' v r) → Q v H'
  | .ex e => ∀ c a G' H', Grow ⟨H, F, F⟩ H G' H' → ek e c a H' → E c a H'
  | .er => False
/-- FnOk where no repr is under way -/
structure FnG (P : Program) (w : World) (K : PySem.W.Frag) (mg : Str → Option Value) (base : Heap) (k : Nat) (f : Addr) (fd : FuncData) (ps : List Str) (sp : Sp) : Prop where
  len : ∀ vs H Q E, sp vs H Q E → vs.length = ps.length
  run : ∀ (A : Around) (outer : List Env) (s : Shared) (H : Hp) (args : Args) (us : List Value) (vs : List V) (Q : VK) (E : XK), Room k A → A.guards = some [] → Env0 P w K mg base A outer s H →
    BindsTo s fd args (ps.zip us) → Vals vs us → sp vs H Q E → codeAny (model P w) A (.call (.ref f) args) (CR (L2.CX P w) outer P w H s Q E) s
def ALen (r : Ax) (n : Nat) : Prop := ∀ δ ds, r δ = .ok ds → ds.length = n
theorem alen_nil : ALen aNil 0 := fun δ ds h => by cases h; rfl
theorem alen_cons {f : Fx} {r : Ax} {n : Nat} (h : ALen r n) : ALen (aCons f r) (n + 1) := fun δ ds z => by
  obtain ⟨d, ds', _, h2, rfl⟩ := acons_ok z
  simp [h δ ds' h2]
/-- a def of the text by its name x, level k, n parameters, and its data function -/
def Cal (ek : EK) (P : Program) (w : World) (K : PySem.W.Frag) (mg : Str → Option Value) (base : Heap) (x : Str) (k n : Nat) (fr : Bool) (F : List D → Res D) : Prop :=
  ∃ (f : Addr) (fd : FuncData) (ps : List Str), mg x = some (.ref f) ∧ PySem.W.keepIn K (.ref f) = true ∧ Binds K fd ps [] ∧ FnG P w K mg base k f fd ps (spD ek K n fr F)
section
variable {X : Cx} {ek : EK} {W : WX} {O : List Nat} {m : Bool} {r : Ax} {e : Expr} {es : List Expr} {pos p : Pos} {x : Str} {k n : Nat} {fr : Bool} {F : List D → Res D}
theorem run_fnG {f : Addr} {fd : FuncData} {ps : List Str} {sp : Sp} {pins : List (Addr × Obj)} {σ : L2.St} {H : Hp} {s : Shared} {Q : VK} {us : List Value} {vs : List V} {E : XK} (T : FnG X.prog X.w X.K X.mg X.base k f fd ps sp) (hr : Room k X.A)
    (hgd : X.A.guards = some []) (hb : Binds X.K fd ps []) (hx : PassesAt (L2.CX X.prog X.w) X σ E) (I : L2.Inv X pins σ H s) (rv : Vals vs us) (h : sp vs H Q E) : wpAny (model X.prog X.w) X.A (call (.ref f) us) (EP X pins σ Q) X.xe s := by
  have hlen : us.length = ps.length := rv.length.symm.trans (T.len _ _ _ _ h)
  have hbind : BindsTo s fd ⟨us, []⟩ (ps.zip us) := by
    have z := hb s us I.kIn (by simpa using hlen)
    simpa using z
  refine wpAny_call (codeAny_mono (T.run X.A X.stack s H ⟨us, []⟩ us vs Q E hr hgd I.env0 hbind rv h) fun z s' hz => ?_)
  match z, hz with
  | .error y, hz => exact hx pins H s y s' I hz
  | .ok (.ret u), hz => exact I.after hz
  | .ok .next, hz => exact hz.elim
  | .ok .brk, hz => exact hz.elim
  | .ok .cont, hz => exact hz.elim
/-- f(e, ..) -/
theorem pe_callG {t : TA} {T : TE} (hC : ∃ (f : Addr) (fd : FuncData) (ps : List Str) (sp : Sp), X.mg x = some (.ref f) ∧ PySem.W.keepIn X.K (.ref f) = true ∧ Binds X.K fd ps [] ∧ FnG X.prog X.w X.K X.mg X.base k f fd ps sp ∧
      ∀ σ H Q, T σ H Q → ∃ E : XK, PassesAt (L2.CX X.prog X.w) X σ E ∧ t σ H fun vs H1 => sp vs H1 Q E) (hr : Room k X.A) (hgd : X.A.guards = some []) (ha : PA X (e :: es) t) (hg : Gl X x := by rfl)
    (hdb : (x == ("__debug__" : Str)) = false := by decide) (he : starEach (e :: es) X.env = (false, eval e X.env) :: starEach es X.env := by rfl) (hpl : (backTo pos (starEach es X.env)).any (·.1) = false := by rfl) :
    PE X (.Call (.Name x p) (e :: es) [] pos) T := by
  obtain ⟨f, fd, ps, sp, h1, h2, h3, h4, h5⟩ := hC
  refine ⟨fun pins s σ H Q I h => wpAny_Call_Name_kw (ld_glob I hg h1 ?_ hdb)⟩
  obtain ⟨E, hE, hq⟩ := h5 σ H Q h
  refine PySem.W.callWith_K (h₀ := X.base) I.ok.mod.kin h2 (thn (ha.run pos pins s σ H _ I hq) fun us s1 ⟨vs, H1, I1, rv, q⟩ => ?_) he hpl
  exact ⟨I1.kIn, run_fnG h4 hr hgd h3 hE I1 rv q⟩
theorem de_call (C : Cal ek X.prog X.w X.K X.mg X.base x k n fr F) (hr : Room k X.A) (hgd : X.A.guards = some []) (tk : Takes X W) (ha : PA X (e :: es) (tAs ek X.K W O true r)) (hg : Gl X x := by rfl)
    (hdb : (x == ("__debug__" : Str)) = false := by decide) (he : starEach (e :: es) X.env = (false, eval e X.env) :: starEach es X.env := by rfl) (hpl : (backTo pos (starEach es X.env)).any (·.1) = false := by rfl)
    (hrl : ALen r n := by repeat (first | exact alen_nil | refine alen_cons ?_)) :
    PE X (.Call (.Name x p) (e :: es) [] pos) (tD ek X.K W O true (xN F r)) := by
  obtain ⟨f, fd, ps, h1, h2, h3, h4⟩ := C
  refine pe_callG ⟨f, fd, ps, _, h1, h2, h3, h4, fun σ H Q ⟨G, δ, A, q⟩ => ⟨WE W σ, passAt tk σ, ?_⟩⟩ hr hgd ha hg hdb he hpl
  refine tAs_bind (k := F) A mono_PD q fun ds vs G1 H1 hd g1 A1 w1 q1 => ⟨G1.F, ds, A1.sf, w1.still, by rw [w1.len]; exact hrl δ ds hd, ?_⟩
  have lift : ∀ {G' : GS} {H' : Hp}, Grow ⟨H1, G1.F, G1.F⟩ H1 G' H' → Grow G1 H1 { G1 with F := G'.F } H' := fun {G' H'} g => ⟨rfl, rfl, g.s, g.sf, g.sub, g.nw⟩
  cases hf : F ds with
  | ok z =>
    rw [hf] at q1
    exact fun v G' H' g hv _ => (show PD true X.K Q z G1 H1 from q1) v _ H' (lift g) (.inl hv)
  | ex z =>
    rw [hf] at q1
    exact fun c a G' H' g hk => q1 c a _ H' (lift g) hk
  | er =>
    rw [hf] at q1
    exact q1.elim
theorem dps_any {K : PySem.W.Frag} {H : Hp} {ds : List D} {vs : List V} (h : DpAll K (fun _ => none) vs ds) : DpAll K H vs ds := dps_same (fun _ o z => by cases (show (none : Option HO) = some o from z)) ds h
theorem dp_scal {K : PySem.W.Frag} {H H' : Hp} {d : D} {v : V} (h : Dp K H v d) (hs : scal d = true) : Dp K H' v d := by
  cases h with
  | non => exact .non
  | bl b => exact .bl b
  | int i => exact .int i
  | str x => exact .str x
  | lst h1 h2 => cases hs
  | tup h1 h2 => cases hs
/-- what a def that hands back fresh lists gives behind a call with arguments that are only seen -/
theorem call_fresh {P : VK → D → GS → Hp → Prop} (hP : ∀ Q, Mono (P Q)) (C : Cal ek X.prog X.w X.K X.mg X.base x k n true F) (hr : Room k X.A) (hgd : X.A.guards = some []) (tk : Takes X W) (ha : PA X (e :: es) (tAs ek X.K W O m r))
    (hok : ∀ Q z v G1 H1 H', P Q z G1 H1 → Same G1.F H1 → Same H1 H' → (∀ K' : Hp, scal z = true → Dp X.K K' v z) → (scal z = true ∨ ∃ a vs ds, z = .list ds ∧ v = .ref a ∧ H1 a = none ∧ H' a = some (.lst vs) ∧ DpAll X.K (fun _ => none) vs ds) → Q v H')
    (hg : Gl X x) (hdb : (x == ("__debug__" : Str)) = false) (he : starEach (e :: es) X.env = (false, eval e X.env) :: starEach es X.env) (hpl : (backTo pos (starEach es X.env)).any (·.1) = false)
    (hrl : ALen r n) : PE X (.Call (.Name x p) (e :: es) [] pos) (fun σ H Q => ∃ G δ, Abs X.K G σ H δ O ∧ Fin ek W σ (P Q) G H (xN F r δ)) := by
  obtain ⟨f, fd, ps, h1, h2, h3, h4⟩ := C
  refine pe_callG ⟨f, fd, ps, _, h1, h2, h3, h4, fun σ H Q ⟨G, δ, A, q⟩ => ⟨WE W σ, passAt tk σ, ?_⟩⟩ hr hgd ha hg hdb he hpl
  refine tAs_bind (k := F) A (hP Q) q fun ds vs G1 H1 hd g1 A1 w1 q1 => ⟨H1, ds, Same.refl _, w1.seen A1.sf, by rw [w1.len]; exact hrl δ ds hd, ?_⟩
  cases hf : F ds with
  | ok z =>
    rw [hf] at q1
    intro v G' H' g hv hfr
    exact hok Q z v G1 H1 H' q1 A1.sf g.s (fun K' hs => dp_scal hv hs) (hfr rfl)
  | ex z =>
    rw [hf] at q1
    exact fun c a G' H' g hk => q1 c a G1 H' ⟨rfl, rfl, g.s, Same.refl _, A1.sf.trans g.s, fun a h h' => absurd h' h⟩ hk
  | er =>
    rw [hf] at q1
    exact q1.elim
theorem de_callN (C : Cal ek X.prog X.w X.K X.mg X.base x k n true F) (hr : Room k X.A) (hgd : X.A.guards = some []) (tk : Takes X W) (ha : PA X (e :: es) (tAs ek X.K W O m r)) (hg : Gl X x := by rfl)
    (hdb : (x == ("__debug__" : Str)) = false := by decide) (he : starEach (e :: es) X.env = (false, eval e X.env) :: starEach es X.env := by rfl) (hpl : (backTo pos (starEach es X.env)).any (·.1) = false := by rfl)
    (hrl : ALen r n := by repeat (first | exact alen_nil | refine alen_cons ?_)) : PE X (.Call (.Name x p) (e :: es) [] pos) (tD ek X.K W O true (xN F r)) := by
  refine call_fresh (fun _ => mono_PD) C hr hgd tk ha (fun Q z v G1 H1 H' q1 s1 s2 hsc hfr => ?_) hg hdb he hpl hrl
  have g0 : Grow G1 H1 G1 H' := ⟨rfl, rfl, s2, Same.refl _, s1.trans s2, fun a h h' => absurd h' h⟩
  rcases hfr with hs | ⟨a, vs, ds, rfl, rfl, n1, h1, h2⟩
  · exact q1 v G1 H' g0 (.inl (hsc _ hs))
  · exact q1 _ _ H' (Grow.freeze s1 g0 h1 n1) (.inl (.lst (SqL.of (upd_same (o := .lst vs))) (dps_any h2)))
theorem dn_callN (C : Cal ek X.prog X.w X.K X.mg X.base x k n true F) (hr : Room k X.A) (hgd : X.A.guards = some []) (tk : Takes X W) (ha : PA X (e :: es) (tAs ek X.K W O m r)) (hg : Gl X x := by rfl)
    (hdb : (x == ("__debug__" : Str)) = false := by decide) (he : starEach (e :: es) X.env = (false, eval e X.env) :: starEach es X.env := by rfl) (hpl : (backTo pos (starEach es X.env)).any (·.1) = false := by rfl)
    (hrl : ALen r n := by repeat (first | exact alen_nil | refine alen_cons ?_)) : PE X (.Call (.Name x p) (e :: es) [] pos) (tN ek X.K W O (x1 oLst (xN F r))) := by
  refine call_fresh (P := fun Q d G H => PN X.K Q d G H ∧ ∃ ds, d = .list ds) (fun _ a G H G' H' g h => ⟨mono_PN a G H G' H' g h.1, h.2⟩) C hr hgd tk ha (fun Q z v G1 H1 H' q1 s1 s2 hsc hfr => ?_) hg hdb he hpl hrl |>.run |> fun R => ⟨fun pins s σ H Q I ⟨G, δ, A, q⟩ => R pins s σ H Q I ⟨G, δ, A, ?_⟩⟩
  · have g0 : Grow G1 H1 G1 H' := ⟨rfl, rfl, s2, Same.refl _, s1.trans s2, fun a h h' => absurd h' h⟩
    obtain ⟨q2, us, rfl⟩ := q1
    rcases hfr with hs | ⟨a, vs, ds, e1, rfl, n1, h1, h2⟩
    · cases hs
    · cases e1
      exact q2 a vs us G1 H' rfl g0 h1 n1 (s1.free n1) (dps_any h2)
  · unfold x1 at q
    cases hf : xN F r δ with
    | ok z =>
      rw [hf, Res.bind_ok] at q
      cases z with
      | list ds => exact ⟨q, ds, rfl⟩
      | none => exact q.elim
      | bool i => exact q.elim
      | int i => exact q.elim
      | str i => exact q.elim
      | tuple i => exact q.elim
      | dict i => exact q.elim
    | ex z =>
      rw [hf] at q
      exact q
    | er =>
      rw [hf] at q
      exact q
end
end Wk
end

section
set_option Elab.async false
set_option linter.all false
set_option autoImplicit false
set_option maxRecDepth 100000
set_option maxHeartbeats 4000000
/-! WkG: statements by their data functions. -/
namespace Wk
open PySem PySem.Spec PyProof.Rows L2 Dt

structure Bs (G : GS) (H : Hp) : Prop where
  s0 : Same G.H0 H
  sf0 : Same G.F0 G.F
  sf : Same G.F H
  nw : ∀ a, G.F a ≠ none → G.F0 a = none → G.H0 a = none
structure GLe (G G' : GS) : Prop where
  h0 : G'.H0 = G.H0
  f0 : G'.F0 = G.F0
  sf : Same G.F G'.F
theorem GLe.self (G : GS) : GLe G G := ⟨rfl, rfl, Same.refl _⟩
theorem GLe.trans {G G' G'' : GS} (a : GLe G G') (b : GLe G' G'') : GLe G G'' := ⟨b.h0.trans a.h0, b.f0.trans a.f0, a.sf.trans b.sf⟩
theorem Grow.le {G G' : GS} {H H' : Hp} (g : Grow G H G' H') : GLe G G' := ⟨g.h0, g.f0, g.sf⟩
theorem Abs.bs {K : PySem.W.Frag} {G : GS} {σ : L2.St} {H : Hp} {δ : Ev} {O : List Nat} (A : Abs K G σ H δ O) : Bs G H := ⟨A.s0, A.sf0, A.sf, A.nw⟩
section
variable {K : PySem.W.Frag} {G : GS} {σ : L2.St} {H : Hp} {δ : Ev} {O O' : List Nat}
open Classical in
/-- some owned lists stand still from now on -/
theorem Abs.freeze (A : Abs K G σ H δ O) (h : ∀ i ∈ O', i ∈ O) : ∃ G', GLe G G' ∧ Abs K G' σ H δ O' := by
  let C : Addr → Prop := fun a => ∃ i d, i ∈ O ∧ i ∉ O' ∧ look δ i = some d ∧ σ[i]? = some (some (V.ref a))
  let F' : Hp := fun a => if C a then H a else G.F a
  have own : ∀ a, C a → ∃ vs ds, H a = some (.lst vs) ∧ G.F a = none ∧ G.H0 a = none ∧ DpAll K G.F vs ds := fun a ⟨i, d, h1, _, h2, h3⟩ => by
    obtain ⟨b, ds, _, h4, ⟨vs, h5, h6⟩, h7, h8⟩ := A.ow i d h1 h2
    rw [h3] at h4
    cases h4
    exact ⟨vs, ds, h5, h7, h8, h6⟩
  have sf : Same G.F F' := fun b o e => by
    show (if C b then H b else G.F b) = some o
    by_cases hc : C b
    · obtain ⟨_, _, _, z, _⟩ := own b hc
      rw [z] at e
      cases e
    · rw [if_neg hc]
      exact e
  refine ⟨⟨G.H0, G.F0, F'⟩, ⟨rfl, rfl, sf⟩, ⟨A.len, A.s0, A.sf0.trans sf, fun b o e => ?_, fun a h1 h2 => ?_, fun i d hi hl => ?_, fun i d hi hl => ?_, fun i j a d e hi hj => A.dj i j a d e (h i hi) (h j hj)⟩⟩
  · have e' : (if C b then H b else G.F b) = some o := e
    by_cases hc : C b
    · rw [if_pos hc] at e'
      exact e'
    · rw [if_neg hc] at e'
      exact A.sf _ _ e'
  · have h1' : (if C a then H a else G.F a) ≠ none := h1
    by_cases hc : C a
    · obtain ⟨_, _, _, _, z, _⟩ := own a hc
      exact z
    · rw [if_neg hc] at h1'
      exact A.nw a h1' h2
  · by_cases hO : i ∈ O
    · obtain ⟨a, ds, rfl, h4, ⟨vs, h5, h6⟩, h7, h8⟩ := A.ow i d hO hl
      refine ⟨_, h4, .lst (SqL.of ?_) (dps_same sf _ h6)⟩
      show (if C a then H a else G.F a) = some (.lst vs)
      rw [if_pos ⟨i, _, hO, hi, hl, h4⟩]
      exact h5
    · obtain ⟨v, h1, h2⟩ := A.pl i d hO hl
      exact ⟨v, h1, dp_same sf _ h2⟩
  · obtain ⟨a, ds, e1, h4, ⟨vs, h5, h6⟩, h7, h8⟩ := A.ow i d (h i hi) hl
    refine ⟨a, ds, e1, h4, ⟨vs, h5, dps_same sf _ h6⟩, ?_, h8⟩
    show (if C a then H a else G.F a) = none
    rw [if_neg fun ⟨j, e, c1, c2, c3, c4⟩ => c2 ((A.dj i j a d e (h i hi) c1 hl c3 h4 c4) ▸ hi)]
    exact h7
end
def del (O : List Nat) (i : Nat) : List Nat := O.filter fun j => j != i
theorem mem_del {O : List Nat} {i j : Nat} : j ∈ del O i ↔ j ∈ O ∧ j ≠ i := by simp [del]

/-- what is wanted behind a statement that gives this -/
def SFin (ek : EK) (K : PySem.W.Frag) (W : WX) (ρ : Bool) (L O' : List Nat) (G : GS) (N : Ends) : Out → Prop
  | .nx δ' => ∀ σ' G' H', GLe G G' → Abs K G' σ' H' δ' O' → N.nx σ' H'
  | .bk δ' => ∀ σ' G' H', GLe G G' → Abs K G' σ' H' δ' L → N.bk σ' H'
  | .ct δ' => ∀ σ' G' H', GLe G G' → Abs K G' σ' H' δ' L → N.ct σ' H'
  | .rt d => ∀ v G' H', GLe G G' → Bs G' H' → Dp K G'.F v d → (ρ = true → Fresh K G'.H0 H' v d) → N.rt v H'
  | .ex e δ' => ∀ c a σ' G' H', GLe G G' → Abs K G' σ' H' δ' [] → ek e c a H' → W c a σ' H'
  | .er => False
def tS (ek : EK) (K : PySem.W.Frag) (W : WX) (ρ : Bool) (O L O' : List Nat) (g : Sx) : TS := fun N σ H => ∃ G δ, Abs K G σ H δ O ∧ SFin ek K W ρ L O' G N (g δ)
theorem SFin.mono {ek : EK} {K : PySem.W.Frag} {W : WX} {ρ : Bool} {L O' : List Nat} {G G1 : GS} {N : Ends} (g : GLe G G1) : ∀ {o : Out}, SFin ek K W ρ L O' G N o → SFin ek K W ρ L O' G1 N o
  | .nx _, h => fun σ' G' H' l A => h σ' G' H' (g.trans l) A
  | .bk _, h => fun σ' G' H' l A => h σ' G' H' (g.trans l) A
  | .ct _, h => fun σ' G' H' l A => h σ' G' H' (g.trans l) A
  | .rt _, h => fun v G' H' l b => h v G' H' (g.trans l) b
  | .ex _ _, h => fun c a σ' G' H' l A => h c a σ' G' H' (g.trans l) A
  | .er, h => h
section
variable {ek : EK} {K : PySem.W.Frag} {W : WX} {ρ : Bool} {O L O' : List Nat} {G : GS} {σ : L2.St} {H : Hp} {δ : Ev} {N : Ends} {m : Bool}
theorem ex_end {x : Exc} (A : Abs K G σ H δ O) (h : SFin ek K W ρ L O' G N (.ex x δ)) : ∀ c a G' H', Grow G H G' H' → ek x c a H' → W c a σ H' := fun c a G' H' g hk => by
  obtain ⟨G2, l2, A2⟩ := (A.grow g).freeze (O' := []) (fun i z => nomatch z)
  exact h c a σ G2 H' (g.le.trans l2) A2 hk
theorem out_D {f : Fx} {k : D → Out} {Q' : VK} (A : Abs K G σ H δ O) (h : SFin ek K W ρ L O' G N ((f δ).out δ k))
    (hk : ∀ d v G1 H1, f δ = .ok d → Grow G H G1 H1 → Abs K G1 σ H1 δ O → Vw m K G1 H1 v d → SFin ek K W ρ L O' G1 N (k d) → Q' v H1) : tD ek K W O m f σ H Q' := by
  refine ⟨G, δ, A, ?_⟩
  cases e : f δ with
  | ok d =>
    rw [e] at h
    exact fun v G1 H1 g w => hk d v G1 H1 e g (A.grow g) w (SFin.mono g.le h)
  | ex x =>
    rw [e] at h
    exact ex_end A h
  | er =>
    rw [e] at h
    exact h
theorem out_N {f : Fx} {k : D → Out} {Q' : VK} (A : Abs K G σ H δ O) (h : SFin ek K W ρ L O' G N ((f δ).out δ k))
    (hk : ∀ a vs ds G1 H1, f δ = .ok (.list ds) → Grow G H G1 H1 → Abs K G1 σ H1 δ O → H1 a = some (.lst vs) → H a = none → G1.F a = none → DpAll K G1.F vs ds → SFin ek K W ρ L O' G1 N (k (.list ds)) → Q' (.ref a) H1) : tN ek K W O f σ H Q' := by
  refine ⟨G, δ, A, ?_⟩
  cases e : f δ with
  | ok d =>
    rw [e] at h
    intro a vs ds G1 H1 ed g h1 h2 h3 h4
    subst ed
    exact hk a vs ds G1 H1 e g (A.grow g) h1 h2 h3 h4 (SFin.mono g.le h)
  | ex x =>
    rw [e] at h
    exact ex_end A h
  | er =>
    rw [e] at h
    exact h
theorem out_T {t : Tx} {k : Bool → Out} {Q' : Bool → Hp → Prop} (A : Abs K G σ H δ O) (h : SFin ek K W ρ L O' G N ((t δ).out δ k))
    (hk : ∀ b G1 H1, t δ = .ok b → Grow G H G1 H1 → Abs K G1 σ H1 δ O → SFin ek K W ρ L O' G1 N (k b) → Q' b H1) : tT ek K W O t σ H Q' := by
  refine ⟨G, δ, A, ?_⟩
  cases e : t δ with
  | ok d =>
    rw [e] at h
    exact fun G1 H1 g => hk d G1 H1 e g (A.grow g) (SFin.mono g.le h)
  | ex x =>
    rw [e] at h
    exact ex_end A h
  | er =>
    rw [e] at h
    exact h
/-- a slot gets a value that stands still -/
theorem abs_set {i : Nat} {v : V} {d : D} (A : Abs K G σ H δ O) (hd : Dp K G.F v d) : Abs K G (σ.set i (some v)) H (put δ i d) (del O i) := by
  have A' : Abs K G σ H δ (del O i) ∨ True := .inr trivial
  have inn : ∀ {j e}, look (put δ i d) j = some e → j = i → j < σ.length := fun {j e} hl _ => by
    have z2 := (List.getElem?_eq_some_iff.mp ((look_get _ _ _).mp hl)).1
    rw [put_len] at z2
    rw [A.len]
    exact z2
  refine ⟨by rw [List.length_set, put_len]; exact A.len, A.s0, A.sf0, A.sf, A.nw, fun j e hj hl => ?_, fun j e hj hl => ?_, fun j k a e e' hj hk hl hl' h1 h2 => ?_⟩
  · rcases look_put δ i j d e hl with ⟨rfl, rfl⟩ | ⟨hne, hl'⟩
    · exact ⟨v, List.getElem?_set_self (inn hl rfl), hd⟩
    · have hj' : j ∉ O := fun z => hj (mem_del.mpr ⟨z, hne⟩)
      obtain ⟨u, h1, h2⟩ := A.pl j e hj' hl'
      exact ⟨u, by rw [List.getElem?_set_ne (Ne.symm hne)]; exact h1, h2⟩
  · obtain ⟨hO, hne⟩ := mem_del.mp hj
    rcases look_put δ i j d e hl with ⟨rfl, rfl⟩ | ⟨_, hl'⟩
    · exact absurd rfl hne
    · obtain ⟨a, ds, h1, h2, h3⟩ := A.ow j e hO hl'
      exact ⟨a, ds, h1, by rw [List.getElem?_set_ne (Ne.symm hne)]; exact h2, h3⟩
  · obtain ⟨jO, nj⟩ := mem_del.mp hj
    obtain ⟨kO, nk⟩ := mem_del.mp hk
    rw [List.getElem?_set_ne (Ne.symm nj)] at h1
    rw [List.getElem?_set_ne (Ne.symm nk)] at h2
    rcases look_put δ i j d e hl with ⟨z, _⟩ | ⟨_, l1⟩
    · exact absurd z nj
    · rcases look_put δ i k d e' hl' with ⟨z, _⟩ | ⟨_, l2⟩
      · exact absurd z nk
      · exact A.dj j k a e e' jO kO l1 l2 h1 h2
/-- a slot gets a fresh list, owned -/
theorem abs_own {i : Nat} {a : Addr} {vs : List V} {ds : List D} (A : Abs K G σ H δ O) (h1 : H a = some (.lst vs)) (h2 : G.F a = none) (h3 : G.H0 a = none) (h4 : DpAll K G.F vs ds)
    (h5 : ∀ j d, j ∈ O → look δ j = some d → σ[j]? ≠ some (some (.ref a))) : Abs K G (σ.set i (some (.ref a))) H (put δ i (.list ds)) (i :: del O i) := by
  have inn : ∀ {j e}, look (put δ i (.list ds)) j = some e → j < σ.length := fun {j e} hl => by
    have z2 := (List.getElem?_eq_some_iff.mp ((look_get _ _ _).mp hl)).1
    rw [put_len] at z2
    rw [A.len]
    exact z2
  refine ⟨by rw [List.length_set, put_len]; exact A.len, A.s0, A.sf0, A.sf, A.nw, fun j e hj hl => ?_, fun j e hj hl => ?_, fun j k b e e' hj hk hl hl' q1 q2 => ?_⟩
  · have hne : j ≠ i := fun z => hj (by simp [z])
    rcases look_put δ i j _ e hl with ⟨z, _⟩ | ⟨_, hl'⟩
    · exact absurd z hne
    · have hj' : j ∉ O := fun z => hj (List.mem_cons_of_mem _ (mem_del.mpr ⟨z, hne⟩))
      obtain ⟨u, p1, p2⟩ := A.pl j e hj' hl'
      exact ⟨u, by rw [List.getElem?_set_ne (Ne.symm hne)]; exact p1, p2⟩
  · rcases look_put δ i j _ e hl with ⟨rfl, rfl⟩ | ⟨hne, hl'⟩
    · exact ⟨a, ds, rfl, List.getElem?_set_self (inn hl), ⟨vs, h1, h4⟩, h2, h3⟩
    · have hO : j ∈ O := by
        rcases List.mem_cons.mp hj with z | z
        · exact absurd z hne
        · exact (mem_del.mp z).1
      obtain ⟨b, es, p1, p2, p3⟩ := A.ow j e hO hl'
      exact ⟨b, es, p1, by rw [List.getElem?_set_ne (Ne.symm hne)]; exact p2, p3⟩
  · have old : ∀ {j e}, j ∈ i :: del O i → j ≠ i → look (put δ i (.list ds)) j = some e → j ∈ O ∧ look δ j = some e := fun {j e} hj hne hl => by
      rcases List.mem_cons.mp hj with z | z
      · exact absurd z hne
      · rcases look_put δ i j _ e hl with ⟨z', _⟩ | ⟨_, l⟩
        · exact absurd z' hne
        · exact ⟨(mem_del.mp z).1, l⟩
    by_cases ej : j = i
    · by_cases ek : k = i
      · rw [ej, ek]
      · exfalso
        subst ej
        rw [List.getElem?_set_self (inn hl)] at q1
        cases q1
        rw [List.getElem?_set_ne (Ne.symm ek)] at q2
        obtain ⟨kO, l2⟩ := old hk ek hl'
        exact h5 k e' kO l2 q2
    · by_cases ek : k = i
      · exfalso
        subst ek
        rw [List.getElem?_set_self (inn hl')] at q2
        cases q2
        rw [List.getElem?_set_ne (Ne.symm ej)] at q1
        obtain ⟨jO, l1⟩ := old hj ej hl
        exact h5 j e jO l1 q1
      · rw [List.getElem?_set_ne (Ne.symm ej)] at q1
        rw [List.getElem?_set_ne (Ne.symm ek)] at q2
        obtain ⟨jO, l1⟩ := old hj ej hl
        obtain ⟨kO, l2⟩ := old hk ek hl'
        exact A.dj j k b e e' jO kO l1 l2 q1 q2
/-- an owned list is changed -/
theorem abs_chg {i : Nat} {a : Addr} {d : D} {us vs : List V} {ds : List D} (A : Abs K G σ H δ O) (hi : i ∈ O) (hl : look δ i = some d) (hs : σ[i]? = some (some (.ref a))) (h0 : H a = some (.lst us)) (h4 : DpAll K G.F vs ds) :
    Abs K G σ (upd H a (.lst vs)) (put δ i (.list ds)) O := by
  obtain ⟨b, es, e0, e1, ⟨ws, e2, e3⟩, n1, n2⟩ := A.ow i d hi hl
  rw [hs] at e1
  cases e1
  have inn : i < σ.length := (List.getElem?_eq_some_iff.mp hs).1
  refine ⟨by rw [put_len]; exact A.len, fun c o q => by rw [upd_ne (fun z => by rw [z, n2] at q; cases q)]; exact A.s0 _ _ q, A.sf0, fun c o q => by rw [upd_ne (fun z => by rw [z, n1] at q; cases q)]; exact A.sf _ _ q, A.nw,
    fun j e hj hl' => ?_, fun j e hj hl' => ?_, fun j k b e e' hj hk l1 l2 q1 q2 => ?_⟩
  · rcases look_put δ i j _ e hl' with ⟨rfl, _⟩ | ⟨_, l⟩
    · exact absurd hi hj
    · exact A.pl j e hj l
  · rcases look_put δ i j _ e hl' with ⟨rfl, rfl⟩ | ⟨hne, l⟩
    · exact ⟨a, ds, rfl, hs, ⟨vs, upd_same, h4⟩, n1, n2⟩
    · obtain ⟨b, fs, p1, p2, ⟨zs, p3, p4⟩, p5, p6⟩ := A.ow j e hj l
      have hab : b ≠ a := fun z => by
        subst z
        exact hne (A.dj j i b e d hj hi l hl p2 hs)
      exact ⟨b, fs, p1, p2, ⟨zs, by rw [upd_ne hab]; exact p3, p4⟩, p5, p6⟩
  · have up : ∀ {j e}, look (put δ i (.list ds)) j = some e → ∃ e', look δ j = some e' := fun {j e} l => by
      rcases look_put δ i j _ e l with ⟨rfl, _⟩ | ⟨_, l'⟩
      · exact ⟨d, hl⟩
      · exact ⟨e, l'⟩
    obtain ⟨x1, y1⟩ := up l1
    obtain ⟨x2, y2⟩ := up l2
    exact A.dj j k b x1 x2 hj hk y1 y2 q1 q2
end
section
variable {X : Cx} {ek : EK} {W : WX} {ρ : Bool} {O O1 L O' : List Nat} {m m1 m2 : Bool} {e : Expr} {st : Stmt} {rest body orelse : List Stmt} {f g : Fx} {s t : Sx} {c : Tx} {pos p : Pos} {x : Str}
theorem dss_nil (h : ∀ i ∈ O', i ∈ O := by decide) : PSs X [] (tS ek X.K W ρ O L O' sNx) := by
  refine ⟨fun pins s σ H N I ⟨G, δ, A, q⟩ => pss_nil.run pins s σ H N I ?_⟩
  obtain ⟨G', l, A'⟩ := A.freeze h
  exact (show SFin ek X.K W ρ L O' G N (.nx δ) from q) σ G' H l A'
theorem dss_cons (h1 : PS X st (tS ek X.K W ρ O L O1 s)) (h2 : PSs X rest (tS ek X.K W ρ O1 L O' t)) : PSs X (st :: rest) (tS ek X.K W ρ O L O' (sSeq s t)) := by
  refine ⟨fun pins s0 σ H N I ⟨G, δ, A, q⟩ => (pss_cons h1 h2).run pins s0 σ H N I ⟨G, δ, A, ?_⟩⟩
  unfold sSeq at q
  cases e : s δ with
  | nx δ' =>
    rw [e] at q
    exact fun σ' G' H' l A' => ⟨G', δ', A', SFin.mono l q⟩
  | rt d =>
    rw [e] at q
    exact q
  | bk d =>
    rw [e] at q
    exact q
  | ct d =>
    rw [e] at q
    exact q
  | ex x d =>
    rw [e] at q
    exact q
  | er =>
    rw [e] at q
    exact q.elim
/-- the last statement of a block -/
theorem dss_last (h1 : PS X st (tS ek X.K W ρ O L O' s)) : PSs X [st] (tS ek X.K W ρ O L O' (sSeq s sNx)) := by
  refine ⟨fun pins s0 σ H N I ⟨G, δ, A, q⟩ => (pss_one h1).run pins s0 σ H N I ⟨G, δ, A, ?_⟩⟩
  unfold sSeq at q
  cases e : s δ with
  | nx δ' =>
    rw [e] at q
    exact q
  | rt d =>
    rw [e] at q
    exact q
  | bk d =>
    rw [e] at q
    exact q
  | ct d =>
    rw [e] at q
    exact q
  | ex x d =>
    rw [e] at q
    exact q
  | er =>
    rw [e] at q
    exact q.elim
/-- some owned lists stand still from here on -/
theorem ds_frz (h : ∀ i ∈ O1, i ∈ O) (h1 : PS X st (tS ek X.K W ρ O1 L O' s)) : PS X st (tS ek X.K W ρ O L O' s) :=
  ⟨fun pins s0 σ H N I ⟨G, δ, A, q⟩ => let ⟨G', l, A'⟩ := A.freeze h; h1.run pins s0 σ H N I ⟨G', δ, A', SFin.mono l q⟩⟩
theorem ds_pass : PS X (.Pass pos) (tS ek X.K W ρ O L O sNx) :=
  ⟨fun pins s σ H N I ⟨G, δ, A, q⟩ => ps_pass.run pins s σ H N I ((show SFin ek X.K W ρ L O G N (.nx δ) from q) σ G H (GLe.self G) A)⟩
theorem ds_break (h : ∀ i ∈ L, i ∈ O := by decide) : PS X (.Break pos) (tS ek X.K W ρ O L O' sBk) := by
  refine ⟨fun pins s σ H N I ⟨G, δ, A, q⟩ => ps_break.run pins s σ H N I ?_⟩
  obtain ⟨G', l, A'⟩ := A.freeze h
  exact (show SFin ek X.K W ρ L O' G N (.bk δ) from q) σ G' H l A'
theorem ds_cont (h : ∀ i ∈ L, i ∈ O := by decide) : PS X (.Continue pos) (tS ek X.K W ρ O L O' sCt) := by
  refine ⟨fun pins s σ H N I ⟨G, δ, A, q⟩ => ps_continue.run pins s σ H N I ?_⟩
  obtain ⟨G', l, A'⟩ := A.freeze h
  exact (show SFin ek X.K W ρ L O' G N (.ct δ) from q) σ G' H l A'
/-- x = e -/
theorem ds_set (i : Nat) {pos' : Pos} (hN : X.N.Nodup) (he : PE X e (tD ek X.K W O true f)) (hi : X.N[i]? = some x := by rfl) (hx : Loc X.env.scope x := by first | exact Or.inl rfl | exact Or.inr rfl)
    (hs : swapsWith e (some (.Name x pos')) pos.line X.env = pure false := by rfl) (hf : X.fn x = true ∨ X.env.scope.names.lookup x = some .local := by first | exact .inl rfl | exact .inr rfl) :
    PS X (.Assign [.Name x pos'] e pos) (tS ek X.K W ρ O L (del O i) (sSet i f)) := by
  refine ⟨fun pins s σ H N I ⟨G, δ, A, q⟩ => (ps_set hN hi hx he hs hf).run pins s σ H N I ?_⟩
  exact out_D A q fun d v G1 H1 hd g1 A1 w1 q1 => (show SFin ek X.K W ρ L _ G1 N (.nx (put δ i d)) from q1) _ G1 H1 (GLe.self G1) (abs_set A1 w1.still)
theorem fresh_other {K : PySem.W.Frag} {G : GS} {σ : L2.St} {H : Hp} {δ : Ev} (A : Abs K G σ H δ O) {a : Addr} (h : H a = none) : ∀ j d, j ∈ O → look δ j = some d → σ[j]? ≠ some (some (V.ref a)) := fun j d hj hl z => by
  obtain ⟨b, ds, _, h2, ⟨vs, h3, _⟩, _⟩ := A.ow j d hj hl
  rw [z] at h2
  cases h2
  rw [h] at h3
  cases h3
/-- x = a fresh list, owned from here on -/
theorem ds_own (i : Nat) {pos' : Pos} (hN : X.N.Nodup) (he : PE X e (tN ek X.K W O f)) (hi : X.N[i]? = some x := by rfl) (hx : Loc X.env.scope x := by first | exact Or.inl rfl | exact Or.inr rfl)
    (hs : swapsWith e (some (.Name x pos')) pos.line X.env = pure false := by rfl) (hf : X.fn x = true ∨ X.env.scope.names.lookup x = some .local := by first | exact .inl rfl | exact .inr rfl) :
    PS X (.Assign [.Name x pos'] e pos) (tS ek X.K W ρ O L (i :: del O i) (sSet i f)) := by
  refine ⟨fun pins s σ H N I ⟨G, δ, A, q⟩ => (ps_set hN hi hx he hs hf).run pins s σ H N I ?_⟩
  refine out_N A q fun a vs ds G1 H1 hd g1 A1 h1 h2 h3 h4 q1 => (show SFin ek X.K W ρ L _ G1 N (.nx (put δ i (.list ds))) from q1) _ G1 H1 (GLe.self G1) (abs_own A1 h1 h3 ?_ h4 (fresh_other A h2))
  rw [g1.h0]
  exact A.s0.free h2
theorem ds_par (i j : Nat) {a b : Expr} {y : Str} {px py pt pt2 : Pos} {kt k2 : Nat} (hc : X.calm = true) (hN : X.N.Nodup) (ha : PE X a (tD ek X.K W O true f)) (hb : PE X b (tD ek X.K W O true g)) (hi : X.N[i]? = some x := by rfl) (hj : X.N[j]? = some y := by rfl) (hij : i ≠ j := by decide)
    (hx : X.env.scope.names.lookup x = some .local := by rfl) (hy : X.env.scope.names.lookup y = some .local := by rfl) (hsa : starEach [a, b] X.env = (false, eval a X.env) :: starEach [b] X.env := by rfl) (hsb : starEach [b] X.env = (false, eval b X.env) :: starEach [] X.env := by rfl)
    (hw : swappedStores [.Tuple [.Name x px, .Name y py] kt pt] (.Tuple [a, b] k2 pt2) X.env = pure (some [x, y]) := by rfl)
    (hs : swapsWithSole [.Tuple [.Name x px, .Name y py] kt pt] (.Tuple [a, b] k2 pt2) pos.line X.env = pure false := by rfl) :
    PS X (.Assign [.Tuple [.Name x px, .Name y py] kt pt] (.Tuple [a, b] k2 pt2) pos) (tS ek X.K W ρ O L (del (del O i) j) (sPar i j f g)) := by
  refine ⟨fun pins s σ H N I ⟨G, δ, A, q⟩ => (ps_par hc hN hi hj hij hx hy (pa_cons ha (pa_cons hb pa_nil hsb) hsa) hw hs).run pins s σ H N I ?_⟩
  refine out_D A q fun d v G1 H1 hd g1 A1 w1 q1 => out_D A1 q1 fun d2 u G2 H2 he g2 A2 w2 q2 => ⟨v, u, rfl, ?_⟩
  exact (show SFin ek X.K W ρ L _ G2 N (.nx (put (put δ i d) j d2)) from q2) _ G2 H2 (GLe.self G2) (abs_set (abs_set A2 (w1.grow g2).still) w2.still)
/-- y = [..] on one line -/
theorem ds_lc {j : Nat} {y : Str} {py spos : Pos} {tg elt iter : Expr} {scope : Scope} {own : List (Str × Nat)} {ifs : List Expr} {i : Ax} {l : List Nat} {gx : Gx} {el : Fx} (hc : X.calm = true) (hN : X.N.Nodup)
    (hi : PI X tg iter (tI ek X.K W O m i)) (ok : BlkOk X.N X.env.scope scope own)
    (hg : ∀ (s : Shared) (H : Hp) (C : Addr) (cl : List (Str × Addr)) (fp : List Addr), PG (X.blk s H scope (compEnvC scope cl C X.env) fp) tg (tGd X.K O l gx))
    (ht : ∀ (s : Shared) (H : Hp) (C : Addr) (cl : List (Str × Addr)) (fp : List Addr), PTs (X.blk s H scope (compEnvC scope cl C X.env) fp) ifs (tT ek X.K W0 O c))
    (he : ∀ (s : Shared) (H : Hp) (C : Addr) (cl : List (Str × Addr)) (fp : List Addr), PE (X.blk s H scope (compEnvC scope cl C X.env) fp) elt (tD ek X.K W0 O true el))
    (hy : X.N[j]? = some y := by rfl) (hyl : X.env.scope.names.lookup y = some .local := by rfl)
    (hsw : swapsWith (.ListComp elt [⟨tg, iter, ifs, 0⟩] scope pos) (some (.Name y py)) spos.line X.env = pure true := by exact sw_true rfl rfl rfl (by decide +kernel))
    (hlv : ∀ j ∈ l, j ∈ own.map (·.2) := by decide) (hs : ∀ x, foldedSetIterable iter X.env x = pure x := by intro _; rfl) :
    PS X (.Assign [.Name y py] (.ListComp elt [⟨tg, iter, ifs, 0⟩] scope pos) spos) (tS ek X.K W ρ O L (j :: del O j) (sSet j (xComp i (own.map (·.2)) gx c el))) := by
  refine ⟨fun pins s σ H N I ⟨G, δ, A, q⟩ => (ps_setLc hc hN hy hyl hsw hi ok hg ht he hs).run pins s σ H N I ?_⟩
  refine lc_read hlv (out_N A q fun a vs ds G1 H1 hd g1 A1 h1 h2 h3 h4 q1 => (show SFin ek X.K W ρ L _ G1 N (.nx (put δ j (.list ds))) from q1) _ G1 H1 (GLe.self G1) (abs_own A1 h1 h3 ?_ h4 (fresh_other A h2)))
  rw [g1.h0]
  exact A.s0.free h2
/-- xs[k] = e, xs owned -/
theorem ds_ix (i : Nat) {k : Expr} {p1 p2 : Pos} (hi : i ∈ O) (he : PE X e (tD ek X.K W O true f)) (hk : PE X k (tD ek X.K W O m g)) (hN : X.N[i]? = some x := by rfl)
    (hv : Vis X.env.scope x := by first | exact Or.inl rfl | exact Or.inr (Or.inl rfl) | exact Or.inr (Or.inr rfl)) (hd : (x == ("__debug__" : Str)) = false := by decide) (hcd : (x == ("__classdict__" : Str)) = false := by decide)
    (ha : ∀ v, assign (.Subscript (.Name x p1) k p2) X.env v = (do
      let ov ← holding [v] (eval (.Name x p1) X.env)
      let iv ← holding [v, ov] (eval k X.env)
      standAt p2
      holding [v, ov, iv] (setItem ov iv v)
      release [v, ov, iv] []) := by intro _; rfl)
    (hs : swapsWithSole [.Subscript (.Name x p1) k p2] e pos.line X.env = pure false := by rfl) (hw : swappedStores [.Subscript (.Name x p1) k p2] e X.env = pure none := by rfl)
    (h1 : (assignEach [.Subscript (.Name x p1) k p2] X.env).map (·.2) = [assign (.Subscript (.Name x p1) k p2) X.env] := by rfl) :
    PS X (.Assign [.Subscript (.Name x p1) k p2] e pos) (tS ek X.K W ρ O L O (sIx i g f)) := by
  refine ⟨fun pins s σ H N I ⟨G, δ, A, q⟩ => (ps_asg he (pg_sub (pe_var hN hv hd hcd) hk set_list ha) hs hw h1).run pins s σ H N I ?_⟩
  unfold sIx at q
  cases hl : look δ i with
  | none =>
    rw [hl] at q
    exact q.elim
  | some dl =>
    obtain ⟨a, ds, rfl, h2, ow⟩ := A.ow i dl hi hl
    rw [hl] at q
    refine out_D A q fun d v G1 H1 hdd g1 A1 w1 q1 => ⟨.ref a, h2, out_D A1 q1 fun z u G2 H2 hk2 g2 A2 w2 q2 => ?_⟩
    obtain ⟨⟨vs, h3, h4⟩, n1, n2⟩ := (ow.grow g1).grow g2
    cases z with
    | int kk =>
      simp only at q2
      split at q2
      · rename_i hb
        refine ⟨a, vs, kk, kk.toNat, rfl, w2.int, h3, ?_, ?_⟩
        · unfold ixN
          rw [if_pos hb.1, if_pos (by rw [dps_len h4]; exact hb.2)]
        · exact (show SFin ek X.K W ρ L O G2 N (.nx _) from q2) σ G2 _ (GLe.self G2) (abs_chg A2 hi hl h2 h3 (dps_set (w1.grow g2).still _ h4))
      · exact q2.elim
    | none => exact q2.elim
    | bool i => exact q2.elim
    | str i => exact q2.elim
    | list i => exact q2.elim
    | tuple i => exact q2.elim
    | dict i => exact q2.elim
/-- xs.append(e), xs owned -/
theorem ds_app (i : Nat) {p1 p2 cpos : Pos} (hi : i ∈ O) (he : PE X e (tD ek X.K W O true f)) (hbm : ∀ {te ta : TE}, PE X (.Name x p1) te → PE X e ta → PE X (.Call (.Attribute (.Name x p1) "append" p2) [e] [] cpos) (tBM X.K "list" rAppend te (tCons ta tNil)))
    (hN : X.N[i]? = some x := by rfl)
    (hv : Vis X.env.scope x := by first | exact Or.inl rfl | exact Or.inr (Or.inl rfl) | exact Or.inr (Or.inr rfl)) (hd : (x == ("__debug__" : Str)) = false := by decide) (hcd : (x == ("__classdict__" : Str)) = false := by decide)
    (hs : swapsWith (.Call (.Attribute (.Name x p1) "append" p2) [e] [] cpos) none pos.line X.env = pure false := by rfl) :
    PS X (.Expr (.Call (.Attribute (.Name x p1) "append" p2) [e] [] cpos) pos) (tS ek X.K W ρ O L O (sApp i f)) := by
  refine ⟨fun pins s σ H N I ⟨G, δ, A, q⟩ => (ps_expr (hbm (pe_var hN hv hd hcd) he) hs).run pins s σ H N I ?_⟩
  unfold sApp at q
  cases hl : look δ i with
  | none =>
    rw [hl] at q
    exact q.elim
  | some dl =>
    obtain ⟨a, ds, rfl, h2, ow⟩ := A.ow i dl hi hl
    rw [hl] at q
    obtain ⟨⟨vs0, h30, _⟩, _, _⟩ := id ow
    refine ⟨.ref a, h2, .inl ⟨rfl, _, SqL.of h30⟩, out_D A q fun d v G1 H1 hdd g1 A1 w1 q1 => ?_⟩
    obtain ⟨⟨vs, h3, h4⟩, n1, n2⟩ := ow.grow g1
    split at q1
    · rename_i hb
      refine ⟨a, vs, v, rfl, rfl, h3, by rw [dps_len h4]; exact sl_lt hb, ?_⟩
      exact (show SFin ek X.K W ρ L O G1 N (.nx _) from q1) σ G1 _ (GLe.self G1) (abs_chg A1 hi hl h2 h3 (dps_app h4 (.cons w1.still .nil)))
    · exact q1.elim
/-- return e -/
theorem ds_ret (he : PE X e (tD ek X.K W O true f)) : PS X (.Return (some e) pos) (tS ek X.K W false O L O' (sRet f)) := by
  refine ⟨fun pins s σ H N I ⟨G, δ, A, q⟩ => (ps_ret he).run pins s σ H N I ?_⟩
  exact out_D A q fun d v G1 H1 hd g1 A1 w1 q1 => (show SFin ek X.K W false L O' G1 N (.rt d) from q1) v G1 H1 (GLe.self G1) A1.bs w1.still (fun z => nomatch z)
theorem ds_retS (he : PE X e (tD ek X.K W O true f)) : PS X (.Return (some e) pos) (tS ek X.K W ρ O L O' (sRetS f)) := by
  refine ⟨fun pins s σ H N I ⟨G, δ, A, q⟩ => (ps_ret he).run pins s σ H N I ?_⟩
  refine out_D A q fun d v G1 H1 hd g1 A1 w1 q1 => ?_
  split at q1
  · rename_i hs
    exact (show SFin ek X.K W ρ L O' G1 N (.rt d) from q1) v G1 H1 (GLe.self G1) A1.bs w1.still (fun _ => .inl hs)
  · exact q1.elim
theorem dps_scal {K : PySem.W.Frag} {H : Hp} : ∀ {ds : List Dt.D} {vs : List V}, DpAll K H vs ds → ds.all scal = true → DpAll K (fun _ => none) vs ds
  | [], _, h, _ => by cases h; exact .nil
  | d :: ds, _, h, z => by
    rw [List.all_cons, Bool.and_eq_true] at z
    cases h with
    | cons h1 h2 => exact .cons (dp_scal h1 z.1) (dps_scal h2 z.2)
/-- return of a fresh flat list (an owned name's, too) -/
theorem ds_retN (he : PE X e (tN ek X.K W O f)) : PS X (.Return (some e) pos) (tS ek X.K W ρ O L O' (sRetN f)) := by
  refine ⟨fun pins s σ H N I ⟨G, δ, A, q⟩ => (ps_ret he).run pins s σ H N I ?_⟩
  refine out_N A q fun a vs ds G1 H1 hd g1 A1 h1 h2 h3 h4 q1 => ?_
  replace q1 : SFin ek X.K W ρ L O' G1 N (if ds.all scal = true then .rt (.list ds) else .er) := q1
  split at q1
  · rename_i hs
    have g2 := Grow.freeze A.sf g1 h1 h2
    refine (show SFin ek X.K W ρ L O' G1 N (.rt (.list ds)) from q1) (.ref a) { G1 with F := upd G1.F a (.lst vs) } H1 ⟨rfl, rfl, fun b u z => by
      show (upd G1.F a (.lst vs)) b = some u
      rw [upd_ne (fun w => by rw [w, h3] at z; cases z)]
      exact z⟩ (A.grow g2).bs (.lst (SqL.of (show (upd G1.F a (.lst vs)) a = some (.lst vs) from upd_same)) (dps_any (dps_scal h4 hs))) (fun _ => .inr ⟨a, vs, ds, rfl, rfl, ?_, h1, dps_scal h4 hs⟩)
    show G1.H0 a = none
    rw [g1.h0]
    exact A.s0.free h2
  · exact q1.elim
theorem ds_retO (i : Nat) {p : Pos} (hi : i ∈ O) (hN : X.N[i]? = some x := by rfl)
    (hv : Vis X.env.scope x := by first | exact Or.inl rfl | exact Or.inr (Or.inl rfl) | exact Or.inr (Or.inr rfl)) (hd : (x == ("__debug__" : Str)) = false := by decide) (hcd : (x == ("__classdict__" : Str)) = false := by decide) :
    PS X (.Return (some (.Name x p)) pos) (tS ek X.K W false O L O' (sRet (xName i))) := by
  refine ⟨fun pins s σ H N I ⟨G, δ, A, q⟩ => (ps_ret (pe_var hN hv hd hcd)).run pins s σ H N I ?_⟩
  unfold sRet xName at q
  cases hl : look δ i with
  | none =>
    rw [hl] at q
    exact q.elim
  | some d =>
    rw [hl] at q
    obtain ⟨G2, l2, A2⟩ := A.freeze (O' := []) (fun i z => nomatch z)
    obtain ⟨v, h1, h2⟩ := A2.pl i d (fun z => nomatch z) hl
    exact ⟨v, h1, (show SFin ek X.K W false L O' G N (.rt d) from q) v G2 H l2 A2.bs h2 (fun z => nomatch z)⟩
theorem ds_retON (i : Nat) {p : Pos} (hi : i ∈ O) (hN : X.N[i]? = some x := by rfl)
    (hv : Vis X.env.scope x := by first | exact Or.inl rfl | exact Or.inr (Or.inl rfl) | exact Or.inr (Or.inr rfl)) (hd : (x == ("__debug__" : Str)) = false := by decide) (hcd : (x == ("__classdict__" : Str)) = false := by decide) :
    PS X (.Return (some (.Name x p)) pos) (tS ek X.K W ρ O L O' (sRetN (xName i))) := by
  refine ⟨fun pins s σ H N I ⟨G, δ, A, q⟩ => (ps_ret (pe_var hN hv hd hcd)).run pins s σ H N I ?_⟩
  unfold sRetN xName at q
  cases hl : look δ i with
  | none =>
    rw [hl] at q
    exact q.elim
  | some d =>
    rw [hl] at q
    obtain ⟨a, ds, rfl, h4, ⟨vs, h5, h6⟩, h7, h8⟩ := A.ow i d hi hl
    rw [Res.out_ok] at q
    simp only at q
    split at q
    · rename_i hs
      obtain ⟨G2, l2, A2⟩ := A.freeze (O' := []) (fun i z => nomatch z)
      obtain ⟨v, h1, h2⟩ := A2.pl i _ (fun z => nomatch z) hl
      rw [h4] at h1
      cases h1
      refine ⟨_, h4, (show SFin ek X.K W ρ L O' G N (.rt (.list ds)) from q) _ G2 H l2 A2.bs h2 (fun _ => .inr ⟨a, vs, ds, rfl, rfl, ?_, h5, dps_scal h6 hs⟩)⟩
      rw [l2.h0]
      exact h8
    · exact q.elim
theorem ds_if {tst : Expr} (ht : PT X tst (tT ek X.K W O c)) (ha : PSs X body (tS ek X.K W ρ O L O' s)) (hb : PSs X orelse (tS ek X.K W ρ O L O' t)) : PS X (.If tst body orelse pos) (tS ek X.K W ρ O L O' (sIf c s t)) := by
  refine ⟨fun pins s0 σ H N I ⟨G, δ, A, q⟩ => (ps_if ht ha hb).run pins s0 σ H N I ?_⟩
  refine out_T A q fun b G1 H1 hd g1 A1 q1 => ?_
  cases b with
  | true => exact ⟨G1, δ, A1, q1⟩
  | false => exact ⟨G1, δ, A1, q1⟩
theorem ds_for {tg iter : Expr} {i : Ax} {l : List Nat} {gx : Gx} {b : Sx} (hp : PassesOwn (model X.prog X.w) X.A X.env X.xe) (hc : X.calm = true) (hi : PI X tg iter (tI ek X.K W O true i)) (hg : PG X tg (tGd X.K O l gx)) (hb : PSs X body (tS ek X.K W ρ O O O b))
    (hs : ∀ x, foldedSetIterable iter X.env x = pure x := by intro _; rfl) : PS X (.For tg iter body [] pos) (tS ek X.K W ρ O L O (sFor i gx b)) := by
  refine ⟨fun pins s σ H N I ⟨G, δ, A, q⟩ => (ps_for hp hc hi hg hb hs).run pins s σ H N I ?_⟩
  refine ⟨G, δ, A, ?_⟩
  unfold sFor at q
  cases hx : i δ with
  | ex x =>
    rw [hx] at q
    exact ex_end A q
  | er =>
    rw [hx] at q
    exact q
  | ok xs =>
    rw [hx, Res.out_ok] at q
    intro J G1 H1 Hs g1 ⟨Gp, Y, wk, w2, w3⟩ hm hst
    have A1 := A.grow g1
    refine for_it wk (fun j σ' Hj => ∃ G' δ', GLe G1 G' ∧ Abs X.K G' σ' Hj δ' O ∧ SFin ek X.K W ρ L O G' N (forGo gx b (xs.drop j) δ')) ⟨G1, δ, GLe.self G1, A1, SFin.mono g1.le q⟩ ?_ ?_ ?_
    · rintro j σ' Hj _ ⟨G', δ', l', A', _⟩
      exact w2 Hj (l'.sf.trans A'.sf) (hm rfl _)
    · rintro j x σ' Hj H' hj ⟨G', δ', l', A', q'⟩ hy
      have sf := l'.sf
      have hxj : xs[j]? = some xs[j] := List.getElem?_eq_getElem hj
      have hdrop : xs.drop j = xs[j] :: xs.drop (j + 1) := List.drop_eq_getElem_cons hj
      rw [hdrop] at q'
      have yl : ∃ G2, Grow G' Hj G2 H' ∧ Dp X.K G2.F x xs[j] := by
        rcases w3 j xs[j] Hj x H' hxj (sf.trans A'.sf) (hm rfl _) hy with ⟨e1, e2⟩ | ⟨T, o, n1, e1, e2⟩
        · rw [e1]
          exact ⟨G', Grow.self A'.sf, dp_same sf _ e2⟩
        · rw [e1]
          have g2 := Grow.alloc (o := o) A'.sf n1
          refine ⟨_, g2, dp_same (fun b u z => ?_) _ e2⟩
          show (upd G'.F T o) b = some u
          by_cases hb : b = T
          · subst hb
            rw [upd_same] at z ⊢
            exact z
          · rw [upd_ne hb] at z ⊢
            exact sf _ _ z
      obtain ⟨G2, g2, dx⟩ := yl
      have A2 := A'.grow g2
      unfold forGo at q'
      cases hgx : gx xs[j] δ' with
      | none =>
        rw [hgx] at q'
        exact q'.elim
      | some δ1 =>
        rw [hgx] at q'
        simp only at q'
        refine ⟨G2, δ', xs[j], δ1, A2, dx, hgx, fun σ2 _ A3 => ⟨G2, δ1, A3, ?_⟩⟩
        have lg : GLe G1 G2 := l'.trans g2.le
        cases hb1 : b δ1 with
        | nx δ2 =>
          rw [hb1] at q'
          exact fun σ3 G3 H3 l3 A4 => ⟨G3, δ2, lg.trans l3, A4, SFin.mono (g2.le.trans l3) q'⟩
        | ct δ2 =>
          rw [hb1] at q'
          exact fun σ3 G3 H3 l3 A4 => ⟨G3, δ2, lg.trans l3, A4, SFin.mono (g2.le.trans l3) q'⟩
        | bk δ2 =>
          rw [hb1] at q'
          exact fun σ3 G3 H3 l3 A4 => (show SFin ek X.K W ρ L O G' N (.nx δ2) from q') σ3 G3 H3 (g2.le.trans l3) A4
        | rt d =>
          rw [hb1] at q'
          exact fun v G3 H3 l3 => (show SFin ek X.K W ρ L O G' N (.rt d) from q') v G3 H3 (g2.le.trans l3)
        | ex x d =>
          rw [hb1] at q'
          exact fun c a σ3 G3 H3 l3 => (show SFin ek X.K W ρ L O G' N (.ex x d) from q') c a σ3 G3 H3 (g2.le.trans l3)
        | er =>
          rw [hb1] at q'
          exact q'.elim
    · rintro σ' Hj ⟨G', δ', l', A', q'⟩
      rw [List.drop_length] at q'
      exact (show SFin ek X.K W ρ L O G' N (.nx δ') from q') σ' G' Hj (GLe.self G') A'
end
end Wk
end

section
set_option Elab.async false
set_option linter.all false
set_option autoImplicit false
set_option maxRecDepth 100000
set_option maxHeartbeats 4000000
/-! WkH: while, a def's body, the law's head. -/
namespace Wk
open PySem PySem.Spec PyProof.Rows L2 Dt

section
variable {X : Cx} {ek : EK} {W : WX} {ρ : Bool} {O L : List Nat} {body : List Stmt} {c : Tx} {b : Sx} {tst : Expr} {pos : Pos}
theorem ds_while (n : Ev → Nat) (hp : PassesOwn (model X.prog X.w) X.A X.env X.xe) (hc : PT X tst (tT ek X.K W O c)) (hb : PSs X body (tS ek X.K W ρ O O O b)) : PS X (.While tst body [] pos) (tS ek X.K W ρ O L O (sWh n c b)) := by
  refine ⟨fun pins s σ H N I ⟨G, δ, A, q⟩ => (ps_while hp hc hb).run pins s σ H N I ?_⟩
  refine ⟨fun m σ' H' => ∃ G' δ', GLe G G' ∧ Abs X.K G' σ' H' δ' O ∧ SFin ek X.K W ρ L O G' N (whGo c b m δ'), ⟨n δ, G, δ, GLe.self G, A, q⟩, ?_⟩
  rintro m σ' H' ⟨G', δ', l', A', q'⟩
  cases m with
  | zero => exact q'.elim
  | succ m =>
    refine out_T A' q' fun k G1 H1 hk g1 A1 q1 => ?_
    cases k with
    | false =>
      rw [if_neg Bool.false_ne_true]
      exact (show SFin ek X.K W ρ L O G1 N (.nx δ') from q1) σ' G1 H1 (GLe.self G1) A1
    | true =>
      rw [if_pos rfl]
      refine ⟨fun σ2 H2 => ∃ G2 δ2, GLe G G2 ∧ Abs X.K G2 σ2 H2 δ2 O ∧ SFin ek X.K W ρ L O G2 N (whGo c b m δ2), fun σ2 H2 z => ⟨m, Nat.lt_succ_self m, z⟩, G1, δ', A1, ?_⟩
      have lg : GLe G G1 := l'.trans g1.le
      have q2 : SFin ek X.K W ρ L O G1 N (match b δ' with
        | .nx δ2 => whGo c b m δ2
        | .ct δ2 => whGo c b m δ2
        | .bk δ2 => .nx δ2
        | .rt d => .rt d
        | .ex e δ2 => .ex e δ2
        | .er => .er) := q1
      cases hb1 : b δ' with
      | nx δ2 =>
        rw [hb1] at q2
        exact fun σ3 G3 H3 l3 A4 => ⟨G3, δ2, lg.trans l3, A4, SFin.mono l3 q2⟩
      | ct δ2 =>
        rw [hb1] at q2
        exact fun σ3 G3 H3 l3 A4 => ⟨G3, δ2, lg.trans l3, A4, SFin.mono l3 q2⟩
      | bk δ2 =>
        rw [hb1] at q2
        exact q2
      | rt d =>
        rw [hb1] at q2
        exact q2
      | ex x d =>
        rw [hb1] at q2
        exact q2
      | er =>
        rw [hb1] at q2
        exact q2.elim
end

/-! ### a def's body -/
section
variable {P : Program} {w : World} {K : PySem.W.Frag} {mg : Str → Option Value} {base : Heap}
/-- the context of a def's body -/
abbrev cxG (P : Program) (w : World) (K : PySem.W.Frag) (mg : Str → Option Value) (base : Heap) (N : List Str) (qual : Str) (st : Stmt) (f : Addr) (cdv : Value) (A : Around) (outer : List Env) (s : Shared) (H : Hp) (E : XK) : Cx :=
  cxOf (L2.CX P w) P w K mg base N qual (defScope st) f cdv A outer s H E
theorem fn_ofG {x qual : Str} {st : Stmt} {f : Addr} {fd : FuncData} {N ps : List Str} {k : Nat} {sp : Sp} (T : Fun K x qual st f fd) (S : FnScope N ps (defScope st)) (len : ∀ vs H Q E, sp vs H Q E → vs.length = ps.length)
    (hbody : ∀ (cdv : Value) (A : Around) (outer : List Env) (s : Shared) (H : Hp) (vs : List V) (Q : VK) (E : XK), Room k (A.deeper (envOfC qual (defScope st) s.heap.objs.size f cdv)) → A.guards = some [] → sp vs H Q E →
      ∃ t, PSs (cxG P w K mg base N qual st f cdv A outer s H E) (defBody st) t ∧ t { nx := fun _ H' => Q .non H', rt := Q } (start N vs) H) : FnG P w K mg base (k + 1) f fd ps sp := by
  obtain ⟨oc, od, kV, doc, pm, an, cdv, ct, osl, rfl, lk, hcd⟩ := T.ex
  refine ⟨len, fun A outer s H args us vs Q E hr hg e0 hb rv hsp => ?_⟩
  have KX : K.In s.heap := e0.mod.kin.keeps fun b o z => (e0.bs b o z).1
  have hlim : s.heap.NoLimit := e0.mod.nolimit.keeps fun b o z => (e0.bs b o z).1
  have hkinds : ∀ y ∈ ps.zip us, (defScope st).names.lookup y.1 = some .local ∨
      ((defScope st).names.lookup y.1 = some .cell ∧ ((cellsFrom (s.heap.objs.size + 1) (defScope st).names []).lookup y.1).isSome = true) := by
    rintro ⟨nm, v⟩ hy
    rcases S.par nm (List.of_mem_zip hy).1 with z | z
    · exact .inl z
    · exact .inr ⟨z, PySem.W.cellsFrom_some _ _ _ (.inl z)⟩
  refine codeAny_call_function hr.depth (KX _ _ lk) rfl S.co S.gen rfl
    (PySem.W.codeRec_of KX hcd) (hb _ _ _ _ ?_)
  refine wpAny_newFunctionEnv_cells S.kind hkinds fun env he s1 z => ?_
  subst he
  refine ⟨hlim.keeps z.toInCall.keep, codeAny_func ?_⟩
  obtain ⟨t, ht, hq⟩ := hbody cdv A outer s H vs Q E (hr.deeper _) hg hsp
  have I : L2.Inv (cxG P w K mg base N qual st f cdv A outer s H E) [] (start N vs) H s1 :=
    inv_start S hr.hd e0 (len _ _ _ _ hsp) rv z
  have fin : ∀ {σ' : L2.St} {H' : Hp} {v : V} {u : Value} {s' : Shared}, L2.Inv (cxG P w K mg base N qual st f cdv A outer s H E) [] σ' H' s' → RelV v u → Q v H' → CE outer P w H s Q u s' :=
    fun {σ' H' v u s'} J rv q => ⟨v, H', J.os, J.bare, J.base, J.hok, rv, q⟩
  refine wpAny_mono (ht.run [] s1 (start N vs) H _ I hq) (fun fl s' hs => ?_) fun e s' hs => hs
  match fl, hs with
  | .ret u, hs =>
    obtain ⟨v, σ', H', J, rv', q⟩ := hs
    exact fin J rv' q
  | .next, hs =>
    obtain ⟨σ', H', J, q⟩ := hs
    exact fin (v := .non) (u := .none) J rfl q
  | .brk, hs =>
    obtain ⟨_, _, _, q⟩ := hs
    exact q.elim
  | .cont, hs =>
    obtain ⟨_, _, _, q⟩ := hs
    exact q.elim
theorem look_app_rep : ∀ (ds : List D) (n i : Nat) (d : D), look (ds.map some ++ List.replicate n none) i = some d → ds[i]? = some d
  | [], n, i, d, h => by
    exfalso
    have z := (look_get _ _ _).mp h
    simp [List.getElem?_replicate] at z
  | x :: ds, n, 0, d, h => by
    simpa [look] using h
  | x :: ds, n, i + 1, d, h => by
    have h' : look (ds.map some ++ List.replicate n none) i = some d := h
    simpa using look_app_rep ds n i d h'
theorem okG {ek : EK} {x qual : Str} {st : Stmt} {f : Addr} {fd : FuncData} {N ps : List Str} {k n p : Nat} {fr : Bool} {g : Sx} (T : Fun K x qual st f fd) (S : FnScope N ps (defScope st)) (hN : N.length = n) (hp : ps.length = p) (hpn : p ≤ n)
    (hbody : ∀ (cdv : Value) (A : Around) (outer : List Env) (s : Shared) (H : Hp) (E : XK), Room k (cxG P w K mg base N qual st f cdv A outer s H E).A → (cxG P w K mg base N qual st f cdv A outer s H E).A.guards = some [] →
      Takes (cxG P w K mg base N qual st f cdv A outer s H E) (fun c d _ H' => E c d H') → PassesOwn (model P w) (cxG P w K mg base N qual st f cdv A outer s H E).A (cxG P w K mg base N qual st f cdv A outer s H E).env (cxG P w K mg base N qual st f cdv A outer s H E).xe →
      PSs (cxG P w K mg base N qual st f cdv A outer s H E) (defBody st) (tS ek K (fun c d _ H' => E c d H') fr [] [] [] g)) : FnG P w K mg base (k + 1) f fd ps (spD ek K p fr (runD n p g)) := by
  refine fn_ofG T S (fun vs H Q E ⟨F, ds, _, _, hl, _⟩ => hl.trans hp.symm) fun cdv A outer s H vs Q E hr hgd ⟨F, ds, hF, hds, hl, q⟩ => ?_
  refine ⟨_, hbody cdv A outer s H E hr hgd (takes_of rfl rfl rfl rfl) (passes_of rfl), ⟨H, F, F⟩, startE n ds, ?_, ?_⟩
  · have hdl : ds.length = p := (dps_len hds).symm.trans hl
    refine ⟨?_, Same.refl _, Same.refl _, hF, fun a h1 h2 => absurd h2 h1, fun i d _ hlk => ?_, fun i d hi => (nomatch hi), fun i j a d e hi => (nomatch hi)⟩
    · unfold L2.start startE
      simp [hdl, hl, hN]
    · have hd := look_app_rep ds _ i d hlk
      obtain ⟨v, h1, h2⟩ := dps_get hds hd
      refine ⟨v, ?_, h2⟩
      unfold L2.start
      rw [List.getElem?_append_left (by simpa using (List.getElem?_eq_some_iff.mp h1).1), List.getElem?_map, h1]
      rfl
  · have hdl : ds.length = p := (dps_len hds).symm.trans hl
    have lift : ∀ {G' : GS} {H' : Hp}, GLe ⟨H, F, F⟩ G' → Bs G' H' → Grow ⟨H, F, F⟩ H G' H' := fun {G' H'} l b =>
      ⟨l.h0, l.f0, by have z := b.s0; rw [l.h0] at z; exact z, l.sf, b.sf, fun a h1 h2 => by
        have z := b.nw a h1 (by rw [l.f0]; exact h2)
        rw [l.h0] at z
        exact z⟩
    unfold runD at q
    rw [if_pos hdl] at q
    cases hg : g (startE n ds) with
    | nx δ' =>
      rw [hg] at q
      exact fun σ' G' H' l A' => q .non G' H' (lift l A'.bs) .non (fun _ => .inl rfl)
    | rt d =>
      rw [hg] at q
      exact fun v G' H' l b hv hfr => q v G' H' (lift l b) hv (fun z => by have y := hfr z; rw [l.h0] at y; exact y)
    | bk δ' =>
      rw [hg] at q
      exact q.elim
    | ct δ' =>
      rw [hg] at q
      exact q.elim
    | ex e δ' =>
      rw [hg] at q
      exact fun c a σ' G' H' l A' hk => q c a G' H' (lift l A'.bs) hk
    | er =>
      rw [hg] at q
      exact q.elim
end
theorem room200 {k : Nat} {A : Around} (r : Room k A) : A.units + 200 < cLine := by
  have := r.un
  omega
/-- no exceptions are told -/
abbrev ekN : EK := fun _ _ _ _ => False
end Wk
end

section
set_option Elab.async false
set_option linter.all false
set_option autoImplicit false
set_option maxRecDepth 100000
set_option maxHeartbeats 4000000
/-! WkI: the law's head, for promises of FnG. -/
namespace Wk
open PySem PySem.Spec PyProof.Rows L2 Dt

theorem law_callG {P : Program} {w : World} {K : PySem.W.Frag} {mg mb : Str → Option Value} {k : Nat} {fa a : Addr} {fd : FuncData} {x : Str} {sp : Sp} {t : Shared} {vs : List Value} {ns : List Int}
    (KX : K.In t.heap) (g1 : t.heap.Ns mainGlobals mg) (g2 : t.heap.Ns builtinsNs mb) (g3 : ∀ x : Str, x ≠ "__name__" → mb x = bootBuiltins x) (g4 : t.heap.NoLimit) (g5 : t.gens = #[])
    (obj : t.heap.get? a = some { cls := .type "list", data := .seq vs.toArray }) (hi : IntsAre vs ns) (hl : ns.length ≤ sizeLine) (hr : Room k callerA)
    (T : ∀ base : Heap, K.In base → base.Ns mainGlobals mg → FnG P w K mg base k fa fd [x] sp) (hbind : ∀ (s : Shared) (u : Value), BindsTo s fd ⟨[u], []⟩ [(x, u)])
    (hsp : ∀ H : Hp, Only H → SqL K H a (ns.map V.int) → sp [.ref a] H (fun v _ => v = .bl true) fun _ _ _ => False) :
    codeAny (model P w) callerA (.call (.ref fa) ⟨[.ref a], []⟩) (fun r s' => r = .ok (.ret (.bool true)) ∧ OldK t.heap s'.heap ∧ s'.os = t.os ∧ AllBare s'.gens) t := by
  have rv : Vals (ns.map V.int) vs := vals_ints hi
  -- from any abstract heap that tracks the script at most
  suffices core : ∀ H : Hp, Only H → SqL K H a (ns.map V.int) → HOk P w H t.heap → (∀ b, H b ≠ none → b = a ∧ K.lookup a = none) →
      codeAny (model P w) callerA (.call (.ref fa) ⟨[.ref a], []⟩) (fun r s' => r = .ok (.ret (.bool true)) ∧ OldK t.heap s'.heap ∧ s'.os = t.os ∧ AllBare s'.gens) t by
    cases hk : K.lookup a with
    | some o =>
      have e := (KX a o hk).symm.trans obj
      cases e
      refine core (fun _ => none) (fun _ => .inl rfl) (.inr ⟨_, vs.toArray, _, hk, rfl, rfl, rfl, ?_, by simpa using rv⟩) (fun b u z => ?_) fun b z => absurd rfl z
      · rw [List.size_toArray, hi.length]
        exact hl
      · cases (show (none : Option HO) = some u from z)
    | none =>
      have at_a : ∀ b u, (if b = a then some (HO.frz { cls := .type "list", data := .seq vs.toArray } (.lst (ns.map V.int))) else none) = some u → b = a ∧ u = .frz { cls := .type "list", data := .seq vs.toArray } (.lst (ns.map V.int)) := fun b u z => by
        by_cases hb : b = a
        · rw [if_pos hb] at z
          exact ⟨hb, (Option.some.inj z).symm⟩
        · rw [if_neg hb] at z
          cases z
      refine core (fun b => if b = a then some (.frz { cls := .type "list", data := .seq vs.toArray } (.lst (ns.map V.int))) else none) (fun b => ?_) (.inl (.inr ⟨_, if_pos rfl⟩)) (fun b u z => ?_) (fun b z => ?_)
      · by_cases hb : b = a
        · exact .inr ⟨_, _, if_pos hb⟩
        · exact .inl (if_neg hb)
      · obtain ⟨rfl, rfl⟩ := at_a b u z
        exact ⟨obj, by rw [List.length_map]; exact hl, vs, _, rv, obj⟩
      · by_cases hb : b = a
        · exact ⟨hb, hk⟩
        · exact absurd (if_neg hb) z
  intro H hO hS hok hA
  have isA : ∀ {b : Addr}, (H b = none → False) → b = a ∧ K.lookup a = none := fun {b} z => hA b fun y => z y
  have keepD : ∀ {b : Addr} {o : Obj} {es : Array DictEntry} {ep : Nat}, t.heap.get? b = some o → o.data = .dict es ep → H b = none := fun {b o es ep} e d => by
    cases q : H b with
    | none => rfl
    | some u =>
      obtain ⟨rfl, _⟩ := hA b (by rw [q]; simp)
      rw [obj] at e
      cases e
      cases (show Data.seq vs.toArray _ = Data.dict es ep from d)
  have nsB : ∀ {b : Addr} {m : Str → Option Value}, t.heap.Ns b m → (hidT t.heap H).Ns b m := fun {b m} ⟨o, es, ep, e, d, z⟩ => ⟨o, es, ep, hidT_get e (keepD e d), d, z⟩
  have kB : K.In (hidT t.heap H) := fun b o e => hidT_get (KX b o e) (by
    cases q : H b with
    | none => rfl
    | some u =>
      obtain ⟨rfl, z⟩ := hA b (by rw [q]; simp)
      rw [z] at e
      cases e)
  obtain ⟨mc, l1, l2⟩ := g4
  have hM : Mod K mg (hidT t.heap H) := ⟨kB, nsB g1, ⟨mb, nsB g2, g3⟩, ⟨mc, nsB l1, l2⟩⟩
  have e0 : Env0 P w K mg (hidT t.heap H) callerA [] t H := by
    refine ⟨rfl, hM, fun b o e => of_hidT e, ?_, trivial, fun b hb => ?_, hok, .of_eq g5⟩
    · rw [hidT_size]
      exact Nat.le_refl _
    · cases (show b ∈ ([] : List Addr) from hb)
  refine codeAny_mono ((T _ kB (nsB g1)).run callerA [] t H ⟨[.ref a], []⟩ [.ref a] [.ref a] _ _ hr rfl e0 (hbind t (.ref a)) (.cons rfl .nil) (hsp H hO hS)) fun z s' hz => ?_
  match z, hz with
  | .error e, hz =>
    exfalso
    obtain ⟨_, _, _, _, _, _, _, _, _, _, _, _, y⟩ := hz
    exact y
  | .ok .next, hz => exact hz.elim
  | .ok .brk, hz => exact hz.elim
  | .ok .cont, hz => exact hz.elim
  | .ok (.ret u), hz =>
    obtain ⟨v, H', os, bare, un, hok', ru, q⟩ := hz
    cases (show v = V.bl true from q)
    cases (show u = Value.bool true from ru)
    refine ⟨rfl, OldK.of_keep fun b o e => ?_, os, bare⟩
    cases q : H b with
    | none => exact un.keep b o e q (fun z => by cases (show b ∈ ([] : List Addr) from z)) (by simp)
    | some y =>
      rcases hO b with z | ⟨ob, xs, z⟩
      · rw [q] at z
        cases z
      · obtain ⟨e1, _⟩ := hok b _ z
        obtain ⟨e2, _⟩ := hok' b _ (un.frzs b ob _ z)
        rw [e] at e1
        cases e1
        exact e2
/-- the goal that k_head leaves, from the law's promise -/
theorem walk_G {l : PySem.W.OpenLaw} {n k : Nat} {q : Program} {loose : List Str} {XP : (Str → Option Value) → Heap → Prop} {YP : World → Heap → Prop} {d : DefRec} {K : Params → PySem.W.Frag} {sp : PySem.W.Frag → Sp} {x : Str}
    (hn : l.most = some n) (hn2 : n ≤ sizeLine) (hdf : d.params.defaults = []) (hr : Room k callerA) (hY : ∀ (w : World) (h : Heap), YP w h → (K w.params).In h)
    (T : ∀ (w : World) (mg : Str → Option Value) (fa : Addr) (h : Heap), (K w.params).In h → h.Ns mainGlobals mg → mg d.name = some (.ref fa) →
      ∃ fd : FuncData, (∀ (s : Shared) (u : Value), BindsTo s fd ⟨[u], []⟩ [(x, u)]) ∧ ∀ base : Heap, (K w.params).In base → base.Ns mainGlobals mg → FnG l.prog w (K w.params) mg base k fa fd [x] (sp (K w.params)))
    (hsp : ∀ (K : PySem.W.Frag) (H : Hp) (a : Addr) (ns : List Int), ns.length ≤ n → Only H → SqL K H a (ns.map V.int) → sp K [.ref a] H (fun v _ => v = .bl true) fun _ _ _ => False) :
    PySem.W.WalkO q loose XP YP l.row.toRowW d [] (fun f vs => PySem.call f vs) := by
  refine Att.attach_call hn hdf fun w s₀ t mg mb fa o pm cd doc a vs ns G Y _ _ _ hmg obj hints hlen hg => ?_
  have KX := hY w _ Y
  obtain ⟨fd, hb, hF⟩ := T w mg fa _ KX G.T.g hmg
  exact law_callG KX G.T.g G.T.b G.T.builtins G.T.nolimit hg obj hints (Nat.le_trans hlen hn2) hr hF hb fun H hO hS => hsp (K w.params) H a ns hlen hO hS
/-- the law's promise from what its data function says of every script -/
theorem spLaw {ek : EK} {K : PySem.W.Frag} {f : List D → Res D} {H : Hp} {a : Addr} {ns : List Int} (h : f [.list (ns.map PyData.int)] = .ok (.bool true)) (hS : SqL K H a (ns.map V.int)) :
    spD ek K 1 false f [.ref a] H (fun v _ => v = .bl true) fun _ _ _ => False := by
  have allI : ∀ ns : List Int, DpAll K H (ns.map V.int) (ns.map PyData.int) := fun ns => by
    induction ns with
    | nil => exact .nil
    | cons n r ih => exact .cons (.int n) ih
  refine ⟨H, [.list (ns.map PyData.int)], Same.refl _, .cons (.lst hS (allI ns)) .nil, rfl, ?_⟩
  rw [h]
  intro v G' H' _ hv _
  cases hv
  rfl
end Wk
end

section
set_option Elab.async false
set_option linter.all false
set_option autoImplicit false
set_option maxRecDepth 100000
set_option maxHeartbeats 4000000
/-! EnumT: enumerate of a tuple. -/
namespace Wk
open PySem PySem.Spec PyProof.Rows L2 Dt
open AutoSeq1 (wpAny_loadPart')

theorem enumT_new (t : Addr) (xs : Array Value) (n : Nat) (dd : Option Addr) (sl : Array (Option Value)) :
    Meets (Builtin.«enumerate.__new__» ⟨[.type "enumerate", .ref t], []⟩) (fun _ R s => s.heap.get? t = some { cls := .type "tuple", dict := dd, data := .seq xs n, slots := sl } ∧
      R (.ok (.ret (.ref (s.heap.push { cls := .type "tuple_iterator", data := .fields #[.ref t, .int 0 0] }).objs.size)))
        { s with heap := (s.heap.push { cls := .type "tuple_iterator", data := .fields #[.ref t, .int 0 0] }).push { cls := .type "enumerate", data := .fields #[.none, .bool false, .ref s.heap.objs.size, rawInt 0, .none, .none] } }) := by
  refine .of_wp fun prog w A R s hh => ?_
  obtain ⟨hp, gg, dr, tk, os⟩ := s
  obtain ⟨ht, hR⟩ := hh
  have sub1 := sub_enumerate
  have hT : Heap.IsTuple (Shared.heap ⟨hp, gg, dr, tk, os⟩) t xs := ⟨_, ht, rfl, n, rfl⟩
  wp_walk using wpAny_loadPart' ht
  refine wpAny_stack_any fun st => wpAny_pure ?_
  split
  · rename_i c _ _ _ _ _
    cases (c == Value.type "enumerate")
    · wp_walk using wpAny_loadPart' ht, wpAny_pyIter_tuple hT
      exact ⟨_, rfl, hR⟩
    · wp_walk using wpAny_loadPart' ht, wpAny_pyIter_tuple hT
      exact ⟨_, rfl, hR⟩
  · wp_walk using wpAny_loadPart' ht, wpAny_pyIter_tuple hT
    exact ⟨_, rfl, hR⟩
section
variable {prog : Program} {w : World} {A : Around} {E : Value → Shared → Prop} {s : Shared}
theorem enumT_call {t : Addr} {xs : Array Value} {Q : Value → Shared → Prop} (hT : s.heap.IsTuple t xs)
    (h : ∀ h', IsEnum h' (s.heap.objs.size + 1) s.heap.objs.size 0 .none → h'.IsTupleIter s.heap.objs.size t 0 → h'.objs.size = s.heap.objs.size + 2 → (∀ b o, s.heap.get? b = some o → h'.get? b = some o) →
      Q (.ref (s.heap.objs.size + 1)) { s with heap := h' }) : wpAny (model prog w) A (call (.type "enumerate") [.ref t]) Q E s := by
  obtain ⟨⟨c, dd, dt, sl⟩, ht, hc, n, hd⟩ := hT
  simp only at hc hd
  subst hc hd
  refine callType_new F.called_enumerate (by decide) (F.typeCall_enumerate_1 _) (F.newCall_enumerate_1 _)
    (fun ob => F.args_object_init_2 ob _) F.entry_enumerate_new (enumT_new t xs n dd sl) ⟨ht, ?_⟩
  generalize hh1 : s.heap.push { cls := .type "tuple_iterator", data := .fields #[.ref t, .int 0 0] } = h1
  have z1 : h1.objs.size = s.heap.objs.size + 1 := by rw [← hh1]; exact Heap.size_push ..
  have g1 : h1.get? s.heap.objs.size = some { cls := .type "tuple_iterator", data := .fields #[.ref t, .int 0 0] } := by rw [← hh1]; exact Heap.get?_push_size _ rfl
  have k1 : ∀ b o, s.heap.get? b = some o → h1.get? b = some o := fun b o e => by rw [← hh1]; exact Heap.get?_push_of_some _ e
  show _ ∧ _
  rw [z1]
  have en : IsEnum (h1.push { cls := .type "enumerate", data := .fields #[.none, .bool false, .ref s.heap.objs.size, rawInt 0, .none, .none] }) (s.heap.objs.size + 1) s.heap.objs.size 0 .none := by
    have y := Heap.get?_push_size h1 (o := { cls := .type "enumerate", data := .fields #[.none, .bool false, .ref s.heap.objs.size, rawInt 0, .none, .none] }) rfl
    rw [z1] at y
    exact y
  exact ⟨⟨_, en, rfl⟩, h _ en ⟨_, Heap.get?_push_of_some _ g1, rfl, rfl⟩ (by rw [Heap.size_push, z1]) fun b o e => Heap.get?_push_of_some _ (k1 b o e)⟩
theorem enumT_next {en ti t : Addr} {j : Nat} {xs : Array Value} {x old : Value} {Q : Value → Shared → Prop} (he : IsEnum s.heap en ti j old) (hit : s.heap.IsTupleIter ti t j) (ht : s.heap.IsTuple t xs) (hx : xs[j]? = some x) (hne : en ≠ ti)
    (hQ : ∀ h', IsEnumOut h' en ti ((j : Int) + 1) x s.heap.objs.size → h'.IsTupleIter ti t (j + 1) → h'.get? s.heap.objs.size = some { cls := .type "tuple", data := .seq #[.int j s.toks, x] } → h'.objs.size = s.heap.objs.size + 1 →
      (∀ b o, b ≠ en → b ≠ ti → s.heap.get? b = some o → h'.get? b = some o) → Q (.ref s.heap.objs.size) { s with heap := h', toks := s.toks + 1 }) :
    wpAny (model prog w) A (Builtin.«enumerate.__next__» ⟨[.ref en], []⟩) (fun fin s' => ∃ v, fin = .done (.ret v) ∧ Q v s') E s := by
  obtain ⟨hp, gg, dr, tk, os⟩ := s
  have hel : en < hp.objs.size := Heap.lt_size he
  show wpAny _ _ (field (.ref en) 2 >>= _) _ _ _
  refine wpAny_bind (wpAny_field he rfl (x := .ref ti) rfl ?_)
  refine wpAny_bind (RZ.nextOf_tuple_item hit ht hx fun h1 i1 s1 => ?_)
  replace s1 : Heap.SameBut ti hp h1 := s1
  have e1 : IsEnum h1 en ti j old := (s1.2 en hne).trans he
  show wpAny _ _ (field (.ref en) 3 >>= _) _ _ ⟨h1, gg, dr, tk, os⟩
  refine wpAny_bind (wpAny_field e1 rfl (x := rawInt j) rfl ?_)
  show wpAny _ _ (field (.ref en) 4 >>= _) _ _ ⟨h1, gg, dr, tk, os⟩
  refine wpAny_bind (wpAny_field e1 rfl (x := .none) rfl ?_)
  show wpAny _ _ (mkInt j >>= _) _ _ ⟨h1, gg, dr, tk, os⟩
  refine wpAny_bind (wpAny_mkInt ?_)
  show wpAny _ _ (setField (.ref en) 3 (rawInt ((j : Int) + 1)) >>= _) _ _ ⟨h1, gg, dr, tk + 1, os⟩
  refine wpAny_bind (wpAny_setField_rec e1 (by simp) fun h2 e2 s2 => ?_)
  replace s2 : Heap.SameBut en h1 h2 := s2
  replace e2 : IsEnum h2 en ti ((j : Int) + 1) old := e2
  show wpAny _ _ (setField (.ref en) 4 .none >>= _) _ _ ⟨h2, gg, dr, tk + 1, os⟩
  refine wpAny_bind (wpAny_setField_rec e2 (by simp) fun h3 e3 s3 => ?_)
  replace s3 : Heap.SameBut en h2 h3 := s3
  replace e3 : IsEnum h3 en ti ((j : Int) + 1) old := e3
  show wpAny _ _ (newTuple [.int j tk, x] >>= _) _ _ ⟨h3, gg, dr, tk + 1, os⟩
  refine wpAny_bind (wpAny_newTuple ?_)
  have z3 : h3.objs.size = hp.objs.size := by rw [s3.1, s2.1, s1.1]
  have keep3 : ∀ b o, b ≠ en → b ≠ ti → hp.get? b = some o → h3.get? b = some o := fun b o q1 q2 q => s3.extBut b o q1 (s2.extBut b o q1 (s1.extBut b o q2 q))
  have i3 : h3.IsTupleIter ti t (j + 1) := (i1.extBut s2.extBut (Ne.symm hne)).extBut s3.extBut (Ne.symm hne)
  obtain ⟨h4, hh4⟩ : ∃ h4, h3.push { cls := .type "tuple", data := .seq #[.int j tk, x] } = h4 := ⟨_, rfl⟩
  have e4 : IsEnum h4 en ti ((j : Int) + 1) old := by rw [← hh4]; exact Heap.get?_push_of_some _ e3
  have t4 : h4.get? hp.objs.size = some { cls := .type "tuple", data := .seq #[.int j tk, x] } := by rw [← hh4, ← z3]; exact Heap.get?_push_size _ rfl
  have z4 : h4.objs.size = hp.objs.size + 1 := by rw [← hh4, Heap.size_push, z3]
  have k4 : ∀ b o, b ≠ en → b ≠ ti → hp.get? b = some o → h4.get? b = some o := fun b o q1 q2 q => by rw [← hh4]; exact Heap.get?_push_of_some _ (keep3 b o q1 q2 q)
  have i4 : h4.IsTupleIter ti t (j + 1) := by
    obtain ⟨ob, q, r⟩ := i3
    exact ⟨ob, by rw [← hh4]; exact Heap.get?_push_of_some _ q, r⟩
  rw [hh4]
  show wpAny _ _ (Builtin.SmallTypes.ownedTupleIsFree (.ref en) >>= _) _ _ ⟨h4, gg, dr, tk + 1, os⟩
  rw [z3]
  refine wpAny_bind ?_
  unfold Builtin.SmallTypes.ownedTupleIsFree
  refine wpAny_bind (wpAny_field e4 rfl (x := .none) rfl (wpAny_pure ?_))
  simp only [if_true]
  refine wpAny_bind (wpAny_rule ?_)
  refine wpAny_bind (wpAny_field e4 rfl (x := old) rfl ?_)
  refine wpAny_bind (wpAny_setField_rec e4 (by simp) fun h5 e5 s5 => ?_)
  replace s5 : Heap.SameBut en h4 h5 := s5
  replace e5 : IsEnum h5 en ti ((j : Int) + 1) x := e5
  show wpAny _ _ (Builtin.SmallTypes.ownedTupleHandOut (.ref en) (.ref hp.objs.size) >>= _) _ _ ⟨h5, gg, dr, tk + 1, os⟩
  refine wpAny_bind ?_
  unfold Builtin.SmallTypes.ownedTupleHandOut
  refine wpAny_bind (wpAny_setField_rec e5 (by simp) fun h6 e6 s6 => ?_)
  replace s6 : Heap.SameBut en h5 h6 := s6
  replace e6 : IsEnumOut h6 en ti ((j : Int) + 1) x hp.objs.size := e6
  refine wpAny_setField_rec e6 (by simp) fun h7 e7 s7 => ?_
  replace s7 : Heap.SameBut en h6 h7 := s7
  replace e7 : IsEnumOut h7 en ti ((j : Int) + 1) x hp.objs.size := e7
  refine wpAny_bind (wpAny_letGo (wpAny_pure ⟨_, rfl, hQ h7 e7 ?_ ?_ ?_ ?_⟩))
  · exact ((i4.extBut s5.extBut (Ne.symm hne)).extBut s6.extBut (Ne.symm hne)).extBut s7.extBut (Ne.symm hne)
  · have nq : hp.objs.size ≠ en := Nat.ne_of_gt hel
    exact s7.extBut _ _ nq (s6.extBut _ _ nq (s5.extBut _ _ nq t4))
  · rw [s7.1, s6.1, s5.1, z4]
  · exact fun b o q1 q2 q => s7.extBut b o q1 (s6.extBut b o q1 (s5.extBut b o q1 (k4 b o q1 q2 q)))
theorem enumT_pyNext {en ti t : Addr} {j : Nat} {xs : Array Value} {x old : Value} {Q : Option Value → Shared → Prop} (he : IsEnum s.heap en ti j old) (hit : s.heap.IsTupleIter ti t j) (ht : s.heap.IsTuple t xs) (hx : xs[j]? = some x) (hne : en ≠ ti)
    (hQ : ∀ h', IsEnumOut h' en ti ((j : Int) + 1) x s.heap.objs.size → h'.IsTupleIter ti t (j + 1) → h'.get? s.heap.objs.size = some { cls := .type "tuple", data := .seq #[.int j s.toks, x] } → h'.objs.size = s.heap.objs.size + 1 →
      (∀ b o, b ≠ en → b ≠ ti → s.heap.get? b = some o → h'.get? b = some o) → Q (some (.ref s.heap.objs.size)) { s with heap := h', toks := s.toks + 1 }) :
    wpAny (model prog w) A (pyNext (.ref en)) Q E s := by
  have ty : s.TypeIs (.ref en) "enumerate" := ⟨_, he, rfl⟩
  unfold pyNext
  refine wpAny_bind (wpAny_attempt (wpAny_callSpecial?_slot (name := Str.ofString "__next__") ty F.slot_enumerate_next
    (wpAny_call_entry F.slot_enumerate_next ty F.entry_enumerate_next ?_ (F.args_enumerate_next_1 _))))
  exact enumT_next he hit ht hx hne fun h' a b c d e => wpAny_pure (hQ h' a b c d e)
theorem enumT_end {en ti t : Addr} {j : Nat} {xs : Array Value} {old : Value} {Q : Option Value → Shared → Prop} (hh : A.handled = none) (he : IsEnum s.heap en ti j old) (hit : s.heap.IsTupleIter ti t j) (ht : s.heap.IsTuple t xs) (hx : xs[j]? = none)
    (hQ : ∀ h', Heap.ExtBut ti s.heap h' → Q none { s with heap := h' }) : wpAny (model prog w) A (pyNext (.ref en)) Q E s := by
  have ty : s.TypeIs (.ref en) "enumerate" := ⟨_, he, rfl⟩
  unfold pyNext
  refine wpAny_bind (wpAny_attempt (wpAny_callSpecial?_slot (name := Str.ofString "__next__") ty F.slot_enumerate_next
    (wpAny_call_entry F.slot_enumerate_next ty F.entry_enumerate_next ?_ (F.args_enumerate_next_1 _))))
  show wpAny _ _ (field (.ref en) 2 >>= _) _ _ _
  refine wpAny_bind (wpAny_field he rfl (x := .ref ti) rfl ?_)
  refine wpAny_bind (RZ.nextOf_tuple_end hh hit ht hx fun h' y q1 ⟨o, q2, q3⟩ => ?_)
  exact wpAny_bind (wpAny_isInstance (T := "StopIteration") (b := true) ⟨o, q2, q3⟩ isSubtype_stop (wpAny_pure (hQ _ q1)))
end
/-- the tuple at a, each item in a new pair -/
def IteT (K : PySem.W.Frag) (a : Addr) : It :=
  ⟨fun i H => ∃ (xs : List V) (x : V), SqT K H a xs ∧ xs[i]? = some x,
   fun i H v H' => ∃ T x, v = .ref T ∧ H T = none ∧ H' = upd H T (.tup [.int (i : Nat), x]) ∧ ∀ xs, SqT K H a xs → xs[i]? = some x,
   fun i H => ∃ xs : List V, SqT K H a xs ∧ xs.length ≤ i⟩
theorem turn_enumT {P : Program} {w : World} {K : PySem.W.Frag} {elts : List Expr} {kk : Nat} {tpos : Pos} (a en ti : Addr) :
    Turn P w K (.Tuple elts kk tpos) (IteT K a) [en, ti] en (fun j h => (∃ old, IsEnum h en ti ((j : Nat) : Int) old) ∧ h.IsTupleIter ti a j ∧ en ≠ ti) := by
  refine ⟨by simp, fun j h st b hb => ?_, fun j h h' st k => ?_, ?_, ?_, fun A j s Q E st h => let ⟨⟨_, he⟩, _⟩ := st; wpAny_pyIter_enum he h⟩
  · obtain ⟨⟨old, he⟩, ⟨o, ho, hc, hd⟩, _⟩ := st
    rcases (by simpa using hb : b = en ∨ b = ti) with z | z
    · rw [z]
      exact ⟨_, he, fun v q => nomatch q⟩
    · rw [z]
      exact ⟨o, ho, fun v q => by rw [hd] at q; cases q⟩
  · obtain ⟨⟨old, he⟩, ⟨o, ho, r⟩, hne⟩ := st
    exact ⟨⟨old, k en (by simp) _ he⟩, ⟨o, k ti (by simp) _ ho, r⟩, hne⟩
  · intro X hP hw hK hc j pins s σ H E I hf ⟨⟨old, he⟩, hit, hne⟩ ⟨xs, x, hq, hx⟩
    subst hP hw hK
    obtain ⟨its, rv, pt, hz⟩ := I.tuple hq
    obtain ⟨u, hu, ru⟩ := rv.get hx
    have lt1 : en < s.heap.objs.size := Heap.lt_size he
    have lt2 : ti < s.heap.objs.size := by
      obtain ⟨_, q, _⟩ := hit
      exact Heap.lt_size q
    refine enumT_pyNext he hit pt (x := u) (by simpa using hu) hne fun h' ho hit' hT hsz hk => ⟨_, rfl, ?_⟩
    refine wpAny_letOwnedTupleGo_enum (s := { s with heap := h', toks := s.toks + 1 }) ho fun h2 he2 sb => ?_
    have hT2 : h2.get? s.heap.objs.size = some { cls := .type "tuple", data := .seq #[.int j s.toks, u] } := (sb.2 _ (Nat.ne_of_gt lt1)).trans hT
    have new : ObjOk X.prog X.w (upd H s.heap.objs.size (.tup [.int (j : Nat), x])) h2 s.heap.objs.size (.tup [.int (j : Nat), x]) := by
      refine ⟨by show 2 ≤ sizeLine; decide, [.int j s.toks, u], .cons ⟨_, rfl⟩ (.cons ru .nil), ?_⟩
      exact ⟨_, hT2, rfl, _, rfl⟩
    have I1 : L2.Inv X pins σ (upd H s.heap.objs.size (.tup [.int (j : Nat), x])) { s with heap := h2, toks := s.toks + 1 } := by
      refine I.turnedNew (ch := [en, ti]) (fun b ob hb q => ?_) hf (Nat.le_refl _) new
      have n1 : b ≠ en := fun z => hb (by simp [z])
      have n2 : b ≠ ti := fun z => hb (by simp [z])
      exact (sb.2 b n1).trans (hk b ob n1 n2 q)
    refine ⟨.ref s.heap.objs.size, _, I1, rfl, ⟨_, x, rfl, I.hok.fresh (Nat.le_refl _), rfl, fun ys hy => by rw [I.tuple_inj hy hq]; exact hx⟩, ⟨⟨u, ?_⟩, ?_, hne⟩, fun b hb => ?_⟩
    · have e1 : ((j + 1 : Nat) : Int) = (j : Int) + 1 := by omega
      rw [e1]
      exact he2
    · obtain ⟨o, q, r⟩ := hit'
      exact ⟨o, (sb.2 ti (Ne.symm hne)).trans q, r⟩
    · have hb' : b < s.heap.objs.size := by
        rcases (by simpa using hb : b = en ∨ b = ti) with z | z
        · rw [z]; exact lt1
        · rw [z]; exact lt2
      rw [upd_ne (Nat.ne_of_lt hb')]
      exact (hf b hb).1
  · intro X hP hw hK hc j pins s σ H E I hf ⟨⟨old, he⟩, hit, hne⟩ ⟨xs, hq, hx⟩
    subst hP hw hK
    obtain ⟨its, rv, pt, hz⟩ := I.tuple hq
    obtain ⟨f0, f1, f2, f3, f4, f5⟩ := hf ti (by simp)
    have hl := rv.length
    refine enumT_end (I.ok.hd hc) he hit pt (by simp; omega) fun h' eb => ⟨rfl, ?_⟩
    exact I.turned (t' := s.toks) (fun b o hb q => eb b o hb q) f0 f1 f3 f4 f5
def iEnumT (K : PySem.W.Frag) (ta : TA) : TI := fun σ H R => ta σ H fun vs H1 => ∃ a xs, vs = [.ref a] ∧ SqT K H1 a xs ∧ R (IteT K a) H1
theorem pi_enumT {X : Cx} {e : Expr} {ta : TA} {p pos tpos : Pos} {elts : List Expr} {kk : Nat} (hg : Gl X "enumerate") (hm : X.mg "enumerate" = none) (ha : PA X [e] ta) (hs : starEach [e] X.env = [(false, eval e X.env)] := by rfl) :
    PI X (.Tuple elts kk tpos) (.Call (.Name "enumerate" p) [e] [] pos) (iEnumT X.K ta) := by
  refine ⟨fun pins s σ H R I h => Call_ (ld_blt I hg hm boot_enumerate ?_)⟩
  refine PyProof.Rows.callWith_type1 (thn (ha.run pos pins s σ H _ I h) fun us s1 ⟨vs, H1, I1, r1, a, xs, ex, hq, q⟩ => ?_) hs rfl
  subst ex
  obtain ⟨u, rfl, ru⟩ := vals1 r1
  cases ru
  obtain ⟨its, rv, pt, hz⟩ := I1.tuple hq
  refine enumT_call pt fun h' he hit hsz hk => wpAny_pyIter_enum he ?_
  have I2 : L2.Inv X pins σ H1 { s1 with heap := h' } := I1.kept (t' := s1.toks) hk
  refine ⟨s1.heap.objs.size + 1, [s1.heap.objs.size + 1, s1.heap.objs.size], _, _, H1, rfl, I2, turn_enumT a (s1.heap.objs.size + 1) s1.heap.objs.size, ⟨⟨.none, he⟩, hit, Nat.succ_ne_self _⟩, fun b hb => ?_, q⟩
  have hle : s1.heap.objs.size ≤ b := by
    rcases (by simpa using hb : b = s1.heap.objs.size + 1 ∨ b = s1.heap.objs.size) with z | z
    · rw [z]; exact Nat.le_add_right _ _
    · rw [z]; exact Nat.le_refl _
  exact I1.fpOk hle (I1.hok.fresh hle)
theorem walk_enumT {K : PySem.W.Frag} {a : Addr} {xs : List V} : Walk (IteT K a) xs.length (fun H => SqT K H a xs) (YPair (fun i => some (.int (i : Nat))) (fun i => xs[i]?)) := by
  refine ⟨fun i H hi h => ⟨xs, xs[i], h, List.getElem?_eq_getElem hi⟩, fun H h => ⟨xs, h, Nat.le_refl _⟩, fun i H v H' hi h ⟨T, x, e1, e2, e3, e4⟩ => ?_⟩
  exact ⟨T, .int (i : Nat), x, e1, e2, e3, rfl, e4 xs h⟩
theorem enumL_get {xs : List D} {i : Nat} {z : D} (h : ((List.range xs.length).zipWith (fun (i : Nat) x => PyData.tuple [.int i, x]) xs)[i]? = some z) : ∃ d, xs[i]? = some d ∧ z = .tuple [.int (i : Nat), d] := by
  rw [List.getElem?_zipWith] at h
  cases e : (List.range xs.length)[i]? with
  | none =>
    rw [e] at h
    cases h
  | some j =>
    obtain ⟨h1, h2⟩ := List.getElem?_eq_some_iff.mp e
    rw [List.getElem_range] at h2
    subst h2
    rw [e] at h
    cases e2 : xs[i]? with
    | none =>
      rw [e2] at h
      cases h
    | some d =>
      rw [e2] at h
      exact ⟨d, rfl, (Option.some.inj h).symm⟩
theorem dwalk_pair {K : PySem.W.Frag} {J : It} {F : Hp} {vs : List V} {xs : List D} {Gp : Hp → Prop} (wk : Walk J vs.length Gp (YPair (fun i => some (.int (i : Nat))) (fun i => vs[i]?))) (hG : ∀ H, Same F H → Gp H) (hd : DpAll K F vs xs) :
    DWalk K J F (fun _ => True) ((List.range xs.length).zipWith (fun (i : Nat) x => PyData.tuple [.int i, x]) xs) := by
  refine ⟨Gp, YPair (fun i => some (.int (i : Nat))) (fun i => vs[i]?), ?_, fun H s _ => hG H s, fun i z H x H' hi s _ hy => ?_⟩
  · have hl : ((List.range xs.length).zipWith (fun (i : Nat) x => PyData.tuple [.int i, x]) xs).length = vs.length := by simp [dps_len hd]
    rw [hl]
    exact wk
  · obtain ⟨d, h1, rfl⟩ := enumL_get hi
    obtain ⟨T, a, b, rfl, n1, rfl, e1, e2⟩ := hy
    obtain ⟨v, h2, h3⟩ := dps_get hd h1
    have e3 : v = b := Option.some.inj (h2.symm.trans e2)
    subst e3
    cases e1
    refine .inr ⟨T, _, n1, rfl, .tup (SqT.of upd_same) (.cons (.int _) (.cons (dp_same (fun c o q => ?_) _ h3) .nil))⟩
    rw [upd_ne (ne_of_none (s _ _ q) n1)]
    exact q
section
variable {X : Cx} {ek : EK} {W : WX} {O : List Nat} {e : Expr} {elts : List Expr} {f : Fx} {pos p tpos : Pos} {kk : Nat}
/-- for i, x in enumerate(xs), xs a list or a tuple that stands still -/
theorem di_enum (hm : X.mg "enumerate" = none) (he : PE X e (tD ek X.K W O true f)) (hg : Gl X "enumerate" := by rfl) (hs : starEach [e] X.env = [(false, eval e X.env)] := by rfl) (hs2 : starEach [e] X.env = (false, eval e X.env) :: starEach [] X.env := by rfl) :
    PI X (.Tuple elts kk tpos) (.Call (.Name "enumerate" p) [e] [] pos) (tI ek X.K W O true (iEnum f)) := by
  refine ⟨fun pins s σ H R I ⟨G, δ, A, q⟩ => ?_⟩
  cases hf : f δ with
  | ok d =>
    cases d with
    | list xs =>
      refine (pi_enum hg hm (pa_cons he pa_nil hs2) hs).run pins s σ H R I (tD_bind (m := true) (k := wEnum) A mono_PIt q fun d v G1 H1 hd g1 A1 w1 q1 => ?_)
      rw [hf] at hd
      cases hd
      have q2 : PIt true X.K R _ G1 H1 := q1
      have h := w1.still
      cases h with
      | lst hs ha => exact ⟨_, _, rfl, A1.sf.seq hs, q2 _ G1 H1 _ (Grow.self A1.sf) (dwalk_pair walk_enum (fun H s => s.seq hs) ha) (fun _ _ => trivial) (fun _ _ => trivial)⟩
    | tuple xs =>
      refine (pi_enumT hg hm (pa_cons he pa_nil hs2) hs).run pins s σ H R I (tD_bind (m := true) (k := wEnum) A mono_PIt q fun d v G1 H1 hd g1 A1 w1 q1 => ?_)
      rw [hf] at hd
      cases hd
      have q2 : PIt true X.K R _ G1 H1 := q1
      have h := w1.still
      cases h with
      | tup hs ha => exact ⟨_, _, rfl, seqT_same A1.sf hs, q2 _ G1 H1 _ (Grow.self A1.sf) (dwalk_pair walk_enumT (fun H s => seqT_same s hs) ha) (fun _ _ => trivial) (fun _ _ => trivial)⟩
    | none =>
      unfold Dt.iEnum at q
      rw [hf] at q
      exact q.elim
    | bool i =>
      unfold Dt.iEnum at q
      rw [hf] at q
      exact q.elim
    | int i =>
      unfold Dt.iEnum at q
      rw [hf] at q
      exact q.elim
    | str i =>
      unfold Dt.iEnum at q
      rw [hf] at q
      exact q.elim
    | dict i =>
      unfold Dt.iEnum at q
      rw [hf] at q
      exact q.elim
  | ex x =>
    refine (pi_enum hg hm (pa_cons he pa_nil hs2) hs).run pins s σ H R I ⟨G, δ, A, ?_⟩
    unfold Dt.iEnum at q
    rw [hf] at q ⊢
    exact q
  | er =>
    unfold Dt.iEnum at q
    rw [hf] at q
    exact q.elim
end
end Wk
end

section
set_option Elab.async false
set_option linter.all false
set_option autoImplicit false
/-! printed by gen.py: the data functions -/
namespace K83
open PySem Dt
/-- cut(line): 0 line, 1 last -/
def g_cut : Sx := (sSeq (sSet 1 (xN bLen (aCons (xName 0) aNil)))
  (sSeq (sWh (fun δ => match look δ 1 with | some (.int i) => i.toNat + 1 | _ => 0) (tAnd (tB (x2 oGt (xName 1) (xC (.int 0)))) (tB (x2 oEq (x2 oIx (xName 0) (x2 oSub (xName 1) (xC (.int 1)))) (xC (.int 0))))) (sSeq (sSet 1 (x2 oSub (xName 1) (xC (.int 1))))
  sNx))
  (sSeq (sRet (xN bList (aCons (xCut (xName 0) pNo (pAt (xName 1))) aNil)))
  sNx)))
def f_cut : List D → Res D := runD 2 1 g_cut

/-- stair_below(stairs, length): 0 stairs, 1 length, 2 found, 3 stair -/
def g_stair_below : Sx := (sSeq (sSet 2 (xC .none))
  (sSeq (sFor (iSeq (xName 0)) (gN 3) (sSeq (sIf (tB (x2 oLe (xN bLen (aCons (xName 3) aNil)) (xName 1))) (sSeq (sSet 2 (xName 3))
  sNx) sNx)
  sNx))
  (sSeq (sRet (xName 2))
  sNx)))
def f_stair_below : List D → Res D := runD 4 2 g_stair_below

/-- stair_rest(stairs, line): 0 stairs, 1 line, 2 left, 3 degree, 4 stair, 5 factor, 6 place, 7 index, 8 number -/
def g_stair_rest : Sx := (sSeq (sSet 2 (xN bList (aCons (xName 1) aNil)))
  (sSeq (sFor (iRange (aCons (x2 oSub (xN bLen (aCons (xName 1) aNil)) (xC (.int 1))) (aCons (x1 oNeg (xC (.int 1))) (aCons (x1 oNeg (xC (.int 1))) aNil)))) (gN 3) (sSeq (sSet 4 (xN f_stair_below (aCons (xName 0) (aCons (x2 oAdd (xName 3) (xC (.int 1))) aNil))))
  (sSeq (sIf (tB (x1 oNotN (xName 4))) (sSeq (sSet 5 (x2 oDiv (x2 oIx (xName 2) (xName 3)) (x2 oIx (xName 4) (x1 oNeg (xC (.int 1))))))
  (sSeq (sSet 6 (x2 oSub (x2 oAdd (xName 3) (xC (.int 1))) (xN bLen (aCons (xName 4) aNil))))
  (sSeq (sFor (iEnum (xName 4)) (gT [7, 8]) (sSeq (sIx 2 (x2 oAdd (xName 6) (xName 7)) (x2 oSub (x2 oIx (xName 2) (x2 oAdd (xName 6) (xName 7))) (x2 oMul (xName 5) (xName 8))))
  sNx))
  sNx))) sNx)
  sNx)))
  (sSeq (sRet (xN bTuple (aCons (xN f_cut (aCons (xName 2) aNil)) aNil)))
  sNx)))
def f_stair_rest : List D → Res D := runD 9 2 g_stair_rest

/-- stair_holds(stairs, line): 0 stairs, 1 line -/
def g_stair_holds : Sx := (sSeq (sRet (x2 oEq (xN f_stair_rest (aCons (xName 0) (aCons (xName 1) aNil))) (xN dTuple aNil)))
  sNx)
def f_stair_holds : List D → Res D := runD 2 2 g_stair_holds

/-- _law_cell(script, k): 0 script, 1 k, 2 seed, 3 cell -/
def g_l_cell : Sx := (sSeq (sIf (tB (x2 oLt (xName 1) (xN bLen (aCons (xName 0) aNil)))) (sSeq (sRet (x2 oIx (xName 0) (xName 1)))
  sNx) sNx)
  (sSeq (sSet 2 (xC (.int 17)))
  (sSeq (sFor (iSeq (xName 0)) (gN 3) (sSeq (sSet 2 (x2 oMod (xN bInt (aCons (x2 oAdd (x2 oMul (xName 2) (xC (.int 31))) (x2 oMod (xN bInt (aCons (xName 3) aNil)) (xC (.int 1000003)))) aNil)) (xC (.int 1000003))))
  sNx))
  (sSeq (sRet (x2 oMod (xN bInt (aCons (x2 oMul (x2 oMul (x2 oAdd (xName 2) (xC (.int 7))) (x2 oAdd (xName 1) (xC (.int 3)))) (xC (.int 69621))) aNil)) (xC (.int 2147483647))))
  sNx))))
def f_l_cell : List D → Res D := runD 4 2 g_l_cell

/-- _law_digits(cell, bases): 0 cell, 1 bases, 2 row, 3 number, 4 base, 5 seed, 6 k, 7 twice -/
def g_l_digits : Sx := (sSeq (sSet 2 (xN dList aNil))
  (sSeq (sSet 3 (xN bInt (aCons (xName 0) aNil)))
  (sSeq (sIf (tB (x2 oGe (xName 3) (x2 oPow (xC (.int 10)) (xC (.int 18))))) (sSeq (sSet 3 (x2 oSub (xName 3) (x2 oPow (xC (.int 10)) (xC (.int 18)))))
  (sSeq (sFor (iSeq (xName 1)) (gN 4) (sSeq (sApp 2 (x2 oMod (xN bInt (aCons (xName 3) aNil)) (xName 4)))
  (sSeq (sSet 3 (x2 oDiv (xN bInt (aCons (xName 3) aNil)) (xName 4)))
  sNx)))
  (sSeq (sRet (xName 2))
  sNx))) sNx)
  (sSeq (sSet 5 (x2 oMod (xN bInt (aCons (xName 3) aNil)) (xC (.int 2147483629))))
  (sSeq (sFor (iRange (aCons (xN bLen (aCons (xName 1) aNil)) aNil)) (gN 6) (sSeq (sSet 5 (x2 oMod (xN bInt (aCons (x2 oAdd (x2 oAdd (x2 oMul (xName 5) (xC (.int 48271))) (x2 oMul (xC (.int 974711)) (xName 6))) (xC (.int 12345))) aNil)) (xC (.int 2147483647))))
  (sSeq (sSet 7 (x2 oMod (xN bInt (aCons (x2 oMul (xName 5) (x2 oAdd (x2 oDiv (xName 5) (xC (.int 65537))) (xC (.int 3)))) aNil)) (xC (.int 2147483629))))
  (sSeq (sApp 2 (x2 oMod (x2 oDiv (xName 7) (xC (.int 19))) (x2 oIx (xName 1) (xName 6))))
  sNx))))
  (sSeq (sRet (xName 2))
  sNx))))))
def f_l_digits : List D → Res D := runD 8 2 g_l_digits

/-- _law_sum(one, two, number, shift): 0 one, 1 two, 2 number, 3 shift, 4 total, 5 k -/
def g_l_sum : Sx := (sSeq (sSet 4 (xComp (iRange (aCons (xN bMax (aCons (xN bLen (aCons (xName 0) aNil)) (aCons (x2 oAdd (xN bLen (aCons (xName 1) aNil)) (xName 3)) aNil))) aNil)) [5] (gN 5) tYes (xC (.int 0))))
  (sSeq (sFor (iRange (aCons (xN bLen (aCons (xName 0) aNil)) aNil)) (gN 5) (sSeq (sIx 4 (xName 5) (x2 oAdd (x2 oIx (xName 4) (xName 5)) (x2 oIx (xName 0) (xName 5))))
  sNx))
  (sSeq (sFor (iRange (aCons (xN bLen (aCons (xName 1) aNil)) aNil)) (gN 5) (sSeq (sIx 4 (x2 oAdd (xName 5) (xName 3)) (x2 oAdd (x2 oIx (xName 4) (x2 oAdd (xName 5) (xName 3))) (x2 oMul (xName 2) (x2 oIx (xName 1) (xName 5)))))
  sNx))
  (sSeq (sRetN (xName 4))
  sNx))))
def f_l_sum : List D → Res D := runD 6 4 g_l_sum

/-- _law_product(one, two): 0 one, 1 two, 2 total, 3 k -/
def g_l_product : Sx := (sSeq (sSet 2 (xN dList aNil))
  (sSeq (sFor (iRange (aCons (xN bLen (aCons (xName 1) aNil)) aNil)) (gN 3) (sSeq (sSet 2 (x1 oLst (xN f_l_sum (aCons (xName 2) (aCons (xName 0) (aCons (x2 oIx (xName 1) (xName 3)) (aCons (xName 3) aNil)))))))
  sNx))
  (sSeq (sRetN (xName 2))
  sNx)))
def f_l_product : List D → Res D := runD 4 2 g_l_product

/-- _law_gcd(one, two): 0 one, 1 two, 2 first, 3 second -/
def g_l_gcd : Sx := (sSeq (sSet 2 (xN bAbs (aCons (xName 0) aNil)))
  (sSeq (sSet 3 (xN bAbs (aCons (xName 1) aNil)))
  (sSeq (sWh (fun δ => match look δ 3 with | some (.int i) => i.natAbs + 1 | _ => 0) (tB (x2 oNe (xName 3) (xC (.int 0)))) (sSeq (sPar 2 3 (xName 3) (x2 oMod (xN bInt (aCons (xName 2) aNil)) (xName 3)))
  sNx))
  (sSeq (sRet (xName 2))
  sNx))))
def f_l_gcd : List D → Res D := runD 4 2 g_l_gcd

/-- _law_within(line): 0 line, 1 number -/
def g_l_within : Sx := (sSeq (sRet (xAnd (x2 oLe (xN bLen (aCons (xName 0) aNil)) (xC (.int 20))) (x2 oEq (xN bLen (aCons (xComp (iSeq (xName 0)) [1] (gN 1) (tB (x2 oGt (xN bAbs (aCons (xName 1) aNil)) (x2 oPow (xC (.int 10)) (xC (.int 6))))) (xName 1)) aNil)) (xC (.int 0)))))
  sNx)
def f_l_within : List D → Res D := runD 2 1 g_l_within

/-- _law_head(heads, factors, row, tall): 0 heads, 1 factors, 2 row, 3 tall, 4 head, 5 k, 6 times, 7 back, 8 place, 9 shift, 10 factor -/
def g_l_head : Sx := (sSeq (sSet 4 (x1 oLst (xN f_l_product (aCons (x2 oIx (xName 0) (x1 oNeg (xC (.int 1)))) (aCons (x2 oAdd (xComp (iRange (aCons (x2 oAdd (xC (.int 1)) (x2 oMod (xN bInt (aCons (x2 oIx (xName 2) (xC (.int 0))) aNil)) (x2 oAdd (xC (.int 2)) (x2 oMul (xC (.int 2)) (xName 3))))) aNil)) [5] (gN 5) tYes (x2 oSub (x2 oIx (xName 2) (x2 oAdd (xC (.int 1)) (xName 5))) (xC (.int 3)))) (xN dList (aCons (xC (.int 1)) aNil))) aNil)))))
  (sSeq (sSet 6 (xC (.int 1)))
  (sSeq (sFor (iRange (aCons (xC (.int 1)) (aCons (xN bLen (aCons (xName 0) aNil)) aNil))) (gN 7) (sSeq (sSet 8 (x2 oSub (x2 oSub (xN bLen (aCons (xName 0) aNil)) (xC (.int 1))) (xName 7)))
  (sSeq (sSet 6 (x2 oMul (xName 6) (x2 oIx (xName 1) (xName 8))))
  (sSeq (sSet 9 (x2 oMod (xN bInt (aCons (x2 oIx (xName 2) (x2 oAdd (xC (.int 8)) (xName 7))) aNil)) (x2 oSub (xN bLen (aCons (xName 4) aNil)) (xN bLen (aCons (x2 oIx (xName 0) (xName 8)) aNil)))))
  (sSeq (sSet 4 (x1 oLst (xN f_l_sum (aCons (xName 4) (aCons (x2 oIx (xName 0) (xName 8)) (aCons (x2 oMul (x2 oSub (x2 oIx (xName 2) (x2 oAdd (xC (.int 5)) (xName 7))) (xC (.int 2))) (xName 6)) (aCons (xName 9) aNil)))))))
  sNx)))))
  (sSeq (sIf (tB (x2 oEq (x2 oIx (xName 4) (xC (.int 0))) (xC (.int 0)))) (sSeq (sSet 6 (xC (.int 1)))
  (sSeq (sFor (iSeq (xName 1)) (gN 10) (sSeq (sSet 6 (x2 oMul (xName 6) (xName 10)))
  sNx))
  (sSeq (sSet 4 (x1 oLst (xN f_l_sum (aCons (xName 4) (aCons (xN dList (aCons (xName 6) aNil)) (aCons (xC (.int 1)) (aCons (xC (.int 0)) aNil)))))))
  sNx))) sNx)
  (sSeq (sRetN (xName 4))
  sNx)))))
def f_l_head : List D → Res D := runD 11 4 g_l_head

/-- _law_factor(first, wished): 0 first, 1 wished, 2 factor -/
def g_l_factor : Sx := (sSeq (sFor (iSeq (xN dList (aCons (xName 1) (aCons (xC (.int 2)) (aCons (xC (.int 3)) (aCons (xC (.int 5)) (aCons (xC (.int 7)) (aCons (xC (.int 11)) (aCons (xC (.int 13)) (aCons (xC (.int 17)) (aCons (xC (.int 19)) (aCons (xC (.int 23)) (aCons (xC (.int 29)) (aCons (xC (.int 31)) aNil)))))))))))))) (gN 2) (sSeq (sIf (tB (x2 oEq (xN f_l_gcd (aCons (xName 2) (aCons (xName 0) aNil))) (xC (.int 1)))) (sSeq (sRet (xName 2))
  sNx) sNx)
  sNx))
  (sSeq (sRet (xC (.int 37)))
  sNx))
def f_l_factor : List D → Res D := runD 3 2 g_l_factor

/-- _law_tidy(stairs): 0 stairs, 1 tidied, 2 stair, 3 line, 4 back, 5 place, 6 lower, 7 times, 8 one -/
def g_l_tidy : Sx := (sSeq (sSet 1 (xN dList aNil))
  (sSeq (sFor (iSeq (xName 0)) (gN 2) (sSeq (sSet 3 (xN bList (aCons (xName 2) aNil)))
  (sSeq (sFor (iRange (aCons (xC (.int 1)) (aCons (xN bLen (aCons (xName 2) aNil)) aNil))) (gN 4) (sSeq (sSet 5 (x2 oSub (x2 oSub (xN bLen (aCons (xName 2) aNil)) (xC (.int 1))) (xName 4)))
  (sSeq (sSet 6 (xComp (iSeq (xName 1)) [8] (gN 8) (tB (x2 oLe (xN bLen (aCons (xName 8) aNil)) (x2 oAdd (xName 5) (xC (.int 1))))) (xName 8)))
  (sSeq (sIf (tB (x2 oGt (xN bLen (aCons (xName 6) aNil)) (xC (.int 0)))) (sSeq (sSet 7 (x2 oDiv (x2 oIx (xName 3) (xName 5)) (x2 oIx (x2 oIx (xName 6) (x1 oNeg (xC (.int 1)))) (x1 oNeg (xC (.int 1))))))
  (sSeq (sSet 3 (xN f_l_sum (aCons (xName 3) (aCons (x2 oIx (xName 6) (x1 oNeg (xC (.int 1)))) (aCons (x1 oNeg (xName 7)) (aCons (x2 oSub (x2 oAdd (xName 5) (xC (.int 1))) (xN bLen (aCons (x2 oIx (xName 6) (x1 oNeg (xC (.int 1)))) aNil))) aNil))))))
  sNx)) sNx)
  sNx))))
  (sSeq (sApp 1 (xName 3))
  sNx))))
  (sSeq (sRet (xName 1))
  sNx)))
def f_l_tidy : List D → Res D := runD 9 1 g_l_tidy

/-- _law_stairs(script): 0 script, 1 shape, 2 first, 3 common, 4 heads, 5 factors, 6 k, 7 row, 8 head, 9 line, 10 stairs, 11 times, 12 back, 13 one -/
def g_l_stairs : Sx := (sSeq (sSet 1 (xN f_l_digits (aCons (xN f_l_cell (aCons (xName 0) (aCons (xC (.int 1)) aNil))) (aCons (xN dList (aCons (xC (.int 12)) (aCons (xC (.int 8)) (aCons (xC (.int 5)) (aCons (xC (.int 3)) (aCons (xC (.int 8)) aNil)))))) aNil))))
  (sSeq (sSet 2 (x2 oIx (xN dList (aCons (xC (.int 1)) (aCons (x1 oNeg (xC (.int 1))) (aCons (xC (.int 2)) (aCons (x1 oNeg (xC (.int 2))) (aCons (xC (.int 3)) aNil)))))) (x2 oIx (xName 1) (xC (.int 2)))))
  (sSeq (sSet 3 (xN dList (aCons (xN dList (aCons (xC (.int 1)) aNil)) (aCons (xN dList (aCons (xC (.int 1)) aNil)) (aCons (xN dList (aCons (xC (.int 1)) aNil)) (aCons (xN dList (aCons (xC (.int 1)) aNil)) (aCons (xN dList (aCons (x2 oAdd (xC (.int 2)) (x2 oIx (xName 1) (xC (.int 2)))) aNil)) (aCons (xN dList (aCons (xName 2) (aCons (xC (.int 1)) aNil))) (aCons (xN dList (aCons (xName 2) (aCons (x2 oAdd (xC (.int 1)) (x2 oMod (xN bInt (aCons (x2 oIx (xName 1) (xC (.int 3))) aNil)) (xC (.int 2)))) aNil))) (aCons (xN dList (aCons (xName 2) (aCons (x2 oSub (x2 oIx (xName 1) (xC (.int 3))) (xC (.int 1))) (aCons (xC (.int 1)) aNil)))) aNil))))))))))
  (sSeq (sSet 4 (xN dList (aCons (xN dList (aCons (xC (.int 1)) aNil)) aNil)))
  (sSeq (sSet 5 (xN dList aNil))
  (sSeq (sFor (iRange (aCons (x2 oIx (xN dList (aCons (xC (.int 1)) (aCons (xC (.int 2)) (aCons (xC (.int 3)) (aCons (xC (.int 4)) (aCons (xC (.int 1)) (aCons (xC (.int 2)) (aCons (xC (.int 3)) (aCons (xC (.int 4)) (aCons (xC (.int 2)) (aCons (xC (.int 3)) (aCons (xC (.int 4)) (aCons (xC (.int 0)) aNil))))))))))))) (x2 oIx (xName 1) (xC (.int 0)))) aNil)) (gN 6) (sSeq (sSet 7 (xN f_l_digits (aCons (xN f_l_cell (aCons (xName 0) (aCons (x2 oAdd (xC (.int 2)) (xName 6)) aNil))) (aCons (xN dList (aCons (xC (.int 4)) (aCons (xC (.int 7)) (aCons (xC (.int 7)) (aCons (xC (.int 7)) (aCons (xC (.int 7)) (aCons (xC (.int 11)) (aCons (xC (.int 5)) (aCons (xC (.int 5)) (aCons (xC (.int 5)) (aCons (xC (.int 60)) (aCons (xC (.int 60)) (aCons (xC (.int 60)) aNil))))))))))))) aNil))))
  (sSeq (sSet 8 (xN f_l_head (aCons (xName 4) (aCons (xName 5) (aCons (xName 7) (aCons (xN bInt (aCons (x2 oEq (x2 oIx (xName 1) (xC (.int 4))) (xC (.int 7))) aNil)) aNil))))))
  (sSeq (sApp 5 (xN f_l_factor (aCons (x2 oIx (xName 8) (xC (.int 0))) (aCons (x2 oAdd (xC (.int 2)) (x2 oIx (xName 7) (xC (.int 5)))) aNil))))
  (sSeq (sApp 4 (xName 8))
  sNx)))))
  (sSeq (sFor (iSeq (xN dList (aCons (x2 oIx (xName 3) (x2 oIx (xName 1) (xC (.int 1)))) (aCons (xN dList (aCons (xC (.int 1)) aNil)) aNil)))) (gN 9) (sSeq (sSet 10 (xN dList aNil))
  (sSeq (sSet 11 (xC (.int 1)))
  (sSeq (sFor (iRange (aCons (xN bLen (aCons (xName 4) aNil)) aNil)) (gN 12) (sSeq (sSet 10 (x2 oAdd (xN dList (aCons (xN f_l_product (aCons (xN f_l_product (aCons (x2 oIx (xName 4) (x2 oSub (x2 oSub (xN bLen (aCons (xName 4) aNil)) (xC (.int 1))) (xName 12))) (aCons (xName 9) aNil))) (aCons (xN dList (aCons (xName 11) aNil)) aNil))) aNil)) (xName 10)))
  (sSeq (sIf (tB (x2 oLt (xName 12) (xN bLen (aCons (xName 5) aNil)))) (sSeq (sSet 11 (x2 oMul (xName 11) (x2 oIx (xName 5) (x2 oSub (x2 oSub (xN bLen (aCons (xName 5) aNil)) (xC (.int 1))) (xName 12)))))
  sNx) sNx)
  sNx)))
  (sSeq (sSet 10 (xN f_l_tidy (aCons (xName 10) aNil)))
  (sSeq (sIf (tB (x2 oEq (xN bLen (aCons (xComp (iSeq (xName 10)) [13] (gN 13) (tNot (tB (xN f_l_within (aCons (xName 13) aNil)))) (xName 13)) aNil)) (xC (.int 0)))) (sSeq sBk
  sNx) sNx)
  sNx))))))
  (sSeq (sRet (xName 10))
  sNx))))))))
def f_l_stairs : List D → Res D := runD 14 1 g_l_stairs

/-- _law_short(line): 0 line, 1 places, 2 k -/
def g_l_short : Sx := (sSeq (sSet 1 (xComp (iRange (aCons (xN bLen (aCons (xName 0) aNil)) aNil)) [2] (gN 2) (tB (x2 oNe (x2 oIx (xName 0) (xName 2)) (xC (.int 0)))) (xName 2)))
  (sSeq (sIf (tB (x2 oEq (xN bLen (aCons (xName 1) aNil)) (xC (.int 0)))) (sSeq (sRet (xN dList aNil))
  sNx) sNx)
  (sSeq (sRet (xN bList (aCons (xCut (xName 0) pNo (pAt (x2 oAdd (x2 oIx (xName 1) (x1 oNeg (xC (.int 1)))) (xC (.int 1))))) aNil)))
  sNx)))
def f_l_short : List D → Res D := runD 3 1 g_l_short

/-- _law_left(stairs, line): 0 stairs, 1 line, 2 left, 3 back, 4 place, 5 fitting, 6 times, 7 stair -/
def g_l_left : Sx := (sSeq (sSet 2 (xN f_l_short (aCons (xName 1) aNil)))
  (sSeq (sFor (iRange (aCons (xN bLen (aCons (xName 2) aNil)) aNil)) (gN 3) (sSeq (sSet 4 (x2 oSub (x2 oSub (xN bLen (aCons (xName 2) aNil)) (xC (.int 1))) (xName 3)))
  (sSeq (sSet 5 (xComp (iSeq (xName 0)) [7] (gN 7) (tB (x2 oLe (xN bLen (aCons (xName 7) aNil)) (x2 oAdd (xName 4) (xC (.int 1))))) (xName 7)))
  (sSeq (sIf (tB (x2 oGt (xN bLen (aCons (xName 5) aNil)) (xC (.int 0)))) (sSeq (sSet 6 (x2 oDiv (x2 oIx (xName 2) (xName 4)) (x2 oIx (x2 oIx (xName 5) (x1 oNeg (xC (.int 1)))) (x1 oNeg (xC (.int 1))))))
  (sSeq (sSet 2 (xN f_l_sum (aCons (xName 2) (aCons (x2 oIx (xName 5) (x1 oNeg (xC (.int 1)))) (aCons (x1 oNeg (xName 6)) (aCons (x2 oSub (x2 oAdd (xName 4) (xC (.int 1))) (xN bLen (aCons (x2 oIx (xName 5) (x1 oNeg (xC (.int 1)))) aNil))) aNil))))))
  sNx)) sNx)
  sNx))))
  (sSeq (sRet (xN bTuple (aCons (xN f_l_short (aCons (xName 2) aNil)) aNil)))
  sNx)))
def f_l_left : List D → Res D := runD 8 2 g_l_left

/-- _law_made(stairs, row): 0 stairs, 1 row, 2 made, 3 k, 4 one, 5 two, 6 shift, 7 times, 8 more -/
def g_l_made : Sx := (sSeq (sSet 2 (xN dList aNil))
  (sSeq (sFor (iRange (aCons (xC (.int 5)) aNil)) (gN 3) (sSeq (sSet 4 (x2 oIx (xName 0) (x2 oMod (xN bInt (aCons (x2 oIx (xName 1) (x2 oMul (xC (.int 4)) (xName 3))) aNil)) (xN bLen (aCons (xName 0) aNil)))))
  (sSeq (sSet 5 (x2 oIx (xName 0) (x2 oMod (xN bInt (aCons (x2 oIx (xName 1) (x2 oAdd (x2 oMul (xC (.int 4)) (xName 3)) (xC (.int 1)))) aNil)) (xN bLen (aCons (xName 0) aNil)))))
  (sSeq (sSet 6 (x2 oMod (xN bInt (aCons (x2 oIx (xName 1) (x2 oAdd (x2 oMul (xC (.int 4)) (xName 3)) (xC (.int 3)))) aNil)) (x2 oSub (xC (.int 21)) (xN bMax (aCons (xN bLen (aCons (xName 4) aNil)) (aCons (xN bLen (aCons (xName 5) aNil)) aNil))))))
  (sSeq (sFor (iSeq (xN dList (aCons (x2 oSub (x2 oIx (xName 1) (x2 oAdd (x2 oMul (xC (.int 4)) (xName 3)) (xC (.int 2)))) (xC (.int 300))) (aCons (x2 oDiv (x2 oSub (x2 oIx (xName 1) (x2 oAdd (x2 oMul (xC (.int 4)) (xName 3)) (xC (.int 2)))) (xC (.int 300))) (xC (.int 100))) aNil)))) (gN 7) (sSeq (sSet 8 (xN f_l_sum (aCons (xName 2) (aCons (xName 4) (aCons (xName 7) (aCons (xName 6) aNil))))))
  (sSeq (sIf (tB (x2 oLt (xN bLen (aCons (xName 4) aNil)) (xN bLen (aCons (xName 5) aNil)))) (sSeq (sSet 8 (xN f_l_sum (aCons (xName 2) (aCons (xName 5) (aCons (x2 oMul (xName 7) (x2 oDiv (x2 oIx (xName 4) (x1 oNeg (xC (.int 1)))) (x2 oIx (xName 5) (x1 oNeg (xC (.int 1)))))) (aCons (xName 6) aNil))))))
  (sSeq (sSet 8 (xN f_l_sum (aCons (xName 8) (aCons (xName 4) (aCons (x1 oNeg (xName 7)) (aCons (x2 oSub (x2 oAdd (xName 6) (xN bLen (aCons (xName 5) aNil))) (xN bLen (aCons (xName 4) aNil))) aNil))))))
  sNx)) sNx)
  (sSeq (sIf (tB (xN f_l_within (aCons (xName 8) aNil))) (sSeq (sSet 2 (xName 8))
  (sSeq sBk
  sNx)) sNx)
  sNx))))
  sNx)))))
  (sSeq (sRet (xName 2))
  sNx)))
def f_l_made : List D → Res D := runD 9 2 g_l_made

/-- _law_change(stairs, row): 0 stairs, 1 row, 2 lead, 3 changes -/
def g_l_change : Sx := (sSeq (sIf (tB (x2 oEq (xN bLen (aCons (xName 0) aNil)) (xC (.int 0)))) (sSeq (sRet (x2 oAdd (xC (.int 1)) (x2 oIx (xName 1) (xC (.int 1)))))
  sNx) sNx)
  (sSeq (sSet 2 (x2 oIx (x2 oIx (xName 0) (xC (.int 0))) (x1 oNeg (xC (.int 1)))))
  (sSeq (sSet 3 (xN dList (aCons (x2 oAdd (xC (.int 1)) (x2 oIx (xName 1) (xC (.int 1)))) (aCons (xName 2) (aCons (x2 oAdd (xName 2) (xC (.int 1))) (aCons (x2 oSub (xName 2) (xC (.int 1))) (aCons (x2 oMul (xC (.int 2)) (xName 2)) (aCons (x2 oAdd (xC (.int 1)) (x2 oIx (xName 1) (xC (.int 1)))) (aCons (x2 oMul (xName 2) (x2 oAdd (xC (.int 1)) (x2 oMod (xN bInt (aCons (x2 oIx (xName 1) (xC (.int 1))) aNil)) (xC (.int 5))))) (aCons (x2 oDiv (xName 2) (xC (.int 2))) aNil))))))))))
  (sSeq (sIf (tB (xChain oLt oLe (xC (.int 0)) (x2 oIx (xName 3) (x2 oIx (xName 1) (xC (.int 0)))) (x2 oPow (xC (.int 10)) (xC (.int 6))))) (sSeq (sRet (x2 oIx (xName 3) (x2 oIx (xName 1) (xC (.int 0)))))
  sNx) sNx)
  (sSeq (sRet (xC (.int 1)))
  sNx)))))
def f_l_change : List D → Res D := runD 4 2 g_l_change

/-- law(script): 0 script, 1 shape, 2 stairs, 3 bound, 4 row, 5 k, 6 free, 7 made, 8 change, 9 changed, 10 held, 11 due, 12 asked, 13 stair, 14 line, 15 told, 16 fixed, 17 left, 18 number, 19 one, 20 both -/
def g_law : Sx := (sSeq (sSet 1 (xN f_l_digits (aCons (xN f_l_cell (aCons (xName 0) (aCons (xC (.int 0)) aNil))) (aCons (xN dList (aCons (xC (.int 16)) (aCons (xC (.int 4)) (aCons (xC (.int 21)) (aCons (xC (.int 20)) (aCons (xC (.int 8)) (aCons (xC (.int 60)) (aCons (xC (.int 50)) (aCons (xC (.int 2)) aNil))))))))) aNil))))
  (sSeq (sSet 2 (xN dList aNil))
  (sSeq (sIf (tB (x2 oNe (x2 oIx (xName 1) (xC (.int 0))) (xC (.int 9)))) (sSeq (sSet 2 (xN f_l_stairs (aCons (xName 0) aNil)))
  sNx) sNx)
  (sSeq (sSet 3 (x2 oIx (xN dList (aCons (x2 oPow (xC (.int 10)) (xC (.int 6))) (aCons (xC (.int 30)) (aCons (xC (.int 1000)) (aCons (x2 oPow (xC (.int 10)) (xC (.int 6))) aNil))))) (x2 oIx (xName 1) (xC (.int 1)))))
  (sSeq (sSet 4 (xN f_l_digits (aCons (xN f_l_cell (aCons (xName 0) (aCons (xC (.int 6)) aNil))) (aCons (xComp (iRange (aCons (xC (.int 20)) aNil)) [5] (gN 5) tYes (x2 oPow (xC (.int 10)) (xC (.int 9)))) aNil))))
  (sSeq (sSet 6 (xComp (iRange (aCons (x2 oIx (xName 1) (xC (.int 2))) aNil)) [5] (gN 5) tYes (x2 oSub (x2 oMod (xN bInt (aCons (x2 oIx (xName 4) (xName 5)) aNil)) (x2 oAdd (x2 oMul (xC (.int 2)) (xName 3)) (xC (.int 1)))) (xName 3))))
  (sSeq (sSet 7 (xN dList aNil))
  (sSeq (sIf (tB (x2 oGt (xN bLen (aCons (xName 2) aNil)) (xC (.int 0)))) (sSeq (sSet 4 (xN f_l_digits (aCons (xN f_l_cell (aCons (xName 0) (aCons (xC (.int 7)) aNil))) (aCons (xN dList (aCons (xC (.int 60)) (aCons (xC (.int 60)) (aCons (xC (.int 601)) (aCons (xC (.int 60)) (aCons (xC (.int 60)) (aCons (xC (.int 60)) (aCons (xC (.int 601)) (aCons (xC (.int 60)) (aCons (xC (.int 60)) (aCons (xC (.int 60)) (aCons (xC (.int 601)) (aCons (xC (.int 60)) (aCons (xC (.int 60)) (aCons (xC (.int 60)) (aCons (xC (.int 601)) (aCons (xC (.int 60)) (aCons (xC (.int 60)) (aCons (xC (.int 60)) (aCons (xC (.int 601)) (aCons (xC (.int 60)) aNil))))))))))))))))))))) aNil))))
  (sSeq (sSet 7 (xN f_l_made (aCons (xName 2) (aCons (xName 4) aNil))))
  sNx)) sNx)
  (sSeq (sSet 8 (xN f_l_change (aCons (xName 2) (aCons (xN dList (aCons (x2 oIx (xName 1) (xC (.int 4))) (aCons (x2 oIx (xName 1) (xC (.int 5))) aNil))) aNil))))
  (sSeq (sSet 9 (x2 oCat (xName 7) (xComp (iRange (aCons (x2 oSub (x2 oAdd (x2 oIx (xName 1) (xC (.int 3))) (xC (.int 1))) (xN bLen (aCons (xName 7) aNil))) aNil)) [5] (gN 5) tYes (xC (.int 0)))))
  (sSeq (sIf (tB (x2 oGt (x2 oIx (xName 9) (x2 oIx (xName 1) (xC (.int 3)))) (xC (.int 0)))) (sSeq (sIx 9 (x2 oIx (xName 1) (xC (.int 3))) (x2 oSub (x2 oIx (xName 9) (x2 oIx (xName 1) (xC (.int 3)))) (xName 8)))
  sNx) (sSeq (sIx 9 (x2 oIx (xName 1) (xC (.int 3))) (x2 oAdd (x2 oIx (xName 9) (x2 oIx (xName 1) (xC (.int 3)))) (xName 8)))
  sNx))
  (sSeq (sSet 10 (xAnd (x2 oGt (xN bLen (aCons (xName 2) aNil)) (xC (.int 0))) (xAnd (x2 oEq (xN bLen (aCons (x2 oIx (xName 2) (xC (.int 0))) aNil)) (xC (.int 1))) (x2 oEq (x2 oMod (xN bInt (aCons (xName 8) aNil)) (x2 oIx (x2 oIx (xName 2) (xC (.int 0))) (xC (.int 0)))) (xC (.int 0))))))
  (sSeq (sSet 11 (xN f_l_left (aCons (xName 2) (aCons (xName 6) aNil))))
  (sSeq (sSet 12 (xComp (iSeq (xName 2)) [13] (gN 13) tYes (xN bList (aCons (xName 13) aNil))))
  (sSeq (sSet 14 (xN bList (aCons (xName 6) aNil)))
  (sSeq (sSet 15 (xN f_stair_rest (aCons (xName 12) (aCons (xName 14) aNil))))
  (sSeq (sIf (tOr (tB (x2 oNe (xN bRepr (aCons (xName 15) aNil)) (xN bRepr (aCons (xName 11) aNil)))) (tOr (tB (x2 oNe (xN bRepr (aCons (xName 12) aNil)) (xN bRepr (aCons (xComp (iSeq (xName 2)) [13] (gN 13) tYes (xN bList (aCons (xName 13) aNil))) aNil)))) (tB (x2 oNe (xN bRepr (aCons (xName 14) aNil)) (xN bRepr (aCons (xName 6) aNil)))))) (sSeq (sRet (xC (.bool false)))
  sNx) sNx)
  (sSeq (sSet 16 (xN bTuple (aCons (xComp (iSeq (xName 2)) [13] (gN 13) tYes (xN bTuple (aCons (xName 13) aNil))) aNil)))
  (sSeq (sIf (tB (x2 oNe (xN bRepr (aCons (xN f_stair_holds (aCons (xName 16) (aCons (xN bTuple (aCons (xName 6) aNil)) aNil))) aNil)) (xN bRepr (aCons (x2 oEq (xN bLen (aCons (xName 11) aNil)) (xC (.int 0))) aNil)))) (sSeq (sRet (xC (.bool false)))
  sNx) sNx)
  (sSeq (sIf (tAnd (tB (xN f_l_within (aCons (xName 11) aNil))) (tB (x2 oNe (xN bRepr (aCons (xN f_stair_rest (aCons (xName 16) (aCons (xName 11) aNil))) aNil)) (xN bRepr (aCons (xName 11) aNil))))) (sSeq (sRet (xC (.bool false)))
  sNx) sNx)
  (sSeq (sIf (tOr (tB (x2 oNe (xN bRepr (aCons (xN f_stair_rest (aCons (xName 16) (aCons (xN bTuple (aCons (xName 7) aNil)) aNil))) aNil)) (xC (.str "()")))) (tB (x2 oNotTrue (xN f_stair_holds (aCons (xComp (iSeq (xName 2)) [13] (gN 13) tYes (xN bList (aCons (xName 13) aNil))) (aCons (xN bList (aCons (xName 7) aNil)) aNil))) (xC (.bool true))))) (sSeq (sRet (xC (.bool false)))
  sNx) sNx)
  (sSeq (sSet 17 (xN f_l_left (aCons (xName 2) (aCons (xName 9) aNil))))
  (sSeq (sIf (tOr (tB (x2 oNe (xN bRepr (aCons (xN f_stair_holds (aCons (xName 16) (aCons (xN bList (aCons (xName 9) aNil)) aNil))) aNil)) (xN bRepr (aCons (xName 10) aNil)))) (tB (x2 oNe (xN bRepr (aCons (xN f_stair_rest (aCons (xName 16) (aCons (xN bList (aCons (xName 9) aNil)) aNil))) aNil)) (xN bRepr (aCons (xName 17) aNil))))) (sSeq (sRet (xC (.bool false)))
  sNx) sNx)
  (sSeq (sSet 18 (x2 oAdd (xC (.int 1)) (x2 oIx (xName 1) (xC (.int 6)))))
  (sSeq (sIf (tB (x2 oNe (xN bRepr (aCons (xN f_stair_rest (aCons (xN dTuple (aCons (xN dTuple (aCons (xName 18) aNil)) aNil)) (aCons (xN bList (aCons (xName 6) aNil)) aNil))) aNil)) (xN bRepr (aCons (xN bTuple (aCons (xN f_l_short (aCons (xComp (iSeq (xName 6)) [19] (gN 19) tYes (x2 oMod (xN bInt (aCons (xName 19) aNil)) (xName 18))) aNil)) aNil)) aNil)))) (sSeq (sRet (xC (.bool false)))
  sNx) sNx)
  (sSeq (sSet 20 (xN f_l_sum (aCons (xName 6) (aCons (xName 7) (aCons (x2 oSub (xC (.int 1)) (x2 oMul (xC (.int 2)) (x2 oIx (xName 1) (xC (.int 7))))) (aCons (xC (.int 0)) aNil))))))
  (sSeq (sIf (tAnd (tB (xN f_l_within (aCons (xName 20) aNil))) (tB (x2 oNe (xN bRepr (aCons (xN f_stair_rest (aCons (xName 16) (aCons (xName 20) aNil))) aNil)) (xN bRepr (aCons (xName 11) aNil))))) (sSeq (sRet (xC (.bool false)))
  sNx) sNx)
  (sSeq (sRet (x2 oEq (xN bRepr (aCons (xN f_stair_rest (aCons (xName 16) (aCons (xN bList (aCons (xName 6) aNil)) aNil))) aNil)) (xN bRepr (aCons (xName 11) aNil))))
  sNx))))))))))))))))))))))))))))
def f_law : List D → Res D := runD 21 1 g_law
end K83
end

section
set_option Elab.async false
set_option linter.all false
set_option autoImplicit false
set_option maxRecDepth 100000
set_option maxHeartbeats 4000000
/-! printed by gen.py: the walk -/
namespace K83
open PySem PySem.Spec PyProof.Rows L2 Dt Wk
def topS (i : Nat) : Stmt := PySem.Challenge.pw_twostoreys_k83_stair_rest.main.body.getD i (.Pass ⟨0, 0, 0, 0⟩)
section
variable {ek : EK} {P : Program} {w : World} {K : PySem.W.Frag} {mg : Str → Option Value} {base : Heap}
abbrev s_cut : Stmt := topS 1
theorem sc_cut : FnScope ["line", "last"] ["line"] (defScope s_cut) := ⟨rfl, rfl, rfl, by decide +kernel, rfl, by decide +kernel, by decide +kernel⟩
theorem w_cut {f : Addr} {fd : FuncData} (F : Fun K "cut" "cut" s_cut f fd) (m_len : mg "len" = none) (m_list : mg "list" = none) :
    FnG P w K mg base 1 f fd ["line"] (spD ek K 1 false f_cut) := by
  refine okG (g := g_cut) F sc_cut rfl rfl (by decide) fun cdv A outer s H E hr hgd tk po => ?_
  unfold g_cut
  exact (dss_cons (ds_set 1 sc_cut.nd (de_callB cS_len m_len PySem.boot_len (da_cons (dv 0) da_nil)))
  (dss_cons (ds_while (fun δ => match look δ 1 with | some (.int i) => i.toNat + 1 | _ => 0) po (PW.pt (dw_and (dt_cmp opS_gt (dv 1) dc_int) (dw_and1 (dt_cmp (opS_eq hr.units) (de_ix (dv 0) (de_bin opS_sub (dv 1) dc_int)) dc_int)))) (dss_cons (ds_set 1 sc_cut.nd (de_bin opS_sub (dv 1) dc_int))
  dss_nil))
  (dss_last (ds_ret (de_new (dn_callTy cS_list m_list boot_list (da_cons (de_new (dn_cut (dv 0) dp_no (dp_at (dv 1)))) da_nil)))))))

abbrev s_stair_below : Stmt := topS 2
theorem sc_stair_below : FnScope ["stairs", "length", "found", "stair"] ["stairs", "length"] (defScope s_stair_below) := ⟨rfl, rfl, rfl, by decide +kernel, rfl, by decide +kernel, by decide +kernel⟩
theorem w_stair_below {f : Addr} {fd : FuncData} (F : Fun K "stair_below" "stair_below" s_stair_below f fd) (m_len : mg "len" = none) :
    FnG P w K mg base 1 f fd ["stairs", "length"] (spD ek K 2 false f_stair_below) := by
  refine okG (g := g_stair_below) F sc_stair_below rfl rfl (by decide) fun cdv A outer s H E hr hgd tk po => ?_
  unfold g_stair_below
  exact (dss_cons (ds_set 2 sc_stair_below.nd dc_non)
  (dss_cons (ds_for po rfl (di_seq (dv 0)) (dg_name 3 sc_stair_below.nd) (dss_cons (ds_if (O' := []) (dt_cmp opS_le (de_callB cS_len m_len PySem.boot_len (da_cons (dv 3) da_nil)) (dv 1)) (dss_cons (ds_set 2 sc_stair_below.nd (dv 3))
  dss_nil) dss_nil)
  dss_nil))
  (dss_last (ds_ret (dv 2)))))

abbrev s_stair_rest : Stmt := topS 3
theorem sc_stair_rest : FnScope ["stairs", "line", "left", "degree", "stair", "factor", "place", "index", "number"] ["stairs", "line"] (defScope s_stair_rest) := ⟨rfl, rfl, rfl, by decide +kernel, rfl, by decide +kernel, by decide +kernel⟩
theorem w_stair_rest {f : Addr} {fd : FuncData} (F : Fun K "stair_rest" "stair_rest" s_stair_rest f fd) (m_list : mg "list" = none) (m_len : mg "len" = none) (m_enumerate : mg "enumerate" = none) (m_range : mg "range" = none) (m_tuple : mg "tuple" = none) (c_stair_below : Cal ek P w K mg base "stair_below" 1 2 false f_stair_below) (c_cut : Cal ek P w K mg base "cut" 1 1 false f_cut) :
    FnG P w K mg base 2 f fd ["stairs", "line"] (spD ek K 2 false f_stair_rest) := by
  refine okG (g := g_stair_rest) F sc_stair_rest rfl rfl (by decide) fun cdv A outer s H E hr hgd tk po => ?_
  unfold g_stair_rest
  exact (dss_cons (ds_own 2 sc_stair_rest.nd (dn_callTy cS_list m_list boot_list (da_cons (dv 1) da_nil)))
  (dss_cons (ds_for po rfl (di_range3 m_range (da_cons (de_bin opS_sub (de_callB cS_len m_len PySem.boot_len (da_cons (dv 1) da_nil)) dc_int) (da_cons (de_neg dc_int) (da_cons (de_neg dc_int) da_nil)))) (dg_name 3 sc_stair_rest.nd) (dss_cons (ds_set 4 sc_stair_rest.nd (de_call c_stair_below (hr.mono (by decide)) hgd tk (da_cons (dv 0) (da_cons (de_bin opS_add (dv 3) dc_int) da_nil))))
  (dss_cons (ds_if (O' := [2]) (dt_notN (dv 4)) (dss_cons (ds_set 5 sc_stair_rest.nd (de_bin opS_div (de_ix (dvo 2) (dv 3)) (de_ix (dv 4) (de_neg dc_int))))
  (dss_cons (ds_set 6 sc_stair_rest.nd (de_bin opS_sub (de_bin opS_add (dv 3) dc_int) (de_callB cS_len m_len PySem.boot_len (da_cons (dv 4) da_nil))))
  (dss_cons (ds_for po rfl (di_enum m_enumerate (dv 4)) (dg_tup rfl (dgs_cons 7 sc_stair_rest.nd (dgs_cons 8 sc_stair_rest.nd dgs_nil))) (dss_cons (ds_ix 2 (by decide) (de_bin opS_sub (de_ix (dvo 2) (de_bin opS_add (dv 6) (dv 7))) (de_bin opS_mul (dv 5) (dv 8))) (de_bin opS_add (dv 6) (dv 7)))
  dss_nil))
  dss_nil))) dss_nil)
  dss_nil)))
  (dss_last (ds_frz (O1 := []) (by decide) (ds_ret (de_callTy cS_tuple m_tuple boot_tuple (da_cons (de_call c_cut (hr.mono (by decide)) hgd tk (da_cons (dv 2) da_nil)) da_nil)))))))

abbrev s_stair_holds : Stmt := topS 4
theorem sc_stair_holds : FnScope ["stairs", "line"] ["stairs", "line"] (defScope s_stair_holds) := ⟨rfl, rfl, rfl, by decide +kernel, rfl, by decide +kernel, by decide +kernel⟩
theorem w_stair_holds {f : Addr} {fd : FuncData} (F : Fun K "stair_holds" "stair_holds" s_stair_holds f fd) (c_stair_rest : Cal ek P w K mg base "stair_rest" 2 2 false f_stair_rest) :
    FnG P w K mg base 3 f fd ["stairs", "line"] (spD ek K 2 false f_stair_holds) := by
  refine okG (g := g_stair_holds) F sc_stair_holds rfl rfl (by decide) fun cdv A outer s H E hr hgd tk po => ?_
  unfold g_stair_holds
  exact (dss_last (ds_ret (de_cmp (opS_eq hr.units) (de_call c_stair_rest (hr.mono (by decide)) hgd tk (da_cons (dv 0) (da_cons (dv 1) da_nil))) (de_tup da_nil))))

abbrev s_l_cell : Stmt := topS 6
theorem sc_l_cell : FnScope ["script", "k", "seed", "cell"] ["script", "k"] (defScope s_l_cell) := ⟨rfl, rfl, rfl, by decide +kernel, rfl, by decide +kernel, by decide +kernel⟩
theorem w_l_cell {f : Addr} {fd : FuncData} (F : Fun K "_law_cell" "_law_cell" s_l_cell f fd) (m_len : mg "len" = none) (m_int : mg "int" = none) :
    FnG P w K mg base 1 f fd ["script", "k"] (spD ek K 2 false f_l_cell) := by
  refine okG (g := g_l_cell) F sc_l_cell rfl rfl (by decide) fun cdv A outer s H E hr hgd tk po => ?_
  unfold g_l_cell
  exact (dss_cons (ds_if (O' := []) (dt_cmp opS_lt (dv 1) (de_callB cS_len m_len PySem.boot_len (da_cons (dv 0) da_nil))) (dss_last (ds_ret (de_ix (dv 0) (dv 1)))) dss_nil)
  (dss_cons (ds_set 2 sc_l_cell.nd dc_int)
  (dss_cons (ds_for po rfl (di_seq (dv 0)) (dg_name 3 sc_l_cell.nd) (dss_cons (ds_set 2 sc_l_cell.nd (de_bin opS_mod (de_callTy cS_int m_int boot_int (da_cons (de_bin opS_add (de_bin opS_mul (dv 2) dc_int) (de_bin opS_mod (de_callTy cS_int m_int boot_int (da_cons (dv 3) da_nil)) dc_int)) da_nil)) dc_int))
  dss_nil))
  (dss_last (ds_ret (de_bin opS_mod (de_callTy cS_int m_int boot_int (da_cons (de_bin opS_mul (de_bin opS_mul (de_bin opS_add (dv 2) dc_int) (de_bin opS_add (dv 1) dc_int)) dc_int) da_nil)) dc_int))))))

abbrev s_l_digits : Stmt := topS 7
theorem sc_l_digits : FnScope ["cell", "bases", "row", "number", "base", "seed", "k", "twice"] ["cell", "bases"] (defScope s_l_digits) := ⟨rfl, rfl, rfl, by decide +kernel, rfl, by decide +kernel, by decide +kernel⟩
theorem w_l_digits {f : Addr} {fd : FuncData} (F : Fun K "_law_digits" "_law_digits" s_l_digits f fd) (m_int : mg "int" = none) (m_len : mg "len" = none) (m_range : mg "range" = none) :
    FnG P w K mg base 1 f fd ["cell", "bases"] (spD ek K 2 false f_l_digits) := by
  refine okG (g := g_l_digits) F sc_l_digits rfl rfl (by decide) fun cdv A outer s H E hr hgd tk po => ?_
  unfold g_l_digits
  exact (dss_cons (ds_own 2 sc_l_digits.nd (dn_disp da_nil))
  (dss_cons (ds_set 3 sc_l_digits.nd (de_callTy cS_int m_int boot_int (da_cons (dv 0) da_nil)))
  (dss_cons (ds_if (O' := [2]) (dt_cmp opS_ge (dv 3) (de_bin opS_pow dc_int dc_int)) (dss_cons (ds_set 3 sc_l_digits.nd (de_bin opS_sub (dv 3) (de_bin opS_pow dc_int dc_int)))
  (dss_cons (ds_for po rfl (di_seq (dv 1)) (dg_name 4 sc_l_digits.nd) (dss_cons (ds_app 2 (by decide) (de_bin opS_mod (de_callTy cS_int m_int boot_int (da_cons (dv 3) da_nil)) (dv 4)) (fun h1 h2 => pe_bm PySem.F.plainAttrs_list PySem.F.slot_list_append PySem.F.type_list_append mt_append h1 (pa_cons h2 pa_nil)))
  (dss_cons (ds_set 3 sc_l_digits.nd (de_bin opS_div (de_callTy cS_int m_int boot_int (da_cons (dv 3) da_nil)) (dv 4)))
  dss_nil)))
  (dss_last (ds_retO 2 (by decide))))) dss_nil)
  (dss_cons (ds_set 5 sc_l_digits.nd (de_bin opS_mod (de_callTy cS_int m_int boot_int (da_cons (dv 3) da_nil)) dc_int))
  (dss_cons (ds_for po rfl (di_range1 m_range (da_cons (de_callB cS_len m_len PySem.boot_len (da_cons (dv 1) da_nil)) da_nil)) (dg_name 6 sc_l_digits.nd) (dss_cons (ds_set 5 sc_l_digits.nd (de_bin opS_mod (de_callTy cS_int m_int boot_int (da_cons (de_bin opS_add (de_bin opS_add (de_bin opS_mul (dv 5) dc_int) (de_bin opS_mul dc_int (dv 6))) dc_int) da_nil)) dc_int))
  (dss_cons (ds_set 7 sc_l_digits.nd (de_bin opS_mod (de_callTy cS_int m_int boot_int (da_cons (de_bin opS_mul (dv 5) (de_bin opS_add (de_bin opS_div (dv 5) dc_int) dc_int)) da_nil)) dc_int))
  (dss_cons (ds_app 2 (by decide) (de_bin opS_mod (de_bin opS_div (dv 7) dc_int) (de_ix (dv 1) (dv 6))) (fun h1 h2 => pe_bm PySem.F.plainAttrs_list PySem.F.slot_list_append PySem.F.type_list_append mt_append h1 (pa_cons h2 pa_nil)))
  dss_nil))))
  (dss_last (ds_retO 2 (by decide))))))))

abbrev s_l_sum : Stmt := topS 8
theorem sc_l_sum : FnScope ["one", "two", "number", "shift", "total", "k"] ["one", "two", "number", "shift"] (defScope s_l_sum) := ⟨rfl, rfl, rfl, by decide +kernel, rfl, by decide +kernel, by decide +kernel⟩
theorem w_l_sum {f : Addr} {fd : FuncData} (F : Fun K "_law_sum" "_law_sum" s_l_sum f fd) (m_len : mg "len" = none) (m_max : mg "max" = none) (m_range : mg "range" = none) :
    FnG P w K mg base 1 f fd ["one", "two", "number", "shift"] (spD ek K 4 true f_l_sum) := by
  refine okG (g := g_l_sum) F sc_l_sum rfl rfl (by decide) fun cdv A outer s H E hr hgd tk po => ?_
  unfold g_l_sum
  exact (dss_cons (ds_lc (j := 4) (own := [("k", 5)]) rfl sc_l_sum.nd (di_range1 m_range (da_cons (de_callB (cS_max rfl) m_max boot_max (da_cons (de_callB cS_len m_len PySem.boot_len (da_cons (dv 0) da_nil)) (da_cons (de_bin opS_add (de_callB cS_len m_len PySem.boot_len (da_cons (dv 1) da_nil)) (dv 3)) da_nil))) da_nil)) (blkOk_by (own := [("k", 5)]) (N := ["one", "two", "number", "shift", "total", "k"]) (sc := defScope s_l_sum) (by decide +kernel)) (fun _ _ _ _ _ => (dg_name 5 sc_l_sum.nd)) (fun _ _ _ _ _ => dts_nil) (fun _ _ _ _ _ => dc_int))
  (dss_cons (ds_for po rfl (di_range1 m_range (da_cons (de_callB cS_len m_len PySem.boot_len (da_cons (dv 0) da_nil)) da_nil)) (dg_name 5 sc_l_sum.nd) (dss_cons (ds_ix 4 (by decide) (de_bin opS_add (de_ix (dvo 4) (dv 5)) (de_ix (dv 0) (dv 5))) (dv 5))
  dss_nil))
  (dss_cons (ds_for po rfl (di_range1 m_range (da_cons (de_callB cS_len m_len PySem.boot_len (da_cons (dv 1) da_nil)) da_nil)) (dg_name 5 sc_l_sum.nd) (dss_cons (ds_ix 4 (by decide) (de_bin opS_add (de_ix (dvo 4) (de_bin opS_add (dv 5) (dv 3))) (de_bin opS_mul (dv 2) (de_ix (dv 1) (dv 5)))) (de_bin opS_add (dv 5) (dv 3)))
  dss_nil))
  (dss_last (ds_retON 4 (by decide))))))

abbrev s_l_product : Stmt := topS 9
theorem sc_l_product : FnScope ["one", "two", "total", "k"] ["one", "two"] (defScope s_l_product) := ⟨rfl, rfl, rfl, by decide +kernel, rfl, by decide +kernel, by decide +kernel⟩
theorem w_l_product {f : Addr} {fd : FuncData} (F : Fun K "_law_product" "_law_product" s_l_product f fd) (m_len : mg "len" = none) (m_range : mg "range" = none) (c_l_sum : Cal ek P w K mg base "_law_sum" 1 4 true f_l_sum) :
    FnG P w K mg base 2 f fd ["one", "two"] (spD ek K 2 true f_l_product) := by
  refine okG (g := g_l_product) F sc_l_product rfl rfl (by decide) fun cdv A outer s H E hr hgd tk po => ?_
  unfold g_l_product
  exact (dss_cons (ds_own 2 sc_l_product.nd (dn_disp da_nil))
  (dss_cons (ds_for po rfl (di_range1 m_range (da_cons (de_callB cS_len m_len PySem.boot_len (da_cons (dv 1) da_nil)) da_nil)) (dg_name 3 sc_l_product.nd) (dss_cons (ds_own 2 sc_l_product.nd (dn_callN c_l_sum (hr.mono (by decide)) hgd tk (da_cons (dvo 2) (da_cons (de_see (dv 0)) (da_cons (de_see (de_ix (dv 1) (dv 3))) (da_cons (de_see (dv 3)) da_nil))))))
  dss_nil))
  (dss_last (ds_retON 2 (by decide)))))

abbrev s_l_gcd : Stmt := topS 10
theorem sc_l_gcd : FnScope ["one", "two", "first", "second"] ["one", "two"] (defScope s_l_gcd) := ⟨rfl, rfl, rfl, by decide +kernel, rfl, by decide +kernel, by decide +kernel⟩
theorem w_l_gcd {f : Addr} {fd : FuncData} (F : Fun K "_law_gcd" "_law_gcd" s_l_gcd f fd) (m_abs : mg "abs" = none) (m_int : mg "int" = none) :
    FnG P w K mg base 1 f fd ["one", "two"] (spD ek K 2 false f_l_gcd) := by
  refine okG (g := g_l_gcd) F sc_l_gcd rfl rfl (by decide) fun cdv A outer s H E hr hgd tk po => ?_
  unfold g_l_gcd
  exact (dss_cons (ds_set 2 sc_l_gcd.nd (de_callB cS_abs m_abs boot_abs (da_cons (dv 0) da_nil)))
  (dss_cons (ds_set 3 sc_l_gcd.nd (de_callB cS_abs m_abs boot_abs (da_cons (dv 1) da_nil)))
  (dss_cons (ds_while (fun δ => match look δ 3 with | some (.int i) => i.natAbs + 1 | _ => 0) po (dt_cmp (opS_ne hr.units) (dv 3) dc_int) (dss_cons (ds_par 2 3 rfl sc_l_gcd.nd (dv 3) (de_bin opS_mod (de_callTy cS_int m_int boot_int (da_cons (dv 2) da_nil)) (dv 3)))
  dss_nil))
  (dss_last (ds_ret (dv 2))))))

abbrev s_l_within : Stmt := topS 11
theorem sc_l_within : FnScope ["line", "number"] ["line"] (defScope s_l_within) := ⟨rfl, rfl, rfl, by decide +kernel, rfl, by decide +kernel, by decide +kernel⟩
theorem w_l_within {f : Addr} {fd : FuncData} (F : Fun K "_law_within" "_law_within" s_l_within f fd) (m_len : mg "len" = none) (m_abs : mg "abs" = none) :
    FnG P w K mg base 1 f fd ["line"] (spD ek K 1 false f_l_within) := by
  refine okG (g := g_l_within) F sc_l_within rfl rfl (by decide) fun cdv A outer s H E hr hgd tk po => ?_
  unfold g_l_within
  exact (dss_last (ds_ret (de_and (de_cmp opS_le (de_callB cS_len m_len PySem.boot_len (da_cons (dv 0) da_nil)) dc_int) (de_one (de_cmp (opS_eq hr.units) (de_callB cS_len m_len PySem.boot_len (da_cons (de_new (dn_comp (own := [("number", 1)]) rfl sc_l_within.nd (di_seq (dv 0)) (blkOk_by (own := [("number", 1)]) (N := ["line", "number"]) (sc := defScope s_l_within) (by decide +kernel)) (fun _ _ _ _ _ => (dg_name 1 sc_l_within.nd)) (fun _ _ _ _ _ => dts_one (dt_cmp opS_gt (de_callB cS_abs m_abs boot_abs (da_cons (dv 1) da_nil)) (de_bin opS_pow dc_int dc_int))) (fun _ _ _ _ _ => (dv 1)))) da_nil)) dc_int)))))

abbrev s_l_head : Stmt := topS 12
theorem sc_l_head : FnScope ["heads", "factors", "row", "tall", "head", "k", "times", "back", "place", "shift", "factor"] ["heads", "factors", "row", "tall"] (defScope s_l_head) := ⟨rfl, rfl, rfl, by decide +kernel, rfl, by decide +kernel, by decide +kernel⟩
theorem w_l_head {f : Addr} {fd : FuncData} (F : Fun K "_law_head" "_law_head" s_l_head f fd) (m_int : mg "int" = none) (m_range : mg "range" = none) (m_len : mg "len" = none) (c_l_product : Cal ek P w K mg base "_law_product" 2 2 true f_l_product) (c_l_sum : Cal ek P w K mg base "_law_sum" 1 4 true f_l_sum) :
    FnG P w K mg base 3 f fd ["heads", "factors", "row", "tall"] (spD ek K 4 true f_l_head) := by
  refine okG (g := g_l_head) F sc_l_head rfl rfl (by decide) fun cdv A outer s H E hr hgd tk po => ?_
  unfold g_l_head
  exact (dss_cons (ds_own 4 sc_l_head.nd (dn_callN c_l_product (hr.mono (by decide)) hgd tk (da_cons (de_ix (dv 0) (de_neg dc_int)) (da_cons (de_bin opS_add (de_new (dn_comp (own := [("k", 5)]) rfl sc_l_head.nd (di_range1 m_range (da_cons (de_bin opS_add dc_int (de_bin opS_mod (de_callTy cS_int m_int boot_int (da_cons (de_ix (dv 2) dc_int) da_nil)) (de_bin opS_add dc_int (de_bin opS_mul dc_int (dv 3))))) da_nil)) (blkOk_by (own := [("k", 5)]) (N := ["heads", "factors", "row", "tall", "head", "k", "times", "back", "place", "shift", "factor"]) (sc := defScope s_l_head) (by decide +kernel)) (fun _ _ _ _ _ => (dg_name 5 sc_l_head.nd)) (fun _ _ _ _ _ => dts_nil) (fun _ _ _ _ _ => (de_bin opS_sub (de_ix (dv 2) (de_bin opS_add dc_int (dv 5))) dc_int)))) (de_new (dn_disp (da_cons dc_int da_nil)))) da_nil))))
  (dss_cons (ds_set 6 sc_l_head.nd dc_int)
  (dss_cons (ds_for po rfl (di_range2 m_range (da_cons dc_int (da_cons (de_callB cS_len m_len PySem.boot_len (da_cons (dv 0) da_nil)) da_nil))) (dg_name 7 sc_l_head.nd) (dss_cons (ds_set 8 sc_l_head.nd (de_bin opS_sub (de_bin opS_sub (de_callB cS_len m_len PySem.boot_len (da_cons (dv 0) da_nil)) dc_int) (dv 7)))
  (dss_cons (ds_set 6 sc_l_head.nd (de_bin opS_mul (dv 6) (de_ix (dv 1) (dv 8))))
  (dss_cons (ds_set 9 sc_l_head.nd (de_bin opS_mod (de_callTy cS_int m_int boot_int (da_cons (de_ix (dv 2) (de_bin opS_add dc_int (dv 7))) da_nil)) (de_bin opS_sub (de_callB cS_len m_len PySem.boot_len (da_cons (dvo 4) da_nil)) (de_callB cS_len m_len PySem.boot_len (da_cons (de_ix (dv 0) (dv 8)) da_nil)))))
  (dss_cons (ds_own 4 sc_l_head.nd (dn_callN c_l_sum (hr.mono (by decide)) hgd tk (da_cons (dvo 4) (da_cons (de_see (de_ix (dv 0) (dv 8))) (da_cons (de_see (de_bin opS_mul (de_bin opS_sub (de_ix (dv 2) (de_bin opS_add dc_int (dv 7))) dc_int) (dv 6))) (da_cons (de_see (dv 9)) da_nil))))))
  dss_nil)))))
  (dss_cons (ds_if (O' := [4]) (dt_cmp (opS_eq hr.units) (de_ix (dvo 4) dc_int) dc_int) (dss_cons (ds_set 6 sc_l_head.nd dc_int)
  (dss_cons (ds_for po rfl (di_seq (dv 1)) (dg_name 10 sc_l_head.nd) (dss_cons (ds_set 6 sc_l_head.nd (de_bin opS_mul (dv 6) (dv 10)))
  dss_nil))
  (dss_cons (ds_own 4 sc_l_head.nd (dn_callN c_l_sum (hr.mono (by decide)) hgd tk (da_cons (dvo 4) (da_cons (de_see (de_new (dn_disp (da_cons (dv 6) da_nil)))) (da_cons (de_see dc_int) (da_cons (de_see dc_int) da_nil))))))
  dss_nil))) dss_nil)
  (dss_last (ds_retON 4 (by decide)))))))

abbrev s_l_factor : Stmt := topS 13
theorem sc_l_factor : FnScope ["first", "wished", "factor"] ["first", "wished"] (defScope s_l_factor) := ⟨rfl, rfl, rfl, by decide +kernel, rfl, by decide +kernel, by decide +kernel⟩
theorem w_l_factor {f : Addr} {fd : FuncData} (F : Fun K "_law_factor" "_law_factor" s_l_factor f fd) (c_l_gcd : Cal ek P w K mg base "_law_gcd" 1 2 false f_l_gcd) :
    FnG P w K mg base 2 f fd ["first", "wished"] (spD ek K 2 false f_l_factor) := by
  refine okG (g := g_l_factor) F sc_l_factor rfl rfl (by decide) fun cdv A outer s H E hr hgd tk po => ?_
  unfold g_l_factor
  exact (dss_cons (ds_for po rfl (di_seq (de_new (dn_disp (da_cons (dv 1) (da_cons dc_int (da_cons dc_int (da_cons dc_int (da_cons dc_int (da_cons dc_int (da_cons dc_int (da_cons dc_int (da_cons dc_int (da_cons dc_int (da_cons dc_int (da_cons dc_int da_nil))))))))))))))) (dg_name 2 sc_l_factor.nd) (dss_cons (ds_if (O' := []) (dt_cmp (opS_eq hr.units) (de_call c_l_gcd (hr.mono (by decide)) hgd tk (da_cons (dv 2) (da_cons (dv 0) da_nil))) dc_int) (dss_last (ds_ret (dv 2))) dss_nil)
  dss_nil))
  (dss_last (ds_ret dc_int)))

abbrev s_l_tidy : Stmt := topS 14
theorem sc_l_tidy : FnScope ["stairs", "tidied", "stair", "line", "back", "place", "lower", "times", "one"] ["stairs"] (defScope s_l_tidy) := ⟨rfl, rfl, rfl, by decide +kernel, rfl, by decide +kernel, by decide +kernel⟩
theorem w_l_tidy {f : Addr} {fd : FuncData} (F : Fun K "_law_tidy" "_law_tidy" s_l_tidy f fd) (m_list : mg "list" = none) (m_len : mg "len" = none) (m_range : mg "range" = none) (c_l_sum : Cal ek P w K mg base "_law_sum" 1 4 true f_l_sum) :
    FnG P w K mg base 2 f fd ["stairs"] (spD ek K 1 false f_l_tidy) := by
  refine okG (g := g_l_tidy) F sc_l_tidy rfl rfl (by decide) fun cdv A outer s H E hr hgd tk po => ?_
  unfold g_l_tidy
  exact (dss_cons (ds_own 1 sc_l_tidy.nd (dn_disp da_nil))
  (dss_cons (ds_for po rfl (di_seq (dv 0)) (dg_name 2 sc_l_tidy.nd) (dss_cons (ds_set 3 sc_l_tidy.nd (de_new (dn_callTy cS_list m_list boot_list (da_cons (dv 2) da_nil))))
  (dss_cons (ds_for po rfl (di_range2 m_range (da_cons dc_int (da_cons (de_callB cS_len m_len PySem.boot_len (da_cons (dv 2) da_nil)) da_nil))) (dg_name 4 sc_l_tidy.nd) (dss_cons (ds_set 5 sc_l_tidy.nd (de_bin opS_sub (de_bin opS_sub (de_callB cS_len m_len PySem.boot_len (da_cons (dv 2) da_nil)) dc_int) (dv 4)))
  (dss_cons (ds_lc (j := 6) (own := [("one", 8)]) rfl sc_l_tidy.nd (di_seq (dvo 1)) (blkOk_by (own := [("one", 8)]) (N := ["stairs", "tidied", "stair", "line", "back", "place", "lower", "times", "one"]) (sc := defScope s_l_tidy) (by decide +kernel)) (fun _ _ _ _ _ => (dg_name 8 sc_l_tidy.nd)) (fun _ _ _ _ _ => dts_one (dt_cmp opS_le (de_callB cS_len m_len PySem.boot_len (da_cons (dv 8) da_nil)) (de_bin opS_add (dv 5) dc_int))) (fun _ _ _ _ _ => (dv 8)))
  (dss_cons (ds_if (O' := [6, 1]) (dt_cmp opS_gt (de_callB cS_len m_len PySem.boot_len (da_cons (dvo 6) da_nil)) dc_int) (dss_cons (ds_set 7 sc_l_tidy.nd (de_bin opS_div (de_ix (dv 3) (dv 5)) (de_ix (de_ix (dvo 6) (de_neg dc_int)) (de_neg dc_int))))
  (dss_cons (ds_set 3 sc_l_tidy.nd (de_call c_l_sum (hr.mono (by decide)) hgd tk (da_cons (dv 3) (da_cons (de_ix (dvo 6) (de_neg dc_int)) (da_cons (de_neg (dv 7)) (da_cons (de_bin opS_sub (de_bin opS_add (dv 5) dc_int) (de_callB cS_len m_len PySem.boot_len (da_cons (de_ix (dvo 6) (de_neg dc_int)) da_nil))) da_nil))))))
  dss_nil)) dss_nil)
  dss_nil))))
  (dss_cons (ds_app 1 (by decide) (dv 3) (fun h1 h2 => pe_bm PySem.F.plainAttrs_list PySem.F.slot_list_append PySem.F.type_list_append mt_append h1 (pa_cons h2 pa_nil)))
  dss_nil))))
  (dss_last (ds_retO 1 (by decide)))))

abbrev s_l_stairs : Stmt := topS 15
theorem sc_l_stairs : FnScope ["script", "shape", "first", "common", "heads", "factors", "k", "row", "head", "line", "stairs", "times", "back", "one"] ["script"] (defScope s_l_stairs) := ⟨rfl, rfl, rfl, by decide +kernel, rfl, by decide +kernel, by decide +kernel⟩
theorem w_l_stairs {f : Addr} {fd : FuncData} (F : Fun K "_law_stairs" "_law_stairs" s_l_stairs f fd) (m_int : mg "int" = none) (m_range : mg "range" = none) (m_len : mg "len" = none) (c_l_digits : Cal ek P w K mg base "_law_digits" 1 2 false f_l_digits) (c_l_cell : Cal ek P w K mg base "_law_cell" 1 2 false f_l_cell) (c_l_head : Cal ek P w K mg base "_law_head" 3 4 true f_l_head) (c_l_factor : Cal ek P w K mg base "_law_factor" 2 2 false f_l_factor) (c_l_product : Cal ek P w K mg base "_law_product" 2 2 true f_l_product) (c_l_tidy : Cal ek P w K mg base "_law_tidy" 2 1 false f_l_tidy) (c_l_within : Cal ek P w K mg base "_law_within" 1 1 false f_l_within) :
    FnG P w K mg base 4 f fd ["script"] (spD ek K 1 false f_l_stairs) := by
  refine okG (g := g_l_stairs) F sc_l_stairs rfl rfl (by decide) fun cdv A outer s H E hr hgd tk po => ?_
  unfold g_l_stairs
  exact (dss_cons (ds_set 1 sc_l_stairs.nd (de_call c_l_digits (hr.mono (by decide)) hgd tk (da_cons (de_call c_l_cell (hr.mono (by decide)) hgd tk (da_cons (dv 0) (da_cons dc_int da_nil))) (da_cons (de_new (dn_disp (da_cons dc_int (da_cons dc_int (da_cons dc_int (da_cons dc_int (da_cons dc_int da_nil))))))) da_nil))))
  (dss_cons (ds_set 2 sc_l_stairs.nd (de_ix (de_new (dn_disp (da_cons dc_int (da_cons (de_neg dc_int) (da_cons dc_int (da_cons (de_neg dc_int) (da_cons dc_int da_nil))))))) (de_ix (dv 1) dc_int)))
  (dss_cons (ds_set 3 sc_l_stairs.nd (de_new (dn_disp (da_cons (de_new (dn_disp (da_cons dc_int da_nil))) (da_cons (de_new (dn_disp (da_cons dc_int da_nil))) (da_cons (de_new (dn_disp (da_cons dc_int da_nil))) (da_cons (de_new (dn_disp (da_cons dc_int da_nil))) (da_cons (de_new (dn_disp (da_cons (de_bin opS_add dc_int (de_ix (dv 1) dc_int)) da_nil))) (da_cons (de_new (dn_disp (da_cons (dv 2) (da_cons dc_int da_nil)))) (da_cons (de_new (dn_disp (da_cons (dv 2) (da_cons (de_bin opS_add dc_int (de_bin opS_mod (de_callTy cS_int m_int boot_int (da_cons (de_ix (dv 1) dc_int) da_nil)) dc_int)) da_nil)))) (da_cons (de_new (dn_disp (da_cons (dv 2) (da_cons (de_bin opS_sub (de_ix (dv 1) dc_int) dc_int) (da_cons dc_int da_nil))))) da_nil)))))))))))
  (dss_cons (ds_own 4 sc_l_stairs.nd (dn_disp (da_cons (de_new (dn_disp (da_cons dc_int da_nil))) da_nil)))
  (dss_cons (ds_own 5 sc_l_stairs.nd (dn_disp da_nil))
  (dss_cons (ds_for po rfl (di_range1 m_range (da_cons (de_ix (de_new (dn_disp (da_cons dc_int (da_cons dc_int (da_cons dc_int (da_cons dc_int (da_cons dc_int (da_cons dc_int (da_cons dc_int (da_cons dc_int (da_cons dc_int (da_cons dc_int (da_cons dc_int (da_cons dc_int da_nil)))))))))))))) (de_ix (dv 1) dc_int)) da_nil)) (dg_name 6 sc_l_stairs.nd) (dss_cons (ds_set 7 sc_l_stairs.nd (de_call c_l_digits (hr.mono (by decide)) hgd tk (da_cons (de_call c_l_cell (hr.mono (by decide)) hgd tk (da_cons (dv 0) (da_cons (de_bin opS_add dc_int (dv 6)) da_nil))) (da_cons (de_new (dn_disp (da_cons dc_int (da_cons dc_int (da_cons dc_int (da_cons dc_int (da_cons dc_int (da_cons dc_int (da_cons dc_int (da_cons dc_int (da_cons dc_int (da_cons dc_int (da_cons dc_int (da_cons dc_int da_nil)))))))))))))) da_nil))))
  (dss_cons (ds_set 8 sc_l_stairs.nd (de_callN c_l_head (hr.mono (by decide)) hgd tk (da_cons (dvo 4) (da_cons (dvo 5) (da_cons (de_see (dv 7)) (da_cons (de_see (de_callTy cS_int m_int boot_int (da_cons (de_cmp (opS_eq hr.units) (de_ix (dv 1) dc_int) dc_int) da_nil))) da_nil))))))
  (dss_cons (ds_app 5 (by decide) (de_call c_l_factor (hr.mono (by decide)) hgd tk (da_cons (de_ix (dv 8) dc_int) (da_cons (de_bin opS_add dc_int (de_ix (dv 7) dc_int)) da_nil))) (fun h1 h2 => pe_bm PySem.F.plainAttrs_list PySem.F.slot_list_append PySem.F.type_list_append mt_append h1 (pa_cons h2 pa_nil)))
  (dss_cons (ds_app 4 (by decide) (dv 8) (fun h1 h2 => pe_bm PySem.F.plainAttrs_list PySem.F.slot_list_append PySem.F.type_list_append mt_append h1 (pa_cons h2 pa_nil)))
  dss_nil)))))
  (dss_cons (ds_for po rfl (di_seq (de_new (dn_disp (da_cons (de_ix (dv 3) (de_ix (dv 1) dc_int)) (da_cons (de_new (dn_disp (da_cons dc_int da_nil))) da_nil))))) (dg_name 9 sc_l_stairs.nd) (dss_cons (ds_set 10 sc_l_stairs.nd (de_new (dn_disp da_nil)))
  (dss_cons (ds_set 11 sc_l_stairs.nd dc_int)
  (dss_cons (ds_for po rfl (di_range1 m_range (da_cons (de_callB cS_len m_len PySem.boot_len (da_cons (dvo 4) da_nil)) da_nil)) (dg_name 12 sc_l_stairs.nd) (dss_cons (ds_set 10 sc_l_stairs.nd (de_bin opS_add (de_new (dn_disp (da_cons (de_call c_l_product (hr.mono (by decide)) hgd tk (da_cons (de_call c_l_product (hr.mono (by decide)) hgd tk (da_cons (de_ix (dvo 4) (de_bin opS_sub (de_bin opS_sub (de_callB cS_len m_len PySem.boot_len (da_cons (dvo 4) da_nil)) dc_int) (dv 12))) (da_cons (dv 9) da_nil))) (da_cons (de_new (dn_disp (da_cons (dv 11) da_nil))) da_nil))) da_nil))) (dv 10)))
  (dss_cons (ds_if (O' := [5, 4]) (dt_cmp opS_lt (dv 12) (de_callB cS_len m_len PySem.boot_len (da_cons (dvo 5) da_nil))) (dss_cons (ds_set 11 sc_l_stairs.nd (de_bin opS_mul (dv 11) (de_ix (dvo 5) (de_bin opS_sub (de_bin opS_sub (de_callB cS_len m_len PySem.boot_len (da_cons (dvo 5) da_nil)) dc_int) (dv 12)))))
  dss_nil) dss_nil)
  dss_nil)))
  (dss_cons (ds_set 10 sc_l_stairs.nd (de_call c_l_tidy (hr.mono (by decide)) hgd tk (da_cons (dv 10) da_nil)))
  (dss_cons (ds_if (O' := [5, 4]) (dt_cmp (opS_eq hr.units) (de_callB cS_len m_len PySem.boot_len (da_cons (de_new (dn_comp (own := [("one", 13)]) rfl sc_l_stairs.nd (di_seq (dv 10)) (blkOk_by (own := [("one", 13)]) (N := ["script", "shape", "first", "common", "heads", "factors", "k", "row", "head", "line", "stairs", "times", "back", "one"]) (sc := defScope s_l_stairs) (by decide +kernel)) (fun _ _ _ _ _ => (dg_name 13 sc_l_stairs.nd)) (fun _ _ _ _ _ => dts_one (dt_not (dt_val (de_call c_l_within (hr.mono (by decide)) hgd takes0 (da_cons (dv 13) da_nil))))) (fun _ _ _ _ _ => (dv 13)))) da_nil)) dc_int) (dss_last ds_break) dss_nil)
  dss_nil))))))
  (dss_last (ds_ret (dv 10))))))))))

abbrev s_l_short : Stmt := topS 16
theorem sc_l_short : FnScope ["line", "places", "k"] ["line"] (defScope s_l_short) := ⟨rfl, rfl, rfl, by decide +kernel, rfl, by decide +kernel, by decide +kernel⟩
theorem w_l_short {f : Addr} {fd : FuncData} (F : Fun K "_law_short" "_law_short" s_l_short f fd) (m_len : mg "len" = none) (m_range : mg "range" = none) (m_list : mg "list" = none) :
    FnG P w K mg base 1 f fd ["line"] (spD ek K 1 false f_l_short) := by
  refine okG (g := g_l_short) F sc_l_short rfl rfl (by decide) fun cdv A outer s H E hr hgd tk po => ?_
  unfold g_l_short
  exact (dss_cons (ds_lc (j := 1) (own := [("k", 2)]) rfl sc_l_short.nd (di_range1 m_range (da_cons (de_callB cS_len m_len PySem.boot_len (da_cons (dv 0) da_nil)) da_nil)) (blkOk_by (own := [("k", 2)]) (N := ["line", "places", "k"]) (sc := defScope s_l_short) (by decide +kernel)) (fun _ _ _ _ _ => (dg_name 2 sc_l_short.nd)) (fun _ _ _ _ _ => dts_one (dt_cmp (opS_ne hr.units) (de_ix (dv 0) (dv 2)) dc_int)) (fun _ _ _ _ _ => (dv 2)))
  (dss_cons (ds_if (O' := [1]) (dt_cmp (opS_eq hr.units) (de_callB cS_len m_len PySem.boot_len (da_cons (dvo 1) da_nil)) dc_int) (dss_last (ds_ret (de_new (dn_disp da_nil)))) dss_nil)
  (dss_last (ds_ret (de_new (dn_callTy cS_list m_list boot_list (da_cons (de_new (dn_cut (dv 0) dp_no (dp_at (de_bin opS_add (de_ix (dvo 1) (de_neg dc_int)) dc_int)))) da_nil)))))))

abbrev s_l_left : Stmt := topS 17
theorem sc_l_left : FnScope ["stairs", "line", "left", "back", "place", "fitting", "times", "stair"] ["stairs", "line"] (defScope s_l_left) := ⟨rfl, rfl, rfl, by decide +kernel, rfl, by decide +kernel, by decide +kernel⟩
theorem w_l_left {f : Addr} {fd : FuncData} (F : Fun K "_law_left" "_law_left" s_l_left f fd) (m_len : mg "len" = none) (m_range : mg "range" = none) (m_tuple : mg "tuple" = none) (c_l_short : Cal ek P w K mg base "_law_short" 1 1 false f_l_short) (c_l_sum : Cal ek P w K mg base "_law_sum" 1 4 true f_l_sum) :
    FnG P w K mg base 2 f fd ["stairs", "line"] (spD ek K 2 false f_l_left) := by
  refine okG (g := g_l_left) F sc_l_left rfl rfl (by decide) fun cdv A outer s H E hr hgd tk po => ?_
  unfold g_l_left
  exact (dss_cons (ds_set 2 sc_l_left.nd (de_call c_l_short (hr.mono (by decide)) hgd tk (da_cons (dv 1) da_nil)))
  (dss_cons (ds_for po rfl (di_range1 m_range (da_cons (de_callB cS_len m_len PySem.boot_len (da_cons (dv 2) da_nil)) da_nil)) (dg_name 3 sc_l_left.nd) (dss_cons (ds_set 4 sc_l_left.nd (de_bin opS_sub (de_bin opS_sub (de_callB cS_len m_len PySem.boot_len (da_cons (dv 2) da_nil)) dc_int) (dv 3)))
  (dss_cons (ds_lc (j := 5) (own := [("stair", 7)]) rfl sc_l_left.nd (di_seq (dv 0)) (blkOk_by (own := [("stair", 7)]) (N := ["stairs", "line", "left", "back", "place", "fitting", "times", "stair"]) (sc := defScope s_l_left) (by decide +kernel)) (fun _ _ _ _ _ => (dg_name 7 sc_l_left.nd)) (fun _ _ _ _ _ => dts_one (dt_cmp opS_le (de_callB cS_len m_len PySem.boot_len (da_cons (dv 7) da_nil)) (de_bin opS_add (dv 4) dc_int))) (fun _ _ _ _ _ => (dv 7)))
  (dss_cons (ds_if (O' := [5]) (dt_cmp opS_gt (de_callB cS_len m_len PySem.boot_len (da_cons (dvo 5) da_nil)) dc_int) (dss_cons (ds_set 6 sc_l_left.nd (de_bin opS_div (de_ix (dv 2) (dv 4)) (de_ix (de_ix (dvo 5) (de_neg dc_int)) (de_neg dc_int))))
  (dss_cons (ds_set 2 sc_l_left.nd (de_call c_l_sum (hr.mono (by decide)) hgd tk (da_cons (dv 2) (da_cons (de_ix (dvo 5) (de_neg dc_int)) (da_cons (de_neg (dv 6)) (da_cons (de_bin opS_sub (de_bin opS_add (dv 4) dc_int) (de_callB cS_len m_len PySem.boot_len (da_cons (de_ix (dvo 5) (de_neg dc_int)) da_nil))) da_nil))))))
  dss_nil)) dss_nil)
  dss_nil))))
  (dss_last (ds_ret (de_callTy cS_tuple m_tuple boot_tuple (da_cons (de_call c_l_short (hr.mono (by decide)) hgd tk (da_cons (dv 2) da_nil)) da_nil))))))

abbrev s_l_made : Stmt := topS 18
theorem sc_l_made : FnScope ["stairs", "row", "made", "k", "one", "two", "shift", "times", "more"] ["stairs", "row"] (defScope s_l_made) := ⟨rfl, rfl, rfl, by decide +kernel, rfl, by decide +kernel, by decide +kernel⟩
theorem w_l_made {f : Addr} {fd : FuncData} (F : Fun K "_law_made" "_law_made" s_l_made f fd) (m_int : mg "int" = none) (m_len : mg "len" = none) (m_max : mg "max" = none) (m_range : mg "range" = none) (c_l_sum : Cal ek P w K mg base "_law_sum" 1 4 true f_l_sum) (c_l_within : Cal ek P w K mg base "_law_within" 1 1 false f_l_within) :
    FnG P w K mg base 2 f fd ["stairs", "row"] (spD ek K 2 false f_l_made) := by
  refine okG (g := g_l_made) F sc_l_made rfl rfl (by decide) fun cdv A outer s H E hr hgd tk po => ?_
  unfold g_l_made
  exact (dss_cons (ds_set 2 sc_l_made.nd (de_new (dn_disp da_nil)))
  (dss_cons (ds_for po rfl (di_range1 m_range (da_cons dc_int da_nil)) (dg_name 3 sc_l_made.nd) (dss_cons (ds_set 4 sc_l_made.nd (de_ix (dv 0) (de_bin opS_mod (de_callTy cS_int m_int boot_int (da_cons (de_ix (dv 1) (de_bin opS_mul dc_int (dv 3))) da_nil)) (de_callB cS_len m_len PySem.boot_len (da_cons (dv 0) da_nil)))))
  (dss_cons (ds_set 5 sc_l_made.nd (de_ix (dv 0) (de_bin opS_mod (de_callTy cS_int m_int boot_int (da_cons (de_ix (dv 1) (de_bin opS_add (de_bin opS_mul dc_int (dv 3)) dc_int)) da_nil)) (de_callB cS_len m_len PySem.boot_len (da_cons (dv 0) da_nil)))))
  (dss_cons (ds_set 6 sc_l_made.nd (de_bin opS_mod (de_callTy cS_int m_int boot_int (da_cons (de_ix (dv 1) (de_bin opS_add (de_bin opS_mul dc_int (dv 3)) dc_int)) da_nil)) (de_bin opS_sub dc_int (de_callB (cS_max rfl) m_max boot_max (da_cons (de_callB cS_len m_len PySem.boot_len (da_cons (dv 4) da_nil)) (da_cons (de_callB cS_len m_len PySem.boot_len (da_cons (dv 5) da_nil)) da_nil))))))
  (dss_cons (ds_for po rfl (di_seq (de_new (dn_disp (da_cons (de_bin opS_sub (de_ix (dv 1) (de_bin opS_add (de_bin opS_mul dc_int (dv 3)) dc_int)) dc_int) (da_cons (de_bin opS_div (de_bin opS_sub (de_ix (dv 1) (de_bin opS_add (de_bin opS_mul dc_int (dv 3)) dc_int)) dc_int) dc_int) da_nil))))) (dg_name 7 sc_l_made.nd) (dss_cons (ds_set 8 sc_l_made.nd (de_call c_l_sum (hr.mono (by decide)) hgd tk (da_cons (dv 2) (da_cons (dv 4) (da_cons (dv 7) (da_cons (dv 6) da_nil))))))
  (dss_cons (ds_if (O' := []) (dt_cmp opS_lt (de_callB cS_len m_len PySem.boot_len (da_cons (dv 4) da_nil)) (de_callB cS_len m_len PySem.boot_len (da_cons (dv 5) da_nil))) (dss_cons (ds_set 8 sc_l_made.nd (de_call c_l_sum (hr.mono (by decide)) hgd tk (da_cons (dv 2) (da_cons (dv 5) (da_cons (de_bin opS_mul (dv 7) (de_bin opS_div (de_ix (dv 4) (de_neg dc_int)) (de_ix (dv 5) (de_neg dc_int)))) (da_cons (dv 6) da_nil))))))
  (dss_cons (ds_set 8 sc_l_made.nd (de_call c_l_sum (hr.mono (by decide)) hgd tk (da_cons (dv 8) (da_cons (dv 4) (da_cons (de_neg (dv 7)) (da_cons (de_bin opS_sub (de_bin opS_add (dv 6) (de_callB cS_len m_len PySem.boot_len (da_cons (dv 5) da_nil))) (de_callB cS_len m_len PySem.boot_len (da_cons (dv 4) da_nil))) da_nil))))))
  dss_nil)) dss_nil)
  (dss_cons (ds_if (O' := []) (dt_val (de_call c_l_within (hr.mono (by decide)) hgd tk (da_cons (dv 8) da_nil))) (dss_cons (ds_set 2 sc_l_made.nd (dv 8))
  (dss_last ds_break)) dss_nil)
  dss_nil))))
  dss_nil)))))
  (dss_last (ds_ret (dv 2)))))

abbrev s_l_change : Stmt := topS 19
theorem sc_l_change : FnScope ["stairs", "row", "lead", "changes"] ["stairs", "row"] (defScope s_l_change) := ⟨rfl, rfl, rfl, by decide +kernel, rfl, by decide +kernel, by decide +kernel⟩
theorem w_l_change {f : Addr} {fd : FuncData} (F : Fun K "_law_change" "_law_change" s_l_change f fd) (m_len : mg "len" = none) (m_int : mg "int" = none) :
    FnG P w K mg base 1 f fd ["stairs", "row"] (spD ek K 2 false f_l_change) := by
  refine okG (g := g_l_change) F sc_l_change rfl rfl (by decide) fun cdv A outer s H E hr hgd tk po => ?_
  unfold g_l_change
  exact (dss_cons (ds_if (O' := []) (dt_cmp (opS_eq hr.units) (de_callB cS_len m_len PySem.boot_len (da_cons (dv 0) da_nil)) dc_int) (dss_last (ds_ret (de_bin opS_add dc_int (de_ix (dv 1) dc_int)))) dss_nil)
  (dss_cons (ds_set 2 sc_l_change.nd (de_ix (de_ix (dv 0) dc_int) (de_neg dc_int)))
  (dss_cons (ds_set 3 sc_l_change.nd (de_new (dn_disp (da_cons (de_bin opS_add dc_int (de_ix (dv 1) dc_int)) (da_cons (dv 2) (da_cons (de_bin opS_add (dv 2) dc_int) (da_cons (de_bin opS_sub (dv 2) dc_int) (da_cons (de_bin opS_mul dc_int (dv 2)) (da_cons (de_bin opS_add dc_int (de_ix (dv 1) dc_int)) (da_cons (de_bin opS_mul (dv 2) (de_bin opS_add dc_int (de_bin opS_mod (de_callTy cS_int m_int boot_int (da_cons (de_ix (dv 1) dc_int) da_nil)) dc_int))) (da_cons (de_bin opS_div (dv 2) dc_int) da_nil)))))))))))
  (dss_cons (ds_if (O' := []) (dt_chain opS_lt opS_le dc_int (de_ix (dv 3) (de_ix (dv 1) dc_int)) (de_bin opS_pow dc_int dc_int)) (dss_last (ds_ret (de_ix (dv 3) (de_ix (dv 1) dc_int)))) dss_nil)
  (dss_last (ds_ret dc_int))))))

abbrev s_law : Stmt := topS 20
theorem sc_law : FnScope ["script", "shape", "stairs", "bound", "row", "k", "free", "made", "change", "changed", "held", "due", "asked", "stair", "line", "told", "fixed", "left", "number", "one", "both"] ["script"] (defScope s_law) := ⟨rfl, rfl, rfl, by decide +kernel, rfl, by decide +kernel, by decide +kernel⟩
theorem w_law {f : Addr} {fd : FuncData} (F : Fun K "law" "law" s_law f fd) (m_range : mg "range" = none) (m_int : mg "int" = none) (m_len : mg "len" = none) (m_list : mg "list" = none) (m_repr : mg "repr" = none) (m_tuple : mg "tuple" = none) (c_l_digits : Cal ek P w K mg base "_law_digits" 1 2 false f_l_digits) (c_l_cell : Cal ek P w K mg base "_law_cell" 1 2 false f_l_cell) (c_l_stairs : Cal ek P w K mg base "_law_stairs" 4 1 false f_l_stairs) (c_l_made : Cal ek P w K mg base "_law_made" 2 2 false f_l_made) (c_l_change : Cal ek P w K mg base "_law_change" 1 2 false f_l_change) (c_l_left : Cal ek P w K mg base "_law_left" 2 2 false f_l_left) (c_stair_rest : Cal ek P w K mg base "stair_rest" 2 2 false f_stair_rest) (c_stair_holds : Cal ek P w K mg base "stair_holds" 3 2 false f_stair_holds) (c_l_within : Cal ek P w K mg base "_law_within" 1 1 false f_l_within) (c_l_short : Cal ek P w K mg base "_law_short" 1 1 false f_l_short) (c_l_sum : Cal ek P w K mg base "_law_sum" 1 4 true f_l_sum) :
    FnG P w K mg base 5 f fd ["script"] (spD ek K 1 false f_law) := by
  refine okG (g := g_law) F sc_law rfl rfl (by decide) fun cdv A outer s H E hr hgd tk po => ?_
  unfold g_law
  exact (dss_cons (ds_set 1 sc_law.nd (de_call c_l_digits (hr.mono (by decide)) hgd tk (da_cons (de_call c_l_cell (hr.mono (by decide)) hgd tk (da_cons (dv 0) (da_cons dc_int da_nil))) (da_cons (de_new (dn_disp (da_cons dc_int (da_cons dc_int (da_cons dc_int (da_cons dc_int (da_cons dc_int (da_cons dc_int (da_cons dc_int (da_cons dc_int da_nil)))))))))) da_nil))))
  (dss_cons (ds_set 2 sc_law.nd (de_new (dn_disp da_nil)))
  (dss_cons (ds_if (O' := []) (dt_cmp (opS_ne hr.units) (de_ix (dv 1) dc_int) dc_int) (dss_cons (ds_set 2 sc_law.nd (de_call c_l_stairs (hr.mono (by decide)) hgd tk (da_cons (dv 0) da_nil)))
  dss_nil) dss_nil)
  (dss_cons (ds_set 3 sc_law.nd (de_ix (de_new (dn_disp (da_cons (de_bin opS_pow dc_int dc_int) (da_cons dc_int (da_cons dc_int (da_cons (de_bin opS_pow dc_int dc_int) da_nil)))))) (de_ix (dv 1) dc_int)))
  (dss_cons (ds_set 4 sc_law.nd (de_call c_l_digits (hr.mono (by decide)) hgd tk (da_cons (de_call c_l_cell (hr.mono (by decide)) hgd tk (da_cons (dv 0) (da_cons dc_int da_nil))) (da_cons (de_new (dn_comp (own := [("k", 5)]) rfl sc_law.nd (di_range1 m_range (da_cons dc_int da_nil)) (blkOk_by (own := [("k", 5)]) (N := ["script", "shape", "stairs", "bound", "row", "k", "free", "made", "change", "changed", "held", "due", "asked", "stair", "line", "told", "fixed", "left", "number", "one", "both"]) (sc := defScope s_law) (by decide +kernel)) (fun _ _ _ _ _ => (dg_name 5 sc_law.nd)) (fun _ _ _ _ _ => dts_nil) (fun _ _ _ _ _ => (de_bin opS_pow dc_int dc_int)))) da_nil))))
  (dss_cons (ds_lc (j := 6) (own := [("k", 5)]) rfl sc_law.nd (di_range1 m_range (da_cons (de_ix (dv 1) dc_int) da_nil)) (blkOk_by (own := [("k", 5)]) (N := ["script", "shape", "stairs", "bound", "row", "k", "free", "made", "change", "changed", "held", "due", "asked", "stair", "line", "told", "fixed", "left", "number", "one", "both"]) (sc := defScope s_law) (by decide +kernel)) (fun _ _ _ _ _ => (dg_name 5 sc_law.nd)) (fun _ _ _ _ _ => dts_nil) (fun _ _ _ _ _ => (de_bin opS_sub (de_bin opS_mod (de_callTy cS_int m_int boot_int (da_cons (de_ix (dv 4) (dv 5)) da_nil)) (de_bin opS_add (de_bin opS_mul dc_int (dv 3)) dc_int)) (dv 3))))
  (dss_cons (ds_set 7 sc_law.nd (de_new (dn_disp da_nil)))
  (dss_cons (ds_if (O' := [6]) (dt_cmp opS_gt (de_callB cS_len m_len PySem.boot_len (da_cons (dv 2) da_nil)) dc_int) (dss_cons (ds_set 4 sc_law.nd (de_call c_l_digits (hr.mono (by decide)) hgd tk (da_cons (de_call c_l_cell (hr.mono (by decide)) hgd tk (da_cons (dv 0) (da_cons dc_int da_nil))) (da_cons (de_new (dn_disp (da_cons dc_int (da_cons dc_int (da_cons dc_int (da_cons dc_int (da_cons dc_int (da_cons dc_int (da_cons dc_int (da_cons dc_int (da_cons dc_int (da_cons dc_int (da_cons dc_int (da_cons dc_int (da_cons dc_int (da_cons dc_int (da_cons dc_int (da_cons dc_int (da_cons dc_int (da_cons dc_int (da_cons dc_int (da_cons dc_int da_nil)))))))))))))))))))))) da_nil))))
  (dss_cons (ds_set 7 sc_law.nd (de_call c_l_made (hr.mono (by decide)) hgd tk (da_cons (dv 2) (da_cons (dv 4) da_nil))))
  dss_nil)) dss_nil)
  (dss_cons (ds_set 8 sc_law.nd (de_call c_l_change (hr.mono (by decide)) hgd tk (da_cons (dv 2) (da_cons (de_new (dn_disp (da_cons (de_ix (dv 1) dc_int) (da_cons (de_ix (dv 1) dc_int) da_nil)))) da_nil))))
  (dss_cons (ds_own 9 sc_law.nd (dn_cat (dv 7) (de_new (dn_comp (own := [("k", 5)]) rfl sc_law.nd (di_range1 m_range (da_cons (de_bin opS_sub (de_bin opS_add (de_ix (dv 1) dc_int) dc_int) (de_callB cS_len m_len PySem.boot_len (da_cons (dv 7) da_nil))) da_nil)) (blkOk_by (own := [("k", 5)]) (N := ["script", "shape", "stairs", "bound", "row", "k", "free", "made", "change", "changed", "held", "due", "asked", "stair", "line", "told", "fixed", "left", "number", "one", "both"]) (sc := defScope s_law) (by decide +kernel)) (fun _ _ _ _ _ => (dg_name 5 sc_law.nd)) (fun _ _ _ _ _ => dts_nil) (fun _ _ _ _ _ => dc_int)))))
  (dss_cons (ds_if (O' := [9, 6]) (dt_cmp opS_gt (de_ix (dvo 9) (de_ix (dv 1) dc_int)) dc_int) (dss_cons (ds_ix 9 (by decide) (de_bin opS_sub (de_ix (dvo 9) (de_ix (dv 1) dc_int)) (dv 8)) (de_ix (dv 1) dc_int))
  dss_nil) (dss_cons (ds_ix 9 (by decide) (de_bin opS_add (de_ix (dvo 9) (de_ix (dv 1) dc_int)) (dv 8)) (de_ix (dv 1) dc_int))
  dss_nil))
  (dss_cons (ds_set 10 sc_law.nd (de_and (de_cmp opS_gt (de_callB cS_len m_len PySem.boot_len (da_cons (dv 2) da_nil)) dc_int) (de_and (de_cmp (opS_eq hr.units) (de_callB cS_len m_len PySem.boot_len (da_cons (de_ix (dv 2) dc_int) da_nil)) dc_int) (de_one (de_cmp (opS_eq hr.units) (de_bin opS_mod (de_callTy cS_int m_int boot_int (da_cons (dv 8) da_nil)) (de_ix (de_ix (dv 2) dc_int) dc_int)) dc_int)))))
  (dss_cons (ds_frz (O1 := [9]) (by decide) (ds_set 11 sc_law.nd (de_call c_l_left (hr.mono (by decide)) hgd tk (da_cons (dv 2) (da_cons (dv 6) da_nil)))))
  (dss_cons (ds_lc (j := 12) (own := [("stair", 13)]) rfl sc_law.nd (di_seq (dv 2)) (blkOk_by (own := [("stair", 13)]) (N := ["script", "shape", "stairs", "bound", "row", "k", "free", "made", "change", "changed", "held", "due", "asked", "stair", "line", "told", "fixed", "left", "number", "one", "both"]) (sc := defScope s_law) (by decide +kernel)) (fun _ _ _ _ _ => (dg_name 13 sc_law.nd)) (fun _ _ _ _ _ => dts_nil) (fun _ _ _ _ _ => (de_new (dn_callTy cS_list m_list boot_list (da_cons (dv 13) da_nil)))))
  (dss_cons (ds_set 14 sc_law.nd (de_new (dn_callTy cS_list m_list boot_list (da_cons (dv 6) da_nil))))
  (dss_cons (ds_frz (O1 := [9]) (by decide) (ds_set 15 sc_law.nd (de_call c_stair_rest (hr.mono (by decide)) hgd tk (da_cons (dv 12) (da_cons (dv 14) da_nil)))))
  (dss_cons (ds_if (O' := [9]) (PW.pt (dw_or (dt_cmp (opS_ne hr.units) (de_callB (cS_repr hgd (room200 hr)) m_repr boot_repr (da_cons (dv 15) da_nil)) (de_callB (cS_repr hgd (room200 hr)) m_repr boot_repr (da_cons (dv 11) da_nil))) (dw_or (dt_cmp (opS_ne hr.units) (de_callB (cS_repr hgd (room200 hr)) m_repr boot_repr (da_cons (dv 12) da_nil)) (de_callB (cS_repr hgd (room200 hr)) m_repr boot_repr (da_cons (de_new (dn_comp (own := [("stair", 13)]) rfl sc_law.nd (di_seq (dv 2)) (blkOk_by (own := [("stair", 13)]) (N := ["script", "shape", "stairs", "bound", "row", "k", "free", "made", "change", "changed", "held", "due", "asked", "stair", "line", "told", "fixed", "left", "number", "one", "both"]) (sc := defScope s_law) (by decide +kernel)) (fun _ _ _ _ _ => (dg_name 13 sc_law.nd)) (fun _ _ _ _ _ => dts_nil) (fun _ _ _ _ _ => (de_new (dn_callTy cS_list m_list boot_list (da_cons (dv 13) da_nil)))))) da_nil))) (dw_or1 (dt_cmp (opS_ne hr.units) (de_callB (cS_repr hgd (room200 hr)) m_repr boot_repr (da_cons (dv 14) da_nil)) (de_callB (cS_repr hgd (room200 hr)) m_repr boot_repr (da_cons (dv 6) da_nil))))))) (dss_last (ds_ret dc_bl)) dss_nil)
  (dss_cons (ds_set 16 sc_law.nd (de_callTy cS_tuple m_tuple boot_tuple (da_cons (de_new (dn_comp (own := [("stair", 13)]) rfl sc_law.nd (di_seq (dv 2)) (blkOk_by (own := [("stair", 13)]) (N := ["script", "shape", "stairs", "bound", "row", "k", "free", "made", "change", "changed", "held", "due", "asked", "stair", "line", "told", "fixed", "left", "number", "one", "both"]) (sc := defScope s_law) (by decide +kernel)) (fun _ _ _ _ _ => (dg_name 13 sc_law.nd)) (fun _ _ _ _ _ => dts_nil) (fun _ _ _ _ _ => (de_callTy cS_tuple m_tuple boot_tuple (da_cons (dv 13) da_nil))))) da_nil)))
  (dss_cons (ds_if (O' := [9]) (dt_cmp (opS_ne hr.units) (de_callB (cS_repr hgd (room200 hr)) m_repr boot_repr (da_cons (de_call c_stair_holds (hr.mono (by decide)) hgd tk (da_cons (dv 16) (da_cons (de_callTy cS_tuple m_tuple boot_tuple (da_cons (dv 6) da_nil)) da_nil))) da_nil)) (de_callB (cS_repr hgd (room200 hr)) m_repr boot_repr (da_cons (de_cmp (opS_eq hr.units) (de_callB cS_len m_len PySem.boot_len (da_cons (dv 11) da_nil)) dc_int) da_nil))) (dss_last (ds_ret dc_bl)) dss_nil)
  (dss_cons (ds_if (O' := [9]) (PW.pt (dw_and (dt_val (de_call c_l_within (hr.mono (by decide)) hgd tk (da_cons (dv 11) da_nil))) (dw_and1 (dt_cmp (opS_ne hr.units) (de_callB (cS_repr hgd (room200 hr)) m_repr boot_repr (da_cons (de_call c_stair_rest (hr.mono (by decide)) hgd tk (da_cons (dv 16) (da_cons (dv 11) da_nil))) da_nil)) (de_callB (cS_repr hgd (room200 hr)) m_repr boot_repr (da_cons (dv 11) da_nil)))))) (dss_last (ds_ret dc_bl)) dss_nil)
  (dss_cons (ds_if (O' := [9]) (PW.pt (dw_or (dt_cmp (opS_ne hr.units) (de_callB (cS_repr hgd (room200 hr)) m_repr boot_repr (da_cons (de_call c_stair_rest (hr.mono (by decide)) hgd tk (da_cons (dv 16) (da_cons (de_callTy cS_tuple m_tuple boot_tuple (da_cons (dv 7) da_nil)) da_nil))) da_nil)) dc_str) (dw_or1 (dt_cmp opS_notT (de_call c_stair_holds (hr.mono (by decide)) hgd tk (da_cons (de_new (dn_comp (own := [("stair", 13)]) rfl sc_law.nd (di_seq (dv 2)) (blkOk_by (own := [("stair", 13)]) (N := ["script", "shape", "stairs", "bound", "row", "k", "free", "made", "change", "changed", "held", "due", "asked", "stair", "line", "told", "fixed", "left", "number", "one", "both"]) (sc := defScope s_law) (by decide +kernel)) (fun _ _ _ _ _ => (dg_name 13 sc_law.nd)) (fun _ _ _ _ _ => dts_nil) (fun _ _ _ _ _ => (de_new (dn_callTy cS_list m_list boot_list (da_cons (dv 13) da_nil)))))) (da_cons (de_new (dn_callTy cS_list m_list boot_list (da_cons (dv 7) da_nil))) da_nil))) dc_bl)))) (dss_last (ds_ret dc_bl)) dss_nil)
  (dss_cons (ds_frz (O1 := []) (by decide) (ds_set 17 sc_law.nd (de_call c_l_left (hr.mono (by decide)) hgd tk (da_cons (dv 2) (da_cons (dv 9) da_nil)))))
  (dss_cons (ds_if (O' := []) (PW.pt (dw_or (dt_cmp (opS_ne hr.units) (de_callB (cS_repr hgd (room200 hr)) m_repr boot_repr (da_cons (de_call c_stair_holds (hr.mono (by decide)) hgd tk (da_cons (dv 16) (da_cons (de_new (dn_callTy cS_list m_list boot_list (da_cons (dv 9) da_nil))) da_nil))) da_nil)) (de_callB (cS_repr hgd (room200 hr)) m_repr boot_repr (da_cons (dv 10) da_nil))) (dw_or1 (dt_cmp (opS_ne hr.units) (de_callB (cS_repr hgd (room200 hr)) m_repr boot_repr (da_cons (de_call c_stair_rest (hr.mono (by decide)) hgd tk (da_cons (dv 16) (da_cons (de_new (dn_callTy cS_list m_list boot_list (da_cons (dv 9) da_nil))) da_nil))) da_nil)) (de_callB (cS_repr hgd (room200 hr)) m_repr boot_repr (da_cons (dv 17) da_nil)))))) (dss_last (ds_ret dc_bl)) dss_nil)
  (dss_cons (ds_set 18 sc_law.nd (de_bin opS_add dc_int (de_ix (dv 1) dc_int)))
  (dss_cons (ds_if (O' := []) (dt_cmp (opS_ne hr.units) (de_callB (cS_repr hgd (room200 hr)) m_repr boot_repr (da_cons (de_call c_stair_rest (hr.mono (by decide)) hgd tk (da_cons (de_tup (da_cons (de_tup (da_cons (dv 18) da_nil)) da_nil)) (da_cons (de_new (dn_callTy cS_list m_list boot_list (da_cons (dv 6) da_nil))) da_nil))) da_nil)) (de_callB (cS_repr hgd (room200 hr)) m_repr boot_repr (da_cons (de_callTy cS_tuple m_tuple boot_tuple (da_cons (de_call c_l_short (hr.mono (by decide)) hgd tk (da_cons (de_new (dn_comp (own := [("one", 19)]) rfl sc_law.nd (di_seq (dv 6)) (blkOk_by (own := [("one", 19)]) (N := ["script", "shape", "stairs", "bound", "row", "k", "free", "made", "change", "changed", "held", "due", "asked", "stair", "line", "told", "fixed", "left", "number", "one", "both"]) (sc := defScope s_law) (by decide +kernel)) (fun _ _ _ _ _ => (dg_name 19 sc_law.nd)) (fun _ _ _ _ _ => dts_nil) (fun _ _ _ _ _ => (de_bin opS_mod (de_callTy cS_int m_int boot_int (da_cons (dv 19) da_nil)) (dv 18))))) da_nil)) da_nil)) da_nil))) (dss_last (ds_ret dc_bl)) dss_nil)
  (dss_cons (ds_set 20 sc_law.nd (de_call c_l_sum (hr.mono (by decide)) hgd tk (da_cons (dv 6) (da_cons (dv 7) (da_cons (de_bin opS_sub dc_int (de_bin opS_mul dc_int (de_ix (dv 1) dc_int))) (da_cons dc_int da_nil))))))
  (dss_cons (ds_if (O' := []) (PW.pt (dw_and (dt_val (de_call c_l_within (hr.mono (by decide)) hgd tk (da_cons (dv 20) da_nil))) (dw_and1 (dt_cmp (opS_ne hr.units) (de_callB (cS_repr hgd (room200 hr)) m_repr boot_repr (da_cons (de_call c_stair_rest (hr.mono (by decide)) hgd tk (da_cons (dv 16) (da_cons (dv 20) da_nil))) da_nil)) (de_callB (cS_repr hgd (room200 hr)) m_repr boot_repr (da_cons (dv 11) da_nil)))))) (dss_last (ds_ret dc_bl)) dss_nil)
  (dss_last (ds_ret (de_cmp (opS_eq hr.units) (de_callB (cS_repr hgd (room200 hr)) m_repr boot_repr (da_cons (de_call c_stair_rest (hr.mono (by decide)) hgd tk (da_cons (dv 16) (da_cons (de_new (dn_callTy cS_list m_list boot_list (da_cons (dv 6) da_nil))) da_nil))) da_nil)) (de_callB (cS_repr hgd (room200 hr)) m_repr boot_repr (da_cons (dv 11) da_nil))))))))))))))))))))))))))))))))
end
theorem all_mk (ek : EK) {l : PySem.W.OpenLaw} {w : World} {K : PySem.W.Frag} {h : Heap} {mg : Str → Option Value} {fa : Addr} (X : K.In h) (G : h.Ns mainGlobals mg) (hfa : mg "law" = some (.ref fa))
    {a0 : Addr} {od0 an0 : Option Addr} {sl0 : Array (Option Value)} {oc0 kV0 dc0 pm0 cd0 ct0 : Value}
    (n0 : PySem.W.nsIn K mainGlobals "cut" = some (some (.ref a0))) (l0 : K.lookup a0 = some ⟨oc0, od0, .func (PySem.W.fnOf "cut" "cut" (defArgs s_cut) (defBody s_cut) (defScope s_cut) .none kV0 dc0 pm0 an0 cd0 ct0), sl0⟩)
    (c0 : PySem.W.codeIn K cd0 "cut" = true) (k0 : PySem.W.keepIn K (.ref a0) = true)
    {a1 : Addr} {od1 an1 : Option Addr} {sl1 : Array (Option Value)} {oc1 kV1 dc1 pm1 cd1 ct1 : Value}
    (n1 : PySem.W.nsIn K mainGlobals "stair_below" = some (some (.ref a1))) (l1 : K.lookup a1 = some ⟨oc1, od1, .func (PySem.W.fnOf "stair_below" "stair_below" (defArgs s_stair_below) (defBody s_stair_below) (defScope s_stair_below) .none kV1 dc1 pm1 an1 cd1 ct1), sl1⟩)
    (c1 : PySem.W.codeIn K cd1 "stair_below" = true) (k1 : PySem.W.keepIn K (.ref a1) = true)
    {a2 : Addr} {od2 an2 : Option Addr} {sl2 : Array (Option Value)} {oc2 kV2 dc2 pm2 cd2 ct2 : Value}
    (n2 : PySem.W.nsIn K mainGlobals "stair_rest" = some (some (.ref a2))) (l2 : K.lookup a2 = some ⟨oc2, od2, .func (PySem.W.fnOf "stair_rest" "stair_rest" (defArgs s_stair_rest) (defBody s_stair_rest) (defScope s_stair_rest) .none kV2 dc2 pm2 an2 cd2 ct2), sl2⟩)
    (c2 : PySem.W.codeIn K cd2 "stair_rest" = true) (k2 : PySem.W.keepIn K (.ref a2) = true)
    {a3 : Addr} {od3 an3 : Option Addr} {sl3 : Array (Option Value)} {oc3 kV3 dc3 pm3 cd3 ct3 : Value}
    (n3 : PySem.W.nsIn K mainGlobals "stair_holds" = some (some (.ref a3))) (l3 : K.lookup a3 = some ⟨oc3, od3, .func (PySem.W.fnOf "stair_holds" "stair_holds" (defArgs s_stair_holds) (defBody s_stair_holds) (defScope s_stair_holds) .none kV3 dc3 pm3 an3 cd3 ct3), sl3⟩)
    (c3 : PySem.W.codeIn K cd3 "stair_holds" = true) (k3 : PySem.W.keepIn K (.ref a3) = true)
    {a4 : Addr} {od4 an4 : Option Addr} {sl4 : Array (Option Value)} {oc4 kV4 dc4 pm4 cd4 ct4 : Value}
    (n4 : PySem.W.nsIn K mainGlobals "_law_cell" = some (some (.ref a4))) (l4 : K.lookup a4 = some ⟨oc4, od4, .func (PySem.W.fnOf "_law_cell" "_law_cell" (defArgs s_l_cell) (defBody s_l_cell) (defScope s_l_cell) .none kV4 dc4 pm4 an4 cd4 ct4), sl4⟩)
    (c4 : PySem.W.codeIn K cd4 "_law_cell" = true) (k4 : PySem.W.keepIn K (.ref a4) = true)
    {a5 : Addr} {od5 an5 : Option Addr} {sl5 : Array (Option Value)} {oc5 kV5 dc5 pm5 cd5 ct5 : Value}
    (n5 : PySem.W.nsIn K mainGlobals "_law_digits" = some (some (.ref a5))) (l5 : K.lookup a5 = some ⟨oc5, od5, .func (PySem.W.fnOf "_law_digits" "_law_digits" (defArgs s_l_digits) (defBody s_l_digits) (defScope s_l_digits) .none kV5 dc5 pm5 an5 cd5 ct5), sl5⟩)
    (c5 : PySem.W.codeIn K cd5 "_law_digits" = true) (k5 : PySem.W.keepIn K (.ref a5) = true)
    {a6 : Addr} {od6 an6 : Option Addr} {sl6 : Array (Option Value)} {oc6 kV6 dc6 pm6 cd6 ct6 : Value}
    (n6 : PySem.W.nsIn K mainGlobals "_law_sum" = some (some (.ref a6))) (l6 : K.lookup a6 = some ⟨oc6, od6, .func (PySem.W.fnOf "_law_sum" "_law_sum" (defArgs s_l_sum) (defBody s_l_sum) (defScope s_l_sum) .none kV6 dc6 pm6 an6 cd6 ct6), sl6⟩)
    (c6 : PySem.W.codeIn K cd6 "_law_sum" = true) (k6 : PySem.W.keepIn K (.ref a6) = true)
    {a7 : Addr} {od7 an7 : Option Addr} {sl7 : Array (Option Value)} {oc7 kV7 dc7 pm7 cd7 ct7 : Value}
    (n7 : PySem.W.nsIn K mainGlobals "_law_product" = some (some (.ref a7))) (l7 : K.lookup a7 = some ⟨oc7, od7, .func (PySem.W.fnOf "_law_product" "_law_product" (defArgs s_l_product) (defBody s_l_product) (defScope s_l_product) .none kV7 dc7 pm7 an7 cd7 ct7), sl7⟩)
    (c7 : PySem.W.codeIn K cd7 "_law_product" = true) (k7 : PySem.W.keepIn K (.ref a7) = true)
    {a8 : Addr} {od8 an8 : Option Addr} {sl8 : Array (Option Value)} {oc8 kV8 dc8 pm8 cd8 ct8 : Value}
    (n8 : PySem.W.nsIn K mainGlobals "_law_gcd" = some (some (.ref a8))) (l8 : K.lookup a8 = some ⟨oc8, od8, .func (PySem.W.fnOf "_law_gcd" "_law_gcd" (defArgs s_l_gcd) (defBody s_l_gcd) (defScope s_l_gcd) .none kV8 dc8 pm8 an8 cd8 ct8), sl8⟩)
    (c8 : PySem.W.codeIn K cd8 "_law_gcd" = true) (k8 : PySem.W.keepIn K (.ref a8) = true)
    {a9 : Addr} {od9 an9 : Option Addr} {sl9 : Array (Option Value)} {oc9 kV9 dc9 pm9 cd9 ct9 : Value}
    (n9 : PySem.W.nsIn K mainGlobals "_law_within" = some (some (.ref a9))) (l9 : K.lookup a9 = some ⟨oc9, od9, .func (PySem.W.fnOf "_law_within" "_law_within" (defArgs s_l_within) (defBody s_l_within) (defScope s_l_within) .none kV9 dc9 pm9 an9 cd9 ct9), sl9⟩)
    (c9 : PySem.W.codeIn K cd9 "_law_within" = true) (k9 : PySem.W.keepIn K (.ref a9) = true)
    {a10 : Addr} {od10 an10 : Option Addr} {sl10 : Array (Option Value)} {oc10 kV10 dc10 pm10 cd10 ct10 : Value}
    (n10 : PySem.W.nsIn K mainGlobals "_law_head" = some (some (.ref a10))) (l10 : K.lookup a10 = some ⟨oc10, od10, .func (PySem.W.fnOf "_law_head" "_law_head" (defArgs s_l_head) (defBody s_l_head) (defScope s_l_head) .none kV10 dc10 pm10 an10 cd10 ct10), sl10⟩)
    (c10 : PySem.W.codeIn K cd10 "_law_head" = true) (k10 : PySem.W.keepIn K (.ref a10) = true)
    {a11 : Addr} {od11 an11 : Option Addr} {sl11 : Array (Option Value)} {oc11 kV11 dc11 pm11 cd11 ct11 : Value}
    (n11 : PySem.W.nsIn K mainGlobals "_law_factor" = some (some (.ref a11))) (l11 : K.lookup a11 = some ⟨oc11, od11, .func (PySem.W.fnOf "_law_factor" "_law_factor" (defArgs s_l_factor) (defBody s_l_factor) (defScope s_l_factor) .none kV11 dc11 pm11 an11 cd11 ct11), sl11⟩)
    (c11 : PySem.W.codeIn K cd11 "_law_factor" = true) (k11 : PySem.W.keepIn K (.ref a11) = true)
    {a12 : Addr} {od12 an12 : Option Addr} {sl12 : Array (Option Value)} {oc12 kV12 dc12 pm12 cd12 ct12 : Value}
    (n12 : PySem.W.nsIn K mainGlobals "_law_tidy" = some (some (.ref a12))) (l12 : K.lookup a12 = some ⟨oc12, od12, .func (PySem.W.fnOf "_law_tidy" "_law_tidy" (defArgs s_l_tidy) (defBody s_l_tidy) (defScope s_l_tidy) .none kV12 dc12 pm12 an12 cd12 ct12), sl12⟩)
    (c12 : PySem.W.codeIn K cd12 "_law_tidy" = true) (k12 : PySem.W.keepIn K (.ref a12) = true)
    {a13 : Addr} {od13 an13 : Option Addr} {sl13 : Array (Option Value)} {oc13 kV13 dc13 pm13 cd13 ct13 : Value}
    (n13 : PySem.W.nsIn K mainGlobals "_law_stairs" = some (some (.ref a13))) (l13 : K.lookup a13 = some ⟨oc13, od13, .func (PySem.W.fnOf "_law_stairs" "_law_stairs" (defArgs s_l_stairs) (defBody s_l_stairs) (defScope s_l_stairs) .none kV13 dc13 pm13 an13 cd13 ct13), sl13⟩)
    (c13 : PySem.W.codeIn K cd13 "_law_stairs" = true) (k13 : PySem.W.keepIn K (.ref a13) = true)
    {a14 : Addr} {od14 an14 : Option Addr} {sl14 : Array (Option Value)} {oc14 kV14 dc14 pm14 cd14 ct14 : Value}
    (n14 : PySem.W.nsIn K mainGlobals "_law_short" = some (some (.ref a14))) (l14 : K.lookup a14 = some ⟨oc14, od14, .func (PySem.W.fnOf "_law_short" "_law_short" (defArgs s_l_short) (defBody s_l_short) (defScope s_l_short) .none kV14 dc14 pm14 an14 cd14 ct14), sl14⟩)
    (c14 : PySem.W.codeIn K cd14 "_law_short" = true) (k14 : PySem.W.keepIn K (.ref a14) = true)
    {a15 : Addr} {od15 an15 : Option Addr} {sl15 : Array (Option Value)} {oc15 kV15 dc15 pm15 cd15 ct15 : Value}
    (n15 : PySem.W.nsIn K mainGlobals "_law_left" = some (some (.ref a15))) (l15 : K.lookup a15 = some ⟨oc15, od15, .func (PySem.W.fnOf "_law_left" "_law_left" (defArgs s_l_left) (defBody s_l_left) (defScope s_l_left) .none kV15 dc15 pm15 an15 cd15 ct15), sl15⟩)
    (c15 : PySem.W.codeIn K cd15 "_law_left" = true) (k15 : PySem.W.keepIn K (.ref a15) = true)
    {a16 : Addr} {od16 an16 : Option Addr} {sl16 : Array (Option Value)} {oc16 kV16 dc16 pm16 cd16 ct16 : Value}
    (n16 : PySem.W.nsIn K mainGlobals "_law_made" = some (some (.ref a16))) (l16 : K.lookup a16 = some ⟨oc16, od16, .func (PySem.W.fnOf "_law_made" "_law_made" (defArgs s_l_made) (defBody s_l_made) (defScope s_l_made) .none kV16 dc16 pm16 an16 cd16 ct16), sl16⟩)
    (c16 : PySem.W.codeIn K cd16 "_law_made" = true) (k16 : PySem.W.keepIn K (.ref a16) = true)
    {a17 : Addr} {od17 an17 : Option Addr} {sl17 : Array (Option Value)} {oc17 kV17 dc17 pm17 cd17 ct17 : Value}
    (n17 : PySem.W.nsIn K mainGlobals "_law_change" = some (some (.ref a17))) (l17 : K.lookup a17 = some ⟨oc17, od17, .func (PySem.W.fnOf "_law_change" "_law_change" (defArgs s_l_change) (defBody s_l_change) (defScope s_l_change) .none kV17 dc17 pm17 an17 cd17 ct17), sl17⟩)
    (c17 : PySem.W.codeIn K cd17 "_law_change" = true) (k17 : PySem.W.keepIn K (.ref a17) = true)
    {a18 : Addr} {od18 an18 : Option Addr} {sl18 : Array (Option Value)} {oc18 kV18 dc18 pm18 cd18 ct18 : Value}
    (n18 : PySem.W.nsIn K mainGlobals "law" = some (some (.ref a18))) (l18 : K.lookup a18 = some ⟨oc18, od18, .func (PySem.W.fnOf "law" "law" (defArgs s_law) (defBody s_law) (defScope s_law) .none kV18 dc18 pm18 an18 cd18 ct18), sl18⟩)
    (c18 : PySem.W.codeIn K cd18 "law" = true) (k18 : PySem.W.keepIn K (.ref a18) = true)
    (z_len : PySem.W.nsIn K mainGlobals "len" = some none) (z_list : PySem.W.nsIn K mainGlobals "list" = some none) (z_enumerate : PySem.W.nsIn K mainGlobals "enumerate" = some none) (z_range : PySem.W.nsIn K mainGlobals "range" = some none) (z_tuple : PySem.W.nsIn K mainGlobals "tuple" = some none) (z_int : PySem.W.nsIn K mainGlobals "int" = some none) (z_max : PySem.W.nsIn K mainGlobals "max" = some none) (z_abs : PySem.W.nsIn K mainGlobals "abs" = some none) (z_repr : PySem.W.nsIn K mainGlobals "repr" = some none) :
    ∃ fd : FuncData, (∀ (s : Shared) (v : Value), BindsTo s fd ⟨[v], []⟩ [("script", v)]) ∧ ∀ base : Heap, K.In base → base.Ns mainGlobals mg → FnG l.prog w K mg base 5 fa fd ["script"] (spD ek K 1 false f_law) := by
  have e := hfa.symm.trans (PySem.W.mg_of X G n18)
  cases e
  have m_len := PySem.W.mg_none_of X G z_len
  have m_list := PySem.W.mg_none_of X G z_list
  have m_enumerate := PySem.W.mg_none_of X G z_enumerate
  have m_range := PySem.W.mg_none_of X G z_range
  have m_tuple := PySem.W.mg_none_of X G z_tuple
  have m_int := PySem.W.mg_none_of X G z_int
  have m_max := PySem.W.mg_none_of X G z_max
  have m_abs := PySem.W.mg_none_of X G z_abs
  have m_repr := PySem.W.mg_none_of X G z_repr
  refine ⟨PySem.W.fnOf "law" "law" (defArgs s_law) (defBody s_law) (defScope s_law) .none kV18 dc18 pm18 an18 cd18 ct18, fun s v => .of_eq rfl, fun base _ _ => ?_⟩
  have F0 := fun_mk (st := s_cut) l0 c0 k0
  have c_cut : Cal ek l.prog w K mg base "cut" 1 1 false f_cut :=
    ⟨_, _, ["line"], PySem.W.mg_of X G n0, k0, F0.binds (ps := ["line"]) (fun _ _ _ _ _ _ us hl => match us, hl with | [_], _ => rfl), w_cut F0 m_len m_list⟩
  have F1 := fun_mk (st := s_stair_below) l1 c1 k1
  have c_stair_below : Cal ek l.prog w K mg base "stair_below" 1 2 false f_stair_below :=
    ⟨_, _, ["stairs", "length"], PySem.W.mg_of X G n1, k1, F1.binds (ps := ["stairs", "length"]) (fun _ _ _ _ _ _ us hl => match us, hl with | [_, _], _ => rfl), w_stair_below F1 m_len⟩
  have F2 := fun_mk (st := s_stair_rest) l2 c2 k2
  have c_stair_rest : Cal ek l.prog w K mg base "stair_rest" 2 2 false f_stair_rest :=
    ⟨_, _, ["stairs", "line"], PySem.W.mg_of X G n2, k2, F2.binds (ps := ["stairs", "line"]) (fun _ _ _ _ _ _ us hl => match us, hl with | [_, _], _ => rfl), w_stair_rest F2 m_list m_len m_enumerate m_range m_tuple c_stair_below c_cut⟩
  have F3 := fun_mk (st := s_stair_holds) l3 c3 k3
  have c_stair_holds : Cal ek l.prog w K mg base "stair_holds" 3 2 false f_stair_holds :=
    ⟨_, _, ["stairs", "line"], PySem.W.mg_of X G n3, k3, F3.binds (ps := ["stairs", "line"]) (fun _ _ _ _ _ _ us hl => match us, hl with | [_, _], _ => rfl), w_stair_holds F3 c_stair_rest⟩
  have F4 := fun_mk (st := s_l_cell) l4 c4 k4
  have c_l_cell : Cal ek l.prog w K mg base "_law_cell" 1 2 false f_l_cell :=
    ⟨_, _, ["script", "k"], PySem.W.mg_of X G n4, k4, F4.binds (ps := ["script", "k"]) (fun _ _ _ _ _ _ us hl => match us, hl with | [_, _], _ => rfl), w_l_cell F4 m_len m_int⟩
  have F5 := fun_mk (st := s_l_digits) l5 c5 k5
  have c_l_digits : Cal ek l.prog w K mg base "_law_digits" 1 2 false f_l_digits :=
    ⟨_, _, ["cell", "bases"], PySem.W.mg_of X G n5, k5, F5.binds (ps := ["cell", "bases"]) (fun _ _ _ _ _ _ us hl => match us, hl with | [_, _], _ => rfl), w_l_digits F5 m_int m_len m_range⟩
  have F6 := fun_mk (st := s_l_sum) l6 c6 k6
  have c_l_sum : Cal ek l.prog w K mg base "_law_sum" 1 4 true f_l_sum :=
    ⟨_, _, ["one", "two", "number", "shift"], PySem.W.mg_of X G n6, k6, F6.binds (ps := ["one", "two", "number", "shift"]) (fun _ _ _ _ _ _ us hl => match us, hl with | [_, _, _, _], _ => rfl), w_l_sum F6 m_len m_max m_range⟩
  have F7 := fun_mk (st := s_l_product) l7 c7 k7
  have c_l_product : Cal ek l.prog w K mg base "_law_product" 2 2 true f_l_product :=
    ⟨_, _, ["one", "two"], PySem.W.mg_of X G n7, k7, F7.binds (ps := ["one", "two"]) (fun _ _ _ _ _ _ us hl => match us, hl with | [_, _], _ => rfl), w_l_product F7 m_len m_range c_l_sum⟩
  have F8 := fun_mk (st := s_l_gcd) l8 c8 k8
  have c_l_gcd : Cal ek l.prog w K mg base "_law_gcd" 1 2 false f_l_gcd :=
    ⟨_, _, ["one", "two"], PySem.W.mg_of X G n8, k8, F8.binds (ps := ["one", "two"]) (fun _ _ _ _ _ _ us hl => match us, hl with | [_, _], _ => rfl), w_l_gcd F8 m_abs m_int⟩
  have F9 := fun_mk (st := s_l_within) l9 c9 k9
  have c_l_within : Cal ek l.prog w K mg base "_law_within" 1 1 false f_l_within :=
    ⟨_, _, ["line"], PySem.W.mg_of X G n9, k9, F9.binds (ps := ["line"]) (fun _ _ _ _ _ _ us hl => match us, hl with | [_], _ => rfl), w_l_within F9 m_len m_abs⟩
  have F10 := fun_mk (st := s_l_head) l10 c10 k10
  have c_l_head : Cal ek l.prog w K mg base "_law_head" 3 4 true f_l_head :=
    ⟨_, _, ["heads", "factors", "row", "tall"], PySem.W.mg_of X G n10, k10, F10.binds (ps := ["heads", "factors", "row", "tall"]) (fun _ _ _ _ _ _ us hl => match us, hl with | [_, _, _, _], _ => rfl), w_l_head F10 m_int m_range m_len c_l_product c_l_sum⟩
  have F11 := fun_mk (st := s_l_factor) l11 c11 k11
  have c_l_factor : Cal ek l.prog w K mg base "_law_factor" 2 2 false f_l_factor :=
    ⟨_, _, ["first", "wished"], PySem.W.mg_of X G n11, k11, F11.binds (ps := ["first", "wished"]) (fun _ _ _ _ _ _ us hl => match us, hl with | [_, _], _ => rfl), w_l_factor F11 c_l_gcd⟩
  have F12 := fun_mk (st := s_l_tidy) l12 c12 k12
  have c_l_tidy : Cal ek l.prog w K mg base "_law_tidy" 2 1 false f_l_tidy :=
    ⟨_, _, ["stairs"], PySem.W.mg_of X G n12, k12, F12.binds (ps := ["stairs"]) (fun _ _ _ _ _ _ us hl => match us, hl with | [_], _ => rfl), w_l_tidy F12 m_list m_len m_range c_l_sum⟩
  have F13 := fun_mk (st := s_l_stairs) l13 c13 k13
  have c_l_stairs : Cal ek l.prog w K mg base "_law_stairs" 4 1 false f_l_stairs :=
    ⟨_, _, ["script"], PySem.W.mg_of X G n13, k13, F13.binds (ps := ["script"]) (fun _ _ _ _ _ _ us hl => match us, hl with | [_], _ => rfl), w_l_stairs F13 m_int m_range m_len c_l_digits c_l_cell c_l_head c_l_factor c_l_product c_l_tidy c_l_within⟩
  have F14 := fun_mk (st := s_l_short) l14 c14 k14
  have c_l_short : Cal ek l.prog w K mg base "_law_short" 1 1 false f_l_short :=
    ⟨_, _, ["line"], PySem.W.mg_of X G n14, k14, F14.binds (ps := ["line"]) (fun _ _ _ _ _ _ us hl => match us, hl with | [_], _ => rfl), w_l_short F14 m_len m_range m_list⟩
  have F15 := fun_mk (st := s_l_left) l15 c15 k15
  have c_l_left : Cal ek l.prog w K mg base "_law_left" 2 2 false f_l_left :=
    ⟨_, _, ["stairs", "line"], PySem.W.mg_of X G n15, k15, F15.binds (ps := ["stairs", "line"]) (fun _ _ _ _ _ _ us hl => match us, hl with | [_, _], _ => rfl), w_l_left F15 m_len m_range m_tuple c_l_short c_l_sum⟩
  have F16 := fun_mk (st := s_l_made) l16 c16 k16
  have c_l_made : Cal ek l.prog w K mg base "_law_made" 2 2 false f_l_made :=
    ⟨_, _, ["stairs", "row"], PySem.W.mg_of X G n16, k16, F16.binds (ps := ["stairs", "row"]) (fun _ _ _ _ _ _ us hl => match us, hl with | [_, _], _ => rfl), w_l_made F16 m_int m_len m_max m_range c_l_sum c_l_within⟩
  have F17 := fun_mk (st := s_l_change) l17 c17 k17
  have c_l_change : Cal ek l.prog w K mg base "_law_change" 1 2 false f_l_change :=
    ⟨_, _, ["stairs", "row"], PySem.W.mg_of X G n17, k17, F17.binds (ps := ["stairs", "row"]) (fun _ _ _ _ _ _ us hl => match us, hl with | [_, _], _ => rfl), w_l_change F17 m_len m_int⟩
  exact w_law (fun_mk (st := s_law) l18 c18 k18) m_range m_int m_len m_list m_repr m_tuple c_l_digits c_l_cell c_l_stairs c_l_made c_l_change c_l_left c_stair_rest c_stair_holds c_l_within c_l_short c_l_sum
end K83
end

section
set_option Elab.async false
set_option linter.all false
set_option autoImplicit false
/-! DatL: lemmas over the data semantics. -/
namespace Dt
open PySem

abbrev L (xs : List Int) : D := .list (xs.map PyData.int)
abbrev T (xs : List Int) : D := .tuple (xs.map PyData.int)

/-! ### loops -/
theorem forGo_inv (Inv : Nat → Ev → Prop) (g : Gx) (b : Sx) : ∀ (xs : List D) (k : Nat) (δ : Ev), Inv k δ →
    (∀ i d δ, xs[i]? = some d → Inv (k + i) δ → ∃ δ1 δ2, g d δ = some δ1 ∧ (b δ1 = .nx δ2 ∨ b δ1 = .ct δ2) ∧ Inv (k + i + 1) δ2) →
    ∃ δ', forGo g b xs δ = .nx δ' ∧ Inv (k + xs.length) δ'
  | [], k, δ, h0, _ => ⟨δ, rfl, by simpa using h0⟩
  | x :: xs, k, δ, h0, hs => by
    obtain ⟨δ1, δ2, e1, e2, h2⟩ := hs 0 x δ rfl (by simpa using h0)
    obtain ⟨δ', e3, h3⟩ := forGo_inv Inv g b xs (k + 1) δ2 (by simpa using h2) fun i d δ hi hI => by
      have z := hs (i + 1) d δ (by simpa using hi) (by rw [show k + (i + 1) = k + 1 + i by omega]; exact hI)
      rw [show k + (i + 1) + 1 = k + 1 + i + 1 by omega] at z
      exact z
    refine ⟨δ', ?_, by rw [show k + (x :: xs).length = k + 1 + xs.length by simp; omega]; exact h3⟩
    unfold forGo
    rw [e1]
    rcases e2 with e2 | e2
    · simp only [e2]
      exact e3
    · simp only [e2]
      exact e3
theorem for_inv {g : Gx} {b : Sx} {xs : List D} {δ : Ev} (Inv : Nat → Ev → Prop) (h0 : Inv 0 δ)
    (hs : ∀ i d δ, xs[i]? = some d → Inv i δ → ∃ δ1 δ2, g d δ = some δ1 ∧ (b δ1 = .nx δ2 ∨ b δ1 = .ct δ2) ∧ Inv (i + 1) δ2) : ∃ δ', forGo g b xs δ = .nx δ' ∧ Inv xs.length δ' := by
  have z := forGo_inv Inv g b xs 0 δ h0 (by simpa using hs)
  simpa using z
/-- over a range from 0 by ones -/
theorem for_range0 {g : Gx} {b : Sx} {n : Nat} {δ : Ev} (Inv : Nat → Ev → Prop) (h0 : Inv 0 δ)
    (hs : ∀ i δ, i < n → Inv i δ → ∃ δ1 δ2, g (.int (i : Nat)) δ = some δ1 ∧ (b δ1 = .nx δ2 ∨ b δ1 = .ct δ2) ∧ Inv (i + 1) δ2) : ∃ δ', forGo g b (rangeL 0 n 1) δ = .nx δ' ∧ Inv n δ' := by
  have z := for_inv (g := g) (b := b) (xs := rangeL 0 n 1) (δ := δ) Inv h0 fun i d δ hi hI => by
    unfold rangeL at hi
    rw [List.getElem?_map] at hi
    cases e : (List.range n)[i]? with
    | none => rw [e] at hi; cases hi
    | some j =>
      obtain ⟨h1, h2⟩ := List.getElem?_eq_some_iff.mp e
      rw [List.getElem_range] at h2
      subst h2
      rw [e] at hi
      have hd : d = .int (i : Nat) := by
        have := (Option.some.inj hi).symm
        simpa using this
      subst hd
      exact hs i δ (by simpa using h1) hI
  simpa [rangeL] using z
/-! ### comprehensions -/
theorem compGo_map {g : Gx} {c : Tx} {e : Fx} {δ : Ev} (F : D → D) : ∀ (xs : List D), (∀ d ∈ xs, ∃ δ1, g d δ = some δ1 ∧ c δ1 = .ok true ∧ e δ1 = .ok (F d)) → compGo g c e δ xs = .ok (xs.map F)
  | [], _ => rfl
  | x :: xs, h => by
    obtain ⟨δ1, h1, h2, h3⟩ := h x (by simp)
    unfold compGo
    simp only [h1, h2, h3]
    rw [compGo_map F xs fun d hd => h d (by simp [hd])]
    rfl
theorem compGo_filter {g : Gx} {c : Tx} {e : Fx} {δ : Ev} (p : D → Bool) (F : D → D) : ∀ (xs : List D), (∀ d ∈ xs, ∃ δ1, g d δ = some δ1 ∧ c δ1 = .ok (p d) ∧ (p d = true → e δ1 = .ok (F d))) → compGo g c e δ xs = .ok ((xs.filter p).map F)
  | [], _ => rfl
  | x :: xs, h => by
    obtain ⟨δ1, h1, h2, h3⟩ := h x (by simp)
    have ih := compGo_filter p F xs fun d hd => h d (by simp [hd])
    unfold compGo
    simp only [h1, h2]
    cases hp : p x with
    | true =>
      simp only [h3 hp, ih, Res.bind_ok, List.filter_cons, hp]
      rfl
    | false =>
      simp only [ih, List.filter_cons, hp]
      rfl
/-- over a range: the elements by the turn -/
theorem compGo_range {g : Gx} {c : Tx} {e : Fx} {δ : Ev} (n : Nat) (F : Nat → D) (h : ∀ i : Nat, i < n → ∃ δ1, g (.int (i : Nat)) δ = some δ1 ∧ c δ1 = .ok true ∧ e δ1 = .ok (F i)) :
    compGo g c e δ (rangeL 0 n 1) = .ok ((List.range n).map F) := by
  have z := compGo_map (g := g) (c := c) (e := e) (δ := δ) (fun d => match d with | .int i => F i.toNat | _ => .none) (rangeL 0 n 1) fun d hd => by
    unfold rangeL at hd
    obtain ⟨i, hi, rfl⟩ := List.mem_map.mp hd
    obtain ⟨δ1, h1, h2, h3⟩ := h i (by simpa using hi)
    refine ⟨δ1, by simpa using h1, h2, ?_⟩
    rw [h3]
    simp
  rw [z]
  unfold rangeL
  rw [List.map_map]
  congr 1
  refine List.map_congr_left fun i _ => ?_
  simp

/-! ### items -/
theorem getI_nat {α : Type} {xs : List α} {k : Nat} (h : k < xs.length) : getI xs (k : Int) = some xs[k] := by
  unfold getI
  rw [if_pos (by omega), if_pos (by omega)]
  simp [h]
theorem getI_of {α : Type} {xs : List α} {i : Int} {k : Nat} {v : α} (e : i = k) (h : xs[k]? = some v) : getI xs i = some v := by
  subst e
  obtain ⟨h1, h2⟩ := List.getElem?_eq_some_iff.mp h
  rw [getI_nat h1, h2]
theorem getI_m1 {α : Type} {xs : List α} {v : α} (h : xs.getLast? = some v) : getI xs (-1) = some v := by
  unfold getI
  have hl : 0 < xs.length := by
    cases xs with
    | nil => cases h
    | cons x r => simp
  rw [if_neg (by decide), if_pos (by omega)]
  rw [List.getLast?_eq_getElem?] at h
  have e : (-1 + (xs.length : Int)).toNat = xs.length - 1 := by omega
  rw [e]
  exact h
/-- the k-th number, 0 beyond -/
def cf (xs : List Int) (k : Nat) : Int := xs.getD k 0
theorem cf_of {xs : List Int} {k : Nat} (h : xs.length ≤ k) : cf xs k = 0 := by
  unfold cf
  simp [List.getD, List.getElem?_eq_none h]
theorem cf_lt {xs : List Int} {k : Nat} (h : k < xs.length) : cf xs k = xs[k] := by
  unfold cf
  simp [List.getD, h]
theorem get_cf {xs : List Int} {k : Nat} (h : k < xs.length) : xs[k]? = some (cf xs k) := by
  rw [cf_lt h]
  exact List.getElem?_eq_getElem h
theorem oIx_L {xs : List Int} {i : Int} {k : Nat} (e : i = k) (h : k < xs.length) : oIx (L xs) (.int i) = .ok (.int (cf xs k)) := by
  have z : getI (xs.map PyData.int) i = some (.int (cf xs k)) := getI_of e (by rw [List.getElem?_map, get_cf h]; rfl)
  simp only [oIx, z]
theorem oIx_T {xs : List Int} {i : Int} {k : Nat} (e : i = k) (h : k < xs.length) : oIx (T xs) (.int i) = .ok (.int (cf xs k)) := by
  have z : getI (xs.map PyData.int) i = some (.int (cf xs k)) := getI_of e (by rw [List.getElem?_map, get_cf h]; rfl)
  simp only [oIx, z]
theorem oIx_list {xs : List D} {i : Int} {k : Nat} {v : D} (e : i = k) (h : xs[k]? = some v) : oIx (.list xs) (.int i) = .ok v := by
  have z : getI xs i = some v := getI_of e h
  simp only [oIx, z]
theorem oIx_tuple {xs : List D} {i : Int} {k : Nat} {v : D} (e : i = k) (h : xs[k]? = some v) : oIx (.tuple xs) (.int i) = .ok v := by
  have z : getI xs i = some v := getI_of e h
  simp only [oIx, z]
theorem oMul_r {a b : Int} (h : b.natAbs < 18446744073709551616) : oMul (.int a) (.int b) = .ok (.int (a * b)) := by
  simp [oMul, small64, h]
theorem oMul_l {a b : Int} (h : a.natAbs < 18446744073709551616) : oMul (.int a) (.int b) = .ok (.int (a * b)) := by
  simp [oMul, small64, h]
theorem oMul_w {a b : Int} {m n : Nat} (ha : a.natAbs < 2 ^ m) (hb : b.natAbs < 2 ^ n) (h : m + n ≤ 1000000) : oMul (.int a) (.int b) = .ok (.int (a * b)) := by
  by_cases h0 : a = 0
  · subst h0; exact oMul_l (by decide)
  by_cases h1 : b = 0
  · subst h1; exact oMul_r (by decide)
  have x := (Nat.log2_lt (by omega : a.natAbs ≠ 0)).mpr ha
  have y := (Nat.log2_lt (by omega : b.natAbs ≠ 0)).mpr hb
  have z : a.natAbs.log2 + b.natAbs.log2 < 1000000 := by omega
  simp [oMul, z]
theorem oMod_ {a b : Int} (h : b ≠ 0) : oMod (.int a) (.int b) = .ok (.int (a.fmod b)) := by simp [oMod, h]
theorem oDiv_ {a b : Int} (h : b ≠ 0) (h2 : b.natAbs < 1073741824) : oDiv (.int a) (.int b) = .ok (.int (a.fdiv b)) := by simp [oDiv, h, h2]
theorem fmod_pos {a b : Int} (h : 0 < b) : 0 ≤ a.fmod b ∧ a.fmod b < b := by
  rw [Int.fmod_eq_emod_of_nonneg a (by omega)]
  exact ⟨Int.emod_nonneg a (by omega), Int.emod_lt_of_pos a h⟩

/-! ### evaluation, for simp -/
@[simp] theorem look_zero (x : Option D) (r : Ev) : look (x :: r) 0 = x := rfl
@[simp] theorem look_succ (x : Option D) (r : Ev) (i : Nat) : look (x :: r) (i + 1) = look r i := rfl
@[simp] theorem put_zero (x : Option D) (r : Ev) (d : D) : put (x :: r) 0 d = some d :: r := rfl
@[simp] theorem put_succ (x : Option D) (r : Ev) (i : Nat) (d : D) : put (x :: r) (i + 1) d = x :: put r i d := rfl
@[simp] theorem clr_zero (x : Option D) (r : Ev) : clr (x :: r) 0 = none :: r := rfl
@[simp] theorem clr_succ (x : Option D) (r : Ev) (i : Nat) : clr (x :: r) (i + 1) = x :: clr r i := rfl
@[simp] theorem clrs_nil (δ : Ev) : clrs δ [] = δ := rfl
@[simp] theorem clrs_cons (δ : Ev) (i : Nat) (r : List Nat) : clrs δ (i :: r) = clr (clrs δ r) i := rfl
@[simp] theorem bind_ok' {α β : Type} (a : α) (f : α → Res β) : (Res.ok a).bind f = f a := rfl
@[simp] theorem out_ok' {α : Type} (a : α) (δ : Ev) (k : α → Out) : (Res.ok a).out δ k = k a := rfl
@[simp] theorem seq_nx (δ : Ev) (k : Sx) : (Out.nx δ).seq k = k δ := rfl
@[simp] theorem seq_rt (d : D) (k : Sx) : (Out.rt d).seq k = .rt d := rfl
@[simp] theorem seq_bk (δ : Ev) (k : Sx) : (Out.bk δ).seq k = .bk δ := rfl
@[simp] theorem seq_ct (δ : Ev) (k : Sx) : (Out.ct δ).seq k = .ct δ := rfl
@[simp] theorem sSeq_eq (s t : Sx) (δ : Ev) : sSeq s t δ = (s δ).seq t := rfl
@[simp] theorem sNx_eq (δ : Ev) : sNx δ = .nx δ := rfl
@[simp] theorem sBk_eq (δ : Ev) : sBk δ = .bk δ := rfl
@[simp] theorem sCt_eq (δ : Ev) : sCt δ = .ct δ := rfl
@[simp] theorem sSet_eq (i : Nat) (f : Fx) (δ : Ev) : sSet i f δ = (f δ).out δ fun d => .nx (put δ i d) := rfl
@[simp] theorem sPar_eq (i j : Nat) (f g : Fx) (δ : Ev) : sPar i j f g δ = (f δ).out δ fun a => (g δ).out δ fun b => .nx (put (put δ i a) j b) := rfl
@[simp] theorem sRet_eq (f : Fx) (δ : Ev) : sRet f δ = (f δ).out δ fun d => .rt d := rfl
@[simp] theorem sRetN_eq (f : Fx) (δ : Ev) : sRetN f δ = (f δ).out δ fun d => match d with
  | .list ds => if ds.all scal = true then .rt d else .er
  | _ => .er := rfl
@[simp] theorem sRetS_eq (f : Fx) (δ : Ev) : sRetS f δ = (f δ).out δ fun d => if scal d = true then .rt d else .er := rfl
@[simp] theorem sIf_eq (t : Tx) (a b : Sx) (δ : Ev) : sIf t a b δ = (t δ).out δ fun c => if c = true then a δ else b δ := rfl
@[simp] theorem sFor_eq (i : Ax) (g : Gx) (b : Sx) (δ : Ev) : sFor i g b δ = (i δ).out δ fun xs => forGo g b xs δ := rfl
@[simp] theorem sWh_eq (n : Ev → Nat) (t : Tx) (b : Sx) (δ : Ev) : sWh n t b δ = whGo t b (n δ) δ := rfl
@[simp] theorem sIx_eq (i : Nat) (fk f : Fx) (δ : Ev) : sIx i fk f δ = match look δ i with
  | some (.list ds) => (f δ).out δ fun d => (fk δ).out δ fun k => match k with
    | .int k => if 0 ≤ k ∧ k < ds.length then .nx (put δ i (.list (ds.set k.toNat d))) else .er
    | _ => .er
  | _ => .er := rfl
@[simp] theorem sApp_eq (i : Nat) (f : Fx) (δ : Ev) : sApp i f δ = match look δ i with
  | some (.list ds) => (f δ).out δ fun d => if ds.length < SL then .nx (put δ i (.list (ds ++ [d]))) else .er
  | _ => .er := rfl
@[simp] theorem xName_eq (i : Nat) (δ : Ev) : xName i δ = match look δ i with
  | some d => .ok d
  | none => .er := rfl
@[simp] theorem xC_eq (d : D) (δ : Ev) : xC d δ = .ok d := rfl
@[simp] theorem x1_eq (op : D → Res D) (f : Fx) (δ : Ev) : x1 op f δ = (f δ).bind op := rfl
@[simp] theorem x2_eq (op : D → D → Res D) (f g : Fx) (δ : Ev) : x2 op f g δ = (f δ).bind fun a => (g δ).bind fun b => op a b := rfl
@[simp] theorem aNil_eq (δ : Ev) : aNil δ = .ok [] := rfl
@[simp] theorem aCons_eq (f : Fx) (r : Ax) (δ : Ev) : aCons f r δ = (f δ).bind fun a => (r δ).bind fun as => .ok (a :: as) := rfl
@[simp] theorem xN_eq (op : List D → Res D) (a : Ax) (δ : Ev) : xN op a δ = (a δ).bind op := rfl
@[simp] theorem tB_eq (f : Fx) (δ : Ev) : tB f δ = (f δ).bind fun
  | .bool b => .ok b
  | _ => .er := rfl
@[simp] theorem tAnd_eq (t u : Tx) (δ : Ev) : tAnd t u δ = (t δ).bind fun b => if b = true then u δ else .ok false := rfl
@[simp] theorem tOr_eq (t u : Tx) (δ : Ev) : tOr t u δ = (t δ).bind fun b => if b = true then .ok true else u δ := rfl
@[simp] theorem tNot_eq (t : Tx) (δ : Ev) : tNot t δ = (t δ).bind fun b => .ok !b := rfl
@[simp] theorem tYes_eq (δ : Ev) : tYes δ = .ok true := rfl
@[simp] theorem xAnd_eq (f g : Fx) (δ : Ev) : xAnd f g δ = (f δ).bind fun
  | .bool b => if b = true then g δ else .ok (.bool false)
  | _ => .er := rfl
@[simp] theorem xOr_eq (f g : Fx) (δ : Ev) : xOr f g δ = (f δ).bind fun
  | .bool b => if b = true then .ok (.bool true) else g δ
  | _ => .er := rfl
@[simp] theorem xIf_eq (t : Tx) (f g : Fx) (δ : Ev) : xIf t f g δ = (t δ).bind fun b => if b = true then f δ else g δ := rfl
@[simp] theorem xChain_eq (op op' : D → D → Res D) (f g h : Fx) (δ : Ev) : xChain op op' f g h δ = (f δ).bind fun a => (g δ).bind fun b => (op a b).bind fun
  | .bool c => if c = true then (h δ).bind fun e => op' b e else .ok (.bool false)
  | _ => .er := rfl
@[simp] theorem xCut_eq (f : Fx) (lo hi : Px) (δ : Ev) : xCut f lo hi δ = (f δ).bind fun a => (lo δ).bind fun l => (hi δ).bind fun h => oCut a l h := rfl
@[simp] theorem pNo_eq (δ : Ev) : pNo δ = .ok none := rfl
@[simp] theorem pAt_eq (f : Fx) (δ : Ev) : pAt f δ = (f δ).bind fun
  | .int i => .ok (some i)
  | _ => .er := rfl
@[simp] theorem oCut_L (xs : List D) (lo hi : Option Int) : oCut (.list xs) lo hi = .ok (.list (cutL xs lo hi)) := rfl
@[simp] theorem gN_eq (i : Nat) (d : D) (δ : Ev) : gN i d δ = some (put δ i d) := rfl
@[simp] theorem iRange_eq (a : Ax) (δ : Ev) : iRange a δ = (a δ).bind wRange := rfl
@[simp] theorem iSeq_eq (f : Fx) (δ : Ev) : iSeq f δ = (f δ).bind wSeq := rfl
@[simp] theorem iEnum_eq (f : Fx) (δ : Ev) : iEnum f δ = (f δ).bind wEnum := rfl
@[simp] theorem wSeq_list (xs : List D) : wSeq (.list xs) = .ok xs := rfl
@[simp] theorem wSeq_tuple (xs : List D) : wSeq (.tuple xs) = .ok xs := rfl
@[simp] theorem oAdd_int (a b : Int) : oAdd (.int a) (.int b) = .ok (.int (a + b)) := rfl
@[simp] theorem oSub_int (a b : Int) : oSub (.int a) (.int b) = .ok (.int (a - b)) := rfl
@[simp] theorem oNeg_int (a : Int) : oNeg (.int a) = .ok (.int (-a)) := rfl
@[simp] theorem oNot_bool (a : Bool) : oNot (.bool a) = .ok (.bool !a) := rfl
@[simp] theorem oLt_int (a b : Int) : oLt (.int a) (.int b) = .ok (.bool (decide (a < b))) := rfl
@[simp] theorem oLe_int (a b : Int) : oLe (.int a) (.int b) = .ok (.bool (decide (a ≤ b))) := rfl
@[simp] theorem oGt_int (a b : Int) : oGt (.int a) (.int b) = .ok (.bool (decide (b < a))) := rfl
@[simp] theorem oGe_int (a b : Int) : oGe (.int a) (.int b) = .ok (.bool (decide (b ≤ a))) := rfl
@[simp] theorem oEq_int (a b : Int) : oEq (.int a) (.int b) = .ok (.bool (a == b)) := rfl
@[simp] theorem oEq_str (a b : Str) : oEq (.str a) (.str b) = .ok (.bool (a == b)) := rfl
@[simp] theorem oEq_bool (a b : Bool) : oEq (.bool a) (.bool b) = .ok (.bool (a == b)) := rfl
@[simp] theorem oNe_int (a b : Int) : oNe (.int a) (.int b) = .ok (.bool !(a == b)) := rfl
@[simp] theorem oNe_str (a b : Str) : oNe (.str a) (.str b) = .ok (.bool !(a == b)) := rfl
@[simp] theorem oNe_bool (a b : Bool) : oNe (.bool a) (.bool b) = .ok (.bool !(a == b)) := rfl
@[simp] theorem oIsN_eq (a : D) : oIsN a = .ok (.bool (isNone a)) := rfl
@[simp] theorem oNotN_eq (a : D) : oNotN a = .ok (.bool !(isNone a)) := rfl
@[simp] theorem isNone_none : isNone .none = true := rfl
@[simp] theorem isNone_list (xs : List D) : isNone (.list xs) = false := rfl
@[simp] theorem isNone_tuple (xs : List D) : isNone (.tuple xs) = false := rfl
@[simp] theorem isNone_int (i : Int) : isNone (.int i) = false := rfl
@[simp] theorem isNone_str (i : Str) : isNone (.str i) = false := rfl
@[simp] theorem oNotTrue_bool (b : Bool) : oNotTrue (.bool b) (.bool true) = .ok (.bool !b) := rfl
@[simp] theorem bLen_list (xs : List D) : bLen [.list xs] = .ok (.int xs.length) := rfl
@[simp] theorem bLen_tuple (xs : List D) : bLen [.tuple xs] = .ok (.int xs.length) := rfl
@[simp] theorem bAbs_int (i : Int) : bAbs [.int i] = .ok (.int (if i < 0 then -i else i)) := rfl
@[simp] theorem bMax_int (i j : Int) : bMax [.int i, .int j] = .ok (.int (if j > i then j else i)) := rfl
@[simp] theorem bMin_int (i j : Int) : bMin [.int i, .int j] = .ok (.int (if j < i then j else i)) := rfl
@[simp] theorem bInt_int (i : Int) : bInt [.int i] = .ok (.int i) := rfl
@[simp] theorem bInt_bool (b : Bool) : bInt [.bool b] = .ok (.int (if b then 1 else 0)) := rfl
@[simp] theorem bList_list (xs : List D) : bList [.list xs] = .ok (.list xs) := rfl
@[simp] theorem bList_tuple (xs : List D) : bList [.tuple xs] = .ok (.list xs) := rfl
@[simp] theorem bTuple_list (xs : List D) : bTuple [.list xs] = .ok (.tuple xs) := rfl
@[simp] theorem bTuple_tuple (xs : List D) : bTuple [.tuple xs] = .ok (.tuple xs) := rfl
@[simp] theorem oLst_list (xs : List D) : oLst (.list xs) = .ok (.list xs) := rfl
theorem wRange_1 {n : Nat} (h : n < 4611686018427387904) : wRange [.int n] = .ok (rangeL 0 n 1) := by
  have b : b62 (n : Int) = true := by simp [b62]; omega
  show (if b62 (n : Int) = true then Res.ok (rangeL 0 (n : Int).toNat 1) else .er) = _
  rw [if_pos b, Int.toNat_natCast]
theorem wRange_2 {i j : Int} (hi : b62 i = true) (hj : b62 j = true) : wRange [.int i, .int j] = .ok (rangeL i (j - i).toNat 1) := by
  show (if (b62 i && b62 j) = true then Res.ok (rangeL i (j - i).toNat 1) else .er) = _
  rw [if_pos (by rw [hi, hj]; rfl)]
theorem wRange_3 {i j : Int} (hi : b62 i = true) (hj : b62 j = true) : wRange [.int i, .int j, .int (-1)] = .ok (rangeL i (i - j).toNat (-1)) := by
  show (if (b62 i && b62 j && decide ((-1 : Int) = -1)) = true then Res.ok (rangeL i (i - j).toNat (-1)) else .er) = _
  rw [if_pos (by rw [hi, hj]; rfl)]
theorem b62_nat {n : Nat} (h : n < 4611686018427387904) : b62 (n : Int) = true := by simp [b62]; omega
@[simp] theorem dList_eq (xs : List D) : dList xs = if xs.length ≤ 16777216 then .ok (.list xs) else .er := rfl
@[simp] theorem dTuple_eq (xs : List D) : dTuple xs = if xs.length ≤ 16777216 then .ok (.tuple xs) else .er := rfl
@[simp] theorem oMod_eq (a b : Int) : oMod (.int a) (.int b) = if b ≠ 0 then .ok (.int (a.fmod b)) else .er := rfl
@[simp] theorem oDiv_eq (a b : Int) : oDiv (.int a) (.int b) = if b ≠ 0 ∧ b.natAbs < 1073741824 then .ok (.int (a.fdiv b)) else .er := rfl
@[simp] theorem xComp_eq (i : Ax) (vs : List Nat) (g : Gx) (c : Tx) (e : Fx) (δ : Ev) : xComp i vs g c e δ = (i δ).bind fun xs =>
  if xs.length ≤ 16777216 then (match compGo g c e (clrs δ vs) xs with
    | .ok ys => .ok (.list ys)
    | _ => .er) else .er := rfl
theorem runD_eq (N P : Nat) (s : Sx) (ds : List D) : runD N P s ds = if ds.length = P then (match s (startE N ds) with
  | .rt d => .ok d
  | .nx _ => .ok .none
  | .ex e _ => .ex e
  | _ => .er) else .er := rfl
@[simp] theorem startE_eq (N : Nat) (ds : List D) : startE N ds = ds.map some ++ List.replicate (N - ds.length) none := rfl
@[simp] theorem forGo_nil (g : Gx) (b : Sx) (δ : Ev) : forGo g b [] δ = .nx δ := rfl

/-! ### what holds behind a statement -/
def Wp (o : Out) (N B C : Ev → Prop) (R : D → Prop) : Prop := match o with
  | .nx δ => N δ
  | .bk δ => B δ
  | .ct δ => C δ
  | .rt d => R d
  | _ => False
def OKs (r : Res D) (P : D → Prop) : Prop := ∃ d, r = .ok d ∧ P d
section
variable {N B C : Ev → Prop} {R : D → Prop} {g : Gx} {b k : Sx} {xs : List D} {δ : Ev}
@[simp] theorem wp_nx : Wp (.nx δ) N B C R = N δ := rfl
@[simp] theorem wp_bk : Wp (.bk δ) N B C R = B δ := rfl
@[simp] theorem wp_ct : Wp (.ct δ) N B C R = C δ := rfl
@[simp] theorem wp_rt {d : D} : Wp (.rt d) N B C R = R d := rfl
theorem wp_seq {o : Out} (h : Wp o (fun δ => Wp (k δ) N B C R) B C R) : Wp (o.seq k) N B C R := by
  cases o <;> first | exact h | exact h.elim
theorem wp_forGo (Inv : Nat → Ev → Prop) : ∀ (xs : List D) (j : Nat) (δ : Ev), Inv j δ →
    (∀ i d δ, xs[i]? = some d → Inv (j + i) δ → ∃ δ1, g d δ = some δ1 ∧ Wp (b δ1) (Inv (j + i + 1)) N (Inv (j + i + 1)) R) → (∀ δ, Inv (j + xs.length) δ → N δ) → Wp (forGo g b xs δ) N B C R
  | [], j, δ, h0, _, he => he δ (by simpa using h0)
  | x :: xs, j, δ, h0, hs, he => by
    obtain ⟨δ1, e1, h1⟩ := hs 0 x δ rfl (by simpa using h0)
    have ih : ∀ δ2, Inv (j + 1) δ2 → Wp (forGo g b xs δ2) N B C R := fun δ2 h2 =>
      wp_forGo Inv xs (j + 1) δ2 h2 (fun i d δ hi hI => by
        have z := hs (i + 1) d δ (by simpa using hi) (by rw [show j + (i + 1) = j + 1 + i by omega]; exact hI)
        rw [show j + (i + 1) + 1 = j + 1 + i + 1 by omega] at z
        exact z) (fun δ hI => he δ (by rw [show j + (x :: xs).length = j + 1 + xs.length by simp; omega]; exact hI))
    unfold forGo
    rw [e1]
    simp only
    have h1' : Wp (b δ1) (Inv (j + 1)) N (Inv (j + 1)) R := h1
    cases e : b δ1 with
    | nx δ2 => rw [e] at h1'; exact ih δ2 h1'
    | ct δ2 => rw [e] at h1'; exact ih δ2 h1'
    | bk δ2 => rw [e] at h1'; exact h1'
    | rt d => rw [e] at h1'; exact h1'
    | ex x d => rw [e] at h1'; exact h1'.elim
    | er => rw [e] at h1'; exact h1'.elim
/-- a loop, and what stands behind it -/
theorem wp_for (Inv : Nat → Ev → Prop) (h0 : Inv 0 δ) (hs : ∀ i d δ, xs[i]? = some d → Inv i δ → ∃ δ1, g d δ = some δ1 ∧ Wp (b δ1) (Inv (i + 1)) (fun δ => Wp (k δ) N B C R) (Inv (i + 1)) R)
    (he : ∀ δ, Inv xs.length δ → Wp (k δ) N B C R) : Wp ((forGo g b xs δ).seq k) N B C R :=
  wp_seq (wp_forGo Inv xs 0 δ h0 (by simpa using hs) (by simpa using he))
theorem range_get {lo : Int} {n : Nat} {c : Int} {i : Nat} {d : D} (h : (rangeL lo n c)[i]? = some d) : i < n ∧ d = .int (lo + (i : Int) * c) := by
  unfold rangeL at h
  rw [List.getElem?_map] at h
  cases e : (List.range n)[i]? with
  | none => rw [e] at h; cases h
  | some j =>
    obtain ⟨h1, h2⟩ := List.getElem?_eq_some_iff.mp e
    rw [List.getElem_range] at h2
    subst h2
    rw [e] at h
    exact ⟨by simpa using h1, (Option.some.inj h).symm⟩
@[simp] theorem rangeL_length (lo : Int) (n : Nat) (c : Int) : (rangeL lo n c).length = n := by simp [rangeL]
theorem wp_forR {lo c : Int} {n : Nat} (Inv : Nat → Ev → Prop) (h0 : Inv 0 δ) (hs : ∀ (i : Nat) δ, i < n → Inv i δ → ∃ δ1, g (.int (lo + (i : Int) * c)) δ = some δ1 ∧ Wp (b δ1) (Inv (i + 1)) (fun δ => Wp (k δ) N B C R) (Inv (i + 1)) R)
    (he : ∀ δ, Inv n δ → Wp (k δ) N B C R) : Wp ((forGo g b (rangeL lo n c) δ).seq k) N B C R :=
  wp_for Inv h0 (fun i d δ hi hI => by
    obtain ⟨h1, rfl⟩ := range_get hi
    exact hs i δ h1 hI) (by simpa using he)
theorem wp_whGo {t : Tx} (Inv : Ev → Prop) (μ : Ev → Nat) (hs : ∀ δ, Inv δ → ∃ c, t δ = .ok c ∧ if c = true then Wp (b δ) (fun δ2 => Inv δ2 ∧ μ δ2 < μ δ) N (fun δ2 => Inv δ2 ∧ μ δ2 < μ δ) R else N δ) :
    ∀ (n : Nat) (δ : Ev), Inv δ → μ δ < n → Wp (whGo t b n δ) N B C R
  | 0, δ, _, h => absurd h (Nat.not_lt_zero _)
  | n + 1, δ, hI, hm => by
    obtain ⟨c, e, h⟩ := hs δ hI
    unfold whGo
    rw [e]
    simp only [out_ok']
    cases c with
    | false =>
      rw [if_neg Bool.false_ne_true] at h ⊢
      exact h
    | true =>
      rw [if_pos rfl] at h ⊢
      cases e2 : b δ with
      | nx δ2 => rw [e2] at h; exact wp_whGo Inv μ hs n δ2 h.1 (by have := h.2; omega)
      | ct δ2 => rw [e2] at h; exact wp_whGo Inv μ hs n δ2 h.1 (by have := h.2; omega)
      | bk δ2 => rw [e2] at h; exact h
      | rt d => rw [e2] at h; exact h
      | ex x d => rw [e2] at h; exact h.elim
      | er => rw [e2] at h; exact h.elim
theorem wp_while {t : Tx} {n : Nat} (Inv : Ev → Prop) (μ : Ev → Nat) (h0 : Inv δ) (hn : μ δ < n)
    (hs : ∀ δ, Inv δ → ∃ c, t δ = .ok c ∧ if c = true then Wp (b δ) (fun δ2 => Inv δ2 ∧ μ δ2 < μ δ) (fun δ => Wp (k δ) N B C R) (fun δ2 => Inv δ2 ∧ μ δ2 < μ δ) R else Wp (k δ) N B C R) : Wp ((whGo t b n δ).seq k) N B C R :=
  wp_seq (wp_whGo Inv μ hs n δ h0 hn)
/-- a def -/
theorem run_ok {n p : Nat} {s : Sx} {ds : List D} {P : D → Prop} (hl : ds.length = p) (h : Wp (s (startE n ds)) (fun _ => P .none) (fun _ => False) (fun _ => False) P) : OKs (runD n p s ds) P := by
  rw [runD_eq, if_pos hl]
  cases e : s (startE n ds) with
  | nx δ => rw [e] at h; exact ⟨_, rfl, h⟩
  | rt d => rw [e] at h; exact ⟨_, rfl, h⟩
  | bk d => rw [e] at h; exact h.elim
  | ct d => rw [e] at h; exact h.elim
  | ex x d => rw [e] at h; exact h.elim
  | er => rw [e] at h; exact h.elim
theorem run_eq {n p : Nat} {s : Sx} {ds : List D} {r : D} (hl : ds.length = p) (h : Wp (s (startE n ds)) (fun _ => PyData.none = r) (fun _ => False) (fun _ => False) (fun d => d = r)) : runD n p s ds = .ok r := by
  obtain ⟨d, e, rfl⟩ := run_ok (P := fun d => d = r) hl h
  exact e
end
end Dt
end

section
set_option Elab.async false
set_option linter.all false
set_option autoImplicit false
/-! K83P: lists of numbers as tables; sums. -/
namespace K83
open PySem Dt

def tab (m : Nat) (f : Nat → Int) : List Int := (List.range m).map f
@[simp] theorem tab_len (m : Nat) (f : Nat → Int) : (tab m f).length = m := by simp [tab]
theorem cf_tab {m : Nat} {f : Nat → Int} {k : Nat} (h : k < m) : cf (tab m f) k = f k := by
  rw [cf_lt (by simpa using h)]
  simp [tab]
theorem cf_tab2 {m : Nat} {f : Nat → Int} (k : Nat) : cf (tab m f) k = if k < m then f k else 0 := by
  by_cases h : k < m
  · rw [if_pos h, cf_tab h]
  · rw [if_neg h, cf_of (by simpa using h)]
theorem tab_congr {m : Nat} {f g : Nat → Int} (h : ∀ k, k < m → f k = g k) : tab m f = tab m g := by
  unfold tab
  exact List.map_congr_left fun k hk => h k (by simpa using hk)
theorem set_tab {m k : Nat} {f : Nat → Int} {v : Int} : ((tab m f).map PyData.int).set k (.int v) = (tab m (fun j => if j = k then v else f j)).map PyData.int := by
  refine List.ext_getElem? fun i => ?_
  by_cases hik : i = k
  · subst hik
    by_cases h : i < m
    · rw [List.getElem?_set_self (by simpa using h)]
      simp [tab, h]
    · rw [List.getElem?_eq_none (by simpa using h), List.getElem?_eq_none (by simpa using h)]
  · rw [List.getElem?_set_ne (Ne.symm hik)]
    by_cases h : i < m
    · simp [tab, h, hik]
    · rw [List.getElem?_eq_none (by simpa using h), List.getElem?_eq_none (by simpa using h)]
theorem list_tab (xs : List Int) : xs = tab xs.length (cf xs) := by
  refine List.ext_getElem? fun i => ?_
  by_cases h : i < xs.length
  · rw [get_cf h]
    simp [tab, h]
  · rw [List.getElem?_eq_none (by simpa using h), List.getElem?_eq_none (by simpa using h)]
theorem ext_cf {xs ys : List Int} (hl : xs.length = ys.length) (h : ∀ k, cf xs k = cf ys k) : xs = ys := by
  rw [list_tab xs, list_tab ys, hl]
  exact tab_congr fun k _ => h k
/-- moved up -/
def up (s : Nat) (f : Nat → Int) (k : Nat) : Int := if k < s then 0 else f (k - s)
/-- one line plus n times the other one, moved up by s -/
def addS (a b : List Int) (n : Int) (s : Nat) : List Int := tab (max a.length (b.length + s)) fun k => cf a k + n * up s (cf b) k
theorem addS_len (a b : List Int) (n : Int) (s : Nat) : (addS a b n s).length = max a.length (b.length + s) := by simp [addS]
theorem cf_addS (a b : List Int) (n : Int) (s k : Nat) : cf (addS a b n s) k = cf a k + n * up s (cf b) k := by
  unfold addS
  rw [cf_tab2]
  split
  · rfl
  · rename_i h
    have h1 : cf a k = 0 := cf_of (by omega)
    have h2 : up s (cf b) k = 0 := by
      unfold up
      split
      · rfl
      · exact cf_of (by omega)
    rw [h1, h2]
    simp
/-- bounds by powers of two -/
def Bd (n : Nat) (xs : List Int) : Prop := ∀ k, (cf xs k).natAbs < 2 ^ n
theorem Bd.mono {n m : Nat} {xs : List Int} (h : Bd n xs) (hm : n ≤ m) : Bd m xs := fun k => Nat.lt_of_lt_of_le (h k) (Nat.pow_le_pow_right (by decide) hm)
theorem Bd.of_mem {n : Nat} {xs : List Int} (h : ∀ x ∈ xs, x.natAbs < 2 ^ n) : Bd n xs := fun k => by
  by_cases hk : k < xs.length
  · rw [cf_lt hk]
    exact h _ (List.getElem_mem hk)
  · rw [cf_of (by omega)]
    exact Nat.pow_pos (by decide)
theorem natAbs_add_lt {a b : Int} {n m : Nat} (ha : a.natAbs < 2 ^ n) (hb : b.natAbs < 2 ^ m) : (a + b).natAbs < 2 ^ (max n m + 1) := by
  have h1 : 2 ^ n ≤ 2 ^ max n m := Nat.pow_le_pow_right (by decide) (Nat.le_max_left _ _)
  have h2 : 2 ^ m ≤ 2 ^ max n m := Nat.pow_le_pow_right (by decide) (Nat.le_max_right _ _)
  rw [Nat.pow_succ]
  omega
theorem natAbs_mul_lt {a b : Int} {n m : Nat} (ha : a.natAbs < 2 ^ n) (hb : b.natAbs < 2 ^ m) : (a * b).natAbs < 2 ^ (n + m) := by
  rw [Int.natAbs_mul, Nat.pow_add]
  exact Nat.mul_lt_mul'' ha hb
theorem Bd.addS {n m c : Nat} {a b : List Int} {x : Int} {s : Nat} (ha : Bd n a) (hb : Bd m b) (hx : x.natAbs < 2 ^ c) : Bd (max n (c + m) + 1) (addS a b x s) := fun k => by
  rw [cf_addS]
  refine natAbs_add_lt (ha k) (natAbs_mul_lt hx ?_)
  unfold up
  split
  · exact Nat.pow_pos (by decide)
  · exact hb _
end K83
end

section
set_option Elab.async false
set_option linter.all false
set_option autoImplicit false
set_option maxRecDepth 10000
set_option maxHeartbeats 1000000
namespace K83
open PySem Dt

theorem cell_ok (ns : List Int) (k : Nat) (hk : k < 1000000) : ∃ c, f_l_cell [L ns, .int k] = .ok (.int c) := by
  suffices h : OKs (f_l_cell [L ns, .int k]) (fun d => ∃ c, d = .int c) by
    obtain ⟨d, e, c, rfl⟩ := h
    exact ⟨c, e⟩
  refine run_ok rfl ?_
  by_cases h : k < ns.length
  · have e := oIx_L (xs := ns) (i := k) (k := k) rfl h
    simp [g_l_cell, h, e]
  · simp [g_l_cell, h]
    refine wp_for (fun _ δ => ∃ s x, δ = [some (L ns), some (.int k), some (.int s), x]) ⟨17, none, rfl⟩ ?_ ?_
    · rintro i d δ hi ⟨s, x, rfl⟩
      rw [List.getElem?_map] at hi
      cases e2 : ns[i]? with
      | none => rw [e2] at hi; cases hi
      | some c =>
        rw [e2] at hi
        cases hi
        simp [oMul, small64, oMod]
    · rintro δ ⟨s, x, rfl⟩
      have m1 : oMul (.int (s + 7)) (.int ((k : Int) + 3)) = .ok (.int ((s + 7) * ((k : Int) + 3))) := oMul_r (by omega)
      have m2 : oMul (.int ((s + 7) * ((k : Int) + 3))) (.int 69621) = .ok (.int ((s + 7) * ((k : Int) + 3) * 69621)) := oMul_r (by decide)
      simp [m1, m2, oMod]
/-- digits to bases -/
structure Dig (bs row : List Int) : Prop where
  len : row.length = bs.length
  lo : ∀ k, 0 ≤ cf row k
  hi : ∀ k, k < bs.length → cf row k < cf bs k
theorem cf_app1 {xs : List Int} {y : Int} (k : Nat) : cf (xs ++ [y]) k = if k < xs.length then cf xs k else if k = xs.length then y else 0 := by
  unfold cf
  by_cases h : k < xs.length
  · rw [if_pos h]
    simp [List.getD, List.getElem?_append_left h]
  · rw [if_neg h]
    by_cases h2 : k = xs.length
    · subst h2
      simp [List.getD]
    · rw [if_neg h2]
      rw [List.getD, List.getElem?_eq_none (by simp; omega)]
      rfl
theorem digits_ok (c : Int) (bs : List Int) (hb : ∀ k, k < bs.length → 0 < cf bs k ∧ cf bs k < 1073741824) (hl : bs.length ≤ 1000) : ∃ row, f_l_digits [.int c, L bs] = .ok (L row) ∧ Dig bs row := by
  suffices h : OKs (f_l_digits [.int c, L bs]) (fun d => ∃ row, d = L row ∧ Dig bs row) by
    obtain ⟨d, e, row, rfl, h⟩ := h
    exact ⟨row, e, h⟩
  refine run_ok rfl ?_
  have grow : ∀ (row : List Int) (i : Nat) (x : Int), i < bs.length → row.length = i → (∀ k, 0 ≤ cf row k) → (∀ k, k < i → cf row k < cf bs k) → (∀ k, 0 ≤ cf (row ++ [x.fmod (cf bs i)]) k) ∧ (∀ k, k < i + 1 → cf (row ++ [x.fmod (cf bs i)]) k < cf bs k) := by
    intro row i x hi hr h1 h2
    have z := fmod_pos (a := x) (hb i hi).1
    refine ⟨fun k => ?_, fun k hk => ?_⟩
    · rw [cf_app1]
      split
      · exact h1 k
      · split
        · exact z.1
        · exact Int.le_refl 0
    · rw [cf_app1]
      split
      · rename_i h
        exact h2 k (by omega)
      · rw [if_pos (by omega)]
        have : k = i := by omega
        subst this
        exact z.2
  have e18 : oPow (.int 10) (.int 18) = .ok (.int 1000000000000000000) := rfl
  simp [g_l_digits, e18]
  by_cases h : 1000000000000000000 ≤ c
  · simp [h, e18]
    refine wp_seq (wp_for (fun i δ => ∃ row n x y z w, δ = [some (.int c), some (L bs), some (L row), some (.int n), x, y, z, w] ∧ row.length = i ∧ (∀ k, 0 ≤ cf row k) ∧ ∀ k, k < i → cf row k < cf bs k) ⟨[], c - 1000000000000000000, none, none, none, none, rfl, rfl, fun k => by simp [cf], by simp⟩ ?_ ?_)
    · rintro i d δ hi ⟨row, n, x, y, z, w, rfl, h0, h1, h2⟩
      rw [List.getElem?_map] at hi
      cases e2 : bs[i]? with
      | none => rw [e2] at hi; cases hi
      | some b =>
        rw [e2] at hi
        cases hi
        obtain ⟨hi, e3⟩ := List.getElem?_eq_some_iff.mp e2
        have e4 : cf bs i = b := by rw [cf_lt hi, e3]
        have z := hb i hi
        rw [e4] at z
        have g := grow row i n hi h0 h1 h2
        rw [e4] at g
        have m1 : oMod (.int n) (.int b) = .ok (.int (n.fmod b)) := oMod_ (by omega)
        have m2 : oDiv (.int n) (.int b) = .ok (.int (n.fdiv b)) := oDiv_ (by omega) (by omega)
        have m3 : row.length < SL := by show _ < 16777216; omega
        refine ⟨_, rfl, ?_⟩
        simp [m1, m2, m3]
        exact ⟨row ++ [n.fmod b], by simp, by simp [h0], g.1, g.2⟩
    · rintro δ ⟨row, n, x, y, z, w, rfl, h0, h1, h2⟩
      rw [List.length_map] at h0 h2
      simp
      exact ⟨row, rfl, h0, h1, h2⟩
  · have hl2 := wRange_1 (n := bs.length) (by omega)
    simp [h, hl2]
    have z0 := fmod_pos (a := c) (b := 2147483629) (by decide)
    have z1 : 0 ≤ c.fmod 2147483629 ∧ c.fmod 2147483629 < 2147483647 := by omega
    refine wp_forR (fun i δ => ∃ row n y z, δ = [some (.int c), some (L bs), some (L row), some (.int c), none, some (.int n), y, z] ∧ (0 ≤ n ∧ n < 2147483647) ∧ row.length = i ∧ (∀ k, 0 ≤ cf row k) ∧ ∀ k, k < i → cf row k < cf bs k) ⟨[], _, none, none, rfl, z1, rfl, fun k => by simp [cf], by simp⟩ ?_ ?_
    · rintro i δ hi ⟨row, n, y, z, rfl, hn, h0, h1, h2⟩
      have e0 : (0 : Int) + (i : Int) * 1 = i := by omega
      rw [e0]
      refine ⟨_, rfl, ?_⟩
      have m1 : oMul (.int n) (.int 48271) = .ok (.int (n * 48271)) := oMul_r (by decide)
      have m2 : oMul (.int 974711) (.int i) = .ok (.int (974711 * i)) := oMul_l (by decide)
      simp [m1, m2]
      generalize hx : (n * 48271 + 974711 * (i : Int) + 12345).fmod 2147483647 = x
      have z2 : 0 ≤ x ∧ x < 2147483647 := by rw [← hx]; exact fmod_pos (by decide)
      have m3 : oMul (.int x) (.int (x.fdiv 65537 + 3)) = .ok (.int (x * (x.fdiv 65537 + 3))) := oMul_l (by omega)
      have zb := hb i hi
      have m4 : oIx (.list (bs.map PyData.int)) (.int i) = .ok (.int (cf bs i)) := oIx_L rfl hi
      have m5 : row.length < SL := by show _ < 16777216; omega
      have m6 : cf bs i ≠ 0 := by omega
      have g := fun w => grow row i w hi h0 h1 h2
      simp [m3, m4, m5, m6]
      exact ⟨row ++ [(((x * (x.fdiv 65537 + 3)).fmod 2147483629).fdiv 19).fmod (cf bs i)], x, ⟨by simp, rfl⟩, z2, by simp [h0], (g _).1, (g _).2⟩
    · rintro δ ⟨row, n, y, z, rfl, hn, h0, h1, h2⟩
      simp
      exact ⟨row, rfl, h0, h1, h2⟩

/-! ### sums -/
def Mu (b : List Int) (n : Int) : Prop := ∀ k, oMul (.int n) (.int (cf b k)) = .ok (.int (n * cf b k))
theorem oIx_tab {m : Nat} {f : Nat → Int} {i : Int} {k : Nat} (e : i = k) (h : k < m) : oIx (.list ((tab m f).map PyData.int)) (.int i) = .ok (.int (f k)) := by
  have z := oIx_L (xs := tab m f) (k := k) e (by simpa using h)
  rw [cf_tab h] at z
  exact z
theorem sum_eq (a b : List Int) (n : Int) (s : Nat) (hm : Mu b n) (ha : a.length ≤ 1000000) (hb : b.length + s ≤ 1000000) : f_l_sum [L a, L b, .int n, .int s] = .ok (L (addS a b n s)) := by
  refine run_eq rfl ?_
  have e1 : (if (a.length : Int) < (b.length : Int) + (s : Int) then (b.length : Int) + (s : Int) else (a.length : Int)) = ((max a.length (b.length + s) : Nat) : Int) := by
    split <;> omega
  generalize hM : max a.length (b.length + s) = M at e1
  have hM1 : a.length ≤ M := by omega
  have hM2 : b.length + s ≤ M := by omega
  have hM3 : M ≤ 1000000 := by omega
  have b1 := wRange_1 (n := M) (by omega)
  have b2 := wRange_1 (n := a.length) (by omega)
  have b3 := wRange_1 (n := b.length) (by omega)
  have b4 : M ≤ 16777216 := by omega
  have ec : compGo (gN 5) tYes (xC (.int 0)) [some (L a), some (L b), some (.int n), some (.int s), none, none] (rangeL 0 M 1) = .ok ((tab M (fun _ => 0)).map PyData.int) := by
    rw [compGo_range M (fun _ => .int 0) (fun i hi => ⟨_, rfl, rfl, rfl⟩)]
    simp [tab]
  simp [g_l_sum, e1, b1, b2, b3, b4, ec]
  refine wp_forR (fun i δ => ∃ x, δ = [some (L a), some (L b), some (.int n), some (.int s), some (L (tab M (fun k => if k < i then cf a k else 0))), x]) ⟨none, by simp⟩ ?_ ?_
  · rintro i δ hi ⟨x, rfl⟩
    have e0 : (0 : Int) + (i : Int) * 1 = i := by omega
    rw [e0]
    refine ⟨_, rfl, ?_⟩
    have m1 := oIx_tab (m := M) (f := fun k => if k < i then cf a k else 0) (i := i) rfl (by omega)
    have m2 : oIx (.list (a.map PyData.int)) (.int i) = .ok (.int (cf a i)) := oIx_L rfl hi
    have m3 : i < M := by omega
    simp at m1
    simp [m1, m2, m3, set_tab]
    refine congrArg _ (tab_congr fun k hk => ?_)
    by_cases h1 : k = i
    · subst h1
      simp
    · have : (k < i + 1) = (k < i) := by simp; omega
      simp [h1, this]
  · rintro δ ⟨x, rfl⟩
    simp [b3]
    refine wp_forR (fun i δ => ∃ x, δ = [some (L a), some (L b), some (.int n), some (.int s), some (L (tab M (fun k => if k < i + s then cf a k + n * up s (cf b) k else cf a k))), x]) ⟨x, ?_⟩ ?_ ?_
    · simp
      refine congrArg _ (tab_congr fun k hk => ?_)
      by_cases h : k < s
      · have h2 : up s (cf b) k = 0 := by simp [up, h]
        simp [h, h2]
        intro h3
        exact (cf_of (by omega)).symm
      · simp [h]
        intro h3
        exact (cf_of (by omega)).symm
    · rintro i δ hi ⟨x, rfl⟩
      have e0 : (0 : Int) + (i : Int) * 1 = i := by omega
      rw [e0]
      refine ⟨_, rfl, ?_⟩
      have m1 := oIx_tab (m := M) (f := fun k => if k < i + s then cf a k + n * up s (cf b) k else cf a k) (i := (i : Int) + s) (k := i + s) (by omega) (by omega)
      have m2 : oIx (.list (b.map PyData.int)) (.int i) = .ok (.int (cf b i)) := oIx_L rfl hi
      have m3 : (i : Int) + s < M := by omega
      have m4 : (0 : Int) ≤ i + s := by omega
      have m5 : ((i : Int) + s).toNat = i + s := by omega
      simp at m1
      simp [m1, m2, m3, m4, m5, hm i, set_tab]
      refine congrArg _ (tab_congr fun k hk => ?_)
      by_cases h1 : k = i + s
      · subst h1
        have h9 : ¬ (i + s < s) := by omega
        have h8 : (i + s < i + 1 + s) := by omega
        simp [up, h9, h8]
      · have : (k < i + 1 + s) = (k < i + s) := by simp; omega
        simp [h1, this]
    · rintro δ ⟨x, rfl⟩
      have e3 : (∀ (a_1 : Int), (a_1 ∈ tab M fun k => if k < b.length + s then cf a k + n * up s (cf b) k else cf a k) → scal (.int a_1) = true) = True := by
        simp [scal]
      simp [e3]
      unfold addS
      rw [hM]
      refine congrArg _ (tab_congr fun k hk => ?_)
      split
      · rfl
      · have : up s (cf b) k = 0 := by
          unfold up
          split
          · rfl
          · exact cf_of (by omega)
        simp [this]
end K83
end

section
set_option Elab.async false
set_option linter.all false
set_option autoImplicit false
set_option maxRecDepth 10000
set_option maxHeartbeats 1000000
namespace K83
open PySem Dt

/-! ### the last number that is not 0 -/
def topN (f : Nat → Int) : Nat → Nat
  | 0 => 0
  | n + 1 => if f n = 0 then topN f n else n + 1
theorem topN_le (f : Nat → Int) : ∀ n, topN f n ≤ n
  | 0 => Nat.le_refl _
  | n + 1 => by
    unfold topN
    split
    · exact Nat.le_succ_of_le (topN_le f n)
    · exact Nat.le_refl _
theorem topN_zero (f : Nat → Int) : ∀ n k, topN f n ≤ k → k < n → f k = 0
  | 0, k, _, h => absurd h (Nat.not_lt_zero k)
  | n + 1, k, h1, h2 => by
    unfold topN at h1
    by_cases h : f n = 0
    · rw [if_pos h] at h1
      by_cases hk : k = n
      · rw [hk]; exact h
      · exact topN_zero f n k h1 (by omega)
    · rw [if_neg h] at h1
      omega
theorem topN_last (f : Nat → Int) : ∀ n t, topN f n = t + 1 → f t ≠ 0
  | 0, t, h => by cases h
  | n + 1, t, h => by
    unfold topN at h
    by_cases h0 : f n = 0
    · rw [if_pos h0] at h
      exact topN_last f n t h
    · rw [if_neg h0] at h
      have : n = t := by omega
      rw [← this]
      exact h0
theorem topN_ext {f g : Nat → Int} (h : ∀ k, f k = g k) : ∀ n, topN f n = topN g n
  | 0 => rfl
  | n + 1 => by
    unfold topN
    rw [h n, topN_ext h n]
theorem topN_up {f : Nat → Int} {n : Nat} (h : ∀ k, n ≤ k → f k = 0) : ∀ j, topN f (n + j) = topN f n
  | 0 => rfl
  | j + 1 => by
    show (if f (n + j) = 0 then topN f (n + j) else n + j + 1) = _
    rw [if_pos (h _ (by omega)), topN_up h j]
theorem topN_eq {f g : Nat → Int} {n m : Nat} (hf : ∀ k, n ≤ k → f k = 0) (hg : ∀ k, m ≤ k → g k = 0) (h : ∀ k, f k = g k) : topN f n = topN g m := by
  have a := topN_up hf m
  have b := topN_up hg n
  rw [Nat.add_comm m n] at b
  rw [← a, ← b]
  exact topN_ext h _
/-- without the last zeros -/
def cutZ (xs : List Int) : List Int := tab (topN (cf xs) xs.length) (cf xs)
theorem cf_cutZ (xs : List Int) (k : Nat) : cf (cutZ xs) k = cf xs k := by
  unfold cutZ
  rw [cf_tab2]
  split
  · rfl
  · rename_i h
    by_cases hk : k < xs.length
    · exact (topN_zero _ _ k (by omega) hk).symm
    · exact (cf_of (by omega)).symm
theorem cutZ_congr {xs ys : List Int} (h : ∀ k, cf xs k = cf ys k) : cutZ xs = cutZ ys := by
  unfold cutZ
  rw [topN_eq (fun k hk => cf_of hk) (fun k hk => cf_of hk) h]
  exact tab_congr fun k _ => h k
theorem cutZ_len (xs : List Int) : (cutZ xs).length ≤ xs.length := by
  unfold cutZ
  rw [tab_len]
  exact topN_le _ _
theorem cutZ_idem (xs : List Int) : cutZ (cutZ xs) = cutZ xs := cutZ_congr (cf_cutZ xs)
theorem take_tab (xs : List Int) (n : Nat) (h : n ≤ xs.length) : xs.take n = tab n (cf xs) := by
  refine List.ext_getElem? fun i => ?_
  by_cases hi : i < n
  · rw [List.getElem?_take_of_lt hi, get_cf (by omega)]
    simp [tab, hi]
  · rw [List.getElem?_eq_none (by simp; omega), List.getElem?_eq_none (by simp; omega)]
theorem cutZ_eq_nil {xs : List Int} : cutZ xs = [] ↔ ∀ k, cf xs k = 0 := by
  constructor
  · intro h k
    rw [← cf_cutZ, h]
    rfl
  · intro h
    have : cutZ xs = cutZ [] := cutZ_congr fun k => by rw [h k]; rfl
    rw [this]
    rfl
theorem cut_eq (xs : List Int) (h : xs.length ≤ 1000000) : f_cut [L xs] = .ok (L (cutZ xs)) := by
  refine run_eq rfl ?_
  simp [g_cut]
  refine wp_while (fun δ => ∃ j, δ = [some (L xs), some (.int (j : Nat))] ∧ j ≤ xs.length ∧ topN (cf xs) j = topN (cf xs) xs.length) (fun δ => match look δ 1 with | some (.int i) => i.toNat | _ => 0) ⟨_, rfl, Nat.le_refl _, rfl⟩ (by simp) ?_
  rintro δ ⟨j, rfl, hj, ht⟩
  cases j with
  | zero =>
    refine ⟨false, by simp, ?_⟩
    have e : cutZ xs = [] := by
      unfold cutZ
      rw [← ht]
      rfl
    simp [e, cutL, cIx]
    exact .inl (by omega)
  | succ j =>
    have m1 : oIx (.list (xs.map PyData.int)) (.int (j : Nat)) = .ok (.int (cf xs j)) := oIx_L rfl (by omega)
    have h0 : (0 : Int) < (j : Int) + 1 := by omega
    refine ⟨cf xs j == 0, by simp [m1, h0], ?_⟩
    by_cases hz : cf xs j = 0
    · simp [hz]
      refine ⟨j, rfl, by omega, ?_⟩
      rw [← ht]
      show _ = (if cf xs j = 0 then topN (cf xs) j else j + 1)
      rw [if_pos hz]
    · simp [hz]
      have e : topN (cf xs) xs.length = j + 1 := by
        rw [← ht]
        show (if cf xs j = 0 then topN (cf xs) j else j + 1) = _
        rw [if_neg hz]
      have e2 : (min ((j : Int) + 1) (xs.length : Int)).toNat = j + 1 := by omega
      have e3 : ¬ ((j : Int) + 1 < 0) := by omega
      simp [cutL, cIx, e2, e3]
      rw [← List.map_take, take_tab _ _ hj]
      unfold cutZ
      rw [e]
theorem last_filter (f : Nat → Int) : ∀ n, ((List.range n).filter fun k => f k != 0).getLast? = (match topN f n with
    | 0 => none
    | t + 1 => some t)
  | 0 => rfl
  | n + 1 => by
    rw [List.range_succ, List.filter_append]
    by_cases h : f n = 0
    · have e : topN f (n + 1) = topN f n := by
        show (if f n = 0 then topN f n else n + 1) = _
        rw [if_pos h]
      rw [e]
      have e2 : List.filter (fun k => f k != 0) [n] = [] := by simp [h]
      rw [e2, List.append_nil]
      exact last_filter f n
    · have e : topN f (n + 1) = n + 1 := by
        show (if f n = 0 then topN f n else n + 1) = _
        rw [if_neg h]
      rw [e]
      simp [h]
theorem short_eq (xs : List Int) (h : xs.length ≤ 1000000) : f_l_short [L xs] = .ok (L (cutZ xs)) := by
  refine run_eq rfl ?_
  have b1 := wRange_1 (n := xs.length) (by omega)
  have b2 : xs.length ≤ 16777216 := by omega
  have ec : compGo (gN 2) (tB (x2 oNe (x2 oIx (xName 0) (xName 2)) (xC (.int 0)))) (xName 2) [some (L xs), none, none] (rangeL 0 xs.length 1) = .ok (((List.range xs.length).filter fun k => cf xs k != 0).map fun (k : Nat) => .int k) := by
    have z := compGo_filter (g := gN 2) (c := tB (x2 oNe (x2 oIx (xName 0) (xName 2)) (xC (.int 0)))) (e := xName 2) (δ := [some (L xs), none, none]) (fun d => match d with | .int k => cf xs k.toNat != 0 | _ => false) (fun d => d) (rangeL 0 xs.length 1) fun d hd => by
      obtain ⟨i, hi⟩ := List.getElem?_of_mem hd
      obtain ⟨h1, rfl⟩ := range_get hi
      refine ⟨_, rfl, ?_, fun _ => by simp⟩
      have m1 : oIx (.list (xs.map PyData.int)) (.int ((0 : Int) + (i : Int) * 1)) = .ok (.int (cf xs i)) := oIx_L (by omega) h1
      simp at m1
      simp [m1, bne]
    rw [z]
    congr 1
    unfold rangeL
    rw [List.filter_map, List.map_map]
    refine (congrArg _ (List.filter_congr (q := fun k => cf xs k != 0) fun i _ => ?_)).trans (List.map_congr_left fun i _ => ?_)
    · simp
    · simp
  have hl := last_filter (cf xs) xs.length
  generalize hps : (List.range xs.length).filter (fun k => cf xs k != 0) = ps at ec hl
  simp [g_l_short, b1, b2, ec]
  cases ht : topN (cf xs) xs.length with
  | zero =>
    rw [ht] at hl
    have e : ps = [] := List.getLast?_eq_none_iff.mp hl
    have e2 : cutZ xs = [] := by
      unfold cutZ
      rw [ht]
      rfl
    simp [e, e2]
  | succ t =>
    rw [ht] at hl
    have e : ps ≠ [] := fun h0 => by rw [h0] at hl; cases hl
    have e4 : (ps.map fun (k : Nat) => PyData.int k).getLast? = some (.int t) := by rw [List.getLast?_map, hl]; rfl
    have m1 : oIx (.list (ps.map fun (k : Nat) => PyData.int k)) (.int (-1)) = .ok (.int t) := by
      have z := getI_m1 e4
      simp only [oIx, z]
    have hle := topN_le (cf xs) xs.length
    rw [ht] at hle
    have e2 : (min ((t : Int) + 1) (xs.length : Int)).toNat = t + 1 := by omega
    have e3 : ¬ ((t : Int) + 1 < 0) := by omega
    simp [e, m1, cutL, cIx, e2, e3]
    rw [← List.map_take, take_tab _ _ hle]
    unfold cutZ
    rw [ht]
end K83
end

section
set_option Elab.async false
set_option linter.all false
set_option autoImplicit false
set_option maxRecDepth 10000
set_option maxHeartbeats 1000000
namespace K83
open PySem Dt

/-! ### a list or a tuple -/
def sq (b : Bool) (ds : List D) : D := if b = true then .tuple ds else .list ds
def sqI (b : Bool) (xs : List Int) : D := sq b (xs.map PyData.int)
@[simp] theorem wSeq_sq (b : Bool) (ds : List D) : wSeq (sq b ds) = .ok ds := by cases b <;> rfl
@[simp] theorem bLen_sq (b : Bool) (ds : List D) : bLen [sq b ds] = .ok (.int ds.length) := by cases b <;> rfl
@[simp] theorem bLen_sqI (b : Bool) (ds : List Int) : bLen [sqI b ds] = .ok (.int ds.length) := by cases b <;> simp [sqI, sq]
@[simp] theorem bList_sqI (b : Bool) (ds : List Int) : bList [sqI b ds] = .ok (L ds) := by cases b <;> rfl
@[simp] theorem bList_sq (b : Bool) (ds : List D) : bList [sq b ds] = .ok (.list ds) := by cases b <;> rfl
@[simp] theorem bTuple_sq (b : Bool) (ds : List D) : bTuple [sq b ds] = .ok (.tuple ds) := by cases b <;> rfl
@[simp] theorem isNone_sqI (b : Bool) (ds : List Int) : isNone (sqI b ds) = false := by cases b <;> rfl
theorem oIx_sqI (b : Bool) {xs : List Int} {i : Int} {k : Nat} (e : i = k) (h : k < xs.length) : oIx (sqI b xs) (.int i) = .ok (.int (cf xs k)) := by
  cases b
  · exact oIx_L e h
  · exact oIx_T e h
/-- the leading number -/
def ld (s : List Int) : Int := cf s (s.length - 1)
theorem ld_sqI (b : Bool) {xs : List Int} (h : xs ≠ []) : oIx (sqI b xs) (.int (-1)) = .ok (.int (ld xs)) := by
  have hl : 0 < xs.length := List.length_pos_iff.mpr h
  have e : (xs.map PyData.int).getLast? = some (.int (ld xs)) := by
    rw [List.getLast?_eq_getElem?, List.length_map, List.getElem?_map, get_cf (by omega)]
    rfl
  have z := getI_m1 e
  cases b <;> simp only [sqI, sq, if_true, if_false, Bool.false_eq_true, oIx, z]

/-! ### the stair below -/
def bel (S : List (List Int)) (n : Nat) : Option (List Int) := (S.filter fun s => decide (s.length ≤ n)).getLast?
theorem bel_mem {S : List (List Int)} {n : Nat} {s : List Int} (h : bel S n = some s) : s ∈ S ∧ s.length ≤ n := by
  have z := List.mem_of_getLast? h
  simpa using z
def opt (b : Bool) : Option (List Int) → D
  | none => .none
  | some s => sqI b s
theorem below_ev (b : Bool) (S : List (List Int)) (n : Nat) : f_stair_below [sq b (S.map (sqI b)), .int n] = .ok (opt b (bel S n)) := by
  refine run_eq rfl ?_
  simp [g_stair_below]
  refine wp_for (fun i δ => ∃ x, δ = [some (sq b (S.map (sqI b))), some (.int n), some (opt b (bel (S.take i) n)), x]) ⟨none, rfl⟩ ?_ ?_
  · rintro i d δ hi ⟨x, rfl⟩
    rw [List.getElem?_map] at hi
    cases e2 : S[i]? with
    | none => rw [e2] at hi; cases hi
    | some s =>
      rw [e2] at hi
      cases hi
      refine ⟨_, rfl, ?_⟩
      obtain ⟨h1, h2⟩ := List.getElem?_eq_some_iff.mp e2
      have et : S.take (i + 1) = S.take i ++ [s] := by rw [List.take_succ, e2]; rfl
      have eb : bel (S.take (i + 1)) n = if s.length ≤ n then some s else bel (S.take i) n := by
        unfold bel
        rw [et, List.filter_append]
        by_cases hs : s.length ≤ n
        · simp [hs]
        · have : List.filter (fun s => decide (s.length ≤ n)) [s] = [] := by simp [hs]
          rw [this, List.append_nil, if_neg hs]
      by_cases hs : s.length ≤ n
      · simp [hs, eb, opt]
      · simp [hs, eb]
  · rintro δ ⟨x, rfl⟩
    simp

/-! ### the rest -/
structure Fine (w : Nat) (S : List (List Int)) : Prop where
  ne : ∀ s ∈ S, s ≠ []
  ld : ∀ s ∈ S, 0 < ld s ∧ ld s < 1073741824
  len : ∀ s ∈ S, s.length ≤ 20
  bd : ∀ s ∈ S, Bd w s
def stepR (S : List (List Int)) (xs : List Int) (d : Nat) : List Int := match bel S (d + 1) with
  | none => xs
  | some s => addS xs s (-(cf xs d).fdiv (ld s)) (d + 1 - s.length)
def restGo (S : List (List Int)) : List Int → Nat → List Int
  | xs, 0 => xs
  | xs, d + 1 => restGo S (stepR S xs d) d
def rest (S : List (List Int)) (xs : List Int) : List Int := cutZ (restGo S xs xs.length)
theorem fdiv_abs (a : Int) {b : Int} (h : 0 < b) {n : Nat} (ha : a.natAbs < 2 ^ n) : (a.fdiv b).natAbs < 2 ^ (n + 1) := by
  have h1 := Int.fmod_add_mul_fdiv a b
  have h2 := fmod_pos (a := a) h
  have hp : 2 ^ (n + 1) = 2 ^ n + 2 ^ n := by omega
  have h0 : 0 < 2 ^ n := Nat.pow_pos (by decide)
  generalize a.fdiv b = q at *
  generalize a.fmod b = r at *
  have h3 : a - b ≤ b * q - b + r := by omega
  by_cases hq : 0 ≤ q
  · have : q ≤ b * q := by
      have := Int.mul_le_mul_of_nonneg_right (show (1 : Int) ≤ b by omega) hq
      omega
    omega
  · have : b * (q + 1) ≤ q + 1 := by
      have := Int.mul_le_mul_of_nonpos_right (show (1 : Int) ≤ b by omega) (show q + 1 ≤ 0 by omega)
      omega
    have e : b * (q + 1) = b * q + b := by rw [Int.mul_add, Int.mul_one]
    omega
theorem step_Bd {w : Nat} {S : List (List Int)} (hS : Fine w S) {xs : List Int} {m d : Nat} (h : Bd m xs) : Bd (m + (w + 2)) (stepR S xs d) := by
  unfold stepR
  cases e : bel S (d + 1) with
  | none => exact h.mono (by omega)
  | some s =>
    obtain ⟨h1, h2⟩ := bel_mem e
    have z := h.addS (s := d + 1 - s.length) (hS.bd s h1) (x := -(cf xs d).fdiv (ld s)) (c := m + 1) (by rw [Int.natAbs_neg]; exact fdiv_abs _ (hS.ld s h1).1 (h d))
    exact z.mono (by omega)
theorem step_len {S : List (List Int)} {xs : List Int} {d : Nat} (h : d < xs.length) : (stepR S xs d).length = xs.length := by
  unfold stepR
  cases e : bel S (d + 1) with
  | none => rfl
  | some s =>
    obtain ⟨h1, h2⟩ := bel_mem e
    simp only [addS_len]
    omega
theorem restGo_Bd {w : Nat} {S : List (List Int)} (hS : Fine w S) : ∀ (n m : Nat) (xs : List Int), Bd m xs → Bd (m + (w + 2) * n) (restGo S xs n)
  | 0, m, xs, h => h
  | n + 1, m, xs, h => by
    have z := restGo_Bd hS n (m + (w + 2)) _ (step_Bd hS (d := n) h)
    exact z.mono (by rw [Nat.mul_succ]; omega)
theorem restGo_len {S : List (List Int)} : ∀ (n : Nat) (xs : List Int), n ≤ xs.length → (restGo S xs n).length = xs.length
  | 0, xs, h => rfl
  | n + 1, xs, h => by
    have e := step_len (S := S) (xs := xs) (d := n) h
    have z := restGo_len (S := S) n (stepR S xs n) (by omega)
    exact z.trans e
theorem rest_ev (b c : Bool) {w : Nat} {S : List (List Int)} (hS : Fine w S) (hw : w ≤ 5000) (xs : List Int) {m : Nat} (hm : Bd m xs) (hm2 : m ≤ 1000) (hl : xs.length ≤ 100) : f_stair_rest [sq b (S.map (sqI b)), sqI c xs] = .ok (T (rest S xs)) := by
  refine run_eq rfl ?_
  have b1 : wRange [.int ((xs.length : Int) - 1), .int (-1), .int (-1)] = .ok (rangeL ((xs.length : Int) - 1) xs.length (-1)) := by
    rw [wRange_3 (by simp [b62]; omega) rfl]
    congr 2
    omega
  simp [g_stair_rest, b1]
  refine wp_forR (fun i δ => ∃ ys x3 x4 x5 x6 x7 x8, δ = [some (sq b (S.map (sqI b))), some (sqI c xs), some (L ys), x3, x4, x5, x6, x7, x8] ∧ ys.length = xs.length ∧ Bd (m + (w + 2) * i) ys ∧ restGo S ys (xs.length - i) = restGo S xs xs.length) ⟨xs, none, none, none, none, none, none, rfl, rfl, hm, rfl⟩ ?_ ?_
  · rintro i δ hi ⟨ys, x3, x4, x5, x6, x7, x8, rfl, h1, h2, h3⟩
    obtain ⟨d, hd⟩ : ∃ d, xs.length - i = d + 1 := ⟨xs.length - i - 1, by omega⟩
    have ei : (xs.length : Int) - 1 + (i : Int) * -1 = (d : Nat) := by omega
    have ed : xs.length - (i + 1) = d := by omega
    rw [ei, ed]
    rw [hd] at h3
    refine ⟨_, rfl, ?_⟩
    have m1 : f_stair_below [sq b (S.map (sqI b)), .int ((d : Int) + 1)] = .ok (opt b (bel S (d + 1))) := below_ev b S (d + 1)
    have zl := step_len (S := S) (xs := ys) (d := d) (by omega)
    have zb := step_Bd hS (d := d) h2
    have hwi : (w + 2) * i ≤ 5002 * 100 := Nat.mul_le_mul (by omega) (by omega)
    have hws : (w + 2) * (i + 1) = (w + 2) * i + (w + 2) := Nat.mul_succ _ _
    have z3 : restGo S (stepR S ys d) d = restGo S xs xs.length := h3
    simp [m1]
    cases e : bel S (d + 1) with
    | none =>
      have es : stepR S ys d = ys := by unfold stepR; rw [e]
      rw [es] at zl zb z3
      simp [opt]
      exact ⟨ys, rfl, h1, h2.mono (by omega), z3⟩
    | some s =>
      obtain ⟨g1, g2⟩ := bel_mem e
      have g3 := hS.ne s g1
      have g4 := hS.ld s g1
      have g5 := hS.bd s g1
      have g6 := hS.len s g1
      have m2 : oIx (L ys) (.int d) = .ok (.int (cf ys d)) := oIx_L rfl (by omega)
      have m3 := ld_sqI b g3
      have m4 : ld s ≠ 0 := by omega
      have m5 : (ld s).natAbs < 1073741824 := by omega
      have es : stepR S ys d = addS ys s (-(cf ys d).fdiv (ld s)) (d + 1 - s.length) := by unfold stepR; rw [e]
      rw [es] at zl zb z3
      have m2d : oDiv (.int (cf ys d)) (.int (ld s)) = .ok (.int ((cf ys d).fdiv (ld s))) := oDiv_ m4 m5
      have gq := fdiv_abs (cf ys d) g4.1 (h2 d)
      generalize (cf ys d).fdiv (ld s) = q at *
      have ep : (d : Int) + 1 - (s.length : Int) = ((d + 1 - s.length : Nat) : Int) := by omega
      have ew : wEnum (sqI b s) = .ok ((List.range s.length).zipWith (fun (i : Nat) x => PyData.tuple [.int i, x]) (s.map PyData.int)) := by
        unfold wEnum sqI
        simp
      have g7 : d + 1 - s.length + s.length = d + 1 := by omega
      generalize d + 1 - s.length = p at *
      simp [opt, m2, m3, m2d, ep, ew, -oDiv_eq]
      refine wp_seq (wp_for (fun j δ => ∃ x7 x8, δ = [some (sq b (S.map (sqI b))), some (sqI c xs), some (L (tab xs.length fun k => if k < p + j then cf ys k + -q * up p (cf s) k else cf ys k)), some (.int d), some (sqI b s), some (.int q), some (.int p), x7, x8]) ⟨x7, x8, ?_⟩ ?_ ?_)
      · have : ys = tab xs.length fun k => if k < p + 0 then cf ys k + -q * up p (cf s) k else cf ys k := by
          rw [← h1]
          refine (list_tab ys).trans (tab_congr fun k hk => ?_)
          split
          · have : up p (cf s) k = 0 := by
              unfold up
              rw [if_pos (by omega)]
            simp [this]
          · rfl
        rw [← this]
      · rintro j dd δ hj ⟨x7, x8, rfl⟩
        rw [List.getElem?_zipWith, List.getElem?_map] at hj
        by_cases hjl : j < s.length
        case neg =>
          rw [List.getElem?_eq_none (l := s) (by omega)] at hj
          simp at hj
        rw [get_cf hjl, List.getElem?_range hjl] at hj
        cases hj
        refine ⟨_, rfl, ?_⟩
        have m6 := oIx_tab (m := xs.length) (f := fun k => if k < p + j then cf ys k + -q * up p (cf s) k else cf ys k) (i := (p : Int) + j) (k := p + j) (by omega) (by omega)
        have m7 : oMul (.int q) (.int (cf s j)) = .ok (.int (q * cf s j)) := oMul_w gq (g5 j) (by omega)
        have m8 : (p : Int) + j < xs.length := by omega
        have m9 : (0 : Int) ≤ p + j := by omega
        have m10 : ((p : Int) + j).toNat = p + j := by omega
        simp at m6
        simp [putAll, m6, m7, m8, m9, m10, set_tab]
        refine congrArg _ (tab_congr fun k hk => ?_)
        by_cases h1 : k = p + j
        · subst h1
          have h9 : ¬ (p + j < p) := by omega
          have h8 : (p + j < p + (j + 1)) := by omega
          simp [up, h9, h8]
          rw [Int.neg_mul]
          omega
        · have : (k < p + (j + 1)) = (k < p + j) := by simp; omega
          simp [h1, this]
      · rintro δ ⟨x7, x8, rfl⟩
        have ez : tab xs.length (fun k => if k < p + s.length then cf ys k + -q * up p (cf s) k else cf ys k) = addS ys s (-q) p := by
          unfold addS
          have : max ys.length (s.length + p) = xs.length := by omega
          rw [this]
          refine tab_congr fun k hk => ?_
          split
          · rfl
          · have : up p (cf s) k = 0 := by
              unfold up
              split
              · rfl
              · exact cf_of (by omega)
            simp [this]
        simp [ez]
        exact ⟨addS ys s (-q) p, rfl, by omega, zb.mono (by omega), z3⟩
  · rintro δ ⟨ys, x3, x4, x5, x6, x7, x8, rfl, h1, h2, h3⟩
    rw [Nat.sub_self] at h3
    have h3 : ys = restGo S xs xs.length := h3
    have e1 := cut_eq ys (by omega)
    simp [e1]
    unfold rest
    rw [h3]
end K83
end

section
set_option Elab.async false
set_option linter.all false
set_option autoImplicit false
set_option maxRecDepth 10000
set_option maxHeartbeats 1000000
namespace K83
open PySem Dt

theorem comp_fit {g : Gx} {c : Tx} {e : Fx} {δ : Ev} (n : Nat) : ∀ (S : List (List Int)), (∀ s ∈ S, ∃ δ1, g (L s) δ = some δ1 ∧ c δ1 = .ok (decide (s.length ≤ n)) ∧ e δ1 = .ok (L s)) → compGo g c e δ (S.map fun s => L s) = .ok ((S.filter fun s => decide (s.length ≤ n)).map fun s => L s)
  | [], _ => rfl
  | s :: S, h => by
    obtain ⟨δ1, h1, h2, h3⟩ := h s (by simp)
    have ih := comp_fit n S fun x hx => h x (by simp [hx])
    rw [List.map_cons]
    unfold compGo
    simp only [h1, h2, h3]
    by_cases hs : s.length ≤ n
    · simp [hs, ih]
    · simp [hs, ih]
theorem fit_none {S : List (List Int)} {n : Nat} (h : bel S n = none) : (S.filter fun s => decide (s.length ≤ n)) = [] := List.getLast?_eq_none_iff.mp h
theorem fit_ne {S : List (List Int)} {n : Nat} {s : List Int} (h : bel S n = some s) : (S.filter fun s => decide (s.length ≤ n)) ≠ [] := fun h0 => by
  unfold bel at h
  rw [h0] at h
  cases h
theorem fit_some {S : List (List Int)} {n : Nat} {s : List Int} (h : bel S n = some s) : oIx (.list ((S.filter fun s => decide (s.length ≤ n)).map fun s => L s)) (.int (-1)) = .ok (L s) := by
  have e : ((S.filter fun s => decide (s.length ≤ n)).map fun s => L s).getLast? = some (L s) := by
    rw [List.getLast?_map]
    unfold bel at h
    rw [h]
    rfl
  have z := getI_m1 e
  simp only [oIx, z]
theorem ld_L {xs : List Int} (h : xs ≠ []) : oIx (L xs) (.int (-1)) = .ok (.int (ld xs)) := ld_sqI false h
theorem left_ev {w : Nat} {S : List (List Int)} (hS : Fine w S) (hw : w ≤ 5000) (hSl : S.length ≤ 1000) (xs : List Int) {m : Nat} (hm : Bd m xs) (hm2 : m ≤ 1000) (hl : xs.length ≤ 100) :
    f_l_left [.list (S.map fun s => L s), L xs] = .ok (T (cutZ (restGo S (cutZ xs) (cutZ xs).length))) := by
  refine run_eq rfl ?_
  have s1 := short_eq xs (by omega)
  have hcl := cutZ_len xs
  have hcb : Bd m (cutZ xs) := fun k => by rw [cf_cutZ]; exact hm k
  generalize cutZ xs = zs at *
  have b1 := wRange_1 (n := zs.length) (by omega)
  simp [g_l_left, s1, b1]
  refine wp_forR (fun i δ => ∃ ys x3 x4 x5 x6 x7, δ = [some (.list (S.map fun s => L s)), some (L xs), some (L ys), x3, x4, x5, x6, x7] ∧ ys.length = zs.length ∧ Bd (m + (w + 2) * i) ys ∧ restGo S ys (zs.length - i) = restGo S zs zs.length) ⟨zs, none, none, none, none, none, rfl, rfl, hcb, rfl⟩ ?_ ?_
  · rintro i δ hi ⟨ys, x3, x4, x5, x6, x7, rfl, h1, h2, h3⟩
    obtain ⟨d, hd⟩ : ∃ d, zs.length - i = d + 1 := ⟨zs.length - i - 1, by omega⟩
    have ei : (0 : Int) + (i : Int) * 1 = (i : Nat) := by omega
    have ed : zs.length - (i + 1) = d := by omega
    rw [ei, ed]
    rw [hd] at h3
    refine ⟨_, rfl, ?_⟩
    have zl := step_len (S := S) (xs := ys) (d := d) (by omega)
    have zb := step_Bd hS (d := d) h2
    have hwi : (w + 2) * i ≤ 5002 * 100 := Nat.mul_le_mul (by omega) (by omega)
    have hws : (w + 2) * (i + 1) = (w + 2) * i + (w + 2) := Nat.mul_succ _ _
    have z3 : restGo S (stepR S ys d) d = restGo S zs zs.length := h3
    have ep : (ys.length : Int) - 1 - (i : Int) = (d : Nat) := by omega
    have hS2 : S.length ≤ 16777216 := by omega
    have ec := comp_fit (g := gN 7) (c := tB (x2 oLe (xN bLen (aCons (xName 7) aNil)) (x2 oAdd (xName 4) (xC (.int 1))))) (e := xName 7) (δ := [some (.list (S.map fun s => L s)), some (L xs), some (L ys), some (.int i), some (.int d), x5, x6, none]) (d + 1) S fun s _ => ⟨_, rfl, by simp; omega, by simp⟩
    have hn : bel S (d + 1) = none → (S.filter fun s => decide (s.length ≤ d + 1)) = [] := fit_none
    have hsm : ∀ s, bel S (d + 1) = some s → oIx (.list ((S.filter fun s => decide (s.length ≤ d + 1)).map fun s => L s)) (.int (-1)) = .ok (L s) ∧ (S.filter fun s => decide (s.length ≤ d + 1)) ≠ [] := fun s h => ⟨fit_some h, fit_ne h⟩
    generalize hfs : (S.filter fun s => decide (s.length ≤ d + 1)) = fs at *
    simp [ep, hS2, ec]
    cases e : bel S (d + 1) with
    | none =>
      have es : stepR S ys d = ys := by unfold stepR; rw [e]
      rw [es] at zl zb z3
      have e2 := hn e
      simp [e2]
      exact ⟨ys, rfl, h1, h2.mono (by omega), z3⟩
    | some s =>
      obtain ⟨g1, g2⟩ := bel_mem e
      have g3 := hS.ne s g1
      have g4 := hS.ld s g1
      have g5 := hS.bd s g1
      have g6 := hS.len s g1
      obtain ⟨e2, e4⟩ := hsm s e
      have e3 : 0 < fs.length := List.length_pos_iff.mpr e4
      have m2 : oIx (L ys) (.int d) = .ok (.int (cf ys d)) := oIx_L rfl (by omega)
      have m3 := ld_L g3
      have m4 : ld s ≠ 0 := by omega
      have m5 : (ld s).natAbs < 1073741824 := by omega
      have es : stepR S ys d = addS ys s (-(cf ys d).fdiv (ld s)) (d + 1 - s.length) := by unfold stepR; rw [e]
      rw [es] at zl zb z3
      have m2d : oDiv (.int (cf ys d)) (.int (ld s)) = .ok (.int ((cf ys d).fdiv (ld s))) := oDiv_ m4 m5
      have gq := fdiv_abs (cf ys d) g4.1 (h2 d)
      generalize (cf ys d).fdiv (ld s) = q at *
      have ep : (d : Int) + 1 - (s.length : Int) = ((d + 1 - s.length : Nat) : Int) := by omega
      have mm := sum_eq ys s (-q) (d + 1 - s.length) (fun k => oMul_w (by rw [Int.natAbs_neg]; exact gq) (g5 k) (by omega)) (by omega) (by omega)
      simp [e3, e4, e2, m2, m3, m2d, ep, mm, -oDiv_eq]
      refine ⟨_, rfl, by omega, zb.mono (by omega), z3⟩
  · rintro δ ⟨ys, x3, x4, x5, x6, x7, rfl, h1, h2, h3⟩
    rw [Nat.sub_self] at h3
    have h3 : ys = restGo S zs zs.length := h3
    have e1 := short_eq ys (by omega)
    simp [e1]
    rw [h3]
/-! ### tidying up -/
def tidy (S : List (List Int)) : List (List Int) := S.foldl (fun T s => T ++ [restGo T s (s.length - 1)]) []
theorem tidy_app (S : List (List Int)) (s : List Int) : tidy (S ++ [s]) = tidy S ++ [restGo (tidy S) s (s.length - 1)] := by
  unfold tidy
  rw [List.foldl_append]
  rfl
theorem tidy_len (S : List (List Int)) : ∀ R : List (List Int), (S.foldl (fun T s => T ++ [restGo T s (s.length - 1)]) R).length = R.length + S.length := by
  induction S with
  | nil => intro R; rfl
  | cons s S ih => intro R; rw [List.foldl_cons, ih]; simp; omega
theorem tidy_ev {w : Nat} (hw : w ≤ 5000) (S : List (List Int)) (hSl : S.length ≤ 1000) {m : Nat} (hm : ∀ s ∈ S, Bd m s) (hm2 : m ≤ 1000) (hl : ∀ s ∈ S, s.length ≤ 100) (hF : ∀ i, i < S.length → Fine w (tidy (S.take i))) :
    f_l_tidy [.list (S.map fun s => L s)] = .ok (.list ((tidy S).map fun s => L s)) := by
  refine run_eq rfl ?_
  simp [g_l_tidy]
  refine wp_for (fun i δ => ∃ x2 x3 x4 x5 x6 x7 x8, δ = [some (.list (S.map fun s => L s)), some (.list ((tidy (S.take i)).map fun s => L s)), x2, x3, x4, x5, x6, x7, x8]) ⟨none, none, none, none, none, none, none, rfl⟩ ?_ ?_
  · rintro i d δ hi ⟨x2, x3, x4, x5, x6, x7, x8, rfl⟩
    rw [List.getElem?_map] at hi
    cases e2 : S[i]? with
    | none => rw [e2] at hi; cases hi
    | some s =>
      rw [e2] at hi
      cases hi
      refine ⟨_, rfl, ?_⟩
      obtain ⟨hi, h2⟩ := List.getElem?_eq_some_iff.mp e2
      have hsS : s ∈ S := h2 ▸ List.getElem_mem hi
      have et : S.take (i + 1) = S.take i ++ [s] := by rw [List.take_succ, e2]; rfl
      have hS := hF i hi
      have hsl := hl s hsS
      have hcb := hm s hsS
      have hTl : (tidy (S.take i)).length ≤ 1000 := by
        have := tidy_len (S.take i) []
        unfold tidy
        rw [this]
        simp
        omega
      rw [et, tidy_app]
      generalize tidy (S.take i) = R at *
      have b1 : wRange [.int 1, .int s.length] = .ok (rangeL 1 (s.length - 1) 1) := by
        rw [wRange_2 rfl (b62_nat (by omega))]
        congr 2
        omega
      simp [b1]
      refine wp_forR (fun j δ => ∃ ys x4 x5 x6 x7 x8, δ = [some (.list (S.map fun s => L s)), some (.list (R.map fun s => L s)), some (L s), some (L ys), x4, x5, x6, x7, x8] ∧ ys.length = s.length ∧ Bd (m + (w + 2) * j) ys ∧ restGo R ys (s.length - 1 - j) = restGo R s (s.length - 1)) ⟨s, x4, x5, x6, x7, x8, rfl, rfl, hcb, rfl⟩ ?_ ?_
      · rintro j δ hj ⟨ys, x4, x5, x6, x7, x8, rfl, h1, h2, h3⟩
        obtain ⟨d, hd⟩ : ∃ d, s.length - 1 - j = d + 1 := ⟨s.length - 1 - j - 1, by omega⟩
        have ed : s.length - 1 - (j + 1) = d := by omega
        rw [ed]
        rw [hd] at h3
        refine ⟨_, rfl, ?_⟩
        have zl := step_len (S := R) (xs := ys) (d := d) (by omega)
        have zb := step_Bd hS (d := d) h2
        have hwi : (w + 2) * j ≤ 5002 * 100 := Nat.mul_le_mul (by omega) (by omega)
        have hws : (w + 2) * (j + 1) = (w + 2) * j + (w + 2) := Nat.mul_succ _ _
        have z3 : restGo R (stepR R ys d) d = restGo R s (s.length - 1) := h3
        have ep : (s.length : Int) - 1 - (1 + (j : Int)) = (d : Nat) := by omega
        have hS2 : R.length ≤ 16777216 := by omega
        have ec := comp_fit (g := gN 8) (c := tB (Dt.x2 oLe (xN bLen (aCons (xName 8) aNil)) (Dt.x2 oAdd (xName 5) (xC (.int 1))))) (e := xName 8) (δ := [some (.list (S.map fun s => L s)), some (.list (R.map fun s => L s)), some (L s), some (L ys), some (.int (1 + (j : Int))), some (.int d), x6, x7, none]) (d + 1) R fun s _ => ⟨_, rfl, by simp; omega, by simp⟩
        have hn : bel R (d + 1) = none → (R.filter fun s => decide (s.length ≤ d + 1)) = [] := fit_none
        have hsm : ∀ s, bel R (d + 1) = some s → oIx (.list ((R.filter fun s => decide (s.length ≤ d + 1)).map fun s => L s)) (.int (-1)) = .ok (L s) ∧ (R.filter fun s => decide (s.length ≤ d + 1)) ≠ [] := fun s h => ⟨fit_some h, fit_ne h⟩
        generalize hfs : (R.filter fun s => decide (s.length ≤ d + 1)) = fs at *
        simp [ep, hS2, ec]
        cases e : bel R (d + 1) with
        | none =>
          have es : stepR R ys d = ys := by unfold stepR; rw [e]
          rw [es] at zl zb z3
          have e2 := hn e
          simp [e2]
          exact ⟨ys, rfl, h1, h2.mono (by omega), z3⟩
        | some t =>
          obtain ⟨g1, g2⟩ := bel_mem e
          have g3 := hS.ne t g1
          have g4 := hS.ld t g1
          have g5 := hS.bd t g1
          have g6 := hS.len t g1
          obtain ⟨e2, e4⟩ := hsm t e
          have e3 : 0 < fs.length := List.length_pos_iff.mpr e4
          have m2 : oIx (L ys) (.int d) = .ok (.int (cf ys d)) := oIx_L rfl (by omega)
          have m3 := ld_L g3
          have m4 : ld t ≠ 0 := by omega
          have m5 : (ld t).natAbs < 1073741824 := by omega
          have es : stepR R ys d = addS ys t (-(cf ys d).fdiv (ld t)) (d + 1 - t.length) := by unfold stepR; rw [e]
          rw [es] at zl zb z3
          have m2d : oDiv (.int (cf ys d)) (.int (ld t)) = .ok (.int ((cf ys d).fdiv (ld t))) := oDiv_ m4 m5
          have gq := fdiv_abs (cf ys d) g4.1 (h2 d)
          generalize (cf ys d).fdiv (ld t) = q at *
          have ep : (d : Int) + 1 - (t.length : Int) = ((d + 1 - t.length : Nat) : Int) := by omega
          have mm := sum_eq ys t (-q) (d + 1 - t.length) (fun k => oMul_w (by rw [Int.natAbs_neg]; exact gq) (g5 k) (by omega)) (by omega) (by omega)
          simp [e3, e4, e2, m2, m3, m2d, ep, mm, -oDiv_eq]
          refine ⟨_, rfl, by omega, zb.mono (by omega), z3⟩
      · rintro δ ⟨ys, x4, x5, x6, x7, x8, rfl, h1, h2, h3⟩
        rw [Nat.sub_self] at h3
        have h3 : ys = restGo R s (s.length - 1) := h3
        have hR : R.length < SL := by show _ < 16777216; omega
        simp [hR, h3]
  · rintro δ ⟨x2, x3, x4, x5, x6, x7, x8, rfl⟩
    simp
end K83
end

section
set_option Elab.async false
set_option linter.all false
set_option autoImplicit false
set_option maxRecDepth 10000
set_option maxHeartbeats 1000000
namespace K83
open PySem Dt

/-! ### products -/
def prodN (a b : List Int) : Nat → List Int
  | 0 => []
  | n + 1 => addS (prodN a b n) a (cf b n) n
def prod (a b : List Int) : List Int := prodN a b b.length
theorem prodN_len (a b : List Int) : ∀ n, (prodN a b n).length ≤ a.length + n
  | 0 => Nat.zero_le _
  | n + 1 => by
    have := prodN_len a b n
    unfold prodN
    rw [addS_len]
    omega
theorem prod_ev {m n : Nat} (a b : List Int) (ha : Bd m a) (hb : Bd n b) (hmn : m + n ≤ 900000) (hal : a.length ≤ 1000) (hbl : b.length ≤ 1000) : f_l_product [L a, L b] = .ok (L (prod a b)) := by
  refine run_eq rfl ?_
  have b1 := wRange_1 (n := b.length) (by omega)
  simp [g_l_product, b1]
  refine wp_forR (fun i δ => ∃ x, δ = [some (L a), some (L b), some (L (prodN a b i)), x]) ⟨none, rfl⟩ ?_ ?_
  · rintro i δ hi ⟨x, rfl⟩
    have e0 : (0 : Int) + (i : Int) * 1 = i := by omega
    rw [e0]
    refine ⟨_, rfl, ?_⟩
    have m1 : oIx (L b) (.int i) = .ok (.int (cf b i)) := oIx_L rfl hi
    have hl := prodN_len a b i
    have m2 := sum_eq (prodN a b i) a (cf b i) i (fun k => oMul_w (hb i) (ha k) (by omega)) (by omega) (by omega)
    simp [m1, m2]
    rfl
  · rintro δ ⟨x, rfl⟩
    have e3 : (∀ (a_1 : Int), a_1 ∈ prodN a b b.length → scal (.int a_1) = true) = True := by
      simp [scal]
    simp [e3]
    rfl
/-! ### small enough -/
def within (xs : List Int) : Bool := decide (xs.length ≤ 20) && ((xs.filter fun x => decide (1000000 < x.natAbs)).length == 0)
theorem within_ev (c : Bool) (xs : List Int) (hl : xs.length ≤ 1000000) : f_l_within [sqI c xs] = .ok (.bool (within xs)) := by
  refine run_eq rfl ?_
  have hl2 : xs.length ≤ 16777216 := by omega
  have e6 : oPow (.int 10) (.int 6) = .ok (.int 1000000) := rfl
  have ew : wSeq (sqI c xs) = .ok (xs.map PyData.int) := by cases c <;> rfl
  have ec : compGo (gN 1) (tB (x2 oGt (xN bAbs (aCons (xName 1) aNil)) (x2 oPow (xC (.int 10)) (xC (.int 6))))) (xName 1) [some (sqI c xs), none] (xs.map PyData.int) = .ok ((xs.filter fun x => decide (1000000 < x.natAbs)).map PyData.int) := by
    rw [compGo_filter (fun d => match d with | .int x => decide (1000000 < x.natAbs) | _ => false) (fun d => d) _ (fun d hd => by
      obtain ⟨x, _, rfl⟩ := List.mem_map.mp hd
      refine ⟨_, rfl, ?_, fun _ => by simp⟩
      simp [e6]
      split <;> omega)]
    rw [List.filter_map, List.map_map]
    rfl
  generalize hfs : (xs.filter fun x => decide (1000000 < x.natAbs)) = fs at ec
  have hw : within xs = (decide (xs.length ≤ 20) && (fs.length == 0)) := by
    unfold within
    rw [hfs]
  simp [g_l_within, ew, hl2, ec, hw]
  by_cases h : xs.length ≤ 20
  · have h2 : (xs.length : Int) ≤ 20 := by omega
    simp [h, h2]
    cases fs with
    | nil => simp
    | cons x r =>
      simp
      omega
  · have h2 : ¬ (xs.length : Int) ≤ 20 := by omega
    simp [h, h2]
theorem within_len {xs : List Int} (h : within xs = true) : xs.length ≤ 20 := by
  simp [within] at h
  exact h.1
theorem within_Bd {xs : List Int} (h : within xs = true) : Bd 20 xs := by
  simp [within] at h
  refine Bd.of_mem fun x hx => ?_
  have := h.2 x hx
  omega
/-! ### the greatest common divisor -/
theorem gcd_ev (a b : Int) : f_l_gcd [.int a, .int b] = .ok (.int (Int.gcd a b)) := by
  refine run_eq rfl ?_
  have e1 : ∀ a : Int, (if a < 0 then -a else a) = (a.natAbs : Int) := fun a => by split <;> omega
  simp [g_l_gcd, e1]
  refine wp_while (fun δ => ∃ x y : Nat, δ = [some (.int a), some (.int b), some (.int x), some (.int y)] ∧ Nat.gcd x y = Int.gcd a b) (fun δ => match look δ 3 with | some (.int i) => i.natAbs | _ => 0) ⟨_, _, rfl, rfl⟩ (by simp) ?_
  rintro δ ⟨x, y, rfl, hg⟩
  cases y with
  | zero =>
    refine ⟨false, by simp, ?_⟩
    simp at hg
    simp [hg]
  | succ y =>
    have h0 : ¬ (y : Int) + 1 = 0 := by omega
    refine ⟨true, by simp [h0], ?_⟩
    have ef : (x : Int).fmod ((y : Int) + 1) = ((x % (y + 1) : Nat) : Int) := by
      rw [Int.fmod_eq_emod_of_nonneg _ (by omega)]
      simp
    simp [h0, ef]
    refine ⟨?_, ?_⟩
    · refine ⟨y + 1, x % (y + 1), ?_, ?_⟩
      · simp
      · rw [← hg, Nat.gcd_comm x (y + 1), Nat.gcd_rec (y + 1) x, Nat.gcd_comm]
    · have := Nat.mod_lt x (show 0 < y + 1 by omega)
      have e9 : ((x : Int) % ((y : Int) + 1)) = ((x % (y + 1) : Nat) : Int) := by simp
      rw [e9]
      omega
/-! ### the factor -/
theorem factor_ev (a w : Int) : ∃ f : Int, f_l_factor [.int a, .int w] = .ok (.int f) ∧ ((f = 37 ∧ ∀ p ∈ [(2 : Int), 3, 5, 7, 11, 13, 17, 19, 23, 29, 31], Int.gcd p a ≠ 1) ∨ ((f = w ∨ f ∈ [(2 : Int), 3, 5, 7, 11, 13, 17, 19, 23, 29, 31]) ∧ Int.gcd f a = 1)) := by
  suffices h : OKs (f_l_factor [.int a, .int w]) (fun d => ∃ f : Int, d = .int f ∧ ((f = 37 ∧ ∀ p ∈ [(2 : Int), 3, 5, 7, 11, 13, 17, 19, 23, 29, 31], Int.gcd p a ≠ 1) ∨ ((f = w ∨ f ∈ [(2 : Int), 3, 5, 7, 11, 13, 17, 19, 23, 29, 31]) ∧ Int.gcd f a = 1))) by
    obtain ⟨d, e, f, rfl, h⟩ := h
    exact ⟨f, e, h⟩
  refine run_ok rfl ?_
  simp only [g_l_factor, sSeq_eq, sFor_eq, iSeq_eq, xN_eq, aCons_eq, aNil_eq, xName_eq, xC_eq, startE_eq, List.map_cons, List.map_nil, look_zero, look_succ, bind_ok', dList_eq, List.cons_append, List.nil_append]
  generalize hfs : [w, (2 : Int), 3, 5, 7, 11, 13, 17, 19, 23, 29, 31] = fs
  have e1 : [PyData.int w, .int 2, .int 3, .int 5, .int 7, .int 11, .int 13, .int 17, .int 19, .int 23, .int 29, .int 31] = fs.map PyData.int := by rw [← hfs]; rfl
  have e2 : (fs.map PyData.int).length ≤ 16777216 := by
    rw [← hfs]
    show (12 : Nat) ≤ 16777216
    decide
  rw [e1, if_pos e2]
  simp only [bind_ok', wSeq_list, out_ok']
  refine wp_for (fun i δ => ∃ x, δ = [some (.int a), some (.int w), x] ∧ ∀ j, j < i → Int.gcd (cf fs j) a ≠ 1) ⟨none, rfl, fun j h => absurd h (Nat.not_lt_zero j)⟩ ?_ ?_
  · rintro i d δ hi ⟨x, rfl, hp⟩
    rw [List.getElem?_map] at hi
    cases e3 : fs[i]? with
    | none => rw [e3] at hi; cases hi
    | some f =>
      rw [e3] at hi
      cases hi
      obtain ⟨h1, h2⟩ := List.getElem?_eq_some_iff.mp e3
      refine ⟨_, rfl, ?_⟩
      by_cases hg : (Int.gcd f a : Int) = 1
      · simp [gcd_ev, hg]
        have hm : f ∈ fs := h2 ▸ List.getElem_mem h1
        rw [← hfs] at hm
        refine .inr ⟨?_, by omega⟩
        simpa using hm
      · simp [gcd_ev, hg]
        intro j hj
        by_cases hji : j = i
        · subst hji
          rw [cf_lt h1, h2]
          omega
        · exact hp j (by omega)
  · rintro δ ⟨x, rfl, hp⟩
    simp
    have z := fun j hj => hp j (by rw [List.length_map, ← hfs]; exact hj)
    rw [← hfs] at z
    have z1 := z 1 (by simp)
    have z2 := z 2 (by simp)
    have z3 := z 3 (by simp)
    have z4 := z 4 (by simp)
    have z5 := z 5 (by simp)
    have z6 := z 6 (by simp)
    have z7 := z 7 (by simp)
    have z8 := z 8 (by simp)
    have z9 := z 9 (by simp)
    have z10 := z 10 (by simp)
    have z11 := z 11 (by simp)
    exact .inl ⟨z1, z2, z3, z4, z5, z6, z7, z8, z9, z10, z11⟩
end K83
end

section
set_option Elab.async false
set_option linter.all false
set_option autoImplicit false
set_option maxRecDepth 10000
set_option maxHeartbeats 1000000
/-! K83M: the staircase, as sets of polynomials. -/
namespace K83
open PySem Dt

abbrev P := Nat → Int
def Fin0 (u : P) : Prop := ∃ n, ∀ k, n ≤ k → u k = 0
/-- sum of g j times u moved up by j, j < n -/
def act (g : P) : Nat → P → P
  | 0, _ => fun _ => 0
  | n + 1, u => fun k => act g n u k + g n * up n u k
theorem up_zero (u : P) (k : Nat) : up 0 u k = u k := by simp [up]
theorem up_up (s t : Nat) (u : P) (k : Nat) : up s (up t u) k = up (s + t) u k := by
  unfold up
  by_cases h1 : k < s
  · rw [if_pos h1, if_pos (by omega)]
  · rw [if_neg h1]
    by_cases h2 : k - s < t
    · rw [if_pos h2, if_pos (by omega)]
    · rw [if_neg h2, if_neg (by omega)]
      congr 1
      omega
theorem up_add (s : Nat) (u v : P) (k : Nat) : up s (fun j => u j + v j) k = up s u k + up s v k := by
  unfold up
  split <;> simp
theorem up_smul (s : Nat) (c : Int) (u : P) (k : Nat) : up s (fun j => c * u j) k = c * up s u k := by
  unfold up
  split <;> simp
theorem act_up (g : P) (s : Nat) (u : P) : ∀ n k, act g n (up s u) k = up s (act g n u) k
  | 0, k => by simp [act, up]
  | n + 1, k => by
    show act g n (up s u) k + g n * up n (up s u) k = up s (fun j => act g n u j + g n * up n u j) k
    rw [up_add, up_smul, act_up g s u n k, up_up, up_up, Nat.add_comm]
theorem act_add (g : P) (u v : P) : ∀ n k, act g n (fun j => u j + v j) k = act g n u k + act g n v k
  | 0, k => by simp [act]
  | n + 1, k => by
    simp only [act]
    rw [act_add g u v n k, up_add]
    grind
theorem act_smul (g : P) (c : Int) (u : P) : ∀ n k, act g n (fun j => c * u j) k = c * act g n u k
  | 0, k => by simp [act]
  | n + 1, k => by
    simp only [act]
    rw [act_smul g c u n k, up_smul]
    grind
theorem act_gadd (g h : P) (u : P) : ∀ n k, act (fun j => g j + h j) n u k = act g n u k + act h n u k
  | 0, k => by simp [act]
  | n + 1, k => by
    simp only [act]
    rw [act_gadd g h u n k]
    grind
theorem act_gsmul (c : Int) (g : P) (u : P) : ∀ n k, act (fun j => c * g j) n u k = c * act g n u k
  | 0, k => by simp [act]
  | n + 1, k => by
    simp only [act]
    rw [act_gsmul c g u n k]
    grind
theorem act_congr {g h : P} (u : P) : ∀ n, (∀ j, j < n → g j = h j) → ∀ k, act g n u k = act h n u k
  | 0, _, k => rfl
  | n + 1, he, k => by
    simp only [act]
    rw [act_congr u n (fun j hj => he j (by omega)) k, he n (by omega)]
theorem act_ext {g : P} {u v : P} (h : ∀ k, u k = v k) (n k : Nat) : act g n u k = act g n v k := by
  rw [show u = v from funext h]
theorem act_more {g : P} {u : P} {n : Nat} (h : ∀ j, n ≤ j → g j = 0) : ∀ m k, act g (n + m) u k = act g n u k
  | 0, k => rfl
  | m + 1, k => by
    show act g (n + m) u k + g (n + m) * up (n + m) u k = _
    rw [act_more h m k, h (n + m) (by omega)]
    simp
/-- the first coefficient split off -/
theorem act_head (g : P) (u : P) : ∀ n k, act g (n + 1) u k = g 0 * u k + up 1 (act (fun j => g (j + 1)) n u) k
  | 0, k => by
    simp only [act]
    rw [up_zero]
    simp [up]
  | n + 1, k => by
    show act g (n + 1) u k + g (n + 1) * up (n + 1) u k = _
    rw [act_head g u n k]
    show _ = g 0 * u k + up 1 (fun k => act (fun j => g (j + 1)) n u k + g (n + 1) * up n u k) k
    rw [up_add, up_smul, up_up, Nat.add_comm 1 n]
    grind
theorem act_zero_at {g u : P} {d : Nat} (hu : ∀ k, d < k → u k = 0) : ∀ n k, (∀ j, j < n → d + j < k) → act g n u k = 0
  | 0, k, _ => rfl
  | n + 1, k, h => by
    simp only [act]
    rw [act_zero_at hu n k fun j hj => h j (by omega)]
    have z := h n (by omega)
    unfold up
    rw [if_neg (by omega), hu _ (by omega)]
    simp
/-- the top coefficient of a product -/
theorem act_top {g u : P} {d : Nat} (hu : ∀ k, d < k → u k = 0) (n : Nat) : act g (n + 1) u (d + n) = g n * u d := by
  simp only [act]
  rw [act_zero_at hu n (d + n) fun j hj => by omega]
  unfold up
  rw [if_neg (by omega)]
  have : d + n - n = d := by omega
  rw [this]
  omega

/-! ### the sets -/
theorem cg {A : P → Prop} {u v : P} (hu : A u) (h : ∀ k, u k = v k) : A v := funext h ▸ hu
structure Mod (A : P → Prop) : Prop where
  zero : A fun _ => 0
  add : ∀ u v, A u → A v → A fun k => u k + v k
  smul : ∀ (c : Int) u, A u → A fun k => c * u k
  up1 : ∀ u, A u → A (up 1 u)
theorem Mod.up {A : P → Prop} (h : Mod A) {u : P} (hu : A u) : ∀ s, A (K83.up s u)
  | 0 => by rw [show K83.up 0 u = u from funext (up_zero u)]; exact hu
  | s + 1 => by
    have := h.up1 _ (h.up hu s)
    rw [show K83.up 1 (K83.up s u) = K83.up (s + 1) u from funext fun k => by rw [up_up, Nat.add_comm]] at this
    exact this
theorem Mod.act {A : P → Prop} (h : Mod A) {u : P} (g : P) (hu : A u) : ∀ n, A (K83.act g n u)
  | 0 => h.zero
  | n + 1 => h.add _ _ (h.act g hu n) (h.smul _ _ (h.up hu n))
theorem Mod.sub {A : P → Prop} (h : Mod A) {u v : P} (hu : A u) (hv : A v) : A fun k => u k - v k := by
  have := h.add _ _ hu (h.smul (-1) _ hv)
  rw [show (fun k => u k - v k) = fun k => u k + -1 * v k from funext fun k => by omega]
  exact this
theorem fin_Mod : Mod Fin0 where
  zero := ⟨0, fun _ _ => rfl⟩
  add := fun u v ⟨n, hn⟩ ⟨m, hm⟩ => ⟨n + m, fun k hk => by simp only; rw [hn k (by omega), hm k (by omega)]; rfl⟩
  smul := fun c u ⟨n, hn⟩ => ⟨n, fun k hk => by simp only; rw [hn k hk, Int.mul_zero]⟩
  up1 := fun u ⟨n, hn⟩ => ⟨n + 1, fun k hk => by
    unfold up
    rw [if_neg (by omega), hn _ (by omega)]⟩
/-- a system of stairs and what it spans -/
structure Sys (S : List (List Int)) (M : P → Prop) : Prop where
  mod : Mod M
  fin : ∀ u, M u → Fin0 u
  mem : ∀ s ∈ S, M (cf s)
  ne : ∀ s ∈ S, s ≠ []
  ld : ∀ s ∈ S, 0 < ld s
  /-- the top number of what is in M -/
  gb : ∀ u d, M u → (∀ k, d < k → u k = 0) → u d ≠ 0 → ∃ s, bel S (d + 1) = some s ∧ K83.ld s ∣ u d
/-- one step, on coefficients -/
def stepC (S : List (List Int)) (f : P) (d : Nat) : P := match bel S (d + 1) with
  | none => f
  | some s => fun k => f k + -(f d).fdiv (ld s) * up (d + 1 - s.length) (cf s) k
def restC (S : List (List Int)) : P → Nat → P
  | f, 0 => f
  | f, d + 1 => restC S (stepC S f d) d
theorem cf_step (S : List (List Int)) (xs : List Int) (d : Nat) : cf (stepR S xs d) = stepC S (cf xs) d := by
  unfold stepR stepC
  cases bel S (d + 1) with
  | none => rfl
  | some s => exact funext fun k => cf_addS xs s _ _ k
theorem cf_restGo (S : List (List Int)) : ∀ (n : Nat) (xs : List Int), cf (restGo S xs n) = restC S (cf xs) n
  | 0, xs => rfl
  | n + 1, xs => by
    show cf (restGo S (stepR S xs n) n) = restC S (stepC S (cf xs) n) n
    rw [cf_restGo S n, cf_step]
theorem step_zero (S : List (List Int)) (f : P) (d : Nat) (h : f d = 0) : stepC S f d = f := by
  unfold stepC
  cases bel S (d + 1) with
  | none => rfl
  | some s =>
    refine funext fun k => ?_
    simp [h]
theorem restC_more (S : List (List Int)) {n : Nat} : ∀ (m : Nat) (f : P), (∀ k, n ≤ k → f k = 0) → restC S f (n + m) = restC S f n
  | 0, f, _ => rfl
  | m + 1, f, h => by
    show restC S (stepC S f (n + m)) (n + m) = _
    rw [step_zero S f _ (h _ (by omega))]
    exact restC_more S m f h
theorem restC_any (S : List (List Int)) {n m : Nat} (f : P) (hn : ∀ k, n ≤ k → f k = 0) (hm : ∀ k, m ≤ k → f k = 0) : restC S f n = restC S f m := by
  have a := restC_more S m f hn
  have b := restC_more S n f hm
  rw [Nat.add_comm] at b
  rw [← a, b]
section
variable {S : List (List Int)} {M : P → Prop}
theorem step_sub0 (hm : Mod M) (hS : ∀ s ∈ S, M (cf s)) (f : P) (d : Nat) : M fun k => f k - stepC S f d k := by
  unfold stepC
  cases e : bel S (d + 1) with
  | none =>
    rw [show (fun k => f k - f k) = fun _ => 0 from funext fun k => by omega]
    exact hm.zero
  | some s =>
    have z := hm.smul ((f d).fdiv (ld s)) _ (hm.up (hS s (bel_mem e).1) (d + 1 - s.length))
    refine cg z fun k => ?_
    simp only
    rw [Int.neg_mul]
    omega
theorem step_sub (h : Sys S M) (f : P) (d : Nat) : M fun k => f k - stepC S f d k := step_sub0 h.mod h.mem f d
/-- the rest differs from the line by what is in M -/
theorem rest_sub0 (hm : Mod M) (hS : ∀ s ∈ S, M (cf s)) : ∀ (n : Nat) (f : P), M fun k => f k - restC S f n k
  | 0, f => by
    show M fun k => f k - f k
    rw [show (fun k => f k - f k) = fun _ => 0 from funext fun k => by omega]
    exact hm.zero
  | n + 1, f => by
    have a := step_sub0 hm hS f n
    have b := rest_sub0 hm hS n (stepC S f n)
    have c := hm.add _ _ a b
    refine cg c fun k => ?_
    show f k - stepC S f n k + (stepC S f n k - restC S (stepC S f n) n k) = f k - restC S (stepC S f n) n k
    omega
theorem rest_sub (h : Sys S M) (n : Nat) (f : P) : M fun k => f k - restC S f n k := rest_sub0 h.mod h.mem n f
theorem step_at (hne : ∀ s ∈ S, s ≠ []) {f : P} {d : Nat} {s : List Int} (e : bel S (d + 1) = some s) : stepC S f d d = (f d).fmod (ld s) := by
  obtain ⟨h1, h2⟩ := bel_mem e
  have hl : 0 < s.length := List.length_pos_iff.mpr (hne s h1)
  unfold stepC
  rw [e]
  simp only
  have e1 : up (d + 1 - s.length) (cf s) d = ld s := by
    unfold up
    rw [if_neg (by omega)]
    unfold ld
    congr 1
    omega
  rw [e1]
  have := Int.fmod_add_mul_fdiv (f d) (ld s)
  rw [Int.neg_mul, Int.mul_comm]
  omega
theorem step_hi (S : List (List Int)) {f : P} {d k : Nat} (hk : d < k) : stepC S f d k = f k := by
  unfold stepC
  cases e : bel S (d + 1) with
  | none => rfl
  | some s =>
    obtain ⟨h1, h2⟩ := bel_mem e
    have e1 : up (d + 1 - s.length) (cf s) k = 0 := by
      unfold up
      split
      · rfl
      · exact cf_of (by omega)
    simp only
    rw [e1]
    omega
theorem restC_hi (S : List (List Int)) : ∀ (n : Nat) (f : P) (k : Nat), n ≤ k → restC S f n k = f k
  | 0, f, k, _ => rfl
  | n + 1, f, k, h => by
    show restC S (stepC S f n) n k = _
    rw [restC_hi S n _ k (by omega), step_hi S (by omega)]
theorem restC_mod (hne : ∀ s ∈ S, s ≠ []) {d : Nat} {s : List Int} (e : bel S (d + 1) = some s) : ∀ (n : Nat) (f : P), d < n → ∃ x : Int, restC S f n d = x.fmod (ld s)
  | 0, f, h => absurd h (Nat.not_lt_zero d)
  | n + 1, f, h => by
    show ∃ x : Int, restC S (stepC S f n) n d = _
    by_cases hd : d = n
    · subst hd
      rw [restC_hi S _ _ d (Nat.le_refl _), step_at hne e]
      exact ⟨_, rfl⟩
    · exact restC_mod hne e n _ (by omega)
/-- two lines that differ by what is in M have the same rest -/
theorem rest_eq (h : Sys S M) : ∀ (n : Nat) (f g : P), (∀ k, n ≤ k → f k = g k) → (M fun k => f k - g k) → ∀ k, restC S f n k = restC S g n k
  | 0, f, g, he, _, k => he k (Nat.zero_le k)
  | n + 1, f, g, he, hM, k => by
    show restC S (stepC S f n) n k = restC S (stepC S g n) n k
    have hM2 : M fun k => stepC S f n k - stepC S g n k := by
      have a := h.mod.sub (h.mod.sub hM (step_sub h f n)) (h.mod.smul (-1) _ (step_sub h g n))
      refine cg a fun k => ?_
      omega
    refine rest_eq h n _ _ (fun j hj => ?_) hM2 k
    by_cases hjn : n < j
    · rw [step_hi S hjn, step_hi S hjn]
      exact he j hjn
    · have : j = n := by omega
      subst this
      have hz : ∀ k, j < k → f k - g k = 0 := fun k hk => by rw [he k hk]; omega
      by_cases hd : f j - g j = 0
      · have hfg : f j = g j := by omega
        unfold stepC
        cases bel S (j + 1) with
        | none => exact hfg
        | some s => simp only; rw [hfg]
      · obtain ⟨s, e, q, hq⟩ := h.gb _ j hM hz hd
        rw [step_at h.ne e, step_at h.ne e]
        have : f j = g j + ld s * q := by omega
        rw [this, Int.add_mul_fmod_self_left]
theorem cf_rest (S : List (List Int)) (xs : List Int) : cf (rest S xs) = restC S (cf xs) xs.length := by
  unfold rest
  rw [show cf (cutZ (restGo S xs xs.length)) = cf (restGo S xs xs.length) from funext (cf_cutZ _), cf_restGo]
theorem rest_M (h : Sys S M) {xs ys : List Int} (hM : M fun k => cf xs k - cf ys k) : rest S xs = rest S ys := by
  have e : ∀ k, cf (rest S xs) k = cf (rest S ys) k := fun k => by
    rw [cf_rest, cf_rest, restC_any S (n := xs.length) (m := xs.length + ys.length) (cf xs) (fun k hk => cf_of hk) (fun k hk => cf_of (by omega)),
      restC_any S (n := ys.length) (m := xs.length + ys.length) (cf ys) (fun k hk => cf_of hk) (fun k hk => cf_of (by omega))]
    exact rest_eq h _ _ _ (fun k hk => by rw [cf_of (by omega), cf_of (by omega)]) hM k
  have z := cutZ_congr e
  rw [show cutZ (rest S xs) = rest S xs from cutZ_idem _, show cutZ (rest S ys) = rest S ys from cutZ_idem _] at z
  exact z
theorem rest_nil (S : List (List Int)) : rest S [] = [] := rfl
theorem rest_zero (h : Sys S M) {xs : List Int} : rest S xs = [] ↔ M (cf xs) := by
  constructor
  · intro e
    have a := rest_sub h xs.length (cf xs)
    rw [← cf_rest, e] at a
    refine cg a fun k => ?_
    simp [cf]
  · intro hM
    have a : rest S xs = rest S [] := rest_M h (by
      refine cg hM fun k => ?_
      simp [cf])
    rw [a]
    rfl
theorem rest_rest (h : Sys S M) (xs : List Int) : rest S (rest S xs) = rest S xs := by
  refine (rest_M h ?_).symm
  have a := rest_sub h xs.length (cf xs)
  rw [← cf_rest] at a
  exact a
/-- what the law's own rest tells -/
theorem left_rest (S : List (List Int)) (xs : List Int) : cutZ (restGo S (cutZ xs) (cutZ xs).length) = rest S xs := by
  refine cutZ_congr fun k => ?_
  rw [cf_restGo, cf_restGo, show cf (cutZ xs) = cf xs from funext (cf_cutZ xs)]
  rw [restC_any S (n := (cutZ xs).length) (m := xs.length) (cf xs) (fun k hk => by rw [← cf_cutZ]; exact cf_of hk) (fun k hk => cf_of hk)]
end
end K83
end

section
set_option Elab.async false
set_option linter.all false
set_option autoImplicit false
set_option maxRecDepth 10000
set_option maxHeartbeats 1000000
/-! K83N: heads and factors, latest first. -/
namespace K83
open PySem Dt

def J : List (Int × List Int) → P → Prop
  | [], u => Fin0 u
  | (f, h) :: r, u => ∃ (a b : P) (n : Nat), J r a ∧ (∀ j, n ≤ j → b j = 0) ∧ ∀ k, u k = f * a k + act b n (cf h) k
def topH : List (Int × List Int) → List Int
  | [] => [1]
  | (_, h) :: _ => h
def Good : List (Int × List Int) → Prop
  | [] => True
  | (f, h) :: r => Good r ∧ J r (cf h) ∧ ld h = 1 ∧ (topH r).length < h.length ∧ 0 < f ∧ Int.gcd f (cf h 0) = 1
theorem up1_act (b u : P) (n k : Nat) : act (up 1 b) (n + 1) u k = up 1 (act b n u) k := by
  rw [act_head]
  have e1 : up 1 b 0 = 0 := by simp [up]
  have e2 : (fun j => up 1 b (j + 1)) = b := funext fun j => by simp [up]
  rw [e1, e2]
  omega
theorem J_Mod : ∀ r, Mod (J r)
  | [] => fin_Mod
  | (f, h) :: r => by
    have ih := J_Mod r
    exact {
      zero := ⟨fun _ => 0, fun _ => 0, 0, ih.zero, fun _ _ => rfl, fun k => by simp [act]⟩
      add := fun u v ⟨a, b, n, h1, h2, h3⟩ ⟨a', b', n', h1', h2', h3'⟩ => ⟨fun k => a k + a' k, fun k => b k + b' k, n + n', ih.add _ _ h1 h1', fun j hj => by simp only; rw [h2 j (by omega), h2' j (by omega)]; rfl, fun k => by
        simp only
        rw [act_gadd, act_more h2, Nat.add_comm n n', act_more h2', h3, h3', Int.mul_add]
        omega⟩
      smul := fun c u ⟨a, b, n, h1, h2, h3⟩ => ⟨fun k => c * a k, fun k => c * b k, n, ih.smul c _ h1, fun j hj => by simp only; rw [h2 j hj, Int.mul_zero], fun k => by
        simp only
        rw [act_gsmul, h3]
        grind⟩
      up1 := fun u ⟨a, b, n, h1, h2, h3⟩ => ⟨up 1 a, up 1 b, n + 1, ih.up1 _ h1, fun j hj => by
        unfold up
        rw [if_neg (by omega), h2 _ (by omega)], fun k => by
        rw [up1_act, show u = fun k => f * a k + act b n (cf h) k from funext h3, up_add, up_smul]⟩ }
theorem J_fin : ∀ r u, J r u → Fin0 u
  | [], u, h => h
  | (f, h) :: r, u, ⟨a, b, n, h1, h2, h3⟩ => by
    have z := fin_Mod.add _ _ (fin_Mod.smul f _ (J_fin r a h1)) (fin_Mod.act b (u := cf h) ⟨h.length, fun k hk => cf_of hk⟩ n)
    exact cg z fun k => (h3 k).symm
theorem J_top (f : Int) (h : List Int) (r : List (Int × List Int)) : J ((f, h) :: r) (cf h) :=
  ⟨fun _ => 0, fun j => if j = 0 then 1 else 0, 1, (J_Mod r).zero, fun j hj => by simp only; rw [if_neg (by omega)], fun k => by
    simp [act, up_zero]⟩
theorem J_mul (f : Int) (h : List Int) {r : List (Int × List Int)} {u : P} (hu : J r u) : J ((f, h) :: r) fun k => f * u k :=
  ⟨u, fun _ => 0, 0, hu, fun _ _ => rfl, fun k => by simp [act]⟩
theorem cf_top {h : List Int} : ∀ k, h.length - 1 < k → cf h k = 0 := fun k hk => cf_of (by omega)
/-- what is shorter than the latest head is a multiple of its factor -/
theorem J_short {f : Int} {h : List Int} {r : List (Int × List Int)} (hh : J r (cf h)) (hl : ld h = 1) {u : P} (hu : ∀ k, h.length - 1 ≤ k → u k = 0) : ∀ (n : Nat) (a b : P), J r a → (∀ k, u k = f * a k + act b n (cf h) k) → ∃ a', J r a' ∧ ∀ k, u k = f * a' k
  | 0, a, b, ha, h3 => ⟨a, ha, fun k => by rw [h3]; simp [act]⟩
  | n + 1, a, b, ha, h3 => by
    have t := act_top (g := b) (u := cf h) (d := h.length - 1) cf_top n
    have z := h3 (h.length - 1 + n)
    have e : cf h (h.length - 1) = 1 := hl
    rw [t, hu _ (by omega), e, Int.mul_one] at z
    have ha' := (J_Mod r).add _ _ ha ((J_Mod r).smul (-a (h.length - 1 + n)) _ ((J_Mod r).up hh n))
    refine J_short hh hl hu n _ b ha' fun k => ?_
    rw [h3 k]
    simp only [act]
    have : b n = - (f * a (h.length - 1 + n)) := by omega
    rw [this]
    grind
/-- the lead below -/
def leadJ : List (Int × List Int) → Nat → Int
  | [], _ => 1
  | (f, h) :: r, d => if h.length ≤ d + 1 then 1 else f * leadJ r d
theorem J_gb : ∀ r, Good r → ∀ u d, J r u → (∀ k, d < k → u k = 0) → leadJ r d ∣ u d
  | [], _, u, d, _, _ => Int.one_dvd _
  | (f, h) :: r, ⟨g1, g2, g3, g4, g5, g6⟩, u, d, ⟨a, b, n, h1, h2, h3⟩, hd => by
    unfold leadJ
    by_cases hl : h.length ≤ d + 1
    · rw [if_pos hl]
      exact Int.one_dvd _
    · rw [if_neg hl]
      obtain ⟨a', ha, e⟩ := J_short g2 g3 (u := u) (fun k hk => hd k (by omega)) n a b h1 h3
      have z := J_gb r g1 a' d ha fun k hk => by
        have := hd k hk
        rw [e] at this
        rcases Int.mul_eq_zero.mp this with h | h
        · omega
        · exact h
      rw [e]
      exact Int.mul_dvd_mul_left f z
theorem J_sat : ∀ r, Good r → ∀ u, J r (up 1 u) → J r u
  | [], _, u, ⟨n, hn⟩ => ⟨n, fun k hk => by
    have := hn (k + 1) (by omega)
    simpa [up] using this⟩
  | (f, h) :: r, ⟨g1, g2, g3, g4, g5, g6⟩, u, ⟨a, b, n, h1, h2, h3⟩ => by
    have h4 : ∀ k, up 1 u k = f * a k + (b 0 * cf h k + up 1 (act (fun j => b (j + 1)) n (cf h)) k) := fun k => by
      rw [h3, ← act_more h2 1, act_head]
    have z := h4 0
    have e1 : ∀ v : P, up 1 v 0 = 0 := fun v => by simp [up]
    have e2 : ∀ (v : P) k, up 1 v (k + 1) = v k := fun v k => by simp [up]
    rw [e1, e1] at z
    have hd : f ∣ b 0 * cf h 0 := ⟨-a 0, by grind⟩
    have hd2 : f ∣ b 0 := by
      rw [← Int.natAbs_dvd_natAbs] at hd ⊢
      rw [Int.natAbs_mul] at hd
      exact Nat.Coprime.dvd_of_dvd_mul_right g6 hd
    obtain ⟨q, hq⟩ := hd2
    have ha := (J_Mod r).add _ _ h1 ((J_Mod r).smul q _ g2)
    have h0 : a 0 + q * cf h 0 = 0 := by
      have : f * (a 0 + q * cf h 0) = 0 := by rw [hq] at z; grind
      rcases Int.mul_eq_zero.mp this with h | h
      · omega
      · exact h
    have ha2 : J r (fun k => a (k + 1) + q * cf h (k + 1)) := J_sat r g1 _ (cg ha fun k => by
      cases k with
      | zero => rw [e1]; exact h0
      | succ k => rw [e2])
    refine ⟨_, fun j => b (j + 1), n, ha2, fun j hj => h2 _ (by omega), fun k => ?_⟩
    have y := h4 (k + 1)
    rw [e2, e2] at y
    rw [y, hq]
    grind
/-! ### times the common line -/
def M (l : List Int) (r : List (Int × List Int)) (u : P) : Prop := ∃ v, J r v ∧ ∀ k, u k = act (cf l) l.length v k
theorem M_Mod (l : List Int) (r : List (Int × List Int)) : Mod (M l r) where
  zero := ⟨fun _ => 0, (J_Mod r).zero, fun k => by
    have := act_smul (cf l) 0 (fun _ => 0) l.length k
    simpa using this.symm⟩
  add := fun u v ⟨a, h1, h2⟩ ⟨b, h3, h4⟩ => ⟨_, (J_Mod r).add _ _ h1 h3, fun k => by simp only; rw [act_add, h2, h4]⟩
  smul := fun c u ⟨a, h1, h2⟩ => ⟨_, (J_Mod r).smul c _ h1, fun k => by simp only; rw [act_smul, h2]⟩
  up1 := fun u ⟨a, h1, h2⟩ => ⟨_, (J_Mod r).up1 _ h1, fun k => by rw [act_up, show u = _ from funext h2]⟩
theorem M_fin (l : List Int) (r : List (Int × List Int)) (u : P) : M l r u → Fin0 u := fun ⟨v, h1, h2⟩ => cg (fin_Mod.act (cf l) (J_fin r v h1) l.length) fun k => (h2 k).symm
theorem M_sat {l : List Int} {r : List (Int × List Int)} (hr : Good r) (hl : cf l 0 ≠ 0) {u : P} (h : M l r (up 1 u)) : M l r u := by
  obtain ⟨v, h1, h2⟩ := h
  have e1 : ∀ v : P, up 1 v 0 = 0 := fun v => by simp [up]
  have e2 : ∀ (v : P) k, up 1 v (k + 1) = v k := fun v k => by simp [up]
  have hn : l.length ≠ 0 := fun h => hl (cf_of (by omega))
  obtain ⟨n, hn⟩ : ∃ n, l.length = n + 1 := ⟨l.length - 1, by omega⟩
  have z := h2 0
  rw [hn, act_head, e1, e1] at z
  have hv : v 0 = 0 := by
    rcases Int.mul_eq_zero.mp (show cf l 0 * v 0 = 0 by omega) with h | h
    · exact absurd h hl
    · exact h
  have hv2 : up 1 (fun k => v (k + 1)) = v := funext fun k => by
    cases k with
    | zero => rw [e1, hv]
    | succ k => rw [e2]
  refine ⟨fun k => v (k + 1), J_sat r hr _ (hv2.symm ▸ h1), fun k => ?_⟩
  have y := h2 (k + 1)
  rw [e2, ← hv2, act_up, e2] at y
  exact y
theorem top_of {v : P} : ∀ n, (∀ k, n ≤ k → v k = 0) → (∃ k, v k ≠ 0) → ∃ D, v D ≠ 0 ∧ ∀ k, D < k → v k = 0
  | 0, h, ⟨k, hk⟩ => absurd (h k (Nat.zero_le k)) hk
  | n + 1, h, he => by
    by_cases hn : v n = 0
    · exact top_of n (fun k hk => by
        by_cases hkn : k = n
        · rw [hkn]; exact hn
        · exact h k (by omega)) he
    · exact ⟨n, hn, fun k hk => h k hk⟩
theorem M_deg {l : List Int} (hln : l ≠ []) (hl : ld l ≠ 0) {u v : P} {d : Nat} (hv : Fin0 v) (h2 : ∀ k, u k = act (cf l) l.length v k) (hd : ∀ k, d < k → u k = 0) (h0 : u d ≠ 0) : ∃ D, d = D + (l.length - 1) ∧ (∀ k, D < k → v k = 0) ∧ u d = ld l * v D := by
  obtain ⟨n, hn⟩ := hv
  have hne : ∃ k, v k ≠ 0 := by
    refine Classical.byContradiction fun hc => h0 ?_
    have : v = fun _ => 0 := funext fun k => Classical.byContradiction fun hk => hc ⟨k, hk⟩
    rw [h2, this]
    have := act_smul (cf l) 0 (fun _ => 0) l.length d
    simpa using this
  obtain ⟨D, hD, hT⟩ := top_of n hn hne
  obtain ⟨m, hm⟩ : ∃ m, l.length = m + 1 := ⟨l.length - 1, by have := List.length_pos_iff.mpr hln; omega⟩
  have hld : cf l m = ld l := by
    unfold ld
    congr 1
    omega
  have t := act_top (g := cf l) hT m
  rw [← hm, ← h2, hld] at t
  have hne2 : u (D + m) ≠ 0 := by
    rw [t]
    exact Int.mul_ne_zero hl hD
  have ed : d = D + m := by
    by_cases h1 : d < D + m
    · exact absurd (hd _ h1) hne2
    · by_cases h2' : D + m < d
      · exact absurd ((h2 d).trans (act_zero_at hT _ _ fun j hj => by omega)) h0
      · omega
  exact ⟨D, by omega, hT, by rw [ed, t]⟩
theorem M_gb {l : List Int} {r : List (Int × List Int)} (hr : Good r) (hln : l ≠ []) (hl : ld l ≠ 0) {u : P} {d : Nat} (h : M l r u) (hd : ∀ k, d < k → u k = 0) (h0 : u d ≠ 0) : ∃ D, d = D + (l.length - 1) ∧ leadJ r D * ld l ∣ u d := by
  obtain ⟨v, h1, h2⟩ := h
  obtain ⟨D, e1, e2, e3⟩ := M_deg hln hl (J_fin r v h1) h2 hd h0
  refine ⟨D, e1, ?_⟩
  rw [e3, Int.mul_comm]
  exact Int.mul_dvd_mul_left _ (J_gb r hr v D h1 e2)
end K83
end

section
set_option Elab.async false
set_option linter.all false
set_option autoImplicit false
set_option maxRecDepth 10000
set_option maxHeartbeats 1000000
/-! K83O: the stairs' shape, and bounds. -/
namespace K83
open PySem Dt

theorem cf_nil (k : Nat) : cf [] k = 0 := cf_of (Nat.zero_le k)
theorem cf_prodN (a b : List Int) : ∀ n k, cf (prodN a b n) k = act (cf b) n (cf a) k
  | 0, k => cf_nil k
  | n + 1, k => by
    show cf (addS (prodN a b n) a (cf b n) n) k = _
    rw [cf_addS, cf_prodN a b n k]
    rfl
theorem prodN_len1 (a b : List Int) (h : a ≠ []) : ∀ n, (prodN a b (n + 1)).length = a.length + n
  | 0 => by simp [prodN, addS_len]
  | n + 1 => by
    show (addS (prodN a b (n + 1)) a _ _).length = _
    rw [addS_len, prodN_len1 a b h n]
    omega
theorem prod_len {a b : List Int} (ha : a ≠ []) (hb : b ≠ []) : (prod a b).length = a.length + (b.length - 1) := by
  have : 0 < b.length := List.length_pos_iff.mpr hb
  unfold prod
  rw [show b.length = b.length - 1 + 1 by omega, prodN_len1 a b ha]
  omega
theorem prod_ne {a b : List Int} (ha : a ≠ []) (hb : b ≠ []) : prod a b ≠ [] := by
  intro h
  have := prod_len ha hb
  rw [h] at this
  have := List.length_pos_iff.mpr ha
  simp at *
  omega
theorem ld_prod {a b : List Int} (ha : a ≠ []) (hb : b ≠ []) : ld (prod a b) = ld b * ld a := by
  have h1 : 0 < b.length := List.length_pos_iff.mpr hb
  have h2 : 0 < a.length := List.length_pos_iff.mpr ha
  have t := act_top (g := cf b) (u := cf a) (d := a.length - 1) cf_top (b.length - 1)
  unfold ld
  rw [prod_len ha hb]
  unfold prod
  rw [cf_prodN, show b.length - 1 + 1 = b.length by omega] at *
  rw [show a.length + (b.length - 1) - 1 = a.length - 1 + (b.length - 1) by omega]
  exact t
/-- a stair before it is tidied up -/
def sc (h l : List Int) (t : Int) : List Int := prod (prod h l) [t]
theorem cf_sc (h l : List Int) (t : Int) (k : Nat) : cf (sc h l t) k = t * act (cf l) l.length (cf h) k := by
  unfold sc prod
  rw [cf_prodN]
  show act (cf [t]) 1 (cf (prodN h l l.length)) k = _
  simp only [act]
  rw [up_zero, cf_prodN]
  have : cf [t] 0 = t := rfl
  rw [this]
  omega
theorem sc_len {h l : List Int} (t : Int) (hh : h ≠ []) (hl : l ≠ []) : (sc h l t).length = h.length + (l.length - 1) := by
  unfold sc
  rw [prod_len (prod_ne hh hl) (by simp), prod_len hh hl]
  simp
theorem ld_sc {h l : List Int} (t : Int) (hh : h ≠ []) (hl : l ≠ []) : ld (sc h l t) = t * (ld l * ld h) := by
  unfold sc
  rw [ld_prod (prod_ne hh hl) (by simp), ld_prod hh hl]
  rfl
def rawL (l : List Int) (t : Int) : List (Int × List Int) → List (List Int)
  | [] => [sc [1] l t]
  | (f, h) :: r => rawL l (t * f) r ++ [sc h l t]
def Shp (l : List Int) (t : Int) : List (Int × List Int) → List (List Int) → Prop
  | [], S => ∃ s, S = [s] ∧ s.length = l.length ∧ ld s = t * ld l
  | (f, h) :: r, S => ∃ S' s, S = S' ++ [s] ∧ s.length = h.length + (l.length - 1) ∧ ld s = t * ld l ∧ Shp l (t * f) r S'
theorem Good.ne {f : Int} {h : List Int} {r : List (Int × List Int)} (g : Good ((f, h) :: r)) : h ≠ [] := fun e => by
  have := g.2.2.2.1
  rw [e] at this
  exact absurd this (Nat.not_lt_zero _)
theorem Good.top_pos : ∀ r, Good r → 0 < (topH r).length
  | [], _ => Nat.one_pos
  | (f, h) :: r, g => List.length_pos_iff.mpr g.ne
theorem shp_raw {l : List Int} (hl : l ≠ []) : ∀ (r : List (Int × List Int)) (t : Int), Good r → Shp l t r (rawL l t r)
  | [], t, _ => ⟨_, rfl, by
    have := List.length_pos_iff.mpr hl
    rw [sc_len t (by simp) hl]
    simp
    omega, by
    rw [ld_sc t (by simp) hl]
    show t * (ld l * 1) = _
    rw [Int.mul_one]⟩
  | (f, h) :: r, t, g => ⟨_, _, rfl, sc_len t g.ne hl, by
    rw [ld_sc t g.ne hl, g.2.2.1, Int.mul_one], shp_raw hl r (t * f) g.1⟩
theorem raw_J (l : List Int) : ∀ (r : List (Int × List Int)) (t : Int), Good r → ∀ s ∈ rawL l t r, ∃ u, J r u ∧ ∀ k, cf s k = t * act (cf l) l.length u k
  | [], t, _, s, hs => by
    have e : s = sc [1] l t := by simpa [rawL] using hs
    exact ⟨cf [1], ⟨1, fun k hk => cf_of hk⟩, fun k => by rw [e, cf_sc]⟩
  | (f, h) :: r, t, g, s, hs => by
    rcases List.mem_append.mp hs with h1 | h1
    · obtain ⟨u, hu, e⟩ := raw_J l r (t * f) g.1 s h1
      refine ⟨_, J_mul f h hu, fun k => ?_⟩
      rw [e, act_smul, Int.mul_assoc]
    · have e : s = sc h l t := by simpa using h1
      exact ⟨cf h, J_top f h r, fun k => by rw [e, cf_sc]⟩
theorem raw_M {l : List Int} {r : List (Int × List Int)} (g : Good r) : ∀ s ∈ rawL l 1 r, M l r (cf s) := fun s hs => by
  obtain ⟨u, h1, h2⟩ := raw_J l r 1 g s hs
  exact ⟨u, h1, fun k => by rw [h2]; omega⟩
theorem bel_app (S : List (List Int)) (s : List Int) (n : Nat) : bel (S ++ [s]) n = if s.length ≤ n then some s else bel S n := by
  unfold bel
  rw [List.filter_append]
  by_cases hs : s.length ≤ n
  · simp [hs]
  · have : List.filter (fun s => decide (s.length ≤ n)) [s] = [] := by simp [hs]
    rw [this, List.append_nil, if_neg hs]
theorem shp_bel {l : List Int} (hl : l ≠ []) : ∀ (r : List (Int × List Int)) (t : Int) (S : List (List Int)), Shp l t r S → ∀ D, ∃ s, bel S (D + (l.length - 1) + 1) = some s ∧ ld s = t * (leadJ r D * ld l)
  | [], t, S, ⟨s, e1, e2, e3⟩, D => ⟨s, by
    rw [e1]
    unfold bel
    have := List.length_pos_iff.mpr hl
    have : s.length ≤ D + (l.length - 1) + 1 := by omega
    simp [this], by rw [e3]; simp [leadJ]⟩
  | (f, h) :: r, t, S, ⟨S', s, e1, e2, e3, e4⟩, D => by
    rw [e1, bel_app]
    have := List.length_pos_iff.mpr hl
    unfold leadJ
    by_cases hd : h.length ≤ D + 1
    · rw [if_pos (by omega), if_pos hd]
      exact ⟨s, rfl, by rw [e3]; simp⟩
    · rw [if_neg (by omega), if_neg hd]
      obtain ⟨s', h1, h2⟩ := shp_bel hl r (t * f) S' e4 D
      exact ⟨s', h1, by rw [h2]; grind⟩
theorem shp_ne {l : List Int} (hl : l ≠ []) : ∀ (r : List (Int × List Int)) (t : Int) (S : List (List Int)), Good r → Shp l t r S → ∀ s ∈ S, s ≠ []
  | [], t, S, _, ⟨s, e1, e2, e3⟩, x, hx => by
    rw [e1] at hx
    have : x = s := by simpa using hx
    intro h0
    rw [← this, h0] at e2
    exact hl (List.length_eq_zero_iff.mp e2.symm)
  | (f, h) :: r, t, S, g, ⟨S', s, e1, e2, e3, e4⟩, x, hx => by
    rw [e1] at hx
    rcases List.mem_append.mp hx with h1 | h1
    · exact shp_ne hl r (t * f) S' g.1 e4 x h1
    · have : x = s := by simpa using h1
      intro h0
      rw [← this, h0] at e2
      have := List.length_pos_iff.mpr g.ne
      simp at e2
      omega
theorem shp_pos {l : List Int} (hl : 0 < ld l) : ∀ (r : List (Int × List Int)) (t : Int) (S : List (List Int)), Good r → 0 < t → Shp l t r S → ∀ s ∈ S, 0 < ld s
  | [], t, S, _, ht, ⟨s, e1, e2, e3⟩, x, hx => by
    rw [e1] at hx
    have : x = s := by simpa using hx
    rw [this, e3]
    exact Int.mul_pos ht hl
  | (f, h) :: r, t, S, g, ht, ⟨S', s, e1, e2, e3, e4⟩, x, hx => by
    rw [e1] at hx
    rcases List.mem_append.mp hx with h1 | h1
    · exact shp_pos hl r (t * f) S' g.1 (Int.mul_pos ht g.2.2.2.2.1) e4 x h1
    · have : x = s := by simpa using h1
      rw [this, e3]
      exact Int.mul_pos ht hl
/-- reduced numbers -/
def Red (l : List Int) (S : List (List Int)) : Prop := ∀ s ∈ S, ∀ d, l.length - 1 ≤ d → d < s.length - 1 → 0 ≤ cf s d ∧ ∃ s2 ∈ S, cf s d < ld s2
theorem shp_tidy {l : List Int} (hl : l ≠ []) (hp : 0 < ld l) {A : P → Prop} (hA : Mod A) : ∀ (r : List (Int × List Int)) (t : Int) (S : List (List Int)), Good r → 0 < t → Shp l t r S → (∀ s ∈ S, A (cf s)) → Shp l t r (tidy S) ∧ (∀ s ∈ tidy S, A (cf s)) ∧ Red l (tidy S)
  | [], t, S, g, ht, ⟨s, e1, e2, e3⟩, hM => by
    have e : tidy S = [s] := by
      rw [e1]
      show [restGo [] s (s.length - 1)] = [s]
      have : ∀ n (x : List Int), restGo [] x n = x := fun n => by
        induction n with
        | zero => intro x; rfl
        | succ n ih => intro x; exact ih x
      rw [this]
    rw [e]
    refine ⟨⟨s, rfl, e2, e3⟩, fun x hx => hM x (by rw [e1]; exact hx), fun x hx d h1 h2 => ?_⟩
    have : x = s := by simpa using hx
    rw [this] at h2
    omega
  | (f, h) :: r, t, S, g, ht, ⟨S', s, e1, e2, e3, e4⟩, hM => by
    obtain ⟨i1, i2, i3⟩ := shp_tidy hl hp hA r (t * f) S' g.1 (Int.mul_pos ht g.2.2.2.2.1) e4 fun s hs => hM s (by rw [e1]; simp [hs])
    rw [e1, tidy_app]
    have hne := shp_ne hl r _ _ g.1 i1
    have hps := shp_pos hp r _ _ g.1 (Int.mul_pos ht g.2.2.2.2.1) i1
    have hlen := restGo_len (S := tidy S') (s.length - 1) s (by omega)
    have hlast : ld (restGo (tidy S') s (s.length - 1)) = ld s := by
      unfold ld
      rw [hlen, cf_restGo]
      exact restC_hi _ _ _ _ (Nat.le_refl _)
    refine ⟨⟨_, _, rfl, hlen.trans e2, hlast.trans e3, i1⟩, fun x hx => ?_, fun x hx d h1 h2 => ?_⟩
    · rcases List.mem_append.mp hx with h1 | h1
      · exact i2 x h1
      · have : x = restGo (tidy S') s (s.length - 1) := by simpa using h1
        rw [this, cf_restGo]
        have a := rest_sub0 hA i2 (s.length - 1) (cf s)
        exact cg (hA.sub (hM s (by rw [e1]; simp)) a) fun k => by omega
    · rcases List.mem_append.mp hx with h3 | h3
      · obtain ⟨p1, s2, p2, p3⟩ := i3 x h3 d h1 h2
        exact ⟨p1, s2, by simp [p2], p3⟩
      · have ex : x = restGo (tidy S') s (s.length - 1) := by simpa using h3
        rw [ex, hlen] at h2
        obtain ⟨s2, b1, b2⟩ := shp_bel hl r _ _ i1 (d - (l.length - 1))
        rw [show d - (l.length - 1) + (l.length - 1) + 1 = d + 1 by omega] at b1
        obtain ⟨y, hy⟩ := restC_mod hne b1 (s.length - 1) (cf s) h2
        have z := fmod_pos (a := y) (hps s2 (bel_mem b1).1)
        rw [ex, cf_restGo, hy]
        exact ⟨z.1, s2, by simp [(bel_mem b1).1], z.2⟩
theorem sys_of {l : List Int} {r : List (Int × List Int)} {S : List (List Int)} (g : Good r) (hl : l ≠ []) (hp : 0 < ld l) (hs : Shp l 1 r S) (hM : ∀ s ∈ S, M l r (cf s)) : Sys S (M l r) where
  mod := M_Mod l r
  fin := M_fin l r
  mem := hM
  ne := shp_ne hl r 1 S g hs
  ld := shp_pos hp r 1 S g (by decide) hs
  gb := fun u d h1 h2 h3 => by
    obtain ⟨D, e1, e2⟩ := M_gb g hl (by omega) h1 h2 h3
    obtain ⟨s, b1, b2⟩ := shp_bel hl r 1 S hs D
    refine ⟨s, e1 ▸ b1, ?_⟩
    rw [b2, Int.one_mul]
    exact e2
theorem shp_head {l : List Int} (hl : l ≠ []) : ∀ (r : List (Int × List Int)) (t : Int) (S : List (List Int)), Good r → Shp l t r S → ∃ s S', S = s :: S' ∧ s.length = l.length ∧ ld s = t * (leadJ r 0 * ld l)
  | [], t, S, _, ⟨s, e1, e2, e3⟩ => ⟨s, [], e1, e2, by rw [e3]; simp [leadJ]⟩
  | (f, h) :: r, t, S, g, ⟨S', s, e1, e2, e3, e4⟩ => by
    obtain ⟨s0, S0, q1, q2, q3⟩ := shp_head hl r (t * f) S' g.1 e4
    refine ⟨s0, S0 ++ [s], by rw [e1, q1]; rfl, q2, ?_⟩
    have := g.2.2.2.1
    have := Good.top_pos r g.1
    unfold leadJ
    rw [if_neg (by omega), q3]
    grind
end K83
end

section
set_option Elab.async false
set_option linter.all false
set_option autoImplicit false
set_option maxRecDepth 10000
set_option maxHeartbeats 1000000
/-! K83Q: bounds of the stairs. -/
namespace K83
open PySem Dt

def Lim : List (Int × List Int) → Prop
  | [] => True
  | (f, h) :: r => Lim r ∧ (2 ≤ f ∧ f ≤ 37) ∧ h.length ≤ (topH r).length + 4 ∧ Bd (12 * (r.length + 1) + 1) h ∧ (cf h 0).natAbs < 2 ^ (9 * (r.length + 1) + 1) ∧ cf h 0 ≠ 0
def Lok (l : List Int) : Prop := (∃ a : Int, l = [a] ∧ 1 ≤ a ∧ a ≤ 6) ∨ (∃ a b : Int, l = [a, b] ∧ a ≠ 0 ∧ a.natAbs ≤ 3 ∧ 1 ≤ b ∧ b ≤ 2) ∨ (∃ a b : Int, l = [a, b, 1] ∧ a ≠ 0 ∧ a.natAbs ≤ 3 ∧ b.natAbs ≤ 1)
theorem Lok.ne {l : List Int} (h : Lok l) : l ≠ [] := by
  rcases h with ⟨a, rfl, _⟩ | ⟨a, b, rfl, _⟩ | ⟨a, b, rfl, _⟩ <;> simp
theorem Lok.ld {l : List Int} (h : Lok l) : 0 < ld l ∧ ld l ≤ 6 := by
  rcases h with ⟨a, rfl, h1, h2⟩ | ⟨a, b, rfl, h1, h2, h3, h4⟩ | ⟨a, b, rfl, h1, h2, h3⟩
  · exact ⟨by show 0 < a; omega, h2⟩
  · exact ⟨by show 0 < b; omega, by show b ≤ 6; omega⟩
  · exact ⟨by show (0 : Int) < 1; decide, by show (1 : Int) ≤ 6; decide⟩
theorem Lok.c0 {l : List Int} (h : Lok l) : cf l 0 ≠ 0 := by
  rcases h with ⟨a, rfl, h1, h2⟩ | ⟨a, b, rfl, h1, h2, h3, h4⟩ | ⟨a, b, rfl, h1, h2, h3⟩
  · show a ≠ 0
    omega
  · exact h1
  · exact h1
theorem Lok.len {l : List Int} (h : Lok l) : 1 ≤ l.length ∧ l.length ≤ 3 := by
  rcases h with ⟨a, rfl, h1, h2⟩ | ⟨a, b, rfl, h1, h2, h3, h4⟩ | ⟨a, b, rfl, h1, h2, h3⟩ <;> simp
theorem Lok.bd {l : List Int} (h : Lok l) : Bd 3 l := by
  refine Bd.of_mem fun x hx => ?_
  rcases h with ⟨a, rfl, h1, h2⟩ | ⟨a, b, rfl, h1, h2, h3, h4⟩ | ⟨a, b, rfl, h1, h2, h3⟩
  · have : x = a := by simpa using hx
    omega
  · have : x = a ∨ x = b := by simpa using hx
    omega
  · have : x = a ∨ x = b ∨ x = 1 := by simpa using hx
    omega
theorem topH_len : ∀ r, Lim r → (topH r).length ≤ 1 + 4 * r.length
  | [], _ => Nat.le_refl _
  | (f, h) :: r, ⟨g1, g2, g3, g4, g5, g6⟩ => by
    have := topH_len r g1
    show h.length ≤ 1 + 4 * (r.length + 1)
    omega
theorem shp_len {l : List Int} : ∀ (r : List (Int × List Int)) (t : Int) (S : List (List Int)), Good r → 1 ≤ l.length → Shp l t r S → ∀ s ∈ S, s.length ≤ (topH r).length + (l.length - 1)
  | [], t, S, _, hl, ⟨s, e1, e2, e3⟩, x, hx => by
    rw [e1] at hx
    have : x = s := by simpa using hx
    rw [this, e2]
    show _ ≤ 1 + _
    omega
  | (f, h) :: r, t, S, g, hl, ⟨S', s, e1, e2, e3, e4⟩, x, hx => by
    rw [e1] at hx
    have := g.2.2.2.1
    show _ ≤ h.length + _
    rcases List.mem_append.mp hx with h1 | h1
    · have := shp_len r _ S' g.1 hl e4 x h1
      omega
    · have : x = s := by simpa using h1
      rw [this, e2]
      omega
theorem shp_ldle {l : List Int} (hl : 0 < ld l) : ∀ (r : List (Int × List Int)) (t : Int) (S : List (List Int)), Lim r → 0 < t → Shp l t r S → ∀ s ∈ S, ld s ≤ t * 37 ^ r.length * ld l
  | [], t, S, _, ht, ⟨s, e1, e2, e3⟩, x, hx => by
    rw [e1] at hx
    have : x = s := by simpa using hx
    rw [this, e3]
    simp
  | (f, h) :: r, t, S, ⟨g1, g2, g3, g4, g5, g6⟩, ht, ⟨S', s, e1, e2, e3, e4⟩, x, hx => by
    rw [e1] at hx
    have hp : (0 : Int) < 37 ^ r.length := Int.pow_pos (by decide)
    have h37 : (37 : Int) ^ ((f, h) :: r).length = 37 * 37 ^ r.length := by
      rw [List.length_cons, Int.pow_succ, Int.mul_comm]
    rw [h37]
    rcases List.mem_append.mp hx with h1 | h1
    · have z := shp_ldle hl r _ S' g1 (Int.mul_pos ht (by omega)) e4 x h1
      refine Int.le_trans z (Int.mul_le_mul_of_nonneg_right ?_ (by omega))
      have a1 : t * f ≤ t * 37 := Int.mul_le_mul_of_nonneg_left g2.2 (by omega)
      have a2 := Int.mul_le_mul_of_nonneg_right a1 (show (0 : Int) ≤ 37 ^ r.length by omega)
      rw [Int.mul_assoc t 37] at a2
      exact a2
    · have : x = s := by simpa using h1
      rw [this, e3]
      refine Int.mul_le_mul_of_nonneg_right ?_ (by omega)
      have := Int.mul_le_mul_of_nonneg_left (show (1 : Int) ≤ 37 * 37 ^ r.length by omega) (show 0 ≤ t by omega)
      omega
theorem abs_mul_le {a x : Int} {n : Nat} (h : a.natAbs ≤ n) : (a * x).natAbs ≤ n * x.natAbs := by
  rw [Int.natAbs_mul]
  exact Nat.mul_le_mul_right _ h
theorem abs_le_mul {a x : Int} (h : 1 ≤ a) : x.natAbs ≤ (a * x).natAbs := by
  rw [Int.natAbs_mul]
  have := Nat.mul_le_mul_right x.natAbs (show 1 ≤ a.natAbs by omega)
  omega
theorem U_bd {l : List Int} (hl : Lok l) {F U : P} {D : Nat} (h : ∀ k, F k = act (cf l) l.length U k) (hU : ∀ k, D < k → U k = 0) (hF : ∀ d, l.length - 1 ≤ d → (F d).natAbs < 2 ^ 24) : ∀ m q, D ≤ q + m → (U q).natAbs < 2 ^ (24 + 3 * m) := by
  have key : ∀ q B, (U (q + 1)).natAbs ≤ B → (U (q + 2)).natAbs ≤ B → (U q).natAbs < 2 ^ 24 + 4 * B := by
    intro q B h1 h2
    have u1 : ∀ k, up 1 U (k + 1) = U k := fun k => by simp [up]
    have u2 : ∀ k, up 2 U (k + 2) = U k := fun k => by
      unfold up
      rw [if_neg (by omega)]
      rfl
    rcases hl with ⟨a, rfl, g1, g2⟩ | ⟨a, b, rfl, g1, g2, g3, g4⟩ | ⟨a, b, rfl, g1, g2, g3⟩
    · have e : F q = a * U q := by
        rw [h]
        show 0 + a * up 0 U q = _
        rw [up_zero]
        omega
      have z := hF q (Nat.zero_le q)
      rw [e] at z
      have := abs_le_mul (x := U q) g1
      omega
    · have e : F (q + 1) = a * U (q + 1) + b * U q := by
        rw [h]
        show 0 + a * up 0 U (q + 1) + b * up 1 U (q + 1) = _
        rw [up_zero, u1]
        omega
      have z := hF (q + 1) (by show 1 ≤ q + 1; omega)
      rw [e] at z
      have y1 := abs_le_mul (x := U q) g3
      have y2 := abs_mul_le (x := U (q + 1)) g2
      omega
    · have e : F (q + 2) = a * U (q + 2) + b * U (q + 1) + U q := by
        rw [h]
        show 0 + a * up 0 U (q + 2) + b * up 1 U (q + 2) + 1 * up 2 U (q + 2) = _
        rw [up_zero, u2, show q + 2 = q + 1 + 1 from rfl, u1]
        omega
      have z := hF (q + 2) (by show 2 ≤ q + 2; omega)
      rw [e] at z
      have y1 := abs_mul_le (x := U (q + 1)) g3
      have y2 := abs_mul_le (x := U (q + 2)) g2
      omega
  intro m
  induction m with
  | zero =>
    intro q hq
    have z := key q 0 (by rw [hU (q + 1) (by omega)]; decide) (by rw [hU (q + 2) (by omega)]; decide)
    simpa using z
  | succ m ih =>
    intro q hq
    have z1 := ih (q + 1) (by omega)
    have z2 := ih (q + 2) (by omega)
    have z := key q (2 ^ (24 + 3 * m)) (by omega) (by omega)
    have e : 2 ^ (24 + 3 * (m + 1)) = 8 * 2 ^ (24 + 3 * m) := by
      rw [show 24 + 3 * (m + 1) = 3 + (24 + 3 * m) by omega, Nat.pow_add]
    have e2 : 2 ^ 24 ≤ 2 ^ (24 + 3 * m) := Nat.pow_le_pow_right (by decide) (by omega)
    omega
theorem act_bd {g u : P} {a b : Nat} (hg : ∀ j, (g j).natAbs < 2 ^ a) (hu : ∀ k, (u k).natAbs < 2 ^ b) : ∀ n k, (act g n u k).natAbs < 2 ^ (a + b + n)
  | 0, k => Nat.pow_pos (by decide)
  | n + 1, k => by
    have ih := act_bd hg hu n k
    have hz : (g n * up n u k).natAbs < 2 ^ (a + b) := natAbs_mul_lt (hg n) (by
      unfold up
      split
      · exact Nat.pow_pos (by decide)
      · exact hu _)
    have := natAbs_add_lt ih hz
    rw [show max (a + b + n) (a + b) = a + b + n by omega] at this
    exact this
theorem fine_tidy {l : List Int} {r : List (Int × List Int)} (hl : Lok l) (g : Good r) (hm : Lim r) (h4 : r.length ≤ 4) :
    Fine 82 (tidy (rawL l 1 r)) ∧ Shp l 1 r (tidy (rawL l 1 r)) ∧ (∀ s ∈ tidy (rawL l 1 r), s.length ≤ 19) ∧ (∀ s ∈ tidy (rawL l 1 r), ld s < 16777216) ∧ Sys (tidy (rawL l 1 r)) (M l r) := by
  obtain ⟨s1, s2, s3⟩ := shp_tidy hl.ne hl.ld.1 (M_Mod l r) r 1 _ g (by decide) (shp_raw hl.ne r 1 g) (raw_M g)
  generalize tidy (rawL l 1 r) = S at *
  have hne := shp_ne hl.ne r 1 S g s1
  have hpos := shp_pos hl.ld.1 r 1 S g (by decide) s1
  have hlen : ∀ s ∈ S, s.length ≤ 19 := fun s hs => by
    have a := shp_len r 1 S g hl.len.1 s1 s hs
    have b := topH_len r hm
    have c := hl.len.2
    omega
  have hld : ∀ s ∈ S, ld s < 16777216 := fun s hs => by
    have a := shp_ldle hl.ld.1 r 1 S hm (by decide) s1 s hs
    have b : (37 : Int) ^ r.length ≤ 37 ^ 4 := by
      have : r.length = 0 ∨ r.length = 1 ∨ r.length = 2 ∨ r.length = 3 ∨ r.length = 4 := by omega
      rcases this with h | h | h | h | h <;> rw [h] <;> decide
    have c : (1 : Int) * 37 ^ r.length * ld l ≤ 37 ^ 4 * 6 := by
      rw [Int.one_mul]
      exact Int.mul_le_mul b hl.ld.2 (by have := hl.ld.1; omega) (by decide)
    have d : (37 : Int) ^ 4 * 6 < 16777216 := by decide
    omega
  refine ⟨⟨hne, fun s hs => ⟨hpos s hs, by have := hld s hs; omega⟩, fun s hs => by have := hlen s hs; omega, fun s hs => ?_⟩, s1, hlen, hld, sys_of g hl.ne hl.ld.1 s1 s2⟩
  obtain ⟨U, u1, u2⟩ := s2 s hs
  have hp : 0 < s.length := List.length_pos_iff.mpr (hne s hs)
  have hps := hpos s hs
  obtain ⟨D, d1, d2, d3⟩ := M_deg hl.ne (by have := hl.ld.1; omega) (J_fin r U u1) u2 (d := s.length - 1) cf_top (by show ld s ≠ 0; omega)
  have hF : ∀ d, l.length - 1 ≤ d → (cf s d).natAbs < 2 ^ 24 := fun d hd => by
    by_cases h1 : d < s.length - 1
    · obtain ⟨p1, t, p2, p3⟩ := s3 s hs d hd h1
      have := hld t p2
      omega
    · by_cases h2 : d = s.length - 1
      · have a : cf s d = ld s := by rw [h2]; rfl
        have := hld s hs
        omega
      · rw [cf_of (by omega)]
        decide
  have hU := fun q => U_bd hl u2 d2 hF D q (by omega)
  have hD : D ≤ 16 := by
    have a := shp_len r 1 S g hl.len.1 s1 s hs
    have b := topH_len r hm
    omega
  intro k
  rw [u2]
  have z := act_bd hl.bd hU l.length k
  have c := hl.len.2
  exact Nat.lt_of_lt_of_le z (Nat.pow_le_pow_right (by decide) (by omega))
theorem tidy_take (S : List (List Int)) : ∀ i, i ≤ S.length → ∀ s ∈ tidy (S.take i), s ∈ tidy S := by
  have key : ∀ (B A : List (List Int)), ∀ s ∈ tidy A, s ∈ tidy (A ++ B) := by
    intro B
    induction B with
    | nil => intro A s hs; rw [List.append_nil]; exact hs
    | cons b B ih =>
      intro A s hs
      have e : A ++ b :: B = A ++ [b] ++ B := by simp
      rw [e]
      refine ih (A ++ [b]) s ?_
      rw [tidy_app]
      simp [hs]
  intro i _ s hs
  have := key (S.drop i) (S.take i) s hs
  rw [List.take_append_drop] at this
  exact this
theorem fine_take {w : Nat} {S : List (List Int)} (h : Fine w (tidy S)) (i : Nat) (hi : i ≤ S.length) : Fine w (tidy (S.take i)) :=
  ⟨fun s hs => h.ne s (tidy_take S i hi s hs), fun s hs => h.ld s (tidy_take S i hi s hs), fun s hs => h.len s (tidy_take S i hi s hs), fun s hs => h.bd s (tidy_take S i hi s hs)⟩
end K83
end

section
set_option Elab.async false
set_option linter.all false
set_option autoImplicit false
set_option maxRecDepth 10000
set_option maxHeartbeats 1000000
/-! K83R: heads and factors evaluated. -/
namespace K83
open PySem Dt

def hds : List (Int × List Int) → List (List Int)
  | [] => [[1]]
  | (_, h) :: r => hds r ++ [h]
def fcs : List (Int × List Int) → List Int
  | [] => []
  | (f, _) :: r => fcs r ++ [f]
theorem hds_len : ∀ r, (hds r).length = r.length + 1
  | [] => rfl
  | (f, h) :: r => by
    show (hds r ++ [h]).length = _
    rw [List.length_append, hds_len r]
    rfl
theorem fcs_len : ∀ r, (fcs r).length = r.length
  | [] => rfl
  | (f, h) :: r => by
    show (fcs r ++ [f]).length = _
    rw [List.length_append, fcs_len r]
    rfl
theorem hds_get : ∀ (r : List (Int × List Int)) (j : Nat), j ≤ r.length → (hds r)[r.length - j]? = some (topH (r.drop j))
  | [], j, h => by
    have : j = 0 := by simpa using h
    subst this
    rfl
  | (f, h) :: r, 0, _ => by
    show (hds r ++ [h])[r.length + 1]? = some h
    rw [← hds_len r]
    simp
  | (f, h) :: r, j + 1, hj => by
    have hj2 : j ≤ r.length := by simpa using hj
    have e : ((f, h) :: r).length - (j + 1) = r.length - j := by simp
    rw [e]
    show (hds r ++ [h])[r.length - j]? = some (topH (r.drop j))
    rw [List.getElem?_append_left (by rw [hds_len]; omega)]
    exact hds_get r j hj2
def fI (r : List (Int × List Int)) (i : Nat) : Int := match r[i]? with
  | some x => x.1
  | none => 1
theorem fcs_get : ∀ (r : List (Int × List Int)) (j : Nat), j < r.length → (fcs r)[r.length - 1 - j]? = some (fI r j)
  | [], j, h => absurd h (Nat.not_lt_zero j)
  | (f, h) :: r, 0, _ => by
    show (fcs r ++ [f])[r.length]? = some f
    rw [← fcs_len r]
    simp
  | (f, h) :: r, j + 1, hj => by
    have hj2 : j < r.length := by simpa using hj
    have e : ((f, h) :: r).length - 1 - (j + 1) = r.length - 1 - j := by simp; omega
    rw [e]
    show (fcs r ++ [f])[r.length - 1 - j]? = some (fI r j)
    rw [List.getElem?_append_left (by rw [fcs_len]; omega)]
    exact fcs_get r j hj2
def tp (r : List (Int × List Int)) : Nat → Int
  | 0 => 1
  | i + 1 => tp r i * fI r i
theorem drop_cons {r : List (Int × List Int)} {i : Nat} (h : i < r.length) : ∃ hd, r.drop i = (fI r i, hd) :: r.drop (i + 1) := by
  refine ⟨(r[i]).2, ?_⟩
  rw [List.drop_eq_getElem_cons h]
  unfold fI
  rw [List.getElem?_eq_getElem h]
theorem J_drop (r : List (Int × List Int)) : ∀ (i : Nat) (u : P), i ≤ r.length → J (r.drop i) u → J r fun k => tp r i * u k
  | 0, u, _, h => by
    refine cg h fun k => ?_
    show u k = 1 * u k
    omega
  | i + 1, u, hi, h => by
    obtain ⟨hd, e⟩ := drop_cons (r := r) (i := i) (by omega)
    have z := J_mul (fI r i) hd h
    rw [← e] at z
    refine cg (J_drop r i _ (by omega) z) fun k => ?_
    show tp r i * (fI r i * u k) = tp r i * fI r i * u k
    rw [Int.mul_assoc]
theorem J_topH : ∀ r, Good r → J r (cf (topH r))
  | [], _ => ⟨1, fun k hk => cf_of hk⟩
  | (f, h) :: r, _ => J_top f h r
theorem Good.drop : ∀ (i : Nat) (r : List (Int × List Int)), Good r → Good (r.drop i)
  | 0, r, g => g
  | i + 1, [], g => g
  | i + 1, (f, h) :: r, g => Good.drop i r g.1
theorem Lim.drop : ∀ (i : Nat) (r : List (Int × List Int)), Lim r → Lim (r.drop i)
  | 0, r, g => g
  | i + 1, [], g => g
  | i + 1, (f, h) :: r, g => Lim.drop i r g.1
theorem fI_bd {r : List (Int × List Int)} (hr : Lim r) {i : Nat} (hi : i < r.length) : 2 ≤ fI r i ∧ fI r i ≤ 37 := by
  obtain ⟨hd, e⟩ := drop_cons hi
  have z := Lim.drop i r hr
  rw [e] at z
  exact z.2.1
theorem tp_bd {r : List (Int × List Int)} (hr : Lim r) : ∀ i, i ≤ r.length → 0 < tp r i ∧ (tp r i).natAbs < 2 ^ (6 * i + 1)
  | 0, _ => ⟨by show (0 : Int) < 1; decide, by show (1 : Int).natAbs < _; decide⟩
  | i + 1, h => by
    obtain ⟨h1, h2⟩ := tp_bd hr i (by omega)
    have z := fI_bd hr (i := i) (by omega)
    refine ⟨Int.mul_pos h1 (by omega), ?_⟩
    have := natAbs_mul_lt h2 (show (fI r i).natAbs < 2 ^ 6 by omega)
    rw [show 6 * (i + 1) + 1 = 6 * i + 1 + 6 by omega]
    exact this
theorem topH_bd : ∀ r, Lim r → Bd (12 * r.length + 1) (topH r) ∧ (cf (topH r) 0).natAbs < 2 ^ (9 * r.length + 1)
  | [], _ => ⟨Bd.of_mem fun x hx => by
    have : x = 1 := by simpa [topH] using hx
    rw [this]
    decide, by decide⟩
  | (f, h) :: r, g => ⟨g.2.2.2.1, g.2.2.2.2.1⟩
theorem topH_ld : ∀ r, Good r → ld (topH r) = 1
  | [], _ => rfl
  | (f, h) :: r, g => g.2.2.1
theorem topH_drop_len {r : List (Int × List Int)} (g : Good r) : ∀ i, i ≤ r.length → (topH (r.drop i)).length ≤ (topH r).length
  | 0, _ => Nat.le_refl _
  | i + 1, h => by
    have a := topH_drop_len g i (by omega)
    obtain ⟨hd, e⟩ := drop_cons (r := r) (i := i) (by omega)
    have z := Good.drop i r g
    rw [e] at z
    rw [e] at a
    have : (topH (r.drop (i + 1))).length < hd.length := z.2.2.2.1
    have a' : hd.length ≤ (topH r).length := a
    omega
theorem up_at0 (s : Nat) (u : P) : up s u 0 = if s = 0 then u 0 else 0 := by
  unfold up
  by_cases h : s = 0
  · subst h
    simp
  · rw [if_pos (by omega), if_neg h]
theorem fcs_bd : ∀ r, Lim r → ∀ f ∈ fcs r, 2 ≤ f ∧ f ≤ 37
  | [], _, f, h => by cases h
  | (f, h) :: r, g, x, hx => by
    rcases List.mem_append.mp hx with h1 | h1
    · exact fcs_bd r g.1 x h1
    · have : x = f := by simpa using h1
      rw [this]
      exact g.2.1
theorem tp_cons (f : Int) (h : List Int) (r : List (Int × List Int)) : ∀ i, tp ((f, h) :: r) (i + 1) = f * tp r i
  | 0 => by
    show 1 * f = f * 1
    omega
  | i + 1 => by
    show tp ((f, h) :: r) (i + 1) * fI r i = f * (tp r i * fI r i)
    rw [tp_cons f h r i, Int.mul_assoc]
theorem fcs_tp : ∀ r, (fcs r).foldl (fun a b => a * b) 1 = tp r r.length
  | [] => rfl
  | (f, h) :: r => by
    show (fcs r ++ [f]).foldl (fun a b => a * b) 1 = tp ((f, h) :: r) (r.length + 1)
    rw [List.foldl_append, fcs_tp r, tp_cons, Int.mul_comm]
    rfl
theorem head_ev {r : List (Int × List Int)} (g : Good r) (hm : Lim r) (h3 : r.length ≤ 3) {row : List Int} (hrl : row.length = 12) (hr0 : ∀ k, 0 ≤ cf row k) (hr1 : ∀ k, 1 ≤ k → k ≤ 4 → cf row k < 7) (hr2 : ∀ k, 6 ≤ k → k ≤ 8 → cf row k < 5) {tall : Int} (ht : tall = 0 ∨ tall = 1) :
    ∃ h, f_l_head [.list ((hds r).map fun s => L s), L (fcs r), L row, .int tall] = .ok (L h) ∧ J r (cf h) ∧ ld h = 1 ∧ (topH r).length < h.length ∧ h.length ≤ (topH r).length + 4 ∧ Bd (12 * (r.length + 1) + 1) h ∧ (cf h 0).natAbs < 2 ^ (9 * (r.length + 1) + 1) ∧ cf h 0 ≠ 0 := by
  suffices h : OKs (f_l_head [.list ((hds r).map fun s => L s), L (fcs r), L row, .int tall]) (fun d => ∃ h, d = L h ∧ J r (cf h) ∧ ld h = 1 ∧ (topH r).length < h.length ∧ h.length ≤ (topH r).length + 4 ∧ Bd (12 * (r.length + 1) + 1) h ∧ (cf h 0).natAbs < 2 ^ (9 * (r.length + 1) + 1) ∧ cf h 0 ≠ 0) by
    obtain ⟨d, e, h, rfl, z⟩ := h
    exact ⟨h, e, z⟩
  refine run_ok rfl ?_
  have htl : 0 < (topH r).length := Good.top_pos r g
  have htn : topH r ≠ [] := List.length_pos_iff.mp htl
  obtain ⟨tb1, tb2⟩ := topH_bd r hm
  -- the number of coefficients
  obtain ⟨n, hn1, hn2, hn3⟩ : ∃ n : Nat, 1 + (cf row 0).fmod (2 + 2 * tall) = n ∧ 1 ≤ n ∧ n ≤ 4 := by
    have z := fmod_pos (a := cf row 0) (b := 2 + 2 * tall) (by omega)
    exact ⟨(1 + (cf row 0).fmod (2 + 2 * tall)).toNat, by omega, by omega, by omega⟩
  have t0 : (2 : Int) + 2 * tall ≠ 0 := by omega
  have m1 : oMul (.int 2) (.int tall) = .ok (.int (2 * tall)) := oMul_l (by decide)
  have m2 : oIx (L row) (.int 0) = .ok (.int (cf row 0)) := oIx_L rfl (by omega)
  have m3 : oMod (.int (cf row 0)) (.int (2 + 2 * tall)) = .ok (.int ((cf row 0).fmod (2 + 2 * tall))) := oMod_ t0
  have b1 := wRange_1 (n := n) (by omega)
  have hn4 : n ≤ 16777216 := by omega
  let q : List Int := tab (n + 1) fun k => if k < n then cf row (1 + k) - 3 else 1
  have ec : compGo (gN 5) tYes (x2 oSub (x2 oIx (xName 2) (x2 oAdd (xC (.int 1)) (xName 5))) (xC (.int 3))) [some (.list ((hds r).map fun s => L s)), some (L (fcs r)), some (L row), some (.int tall), none, none, none, none, none, none, none] (rangeL 0 n 1) = .ok ((List.range n).map fun k => .int (cf row (1 + k) - 3)) := by
    refine compGo_range n (fun k => .int (cf row (1 + k) - 3)) fun i hi => ⟨_, rfl, rfl, ?_⟩
    have m4 : oIx (L row) (.int (1 + (i : Int))) = .ok (.int (cf row (1 + i))) := oIx_L (by omega) (by omega)
    simp [m4]
  have eq : (List.range n).map (fun k => PyData.int (cf row (1 + k) - 3)) ++ [PyData.int 1] = q.map PyData.int := by
    show _ = (tab (n + 1) fun k => if k < n then cf row (1 + k) - 3 else 1).map PyData.int
    unfold tab
    rw [List.range_succ, List.map_append, List.map_append, List.map_map]
    congr 1
    · refine List.map_congr_left fun k hk => ?_
      have : k < n := by simpa using hk
      simp [this]
    · simp
  have hq : Bd 2 q := fun k => by
    show (cf (tab (n + 1) fun k => if k < n then cf row (1 + k) - 3 else 1) k).natAbs < _
    rw [cf_tab2]
    split
    · split
      · have := hr0 (1 + k)
        have := hr1 (1 + k) (by omega) (by omega)
        omega
      · decide
    · decide
  have hql : q.length = n + 1 := tab_len _ _
  have hqn : q ≠ [] := fun h => by rw [h] at hql; cases hql
  have hq1 : ld q = 1 := by
    unfold ld
    rw [hql]
    show cf (tab (n + 1) fun k => if k < n then cf row (1 + k) - 3 else 1) n = 1
    rw [cf_tab (by omega), if_neg (by omega)]
  clear_value q
  have pv := prod_ev (topH r) q tb1 hq (by omega) (by have := topH_len r hm; omega) (by omega)
  have hl1 : oIx (.list ((hds r).map fun s => L s)) (.int (-1)) = .ok (L (topH r)) := by
    have e : ((hds r).map fun s => L s).getLast? = some (L (topH r)) := by
      rw [List.getLast?_eq_getElem?, List.length_map, List.getElem?_map, hds_len]
      have := hds_get r 0 (Nat.zero_le _)
      rw [Nat.sub_zero] at this
      rw [Nat.add_sub_cancel, this]
      rfl
    have z := getI_m1 e
    simp only [oIx, z]
  have hN : (prod (topH r) q).length = (topH r).length + n := by rw [prod_len htn hqn, hql]; rfl
  have hNl : ld (prod (topH r) q) = 1 := by rw [ld_prod htn hqn, hq1, topH_ld r g]; rfl
  have hNj : J r (cf (prod (topH r) q)) := cg ((J_Mod r).act (cf q) (J_topH r g) q.length) fun k => (cf_prodN _ _ _ _).symm
  have hNb : Bd (12 * r.length + 8) (prod (topH r) q) := fun k => by
    unfold prod
    rw [cf_prodN]
    have := act_bd hq tb1 q.length k
    exact Nat.lt_of_lt_of_le this (Nat.pow_le_pow_right (by decide) (by omega))
  have hN0 : (cf (prod (topH r) q) 0).natAbs < 2 ^ (9 * r.length + 3) := by
    unfold prod
    rw [cf_prodN, hql, act_head]
    have : up 1 (act (fun j => cf q (j + 1)) n (cf (topH r))) 0 = 0 := by simp [up]
    rw [this, Int.add_zero]
    have := natAbs_mul_lt (hq 0) tb2
    rw [show 9 * r.length + 3 = 2 + (9 * r.length + 1) by omega]
    exact this
  generalize prod (topH r) q = hd at pv hN hNl hNj hNb hN0
  have b2 : wRange [.int 1, .int ((hds r).length : Nat)] = .ok (rangeL 1 r.length 1) := by
    rw [hds_len, wRange_2 rfl (b62_nat (by omega))]
    congr 2
    omega
  have s11 : (n : Int) + 1 ≤ 16777216 := by omega
  have eq2 : oAdd (.list ((List.range n).map fun k => PyData.int (cf row (1 + k) - 3))) (.list [.int 1]) = .ok (L q) := by
    have : ((List.range n).map fun k => PyData.int (cf row (1 + k) - 3)).length + [PyData.int 1].length ≤ SL := by
      show _ ≤ 16777216
      simp
      omega
    show (if _ then Res.ok _ else _) = _
    rw [if_pos this, eq]
  simp [g_l_head, m1, m2, m3, hn1, b1, hn4, ec, eq2, hl1, pv, b2, -oMod_eq]
  refine wp_forR (fun i δ => ∃ ys x5 x7 x8 x9 x10, δ = [some (.list ((hds r).map fun s => L s)), some (L (fcs r)), some (L row), some (.int tall), some (L ys), x5, some (.int (tp r i)), x7, x8, x9, x10] ∧ ys.length = (topH r).length + n ∧ ld ys = 1 ∧ J r (cf ys) ∧ Bd (12 * r.length + 8 + i) ys ∧ (cf ys 0).natAbs < 2 ^ (9 * r.length + 3 + i)) ⟨hd, none, none, none, none, none, rfl, hN, hNl, hNj, hNb, hN0⟩ ?_ ?_
  · rintro i δ hi ⟨ys, x5, x7, x8, x9, x10, rfl, y1, y2, y3, y4, y5⟩
    have e0 : (1 : Int) + (i : Int) * 1 = 1 + i := by omega
    rw [e0]
    refine ⟨_, rfl, ?_⟩
    have hH : (topH (r.drop (i + 1))).length ≤ (topH r).length := topH_drop_len g (i + 1) (by omega)
    have hHb := topH_bd (r.drop (i + 1)) (Lim.drop (i + 1) r hm)
    have hHj : J r fun k => tp r (i + 1) * cf (topH (r.drop (i + 1))) k := J_drop r (i + 1) _ (by omega) (J_topH _ (Good.drop (i + 1) r g))
    rw [List.length_drop] at hHb
    have ep : (r.length : Int) - (1 + (i : Int)) = ((r.length - (i + 1) : Nat) : Int) := by omega
    have m4 : oIx (L (fcs r)) (.int ((r.length - (i + 1) : Nat) : Int)) = .ok (.int (fI r i)) := by
      have e := fcs_get r i hi
      rw [show r.length - 1 - i = r.length - (i + 1) by omega] at e
      exact oIx_list (k := r.length - (i + 1)) rfl (by rw [List.getElem?_map, e]; rfl)
    have hfI := fI_bd hm hi
    have m5 : oMul (.int (tp r i)) (.int (fI r i)) = .ok (.int (tp r (i + 1))) := oMul_r (by omega)
    have m6 : oIx (.list ((hds r).map fun s => L s)) (.int ((r.length - (i + 1) : Nat) : Int)) = .ok (L (topH (r.drop (i + 1)))) :=
      oIx_list (k := r.length - (i + 1)) rfl (by rw [List.getElem?_map, hds_get r (i + 1) (by omega)]; rfl)
    have ht2 := tp_bd hm (i + 1) (by omega)
    generalize topH (r.drop (i + 1)) = HP at *
    generalize tp r (i + 1) = t at *
    have m7 : oIx (L row) (.int (8 + (1 + (i : Int)))) = .ok (.int (cf row (9 + i))) := oIx_L (by omega) (by omega)
    have hsub : (0 : Int) < (ys.length : Int) - (HP.length : Int) := by omega
    obtain ⟨sh, hs1, hs2⟩ : ∃ sh : Nat, (cf row (9 + i)).fmod ((ys.length : Int) - (HP.length : Int)) = sh ∧ sh < ys.length - HP.length := by
      have z := fmod_pos (a := cf row (9 + i)) hsub
      exact ⟨((cf row (9 + i)).fmod ((ys.length : Int) - (HP.length : Int))).toNat, by omega, by omega⟩
    have m8 : oMod (.int (cf row (9 + i))) (.int ((ys.length : Int) - (HP.length : Int))) = .ok (.int (sh : Nat)) := by
      rw [oMod_ (by omega), hs1]
    have m9 : oIx (L row) (.int (5 + (1 + (i : Int)))) = .ok (.int (cf row (6 + i))) := oIx_L (by omega) (by omega)
    have hc1 := hr0 (6 + i)
    have hc2 := hr2 (6 + i) (by omega) (by omega)
    obtain ⟨a, ha⟩ : ∃ a, cf row (6 + i) - 2 = a := ⟨_, rfl⟩
    have m10 : oMul (.int (cf row (6 + i) - 2)) (.int t) = .ok (.int (a * t)) := by
      rw [ha]
      exact oMul_l (by omega)
    have hnb := natAbs_mul_lt (show a.natAbs < 2 ^ 2 by omega) ht2.2
    have htop := topH_len r hm
    have m11 := sum_eq ys HP (a * t) sh (fun k => oMul_w hnb (hHb.1 k) (by omega)) (by omega) (by omega)
    simp [hds_len, ep, m4, m5, m6, m7, m8, m9, m10, m11, -oMod_eq]
    refine ⟨addS ys HP (a * t) sh, rfl, ?_, ?_, ?_, ?_, ?_⟩
    · rw [addS_len]
      omega
    · have e1 : (addS ys HP (a * t) sh).length = ys.length := by
        rw [addS_len]
        omega
      unfold ld
      rw [e1, cf_addS]
      have e2 : up sh (cf HP) (ys.length - 1) = 0 := by
        unfold up
        rw [if_neg (by omega)]
        exact cf_of (by omega)
      rw [e2]
      have : cf ys (ys.length - 1) = 1 := y2
      omega
    · have z := (J_Mod r).add _ _ y3 ((J_Mod r).smul a _ ((J_Mod r).up hHj sh))
      refine cg z fun k => ?_
      rw [cf_addS, up_smul, Int.mul_assoc]
    · have z := y4.addS (s := sh) hHb.1 hnb
      exact z.mono (by omega)
    · rw [cf_addS, up_at0]
      have z : ((a * t) * (if sh = 0 then cf HP 0 else 0)).natAbs < 2 ^ (2 + (6 * (i + 1) + 1) + (9 * (r.length - (i + 1)) + 1)) := by
        refine natAbs_mul_lt hnb ?_
        split
        · exact hHb.2
        · exact Nat.pow_pos (by decide)
      have w := natAbs_add_lt y5 z
      exact Nat.lt_of_lt_of_le w (Nat.pow_le_pow_right (by decide) (by omega))
  · rintro δ ⟨ys, x5, x7, x8, x9, x10, rfl, y1, y2, y3, y4, y5⟩
    have n1 : oIx (L ys) (.int 0) = .ok (.int (cf ys 0)) := oIx_L rfl (by omega)
    have e3 : ∀ zs : List Int, (∀ (a_1 : Int), a_1 ∈ zs → scal (.int a_1) = true) = True := by
      intro zs
      simp [scal]
    by_cases h0 : cf ys 0 = 0
    · simp [n1, h0]
      refine wp_seq (wp_for (fun i δ => ∃ x10, δ = [some (.list ((hds r).map fun s => L s)), some (L (fcs r)), some (L row), some (.int tall), some (L ys), x5, some (.int (((fcs r).take i).foldl (fun a b => a * b) 1)), x7, x8, x9, x10]) ⟨x10, rfl⟩ ?_ ?_)
      · rintro i d δ hi ⟨x10, rfl⟩
        rw [List.getElem?_map] at hi
        cases e2 : (fcs r)[i]? with
        | none => rw [e2] at hi; cases hi
        | some f =>
          rw [e2] at hi
          cases hi
          have hf := fcs_bd r hm f (List.mem_of_getElem? e2)
          have et : (fcs r).take (i + 1) = (fcs r).take i ++ [f] := by rw [List.take_succ, e2]; rfl
          refine ⟨_, rfl, ?_⟩
          have k1 : oMul (.int (((fcs r).take i).foldl (fun a b => a * b) 1)) (.int f) = .ok (.int (((fcs r).take i).foldl (fun a b => a * b) 1 * f)) := oMul_r (by omega)
          simp [k1, et, List.foldl_append]
      · rintro δ ⟨x10, rfl⟩
        have et : (fcs r).take ((fcs r).map PyData.int).length = fcs r := List.take_of_length_le (by simp)
        rw [et, fcs_tp]
        have ht := tp_bd hm r.length (Nat.le_refl _)
        have hJ := J_drop r r.length (cf [1]) (Nat.le_refl _) (by
          rw [List.drop_length]
          exact ⟨1, fun k hk => cf_of hk⟩)
        generalize tp r r.length = t at *
        have htop := topH_len r hm
        have k2 : f_l_sum [L ys, .list [.int t], .int 1, .int 0] = .ok (L (addS ys [t] 1 0)) := sum_eq ys [t] 1 0 (fun k => oMul_l (by decide)) (by omega) (by show 1 + 0 ≤ 1000000; omega)
        simp [k2, e3]
        have e1 : (addS ys [t] 1 0).length = ys.length := by
          rw [addS_len]
          show max _ (1 + 0) = _
          omega
        have e4 : ∀ k, cf (addS ys [t] 1 0) k = cf ys k + if k = 0 then t else 0 := fun k => by
          rw [cf_addS, up_zero]
          congr 1
          rw [Int.one_mul]
          by_cases hk : k = 0
          · subst hk
            rfl
          · rw [if_neg hk]
            exact cf_of (by show 1 ≤ k; omega)
        refine ⟨_, rfl, ?_, ?_, by rw [e1]; omega, by rw [e1]; omega, ?_, ?_, ?_⟩
        · refine cg ((J_Mod r).add _ _ y3 hJ) fun k => ?_
          rw [e4]
          by_cases hk : k = 0
          · subst hk
            show _ + t * 1 = _ + t
            omega
          · rw [if_neg hk, cf_of (xs := [1]) (by show 1 ≤ k; omega), Int.mul_zero]
        · unfold ld
          rw [e1, e4, if_neg (by omega)]
          have : cf ys (ys.length - 1) = 1 := y2
          omega
        · intro k
          rw [e4]
          refine Nat.lt_of_lt_of_le (natAbs_add_lt (y4 k) (m := 6 * r.length + 1) ?_) (Nat.pow_le_pow_right (by decide) (by omega))
          split
          · exact ht.2
          · exact Nat.pow_pos (by decide)
        · rw [e4, h0, if_pos rfl, Int.zero_add]
          exact Nat.lt_of_lt_of_le ht.2 (Nat.pow_le_pow_right (by decide) (by omega))
        · rw [e4, h0, if_pos rfl, Int.zero_add]
          omega
    · simp [n1, h0, e3]
      exact ⟨ys, rfl, y3, y2, by omega, by omega, y4.mono (by omega), Nat.lt_of_lt_of_le y5 (Nat.pow_le_pow_right (by decide) (by omega)), h0⟩
end K83
end

section
set_option Elab.async false
set_option linter.all false
set_option autoImplicit false
set_option maxRecDepth 10000
set_option maxHeartbeats 1000000
/-! K83S: the stairs evaluated. -/
namespace K83
open PySem Dt

theorem prime_dvd {p : Nat} (hp : ∀ g, g ≤ p → g ∣ p → g = 1 ∨ g = p) (h0 : 0 < p) {a : Int} (h : Int.gcd (p : Int) a ≠ 1) : p ∣ a.natAbs := by
  have e : Int.gcd (p : Int) a = Nat.gcd p a.natAbs := rfl
  rw [e] at h
  have h1 : Nat.gcd p a.natAbs ∣ p := Nat.gcd_dvd_left _ _
  rcases hp _ (Nat.le_of_dvd h0 h1) h1 with h2 | h2
  · exact absurd h2 h
  · rw [← h2]
    exact Nat.gcd_dvd_right _ _
theorem cop_dvd {m n k a : Nat} (hk : m * n = k) (h : Nat.gcd m n = 1) (h1 : m ∣ a) (h2 : n ∣ a) : k ∣ a := by
  rw [← hk]
  exact Nat.Coprime.mul_dvd_of_dvd_of_dvd h h1 h2
theorem no37 {a : Int} (h0 : a ≠ 0) (hb : a.natAbs < 2 ^ 37) (h : ∀ p ∈ [(2 : Int), 3, 5, 7, 11, 13, 17, 19, 23, 29, 31], Int.gcd p a ≠ 1) : False := by
  have hpos : 0 < a.natAbs := by omega
  have z2 := prime_dvd (p := 2) (by decide) (by decide) (h 2 (by simp))
  have z3 := prime_dvd (p := 3) (by decide) (by decide) (h 3 (by simp))
  have z5 := prime_dvd (p := 5) (by decide) (by decide) (h 5 (by simp))
  have z7 := prime_dvd (p := 7) (by decide) (by decide) (h 7 (by simp))
  have z11 := prime_dvd (p := 11) (by decide) (by decide) (h 11 (by simp))
  have z13 := prime_dvd (p := 13) (by decide) (by decide) (h 13 (by simp))
  have z17 := prime_dvd (p := 17) (by decide) (by decide) (h 17 (by simp))
  have z19 := prime_dvd (p := 19) (by decide) (by decide) (h 19 (by simp))
  have z23 := prime_dvd (p := 23) (by decide) (by decide) (h 23 (by simp))
  have z29 := prime_dvd (p := 29) (by decide) (by decide) (h 29 (by simp))
  have z31 := prime_dvd (p := 31) (by decide) (by decide) (h 31 (by simp))
  have y6 : 6 ∣ a.natAbs := cop_dvd (m := 2) (n := 3) rfl rfl z2 z3
  have y30 : 30 ∣ a.natAbs := cop_dvd (m := 6) (n := 5) rfl rfl y6 z5
  have y210 : 210 ∣ a.natAbs := cop_dvd (m := 30) (n := 7) rfl rfl y30 z7
  have y2310 : 2310 ∣ a.natAbs := cop_dvd (m := 210) (n := 11) rfl rfl y210 z11
  have y30030 : 30030 ∣ a.natAbs := cop_dvd (m := 2310) (n := 13) rfl rfl y2310 z13
  have y510510 : 510510 ∣ a.natAbs := cop_dvd (m := 30030) (n := 17) rfl rfl y30030 z17
  have y9699690 : 9699690 ∣ a.natAbs := cop_dvd (m := 510510) (n := 19) rfl rfl y510510 z19
  have y223092870 : 223092870 ∣ a.natAbs := cop_dvd (m := 9699690) (n := 23) rfl rfl y9699690 z23
  have y6469693230 : 6469693230 ∣ a.natAbs := cop_dvd (m := 223092870) (n := 29) rfl rfl y223092870 z29
  have y200560490130 : 200560490130 ∣ a.natAbs := cop_dvd (m := 6469693230) (n := 31) rfl rfl y6469693230 z31
  have w := Nat.le_of_dvd hpos y200560490130
  have e2 : a.natAbs < 137438953472 := hb
  exact absurd (Nat.le_trans w (Nat.le_of_lt e2)) (by decide)
theorem factor_ok {a w : Int} (h0 : a ≠ 0) (hb : a.natAbs < 2 ^ 37) (hw : 2 ≤ w ∧ w ≤ 37) : ∃ f : Int, f_l_factor [.int a, .int w] = .ok (.int f) ∧ (2 ≤ f ∧ f ≤ 37) ∧ Int.gcd f a = 1 := by
  obtain ⟨f, e, h | ⟨h1, h2⟩⟩ := factor_ev a w
  · exact (no37 h0 hb h.2).elim
  · refine ⟨f, e, ?_, h2⟩
    rcases h1 with h1 | h1
    · rw [h1]
      exact hw
    · simp only [List.mem_cons, List.not_mem_nil, or_false] at h1
      omega
theorem common_ix {a b c d k : Int} (hk : 0 ≤ k ∧ k < 8) (ha : 1 ≤ a ∧ a ≤ 6) (hb : b ≠ 0) (hb2 : b.natAbs ≤ 3) (hc : 1 ≤ c ∧ c ≤ 2) (hd : d.natAbs ≤ 1) :
    ∃ l, oIx (.list [.list [.int 1], .list [.int 1], .list [.int 1], .list [.int 1], .list [.int a], .list [.int b, .int 1], .list [.int b, .int c], .list [.int b, .int d, .int 1]]) (.int k) = .ok (L l) ∧ Lok l := by
  have one : Lok [1] := .inl ⟨1, rfl, by decide, by decide⟩
  have hk2 : k = 0 ∨ k = 1 ∨ k = 2 ∨ k = 3 ∨ k = 4 ∨ k = 5 ∨ k = 6 ∨ k = 7 := by omega
  rcases hk2 with h | h | h | h | h | h | h | h <;> subst h
  · exact ⟨[1], rfl, one⟩
  · exact ⟨[1], rfl, one⟩
  · exact ⟨[1], rfl, one⟩
  · exact ⟨[1], rfl, one⟩
  · exact ⟨[a], rfl, .inl ⟨a, rfl, ha.1, ha.2⟩⟩
  · exact ⟨[b, 1], rfl, .inr (.inl ⟨b, 1, rfl, hb, hb2, by decide, by decide⟩)⟩
  · exact ⟨[b, c], rfl, .inr (.inl ⟨b, c, rfl, hb, hb2, hc.1, hc.2⟩)⟩
  · exact ⟨[b, d, 1], rfl, .inr (.inr ⟨b, d, rfl, hb, hb2, hd⟩)⟩
theorem first_ix {k : Int} (hk : 0 ≤ k ∧ k < 5) : ∃ b : Int, oIx (.list [.int 1, .int (-1), .int 2, .int (-2), .int 3]) (.int k) = .ok (.int b) ∧ b ≠ 0 ∧ b.natAbs ≤ 3 := by
  have hk2 : k = 0 ∨ k = 1 ∨ k = 2 ∨ k = 3 ∨ k = 4 := by omega
  rcases hk2 with h | h | h | h | h <;> subst h
  · exact ⟨1, rfl, by decide, by decide⟩
  · exact ⟨-1, rfl, by decide, by decide⟩
  · exact ⟨2, rfl, by decide, by decide⟩
  · exact ⟨-2, rfl, by decide, by decide⟩
  · exact ⟨3, rfl, by decide, by decide⟩
theorem count_ix {k : Int} (hk : 0 ≤ k ∧ k < 12) : ∃ n : Nat, oIx (.list [.int 1, .int 2, .int 3, .int 4, .int 1, .int 2, .int 3, .int 4, .int 2, .int 3, .int 4, .int 0]) (.int k) = .ok (.int (n : Nat)) ∧ n ≤ 4 := by
  have hk2 : k = 0 ∨ k = 1 ∨ k = 2 ∨ k = 3 ∨ k = 4 ∨ k = 5 ∨ k = 6 ∨ k = 7 ∨ k = 8 ∨ k = 9 ∨ k = 10 ∨ k = 11 := by omega
  rcases hk2 with h | h | h | h | h | h | h | h | h | h | h | h <;> subst h
  · exact ⟨1, rfl, by decide⟩
  · exact ⟨2, rfl, by decide⟩
  · exact ⟨3, rfl, by decide⟩
  · exact ⟨4, rfl, by decide⟩
  · exact ⟨1, rfl, by decide⟩
  · exact ⟨2, rfl, by decide⟩
  · exact ⟨3, rfl, by decide⟩
  · exact ⟨4, rfl, by decide⟩
  · exact ⟨2, rfl, by decide⟩
  · exact ⟨3, rfl, by decide⟩
  · exact ⟨4, rfl, by decide⟩
  · exact ⟨0, rfl, by decide⟩
theorem comp_out {g : Gx} {c : Tx} {e : Fx} {δ : Ev} (p : List Int → Bool) : ∀ (S : List (List Int)), (∀ s ∈ S, ∃ δ1, g (L s) δ = some δ1 ∧ c δ1 = .ok (p s) ∧ e δ1 = .ok (L s)) → compGo g c e δ (S.map fun s => L s) = .ok ((S.filter p).map fun s => L s)
  | [], _ => rfl
  | s :: S, h => by
    obtain ⟨δ1, h1, h2, h3⟩ := h s (by simp)
    have ih := comp_out p S fun x hx => h x (by simp [hx])
    rw [List.map_cons]
    unfold compGo
    simp only [h1, h2, h3]
    cases hs : p s with
    | true => simp [hs, ih]
    | false => simp [hs, ih]
theorem raw_bd {l : List Int} (hl : Lok l) : ∀ (r : List (Int × List Int)) (t : Int) (n : Nat), Lim r → Good r → r.length + n ≤ 4 → t.natAbs < 2 ^ (6 * n + 1) → ∀ s ∈ rawL l t r, Bd 250 s ∧ s.length ≤ 19
  | [], t, n, hm, hg, h4, ht, s, hs => by
    have e : s = sc [1] l t := by simpa [rawL] using hs
    have c := hl.len
    refine ⟨fun k => ?_, by rw [e, sc_len t (by simp) hl.ne]; show 1 + _ ≤ 19; omega⟩
    rw [e, cf_sc]
    exact Nat.lt_of_lt_of_le (natAbs_mul_lt ht (act_bd hl.bd (topH_bd [] trivial).1 _ _)) (Nat.pow_le_pow_right (by decide) (by simp at h4 ⊢; omega))
  | (f, h) :: r, t, n, hm, hg, h4, ht, s, hs => by
    have h4' : r.length + 1 + n ≤ 4 := h4
    rcases List.mem_append.mp hs with h1 | h1
    · refine raw_bd hl r (t * f) (n + 1) hm.1 hg.1 (by omega) ?_ s h1
      have := natAbs_mul_lt ht (show f.natAbs < 2 ^ 6 by have := hm.2.1; omega)
      rw [show 6 * (n + 1) + 1 = 6 * n + 1 + 6 by omega]
      exact this
    · have e : s = sc h l t := by simpa using h1
      have c := hl.len
      have tl := topH_len ((f, h) :: r) hm
      have tl2 : h.length ≤ 1 + 4 * (r.length + 1) := tl
      refine ⟨fun k => ?_, by rw [e, sc_len t hg.ne hl.ne]; omega⟩
      rw [e, cf_sc]
      exact Nat.lt_of_lt_of_le (natAbs_mul_lt ht (act_bd hl.bd hm.2.2.2.1 _ _)) (Nat.pow_le_pow_right (by decide) (by omega))
theorem rawL_len (l : List Int) : ∀ (r : List (Int × List Int)) (t : Int), (rawL l t r).length = r.length + 1
  | [], t => rfl
  | (f, h) :: r, t => by
    show (rawL l (t * f) r ++ [sc h l t]).length = _
    rw [List.length_append, rawL_len l r]
    rfl
end K83
end

section
set_option Elab.async false
set_option linter.all false
set_option autoImplicit false
set_option maxRecDepth 10000
set_option maxHeartbeats 1000000
/-! K83U: the stairs evaluated. -/
namespace K83
open PySem Dt

theorem stairs_ev (ns : List Int) (hns : ns.length ≤ 63) : ∃ l r, Lok l ∧ Good r ∧ Lim r ∧ r.length ≤ 4 ∧ f_l_stairs [L ns] = .ok (.list ((tidy (rawL l 1 r)).map fun s => L s)) := by
  suffices h : OKs (f_l_stairs [L ns]) (fun d => ∃ l r, Lok l ∧ Good r ∧ Lim r ∧ r.length ≤ 4 ∧ d = .list ((tidy (rawL l 1 r)).map fun s => L s)) by
    obtain ⟨d, e, l, r, h1, h2, h3, h4, rfl⟩ := h
    exact ⟨l, r, h1, h2, h3, h4, e⟩
  refine run_ok rfl ?_
  obtain ⟨c1, ec1⟩ := cell_ok ns 1 (by decide)
  obtain ⟨shape, ed1, D1⟩ := digits_ok c1 [12, 8, 5, 3, 8] (by
    intro k hk
    have : k = 0 ∨ k = 1 ∨ k = 2 ∨ k = 3 ∨ k = 4 := by simp at hk; omega
    rcases this with h | h | h | h | h <;> subst h <;> decide) (by decide)
  have ec1' : f_l_cell [L ns, .int 1] = .ok (.int c1) := ec1
  have ed1' : f_l_digits [.int c1, .list [.int 12, .int 8, .int 5, .int 3, .int 8]] = .ok (L shape) := ed1
  have hsl : shape.length = 5 := D1.len
  have q0 : cf shape 0 < 12 := D1.hi 0 (by decide)
  have q1 : cf shape 1 < 8 := D1.hi 1 (by decide)
  have q2 : cf shape 2 < 5 := D1.hi 2 (by decide)
  have q3 : cf shape 3 < 3 := D1.hi 3 (by decide)
  have p0 := D1.lo 0
  have p1 := D1.lo 1
  have p2 := D1.lo 2
  have p3 := D1.lo 3
  have x0 : oIx (L shape) (.int 0) = .ok (.int (cf shape 0)) := oIx_L rfl (by omega)
  have x1 : oIx (L shape) (.int 1) = .ok (.int (cf shape 1)) := oIx_L rfl (by omega)
  have x2 : oIx (L shape) (.int 2) = .ok (.int (cf shape 2)) := oIx_L rfl (by omega)
  have x3 : oIx (L shape) (.int 3) = .ok (.int (cf shape 3)) := oIx_L rfl (by omega)
  have x4 : oIx (L shape) (.int 4) = .ok (.int (cf shape 4)) := oIx_L rfl (by omega)
  obtain ⟨b, eb, hb1, hb2⟩ := first_ix (k := cf shape 2) ⟨p2, q2⟩
  obtain ⟨n, en, hn⟩ := count_ix (k := cf shape 0) ⟨p0, q0⟩
  have hc3 := fmod_pos (a := cf shape 3) (b := 2) (by decide)
  obtain ⟨l0, el, hl0⟩ := common_ix (a := 2 + cf shape 2) (b := b) (c := 1 + (cf shape 3).fmod 2) (d := cf shape 3 - 1) (k := cf shape 1) ⟨p1, q1⟩ (by omega) hb1 hb2 (by omega) (by omega)
  generalize hcom : PyData.list [.list [.int 1], .list [.int 1], .list [.int 1], .list [.int 1], .list [.int (2 + cf shape 2)], .list [.int b, .int 1], .list [.int b, .int (1 + (cf shape 3).fmod 2)], .list [.int b, .int (cf shape 3 - 1), .int 1]] = com at el
  have b1 := wRange_1 (n := n) (by omega)
  simp [g_l_stairs, ec1', ed1', x2, eb, x3, x0, en, b1, hcom]
  refine wp_forR (fun i δ => ∃ r x6 x7 x8, δ = [some (L ns), some (L shape), some (.int b), some com, some (.list ((hds r).map fun s => L s)), some (L (fcs r)), x6, x7, x8, none, none, none, none, none] ∧ Good r ∧ Lim r ∧ r.length = i) ⟨[], none, none, none, rfl, trivial, trivial, rfl⟩ ?_ ?_
  · rintro i δ hi ⟨r, x6, x7, x8, rfl, g, hm, hr⟩
    have e0 : (0 : Int) + (i : Int) * 1 = i := by omega
    rw [e0]
    refine ⟨_, rfl, ?_⟩
    obtain ⟨c, ec⟩ := cell_ok ns (2 + i) (by omega)
    have ec' : f_l_cell [L ns, .int (2 + (i : Int))] = .ok (.int c) := ec
    obtain ⟨row, ed, D⟩ := digits_ok c [4, 7, 7, 7, 7, 11, 5, 5, 5, 60, 60, 60] (by
      intro k hk
      have : k = 0 ∨ k = 1 ∨ k = 2 ∨ k = 3 ∨ k = 4 ∨ k = 5 ∨ k = 6 ∨ k = 7 ∨ k = 8 ∨ k = 9 ∨ k = 10 ∨ k = 11 := by simp at hk; omega
      rcases this with h | h | h | h | h | h | h | h | h | h | h | h <;> subst h <;> decide) (by decide)
    have ed' : f_l_digits [.int c, .list [.int 4, .int 7, .int 7, .int 7, .int 7, .int 11, .int 5, .int 5, .int 5, .int 60, .int 60, .int 60]] = .ok (L row) := ed
    have hrl : row.length = 12 := D.len
    have r5 : cf row 5 < 11 := D.hi 5 (by decide)
    have r5' := D.lo 5
    obtain ⟨h, eh, h1, h2, h3, h4, h5, h6, h7⟩ := head_ev g hm (by omega) hrl D.lo
      (fun k k1 k2 => by
        have : k = 1 ∨ k = 2 ∨ k = 3 ∨ k = 4 := by omega
        rcases this with h | h | h | h <;> subst h
        · exact D.hi 1 (by decide)
        · exact D.hi 2 (by decide)
        · exact D.hi 3 (by decide)
        · exact D.hi 4 (by decide))
      (fun k k1 k2 => by
        have : k = 6 ∨ k = 7 ∨ k = 8 := by omega
        rcases this with h | h | h <;> subst h
        · exact D.hi 6 (by decide)
        · exact D.hi 7 (by decide)
        · exact D.hi 8 (by decide)) (tall := if cf shape 4 = 7 then 1 else 0) (by split <;> simp)
    have hhl : 0 < h.length := by omega
    obtain ⟨f, ef, f1, f2⟩ := factor_ok (a := cf h 0) (w := 2 + cf row 5) h7 (Nat.lt_of_lt_of_le h6 (Nat.pow_le_pow_right (by decide) (by omega))) (by omega)
    have m1 : oIx (L h) (.int 0) = .ok (.int (cf h 0)) := oIx_L rfl hhl
    have m2 : oIx (L row) (.int 5) = .ok (.int (cf row 5)) := oIx_L rfl (by omega)
    have s1 : (fcs r).length < SL := by rw [fcs_len]; show _ < 16777216; omega
    have s2 : (hds r).length < SL := by rw [hds_len]; show _ < 16777216; omega
    have eb : bInt [.bool (cf shape 4 == 7)] = .ok (.int (if cf shape 4 = 7 then 1 else 0)) := by
      rw [bInt_bool]
      by_cases h : cf shape 4 = 7 <;> simp [h]
    simp [ec', ed', x4, eb, eh, m1, m2, ef, s1, s2, -bInt_bool]
    refine ⟨(f, h) :: r, ⟨?_, ?_⟩, ⟨g, h1, h2, h3, by omega, f2⟩, ⟨hm, f1, h4, h5, h6, h7⟩, by simp [hr]⟩
    · simp [hds]
    · simp [fcs]
  · rintro δ ⟨r, x6, x7, x8, rfl, g, hm, hr⟩
    have one : Lok [1] := .inl ⟨1, rfl, by decide, by decide⟩
    simp [x1, el]
    refine wp_for (fun i δ => ∃ x9 x10 x11 x12 x13, δ = [some (L ns), some (L shape), some (.int b), some com, some (.list ((hds r).map fun s => L s)), some (L (fcs r)), x6, x7, x8, x9, x10, x11, x12, x13] ∧ (0 < i → ∃ l, Lok l ∧ x10 = some (.list ((tidy (rawL l 1 r)).map fun s => L s)))) ⟨none, none, none, none, none, rfl, fun h => absurd h (Nat.lt_irrefl 0)⟩ ?_ ?_
    · rintro i d δ hi ⟨x9, x10, x11, x12, x13, rfl, hx⟩
      obtain ⟨l, rfl, hl⟩ : ∃ l, d = L l ∧ Lok l := by
        cases i with
        | zero =>
          cases hi
          exact ⟨l0, rfl, hl0⟩
        | succ i =>
          cases i with
          | zero =>
            cases hi
            exact ⟨[1], rfl, one⟩
          | succ i => cases hi
      refine ⟨_, rfl, ?_⟩
      have b2 := wRange_1 (n := (hds r).length) (by rw [hds_len]; omega)
      simp [b2]
      refine wp_forR (fun j δ => ∃ acc t x12, δ = [some (L ns), some (L shape), some (.int b), some com, some (.list ((hds r).map fun s => L s)), some (L (fcs r)), x6, x7, x8, some (L l), some (.list (acc.map fun s => L s)), some (.int t), x12, x13] ∧ ((j ≤ r.length ∧ t = tp r j ∧ rawL l 1 r = rawL l t (r.drop j) ++ acc) ∨ (j = r.length + 1 ∧ acc = rawL l 1 r))) ⟨[], 1, x12, rfl, .inl ⟨Nat.zero_le _, rfl, by simp⟩⟩ ?_ ?_
      · rintro j δ hj ⟨acc, t, x12, rfl, hinv⟩
        rw [hds_len] at hj
        have e0 : (0 : Int) + (j : Int) * 1 = j := by omega
        rw [e0]
        refine ⟨_, rfl, ?_⟩
        rcases hinv with ⟨i1, i2, i3⟩ | ⟨i1, i2⟩
        case inr => omega
        have ep : (r.length : Int) - (j : Int) = ((r.length - j : Nat) : Int) := by omega
        have m1 : oIx (.list ((hds r).map fun s => L s)) (.int ((r.length - j : Nat) : Int)) = .ok (L (topH (r.drop j))) :=
          oIx_list (k := r.length - j) rfl (by rw [List.getElem?_map, hds_get r j i1]; rfl)
        have gH := topH_bd (r.drop j) (Lim.drop j r hm)
        have gl := topH_len (r.drop j) (Lim.drop j r hm)
        rw [List.length_drop] at gH gl
        have gp := Good.top_pos (r.drop j) (Good.drop j r g)
        have gt := tp_bd hm j i1
        have hll := hl.len
        have m2 := prod_ev (topH (r.drop j)) l gH.1 hl.bd (by omega) (by omega) (by omega)
        have hp1 : Bd 80 (prod (topH (r.drop j)) l) := fun k => by
          unfold prod
          rw [cf_prodN]
          exact Nat.lt_of_lt_of_le (act_bd hl.bd gH.1 _ k) (Nat.pow_le_pow_right (by decide) (by omega))
        have hp2 := prod_len (a := topH (r.drop j)) (b := l) (List.length_pos_iff.mp gp) hl.ne
        have hp3 : Bd 30 [t] := Bd.of_mem fun x hx => by
          have : x = t := by simpa using hx
          rw [this, i2]
          exact Nat.lt_of_lt_of_le gt.2 (Nat.pow_le_pow_right (by decide) (by omega))
        have m3 : f_l_product [L (prod (topH (r.drop j)) l), .list [.int t]] = .ok (L (sc (topH (r.drop j)) l t)) := prod_ev _ [t] hp1 hp3 (by decide) (by omega) (by show 1 ≤ 1000; decide)
        have hal : acc.length ≤ 5 := by
          have e := congrArg List.length i3
          rw [rawL_len, List.length_append] at e
          omega
        have m4 : oAdd (.list [L (sc (topH (r.drop j)) l t)]) (.list (acc.map fun s => L s)) = .ok (.list ((sc (topH (r.drop j)) l t :: acc).map fun s => L s)) := by
          have : [L (sc (topH (r.drop j)) l t)].length + (acc.map fun s => L s).length ≤ SL := by
            show _ ≤ 16777216
            simp
            omega
          show (if _ then Res.ok _ else _) = _
          rw [if_pos this]
          rfl
        by_cases hjl : j < r.length
        · have hjl2 : (j : Int) < (r.length : Int) := by omega
          have ep2 : (r.length : Int) - 1 - (j : Int) = ((r.length - 1 - j : Nat) : Int) := by omega
          have m5 : oIx (L (fcs r)) (.int ((r.length - 1 - j : Nat) : Int)) = .ok (.int (fI r j)) :=
            oIx_list (k := r.length - 1 - j) rfl (by rw [List.getElem?_map, fcs_get r j hjl]; rfl)
          have hfI := fI_bd hm hjl
          have m6 : oMul (.int t) (.int (fI r j)) = .ok (.int (t * fI r j)) := oMul_r (by omega)
          simp [hds_len, fcs_len, ep, m1, m2, m3, m4, hjl2, hjl, ep2, m5, m6]
          refine ⟨sc (topH (r.drop j)) l t :: acc, t * fI r j, ?_, .inl ⟨hjl, ?_, ?_⟩⟩
          · simp
          · rw [i2]
            rfl
          · rw [i3]
            obtain ⟨hd, e⟩ := drop_cons hjl
            rw [e]
            show (rawL l (t * fI r j) (r.drop (j + 1)) ++ [sc hd l t]) ++ acc = _
            rw [List.append_assoc]
            rfl
        · have hjl2 : ¬ (j : Int) < (r.length : Int) := by omega
          simp [hds_len, fcs_len, ep, m1, m2, m3, m4, hjl2, hjl]
          refine ⟨sc (topH (r.drop j)) l t :: acc, t, by simp, ?_⟩
          · refine .inr ⟨by omega, ?_⟩
            rw [i3]
            have : j = r.length := by omega
            rw [this, List.drop_length]
            rfl
      · rintro δ ⟨acc, t, x12, rfl, hinv⟩
        rw [hds_len] at hinv
        have hacc : acc = rawL l 1 r := by
          rcases hinv with ⟨i1, _⟩ | ⟨_, i2⟩
          · omega
          · exact i2
        rw [hacc]
        have hrb := raw_bd hl r 1 0 hm g (by omega) (by decide)
        obtain ⟨F1, F2, F3, F4, F5⟩ := fine_tidy hl g hm (by omega)
        have hrl := rawL_len l r 1
        have et := tidy_ev (w := 82) (by decide) (rawL l 1 r) (by omega) (m := 250) (fun s hs => (hrb s hs).1) (by decide) (fun s hs => by have := (hrb s hs).2; omega) (fun i hi => fine_take F1 i (Nat.le_of_lt hi))
        have htl : (tidy (rawL l 1 r)).length ≤ 1000 := by
          have := tidy_len (rawL l 1 r) []
          unfold tidy
          rw [this]
          simp
          omega
        generalize hT : tidy (rawL l 1 r) = S at *
        have hS2 : S.length ≤ 16777216 := by omega
        have ec := comp_out (g := gN 13) (c := tNot (tB (xN f_l_within (aCons (xName 13) aNil)))) (e := xName 13) (δ := [some (L ns), some (L shape), some (.int b), some com, some (.list ((hds r).map fun s => L s)), some (L (fcs r)), x6, x7, x8, some (L l), some (.list (S.map fun s => L s)), some (.int t), x12, none]) (fun s => !within s) S fun s hs => ⟨_, rfl, by
          have w : f_l_within [L s] = .ok (.bool (within s)) := within_ev false s (by have := F3 s hs; omega)
          simp [w], by simp⟩
        simp [et, hS2, ec]
        split
        · simp
          exact ⟨l, hl, r, g, hm, by omega, by rw [hT]⟩
        · simp
          exact ⟨_, _, ⟨rfl, rfl⟩, l, hl, by rw [hT]⟩
    · rintro δ ⟨x9, x10, x11, x12, x13, rfl, hx⟩
      obtain ⟨l, hl, rfl⟩ := hx (by show 0 < 2; decide)
      simp
      exact ⟨l, hl, r, g, hm, by omega, rfl⟩
end K83
end

section
set_option Elab.async false
set_option linter.all false
set_option autoImplicit false
set_option maxRecDepth 10000
set_option maxHeartbeats 1000000
/-! K83V: texts of data; what the law makes of the stairs. -/
namespace K83
open PySem Dt

structure Sh (k B : Nat) (d : D) : Prop where
  able : d.showable = true
  deep : d.depth ≤ k
  len : d.shown.length ≤ B
theorem sh_all {k B : Nat} : ∀ ds : List D, (∀ d ∈ ds, Sh k B d) → PyData.showableAll ds = true ∧ PyData.depthAll ds ≤ k ∧ ((PyData.shownAll ds).map (·.length)).sum + 2 * (PyData.shownAll ds).length ≤ (B + 2) * ds.length
  | [], _ => ⟨rfl, Nat.zero_le _, Nat.le_refl _⟩
  | d :: ds, h => by
    obtain ⟨h1, h2, h3⟩ := h d (by simp)
    obtain ⟨i1, i2, i3⟩ := sh_all ds fun x hx => h x (by simp [hx])
    refine ⟨by simp only [PyData.showableAll, h1, i1]; rfl, by simp only [PyData.depthAll]; omega, ?_⟩
    simp only [PyData.shownAll, List.map_cons, List.sum_cons, List.length_cons]
    have e : (B + 2) * (ds.length + 1) = (B + 2) * ds.length + (B + 2) := Nat.mul_succ _ _
    rw [e]
    omega
theorem sh_list {k B n : Nat} {ds : List D} (h : ∀ d ∈ ds, Sh k B d) (hn : ds.length ≤ n) : Sh (k + 1) ((B + 2) * n + 3) (.list ds) := by
  obtain ⟨h1, h2, h3⟩ := sh_all ds h
  refine ⟨by simp only [PyData.showable, h1], by simp only [PyData.depth]; omega, ?_⟩
  have z := listText_len_le (PyData.shownAll ds)
  have y : (B + 2) * ds.length ≤ (B + 2) * n := Nat.mul_le_mul_left _ hn
  simp only [PyData.shown]
  omega
theorem sh_tuple {k B n : Nat} {ds : List D} (h : ∀ d ∈ ds, Sh k B d) (hn : ds.length ≤ n) : Sh (k + 1) ((B + 2) * n + 3) (.tuple ds) := by
  obtain ⟨h1, h2, h3⟩ := sh_all ds h
  refine ⟨by simp only [PyData.showable, h1], by simp only [PyData.depth]; omega, ?_⟩
  have z := tupleText_len_le (PyData.shownAll ds)
  have y : (B + 2) * ds.length ≤ (B + 2) * n := Nat.mul_le_mul_left _ hn
  simp only [PyData.shown]
  omega
theorem sh_int {i : Int} (h : i.natAbs < 2 ^ 1920) : Sh 0 1921 (.int i) := by
  have hl : i.natAbs.log2 < 1920 := by
    by_cases h0 : i.natAbs = 0
    · rw [h0]
      decide
    · exact (Nat.log2_lt h0).mpr h
  refine ⟨by simp only [PyData.showable, decide_eq_true_eq]; exact hl, Nat.le_refl _, ?_⟩
  have e := int_text_length_le (k := 1920) (by decide) hl
  simp only [PyData.shown]
  show (Str.ofString (toString i)).length ≤ _
  rw [ofString_length]
  exact e
theorem sh_ints {xs : List Int} {m : Nat} (h : Bd m xs) (hm : m ≤ 1920) : ∀ d ∈ xs.map PyData.int, Sh 0 1921 d := fun d hd => by
  obtain ⟨x, hx, rfl⟩ := List.mem_map.mp hd
  refine sh_int ?_
  obtain ⟨i, hi, e⟩ := List.mem_iff_getElem.mp hx
  have := h i
  rw [cf_lt hi, e] at this
  exact Nat.lt_of_lt_of_le this (Nat.pow_le_pow_right (by decide) hm)
theorem rep_of {k B : Nat} {d : D} (h : Sh k B d) (hk : k ≤ 64) (hB : B ≤ 16777216) : bRepr [d] = .ok (.str d.shown) := by
  have h1 := h.able
  have h2 : d.depth ≤ 64 := Nat.le_trans h.deep hk
  have h3 : d.shown.length ≤ SL := Nat.le_trans h.len hB
  show (if (d.showable && decide (d.depth ≤ 64) && decide (d.shown.length ≤ SL)) = true then Res.ok (PyData.str d.shown) else .er) = _
  rw [if_pos]
  simp only [h1, h2, h3, decide_true, Bool.and_self]
theorem rep_L {xs : List Int} {m : Nat} (h : Bd m xs) (hm : m ≤ 1920) (hl : xs.length ≤ 100) : bRepr [L xs] = .ok (.str (L xs).shown) := rep_of (sh_list (n := 100) (sh_ints h hm) (by simpa using hl)) (by decide) (by decide)
theorem rep_T {xs : List Int} {m : Nat} (h : Bd m xs) (hm : m ≤ 1920) (hl : xs.length ≤ 100) : bRepr [T xs] = .ok (.str (T xs).shown) := rep_of (sh_tuple (n := 100) (sh_ints h hm) (by simpa using hl)) (by decide) (by decide)
theorem rep_LL {S : List (List Int)} {m : Nat} (h : ∀ s ∈ S, Bd m s) (hm : m ≤ 1920) (hl : ∀ s ∈ S, s.length ≤ 20) (hS : S.length ≤ 100) : bRepr [.list (S.map fun s => L s)] = .ok (.str (PyData.list (S.map fun s => L s)).shown) := by
  refine rep_of (sh_list (k := 1) (B := (1921 + 2) * 20 + 3) (n := 100) (fun d hd => ?_) (by simpa using hS)) (by decide) (by decide)
  obtain ⟨s, hs, rfl⟩ := List.mem_map.mp hd
  exact sh_list (sh_ints (h s hs) hm) (by simpa using hl s hs)
theorem rep_B (b : Bool) : bRepr [.bool b] = .ok (.str (PyData.bool b).shown) := by
  refine rep_of (k := 0) (B := 5) ⟨rfl, Nat.le_refl _, ?_⟩ (by decide) (by decide)
  cases b <;> decide
/-! ### made of stairs -/
theorem made_ev {S : List (List Int)} {A : P → Prop} (hA : Mod A) (hM : ∀ s ∈ S, A (cf s)) (hF : Fine 82 S) (h19 : ∀ s ∈ S, s.length ≤ 19) (hne : S ≠ []) (hS : S.length ≤ 1000) {row : List Int} (hrl : row.length = 20) (hr0 : ∀ k, 0 ≤ cf row k) (hr1 : ∀ k, k < 5 → cf row (4 * k + 2) < 601) :
    ∃ made, f_l_made [.list (S.map fun s => L s), L row] = .ok (L made) ∧ within made = true ∧ A (cf made) := by
  suffices h : OKs (f_l_made [.list (S.map fun s => L s), L row]) (fun d => ∃ made, d = L made ∧ within made = true ∧ A (cf made)) by
    obtain ⟨d, e, made, rfl, h⟩ := h
    exact ⟨made, e, h⟩
  refine run_ok rfl ?_
  have b1 : wRange [.int 5] = .ok (rangeL 0 5 1) := wRange_1 (n := 5) (by decide)
  have hSp : 0 < S.length := List.length_pos_iff.mpr hne
  have hSn : (S.length : Int) ≠ 0 := by omega
  simp [g_l_made, b1]
  refine wp_forR (fun i δ => ∃ ys x3 x4 x5 x6 x7 x8, δ = [some (.list (S.map fun s => L s)), some (L row), some (L ys), x3, x4, x5, x6, x7, x8] ∧ within ys = true ∧ A (cf ys)) ⟨[], none, none, none, none, none, none, rfl, rfl, cg hA.zero fun k => (cf_nil k).symm⟩ ?_ ?_
  · rintro i δ hi ⟨ys, x3, x4, x5, x6, x7, x8, rfl, y1, y2⟩
    have e0 : (0 : Int) + (i : Int) * 1 = i := by omega
    rw [e0]
    refine ⟨_, rfl, ?_⟩
    have pick : ∀ k, k < 20 → ∃ s, s ∈ S ∧ oIx (.list (S.map fun s => L s)) (.int ((cf row k).fmod (S.length : Int))) = .ok (L s) := fun k hk => by
      have z := fmod_pos (a := cf row k) (b := (S.length : Int)) (by omega)
      have hj : ((cf row k).fmod (S.length : Int)).toNat < S.length := by omega
      refine ⟨S[((cf row k).fmod (S.length : Int)).toNat], List.getElem_mem hj, oIx_list (k := ((cf row k).fmod (S.length : Int)).toNat) (by omega) ?_⟩
      rw [List.getElem?_map, List.getElem?_eq_getElem hj]
      rfl
    obtain ⟨one, ho, eo⟩ := pick (4 * i) (by omega)
    obtain ⟨two, hw, ew⟩ := pick (4 * i + 1) (by omega)
    have m1 : oMul (.int 4) (.int i) = .ok (.int (4 * (i : Int))) := oMul_l (by decide)
    have m2 : oIx (L row) (.int (4 * (i : Int))) = .ok (.int (cf row (4 * i))) := oIx_L (by omega) (by omega)
    have m3 : oIx (L row) (.int (4 * (i : Int) + 1)) = .ok (.int (cf row (4 * i + 1))) := oIx_L (by omega) (by omega)
    have m4 : oIx (L row) (.int (4 * (i : Int) + 2)) = .ok (.int (cf row (4 * i + 2))) := oIx_L (by omega) (by omega)
    have m5 : oIx (L row) (.int (4 * (i : Int) + 3)) = .ok (.int (cf row (4 * i + 3))) := oIx_L (by omega) (by omega)
    have lo := h19 one ho
    have lw := h19 two hw
    have no := hF.ne one ho
    have nw := hF.ne two hw
    have po := List.length_pos_iff.mpr no
    have pw := List.length_pos_iff.mpr nw
    have do' := hF.ld one ho
    have dw := hF.ld two hw
    have bo := hF.bd one ho
    have bw := hF.bd two hw
    have emax : (if one.length < two.length then (two.length : Int) else (one.length : Int)) = ((max one.length two.length : Nat) : Int) := by split <;> omega
    have hsh := fmod_pos (a := cf row (4 * i + 3)) (b := 21 - ((max one.length two.length : Nat) : Int)) (by omega)
    obtain ⟨sh, es⟩ : ∃ sh : Nat, (cf row (4 * i + 3)).fmod (21 - ((max one.length two.length : Nat) : Int)) = sh := ⟨((cf row (4 * i + 3)).fmod (21 - ((max one.length two.length : Nat) : Int))).toNat, by omega⟩
    rw [es] at hsh
    have m6 : oMod (.int (cf row (4 * i + 3))) (.int (21 - ((max one.length two.length : Nat) : Int))) = .ok (.int (sh : Nat)) := by
      rw [oMod_ (by omega), es]
    have m7 : oMod (.int (cf row (4 * i))) (.int (S.length : Int)) = .ok (.int ((cf row (4 * i)).fmod (S.length : Int))) := oMod_ hSn
    have m8 : oMod (.int (cf row (4 * i + 1))) (.int (S.length : Int)) = .ok (.int ((cf row (4 * i + 1)).fmod (S.length : Int))) := oMod_ hSn
    have r0 := hr0 (4 * i + 2)
    have r1 := hr1 i hi
    have hq : ∀ t : Int, t.natAbs ≤ 300 → t.natAbs < 2 ^ 9 := fun t h => by omega
    obtain ⟨t1, ht1, bt1⟩ : ∃ t1 : Int, cf row (4 * i + 2) - 300 = t1 ∧ t1.natAbs ≤ 300 := ⟨_, rfl, by omega⟩
    have ft := fmod_pos (a := t1) (b := 100) (by decide)
    have ft2 := Int.fmod_add_mul_fdiv t1 100
    obtain ⟨t2, ht2, bt2⟩ : ∃ t2 : Int, t1.fdiv 100 = t2 ∧ t2.natAbs ≤ 300 := ⟨_, rfl, by omega⟩
    have m9 : oDiv (.int t1) (.int 100) = .ok (.int t2) := by rw [← ht2]; exact oDiv_ (by decide) (by decide)
    simp [m1, m2, m3, m4, m5, eo, ew, emax, m6, m7, m8, ht1, m9, -oMod_eq, -oDiv_eq]
    refine wp_for (fun j δ => ∃ ys x7 x8, δ = [some (.list (S.map fun s => L s)), some (L row), some (L ys), some (.int i), some (L one), some (L two), some (.int (sh : Nat)), x7, x8] ∧ within ys = true ∧ A (cf ys)) ⟨ys, x7, x8, rfl, y1, y2⟩ ?_ ?_
    · rintro j d δ hj ⟨ys, x7, x8, rfl, y1, y2⟩
      obtain ⟨t, rfl, bt⟩ : ∃ t : Int, d = .int t ∧ t.natAbs ≤ 300 := by
        cases j with
        | zero =>
          cases hj
          exact ⟨t1, rfl, bt1⟩
        | succ j =>
          cases j with
          | zero =>
            cases hj
            exact ⟨t2, rfl, bt2⟩
          | succ j => cases hj
      refine ⟨_, rfl, ?_⟩
      have yl := within_len y1
      have yb := within_Bd y1
      have k1 := sum_eq ys one t sh (fun k => oMul_l (by omega)) (by omega) (by omega)
      have fin : ∀ zs : List Int, zs.length ≤ 1000 → A (cf zs) → f_l_within [L zs] = .ok (.bool (within zs)) := fun zs hz _ => within_ev false zs (by omega)
      have a1 : A (cf (addS ys one t sh)) := cg (hA.add _ _ y2 (hA.smul t _ (hA.up (hM one ho) sh))) fun k => (cf_addS _ _ _ _ _).symm
      by_cases hlt : one.length < two.length
      · have n1 := ld_L no
        have n2 := ld_L nw
        have n3 : oDiv (.int (ld one)) (.int (ld two)) = .ok (.int ((ld one).fdiv (ld two))) := oDiv_ (by omega) (by omega)
        have n4 : oMul (.int t) (.int ((ld one).fdiv (ld two))) = .ok (.int (t * (ld one).fdiv (ld two))) := oMul_l (by omega)
        have bq := fdiv_abs (ld one) dw.1 (n := 30) (by omega)
        generalize (ld one).fdiv (ld two) = q at *
        have bm := natAbs_mul_lt (hq t bt) bq
        have k2 := sum_eq ys two (t * q) sh (fun k => oMul_w bm (bw k) (by decide)) (by omega) (by omega)
        have ek : (sh : Int) + (two.length : Int) - (one.length : Int) = ((sh + two.length - one.length : Nat) : Int) := by omega
        have l2 := addS_len ys two (t * q) sh
        have k3 := sum_eq (addS ys two (t * q) sh) one (-t) (sh + two.length - one.length) (fun k => oMul_l (by omega)) (by omega) (by omega)
        have a2 : A (cf (addS ys two (t * q) sh)) := cg (hA.add _ _ y2 (hA.smul (t * q) _ (hA.up (hM two hw) sh))) fun k => (cf_addS _ _ _ _ _).symm
        have a3 : A (cf (addS (addS ys two (t * q) sh) one (-t) (sh + two.length - one.length))) := cg (hA.add _ _ a2 (hA.smul (-t) _ (hA.up (hM one ho) _))) fun k => (cf_addS _ _ _ _ _).symm
        have k4 := fin _ (by rw [addS_len]; omega) a3
        generalize addS (addS ys two (t * q) sh) one (-t) (sh + two.length - one.length) = zs at *
        cases hwz : within zs with
        | true =>
          simp [k1, hlt, n1, n2, n3, n4, k2, ek, k3, k4, hwz, -oDiv_eq]
          exact ⟨zs, rfl, hwz, a3⟩
        | false =>
          simp [k1, hlt, n1, n2, n3, n4, k2, ek, k3, k4, hwz, -oDiv_eq]
          exact ⟨ys, rfl, y1, y2⟩
      · have k4 := fin _ (by rw [addS_len]; omega) a1
        generalize addS ys one t sh = zs at *
        cases hwz : within zs with
        | true =>
          simp [k1, hlt, k4, hwz]
          exact ⟨zs, rfl, hwz, a1⟩
        | false =>
          simp [k1, hlt, k4, hwz]
          exact ⟨ys, rfl, y1, y2⟩
    · rintro δ ⟨ys, x7, x8, rfl, y1, y2⟩
      simp
      exact ⟨ys, rfl, y1, y2⟩
  · rintro δ ⟨ys, x3, x4, x5, x6, x7, x8, rfl, y1, y2⟩
    simp
    exact ⟨ys, rfl, y1, y2⟩
theorem change_ev {S : List (List Int)} (hF : Fine 82 S) (hb : ∀ s ∈ S, ld s < 16777216) {a b : Int} (ha : 0 ≤ a ∧ a < 8) (hb2 : 0 ≤ b ∧ b < 60) : ∃ c : Int, f_l_change [.list (S.map fun s => L s), .list [.int a, .int b]] = .ok (.int c) ∧ 0 < c ∧ c ≤ 1000000 := by
  suffices h : OKs (f_l_change [.list (S.map fun s => L s), .list [.int a, .int b]]) (fun d => ∃ c : Int, d = .int c ∧ 0 < c ∧ c ≤ 1000000) by
    obtain ⟨d, e, c, rfl, h⟩ := h
    exact ⟨c, e, h⟩
  refine run_ok rfl ?_
  have i0 : oIx (.list [.int a, .int b]) (.int 0) = .ok (.int a) := rfl
  have i1 : oIx (.list [.int a, .int b]) (.int 1) = .ok (.int b) := rfl
  have e6 : oPow (.int 10) (.int 6) = .ok (.int 1000000) := rfl
  cases S with
  | nil =>
    simp [g_l_change, i1]
    omega
  | cons s S =>
    have hs := hF.ne s (by simp)
    have hd := hF.ld s (by simp)
    have m1 := ld_L hs
    have m0 : oIx (.list (L s :: S.map fun s => L s)) (.int 0) = .ok (L s) := oIx_list (k := 0) rfl rfl
    have m2 : oMul (.int 2) (.int (ld s)) = .ok (.int (2 * ld s)) := oMul_l (by decide)
    have m3 : oMul (.int (ld s)) (.int (1 + b.fmod 5)) = .ok (.int (ld s * (1 + b.fmod 5))) := oMul_l (by omega)
    have pick : ∃ c : Int, oIx (.list [.int (1 + b), .int (ld s), .int (ld s + 1), .int (ld s - 1), .int (2 * ld s), .int (1 + b), .int (ld s * (1 + b.fmod 5)), .int ((ld s).fdiv 2)]) (.int a) = .ok (.int c) := by
      have : a = 0 ∨ a = 1 ∨ a = 2 ∨ a = 3 ∨ a = 4 ∨ a = 5 ∨ a = 6 ∨ a = 7 := by omega
      rcases this with h | h | h | h | h | h | h | h <;> subst h <;> exact ⟨_, rfl⟩
    obtain ⟨c, ec⟩ := pick
    have hn : ¬ ((S.length : Int) + 1 = 0) := by omega
    simp [g_l_change, hn, m0, m1, m2, m3, i0, i1, ec, e6]
    by_cases h1 : 0 < c
    · by_cases h2 : c ≤ 1000000
      · simp [h1, h2, i0, ec]
      · simp [h1, h2]
    · simp [h1]
end K83
end

section
set_option Elab.async false
set_option linter.all false
set_option autoImplicit false
set_option maxRecDepth 10000
set_option maxHeartbeats 1000000
/-! K83X: everything that the law's last part needs. -/
namespace K83
open PySem Dt

/-- one number at one place -/
def pin (p : Nat) (c : Int) : Nat → Int := fun k => if k = p then c else 0
structure Pack (S : List (List Int)) (A : P → Prop) : Prop where
  sys : Sys S A
  fine : Fine 82 S
  h19 : ∀ s ∈ S, s.length ≤ 19
  hld : ∀ s ∈ S, ld s < 16777216
  few : S.length ≤ 5
  held : ∀ p c, c ≠ 0 → (A (pin p c) ↔ ∃ s S', S = s :: S' ∧ s.length = 1 ∧ ld s ∣ c)
theorem pack_nil : Pack [] (fun u => ∀ k, u k = 0) where
  sys := {
    mod := ⟨fun _ => rfl, fun u v hu hv k => by simp only; rw [hu, hv]; rfl, fun c u hu k => by simp only; rw [hu, Int.mul_zero], fun u hu k => by
      unfold up
      split
      · rfl
      · exact hu _⟩
    fin := fun u hu => ⟨0, fun k _ => hu k⟩
    mem := fun s hs => by cases hs
    ne := fun s hs => by cases hs
    ld := fun s hs => by cases hs
    gb := fun u d hu _ h0 => absurd (hu d) h0 }
  fine := { ne := fun s hs => (by cases hs), ld := fun s hs => (by cases hs), len := fun s hs => (by cases hs), bd := fun s hs => (by cases hs) }
  h19 := fun s hs => by cases hs
  hld := fun s hs => by cases hs
  few := by decide
  held := fun p c hc => ⟨fun h => absurd (h p) (by unfold pin; rw [if_pos rfl]; exact hc), fun ⟨s, S', e, _⟩ => by cases e⟩
theorem pack_of {l : List Int} {r : List (Int × List Int)} (hl : Lok l) (g : Good r) (hm : Lim r) (h4 : r.length ≤ 4) : Pack (tidy (rawL l 1 r)) (M l r) := by
  obtain ⟨F1, F2, F3, F4, F5⟩ := fine_tidy hl g hm h4
  have hfew : (tidy (rawL l 1 r)).length ≤ 5 := by
    have := tidy_len (rawL l 1 r) []
    unfold tidy
    rw [this, rawL_len]
    simp
    omega
  obtain ⟨s, S', e1, e2, e3⟩ := shp_head hl.ne r 1 _ g F2
  refine ⟨F5, F1, F3, F4, hfew, fun p c hc => ⟨fun h => ?_, fun ⟨s1, S1, q1, q2, q3⟩ => ?_⟩⟩
  · have h0 : M l r (pin 0 c) := by
      induction p with
      | zero => exact h
      | succ p ih =>
        refine ih (M_sat g hl.c0 (cg h fun k => ?_))
        unfold pin up
        by_cases hk : k = p + 1
        · simp only
          rw [if_pos hk, if_neg (by omega), if_pos (by omega)]
        · rw [if_neg hk]
          split
          · rfl
          · simp only
            rw [if_neg (by omega)]
    obtain ⟨D, d1, d2⟩ := M_gb g hl.ne (by have := hl.ld.1; omega) h0 (d := 0) (fun k hk => by unfold pin; rw [if_neg (by omega)]) (by unfold pin; rw [if_pos rfl]; exact hc)
    have hD : D = 0 := by omega
    subst hD
    have hlen := hl.len
    refine ⟨s, S', e1, by omega, ?_⟩
    rw [e3, Int.one_mul]
    have : pin 0 c 0 = c := rfl
    rw [this] at d2
    exact d2
  · obtain ⟨q, hq⟩ := q3
    have hs := F5.mem s1 (by rw [q1]; simp)
    refine cg (F5.mod.smul q _ (F5.mod.up hs p)) fun k => ?_
    unfold pin up
    have e : ld s1 = cf s1 0 := by
      unfold ld
      rw [q2]
    by_cases hk : k = p
    · subst hk
      rw [if_neg (by omega), if_pos rfl, Nat.sub_self, ← e, hq, Int.mul_comm]
    · rw [if_neg hk]
      split
      · rw [Int.mul_zero]
      · rw [cf_of (xs := s1) (by omega), Int.mul_zero]
theorem rest_len (S : List (List Int)) (xs : List Int) : (rest S xs).length ≤ xs.length := by
  unfold rest
  have := cutZ_len (restGo S xs xs.length)
  rw [restGo_len _ _ (Nat.le_refl _)] at this
  exact this
theorem rest_Bd {w : Nat} {S : List (List Int)} (hF : Fine w S) {xs : List Int} {m : Nat} (h : Bd m xs) : Bd (m + (w + 2) * xs.length) (rest S xs) := fun k => by
  unfold rest
  rw [cf_cutZ]
  exact restGo_Bd hF xs.length m xs h k
theorem canLay_ints : ∀ xs : List Int, PyData.canLayAll0 (xs.map PyData.int) = true
  | [] => rfl
  | x :: xs => by
    have := canLay_ints xs
    simp only [List.map_cons, PyData.canLayAll0, this]
    rfl
theorem depth_ints : ∀ xs : List Int, PyData.depthAll (xs.map PyData.int) = 0
  | [] => rfl
  | x :: xs => by
    have := depth_ints xs
    simp only [List.map_cons, PyData.depthAll, this]
    rfl
theorem eq_nil (xs : List Int) : oEq (T xs) (.tuple []) = .ok (.bool (xs == [])) := by
  have h1 : shp (T xs) = true := by
    unfold shp
    have a : (T xs).canLay0 = true := by
      show PyData.canLayAll0 (xs.map PyData.int) = true
      exact canLay_ints xs
    have b : (T xs).depth ≤ 64 := by
      show PyData.depthAll (xs.map PyData.int) + 1 ≤ 64
      rw [depth_ints]
      decide
    rw [a, decide_eq_true b]
    rfl
  have h2 : shp (.tuple []) = true := rfl
  show (eqB (T xs) (.tuple [])).bind _ = _
  have e : eqB (T xs) (.tuple []) = .ok (PyData.eqv (T xs) (.tuple [])) := by
    show (if (shp (T xs) && shp (.tuple [])) = true then Res.ok (PyData.eqv (T xs) (.tuple [])) else .er) = _
    rw [h1, h2]
    rfl
  rw [e]
  cases xs with
  | nil => rfl
  | cons x r => rfl
theorem holds_ev (b c : Bool) {w : Nat} {S : List (List Int)} (hS : Fine w S) (hw : w ≤ 5000) (xs : List Int) {m : Nat} (hm : Bd m xs) (hm2 : m ≤ 1000) (hl : xs.length ≤ 100) : f_stair_holds [sq b (S.map (sqI b)), sqI c xs] = .ok (.bool (rest S xs == [])) := by
  refine run_eq rfl ?_
  have e := rest_ev b c hS hw xs hm hm2 hl
  have e2 := eq_nil (rest S xs)
  simp [g_stair_holds, e, e2]
theorem look_put_self : ∀ (δ : Ev) (i : Nat) (d : D), i < δ.length → look (put δ i d) i = some d
  | [], i, d, h => absurd h (Nat.not_lt_zero i)
  | x :: r, 0, d, _ => rfl
  | x :: r, i + 1, d, h => look_put_self r i d (by simpa using h)
theorem comp_L (δ : Ev) (h : 13 < δ.length) : ∀ S : List (List Int), compGo (gN 13) tYes (xN bList (aCons (xName 13) aNil)) δ (S.map fun s => L s) = .ok (S.map fun s => L s)
  | [] => rfl
  | s :: S => by
    have ih := comp_L δ h S
    rw [List.map_cons]
    unfold compGo
    have e := look_put_self δ 13 (L s) h
    simp [e, ih]
theorem comp_T (δ : Ev) (h : 13 < δ.length) : ∀ S : List (List Int), compGo (gN 13) tYes (xN bTuple (aCons (xName 13) aNil)) δ (S.map fun s => L s) = .ok (S.map fun s => T s)
  | [] => rfl
  | s :: S => by
    have ih := comp_T δ h S
    rw [List.map_cons]
    unfold compGo
    have e := look_put_self δ 13 (L s) h
    simp [e, ih]
/-- one stair of one number -/
theorem rest_one {n : Int} (hn : 0 < n) (xs : List Int) : rest [[n]] xs = cutZ (xs.map fun x => x.fmod n) := by
  refine cutZ_congr fun k => ?_
  rw [cf_restGo]
  have hb : ∀ d, bel [[n]] (d + 1) = some [n] := fun d => by simp [bel]
  have key : ∀ (m : Nat) (f : P) (k : Nat), restC [[n]] f m k = if k < m then (f k).fmod n else f k := by
    intro m
    induction m with
    | zero => intro f k; rfl
    | succ m ih =>
      intro f k
      show restC [[n]] (stepC [[n]] f m) m k = _
      rw [ih]
      have hat := step_at (S := [[n]]) (fun s hs => by simp at hs; rw [hs]; simp) (f := f) (d := m) (hb m)
      have hel : ∀ j, j ≠ m → stepC [[n]] f m j = f j := fun j hj => by
        unfold stepC
        rw [hb m]
        simp only
        have : up (m + 1 - [n].length) (cf [n]) j = 0 := by
          unfold up
          have e1 : m + 1 - [n].length = m := by simp
          rw [e1]
          split
          · rfl
          · exact cf_of (by show 1 ≤ _; omega)
        rw [this]
        omega
      by_cases h1 : k = m
      · subst h1
        rw [if_neg (Nat.lt_irrefl k), if_pos (Nat.lt_succ_self k), hat]
        rfl
      · rw [hel k h1]
        by_cases h2 : k < m
        · rw [if_pos h2, if_pos (by omega)]
        · rw [if_neg h2, if_neg (by omega)]
  rw [key]
  by_cases hk : k < xs.length
  · rw [if_pos hk, cf_lt hk, cf_lt (by simpa using hk)]
    simp
  · rw [if_neg hk, cf_of (by omega), cf_of (by simpa using hk)]
theorem wp_cut {o : Out} {k : Sx} {N B C : Ev → Prop} {R : D → Prop} (Q : Ev → Prop) (h1 : Wp o Q B C R) (h2 : ∀ δ, Q δ → Wp (k δ) N B C R) : Wp (o.seq k) N B C R := by
  cases o with
  | nx δ => exact h2 δ h1
  | bk δ => exact h1
  | ct δ => exact h1
  | rt d => exact h1
  | ex e d => exact h1
  | er => exact h1
theorem wRange_i {i : Int} (h : i.natAbs < 4611686018427387904) : wRange [.int i] = .ok (rangeL 0 i.toNat 1) := by
  have b : b62 i = true := by
    unfold b62
    exact decide_eq_true h
  show (if b62 i = true then Res.ok (rangeL 0 i.toNat 1) else .er) = _
  rw [if_pos b]
end K83
end

section
set_option Elab.async false
set_option linter.all false
set_option autoImplicit false
set_option maxRecDepth 10000
set_option maxHeartbeats 2000000
/-! K83Y: the law answers True. -/
namespace K83
open PySem Dt

theorem bound_ix {k : Int} (hk : 0 ≤ k ∧ k < 4) : ∃ b : Int, oIx (.list [.int 1000000, .int 30, .int 1000, .int 1000000]) (.int k) = .ok (.int b) ∧ 30 ≤ b ∧ b ≤ 1000000 := by
  have hk2 : k = 0 ∨ k = 1 ∨ k = 2 ∨ k = 3 := by omega
  rcases hk2 with h | h | h | h <;> subst h
  · exact ⟨1000000, rfl, by decide, by decide⟩
  · exact ⟨30, rfl, by decide, by decide⟩
  · exact ⟨1000, rfl, by decide, by decide⟩
  · exact ⟨1000000, rfl, by decide, by decide⟩
theorem look_put_ne : ∀ (δ : Ev) (i j : Nat) (d : D), i ≠ j → look (put δ i d) j = look δ j
  | [], i, j, d, h => rfl
  | x :: r, 0, 0, d, h => absurd rfl h
  | x :: r, 0, j + 1, d, h => rfl
  | x :: r, i + 1, 0, d, h => rfl
  | x :: r, i + 1, j + 1, d, h => look_put_ne r i j d (by omega)
theorem comp_mod {n : Int} (hn : n ≠ 0) (δ : Ev) (h : 19 < δ.length) (h18 : look δ 18 = some (.int n)) : ∀ xs : List Int, compGo (gN 19) tYes (x2 oMod (xN bInt (aCons (xName 19) aNil)) (xName 18)) δ (xs.map PyData.int) = .ok ((xs.map fun x => x.fmod n).map PyData.int)
  | [] => rfl
  | x :: xs => by
    have ih := comp_mod hn δ h h18 xs
    rw [List.map_cons]
    unfold compGo
    have e := look_put_self δ 19 (.int x) h
    have e2 := look_put_ne δ 19 18 (.int x) (by decide)
    rw [h18] at e2
    simp [e, e2, ih, hn]
theorem held_ev {S : List (List Int)} {A : P → Prop} (hp : Pack S A) {made ch : List Int} {p : Nat} {c c' : Int} (hc : 0 < c) (hc' : c' = c ∨ c' = -c) (mA : A (cf made)) (hch : ∀ k, cf ch k = cf made k + pin p c' k) {δ : Ev} (h2 : look δ 2 = some (.list (S.map fun s => L s))) (h8 : look δ 8 = some (.int c)) :
    (xAnd (x2 oGt (xN bLen (aCons (xName 2) aNil)) (xC (.int 0))) (xAnd (x2 oEq (xN bLen (aCons (x2 oIx (xName 2) (xC (.int 0))) aNil)) (xC (.int 1))) (x2 oEq (x2 oMod (xN bInt (aCons (xName 8) aNil)) (x2 oIx (x2 oIx (xName 2) (xC (.int 0))) (xC (.int 0)))) (xC (.int 0))))) δ = .ok (.bool (rest S ch == [])) := by
  have hpin : A (pin p c') ↔ A (cf ch) := by
    constructor
    · intro h
      exact cg (hp.sys.mod.add _ _ mA h) fun k => (hch k).symm
    · intro h
      exact cg (hp.sys.mod.sub h mA) fun k => by rw [hch]; omega
  have key : rest S ch = [] ↔ ∃ s S', S = s :: S' ∧ s.length = 1 ∧ ld s ∣ c := by
    rw [rest_zero hp.sys, ← hpin, hp.held p c' (by rcases hc' with h | h <;> omega)]
    have hd : ∀ x : Int, x ∣ c' ↔ x ∣ c := fun x => by
      rcases hc' with h | h
      · rw [h]
      · rw [h, Int.dvd_neg]
    constructor
    · rintro ⟨s, S', e1, e2, e3⟩
      exact ⟨s, S', e1, e2, (hd _).mp e3⟩
    · rintro ⟨s, S', e1, e2, e3⟩
      exact ⟨s, S', e1, e2, (hd _).mpr e3⟩
  have hne := hp.sys.ne
  have hld := hp.sys.ld
  have hbeq : (rest S ch == []) = decide (rest S ch = []) := by
    by_cases h : rest S ch = [] <;> simp [h]
  rw [hbeq]
  clear hp hpin hbeq
  cases S with
  | nil =>
    have hf : ¬ rest [] ch = [] := fun h => by
      obtain ⟨s, S', e, _⟩ := key.mp h
      cases e
    simp -implicitDefEqProofs [h2, hf]
  | cons s S =>
    have m0 : oIx (.list (L s :: S.map fun s => L s)) (.int 0) = .ok (L s) := oIx_list (k := 0) rfl rfl
    have hs := List.length_pos_iff.mpr (hne s (by simp))
    have hl := hld s (by simp)
    have m1 : oIx (L s) (.int 0) = .ok (.int (cf s 0)) := oIx_L rfl hs
    have hp1 : (0 : Int) < (S.length : Int) + 1 := by omega
    by_cases h1 : s.length = 1
    · have e : ld s = cf s 0 := by
        unfold ld
        rw [h1]
      have hn : cf s 0 ≠ 0 := by omega
      have m2 : oMod (.int c) (.int (cf s 0)) = .ok (.int (c.fmod (cf s 0))) := oMod_ hn
      have hk : rest (s :: S) ch = [] ↔ c.fmod (cf s 0) = 0 := by
        rw [key]
        constructor
        · rintro ⟨s', S', e1, e2, e3⟩
          cases e1
          rw [e] at e3
          exact Int.fmod_eq_zero_of_dvd e3
        · intro h
          refine ⟨s, S, rfl, h1, ?_⟩
          rw [e]
          exact Int.dvd_of_fmod_eq_zero h
      simp -implicitDefEqProofs [h2, h8, m0, m1, m2, hp1, h1, hk, -oMod_eq]
      by_cases hz : c.fmod (cf s 0) = 0 <;> simp [hz]
    · have hf : ¬ rest (s :: S) ch = [] := fun h => by
        obtain ⟨s', S', e1, e2, e3⟩ := key.mp h
        cases e1
        exact h1 e2
      have h1' : ¬ (s.length : Int) = 1 := by omega
      have h1'' : ((s.length : Int) == 1) = false := by simp [h1']
      simp -implicitDefEqProofs [h2, h8, m0, m1, hp1, h1', h1'', hf]
theorem law_true (ns : List Int) (hns : ns.length ≤ 63) : f_law [.list (ns.map PyData.int)] = .ok (.bool true) := by
  refine run_eq rfl ?_
  obtain ⟨c0, ec0⟩ := cell_ok ns 0 (by decide)
  obtain ⟨sh, ed0, D0⟩ := digits_ok c0 [16, 4, 21, 20, 8, 60, 50, 2] (by
    intro k hk
    have : k = 0 ∨ k = 1 ∨ k = 2 ∨ k = 3 ∨ k = 4 ∨ k = 5 ∨ k = 6 ∨ k = 7 := by simp at hk; omega
    rcases this with h | h | h | h | h | h | h | h <;> subst h <;> decide) (by decide)
  have ec0' : f_l_cell [L ns, .int 0] = .ok (.int c0) := ec0
  have ed0' : f_l_digits [.int c0, .list [.int 16, .int 4, .int 21, .int 20, .int 8, .int 60, .int 50, .int 2]] = .ok (L sh) := ed0
  have hsl : sh.length = 8 := D0.len
  have q1 : cf sh 1 < 4 := D0.hi 1 (by decide)
  have q2 : cf sh 2 < 21 := D0.hi 2 (by decide)
  have q3 : cf sh 3 < 20 := D0.hi 3 (by decide)
  have q4 : cf sh 4 < 8 := D0.hi 4 (by decide)
  have q5 : cf sh 5 < 60 := D0.hi 5 (by decide)
  have q6 : cf sh 6 < 50 := D0.hi 6 (by decide)
  have q7 : cf sh 7 < 2 := D0.hi 7 (by decide)
  have p1 := D0.lo 1
  have p2 := D0.lo 2
  have p3 := D0.lo 3
  have p4 := D0.lo 4
  have p5 := D0.lo 5
  have p6 := D0.lo 6
  have p7 := D0.lo 7
  have y0 : oIx (L sh) (.int 0) = .ok (.int (cf sh 0)) := oIx_L rfl (by omega)
  have y1 : oIx (L sh) (.int 1) = .ok (.int (cf sh 1)) := oIx_L rfl (by omega)
  have y2 : oIx (L sh) (.int 2) = .ok (.int (cf sh 2)) := oIx_L rfl (by omega)
  have y3 : oIx (L sh) (.int 3) = .ok (.int (cf sh 3)) := oIx_L rfl (by omega)
  have y4 : oIx (L sh) (.int 4) = .ok (.int (cf sh 4)) := oIx_L rfl (by omega)
  have y5 : oIx (L sh) (.int 5) = .ok (.int (cf sh 5)) := oIx_L rfl (by omega)
  have y6 : oIx (L sh) (.int 6) = .ok (.int (cf sh 6)) := oIx_L rfl (by omega)
  have y7 : oIx (L sh) (.int 7) = .ok (.int (cf sh 7)) := oIx_L rfl (by omega)
  have e6 : oPow (.int 10) (.int 6) = .ok (.int 1000000) := rfl
  have e9 : oPow (.int 10) (.int 9) = .ok (.int 1000000000) := rfl
  obtain ⟨l, r, hl, hg, hm, h4, es⟩ := stairs_ev ns hns
  unfold g_law
  simp -implicitDefEqProofs [ec0', ed0', y0]
  refine wp_cut (fun δ => ∃ S A, Pack S A ∧ δ = [some (L ns), some (L sh), some (.list (S.map fun s => L s)), none, none, none, none, none, none, none, none, none, none, none, none, none, none, none, none, none, none]) ?_ ?_
  · by_cases h9 : cf sh 0 = 9
    · simp -implicitDefEqProofs [h9]
      exact ⟨_, pack_nil⟩
    · simp -implicitDefEqProofs [h9, es]
      exact ⟨_, ⟨_, pack_of hl hg hm h4⟩, rfl⟩
  rintro δ ⟨S, A, hp, rfl⟩
  obtain ⟨bd, eb, b1, b2⟩ := bound_ix (k := cf sh 1) ⟨p1, q1⟩
  obtain ⟨c6, ec6⟩ := cell_ok ns 6 (by decide)
  obtain ⟨row, ed6, D6⟩ := digits_ok c6 (tab 20 fun _ => 1000000000) (by
    intro k hk
    rw [tab_len] at hk
    rw [cf_tab hk]
    decide) (by rw [tab_len]; decide)
  have ec6' : f_l_cell [L ns, .int 6] = .ok (.int c6) := ec6
  have w20 : wRange [.int 20] = .ok (rangeL 0 20 1) := wRange_1 (n := 20) (by decide)
  have ek : ∀ δ, compGo (gN 5) tYes (x2 oPow (xC (.int 10)) (xC (.int 9))) δ (rangeL 0 20 1) = .ok ((tab 20 fun _ => 1000000000).map PyData.int) := fun δ => by
    rw [compGo_range 20 (fun _ => .int 1000000000) (fun i hi => ⟨_, rfl, rfl, by simp [e9]⟩)]
    simp [tab]
  have hrl : row.length = 20 := D6.len.trans (tab_len _ _)
  obtain ⟨n2, hn2, hn2'⟩ : ∃ n2 : Nat, cf sh 2 = n2 ∧ n2 ≤ 20 := ⟨(cf sh 2).toNat, by omega, by omega⟩
  have w2 : wRange [.int (cf sh 2)] = .ok (rangeL 0 n2 1) := by rw [hn2]; exact wRange_1 (by omega)
  have hz : 2 * bd + 1 ≠ 0 := by omega
  have mb : oMul (.int 2) (.int bd) = .ok (.int (2 * bd)) := oMul_l (by decide)
  have ef : compGo (gN 5) tYes (x2 oSub (x2 oMod (xN bInt (aCons (x2 oIx (xName 4) (xName 5)) aNil)) (x2 oAdd (x2 oMul (xC (.int 2)) (xName 3)) (xC (.int 1)))) (xName 3)) [some (L ns), some (L sh), some (.list (S.map fun s => L s)), some (.int bd), some (L row), none, none, none, none, none, none, none, none, none, none, none, none, none, none, none, none] (rangeL 0 n2 1) = .ok ((tab n2 fun k => (cf row k).fmod (2 * bd + 1) - bd).map PyData.int) := by
    rw [compGo_range n2 (fun k => .int ((cf row k).fmod (2 * bd + 1) - bd)) (fun i hi => ⟨_, rfl, rfl, by
      have m : oIx (L row) (.int (i : Int)) = .ok (.int (cf row i)) := oIx_L rfl (by omega)
      simp [m, mb, hz]⟩)]
    simp [tab]
  have hfl : (tab n2 fun k => (cf row k).fmod (2 * bd + 1) - bd).length ≤ 20 := by rw [tab_len]; omega
  have hfb : Bd 20 (tab n2 fun k => (cf row k).fmod (2 * bd + 1) - bd) := fun k => by
    rw [cf_tab2]
    split
    · have := fmod_pos (a := cf row k) (b := 2 * bd + 1) (by omega)
      omega
    · decide
  generalize (tab n2 fun k => (cf row k).fmod (2 * bd + 1) - bd) = free at ef hfl hfb
  have hn2s : n2 ≤ 16777216 := by omega
  have hS := hp.few
  simp -implicitDefEqProofs [y1, e6, eb, ec6', w20, ek, ed6, y2, w2, ef, hn2s]
  refine wp_cut (fun δ => ∃ made x4, within made = true ∧ A (cf made) ∧ δ = [some (L ns), some (L sh), some (.list (S.map fun s => L s)), some (.int bd), x4, none, some (L free), some (L made), none, none, none, none, none, none, none, none, none, none, none, none, none]) ?_ ?_
  · by_cases hS0 : 0 < S.length
    · obtain ⟨c7, ec7⟩ := cell_ok ns 7 (by decide)
      obtain ⟨rw7, ed7, D7⟩ := digits_ok c7 [60, 60, 601, 60, 60, 60, 601, 60, 60, 60, 601, 60, 60, 60, 601, 60, 60, 60, 601, 60] (by
        intro k hk
        have : k = 0 ∨ k = 1 ∨ k = 2 ∨ k = 3 ∨ k = 4 ∨ k = 5 ∨ k = 6 ∨ k = 7 ∨ k = 8 ∨ k = 9 ∨ k = 10 ∨ k = 11 ∨ k = 12 ∨ k = 13 ∨ k = 14 ∨ k = 15 ∨ k = 16 ∨ k = 17 ∨ k = 18 ∨ k = 19 := by simp at hk; omega
        rcases this with h | h | h | h | h | h | h | h | h | h | h | h | h | h | h | h | h | h | h | h <;> subst h <;> decide) (by decide)
      have ec7' : f_l_cell [L ns, .int 7] = .ok (.int c7) := ec7
      have ed7' : f_l_digits [.int c7, .list [.int 60, .int 60, .int 601, .int 60, .int 60, .int 60, .int 601, .int 60, .int 60, .int 60, .int 601, .int 60, .int 60, .int 60, .int 601, .int 60, .int 60, .int 60, .int 601, .int 60]] = .ok (L rw7) := ed7
      obtain ⟨made, em, mw, mA⟩ := made_ev hp.sys.mod hp.sys.mem hp.fine hp.h19 (List.length_pos_iff.mp hS0) (by omega) D7.len D7.lo (fun k hk => by
        have : k = 0 ∨ k = 1 ∨ k = 2 ∨ k = 3 ∨ k = 4 := by omega
        rcases this with h | h | h | h | h <;> subst h
        · exact D7.hi 2 (by decide)
        · exact D7.hi 6 (by decide)
        · exact D7.hi 10 (by decide)
        · exact D7.hi 14 (by decide)
        · exact D7.hi 18 (by decide))
      simp -implicitDefEqProofs [hS0, ec7', ed7', em]
      exact ⟨made, mw, mA, rfl⟩
    · simp -implicitDefEqProofs [hS0]
      exact ⟨rfl, cg hp.sys.mod.zero fun k => (cf_nil k).symm⟩
  rintro δ ⟨made, z4, mw, mA, rfl⟩
  have ml := within_len mw
  have mb := within_Bd mw
  obtain ⟨c, ecg, c1, c2⟩ := change_ev hp.fine hp.hld (a := cf sh 4) (b := cf sh 5) ⟨p4, q4⟩ ⟨p5, q5⟩
  obtain ⟨p, hpn, hp19⟩ : ∃ p : Nat, cf sh 3 = p ∧ p ≤ 19 := ⟨(cf sh 3).toNat, by omega, by omega⟩
  have w3 : wRange [.int (cf sh 3 + 1 - (made.length : Int))] = .ok (rangeL 0 (p + 1 - made.length) 1) := by
    rw [wRange_i (by omega)]
    congr 2
    omega
  have ez : ∀ (n : Nat) (δ : Ev), compGo (gN 5) tYes (xC (.int 0)) δ (rangeL 0 n 1) = .ok ((tab n fun _ => 0).map PyData.int) := fun n δ => by
    rw [compGo_range n (fun _ => .int 0) (fun i hi => ⟨_, rfl, rfl, rfl⟩)]
    simp [tab]
  have w3s : p + 1 - made.length ≤ 16777216 := by omega
  have ecat : oCat (L made) (L (tab (p + 1 - made.length) fun _ => 0)) = .ok (L (tab (max made.length (p + 1)) (cf made))) := by
    have e : made ++ (tab (p + 1 - made.length) fun _ => 0) = tab (max made.length (p + 1)) (cf made) := by
      refine List.ext_getElem? fun i => ?_
      by_cases h1 : i < made.length
      · rw [List.getElem?_append_left h1, get_cf h1]
        have : i < max made.length (p + 1) := by omega
        simp [tab, this]
      · rw [List.getElem?_append_right (by omega)]
        by_cases h2 : i < p + 1
        · have a1 : i - made.length < p + 1 - made.length := by omega
          have a2 : i < max made.length (p + 1) := by omega
          have a3 : cf made i = 0 := cf_of (by omega)
          simp [tab, a1, a2, a3]
        · rw [List.getElem?_eq_none (by simp; omega), List.getElem?_eq_none (by simp; omega)]
    have hle : (made.map PyData.int).length + ((tab (p + 1 - made.length) fun _ => 0).map PyData.int).length ≤ SL := by
      show _ ≤ 16777216
      simp
      omega
    show (if _ then Res.ok _ else _) = _
    rw [if_pos hle, ← List.map_append, e]
  have m3 : oIx (L (tab (max made.length (p + 1)) (cf made))) (.int (cf sh 3)) = .ok (.int (cf made p)) := oIx_tab hpn (by omega)
  obtain ⟨N, hN, hN1, hN2, hN3⟩ : ∃ N, max made.length (p + 1) = N ∧ p < N ∧ N ≤ 20 ∧ made.length ≤ N := ⟨_, rfl, by omega, by omega, by omega⟩
  rw [hN] at ecat m3
  have n1 : 0 ≤ cf sh 3 ∧ cf sh 3 < (N : Int) := by omega
  have n2' : (cf sh 3).toNat = p := by omega
  simp -implicitDefEqProofs [y4, y5, ecg, y3, w3, ez, w3s, ecat]
  refine wp_cut (fun δ => ∃ ch c', (c' = c ∨ c' = -c) ∧ ch.length ≤ 20 ∧ (∀ k, cf ch k = cf made k + pin p c' k) ∧ δ = [some (L ns), some (L sh), some (.list (S.map fun s => L s)), some (.int bd), z4, none, some (L free), some (L made), some (.int c), some (L ch), none, none, none, none, none, none, none, none, none, none, none]) ?_ ?_
  · have fin : ∀ c', (c' = c ∨ c' = -c) → ∀ k, cf (tab N fun j => if j = p then cf made p + c' else cf made j) k = cf made k + pin p c' k := fun c' _ k => by
      rw [cf_tab2]
      unfold pin
      by_cases hk : k = p
      · subst hk
        simp [hN1]
      · by_cases hk2 : k < N
        · simp [hk, hk2]
        · have : cf made k = 0 := cf_of (by omega)
          simp [hk, hk2, this]
    by_cases hpos : 0 < cf made p
    · simp -implicitDefEqProofs [m3, n1, n2', hpos, set_tab]
      exact ⟨_, .inr ⟨by rw [tab_len]; exact hN2, fin (-c) (.inr rfl), rfl⟩⟩
    · simp -implicitDefEqProofs [m3, n1, n2', hpos, set_tab]
      exact ⟨_, .inl ⟨by rw [tab_len]; exact hN2, fin c (.inl rfl), rfl⟩⟩
  rintro δ ⟨ch, c', hc', chl, hch, rfl⟩
  have hw : (82 : Nat) ≤ 5000 := by decide
  have hc0 : c' ≠ 0 := by rcases hc' with h | h <;> omega
  have chb : Bd 22 ch := fun k => by
    rw [hch]
    refine Nat.lt_of_lt_of_le (natAbs_add_lt (mb k) (m := 20) ?_) (by decide)
    unfold pin
    split
    · rcases hc' with h | h <;> omega
    · decide
  -- the rests
  have fdue : f_l_left [.list (S.map fun s => L s), L free] = .ok (T (rest S free)) := by
    rw [left_ev hp.fine hw (by omega) free hfb (by decide) (by omega), left_rest]
  have fleft : f_l_left [.list (S.map fun s => L s), L ch] = .ok (T (rest S ch)) := by
    rw [left_ev hp.fine hw (by omega) ch chb (by decide) (by omega), left_rest]
  have told : f_stair_rest [.list (S.map fun s => L s), L free] = .ok (T (rest S free)) := rest_ev false false hp.fine hw free hfb (by decide) (by omega)
  have fx : ∀ (b : Bool) (xs : List Int) (m : Nat), Bd m xs → m ≤ 1000 → xs.length ≤ 100 → f_stair_rest [.tuple (S.map fun s => T s), sqI b xs] = .ok (T (rest S xs)) := fun b xs m h1 h2 h3 => rest_ev true b hp.fine hw xs h1 h2 h3
  have fh : ∀ (b : Bool) (xs : List Int) (m : Nat), Bd m xs → m ≤ 1000 → xs.length ≤ 100 → f_stair_holds [.tuple (S.map fun s => T s), sqI b xs] = .ok (.bool (rest S xs == [])) := fun b xs m h1 h2 h3 => holds_ev true b hp.fine hw xs h1 h2 h3
  have f1 : f_stair_holds [.tuple (S.map fun s => T s), T free] = .ok (.bool (rest S free == [])) := fh true free 20 hfb (by decide) (by omega)
  have lrest := rest_len S free
  have brest : Bd 1900 (rest S free) := (rest_Bd hp.fine hfb).mono (by omega)
  have lch := rest_len S ch
  have bch : Bd 1900 (rest S ch) := (rest_Bd hp.fine chb).mono (by omega)
  have r1 : bRepr [T (rest S free)] = .ok (.str (T (rest S free)).shown) := rep_T brest (by decide) (by omega)
  have r2 : bRepr [T (rest S ch)] = .ok (.str (T (rest S ch)).shown) := rep_T bch (by decide) (by omega)
  have r3 : bRepr [.list (S.map fun s => L s)] = .ok (.str (PyData.list (S.map fun s => L s)).shown) := rep_LL hp.fine.bd (by decide) hp.fine.len (by omega)
  have r4 : bRepr [L free] = .ok (.str (L free).shown) := rep_L hfb (by decide) (by omega)
  have rB := rep_B
  have wdue : f_l_within [T (rest S free)] = .ok (.bool (within (rest S free))) := within_ev true _ (by omega)
  have hmade : rest S made = [] := (rest_zero hp.sys).mpr mA
  have f2 : f_stair_rest [.tuple (S.map fun s => T s), T made] = .ok (T []) := by rw [← hmade]; exact fx true made 20 mb (by decide) (by omega)
  have r5 : bRepr [T []] = .ok (.str "()") := by rw [rep_of (d := T []) (k := 1) (B := 2) ⟨rfl, by decide, by decide⟩ (by decide) (by decide)]; rfl
  have f3 : f_stair_holds [.list (S.map fun s => L s), L made] = .ok (.bool true) := by
    have z : f_stair_holds [.list (S.map fun s => L s), L made] = .ok (.bool (rest S made == [])) := holds_ev false false hp.fine hw made mb (by decide) (by omega)
    rw [z, hmade]
    rfl
  have f4 : f_stair_holds [.tuple (S.map fun s => T s), L ch] = .ok (.bool (rest S ch == [])) := fh false ch 22 chb (by decide) (by omega)
  have f5 : f_stair_rest [.tuple (S.map fun s => T s), L ch] = .ok (T (rest S ch)) := fx false ch 22 chb (by decide) (by omega)
  have f6 : f_stair_rest [.tuple (S.map fun s => T s), L free] = .ok (T (rest S free)) := fx false free 20 hfb (by decide) (by omega)
  refine wp_cut (fun δ => δ = [some (L ns), some (L sh), some (.list (S.map fun s => L s)), some (.int bd), z4, none, some (L free), some (L made), some (.int c), some (L ch), some (.bool (rest S ch == [])), none, none, none, none, none, none, none, none, none, none]) ?_ ?_
  · rw [sSet_eq, held_ev hp c1 hc' mA hch rfl rfl]
    rfl
  rintro δ rfl
  have hS3 : S.length ≤ 16777216 := by omega
  have hrb : (((rest S free).length : Int) == 0) = (rest S free == []) := by
    cases rest S free with
    | nil => rfl
    | cons x r =>
      have : ¬ ((r.length : Int) + 1 = 0) := by omega
      simp [this]
  simp -implicitDefEqProofs [fdue, hS3, comp_L, told, r1, r3, r4, comp_T, f1, rB, hrb]
  refine wp_cut (fun δ => δ = [some (L ns), some (L sh), some (.list (S.map fun s => L s)), some (.int bd), z4, none, some (L free), some (L made), some (.int c), some (L ch), some (.bool (rest S ch == [])), some (T (rest S free)), some (.list (S.map fun s => L s)), none, some (L free), some (T (rest S free)), some (.tuple (S.map fun s => T s)), none, none, none, none]) ?_ ?_
  · cases hw1 : within (rest S free) with
    | false => simp -implicitDefEqProofs [wdue, hw1]
    | true =>
      have f8 : f_stair_rest [.tuple (S.map fun s => T s), T (rest S free)] = .ok (T (rest S free)) := by
        have z := fx true (rest S free) 20 (within_Bd hw1) (by decide) (by omega)
        rw [rest_rest hp.sys] at z
        exact z
      simp -implicitDefEqProofs [wdue, hw1, f8, r1]
  rintro δ rfl
  have hb6 := D0.lo 6
  have nb1 : (1 : Int) + cf sh 6 ≠ 0 := by omega
  have nb2 : (1 : Int) + cf sh 6 > 0 := by omega
  have nb3 : (1 : Int) + cf sh 6 ≤ 50 := by omega
  generalize hnb : (1 : Int) + cf sh 6 = nb at nb1 nb2 nb3
  have Fn : Fine 82 [[nb]] := by
    refine ⟨fun s hs => ?_, fun s hs => ?_, fun s hs => ?_, fun s hs => ?_⟩ <;> (have e : s = [nb] := (by simpa using hs)) <;> subst e
    · simp
    · show 0 < nb ∧ nb < 1073741824
      omega
    · show 1 ≤ 20
      decide
    · refine Bd.of_mem fun x hx => ?_
      have : x = nb := by simpa using hx
      rw [this]
      exact Nat.lt_of_lt_of_le (show nb.natAbs < 2 ^ 6 by omega) (Nat.pow_le_pow_right (by decide) (by decide))
  have f9 : f_stair_rest [.tuple [.tuple [.int nb]], L free] = .ok (T (rest [[nb]] free)) := rest_ev true false Fn hw free hfb (by decide) (by omega)
  have lone := rest_len [[nb]] free
  have r6 : bRepr [T (rest [[nb]] free)] = .ok (.str (T (rest [[nb]] free)).shown) := rep_T ((rest_Bd Fn hfb).mono (m := 1900) (by omega)) (by decide) (by omega)
  have f10 : f_l_short [L (free.map fun x => x.fmod nb)] = .ok (L (rest [[nb]] free)) := by
    rw [rest_one nb2]
    exact short_eq _ (by rw [List.length_map]; omega)
  have hfl2 : free.length ≤ 16777216 := by omega
  have m7 : oMul (.int 2) (.int (cf sh 7)) = .ok (.int (2 * cf sh 7)) := oMul_l (by decide)
  have m8 : f_l_sum [L free, L made, .int (1 - 2 * cf sh 7), .int 0] = .ok (L (addS free made (1 - 2 * cf sh 7) 0)) := sum_eq free made (1 - 2 * cf sh 7) 0 (fun k => oMul_l (by omega)) (by omega) (by omega)
  have hbM : rest S (addS free made (1 - 2 * cf sh 7) 0) = rest S free := rest_M hp.sys (cg (hp.sys.mod.smul (1 - 2 * cf sh 7) _ mA) fun k => by
    rw [cf_addS, up_zero]
    omega)
  have hbl : (addS free made (1 - 2 * cf sh 7) 0).length ≤ 1000 := by
    rw [addS_len]
    omega
  generalize addS free made (1 - 2 * cf sh 7) 0 = both at m8 hbM hbl
  have wb : f_l_within [L both] = .ok (.bool (within both)) := within_ev false both (by omega)
  simp -implicitDefEqProofs [f2, r5, comp_L, hS3, f3, fleft, f4, f5, rB, r2]
  simp -implicitDefEqProofs [y6, hnb, f9, r6, comp_mod nb1, hfl2, f10, -List.map_map]
  cases hw2 : within both with
  | false => simp -implicitDefEqProofs [y7, m7, m8, wb, hw2, f6, r1]
  | true =>
    have f11 : f_stair_rest [.tuple (S.map fun s => T s), L both] = .ok (T (rest S free)) := by
      have z := fx false both 20 (within_Bd hw2) (by decide) (by have := within_len hw2; omega)
      rw [hbM] at z
      exact z
    simp -implicitDefEqProofs [y7, m7, m8, wb, hw2, f11, f6, r1]
end K83
end

section
open PySem PySem.W PyProof.Rows in
set_option maxRecDepth 100000 in
set_option maxHeartbeats 0 in
theorem PySem.Challenge.cw_twostoreys_k83_stair_rest_holds : PySem.Challenge.rw_twostoreys_k83_stair_rest.Holds := by
  w_on; o_law; k_head; (case hw => w_witness2)
  k_fill
  refine Wk.walk_G (l := PySem.Challenge.rw_twostoreys_k83_stair_rest) (n := 63) (k := 5) (x := "script") (sp := fun K => Wk.spD Wk.ekN K 1 false K83.f_law) rfl (by decide) rfl ⟨rfl, by decide, by decide⟩ (fun w h Y => PySem.W.kIn_of Y) ?F (fun K H a ns hl _ hS => Wk.spLaw (K83.law_true ns hl) hS)
  case F =>
    intro w mg fa h KX G hmg
    refine' K83.all_mk Wk.ekN KX G hmg ?n0 ?l0 ?c0 ?k0 ?n1 ?l1 ?c1 ?k1 ?n2 ?l2 ?c2 ?k2 ?n3 ?l3 ?c3 ?k3 ?n4 ?l4 ?c4 ?k4 ?n5 ?l5 ?c5 ?k5 ?n6 ?l6 ?c6 ?k6 ?n7 ?l7 ?c7 ?k7 ?n8 ?l8 ?c8 ?k8 ?n9 ?l9 ?c9 ?k9 ?n10 ?l10 ?c10 ?k10 ?n11 ?l11 ?c11 ?k11 ?n12 ?l12 ?c12 ?k12 ?n13 ?l13 ?c13 ?k13 ?n14 ?l14 ?c14 ?k14 ?n15 ?l15 ?c15 ?k15 ?n16 ?l16 ?c16 ?k16 ?n17 ?l17 ?c17 ?k17 ?n18 ?l18 ?c18 ?k18 ?z_len ?z_list ?z_enumerate ?z_range ?z_tuple ?z_int ?z_max ?z_abs ?z_repr
    (case n0 => k_is)
    (case l0 => k_is)
    (case c0 => k_is)
    (case k0 => k_is)
    (case n1 => k_is)
    (case l1 => k_is)
    (case c1 => k_is)
    (case k1 => k_is)
    (case n2 => k_is)
    (case l2 => k_is)
    (case c2 => k_is)
    (case k2 => k_is)
    (case n3 => k_is)
    (case l3 => k_is)
    (case c3 => k_is)
    (case k3 => k_is)
    (case n4 => k_is)
    (case l4 => k_is)
    (case c4 => k_is)
    (case k4 => k_is)
    (case n5 => k_is)
    (case l5 => k_is)
    (case c5 => k_is)
    (case k5 => k_is)
    (case n6 => k_is)
    (case l6 => k_is)
    (case c6 => k_is)
    (case k6 => k_is)
    (case n7 => k_is)
    (case l7 => k_is)
    (case c7 => k_is)
    (case k7 => k_is)
    (case n8 => k_is)
    (case l8 => k_is)
    (case c8 => k_is)
    (case k8 => k_is)
    (case n9 => k_is)
    (case l9 => k_is)
    (case c9 => k_is)
    (case k9 => k_is)
    (case n10 => k_is)
    (case l10 => k_is)
    (case c10 => k_is)
    (case k10 => k_is)
    (case n11 => k_is)
    (case l11 => k_is)
    (case c11 => k_is)
    (case k11 => k_is)
    (case n12 => k_is)
    (case l12 => k_is)
    (case c12 => k_is)
    (case k12 => k_is)
    (case n13 => k_is)
    (case l13 => k_is)
    (case c13 => k_is)
    (case k13 => k_is)
    (case n14 => k_is)
    (case l14 => k_is)
    (case c14 => k_is)
    (case k14 => k_is)
    (case n15 => k_is)
    (case l15 => k_is)
    (case c15 => k_is)
    (case k15 => k_is)
    (case n16 => k_is)
    (case l16 => k_is)
    (case c16 => k_is)
    (case k16 => k_is)
    (case n17 => k_is)
    (case l17 => k_is)
    (case c17 => k_is)
    (case k17 => k_is)
    (case n18 => k_is)
    (case l18 => k_is)
    (case c18 => k_is)
    (case k18 => k_is)
    (case z_len => k_is)
    (case z_list => k_is)
    (case z_enumerate => k_is)
    (case z_range => k_is)
    (case z_tuple => k_is)
    (case z_int => k_is)
    (case z_max => k_is)
    (case z_abs => k_is)
    (case z_repr => k_is)
end
