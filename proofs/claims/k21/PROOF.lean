import PyProof.Rows.All
import Wide.All
import OpenK.AllK
import KE.OsRunLaw
import Wide.FinOn
import HandS.Ends
import HandS.Words
import HandS.ExcCtx
import HandS.HotCalls
import HandS.ForMost
import HandS.ForExc
import HandS.TupAny
import HandS.TupLe
import HandS.IsInst
import HandS.Wide
import HandS.Property
import HandS.ClsMeth
import HandS.Defaults
import HandS.EndBits
import HandS.Conv
import HandS.Flow
import HandS.Steps
import KE.DataEq
import KE.DataCmp
import HandS.CallSlots
import HandS.TryMany
import HandS.ExcField
import HandS.ExcIs
import HandS.OwnEq
import HandS.WordsExc
import HandS.Iter
import HandS.Remove
import KE.KSuper
import KE.RegKSuper
import HandS.ExcInit
import HandS.ExcSuper
import HandS.Nested
import HandS.Star
import HandS.CallLocal
import HandS.Style
import PySem.Challenge.RW_lotsintrees_k21_whole_algebra_of_paths
set_option Elab.async false
set_option linter.all false
set_option autoImplicit false
set_option maxRecDepth 100000
set_option maxHeartbeats 4000000
/-! YK: the end's promise; stands first, so that the head of the program is run while memory is still free. -/
namespace Y
open PySem PySem.Spec PyProof.Rows L2
/-- the law's promise, its script alone told -/
def spZ (K : PySem.W.Frag) : Sp := fun vs H Q _ => ∃ (a : Addr) (ns : List Int), vs = [.ref a] ∧ Only H ∧ SqL K H a (ns.map V.int) ∧ ∀ H', Q (.bl true) H'
theorem walkY {l : PySem.W.OpenLaw} {q : Program} {loose : List Str} {XP : (Str → Option Value) → Heap → Prop} {YP : World → Heap → Prop} {d : DefRec} {K : Params → PySem.W.Frag} (k : Nat) (hk : Room k callerA) (hn : l.most = some 63) (hdf : d.params.defaults = [])
    (hY : ∀ (w : World) (h : Heap), YP w h → (K w.params).In h)
    (F : ∀ (w : World) (mg : Str → Option Value) (fa : Addr) (h : Heap), (K w.params).In h → h.Ns mainGlobals mg → mg d.name = some (.ref fa) →
      ∃ fd : FuncData, (∀ (s : Shared) (u : Value), BindsTo s fd ⟨[u], []⟩ [("script", u)]) ∧ ∀ base : Heap, (K w.params).In base → base.Ns mainGlobals mg → FnOk l.prog w (K w.params) mg base (L2N.CX l.prog w) k fa fd ["script"] (spZ (K w.params))) :
    PySem.W.WalkO q loose XP YP l.row.toRowW d [] (fun f vs => PySem.call f vs) :=
  L2.walk_of (n := 63) (k := k) (x := "script") (CX := fun w => L2N.CX l.prog w) (sp := fun w => spZ (K w.params)) hn (by decide) hdf hk hY F (fun _ _ a ns _ hO hS => ⟨a, ns, rfl, hO, hS, fun _ => rfl⟩) fun _ _ _ _ _ h => by
    obtain ⟨_, _, _, _, _, _, _, _, _, _, _, _, z⟩ := h
    exact z
end Y

/-! Y0: programs over data as predicates: what an expression, a statement, a def comes to. No machine in sight. -/
namespace Y
open PySem

abbrev Ky := Sum Int Str
inductive Fl | frz | bor | own
  deriving DecidableEq
/-- a node of a list, a dict, an object stands still for ever (frz), is lent for this call (bor), or is a name's own (own) -/
inductive D where
  | non
  | bl (b : Bool)
  | int (i : Int)
  | str (x : Str)
  | tup (ds : List D)
  | lst (m : Fl) (ds : List D)
  | dct (m : Fl) (ks : List Ky) (ds : List D)
  | obj (m : Fl) (cn : String) (ns : List String) (ds : List D)
  | src
  | scr (ns : List Int)
  /-- a still list of ints, its place told -/
  | cel (b : Nat) (ns : List Int)
  /-- a class or a def of the program, as a value -/
  | glb (n : String)
/-- what a name holds -/
inductive S where
  | no
  | val (d : D)
  /-- its own; r: where, if that is told -/
  | own (r : Option Nat) (d : D)
  | exc (a : Nat) (od : Option Nat) (cn : String) (fs : List (String × D))
/-- what an expression comes to: data that stand still; a tree of nobody's; what a name owns, to be read now -/
inductive RV where
  | val (d : D)
  | tmp (d : D)
  | rd (d : D)
def RV.d : RV → D
  | .val d => d
  | .tmp d => d
  | .rd d => d
abbrev XD := String → List (String × D) → Prop
abbrev XE := String → List (String × D) → List S → Prop
abbrev YP := List S → (RV → Prop) → XD → Prop
abbrev YE := List S → (RV → List S → Prop) → XE → Prop
abbrev YB := List S → (Bool → Prop) → XD → Prop
structure Kt where
  nx : List S → Prop
  rt : RV → List S → Prop
  bk : List S → Prop
  ct : List S → Prop
  ex : XE
abbrev YS := List S → Kt → Prop
def Kt.wnx (k : Kt) (f : List S → Prop) : Kt := ⟨f, k.rt, k.bk, k.ct, k.ex⟩
def Kt.loop (k : Kt) (f : List S → Prop) : Kt := ⟨f, k.rt, k.nx, f, k.ex⟩
/-- a stop, at which the names are told anew -/
structure Nx (f : List S → Prop) (ρ : List S) : Prop where
  go : f ρ
/-- one way or the other -/
structure Br (c : Bool) (A B : Prop) : Prop where
  t : c = true → A
  f : c = false → B

/-! ### flags -/
mutual
def nown : D → Bool
  | .lst m ds => decide (m ≠ .own) && nowns ds
  | .dct m _ ds => decide (m ≠ .own) && nowns ds
  | .obj m _ _ ds => decide (m ≠ .own) && nowns ds
  | .tup _ => true
  | .non => true
  | .bl _ => true
  | .int _ => true
  | .str _ => true
  | .src => true
  | .scr _ => true
  | .cel _ _ => true
  | .glb _ => true
def nowns : List D → Bool
  | [] => true
  | d :: ds => nown d && nowns ds
end
mutual
def nbor : D → Bool
  | .tup ds => nbors ds
  | .lst m ds => decide (m ≠ .bor) && nbors ds
  | .dct m _ ds => decide (m ≠ .bor) && nbors ds
  | .obj m _ _ ds => decide (m ≠ .bor) && nbors ds
  | .non => true
  | .bl _ => true
  | .int _ => true
  | .str _ => true
  | .src => true
  | .scr _ => true
  | .cel _ _ => true
  | .glb _ => true
def nbors : List D → Bool
  | [] => true
  | d :: ds => nbor d && nbors ds
end
mutual
/-- what is own stands still from now on -/
def fz : D → D
  | .lst .own ds => .lst .frz (fzs ds)
  | .lst .frz ds => .lst .frz ds
  | .lst .bor ds => .lst .bor ds
  | .dct .own ks ds => .dct .frz ks (fzs ds)
  | .dct .frz ks ds => .dct .frz ks ds
  | .dct .bor ks ds => .dct .bor ks ds
  | .obj .own cn ns ds => .obj .frz cn ns (fzs ds)
  | .obj .frz cn ns ds => .obj .frz cn ns ds
  | .obj .bor cn ns ds => .obj .bor cn ns ds
  | .tup ds => .tup ds
  | .non => .non
  | .bl b => .bl b
  | .int i => .int i
  | .str x => .str x
  | .src => .src
  | .scr ns => .scr ns
  | .cel b ns => .cel b ns
  | .glb n => .glb n
def fzs : List D → List D
  | [] => []
  | d :: ds => fz d :: fzs ds
end
mutual
/-- what is own is lent -/
def lend : D → D
  | .lst .own ds => .lst .bor (lends ds)
  | .lst .frz ds => .lst .frz ds
  | .lst .bor ds => .lst .bor ds
  | .dct .own ks ds => .dct .bor ks (lends ds)
  | .dct .frz ks ds => .dct .frz ks ds
  | .dct .bor ks ds => .dct .bor ks ds
  | .obj .own cn ns ds => .obj .bor cn ns (lends ds)
  | .obj .frz cn ns ds => .obj .frz cn ns ds
  | .obj .bor cn ns ds => .obj .bor cn ns ds
  | .tup ds => .tup ds
  | .non => .non
  | .bl b => .bl b
  | .int i => .int i
  | .str x => .str x
  | .src => .src
  | .scr ns => .scr ns
  | .cel b ns => .cel b ns
  | .glb n => .glb n
def lends : List D → List D
  | [] => []
  | d :: ds => lend d :: lends ds
end

/-! ### reading -/
def seqD : D → Option (List D)
  | .lst _ ds => some ds
  | .tup ds => some ds
  | _ => none
/-- a part of it -/
def part : RV → D → (RV → Prop) → Prop
  | .val _, d, Q => Q (.val d)
  | .rd _, d, Q => Br (nown d) (Q (.val d)) (Q (.rd d))
  | .tmp _, d, Q => nown d = true ∧ Q (.val d)
/-- the items of a list or tuple, still ones -/
def els (r : RV) (Q : List D → Prop) : Prop := match r with
  | .val d => (match seqD d with
    | some ds => Q ds
    | none => False)
  | .rd d => (match seqD d with
    | some ds => nowns ds = true ∧ Q ds
    | none => False)
  | .tmp d => (match seqD d with
    | some ds => Q (fzs ds)
    | none => False)
/-- what it is as a still thing -/
def still (o : Bool) (r : RV) (Q : D → Prop) : Prop := match r with
  | .val d => Q d
  | .tmp d => if o = true then Q d else Q (fz d)
  | .rd d => False
def stills (o : Bool) : List RV → (List D → Prop) → Prop
  | [], Q => Q []
  | r :: rs, Q => still o r fun d => stills o rs fun ds => Q (d :: ds)
def place (n : Nat) (i : Int) : Option Nat := if 0 ≤ i then (if i < (n : Int) then some i.toNat else none) else (if -(n : Int) ≤ i then some (i + (n : Int)).toNat else none)
def atD {α : Type} (ds : List α) (i : Int) : Option α := (place ds.length i).bind fun j => ds[j]?
def keyD : D → Option Ky
  | .int i => some (.inl i)
  | .str x => some (.inr x)
  | _ => none
def look : List Ky → List D → Ky → Option D
  | k :: ks, d :: ds, y => if k = y then some d else look ks ds y
  | _, _, _ => none
def putK (k : Ky) (d : D) : List Ky → List D → List Ky × List D
  | k' :: ks, d' :: ds => if k' = k then (k' :: ks, d :: ds) else ((k' :: (putK k d ks ds).1), d' :: (putK k d ks ds).2)
  | _, _ => ([k], [d])
def keyOf : Ky → D
  | .inl i => .int i
  | .inr x => .str x
def fld : List String → List D → String → Option D
  | n :: ns, d :: ds, f => if n = f then some d else fld ns ds f
  | _, _, _ => none
def fldR (x : RV) (f : String) (Q : RV → Prop) : Prop := match x.d with
  | .obj _ _ ns ds => (match fld ns ds f with
    | some d => part x d Q
    | none => False)
  | _ => False

/-! ### operators -/
abbrev F1 := D → (D → Prop) → Prop
abbrev F2 := D → D → (D → Prop) → Prop
/-- what a product may be of -/
def mulOk (i j : Int) : Prop := i.natAbs < 1152921504606846976 ∨ j.natAbs < 1152921504606846976 ∨ (i.natAbs < 2 ^ 4000 ∧ j.natAbs < 2 ^ 4000)
def fAdd : F2
  | .int i, .int j, Q => Q (.int (i + j))
  | .tup a, .tup b, Q => a.length + b.length ≤ 100000 ∧ Q (.tup (a ++ b))
  | .str a, .str b, Q => a.length + b.length ≤ 100000 ∧ Q (.str (a ++ b))
  | _, _, _ => False
def fSub : F2
  | .int i, .int j, Q => Q (.int (i - j))
  | _, _, _ => False
def fMul : F2
  | .int i, .int j, Q => mulOk i j ∧ Q (.int (i * j))
  | _, _, _ => False
def fDiv : F2
  | .int i, .int j, Q => (0 < j ∧ j < 2 ^ 4000) ∧ Q (.int (i / j))
  | _, _, _ => False
def fMod : F2
  | .int i, .int j, Q => 0 < j ∧ Q (.int (i % j))
  | _, _, _ => False
def fPow : F2
  | .int i, .int j, Q => (0 ≤ j ∧ j ≤ 1000 ∧ i.natAbs < 1152921504606846976) ∧ Q (.int (i ^ j.toNat))
  | _, _, _ => False
mutual
/-- == of data without objects -/
def deq : D → D → Bool
  | .non, .non => true
  | .bl a, .bl b => decide (a = b)
  | .bl a, .int j => decide ((if a = true then (1 : Int) else 0) = j)
  | .int i, .bl b => decide (i = (if b = true then (1 : Int) else 0))
  | .int a, .int b => decide (a = b)
  | .str a, .str b => decide (a = b)
  | .tup a, .tup b => deqs a b
  | .lst _ a, .lst _ b => deqs a b
  | _, _ => false
def deqs : List D → List D → Bool
  | [], [] => true
  | a :: as, b :: bs => deq a b && deqs as bs
  | _, _ => false
end
mutual
/-- no object within -/
def plain : D → Bool
  | .tup a => plains a
  | .lst _ a => plains a
  | .obj _ _ _ _ => false
  | .src => false
  | .scr _ => false
  | .cel _ _ => false
  | .glb _ => false
  | .dct _ _ _ => false
  | .non => true
  | .bl _ => true
  | .int _ => true
  | .str _ => true
def plains : List D → Bool
  | [] => true
  | a :: as => plain a && plains as
end
mutual
def deep : D → Nat
  | .tup ds => 1 + deeps ds
  | .lst _ ds => 1 + deeps ds
  | .non => 0
  | .bl _ => 0
  | .int _ => 0
  | .str _ => 0
  | .src => 0
  | .scr _ => 0
  | .cel _ _ => 0
  | .glb _ => 0
  | .dct _ _ _ => 0
  | .obj _ _ _ _ => 0
def deeps : List D → Nat
  | [] => 0
  | d :: ds => max (deep d) (deeps ds)
end
def fEq (neg : Bool) : F2
  | .int i, .int j, Q => Q (.bl (neg ^^ decide (i = j)))
  | .bl i, .bl j, Q => Q (.bl (neg ^^ decide (i = j)))
  | .str i, .str j, Q => Q (.bl (neg ^^ decide (i = j)))
  | a, b, Q => (plain a = true ∧ plain b = true ∧ deep a ≤ 60) ∧ Q (.bl (neg ^^ deq a b))
def fLt (g : Int → Int → Bool) : F2
  | .int i, .int j, Q => Q (.bl (g i j))
  | _, _, _ => False
def anyEq (a : D) : List D → Bool
  | [] => false
  | d :: ds => deq d a || anyEq a ds
/-- in, of a list or a tuple -/
def fInS (neg : Bool) : F2
  | a, .lst _ ds, Q => (plains ds = true ∧ plain a = true ∧ deep a ≤ 60) ∧ Q (.bl (neg ^^ anyEq a ds))
  | a, .tup ds, Q => (plains ds = true ∧ plain a = true ∧ deep a ≤ 60) ∧ Q (.bl (neg ^^ anyEq a ds))
  | _, _, _ => False
def fNeg : F1
  | .int i, Q => Q (.int (-i))
  | _, _ => False
def fLenS : F1
  | .lst _ ds, Q => Q (.int ds.length)
  | .tup ds, Q => Q (.int ds.length)
  | _, _ => False
def fInt : F1
  | .int i, Q => Q (.int i)
  | .bl b, Q => Q (.int (if b = true then 1 else 0))
  | _, _ => False
def fBool : F1
  | .int i, Q => Q (.bl (decide (i ≠ 0)))
  | .bl b, Q => Q (.bl b)
  | _, _ => False
def fAbs : F1
  | .int i, Q => Q (.int i.natAbs)
  | _, _ => False
def intsD : List D → Option (List Int)
  | [] => some []
  | .int i :: ds => (intsD ds).map (i :: ·)
  | _ :: _ => none
def blsD : List D → Option (List Bool)
  | [] => some []
  | .bl i :: ds => (blsD ds).map (i :: ·)
  | _ :: _ => none
def fSum : F1
  | .lst _ ds, Q => ∃ is, intsD ds = some is ∧ Q (.int is.sum)
  | _, _ => False
def fAny : F1
  | .lst _ ds, Q => ∃ is, blsD ds = some is ∧ Q (.bl (is.any id))
  | _, _ => False
def fAll : F1
  | .lst _ ds, Q => ∃ is, blsD ds = some is ∧ Q (.bl (is.all id))
  | _, _ => False
def truD : D → Option Bool
  | .non => some false
  | .bl b => some b
  | .int i => some (decide (i ≠ 0))
  | .tup ds => some (!ds.isEmpty)
  | .lst _ ds => some (!ds.isEmpty)
  | _ => none
def isNon : D → Bool
  | .non => true
  | _ => false
def fIsN (neg : Bool) : F1 := fun a Q => Q (.bl (neg ^^ isNon a))

/-- the ints in order -/
def insI (x : Int) : List Int → List Int
  | [] => [x]
  | y :: ys => if x ≤ y then x :: y :: ys else y :: insI x ys
def srtI : List Int → List Int
  | [] => []
  | x :: xs => insI x (srtI xs)
/-! ### expressions -/
def yC (d : D) : YP := fun _ Q _ => Q (.val d)
def yV (i : Nat) : YP := fun ρ Q _ => match ρ[i]? with
  | some (.val d) => Q (.val d)
  | some (.own _ d) => Q (.rd d)
  | _ => False
def y1 (f : F1) (a : YP) : YP := fun ρ Q X => a ρ (fun x => f x.d fun d => Q (.val d)) X
def y2 (f : F2) (a b : YP) : YP := fun ρ Q X => a ρ (fun x => b ρ (fun y => f x.d y.d fun d => Q (.val d)) X) X
/-- x[i] of a list or a tuple -/
def ixS (x : RV) (k : D) (Q : RV → Prop) : Prop := match x.d, k with
  | .lst _ ds, .int i => ∃ d, atD ds i = some d ∧ part x d Q
  | .tup ds, .int i => ∃ d, atD ds i = some d ∧ part x d Q
  | _, _ => False
def yIxS (a b : YP) : YP := fun ρ Q X => a ρ (fun x => b ρ (fun y => ixS x y.d Q) X) X
def yFl (a : YP) (f : String) : YP := fun ρ Q X => a ρ (fun x => fldR x f Q) X
def isLst : D → Bool
  | .lst _ _ => true
  | _ => false
/-- list + list -/
def yCatS (a b : YP) : YP := fun ρ Q X => a ρ (fun x => b ρ (fun y => (isLst x.d = true ∧ isLst y.d = true) ∧ els x fun ds => els y fun es => ds.length + es.length ≤ 100000 ∧ Q (.tmp (.lst .own (ds ++ es)))) X) X
/-- [x] * n -/
def yRep (a b : YP) : YP := fun ρ Q X => a ρ (fun x => b ρ (fun y => still false x fun d => match y.d with
  | .int n => (0 ≤ n ∧ n ≤ 100000) ∧ Q (.tmp (.lst .own (List.replicate n.toNat d)))
  | _ => False) X) X
def cutAt (n : Nat) (dflt : Nat) : Option Int → Nat
  | none => dflt
  | some v => if v < 0 then (v + (n : Int)).toNat else min v.toNat n
def cutD {α : Type} (xs : List α) (lo hi : Option Int) : List α := (xs.drop (cutAt xs.length 0 lo)).take (cutAt xs.length xs.length hi - cutAt xs.length 0 lo)
def yO : Option YP → List S → (Option Int → Prop) → XD → Prop
  | none, _, Q, _ => Q none
  | some e, ρ, Q, X => e ρ (fun r => match r.d with
    | .int i => Q (some i)
    | _ => False) X
/-- a slice of a list, of a tuple -/
def ySlL (a : YP) (lo hi : Option YP) : YP := fun ρ Q X => a ρ (fun x => yO lo ρ (fun l => yO hi ρ (fun h => match x.d with
  | .lst _ _ => els x fun ds => Q (.tmp (.lst .own (cutD ds l h)))
  | .tup _ => els x fun ds => Q (.val (.tup (cutD ds l h)))
  | _ => False) X) X) X
def yRev (a : YP) : YP := fun ρ Q X => a ρ (fun x => match x.d with
  | .lst _ _ => els x fun ds => Q (.tmp (.lst .own ds.reverse))
  | _ => False) X
/-- sorted(x) of ints -/
def ySort (a : YP) : YP := fun ρ Q X => a ρ (fun x => match seqD x.d with
  | some ds => ∃ is, intsD ds = some is ∧ is.length < 64 ∧ Q (.tmp (.lst .own ((srtI is).map D.int)))
  | none => False) X
/-- list(x), tuple(x) -/
def yListS (a : YP) : YP := fun ρ Q X => a ρ (fun x => els x fun ds => Q (.tmp (.lst .own ds))) X
def yTuple (a : YP) : YP := fun ρ Q X => a ρ (fun x => els x fun ds => Q (.val (.tup ds))) X
def yRange (a : YP) : YP := fun ρ Q X => a ρ (fun x => match x.d with
  | .int n => (-100000 ≤ n ∧ n ≤ 100000) ∧ Q (.tmp (.lst .own ((List.range n.toNat).map fun i => .int (i : Nat))))
  | _ => False) X
def yAnd (a b : YP) : YP := fun ρ Q X => a ρ (fun x => match x.d with
  | .bl c => Br c (b ρ Q X) (Q (.val (.bl false)))
  | _ => False) X
def yOr (a b : YP) : YP := fun ρ Q X => a ρ (fun x => match x.d with
  | .bl c => Br c (Q (.val (.bl true))) (b ρ Q X)
  | _ => False) X
def yNot (a : YP) : YP := fun ρ Q X => a ρ (fun x => match x.d with
  | .bl c => Q (.val (.bl (!c)))
  | _ => False) X
def yIf (t : YB) (a b : YP) : YP := fun ρ Q X => t ρ (fun c => Br c (a ρ Q X) (b ρ Q X)) X
/-- a < b < c -/
def yChain (f g : F2) (a b c : YP) : YP := fun ρ Q X => a ρ (fun x => b ρ (fun y => f x.d y.d fun d => match d with
  | .bl k => Br k (c ρ (fun z => g y.d z.d fun d => Q (.val d)) X) (Q (.val (.bl false)))
  | _ => False) X) X
/-! tests -/
def tE (e : YP) : YB := fun ρ Q X => e ρ (fun x => match x.d with
  | .bl c => Q c
  | _ => False) X
def tTru (e : YP) : YB := fun ρ Q X => e ρ (fun x => match truD x.d with
  | some c => Q c
  | none => False) X
def tAnd (a b : YB) : YB := fun ρ Q X => a ρ (fun c => Br c (b ρ Q X) (Q false)) X
def tOr (a b : YB) : YB := fun ρ Q X => a ρ (fun c => Br c (Q true) (b ρ Q X)) X
def tNot (a : YB) : YB := fun ρ Q X => a ρ (fun c => Q (!c)) X
def tYes : YB := fun _ Q _ => Q true
/-! arguments -/
abbrev YA := List S → (List RV → Prop) → XD → Prop
def aNil : YA := fun _ Q _ => Q []
def aCons (a : YP) (as : YA) : YA := fun ρ Q X => a ρ (fun r => as ρ (fun rs => Q (r :: rs)) X) X
def arg : RV → D
  | .val d => d
  | .tmp d => fz d
  | .rd d => lend d
def isRd : RV → Bool
  | .rd _ => true
  | _ => false
def yTup (as : YA) : YP := fun ρ Q X => as ρ (fun rs => stills false rs fun ds => Q (.val (.tup ds))) X
def yLst (o : Bool) (as : YA) : YP := fun ρ Q X => as ρ (fun rs => stills o rs fun ds => Q (.tmp (.lst .own ds))) X
def yDct (ks : List Ky) (as : YA) : YP := fun ρ Q X => as ρ (fun rs => stills false rs fun ds => Q (.tmp (.dct .own ks ds))) X
/-- a def that changes no argument -/
abbrev DSp := List D → (RV → Prop) → XD → Prop
def fsD (fs : List (String × D)) : Bool := nbors (fs.map (·.2))
def yCall (f : DSp) (as : YA) : YP := fun ρ Q X => as ρ (fun rs => f (rs.map arg) (fun r => if rs.any isRd = true then nbor r.d = true ∧ Q r else Q r) fun cn fs => if rs.any isRd = true then fsD fs = true ∧ X cn fs else X cn fs) X
/-- an object of the class with this name, which has no attribute m -/
def isOf (cn m : String) (r : RV) : Prop := match r.d with
  | .obj _ cn' ns _ => cn' = cn ∧ ns.contains m = false
  | _ => False
/-- o.m(..) -/
def yMeth (cn m : String) (f : DSp) (o : YP) (as : YA) : YP := fun ρ Q X => o ρ (fun r => isOf cn m r ∧ as ρ (fun rs => f ((r :: rs).map arg) (fun x => if (r :: rs).any isRd = true then nbor x.d = true ∧ Q x else Q x) fun cn fs => if (r :: rs).any isRd = true then fsD fs = true ∧ X cn fs else X cn fs) X) X
/-- a call from which no exception comes -/
def X0 : XD := fun _ _ => False
def yCallN (f : DSp) (as : YA) : YP := fun ρ Q X => as ρ (fun rs => f (rs.map arg) (fun r => if rs.any isRd = true then nbor r.d = true ∧ Q r else Q r) X0) X
def yMethN (cn m : String) (f : DSp) (o : YP) (as : YA) : YP := fun ρ Q X => o ρ (fun r => isOf cn m r ∧ as ρ (fun rs => f ((r :: rs).map arg) (fun x => if (r :: rs).any isRd = true then nbor x.d = true ∧ Q x else Q x) X0) X) X
/-- C(..): fr: its objects never change -/
abbrev SpI := List D → (D → Prop) → XD → Prop
def yMake (fr : Bool) (dd : List D) (f : SpI) (as : YA) : YP := fun ρ Q X => as ρ (fun rs => f (rs.map arg ++ dd) (fun d => if rs.any isRd = true then nbor d = true ∧ (if fr = true then Q (.val (fz d)) else Q (.tmp d)) else (if fr = true then Q (.val (fz d)) else Q (.tmp d)))
  fun cn fs => if rs.any isRd = true then fsD fs = true ∧ X cn fs else X cn fs) X

def yMakeN (fr : Bool) (dd : List D) (f : SpI) (as : YA) : YP := fun ρ Q X => as ρ (fun rs => f (rs.map arg ++ dd) (fun d => if rs.any isRd = true then nbor d = true ∧ (if fr = true then Q (.val (fz d)) else Q (.tmp d)) else (if fr = true then Q (.val (fz d)) else Q (.tmp d))) X0) X

/-! ### targets, loops, comprehensions -/
inductive Pat where
  | nm (i : Nat)
  | tp (is : List Nat)
def setAll : List Nat → List D → List S → List S
  | i :: is, d :: ds, ρ => setAll is ds (ρ.set i (.val d))
  | _, _, ρ => ρ
def bind (p : Pat) (d : D) (ρ : List S) (Q : List S → Prop) : Prop := match p with
  | .nm i => Q (ρ.set i (.val d))
  | .tp is => (match d with
    | .tup ds => ds.length = is.length ∧ Q (setAll is ds ρ)
    | _ => False)
def wipe (ρ : List S) : List Nat → List S
  | [] => ρ
  | v :: vs => (wipe ρ vs).set v .no
/-- what is walked over -/
abbrev YI := List S → (List D → Prop) → XD → Prop
def iE (e : YP) : YI := fun ρ Q X => e ρ (fun r => els r Q) X
/-- .. in a loop: not what a name owns -/
def iS (e : YP) : YI := fun ρ Q X => e ρ (fun r => match r with
  | .rd _ => False
  | r => els r Q) X
def rng (lo hi : Int) : List D := (List.range (hi - lo).toNat).map fun i => .int (lo + (i : Nat))
def iR1 (a : YP) : YI := fun ρ Q X => a ρ (fun x => match x.d with
  | .int n => (-100000 ≤ n ∧ n ≤ 100000) ∧ Q ((List.range n.toNat).map fun i => .int (i : Nat))
  | _ => False) X
def iR2 (a b : YP) : YI := fun ρ Q X => a ρ (fun x => b ρ (fun y => match x.d, y.d with
  | .int m, .int n => (-100000 ≤ m ∧ m ≤ 100000 ∧ -100000 ≤ n ∧ n ≤ 100000) ∧ Q (rng m n)
  | _, _ => False) X) X
def rngD (hi lo : Int) : List D := (List.range (hi - lo).toNat).map fun i => .int (hi + (i : Nat) * (-1))
/-- range(a, b, -1) -/
def iR3 (a b c : YP) : YI := fun ρ Q X => a ρ (fun x => b ρ (fun y => c ρ (fun z => match x.d, y.d, z.d with
  | .int m, .int n, .int k => k = -1 ∧ (-100000 ≤ m ∧ m ≤ 100000 ∧ -100000 ≤ n ∧ n ≤ 100000) ∧ Q (rngD m n)
  | _, _, _ => False) X) X) X
def lcW (o : Bool) (p : Pat) (t : YB) (e : YP) (ρ : List S) : List D → (List D → Prop) → Prop
  | [], Q => Q []
  | d :: ds, Q => bind p d ρ fun ρ2 => t ρ2 (fun b => Br b (e ρ2 (fun r => still o r fun x => lcW o p t e ρ ds fun es => Q (x :: es)) X0) (lcW o p t e ρ ds Q)) X0
/-- a stop at a comprehension -/
structure LcS (o : Bool) (p : Pat) (t : YB) (e : YP) (ρ : List S) (ds : List D) (Q : List D → Prop) : Prop where
  go : lcW o p t e ρ ds Q
def yLc (o : Bool) (vs : List Nat) (i : YI) (p : Pat) (t : YB) (e : YP) : YP := fun ρ Q X => i ρ (fun ds => ds.length ≤ 100000 ∧ LcS o p t e (wipe ρ vs) ds fun es => Q (.tmp (.lst .own es))) X
/-- two clauses -/
def lc2W (o : Bool) (p : Pat) (t : YB) (vs1 : List Nat) (yi : YI) (p1 : Pat) (t1 : YB) (e : YP) (ρ : List S) : List D → (List D → Prop) → Prop
  | [], Q => Q []
  | d :: ds, Q => bind p d ρ fun ρ2 => t ρ2 (fun b => Br b (yi ρ2 (fun ds1 => ds1.length ≤ 1000 ∧ LcS o p1 t1 e (wipe ρ2 vs1) ds1 fun es => lc2W o p t vs1 yi p1 t1 e ρ ds fun fs => Q (es ++ fs)) X0) (lc2W o p t vs1 yi p1 t1 e ρ ds Q)) X0
structure LcS2 (o : Bool) (p : Pat) (t : YB) (vs1 : List Nat) (yi : YI) (p1 : Pat) (t1 : YB) (e : YP) (ρ : List S) (ds : List D) (Q : List D → Prop) : Prop where
  go : lc2W o p t vs1 yi p1 t1 e ρ ds Q
def yLc2 (o : Bool) (vs vs1 : List Nat) (i : YI) (p : Pat) (t : YB) (yi : YI) (p1 : Pat) (t1 : YB) (e : YP) : YP := fun ρ Q X => i ρ (fun ds => ds.length ≤ 1000 ∧ LcS2 o p t vs1 yi p1 t1 e (wipe ρ vs) ds fun es => Q (.tmp (.lst .own es))) X

/-! ### statements -/
def yP (y : YP) : YE := fun ρ Q X => y ρ (fun r => Q r ρ) fun cn fs => X cn fs ρ
def tP (y : YB) (ρ : List S) (Q : Bool → List S → Prop) (X : XE) : Prop := y ρ (fun b => Q b ρ) fun cn fs => X cn fs ρ
abbrev YBE := List S → (Bool → List S → Prop) → XE → Prop
def sNext : YS := fun ρ k => k.nx ρ
def sSeq (a b : YS) : YS := fun ρ k => a ρ (k.wnx (Nx fun ρ => b ρ k))
def sBrk : YS := fun ρ k => k.bk ρ
def sCont : YS := fun ρ k => k.ct ρ
def slot : RV → (S → Prop) → Prop
  | .val d, Q => Q (.val d)
  | .tmp d, Q => Q (.own none d)
  | .rd _, _ => False
/-- x = e: what is nobody's becomes the name's own -/
def sAsg (i : Nat) (e : YE) : YS := fun ρ k => e ρ (fun r ρ => slot r fun s => k.nx (ρ.set i s)) k.ex
/-- .. or stands still -/
def sAsgF (i : Nat) (e : YE) : YS := fun ρ k => e ρ (fun r ρ => still false r fun d => k.nx (ρ.set i (.val d))) k.ex
def sUnp (p : Pat) (e : YE) : YS := fun ρ k => e ρ (fun r ρ => still false r fun d => bind p d ρ k.nx) k.ex
def sDrop (e : YE) : YS := fun ρ k => e ρ (fun _ ρ => k.nx ρ) k.ex
def sRet (e : YE) : YS := fun ρ k => e ρ (fun r ρ => match r with
  | .rd _ => False
  | r => k.rt r ρ) k.ex
def sRetN : YS := fun ρ k => k.rt (.val .non) ρ
/-- return x: its tree goes out -/
def sRetO (i : Nat) : YS := fun ρ k => match ρ[i]? with
  | some (.val d) => k.rt (.val d) ρ
  | some (.own none d) => k.rt (.tmp d) (ρ.set i .no)
  | _ => False
def sIf (t : YBE) (a b : YS) : YS := fun ρ k => t ρ (fun c ρ => Br c (a ρ k) (b ρ k)) k.ex
/-- a name's own tree stands still from now on -/
def sFz (i : Nat) (a : YS) : YS := fun ρ k => match ρ[i]? with
  | some (.own none d) => a (ρ.set i (.val (fz d))) k
  | some (.val d) => a ρ k
  | _ => False
/-- names are forgotten -/
def sKill (is : List Nat) (a : YS) : YS := fun ρ k => a (wipe ρ is) k
def forW (p : Pat) (b : YS) : List D → YS
  | [], ρ, k => k.nx ρ
  | d :: ds, ρ, k => bind p d ρ (Nx fun ρ => b ρ (k.loop fun ρ => forW p b ds ρ k))
/-- a stop at a loop -/
structure FoS (p : Pat) (b : YS) (ds : List D) (ρ : List S) (k : Kt) : Prop where
  go : forW p b ds ρ k
def sFor (i : YI) (p : Pat) (b : YS) : YS := fun ρ k => i ρ (fun ds => FoS p b ds ρ k) fun cn fs => k.ex cn fs ρ
def whileN (t : YBE) (b : YS) : Nat → YS
  | 0, _, _ => False
  | n + 1, ρ, k => t ρ (fun c ρ => Br c (b ρ (k.loop fun ρ => whileN t b n ρ k)) (k.nx ρ)) k.ex
def sWhile (t : YBE) (b : YS) : YS := fun ρ k => ∃ n, whileN t b n ρ k
def sNever : YS := fun _ _ => False
def sRaise (cn : String) (fs : List String) (as : YA) : YS := fun ρ k => as ρ (fun rs => stills false rs fun ds => k.ex cn ((fs.zip ds).reverse) ρ) fun cn fs => k.ex cn fs ρ

/-! ### paths into a name's own tree -/
inductive Stp where
  | fl (f : String)
  | ix (n : Nat)
def childF : List String → List D → String → Option Nat
  | n :: ns, _ :: ds, f => if n = f then some 0 else (childF ns ds f).map (· + 1)
  | _, _, _ => none
/-- the child's number -/
def stepN : D → Stp → Option Nat
  | .obj .own _ ns ds, .fl f => childF ns ds f
  | .lst .own ds, .ix n => if n < ds.length then some n else none
  | _, _ => none
def kids : D → List D
  | .obj _ _ _ ds => ds
  | .lst _ ds => ds
  | .dct _ _ ds => ds
  | _ => []
def setKid (n : Nat) (e : D) : D → D
  | .obj m cn ns ds => .obj m cn ns (ds.set n e)
  | .lst m ds => .lst m (ds.set n e)
  | .dct m ks ds => .dct m ks (ds.set n e)
  | d => d
def sub : D → List Stp → Option D
  | d, [] => some d
  | d, s :: π => (match stepN d s with
    | some n => (match (kids d)[n]? with
      | some e => sub e π
      | none => none)
    | none => none)
def put : D → List Stp → D → D
  | _, [], e => e
  | d, s :: π, e => (match stepN d s with
    | some n => (match (kids d)[n]? with
      | some c => setKid n (put c π e) d
      | none => d)
    | none => d)
/-- a path: a name, the way from it, what is there -/
abbrev YW := List S → (Nat → List Stp → D → Prop) → XD → Prop
def wV (i : Nat) : YW := fun ρ Q _ => match ρ[i]? with
  | some (.own _ d) => Q i [] d
  | _ => False
def wF (w : YW) (f : String) : YW := fun ρ Q X => w ρ (fun i π d => match stepN d (.fl f) with
  | some n => (match (kids d)[n]? with
    | some e => Q i (π ++ [.fl f]) e
    | none => False)
  | none => False) X
def wI (w : YW) (e : YP) : YW := fun ρ Q X => w ρ (fun i π d => e ρ (fun r => match r.d, d with
  | .int k, .lst .own ds => ∃ n e, place ds.length k = some n ∧ ds[n]? = some e ∧ Q i (π ++ [.ix n]) e
  | _, _ => False) X) X
/-- the tree at a path is told anew -/
def upS (ρ : List S) (i : Nat) (π : List Stp) (e : D) : List S := match ρ[i]? with
  | some (.own r d) => ρ.set i (.own r (put d π e))
  | _ => ρ
/-- what is stored: a still thing, or (o) a tree that comes to be the list's own -/
def sApp (o : Bool) (w : YW) (e : YP) : YS := fun ρ k => w ρ (fun i π d => match d with
  | .lst .own ds => e ρ (fun r => still o r fun x => ds.length < 100000 ∧ k.nx (upS ρ i π (.lst .own (ds ++ [x])))) fun cn fs => k.ex cn fs ρ
  | _ => False) fun cn fs => k.ex cn fs ρ
def sSetI (o : Bool) (w : YW) (j e : YP) : YS := fun ρ k => e ρ (fun r => still o r fun x => w ρ (fun i π d => j ρ (fun y => match d, y.d with
  | .lst .own ds, .int z => ∃ n, place ds.length z = some n ∧ k.nx (upS ρ i π (.lst .own (ds.set n x)))
  | _, _ => False) fun cn fs => k.ex cn fs ρ) fun cn fs => k.ex cn fs ρ) fun cn fs => k.ex cn fs ρ
def putF (f : String) (x : D) : List String → List D → List String × List D
  | n :: ns, d :: ds => if n = f then (n :: ns, x :: ds) else (n :: (putF f x ns ds).1, d :: (putF f x ns ds).2)
  | _, _ => ([f], [x])
/-- o.f = e -/
def sSetF (o : Bool) (cn : String) (w : YW) (f : String) (e : YP) : YS := fun ρ k => e ρ (fun r => still o r fun x => w ρ (fun i π d => match d with
  | .obj .own cn' ns ds => (cn' = cn ∧ ds.length < 900) ∧ k.nx (upS ρ i π (.obj .own cn' (putF f x ns ds).1 (putF f x ns ds).2))
  | _ => False) fun cn fs => k.ex cn fs ρ) fun cn fs => k.ex cn fs ρ
/-- xs.pop(j) -/
def ePop (w : YW) (j : YP) : YE := fun ρ Q X => w ρ (fun i π d => match d with
  | .lst .own ds => j ρ (fun y => match y.d with
    | .int z => ∃ n x, place ds.length z = some n ∧ ds[n]? = some x ∧ nown x = true ∧ (-100000 ≤ z ∧ z < 100000) ∧ Q (.val x) (upS ρ i π (.lst .own (ds.eraseIdx n)))
    | _ => False) fun cn fs => X cn fs ρ
  | _ => False) fun cn fs => X cn fs ρ
def ePop0 (w : YW) : YE := fun ρ Q X => w ρ (fun i π d => match d with
  | .lst .own ds => ∃ x, ds.getLast? = some x ∧ nown x = true ∧ Q (.val x) (upS ρ i π (.lst .own ds.dropLast))
  | _ => False) fun cn fs => X cn fs ρ

/-! ### defs -/
/-- a def that changes no argument -/
def defP (m n : Nat) (body : YS) : DSp := fun ds R X => ds.length = m ∧ Nx (fun ρ => body ρ ⟨fun _ => R (.val .non), fun r _ => R r, fun _ => False, fun _ => False, fun cn fs _ => X cn fs⟩) (ds.map S.val ++ List.replicate n .no)
/-- the tree of the first slot, at a -/
def own0 (a : Nat) (ρ : List S) (R : D → Prop) : Prop := match ρ[(0 : Nat)]? with
  | some (.own r d) => r = some a ∧ R d
  | _ => False
/-- an __init__: the new object is its first slot's own -/
def defI (cn : String) (m n : Nat) (body : YS) : SpI := fun ds R X => ds.length = m ∧ ∀ a, body (S.own (some a) (.obj .own cn [] []) :: (ds.map S.val ++ List.replicate n .no))
  ⟨fun ρ => own0 a ρ R, fun r ρ => match r with
    | .val .non => own0 a ρ R
    | _ => False, fun _ => False, fun _ => False, fun cn fs _ => X cn fs⟩
end Y
namespace Y
/-! ### exceptions caught -/
/-- which of the classes the handler takes -/
def takesX : List (String × Bool) → String → Option Bool
  | [], _ => none
  | (n, b) :: r, cn => if n = cn then some b else takesX r cn
/-- a suite whose name for the error is in slot i -/
def suiteK (i : Nat) (k : Kt) : Kt := ⟨fun ρ => k.nx (ρ.set i .no), k.rt, fun ρ => k.bk (ρ.set i .no), fun ρ => k.ct (ρ.set i .no), k.ex⟩
/-- try: .. except c as n: .. -/
def sTryAs (es : List (String × Bool)) (i : Nat) (b : YS) (s : Nat → Option Nat → String → YS) : YS := fun ρ k => b ρ { k with ex := fun cn fs ρ' => match takesX es cn with
  | some true => ∀ a od, s a od cn (ρ'.set i (.exc a od cn fs)) (suiteK i k)
  | some false => k.ex cn fs ρ'
  | none => False }
/-- e.f of what is caught -/
def yXf (a : Nat) (od : Option Nat) (cn : String) (i : Nat) (c f : String) : YP := fun ρ Q _ => match ρ[i]? with
  | some (.exc a' od' cn' fs) => (a' = a ∧ od' = od ∧ cn' = c ∧ cn = c) ∧ (match fs.lookup f with
    | some d => Q (.val d)
    | none => False)
  | _ => False
/-- isinstance(e, c) of what is caught -/
def yXi (es : List (String × Bool)) (a : Nat) (od : Option Nat) (cn : String) (i : Nat) : YP := fun ρ Q _ => match ρ[i]? with
  | some (.exc a' od' cn' _) => (a' = a ∧ od' = od ∧ cn' = cn) ∧ (match takesX es cn with
    | some b => Q (.val (.bl b))
    | none => False)
  | _ => False
/-! ### the source of a law's draws -/
def yListScr (a : YP) : YP := fun ρ Q X => a ρ (fun x => match x.d with
  | .scr ns => Q (.tmp (.lst .own (ns.map D.int)))
  | _ => False) X
def ySrc (y : YP) : YP := fun ρ Q X => y ρ (fun r => ∃ (ns : List Int) (i c l t : Int) (fl : Bool), r = .tmp (.lst .own [.lst .frz (ns.map D.int), .int i, .int c, .int l, .int t, .bl fl]) ∧ 0 ≤ i ∧ Q (.val .src)) X
/-- len(x), x[i] of such a list -/
def fLenC : F1
  | .cel _ ns, Q => Q (.int ns.length)
  | _, _ => False
def fIxC : F2
  | .cel _ ns, .int i, Q => ∃ z, atD ns i = some z ∧ Q (.int z)
  | _, _, _ => False
/-- the source, opened -/
def srcD (b : Nat) (ns : List Int) (i c l t : Int) (fl : Bool) : D := .lst .own [.cel b ns, .int i, .int c, .int l, .int t, .bl fl]
/-- a def that draws by itself: its first argument is the source, the others are ints -/
def defO (n : Nat) (body : YS) : List Int → (D → Prop) → Prop := fun is R => ∀ (a b : Nat) (ns : List Int) (i c l t : Int) (fl : Bool), 0 ≤ i → body (S.own (some a) (srcD b ns i c l t fl) :: (is.map (fun z => S.val (.int z)) ++ List.replicate n .no))
  ⟨fun _ => False, fun r ρ => ∃ (j i' c' l' t' : Int) (fl' : Bool), r = .val (.int j) ∧ 0 ≤ i' ∧ ρ[(0 : Nat)]? = some (.own (some a) (srcD b ns i' c' l' t' fl')) ∧ R (.int j), fun _ => False, fun _ => False, fun _ _ _ => False⟩
end Y
namespace Y
/-! ### isinstance -/
def tyD : D → Option String
  | .non => some "NoneType"
  | .bl _ => some "bool"
  | .int _ => some "int"
  | .str _ => some "str"
  | .tup _ => some "tuple"
  | .lst _ _ => some "list"
  | _ => none
/-- bs: what holds of the built-in types, es: of own classes -/
def fIsI (bs es : List (String × Bool)) : F1 := fun d Q => match d with
  | .obj _ cn _ _ => (match takesX es cn with
    | some b => Q (.bl b)
    | none => False)
  | d => (match tyD d with
    | some n => (match takesX bs n with
      | some b => Q (.bl b)
      | none => False)
    | none => False)
end Y
namespace Y
/-- x + y -/
def addR (x y : RV) (Q : RV → Prop) : Prop := if isLst x.d = true ∧ isLst y.d = true then els x fun ds => els y fun es => ds.length + es.length ≤ 100000 ∧ Q (.tmp (.lst .own (ds ++ es))) else fAdd x.d y.d fun d => Q (.val d)
def yAdd (a b : YP) : YP := fun ρ Q X => a ρ (fun x => b ρ (fun y => addR x y Q) X) X
/-- x.append(e), e may change names -/
def sAppV (o : Bool) (i : Nat) (e : YE) : YS := fun ρ k => match ρ[i]? with
  | some (.own _ (.lst .own _)) => e ρ (fun r ρ' => match ρ'[i]? with
    | some (.own q (.lst .own ds)) => still o r fun x => ds.length < 100000 ∧ k.nx (ρ'.set i (.own q (.lst .own (ds ++ [x]))))
    | _ => False) k.ex
  | _ => False
end Y
namespace Y
/-- x += e of ints -/
def sAug (i : Nat) (f : Int → Int → Int) (e : YP) : YS := fun ρ k => match ρ[i]? with
  | some (.val (.int x)) => e ρ (fun r => match r.d with
    | .int y => k.nx (ρ.set i (.val (.int (f x y))))
    | _ => False) fun cn fs => k.ex cn fs ρ
  | _ => False
def bs_int : List (String × Bool) := [("NoneType", false), ("bool", true), ("int", true), ("str", false), ("tuple", false), ("list", false)]
def bs_bool : List (String × Bool) := [("NoneType", false), ("bool", true), ("int", false), ("str", false), ("tuple", false), ("list", false)]
def bs_str : List (String × Bool) := [("NoneType", false), ("bool", false), ("int", false), ("str", true), ("tuple", false), ("list", false)]
def bs_tuple : List (String × Bool) := [("NoneType", false), ("bool", false), ("int", false), ("str", false), ("tuple", true), ("list", false)]
def bs_list : List (String × Bool) := [("NoneType", false), ("bool", false), ("int", false), ("str", false), ("tuple", false), ("list", true)]
end Y
namespace Y
/-- cls(..), cls in slot i -/
def yMakeL (i : Nat) (cn : String) (fr : Bool) (dd : List D) (f : SpI) (as : YA) : YP := fun ρ Q X => (match ρ[i]? with
  | some (.val (.glb n)) => n = cn
  | _ => False) ∧ yMake fr dd f as ρ Q X
/-- len(o), o of the class cn -/
def yLenO (cn : String) (f : DSp) (o : YP) : YP := fun ρ Q X => o ρ (fun r => (match r.d with
  | .obj _ cn' _ _ => cn' = cn
  | _ => False) ∧ f [arg r] (fun x => match x with
  | .val (.int n) => (0 ≤ n ∧ n < 9223372036854775808) ∧ Q (.val (.int n))
  | _ => False) X0) X
/-- what is left over comes as a tuple -/
def starS (m : Nat) (S : DSp) : DSp := fun ds R X => (m ≤ ds.length ∧ ds.length ≤ 100000) ∧ S (ds.take m ++ [.tup (ds.drop m)]) R X
end Y
namespace Y
/-- C(), no __init__ -/
def yMake0 (cn : String) (fr : Bool) : YP := fun _ Q _ => if fr = true then Q (.val (.obj .frz cn [] [])) else Q (.tmp (.obj .own cn [] []))
/-- one of two readings, told by the names -/
def yAlt (p : List S → Bool) (a b : YP) : YP := fun ρ Q X => if p ρ = true then a ρ Q X else b ρ Q X
/-- what stands in slot i is of the class cn -/
def isCls (i : Nat) (cn : String) (ρ : List S) : Bool := match ρ[i]? with
  | some (.val (.obj _ cn' _ _)) => decide (cn' = cn)
  | some (.own _ (.obj _ cn' _ _)) => decide (cn' = cn)
  | _ => false
end Y
namespace Y
def isObj (cn : String) (r : RV) : Prop := match r.d with
  | .obj _ cn' _ _ => cn' = cn
  | _ => False
def rightOk (rt : Option String) (r : RV) : Prop := match rt with
  | some cn => isObj cn r
  | none => (match r.d with
    | .int _ => True
    | _ => False)
/-- a op b, a of the class cn; b of the class rt, or an int -/
def yBinS (cn : String) (rt : Option String) (f : DSp) (a b : YP) : YP := fun ρ Q X => a ρ (fun x => b ρ (fun y => (isObj cn x ∧ rightOk rt y) ∧ f [arg x, arg y] (fun r => if [x, y].any isRd = true then nbor r.d = true ∧ Q r else Q r) fun cn fs => if [x, y].any isRd = true then fsD fs = true ∧ X cn fs else X cn fs) X) X
def yBinN (cn : String) (rt : Option String) (f : DSp) (a b : YP) : YP := fun ρ Q X => a ρ (fun x => b ρ (fun y => (isObj cn x ∧ rightOk rt y) ∧ f [arg x, arg y] (fun r => if [x, y].any isRd = true then nbor r.d = true ∧ Q r else Q r) X0) X) X
/-- -a, ~a -/
def yUnS (cn : String) (f : DSp) (a : YP) : YP := fun ρ Q X => a ρ (fun x => isObj cn x ∧ f [arg x] (fun r => if [x].any isRd = true then nbor r.d = true ∧ Q r else Q r) fun cn fs => if [x].any isRd = true then fsD fs = true ∧ X cn fs else X cn fs) X
def yUnN (cn : String) (f : DSp) (a : YP) : YP := fun ρ Q X => a ρ (fun x => isObj cn x ∧ f [arg x] (fun r => if [x].any isRd = true then nbor r.d = true ∧ Q r else Q r) X0) X
/-- a < b, a == b .. of objects of the class cn -/
def yCmpO (cn : String) (f : DSp) (a b : YP) : YP := fun ρ Q X => a ρ (fun x => b ρ (fun y => (isObj cn x ∧ isObj cn y) ∧ f [arg x, arg y] (fun r => match r with
  | .val (.bl k) => Q (.val (.bl k))
  | _ => False) X0) X) X
end Y
namespace Y
/-- what several handlers make of an error: each with the classes it takes, the slot of its name, its suite -/
def tryK (k : Kt) : List (List (String × Bool) × Option Nat × (Nat → Option Nat → String → YS)) → XE
  | [] => k.ex
  | (es, i, s) :: r => fun cn fs ρ' => match takesX es cn with
    | some true => (match i with
      | some i => ∀ a od, s a od cn (ρ'.set i (.exc a od cn fs)) (suiteK i k)
      | none => ∀ a od, s a od cn ρ' k)
    | some false => tryK k r cn fs ρ'
    | none => False
def sTryM (hs : List (List (String × Bool) × Option Nat × (Nat → Option Nat → String → YS))) (b : YS) : YS := fun ρ k => b ρ { k with ex := tryK k hs }
end Y
namespace Y
def fMax2 : F2
  | .int i, .int j, Q => Q (.int (if j > i then j else i))
  | _, _, _ => False
def fMin2 : F2
  | .int i, .int j, Q => Q (.int (if j < i then j else i))
  | _, _, _ => False
end Y
namespace Y
/-- max, min of a list of ints that is not empty -/
def fMax : F1
  | .lst _ ds, Q => ∃ is, intsD ds = some is ∧ 0 < is.length ∧ ∀ m : Int, (m ∈ is ∧ ∀ y ∈ is, y ≤ m) → Q (.int m)
  | _, _ => False
def fMin : F1
  | .lst _ ds, Q => ∃ is, intsD ds = some is ∧ 0 < is.length ∧ ∀ m : Int, (m ∈ is ∧ ∀ y ∈ is, m ≤ y) → Q (.int m)
  | _, _ => False
/-- the first place of an int in a list of ints -/
def fIndex : F2
  | .lst _ ds, .int n, Q => ∃ is, intsD ds = some is ∧ n ∈ is ∧ ∀ j : Nat, (is[j]? = some n ∧ ∀ m : Nat, m < j → is[m]? ≠ some n) → Q (.int (j : Int))
  | _, _, _ => False
def isLs : D → Bool
  | .lst _ _ => true
  | _ => false
def yIndex (a b : YP) : YP := fun ρ Q X => a ρ (fun x => isLs x.d = true ∧ b ρ (fun y => fIndex x.d y.d fun d => Q (.val d)) X) X
end Y
namespace Y
/-! ### defs that change their first argument -/
abbrev SpM := D → List D → (RV → D → Prop) → (String → List (String × D) → D → Prop) → Prop
def defM (m n : Nat) (body : YS) : SpM := fun d ds R X => ds.length = m ∧ ∀ a, Nx (fun ρ => body ρ ⟨fun ρ => own0 a ρ (R (.val .non)), fun r ρ => own0 a ρ (R r), fun _ => False, fun _ => False, fun cn fs ρ => own0 a ρ (X cn fs)⟩) (S.own (some a) d :: (ds.map S.val ++ List.replicate n .no))
/-- o.m(..), which changes o -/
def eMethM (cn m : String) (f : SpM) (w : YW) (as : YA) : YE := fun ρ Q X => w ρ (fun i π d => isOf cn m (.rd d) ∧ as ρ (fun rs => rs.any isRd = false ∧ f d (rs.map arg) (fun r d' => Q r (upS ρ i π d')) fun cn fs d' => X cn fs (upS ρ i π d')) fun cn fs => X cn fs ρ) fun cn fs => X cn fs ρ
def isNode : D → Bool
  | .lst _ _ => true
  | .obj _ _ _ _ => true
  | .dct _ _ _ => true
  | _ => false
/-- f(o, ..), which changes o -/
def eCallM (f : SpM) (w : YW) (as : YA) : YE := fun ρ Q X => w ρ (fun i π d => isNode d = true ∧ as ρ (fun rs => rs.any isRd = false ∧ f d (rs.map arg) (fun r d' => Q r (upS ρ i π d')) fun cn fs d' => X cn fs (upS ρ i π d')) fun cn fs => X cn fs ρ) fun cn fs => X cn fs ρ
/-- o[j] = e, o of an own class -/
def sSetO (cn : String) (f : SpM) (w : YW) (j e : YP) : YS := fun ρ k => e ρ (fun r => w ρ (fun i π d => j ρ (fun y => (isObj cn (.rd d) ∧ [y, r].any isRd = false) ∧ f d [arg y, arg r] (fun _ d' => k.nx (upS ρ i π d')) fun cn fs d' => k.ex cn fs (upS ρ i π d')) fun cn fs => k.ex cn fs ρ) fun cn fs => k.ex cn fs ρ) fun cn fs => k.ex cn fs ρ
/-- o[j], o of an own class -/
def yIxO (cn : String) (f : DSp) (a b : YP) : YP := fun ρ Q X => a ρ (fun x => b ρ (fun y => isObj cn x ∧ f [arg x, arg y] (fun r => if [x, y].any isRd = true then nbor r.d = true ∧ Q r else Q r) fun cn fs => if [x, y].any isRd = true then fsD fs = true ∧ X cn fs else X cn fs) X) X
def yIxON (cn : String) (f : DSp) (a b : YP) : YP := fun ρ Q X => a ρ (fun x => b ρ (fun y => isObj cn x ∧ f [arg x, arg y] (fun r => if [x, y].any isRd = true then nbor r.d = true ∧ Q r else Q r) X0) X) X
end Y
namespace Y
def repL {α : Type} (n : Nat) (ds : List α) : List α := (List.replicate n ds).flatten
/-- list * int -/
def mulRL (x y : RV) (Q : RV → Prop) : Prop := isLst x.d = true ∧ els x fun ds => match y.d with
  | .int n => (-100000 ≤ n ∧ n ≤ 100000 ∧ ds.length * n.toNat ≤ 100000) ∧ Q (.tmp (.lst .own (repL n.toNat ds)))
  | _ => False
def yMulL (a b : YP) : YP := fun ρ Q X => a ρ (fun x => b ρ (fun y => mulRL x y Q) X) X
/-- a stop ahead of the rest of a def -/
structure CutS (y : YS) (ρ : List S) (k : Kt) : Prop where
  go : y ρ k
def sCut (y : YS) : YS := fun ρ k => CutS y ρ k
end Y

/-! Y1: what the mirrors come to: loops by an invariant, lists of ints. -/
namespace Y
open PySem
/-! ### ints in lists -/
theorem intsD_ints : ∀ xs : List Int, intsD (xs.map D.int) = some xs
  | [] => rfl
  | x :: xs => by rw [List.map_cons, intsD, intsD_ints xs]; rfl
theorem nowns_ints : ∀ xs : List Int, nowns (xs.map D.int) = true
  | [] => rfl
  | x :: xs => by rw [List.map_cons, nowns, nowns_ints xs]; rfl
theorem nbors_ints : ∀ xs : List Int, nbors (xs.map D.int) = true
  | [] => rfl
  | x :: xs => by rw [List.map_cons, nbors, nbors_ints xs]; rfl
theorem fzs_ints : ∀ xs : List Int, fzs (xs.map D.int) = xs.map D.int
  | [] => rfl
  | x :: xs => by rw [List.map_cons, fzs, fzs_ints xs]; rfl
theorem lends_ints : ∀ xs : List Int, lends (xs.map D.int) = xs.map D.int
  | [] => rfl
  | x :: xs => by rw [List.map_cons, lends, lends_ints xs]; rfl
theorem plains_ints : ∀ xs : List Int, plains (xs.map D.int) = true
  | [] => rfl
  | x :: xs => by rw [List.map_cons, plains, plains_ints xs]; rfl
theorem anyEq_ints (a : Int) : ∀ xs : List Int, anyEq (.int a) (xs.map D.int) = decide (a ∈ xs)
  | [] => rfl
  | x :: xs => by
    rw [List.map_cons, anyEq, anyEq_ints a xs, deq]
    by_cases h : x = a
    · subst h; simp
    · by_cases g : a ∈ xs
      · simp [h, g]
      · have : a ∉ x :: xs := fun z => (List.mem_cons.mp z).elim (fun e => h e.symm) g
        simp [h, g, this]
theorem cutD_map {α β : Type} (f : α → β) (xs : List α) (lo hi : Option Int) : cutD (xs.map f) lo hi = (cutD xs lo hi).map f := by
  unfold cutD
  rw [List.length_map, List.map_take, List.map_drop]
theorem range_ints (n : Nat) : ((List.range n).map fun i => D.int (i : Nat)) = ((List.range n).map fun i : Nat => (i : Int)).map D.int := by
  rw [List.map_map]
  rfl
theorem cutD_sub {α : Type} {xs : List α} {lo hi : Option Int} : ∀ x ∈ cutD xs lo hi, x ∈ xs := fun x h => List.mem_of_mem_drop (List.mem_of_mem_take h)
theorem cutD_nodup {α : Type} {xs : List α} {lo hi : Option Int} (h : xs.Nodup) : (cutD xs lo hi).Nodup := (h.sublist (List.drop_sublist _ _)).sublist (List.take_sublist _ _)
theorem cutD_len {α : Type} {xs : List α} {lo hi : Option Int} : (cutD xs lo hi).length ≤ xs.length := by
  unfold cutD
  rw [List.length_take, List.length_drop]
  omega
/-- place of an index that is no less than 0 -/
theorem place_nn {n : Nat} {i : Int} (h : 0 ≤ i) (h2 : i < n) : place n i = some i.toNat := by
  unfold place
  rw [if_pos h, if_pos h2]
theorem atD_nn {α : Type} {ds : List α} {i : Int} (h : 0 ≤ i) (h2 : i < ds.length) : ∃ d, atD ds i = some d ∧ ds[i.toNat]? = some d ∧ d ∈ ds := by
  have : i.toNat < ds.length := by omega
  refine ⟨ds[i.toNat], ?_, List.getElem?_eq_getElem this, List.getElem_mem this⟩
  unfold atD
  rw [place_nn h h2]
  exact List.getElem?_eq_getElem this
theorem mulR {i j : Int} (h : j.natAbs < 1152921504606846976) : mulOk i j := .inr (.inl h)
theorem mulL {i j : Int} (h : i.natAbs < 1152921504606846976) : mulOk i j := .inl h
theorem Nx.nm {f : List S → Prop} {ρ ρ' : List S} (e : ρ = ρ') (h : f ρ') : Nx f ρ := ⟨e ▸ h⟩
theorem eraseIdx_map {α β : Type} (f : α → β) : ∀ (xs : List α) (n : Nat), (xs.map f).eraseIdx n = (xs.eraseIdx n).map f
  | [], n => rfl
  | x :: xs, 0 => rfl
  | x :: xs, n + 1 => by rw [List.map_cons, List.eraseIdx_cons_succ, List.eraseIdx_cons_succ, List.map_cons, eraseIdx_map f xs n]
theorem eraseIdx_perm {α : Type} : ∀ {xs : List α} {n : Nat} {x : α}, xs[n]? = some x → (x :: xs.eraseIdx n).Perm xs
  | [], n, x, h => by simp at h
  | y :: xs, 0, x, h => by
    simp at h
    subst h
    exact List.Perm.refl _
  | y :: xs, n + 1, x, h => by
    rw [List.eraseIdx_cons_succ]
    exact (List.Perm.swap y x _).trans ((eraseIdx_perm (n := n) (by simpa using h)).cons y)
theorem drawn_perm {α : Type} {left out : List α} {n : Nat} {x : α} (h : left[n]? = some x) : (left.eraseIdx n ++ (out ++ [x])).Perm (left ++ out) := by
  rw [← List.append_assoc]
  exact List.perm_append_comm.trans ((eraseIdx_perm h).append_right out)
theorem nowns_mem : ∀ {es : List D} {d : D}, nowns es = true → d ∈ es → nown d = true
  | e :: es, d, h, m => by
    rw [nowns, Bool.and_eq_true] at h
    rcases List.mem_cons.mp m with rfl | m
    · exact h.1
    · exact nowns_mem h.2 m
theorem ints_of : ∀ {ds : List D} {is : List Int}, intsD ds = some is → ds = is.map D.int
  | [], is, h => by unfold intsD at h; cases h; rfl
  | d :: ds, is, h => by
    cases d with
    | int i =>
      rw [intsD] at h
      cases q : intsD ds with
      | none => rw [q] at h; cases h
      | some js =>
        rw [q] at h
        cases h
        rw [ints_of q]
        rfl
    | _ => unfold intsD at h; cases h
theorem ints_get {xs : List Int} {i : Nat} {d : D} (h : (xs.map D.int)[i]? = some d) : ∃ x, x ∈ xs ∧ d = .int x := by
  rw [List.getElem?_map] at h
  cases q : xs[i]? with
  | none => rw [q] at h; cases h
  | some x =>
    rw [q] at h
    cases h
    exact ⟨x, List.mem_of_getElem? q, rfl⟩
theorem ints_all {fs : List D} : (∀ d ∈ fs, ∃ i : Int, d = .int i) → ∃ zs : List Int, fs = zs.map D.int := by
  induction fs with
  | nil => exact fun _ => ⟨[], rfl⟩
  | cons d fs ih =>
    intro h
    obtain ⟨i, rfl⟩ := h d List.mem_cons_self
    obtain ⟨zs, rfl⟩ := ih fun e he => h e (List.mem_cons_of_mem _ he)
    exact ⟨i :: zs, rfl⟩
theorem perm_of_map {α β : Type} {f : α → β} (hf : ∀ a b, f a = f b → a = b) {g : β → α} (hg : ∀ a, g (f a) = a) {xs ys : List α} (h : (xs.map f).Perm (ys.map f)) : xs.Perm ys := by
  have := h.map g
  rw [List.map_map, List.map_map] at this
  have e : (g ∘ f) = id := funext hg
  rw [e, List.map_id, List.map_id] at this
  exact this
def unI : D → Int
  | .int i => i
  | _ => 0
theorem ints_perm {fs : List D} {xs : List Int} (h : fs.Perm (xs.map D.int)) : ∃ zs : List Int, fs = zs.map D.int ∧ zs.Perm xs := by
  obtain ⟨zs, rfl⟩ := ints_all (fs := fs) fun d hd => by
    have := h.mem_iff.mp hd
    obtain ⟨i, _, rfl⟩ := List.mem_map.mp this
    exact ⟨i, rfl⟩
  exact ⟨zs, rfl, perm_of_map (g := unI) (fun a b e => D.int.inj e) (fun _ => rfl) h⟩
def isInt : D → Bool
  | .int _ => true
  | _ => false
/-! ### what _law_same reckons -/
mutual
def sameD : D → D → Bool
  | .bl a, .bl b => decide (a = b)
  | .int a, .int b => decide (a = b)
  | .str a, .str b => decide (a = b)
  | .non, .non => true
  | .tup a, .tup b => sames a b
  | .lst _ a, .lst _ b => sames a b
  | _, _ => false
def sames : List D → List D → Bool
  | [], [] => true
  | a :: as, b :: bs => sameD a b && sames as bs
  | _, _ => false
end
mutual
/-- no object within, not deeper than n -/
def okD : Nat → D → Bool
  | _, .non => true
  | _, .bl _ => true
  | _, .int _ => true
  | _, .str _ => true
  | n + 1, .tup ds => decide (ds.length ≤ 100000) && oksD n ds
  | n + 1, .lst _ ds => decide (ds.length ≤ 100000) && oksD n ds
  | _, _ => false
def oksD : Nat → List D → Bool
  | _, [] => true
  | n, d :: ds => okD n d && oksD n ds
end
theorem Br.yes {c : Bool} {A B : Prop} (e : c = true) (h : A) : Br c A B := ⟨fun _ => h, fun z => (by rw [e] at z; cases z)⟩
theorem Br.no {c : Bool} {A B : Prop} (e : c = false) (h : B) : Br c A B := ⟨fun z => (by rw [e] at z; cases z), fun _ => h⟩
theorem sames_all : ∀ {ds es : List D}, ds.length = es.length → (∀ (j : Nat) (x y : D), ds[j]? = some x → es[j]? = some y → sameD x y = true) → sames ds es = true
  | [], [], _, _ => rfl
  | [], _ :: _, h, _ => by simp at h
  | _ :: _, [], h, _ => by simp at h
  | d :: ds, e :: es, h, k => by
    rw [sames, k 0 d e rfl rfl, sames_all (by simpa using h) fun j x y h1 h2 => k (j + 1) x y (by simpa using h1) (by simpa using h2)]
    rfl
theorem sames_not : ∀ {ds es : List D} {j : Nat} {x y : D}, ds[j]? = some x → es[j]? = some y → sameD x y = false → sames ds es = false
  | [], _, _, _, _, h, _, _ => by simp at h
  | _ :: _, [], _, _, _, _, h, _ => by simp at h
  | d :: ds, e :: es, 0, x, y, h1, h2, k => by
    simp at h1 h2
    subst h1 h2
    rw [sames, k]
    rfl
  | d :: ds, e :: es, j + 1, x, y, h1, h2, k => by
    rw [sames, sames_not (j := j) (by simpa using h1) (by simpa using h2) k, Bool.and_false]
theorem sames_len : ∀ {ds es : List D}, ds.length ≠ es.length → sames ds es = false
  | [], [], h => absurd rfl h
  | [], _ :: _, _ => by
    rw [sames]
    · intro _ h; cases h
    · intro _ _ _ _ h; cases h
  | _ :: _, [], _ => by
    rw [sames]
    · intro h; cases h
    · intro _ _ _ _ _ h; cases h
  | d :: ds, e :: es, h => by
    rw [sames, sames_len (fun z => h (by simp [z])), Bool.and_false]
theorem oksD_get : ∀ {n : Nat} {ds : List D} {i : Nat} {d : D}, oksD n ds = true → ds[i]? = some d → okD n d = true
  | n, [], i, d, _, e => by simp at e
  | n, a :: ds, 0, d, h, e => by
    rw [oksD, Bool.and_eq_true] at h
    simp at e
    subst e
    exact h.1
  | n, a :: ds, i + 1, d, h, e => by
    rw [oksD, Bool.and_eq_true] at h
    exact oksD_get h.2 (by simpa using e)
theorem okD_tup {n : Nat} {ds : List D} (h : okD (n + 1) (.tup ds) = true) : ds.length ≤ 100000 ∧ oksD n ds = true := by
  rw [okD, Bool.and_eq_true] at h
  exact ⟨of_decide_eq_true h.1, h.2⟩
theorem okD_lst {n : Nat} {m : Fl} {ds : List D} (h : okD (n + 1) (.lst m ds) = true) : ds.length ≤ 100000 ∧ oksD n ds = true := by
  rw [okD, Bool.and_eq_true] at h
  exact ⟨of_decide_eq_true h.1, h.2⟩
theorem cut_take {α : Type} {xs : List α} {j : Int} (h : 0 ≤ j) : cutD xs none (some j) = xs.take j.toNat := by
  unfold cutD cutAt
  simp only [if_neg (show ¬ j < 0 by omega), List.drop_zero, Nat.sub_zero]
  by_cases g : j.toNat ≤ xs.length
  · rw [Nat.min_eq_left g]
  · rw [Nat.min_eq_right (by omega), List.take_length, List.take_of_length_le (by omega)]
theorem cut_drop {α : Type} {xs : List α} {j : Int} (h : 0 ≤ j) : cutD xs (some j) none = xs.drop j.toNat := by
  unfold cutD cutAt
  simp only [if_neg (show ¬ j < 0 by omega)]
  by_cases g : j.toNat ≤ xs.length
  · rw [Nat.min_eq_left g, List.take_of_length_le (by rw [List.length_drop]; omega)]
  · rw [Nat.min_eq_right (by omega), List.drop_of_length_le (by omega), List.drop_of_length_le (by omega)]
    simp
/-! ### loops -/
theorem forW_inv {p : Pat} {b : YS} {k : Kt} (Inv : Nat → List S → Prop) {ds : List D} {ρ : List S} (h0 : Inv 0 ρ)
    (step : ∀ (i : Nat) (d : D) (ρ : List S) (N : List S → Prop), ds[i]? = some d → Inv i ρ → (∀ ρ', Inv (i + 1) ρ' → N ρ') → Y.bind p d ρ (Nx fun ρ => b ρ (k.loop N)))
    (fin : ∀ ρ, Inv ds.length ρ → k.nx ρ) : FoS p b ds ρ k := by
  refine ⟨?_⟩
  have key : ∀ (es : List D) (i : Nat) (ρ : List S), ds.drop i = es → i + es.length = ds.length → Inv i ρ → forW p b es ρ k := by
    intro es
    induction es with
    | nil =>
      intro i ρ _ hl h
      have : i = ds.length := by simpa using hl
      subst this
      exact fin ρ h
    | cons d es ih =>
      intro i ρ hd hl h
      have hi : ds[i]? = some d := by
        have := congrArg (fun l => l[0]?) hd
        simpa using this
      exact step i d ρ _ hi h fun ρ' h' => ih (i + 1) ρ' (by
        have := congrArg (List.drop 1) hd
        simpa [List.drop_drop, Nat.add_comm] using this) (by simp at hl; omega) h'
  exact key ds 0 ρ rfl (by simp) h0
/-- over a range -/
theorem rng_get {n i : Nat} {d : D} (h : ((List.range n).map fun i => D.int (i : Nat))[i]? = some d) : d = .int (i : Nat) ∧ i < n := by
  rw [List.getElem?_map] at h
  cases q : (List.range n)[i]? with
  | none => rw [q] at h; cases h
  | some j =>
    rw [q] at h
    cases h
    obtain ⟨h1, h2⟩ := List.getElem?_eq_some_iff.mp q
    simp at h1 h2
    exact ⟨by rw [← h2], h1⟩
/-- a comprehension: what each item gives -/
theorem lcW_fm0 {o : Bool} {p : Pat} {t : YB} {e : YP} {ρ : List S} (f : D → Option D) : ∀ {ds : List D} {Q : List D → Prop},
    (∀ d ∈ ds, ∀ (A : D → Prop) (B : Prop), (match f d with
      | some x => A x
      | none => B) → Y.bind p d ρ fun ρ2 => t ρ2 (fun b => Br b (e ρ2 (fun r => still o r A) X0) B) X0) → Q (ds.filterMap f) → lcW o p t e ρ ds Q
  | [], Q, _, q => q
  | d :: ds, Q, h, q => by
    refine h d List.mem_cons_self _ _ ?_
    cases e1 : f d with
    | some x =>
      refine lcW_fm0 f (fun d hd => h d (List.mem_cons_of_mem _ hd)) ?_
      rw [List.filterMap_cons, e1] at q
      exact q
    | none =>
      refine lcW_fm0 f (fun d hd => h d (List.mem_cons_of_mem _ hd)) ?_
      rw [List.filterMap_cons, e1] at q
      exact q
theorem lcW_fm {o : Bool} {p : Pat} {t : YB} {e : YP} {ρ : List S} (f : D → Option D) {ds : List D} {Q : List D → Prop}
    (h : ∀ d ∈ ds, ∀ (A : D → Prop) (B : Prop), (match f d with
      | some x => A x
      | none => B) → Y.bind p d ρ fun ρ2 => t ρ2 (fun b => Br b (e ρ2 (fun r => still o r A) X0) B) X0) (q : Q (ds.filterMap f)) : LcS o p t e ρ ds Q := ⟨lcW_fm0 f h q⟩
/-- a comprehension whose items are told by g, which are taken by c -/
theorem lc_map {α : Type} {mk : α → D} {o : Bool} {p : Pat} {t : YB} {e : YP} {ρ : List S} (c : α → Bool) (g : α → D) : ∀ {xs : List α} {Q : List D → Prop},
    (∀ x ∈ xs, ∀ (A : D → Prop) (B : Prop), Br (c x) (A (g x)) B → Y.bind p (mk x) ρ fun ρ2 => t ρ2 (fun b => Br b (e ρ2 (fun r => still o r A) X0) B) X0) → Q ((xs.filter c).map g) → lcW o p t e ρ (xs.map mk) Q
  | [], Q, _, q => q
  | x :: xs, Q, h, q => by
    refine h x List.mem_cons_self _ _ ⟨fun e1 => ?_, fun e1 => ?_⟩
    · refine lc_map c g (fun d hd => h d (List.mem_cons_of_mem _ hd)) ?_
      rw [List.filter_cons_of_pos e1] at q
      exact q
    · refine lc_map c g (fun d hd => h d (List.mem_cons_of_mem _ hd)) ?_
      rw [List.filter_cons_of_neg (by rw [e1]; exact Bool.false_ne_true)] at q
      exact q
theorem FoS.nil {p : Pat} {b : YS} {ρ : List S} {k : Kt} (h : k.nx ρ) : FoS p b [] ρ k := ⟨h⟩
theorem FoS.cons {p : Pat} {b : YS} {d : D} {ds : List D} {ρ : List S} {k : Kt} (h : Y.bind p d ρ (Nx fun ρ => b ρ (k.loop fun ρ => FoS p b ds ρ k))) : FoS p b (d :: ds) ρ k := by
  have e : (fun ρ => FoS p b ds ρ k) = fun ρ => forW p b ds ρ k := funext fun ρ => propext ⟨fun h => h.go, fun h => ⟨h⟩⟩
  rw [e] at h
  exact ⟨h⟩
theorem FoS.fz {p : Pat} {b : YS} {d : D} {ds : List D} {ρ : List S} {k : Kt} (h : FoS p b (Y.fz d :: fzs ds) ρ k) : FoS p b (fzs (d :: ds)) ρ k := h
theorem FoS.fz0 {p : Pat} {b : YS} {ρ : List S} {k : Kt} (h : k.nx ρ) : FoS p b (fzs []) ρ k := ⟨h⟩
/-! ### sorting -/
theorem insI_perm (x : Int) : ∀ l, (insI x l).Perm (x :: l)
  | [] => List.Perm.refl _
  | y :: ys => by
    unfold insI
    by_cases h : x ≤ y
    · rw [if_pos h]
    · rw [if_neg h]
      exact ((insI_perm x ys).cons y).trans (List.Perm.swap x y ys)
theorem srtI_perm : ∀ l, (srtI l).Perm l
  | [] => List.Perm.refl _
  | x :: xs => (insI_perm x (srtI xs)).trans ((srtI_perm xs).cons x)
theorem insI_sorted (x : Int) : ∀ l, l.Pairwise (· ≤ ·) → (insI x l).Pairwise (· ≤ ·)
  | [], _ => by unfold insI; simp
  | y :: ys, h => by
    have hh := List.pairwise_cons.mp h
    unfold insI
    by_cases e : x ≤ y
    · rw [if_pos e]
      refine List.pairwise_cons.mpr ⟨fun z hz => ?_, h⟩
      rcases List.mem_cons.mp hz with rfl | hz
      · exact e
      · exact Int.le_trans e (hh.1 z hz)
    · rw [if_neg e]
      refine List.pairwise_cons.mpr ⟨fun z hz => ?_, insI_sorted x ys hh.2⟩
      rcases List.mem_cons.mp ((insI_perm x ys).mem_iff.mp hz) with rfl | hz
      · omega
      · exact hh.1 z hz
theorem srtI_sorted : ∀ l, (srtI l).Pairwise (· ≤ ·)
  | [] => List.Pairwise.nil
  | x :: xs => insI_sorted x _ (srtI_sorted xs)
theorem srt_uniq : ∀ {a b : List Int}, a.Perm b → a.Pairwise (· ≤ ·) → b.Pairwise (· ≤ ·) → a = b
  | [], b, p, _, _ => by rw [List.nil_perm.mp p]
  | x :: xs, [], p, _, _ => by cases (List.perm_nil.mp p)
  | x :: xs, y :: ys, p, h, g => by
    have hh := List.pairwise_cons.mp h
    have gg := List.pairwise_cons.mp g
    have e : x = y := by
      have h1 : x ∈ y :: ys := p.mem_iff.mp List.mem_cons_self
      have h2 : y ∈ x :: xs := p.mem_iff.mpr List.mem_cons_self
      rcases List.mem_cons.mp h1 with e | h1
      · exact e
      · rcases List.mem_cons.mp h2 with e | h2
        · exact e.symm
        · have := gg.1 x h1
          have := hh.1 y h2
          omega
    subst e
    rw [srt_uniq (List.Perm.cons_inv p) hh.2 gg.2]
theorem srtI_of {l ns : List Int} (p : ns.Perm l) (h : ns.Pairwise (· ≤ ·)) : ns = srtI l := srt_uniq (p.trans (srtI_perm l).symm) h (srtI_sorted l)
end Y

/-! Y2: tests by cases, lots. -/
namespace Y
open PySem
theorem Br.d {p : Prop} [h : Decidable p] {A B : Prop} (h1 : p → A) (h2 : ¬ p → B) : Br (decide p) A B := ⟨fun e => h1 (of_decide_eq_true e), fun e => h2 (of_decide_eq_false e)⟩
theorem Br.e {p : Prop} [h : Decidable p] {A B : Prop} (h1 : p → A) (h2 : ¬ p → B) : Br (false ^^ decide p) A B := by rw [Bool.false_xor]; exact Br.d h1 h2
theorem Br.n {p : Prop} [h : Decidable p] {A B : Prop} (h1 : p → B) (h2 : ¬ p → A) : Br (!(decide p)) A B := ⟨fun e => h2 (by simpa using e), fun e => h1 (by simpa using e)⟩
theorem Br.x {p : Prop} [h : Decidable p] {A B : Prop} (h1 : p → B) (h2 : ¬ p → A) : Br (true ^^ decide p) A B := by rw [Bool.true_xor]; exact Br.n h1 h2
theorem Br.nn {c : Bool} {A B : Prop} (h : Br c B A) : Br (!c) A B := by cases c <;> exact ⟨fun e => (by first | exact h.f rfl | cases e), fun e => (by first | exact h.t rfl | cases e)⟩
theorem intsD_fz (xs : List Int) : intsD (fzs (xs.map D.int)) = some xs := by rw [fzs_ints, intsD_ints]
theorem intsD_lend (xs : List Int) : intsD (lends (xs.map D.int)) = some xs := by rw [lends_ints, intsD_ints]
theorem sameD_refl : ∀ (n : Nat) {d : D}, okD n d = true → sameD d d = true
  | n, .non, _ => by simp only [sameD]
  | n, .bl b, _ => by simp [sameD]
  | n, .int b, _ => by simp [sameD]
  | n, .str b, _ => by simp [sameD]
  | 0, .tup ds, h => by cases h
  | 0, .lst m ds, h => by cases h
  | n + 1, .tup ds, h => by
    simp only [sameD]
    exact go n (okD_tup h).2
  | n + 1, .lst m ds, h => by
    simp only [sameD]
    exact go n (okD_lst h).2
  | n, .dct _ _ _, h => by cases n <;> cases h
  | n, .obj _ _ _ _, h => by cases n <;> cases h
  | n, .src, h => by cases n <;> cases h
  | n, .scr _, h => by cases n <;> cases h
  | n, .cel _ _, h => by cases n <;> cases h
  | n, .glb _, h => by cases n <;> cases h
where
  go (n : Nat) : ∀ {ds : List D}, oksD n ds = true → sames ds ds = true
    | [], _ => by simp only [sames]
    | d :: ds, h => by
      rw [oksD, Bool.and_eq_true] at h
      rw [sames, sameD_refl n h.1, go n h.2]
      rfl
theorem oksD_ints (n : Nat) : ∀ xs : List Int, oksD n (xs.map D.int) = true
  | [] => by cases n <;> rfl
  | x :: xs => by
    rw [List.map_cons, oksD, oksD_ints n xs]
    cases n <;> rfl
/-! ### what a lot asks -/
def okM (ms : List Int) : Bool := decide (2 ≤ ms.length) && decide ms.Nodup && ms.all fun x => decide (0 ≤ x ∧ x < 12)
def okC (ms cs : List Int) : Bool := decide (0 < cs.length) && decide cs.Nodup && cs.all fun x => decide (x ∈ ms)
def okP (p : Int) : Bool := decide (0 ≤ p ∧ p ≤ 1000000000)
theorem okM_iff {ms : List Int} : okM ms = true ↔ 2 ≤ ms.length ∧ ms.Nodup ∧ ∀ x ∈ ms, 0 ≤ x ∧ x < 12 := by
  unfold okM
  simp [and_assoc]
theorem okC_iff {ms cs : List Int} : okC ms cs = true ↔ 0 < cs.length ∧ cs.Nodup ∧ ∀ x ∈ cs, x ∈ ms := by
  unfold okC
  simp [and_assoc]
theorem okP_iff {p : Int} : okP p = true ↔ 0 ≤ p ∧ p ≤ 1000000000 := by
  unfold okP
  simp
theorem bool_no {b : Bool} {P : Prop} (h : b = true → P) (n : ¬ P) : b = false := by
  cases b with
  | true => exact absurd (h rfl) n
  | false => rfl
theorem bool_yes {b : Bool} {P : Prop} (h : b = true ↔ P) (n : P) : b = true := h.mpr n
/-- why a lot is refused -/
def lotWhy (ms cs : List Int) (p : Int) : Option Str := if okM ms = false then some (Str.ofString "members") else if okC ms cs = false then some (Str.ofString "candidates") else if okP p = false then some (Str.ofString "price") else none
def lotD (m : Fl) (ms cs : List Int) (p : Int) : D := .obj m "Lot" ["members", "candidates", "price"] [.tup ((srtI ms).map D.int), .tup ((srtI cs).map D.int), .int p]
/-- what candidates are told -/
def candD (ms : List Int) : D → Option (List Int)
  | .non => some ms
  | d => (seqD d).bind intsD
/-! ### lists of ints, recognised -/
class IM (E : List D) (ys : outParam (List Int)) : Prop where
  e : E = ys.map D.int
instance IM.map {ys : List Int} : IM (ys.map D.int) ys := ⟨rfl⟩
instance IM.nil : IM [] [] := ⟨rfl⟩
instance IM.cons {x : Int} {E : List D} {ys : List Int} [h : IM E ys] : IM (D.int x :: E) (x :: ys) := ⟨by rw [h.e]; rfl⟩
instance IM.app {E F : List D} {ys zs : List Int} [h : IM E ys] [g : IM F zs] : IM (E ++ F) (ys ++ zs) := ⟨by rw [h.e, g.e, List.map_append]⟩
instance IM.fz {E : List D} {ys : List Int} [h : IM E ys] : IM (fzs E) ys := ⟨by rw [h.e, fzs_ints]⟩
instance IM.lend {E : List D} {ys : List Int} [h : IM E ys] : IM (lends E) ys := ⟨by rw [h.e, lends_ints]⟩
instance IM.cut {E : List D} {ys : List Int} {lo hi : Option Int} [h : IM E ys] : IM (cutD E lo hi) (cutD ys lo hi) := ⟨by rw [h.e, cutD_map]⟩
instance IM.take {E : List D} {ys : List Int} {n : Nat} [h : IM E ys] : IM (E.take n) (ys.take n) := ⟨by rw [h.e, List.map_take]⟩
instance IM.drop {E : List D} {ys : List Int} {n : Nat} [h : IM E ys] : IM (E.drop n) (ys.drop n) := ⟨by rw [h.e, List.map_drop]⟩
instance IM.rev {E : List D} {ys : List Int} [h : IM E ys] : IM E.reverse ys.reverse := ⟨by rw [h.e, List.map_reverse]⟩
instance IM.erase {E : List D} {ys : List Int} {n : Nat} [h : IM E ys] : IM (E.eraseIdx n) (ys.eraseIdx n) := ⟨by rw [h.e, eraseIdx_map]⟩
instance IM.rep {n : Nat} {x : Int} : IM (List.replicate n (D.int x)) (List.replicate n x) := ⟨by rw [List.map_replicate]⟩
instance IM.range {n : Nat} : IM ((List.range n).map fun i => D.int (i : Nat)) ((List.range n).map fun i : Nat => (i : Int)) := ⟨range_ints n⟩
theorem ex_ints {E : List D} {ys : List Int} {P : List Int → Prop} (i : IM E ys) (h : P ys) : ∃ xs, intsD E = some xs ∧ P xs := ⟨ys, by rw [i.e, intsD_ints], h⟩
instance IM.mapf {α : Type} {f : α → Int} {xs : List α} : IM (xs.map fun x => D.int (f x)) (xs.map f) := ⟨by rw [List.map_map]; rfl⟩
theorem lc_ints {E : List D} {xs : List Int} {o : Bool} {p : Pat} {t : YB} {e : YP} {ρ : List S} {c : Int → Bool} {g : Int → D} {Q : List D → Prop} (i : IM E xs)
    (h : ∀ x ∈ xs, ∀ (A : D → Prop) (B : Prop), Br (c x) (A (g x)) B → Y.bind p (.int x) ρ fun ρ2 => t ρ2 (fun b => Br b (e ρ2 (fun r => still o r A) X0) B) X0) (q : Q ((xs.filter c).map g)) : LcS o p t e ρ E Q := ⟨by rw [i.e]; exact lc_map c g h q⟩
theorem IM.len {E : List D} {ys : List Int} (i : IM E ys) : E.length = ys.length := by rw [i.e, List.length_map]
theorem IM.nown {E : List D} {ys : List Int} (i : IM E ys) : nowns E = true := by rw [i.e, nowns_ints]
theorem IM.nbor {E : List D} {ys : List Int} (i : IM E ys) : nbors E = true := by rw [i.e, nbors_ints]
theorem IM.plain {E : List D} {ys : List Int} (i : IM E ys) : plains E = true := by rw [i.e, plains_ints]
/-- each of them -/
structure All (es : List D) (P : D → Prop) : Prop where
  go : ∀ d ∈ es, P d
theorem All.ints {E : List D} {ys : List Int} {P : D → Prop} (i : IM E ys) (h : ∀ x ∈ ys, P (.int x)) : All E P := ⟨fun d hd => by
  rw [i.e] at hd
  obtain ⟨x, hx, rfl⟩ := List.mem_map.mp hd
  exact h x hx⟩
theorem All.nil {P : D → Prop} : All [] P := ⟨fun d hd => by cases hd⟩
theorem All.cons {d : D} {es : List D} {P : D → Prop} (h : P d) (t : All es P) : All (d :: es) P := ⟨fun e he => (List.mem_cons.mp he).elim (fun q => q ▸ h) (t.go e)⟩
/-- an item -/
theorem ex_at {E : List D} {ys : List Int} {k : Int} {P : D → Prop} (i : IM E ys) (h0 : 0 ≤ k) (h1 : k < ys.length) (h : ∀ x, ys[k.toNat]? = some x → P (.int x)) : ∃ d, atD E k = some d ∧ P d := by
  have hk : k.toNat < ys.length := by omega
  refine ⟨.int ys[k.toNat], ?_, h _ (List.getElem?_eq_getElem hk)⟩
  unfold atD
  rw [place_nn h0 (by rw [i.len]; exact h1), i.e]
  show (ys.map D.int)[k.toNat]? = _
  rw [List.getElem?_map, List.getElem?_eq_getElem hk]
  rfl
theorem okM_short {ys : List Int} (h : ys.length < 2) : okM ys = false := bool_no (fun z => (okM_iff.mp z).1) (by omega)
theorem okM_dup {ys : List Int} (h : ¬ ys.Nodup) : okM ys = false := bool_no (fun z => (okM_iff.mp z).2.1) h
theorem okM_far {ys : List Int} {x : Int} (h : x ∈ ys) (h2 : ¬ (0 ≤ x ∧ x < 12)) : okM ys = false := bool_no (fun z => (okM_iff.mp z).2.2) fun z => h2 (z x h)
theorem okC_nil {ms : List Int} : okC ms [] = false := rfl
theorem okC_dup {ms ys : List Int} (h : ¬ ys.Nodup) : okC ms ys = false := bool_no (fun z => (okC_iff.mp z).2.1) h
theorem okC_far {ms ys : List Int} {x : Int} (h : x ∈ ys) (h2 : x ∉ ms) : okC ms ys = false := bool_no (fun z => (okC_iff.mp z).2.2) fun z => h2 (z x h)
theorem put_mem {xs : List Int} {a : Nat} {x : Int} : x ∈ xs.take a ++ [x] ++ xs.drop a := by simp
theorem put_dup {xs : List Int} {a : Nat} {x : Int} (h : x ∈ xs) : ¬ (xs.take a ++ [x] ++ xs.drop a).Nodup := fun z => by
  have p : (xs.take a ++ [x] ++ xs.drop a).Perm (x :: xs) := by
    have q : (xs.take a ++ x :: xs.drop a).Perm (x :: (xs.take a ++ xs.drop a)) := List.perm_middle
    rw [List.take_append_drop] at q
    rw [List.append_assoc]
    exact q
  exact (List.nodup_cons.mp (p.nodup_iff.mp z)).1 h
theorem put_len {xs : List Int} {a : Nat} {x : Int} : (xs.take a ++ [x] ++ xs.drop a).length = xs.length + 1 := by
  simp only [List.length_append, List.length_take, List.length_drop, List.length_cons, List.length_nil]
  omega
theorem cut_hi_len {α : Type} {xs : List α} {j : Int} (h : 0 ≤ j) : (cutD xs none (some j)).length ≤ j.toNat := by
  rw [cut_take h, List.length_take]
  omega
theorem im_get {E : List D} {ys : List Int} {j : Nat} {d : D} (i : IM E ys) (h : E[j]? = some d) : ∃ x, ys[j]? = some x ∧ d = .int x := by
  rw [i.e, List.getElem?_map] at h
  cases q : ys[j]? with
  | none => rw [q] at h; cases h
  | some x =>
    rw [q] at h
    cases h
    exact ⟨x, rfl, rfl⟩
theorem take_mem {α : Type} {xs : List α} {i : Nat} {x y : α} (h : xs[i]? = some x) (hy : y ∈ xs.take (i + 1)) : y ∈ xs.take i ∨ y = x := by
  obtain ⟨hi, e⟩ := List.getElem?_eq_some_iff.mp h
  rw [List.take_succ_eq_append_getElem hi, e, List.mem_append] at hy
  exact hy.imp id List.mem_singleton.mp
/-- a loop that looks at each item: it goes on as long as P holds -/
theorem for_all {p : Pat} {b : YS} {k : Kt} {E : List D} {ms : List Int} {ρ : List S} (i : IM E ms) (Inv : List S → Prop) (P : Int → Prop) (h0 : Inv ρ)
    (step : ∀ x ∈ ms, ∀ (ρ : List S) (N : List S → Prop), Inv ρ → (P x → ∀ ρ', Inv ρ' → N ρ') → Y.bind p (.int x) ρ (Nx fun ρ => b ρ (k.loop N)))
    (fin : ∀ ρ, Inv ρ → (∀ x ∈ ms, P x) → k.nx ρ) : FoS p b E ρ k := by
  refine forW_inv (fun i ρ => Inv ρ ∧ ∀ x ∈ ms.take i, P x) ⟨h0, by simp⟩ (fun j d ρ N hd hI hN => ?_) fun ρ hI => fin ρ hI.1 ?_
  · obtain ⟨x, hx, rfl⟩ := im_get i hd
    exact step x (List.mem_of_getElem? hx) ρ N hI.1 fun hp ρ' h' => hN ρ' ⟨h', fun y hy => (take_mem hx hy).elim (hI.2 y) fun e => e ▸ hp⟩
  · have := hI.2
    rw [i.len, List.take_length] at this
    exact this
theorem nodup_bound {xs : List Int} {n : Nat} (h : xs.Nodup) (h2 : ∀ x ∈ xs, 0 ≤ x ∧ x < n) : xs.length ≤ n := by
  have := List.Nodup.length_le_of_subset (l₂ := (List.range n).map fun i : Nat => (i : Int)) h (fun x hx => by
    have := h2 x hx
    exact List.mem_map.mpr ⟨x.toNat, by simp; omega, by omega⟩)
  simpa using this
theorem why_m {ms cs : List Int} {p : Int} (h : okM ms = false) : lotWhy ms cs p = some (Str.ofString "members") := by
  unfold lotWhy
  rw [if_pos h]
theorem why_c {ms cs : List Int} {p : Int} (h : okM ms = true) (h2 : okC ms cs = false) : lotWhy ms cs p = some (Str.ofString "candidates") := by
  unfold lotWhy
  rw [if_neg (by rw [h]; decide), if_pos h2]
theorem why_p {ms cs : List Int} {p : Int} (h : okM ms = true) (h2 : okC ms cs = true) (h3 : okP p = false) : lotWhy ms cs p = some (Str.ofString "price") := by
  unfold lotWhy
  rw [if_neg (by rw [h]; decide), if_neg (by rw [h2]; decide), if_pos h3]
theorem why_n {ms cs : List Int} {p : Int} (h : okM ms = true) (h2 : okC ms cs = true) (h3 : okP p = true) : lotWhy ms cs p = none := by
  unfold lotWhy
  rw [if_neg (by rw [h]; decide), if_neg (by rw [h2]; decide), if_neg (by rw [h3]; decide)]
theorem okM_len {ms : List Int} (h : okM ms = true) : ms.length ≤ 12 := nodup_bound (n := 12) (okM_iff.mp h).2.1 (okM_iff.mp h).2.2
theorem okC_len {ms cs : List Int} (h : okM ms = true) (h2 : okC ms cs = true) : cs.length ≤ 12 := Nat.le_trans (List.Nodup.length_le_of_subset (okC_iff.mp h2).2.1 (okC_iff.mp h2).2.2) (okM_len h)
theorem cand_tup {ms cs : List Int} {ds : List D} (h : candD ms (.tup ds) = some cs) : ds = cs.map D.int := ints_of h
theorem cand_lst {ms cs : List Int} {m : Fl} {ds : List D} (h : candD ms (.lst m ds) = some cs) : ds = cs.map D.int := ints_of h
/-- what comes of trying to make a lot -/
def triedD (ms cs : List Int) (p : Int) : D := match lotWhy ms cs p with
  | none => .tup [.str (Str.ofString "made"), .tup ((srtI ms).map D.int), .tup ((srtI cs).map D.int), .int p]
  | some y => .tup [.str (Str.ofString "refused"), .str y]
theorem FoS.nm {p : Pat} {b : YS} {ds ds' : List D} {ρ ρ' : List S} {k : Kt} (e1 : ds = ds') (e2 : ρ = ρ') (h : FoS p b ds' ρ' k) : FoS p b ds ρ k := by rw [e1, e2]; exact h
/-- a loop that looks at each item: it goes on as long as P holds -/
theorem for_each {α : Type} {p : Pat} {b : YS} {k : Kt} {E : List D} {ρ : List S} (mk : α → D) (xs : List α) (e : E = xs.map mk) (Inv : List S → Prop) (P : α → Prop) (h0 : Inv ρ)
    (step : ∀ x ∈ xs, ∀ (ρ : List S) (N : List S → Prop), Inv ρ → (P x → ∀ ρ', Inv ρ' → N ρ') → Y.bind p (mk x) ρ (Nx fun ρ => b ρ (k.loop N)))
    (fin : ∀ ρ, Inv ρ → (∀ x ∈ xs, P x) → k.nx ρ) : FoS p b E ρ k := by
  subst e
  refine forW_inv (fun i ρ => Inv ρ ∧ ∀ x ∈ xs.take i, P x) ⟨h0, by simp⟩ (fun j d ρ N hd hI hN => ?_) fun ρ hI => fin ρ hI.1 ?_
  · rw [List.getElem?_map] at hd
    cases q : xs[j]? with
    | none => rw [q] at hd; cases hd
    | some x =>
      rw [q] at hd
      cases hd
      exact step x (List.mem_of_getElem? q) ρ N hI.1 fun hp ρ' h' => hN ρ' ⟨h', fun y hy => (take_mem q hy).elim (hI.2 y) fun e => e ▸ hp⟩
  · have := hI.2
    rw [List.length_map, List.take_length] at this
    exact this
theorem tried_m {ms cs : List Int} {p : Int} (h : okM ms = false) : triedD ms cs p = .tup [.str (Str.ofString "refused"), .str (Str.ofString "members")] := by
  unfold triedD
  rw [why_m h]
theorem tried_c {ms cs : List Int} {p : Int} (h : okM ms = true) (h2 : okC ms cs = false) : triedD ms cs p = .tup [.str (Str.ofString "refused"), .str (Str.ofString "candidates")] := by
  unfold triedD
  rw [why_c h h2]
theorem tried_p {ms cs : List Int} {p : Int} (h : okM ms = true) (h2 : okC ms cs = true) (h3 : okP p = false) : triedD ms cs p = .tup [.str (Str.ofString "refused"), .str (Str.ofString "price")] := by
  unfold triedD
  rw [why_p h h2 h3]
theorem tried_n {ms cs : List Int} {p : Int} (h : okM ms = true) (h2 : okC ms cs = true) (h3 : okP p = true) : triedD ms cs p = .tup [.str (Str.ofString "made"), .tup ((srtI ms).map D.int), .tup ((srtI cs).map D.int), .int p] := by
  unfold triedD
  rw [why_n h h2 h3]
theorem okD_ints {n : Nat} {xs : List Int} (h : xs.length ≤ 100000) : okD (n + 1) (.tup (xs.map D.int)) = true := by
  rw [okD, oksD_ints, List.length_map, decide_eq_true h]
  rfl
theorem okL_ints {n : Nat} {m : Fl} {xs : List Int} (h : xs.length ≤ 100000) : okD (n + 1) (.lst m (xs.map D.int)) = true := by
  rw [okD, oksD_ints, List.length_map, decide_eq_true h]
  rfl
theorem ok_made {n : Nat} {t : Str} {a b : List Int} {p : Int} (h1 : a.length ≤ 100000) (h2 : b.length ≤ 100000) : okD (n + 2) (.tup [.str t, .tup (a.map D.int), .tup (b.map D.int), .int p]) = true := by
  rw [okD, oksD, oksD, oksD, oksD, oksD, okD_ints h1, okD_ints h2]
  rfl
theorem srt_len (xs : List Int) : (srtI xs).length = xs.length := (srtI_perm xs).length_eq
theorem rTrue {R : RV → Prop} {b : Bool} (e : b = true) (h : R (.val (.bl true))) : R (.val (.bl b)) := by rw [e]; exact h
theorem ex_candT {ms : List Int} {E : List D} {ys : List Int} {P : List Int → Prop} (i : IM E ys) (h : P ys) : ∃ cs, candD ms (.tup E) = some cs ∧ P cs := ⟨ys, by rw [i.e]; exact intsD_ints ys, h⟩
theorem ex_candL {ms : List Int} {m : Fl} {E : List D} {ys : List Int} {P : List Int → Prop} (i : IM E ys) (h : P ys) : ∃ cs, candD ms (.lst m E) = some cs ∧ P cs := ⟨ys, by rw [i.e]; exact intsD_ints ys, h⟩
theorem okL_im {n : Nat} {m : Fl} {E : List D} {ys : List Int} (i : IM E ys) (h : ys.length ≤ 100000) : okD (n + 1) (.lst m E) = true := by rw [i.e]; exact okL_ints h
theorem okT_im {n : Nat} {E : List D} {ys : List Int} (i : IM E ys) (h : ys.length ≤ 100000) : okD (n + 1) (.tup E) = true := by rw [i.e]; exact okD_ints h
theorem sames_refl_ints (xs : List Int) : sames (xs.map D.int) (xs.map D.int) = true := sameD_refl.go 0 (oksD_ints 0 xs)
theorem sameL_im {m m' : Fl} {E F : List D} {ys : List Int} (i : IM E ys) (j : IM F ys) : sameD (.lst m E) (.lst m' F) = true := by
  simp only [sameD]
  rw [i.e, j.e]
  exact sames_refl_ints ys
theorem sameT_im {E F : List D} {ys : List Int} (i : IM E ys) (j : IM F ys) : sameD (.tup E) (.tup F) = true := by
  simp only [sameD]
  rw [i.e, j.e]
  exact sames_refl_ints ys
theorem Br.nm {c c' : Bool} {A B : Prop} (e : c = c') (h : Br c' A B) : Br c A B := by rw [e]; exact h
/-! ### lists of lists of ints -/
def mkL (r : List Int) : D := .lst .frz (r.map D.int)
class IL (E : List D) (rs : outParam (List (List Int))) : Prop where
  e : E = rs.map mkL
theorem fzs_rows : ∀ rs : List (List Int), fzs (rs.map mkL) = rs.map mkL
  | [] => rfl
  | r :: rs => by rw [List.map_cons, fzs, fzs_rows rs]; rfl
theorem lends_rows : ∀ rs : List (List Int), lends (rs.map mkL) = rs.map mkL
  | [] => rfl
  | r :: rs => by rw [List.map_cons, lends, lends_rows rs]; rfl
theorem nowns_rows : ∀ rs : List (List Int), nowns (rs.map mkL) = true
  | [] => rfl
  | r :: rs => by rw [List.map_cons, nowns, nowns_rows rs]; unfold mkL; rw [nown, nowns_ints]; rfl
theorem nbors_rows : ∀ rs : List (List Int), nbors (rs.map mkL) = true
  | [] => rfl
  | r :: rs => by rw [List.map_cons, nbors, nbors_rows rs]; unfold mkL; rw [nbor, nbors_ints]; rfl
instance IL.map {rs : List (List Int)} : IL (rs.map mkL) rs := ⟨rfl⟩
instance IL.nil : IL [] [] := ⟨rfl⟩
instance IL.cons {E F : List D} {ys : List Int} {rs : List (List Int)} [h : IM E ys] [g : IL F rs] : IL (D.lst .frz E :: F) (ys :: rs) := ⟨by rw [h.e, g.e]; rfl⟩
instance IL.consk {r : List Int} {F : List D} {rs : List (List Int)} [g : IL F rs] : IL (mkL r :: F) (r :: rs) := ⟨by rw [g.e]; rfl⟩
instance IL.app {E F : List D} {ys zs : List (List Int)} [h : IL E ys] [g : IL F zs] : IL (E ++ F) (ys ++ zs) := ⟨by rw [h.e, g.e, List.map_append]⟩
instance IL.fz {E : List D} {ys : List (List Int)} [h : IL E ys] : IL (fzs E) ys := ⟨by rw [h.e, fzs_rows]⟩
instance IL.lend {E : List D} {ys : List (List Int)} [h : IL E ys] : IL (lends E) ys := ⟨by rw [h.e, lends_rows]⟩
instance IL.cut {E : List D} {ys : List (List Int)} {lo hi : Option Int} [h : IL E ys] : IL (cutD E lo hi) (cutD ys lo hi) := ⟨by rw [h.e, cutD_map]⟩
instance IL.mapf {α : Type} {E : α → List D} {f : α → List Int} {xs : List α} [h : ∀ x, IM (E x) (f x)] : IL (xs.map fun x => D.lst .frz (E x)) (xs.map f) := ⟨by
  rw [List.map_map]
  exact List.map_congr_left fun x _ => by show D.lst .frz (E x) = mkL (f x); rw [(h x).e]; rfl⟩
instance IL.mapk {α : Type} {f : α → List Int} {xs : List α} : IL (xs.map fun x => mkL (f x)) (xs.map f) := ⟨by rw [List.map_map]; rfl⟩
theorem IL.len {E : List D} {ys : List (List Int)} (i : IL E ys) : E.length = ys.length := by rw [i.e, List.length_map]
theorem lc_rows {E : List D} {xs : List (List Int)} {o : Bool} {p : Pat} {t : YB} {e : YP} {ρ : List S} {c : List Int → Bool} {g : List Int → D} {Q : List D → Prop} (i : IL E xs)
    (h : ∀ x ∈ xs, ∀ (A : D → Prop) (B : Prop), Br (c x) (A (g x)) B → Y.bind p (mkL x) ρ fun ρ2 => t ρ2 (fun b => Br b (e ρ2 (fun r => still o r A) X0) B) X0) (q : Q ((xs.filter c).map g)) : LcS o p t e ρ E Q := ⟨by rw [i.e]; exact lc_map c g h q⟩
theorem toL {A : D → Prop} {E : List D} {ys : List Int} (i : IM E ys) (h : A (mkL ys)) : A (.lst .frz E) := by rw [i.e]; exact h
theorem toR {A : D → Prop} {m : Fl} {E : List D} {ys : List (List Int)} (i : IL E ys) (h : A (.lst m (ys.map mkL))) : A (.lst m E) := by rw [i.e]; exact h
theorem All.rows {E : List D} {ys : List (List Int)} {P : D → Prop} (i : IL E ys) (h : ∀ x ∈ ys, P (mkL x)) : All E P := ⟨fun d hd => by
  rw [i.e] at hd
  obtain ⟨x, hx, rfl⟩ := List.mem_map.mp hd
  exact h x hx⟩
theorem Br.ni {d : D} {x : Int} {E : List D} {ys : List Int} {A B : Prop} (i : IM E ys) (e : d = .int x) (h1 : x ∉ ys → A) (h2 : x ∈ ys → B) : Br (true ^^ anyEq d E) A B := by
  rw [e, i.e, anyEq_ints]
  exact Br.x h2 h1
theorem Br.in {d : D} {x : Int} {E : List D} {ys : List Int} {A B : Prop} (i : IM E ys) (e : d = .int x) (h1 : x ∈ ys → A) (h2 : x ∉ ys → B) : Br (false ^^ anyEq d E) A B := by
  rw [e, i.e, anyEq_ints]
  exact Br.e h1 h2
/-! ### lists of truth values -/
class IB (E : List D) (ys : outParam (List Bool)) : Prop where
  e : E = ys.map D.bl
instance IB.map {ys : List Bool} : IB (ys.map D.bl) ys := ⟨rfl⟩
instance IB.nil : IB [] [] := ⟨rfl⟩
instance IB.cons {x : Bool} {E : List D} {ys : List Bool} [h : IB E ys] : IB (D.bl x :: E) (x :: ys) := ⟨by rw [h.e]; rfl⟩
instance IB.mapf {α : Type} {f : α → Bool} {xs : List α} : IB (xs.map fun x => D.bl (f x)) (xs.map f) := ⟨by rw [List.map_map]; rfl⟩
theorem blsD_bls : ∀ xs : List Bool, blsD (xs.map D.bl) = some xs
  | [] => rfl
  | x :: xs => by rw [List.map_cons, blsD, blsD_bls xs]; rfl
theorem ex_bls {E : List D} {ys : List Bool} {P : List Bool → Prop} (i : IB E ys) (h : P ys) : ∃ xs, blsD E = some xs ∧ P xs := ⟨ys, by rw [i.e, blsD_bls], h⟩
theorem filter_true {α : Type} {xs : List α} : xs.filter (fun _ => true) = xs := List.filter_eq_self.mpr fun _ _ => rfl
theorem any_srt {xs : List Int} {f : Int → Bool} : (srtI xs).any f = xs.any f := by
  rw [Bool.eq_iff_iff, List.any_eq_true, List.any_eq_true]
  exact ⟨fun ⟨x, h, e⟩ => ⟨x, (srtI_perm xs).mem_iff.mp h, e⟩, fun ⟨x, h, e⟩ => ⟨x, (srtI_perm xs).mem_iff.mpr h, e⟩⟩
theorem any_id {α : Type} {xs : List α} {f : α → Bool} : (xs.map f).any id = xs.any f := by
  rw [List.any_map]
  rfl
theorem rEq {R : RV → Prop} {b c : Bool} (e : b = c) (h : R (.val (.bl c))) : R (.val (.bl b)) := by rw [e]; exact h
theorem ex_lot {gs ms : List Int} {c : Int} {P : List Int → List Int → Int → Prop} (h : P gs ms c) : ∃ a b d, lotD .frz gs ms c = lotD .frz a b d ∧ P a b d := ⟨_, _, _, rfl, h⟩
theorem sameB {a b : Bool} : sameD (.bl a) (.bl b) = decide (a = b) := by simp only [sameD]
theorem len_im {E : List D} {ys : List Int} {n : Nat} (i : IM E ys) (h0 : 0 < ys.length) (h1 : ys.length ≤ n) : 0 < E.length ∧ E.length ≤ n := by rw [i.len]; exact ⟨h0, h1⟩
theorem len_il {E : List D} {ys : List (List Int)} {n : Nat} (i : IL E ys) (h0 : 0 < ys.length) (h1 : ys.length ≤ n) : 0 < E.length ∧ E.length ≤ n := by rw [i.len]; exact ⟨h0, h1⟩
theorem lenu_im {E : List D} {ys : List Int} {n : Nat} (i : IM E ys) (h1 : ys.length ≤ n) : E.length ≤ n := by rw [i.len]; exact h1
theorem lenu_il {E : List D} {ys : List (List Int)} {n : Nat} (i : IL E ys) (h1 : ys.length ≤ n) : E.length ≤ n := by rw [i.len]; exact h1
theorem fz_lot {gs ms : List Int} {c : Int} : fz (lotD .own gs ms c) = lotD .frz gs ms c := by
  unfold lotD
  rw [fz, fzs, fzs, fzs, fzs, fz, fz, fz]
theorem ex_lot2 {gs ms : List Int} {c : Int} {P : List Int → Int → Prop} (h : P ms c) : ∃ b d, lotD .frz gs ms c = lotD .frz gs b d ∧ P b d := ⟨_, _, rfl, h⟩
theorem fzs_im {E : List D} {ys : List Int} (i : IM E ys) : fzs E = ys.map D.int := by rw [i.e, fzs_ints]
/-- both go on -/
structure Both (A B : Prop) : Prop where
  l : A
  r : B
theorem Br.id {c : Bool} {A B : Prop} (h : Br c A B) : Br c A B := h
theorem Ex.id {α : Type} {p : α → Prop} (h : ∃ x, p x) : ∃ x, p x := h
theorem Nx.id {f : List S → Prop} {ρ : List S} (h : Nx f ρ) : Nx f ρ := h
theorem okId {n : Nat} {d : D} (h : okD n d = true) : okD n d = true := h
theorem lenp_im {E : List D} {ys : List Int} (i : IM E ys) (h1 : 0 < ys.length) : 0 < E.length := by rw [i.len]; exact h1
theorem lenp_il {E : List D} {ys : List (List Int)} (i : IL E ys) (h1 : 0 < ys.length) : 0 < E.length := by rw [i.len]; exact h1
/-! ### lists of anything, recognised -/
class IG {α : Type} (mk : α → D) (E : List D) (xs : outParam (List α)) : Prop where
  e : E = xs.map mk
/-- what stands still -/
class FzK {α : Type} (mk : α → D) : Prop where
  f : ∀ x, fz (mk x) = mk x
  l : ∀ x, lend (mk x) = mk x
theorem fzs_ig {α : Type} {mk : α → D} [h : FzK mk] : ∀ xs : List α, fzs (xs.map mk) = xs.map mk
  | [] => rfl
  | x :: xs => by rw [List.map_cons, fzs, fzs_ig xs, h.f]
theorem lends_ig {α : Type} {mk : α → D} [h : FzK mk] : ∀ xs : List α, lends (xs.map mk) = xs.map mk
  | [] => rfl
  | x :: xs => by rw [List.map_cons, lends, lends_ig xs, h.l]
section
variable {α : Type} {mk : α → D}
instance IG.map {xs : List α} : IG mk (xs.map mk) xs := ⟨rfl⟩
instance IG.nil : IG mk [] [] := ⟨rfl⟩
instance IG.cons {x : α} {E : List D} {xs : List α} [h : IG mk E xs] : IG mk (mk x :: E) (x :: xs) := ⟨by rw [h.e]; rfl⟩
instance IG.app {E F : List D} {xs ys : List α} [h : IG mk E xs] [g : IG mk F ys] : IG mk (E ++ F) (xs ++ ys) := ⟨by rw [h.e, g.e, List.map_append]⟩
instance IG.fz [FzK mk] {E : List D} {xs : List α} [h : IG mk E xs] : IG mk (fzs E) xs := ⟨by rw [h.e, fzs_ig]⟩
instance IG.lend [FzK mk] {E : List D} {xs : List α} [h : IG mk E xs] : IG mk (lends E) xs := ⟨by rw [h.e, lends_ig]⟩
instance IG.cut {E : List D} {xs : List α} {lo hi : Option Int} [h : IG mk E xs] : IG mk (cutD E lo hi) (cutD xs lo hi) := ⟨by rw [h.e, cutD_map]⟩
instance IG.take {E : List D} {xs : List α} {n : Nat} [h : IG mk E xs] : IG mk (E.take n) (xs.take n) := ⟨by rw [h.e, List.map_take]⟩
instance IG.drop {E : List D} {xs : List α} {n : Nat} [h : IG mk E xs] : IG mk (E.drop n) (xs.drop n) := ⟨by rw [h.e, List.map_drop]⟩
theorem IG.len {E : List D} {xs : List α} (i : IG mk E xs) : E.length = xs.length := by rw [i.e, List.length_map]
theorem ex_ig {E : List D} {xs : List α} {P : List α → Prop} (i : IG mk E xs) (h : P xs) : ∃ ys, IG mk E ys ∧ P ys := ⟨xs, i, h⟩
theorem ig_get {xs : List α} {j : Nat} {d : D} (h : (xs.map mk)[j]? = some d) : ∃ x, xs[j]? = some x ∧ d = mk x := by
  rw [List.getElem?_map] at h
  cases q : xs[j]? with
  | none => rw [q] at h; cases h
  | some x =>
    rw [q] at h
    cases h
    exact ⟨x, rfl, rfl⟩
theorem ex_atg {xs : List α} {k : Int} {P : D → Prop} (h0 : 0 ≤ k) (h1 : k < xs.length) (h : ∀ x, xs[k.toNat]? = some x → P (mk x)) : ∃ d, atD (xs.map mk) k = some d ∧ P d := by
  have hk : k.toNat < xs.length := by omega
  refine ⟨mk xs[k.toNat], ?_, h _ (List.getElem?_eq_getElem hk)⟩
  unfold atD
  rw [place_nn h0 (by rw [List.length_map]; exact h1)]
  show (xs.map mk)[k.toNat]? = _
  rw [List.getElem?_map, List.getElem?_eq_getElem hk]
  rfl
end
/-- a comprehension without a test whose items are told by a property -/
theorem lc_any0 {α : Type} {mk : α → D} {P : α → Prop} {o : Bool} {p : Pat} {t : YB} {e : YP} {ρ : List S} : ∀ {ds : List D} {Q : List D → Prop},
    (∀ d ∈ ds, ∀ (A : D → Prop) (B : Prop), (∀ x, P x → A (mk x)) → Y.bind p d ρ fun ρ2 => t ρ2 (fun b => Br b (e ρ2 (fun r => still o r A) X0) B) X0) → (∀ xs : List α, xs.length = ds.length → (∀ x ∈ xs, P x) → Q (xs.map mk)) → lcW o p t e ρ ds Q
  | [], Q, _, q => q [] rfl fun x h => by cases h
  | d :: ds, Q, h, q => h d List.mem_cons_self _ _ fun x hx => lc_any0 (fun d hd => h d (List.mem_cons_of_mem _ hd)) fun xs l hp => q (x :: xs) (by simp [l]) fun y hy => by
    cases hy with
    | head => exact hx
    | tail _ hy => exact hp y hy
theorem lc_any {α : Type} (mk : α → D) (P : α → Prop) {o : Bool} {p : Pat} {t : YB} {e : YP} {ρ : List S} {ds : List D} {Q : List D → Prop}
    (h : ∀ d ∈ ds, ∀ (A : D → Prop) (B : Prop), (∀ x, P x → A (mk x)) → Y.bind p d ρ fun ρ2 => t ρ2 (fun b => Br b (e ρ2 (fun r => still o r A) X0) B) X0) (q : ∀ xs : List α, xs.length = ds.length → (∀ x ∈ xs, P x) → Q (xs.map mk)) : LcS o p t e ρ ds Q := ⟨lc_any0 h q⟩
theorem lc_g {α : Type} (mk : α → D) {E : List D} {xs : List α} {o : Bool} {p : Pat} {t : YB} {e : YP} {ρ : List S} {c : α → Bool} {g : α → D} {Q : List D → Prop} (i : IG mk E xs)
    (h : ∀ x ∈ xs, ∀ (A : D → Prop) (B : Prop), Br (c x) (A (g x)) B → Y.bind p (mk x) ρ fun ρ2 => t ρ2 (fun b => Br b (e ρ2 (fun r => still o r A) X0) B) X0) (q : Q ((xs.filter c).map g)) : LcS o p t e ρ E Q := ⟨by rw [i.e]; exact lc_map c g h q⟩
/-- a loop that looks at each item, what came before it being fine -/
theorem for_pre {α : Type} {p : Pat} {b : YS} {k : Kt} {E : List D} {ρ : List S} (mk : α → D) (xs : List α) (e : E = xs.map mk) (Inv : List S → Prop) (P : α → Prop) (h0 : Inv ρ)
    (step : ∀ (pre : List α) (x : α) (suf : List α), xs = pre ++ x :: suf → (∀ y ∈ pre, P y) → ∀ (ρ : List S) (N : List S → Prop), Inv ρ → (P x → ∀ ρ', Inv ρ' → N ρ') → Y.bind p (mk x) ρ (Nx fun ρ => b ρ (k.loop N)))
    (fin : ∀ ρ, Inv ρ → (∀ x ∈ xs, P x) → k.nx ρ) : FoS p b E ρ k := by
  subst e
  refine forW_inv (fun i ρ => Inv ρ ∧ ∀ x ∈ xs.take i, P x) ⟨h0, by simp⟩ (fun j d ρ N hd hI hN => ?_) fun ρ hI => fin ρ hI.1 ?_
  · obtain ⟨x, q, rfl⟩ := ig_get hd
    obtain ⟨hj, e⟩ := List.getElem?_eq_some_iff.mp q
    exact step (xs.take j) x (xs.drop (j + 1)) (by rw [← e, List.getElem_cons_drop, List.take_append_drop]) hI.2 ρ N hI.1 fun hp ρ' h' => hN ρ' ⟨h', fun y hy => (take_mem q hy).elim (hI.2 y) fun e => e ▸ hp⟩
  · have := hI.2
    rw [List.length_map, List.take_length] at this
    exact this
/-! ### what is nobody's own -/
class NoOwn (d : D) : Prop where
  h : nown d = true
class NoOwnL (E : List D) : Prop where
  h : nowns E = true
instance NoOwnL.nilI : NoOwnL [] := ⟨rfl⟩
instance NoOwnL.consI {d : D} {E : List D} [a : NoOwn d] [b : NoOwnL E] : NoOwnL (d :: E) := ⟨by rw [nowns, a.h, b.h]; rfl⟩
theorem nowns_map {α : Type} {mk : α → D} (h : ∀ x, nown (mk x) = true) : ∀ xs : List α, nowns (xs.map mk) = true
  | [] => rfl
  | x :: xs => by rw [List.map_cons, nowns, h x, nowns_map h xs]; rfl
instance NoOwnL.mapI {α : Type} {mk : α → D} {xs : List α} [a : ∀ x, NoOwn (mk x)] : NoOwnL (xs.map mk) := ⟨nowns_map (fun x => (a x).h) xs⟩
instance NoOwn.tupI {ds : List D} : NoOwn (.tup ds) := ⟨rfl⟩
instance NoOwn.intI {i : Int} : NoOwn (.int i) := ⟨rfl⟩
instance NoOwn.lstI {E : List D} [a : NoOwnL E] : NoOwn (.lst .frz E) := ⟨by rw [nown, a.h]; rfl⟩
instance NoOwn.objI {E : List D} {cn : String} {ns : List String} [a : NoOwnL E] : NoOwn (.obj .frz cn ns E) := ⟨by rw [nown, a.h]; rfl⟩
instance NoOwnL.fzsI {α : Type} {mk : α → D} [f : FzK mk] {xs : List α} [a : ∀ x, NoOwn (mk x)] : NoOwnL (Y.fzs (xs.map mk)) := ⟨by rw [fzs_ig]; exact nowns_map (fun x => (a x).h) xs⟩
theorem Br.nw {d : D} {A B : Prop} (i : NoOwn d) (h : A) : Br (nown d) A B := .yes i.h h
end Y

/-! Y3: loops that reckon, while loops, lists of anything found by instances, items side by side. -/
namespace Y
open PySem
/-- a loop that carries acc -/
theorem for_pfold {α β : Type} {p : Pat} {b : YS} {k : Kt} {E : List D} {ρ : List S} (mk : α → D) (xs : List α) (e : E = xs.map mk) (f : β → α → β) (b0 : β) (St : β → List S → Prop) (h0 : St b0 ρ)
    (step : ∀ (pre : List α) (x : α) (suf : List α), xs = pre ++ x :: suf → ∀ (ρ : List S) (N : List S → Prop), St (pre.foldl f b0) ρ → (∀ ρ', St (f (pre.foldl f b0) x) ρ' → N ρ') → Y.bind p (mk x) ρ (Nx fun ρ => b ρ (k.loop N)))
    (fin : ∀ ρ, St (xs.foldl f b0) ρ → k.nx ρ) : FoS p b E ρ k := by
  subst e
  refine forW_inv (fun i ρ => St ((xs.take i).foldl f b0) ρ) (by simpa using h0) (fun j d ρ N hd hI hN => ?_) fun ρ hI => fin ρ (by rwa [List.length_map, List.take_length] at hI)
  obtain ⟨x, q, rfl⟩ := ig_get hd
  obtain ⟨hj, e⟩ := List.getElem?_eq_some_iff.mp q
  refine step (xs.take j) x (xs.drop (j + 1)) (by rw [← e, List.getElem_cons_drop, List.take_append_drop]) ρ N hI fun ρ' h' => hN ρ' ?_
  rw [List.take_succ_eq_append_getElem hj, e, List.foldl_append]
  exact h'
theorem for_fold {α β : Type} {p : Pat} {b : YS} {k : Kt} {E : List D} {ρ : List S} (mk : α → D) (xs : List α) (e : E = xs.map mk) (f : β → α → β) (b0 : β) (St : β → List S → Prop) (h0 : St b0 ρ)
    (step : ∀ x ∈ xs, ∀ (acc : β) (ρ : List S) (N : List S → Prop), St acc ρ → (∀ ρ', St (f acc x) ρ' → N ρ') → Y.bind p (mk x) ρ (Nx fun ρ => b ρ (k.loop N)))
    (fin : ∀ ρ, St (xs.foldl f b0) ρ → k.nx ρ) : FoS p b E ρ k :=
  for_pfold mk xs e f b0 St h0 (fun pre x suf q ρ N h hN => step x (by rw [q]; simp) _ ρ N h hN) fin
theorem fold_filter {α β : Type} (c : α → Bool) (g : α → β) : ∀ (xs : List α) (b0 : List β), xs.foldl (fun acc x => if c x = true then acc ++ [g x] else acc) b0 = b0 ++ (xs.filter c).map g
  | [], b0 => by simp
  | x :: xs, b0 => by
    rw [List.foldl_cons, fold_filter c g xs]
    by_cases h : c x = true
    · rw [if_pos h, List.filter_cons_of_pos h]
      simp
    · rw [if_neg h, List.filter_cons_of_neg h]
theorem fold_flat {α β : Type} (F : α → List β) : ∀ (xs : List α) (b0 : List β), xs.foldl (fun acc x => acc ++ F x) b0 = b0 ++ xs.flatMap F
  | [], b0 => by simp
  | x :: xs, b0 => by
    rw [List.foldl_cons, fold_flat F xs, List.flatMap_cons, List.append_assoc]
/-- a while loop by a measure -/
theorem while_inv {t : YBE} {b : YS} {k : Kt} {ρ : List S} (M : List S → Nat) (Inv : List S → Prop) (h0 : Inv ρ)
    (step : ∀ (ρ : List S) (N : List S → Prop), Inv ρ → (∀ ρ', Inv ρ' → M ρ' < M ρ → N ρ') → t ρ (fun c ρ => Br c (b ρ (k.loop N)) (k.nx ρ)) k.ex) : ∃ n, whileN t b n ρ k := by
  have key : ∀ n ρ, Inv ρ → M ρ < n → whileN t b n ρ k := by
    intro n
    induction n with
    | zero => intro ρ _ h; omega
    | succ n ih => exact fun ρ h hm => step ρ _ h fun ρ' h' hl => ih ρ' h' (by omega)
  exact ⟨M ρ + 1, key _ ρ h0 (by omega)⟩
/-- .. whose state is told -/
theorem while_st {α : Type} {t : YBE} {b : YS} {k : Kt} {ρ : List S} (M : α → Nat) (St : α → List S → Prop) (a0 : α) (h0 : St a0 ρ)
    (step : ∀ (a : α) (ρ : List S) (N : List S → Prop), St a ρ → (∀ a' ρ', St a' ρ' → M a' < M a → N ρ') → t ρ (fun c ρ => Br c (b ρ (k.loop N)) (k.nx ρ)) k.ex) : ∃ n, whileN t b n ρ k := by
  have key : ∀ n a ρ, St a ρ → M a < n → whileN t b n ρ k := by
    intro n
    induction n with
    | zero => intro a ρ _ h; omega
    | succ n ih => exact fun a ρ h hm => step a ρ _ h fun a' ρ' h' hl => ih a' ρ' h' (by omega)
  exact ⟨M a0 + 1, key _ a0 ρ h0 (by omega)⟩
/-! ### lists of anything -/
class IX (E : List D) (α : outParam Type) (mk : outParam (α → D)) (xs : outParam (List α)) : Prop where
  e : E = xs.map mk
section
variable {α : Type} {mk : α → D}
instance IX.map {xs : List α} : IX (xs.map mk) α mk xs := ⟨rfl⟩
instance IX.fz [FzK mk] {E : List D} {xs : List α} [h : IX E α mk xs] : IX (fzs E) α mk xs := ⟨by rw [h.e, fzs_ig]⟩
instance IX.lend [FzK mk] {E : List D} {xs : List α} [h : IX E α mk xs] : IX (lends E) α mk xs := ⟨by rw [h.e, lends_ig]⟩
instance IX.app {E F : List D} {xs ys : List α} [h : IX E α mk xs] [g : IX F α mk ys] : IX (E ++ F) α mk (xs ++ ys) := ⟨by rw [h.e, g.e, List.map_append]⟩
instance IX.cut {E : List D} {xs : List α} {lo hi : Option Int} [h : IX E α mk xs] : IX (cutD E lo hi) α mk (cutD xs lo hi) := ⟨by rw [h.e, cutD_map]⟩
instance IX.rev {E : List D} {xs : List α} [h : IX E α mk xs] : IX E.reverse α mk xs.reverse := ⟨by rw [h.e, List.map_reverse]⟩
theorem IX.len {E : List D} {xs : List α} (i : IX E α mk xs) : E.length = xs.length := by rw [i.e, List.length_map]
theorem lc_x {E : List D} {xs : List α} {o : Bool} {p : Pat} {t : YB} {e : YP} {ρ : List S} {c : α → Bool} {g : α → D} {Q : List D → Prop} (i : IX E α mk xs)
    (h : ∀ x ∈ xs, ∀ (A : D → Prop) (B : Prop), Br (c x) (A (g x)) B → Y.bind p (mk x) ρ fun ρ2 => t ρ2 (fun b => Br b (e ρ2 (fun r => still o r A) X0) B) X0) (q : Q ((xs.filter c).map g)) : LcS o p t e ρ E Q := ⟨by rw [i.e]; exact lc_map c g h q⟩
theorem ex_atx {E : List D} {xs : List α} {k : Int} {P : D → Prop} (i : IX E α mk xs) (h0 : 0 ≤ k) (h1 : k < xs.length) (h : ∀ x, xs[k.toNat]? = some x → P (mk x)) : ∃ d, atD E k = some d ∧ P d := by
  rw [i.e]
  exact ex_atg h0 h1 h
theorem lenu_ix {E : List D} {xs : List α} {n : Nat} (i : IX E α mk xs) (h1 : xs.length ≤ n) : E.length ≤ n := by rw [i.len]; exact h1
theorem lenp_ix {E : List D} {xs : List α} (i : IX E α mk xs) (h1 : 0 < xs.length) : 0 < E.length := by rw [i.len]; exact h1
end
/-! ### side by side -/
def Rl2 {α β : Type} (P : α → β → Prop) (xs : List α) (zs : List β) : Prop := zs.length = xs.length ∧ ∀ (k : Nat) (x : α) (z : β), xs[k]? = some x → zs[k]? = some z → P x z
theorem Rl2.nil {α β : Type} {P : α → β → Prop} : Rl2 P [] [] := ⟨rfl, fun k x z h => by simp at h⟩
theorem Rl2.cons {α β : Type} {P : α → β → Prop} {x : α} {z : β} {xs : List α} {zs : List β} (h : P x z) (t : Rl2 P xs zs) : Rl2 P (x :: xs) (z :: zs) := ⟨by simp [t.1], fun k a b h1 h2 => by
  cases k with
  | zero =>
    simp at h1 h2
    subst h1 h2
    exact h
  | succ k => exact t.2 k a b (by simpa using h1) (by simpa using h2)⟩
theorem Rl2.inv {α β : Type} {P : α → β → Prop} {x : α} {xs : List α} {zs : List β} (h : Rl2 P (x :: xs) zs) : ∃ z zs', zs = z :: zs' ∧ P x z ∧ Rl2 P xs zs' := by
  cases zs with
  | nil => exact absurd h.1 (by simp)
  | cons z zs => exact ⟨z, zs, rfl, h.2 0 x z rfl rfl, by simpa using h.1, fun k a b h1 h2 => h.2 (k + 1) a b (by simpa using h1) (by simpa using h2)⟩
theorem Rl2.get {α β : Type} {P : α → β → Prop} {xs : List α} {zs : List β} (h : Rl2 P xs zs) {k : Nat} {x : α} (e : xs[k]? = some x) : ∃ z, zs[k]? = some z ∧ P x z := by
  have hk := (List.getElem?_eq_some_iff.mp e).1
  have hk2 : k < zs.length := by rw [h.1]; exact hk
  exact ⟨zs[k], List.getElem?_eq_getElem hk2, h.2 k x _ e (List.getElem?_eq_getElem hk2)⟩
theorem lc_rel0 {α β : Type} {mk : α → D} {mk2 : β → D} {P : α → β → Prop} {o : Bool} {p : Pat} {t : YB} {e : YP} {ρ : List S} : ∀ {xs : List α} {Q : List D → Prop},
    (∀ x ∈ xs, ∀ (A : D → Prop) (B : Prop), (∀ z, P x z → A (mk2 z)) → Y.bind p (mk x) ρ fun ρ2 => t ρ2 (fun b => Br b (e ρ2 (fun r => still o r A) X0) B) X0) → (∀ zs : List β, Rl2 P xs zs → Q (zs.map mk2)) → lcW o p t e ρ (xs.map mk) Q
  | [], Q, _, q => q [] Rl2.nil
  | x :: xs, Q, h, q => h x List.mem_cons_self _ _ fun z hz => lc_rel0 (fun x hx => h x (List.mem_cons_of_mem _ hx)) fun zs hp => q (z :: zs) (Rl2.cons hz hp)
/-- a comprehension whose items are told by a relation -/
theorem lc_rel {α β : Type} {mk : α → D} {E : List D} {xs : List α} (mk2 : β → D) (P : α → β → Prop) {o : Bool} {p : Pat} {t : YB} {e : YP} {ρ : List S} {Q : List D → Prop} (i : IX E α mk xs)
    (h : ∀ x ∈ xs, ∀ (A : D → Prop) (B : Prop), (∀ z, P x z → A (mk2 z)) → Y.bind p (mk x) ρ fun ρ2 => t ρ2 (fun b => Br b (e ρ2 (fun r => still o r A) X0) B) X0) (q : ∀ zs : List β, Rl2 P xs zs → Q (zs.map mk2)) : LcS o p t e ρ E Q := ⟨by rw [i.e]; exact lc_rel0 h q⟩
/-! ### data that may be compared -/
theorem oksD_map {α : Type} {mk : α → D} {n : Nat} (h : ∀ x, okD n (mk x) = true) : ∀ xs : List α, oksD n (xs.map mk) = true
  | [] => by cases n <;> rfl
  | x :: xs => by
    rw [List.map_cons, oksD, h x, oksD_map h xs]
    rfl
theorem okT_map {α : Type} {mk : α → D} {n : Nat} {xs : List α} (h : ∀ x, okD n (mk x) = true) (hl : xs.length ≤ 100000) : okD (n + 1) (.tup (xs.map mk)) = true := by
  rw [okD, oksD_map h, List.length_map, decide_eq_true hl]
  rfl
theorem okL_map {α : Type} {mk : α → D} {n : Nat} {m : Fl} {xs : List α} (h : ∀ x, okD n (mk x) = true) (hl : xs.length ≤ 100000) : okD (n + 1) (.lst m (xs.map mk)) = true := by
  rw [okD, oksD_map h, List.length_map, decide_eq_true hl]
  rfl
/-- data that may be compared, found by instances -/
class OkI (n : Nat) (d : D) : Prop where
  h : okD n d = true
theorem decide_mem_ints {x : Int} {xs : List Int} : anyEq (.int x) (xs.map D.int) = decide (x ∈ xs) := anyEq_ints x xs
/-- both lists side by side -/
theorem map_getD {α : Type} {xs : List α} (f : α → D) : (List.range xs.length).map (fun i => ((xs[i]?).map f).getD .non) = xs.map f := by
  refine List.ext_getElem (by simp) fun i h1 h2 => ?_
  simp at h1
  simp [List.getElem?_eq_getElem h1]
theorem perm_map_ex {α : Type} {mk : α → D} : ∀ {fs l : List D}, fs.Perm l → ∀ xs : List α, l = xs.map mk → ∃ zs : List α, zs.Perm xs ∧ fs = zs.map mk := by
  intro fs l h
  induction h with
  | nil =>
    intro xs e
    cases xs with
    | nil => exact ⟨[], .refl _, rfl⟩
    | cons _ _ => cases e
  | cons x _ ih =>
    intro xs e
    cases xs with
    | nil => cases e
    | cons y ys =>
      rw [List.map_cons, List.cons.injEq] at e
      obtain ⟨zs, h1, h2⟩ := ih ys e.2
      exact ⟨y :: zs, h1.cons y, by rw [List.map_cons, ← h2, e.1]⟩
  | swap x y l =>
    intro xs e
    match xs, e with
    | a :: b :: r, e =>
      rw [List.map_cons, List.map_cons, List.cons.injEq, List.cons.injEq] at e
      exact ⟨b :: a :: r, .swap _ _ _, by rw [List.map_cons, List.map_cons, e.1, e.2.1, e.2.2]⟩
  | trans _ _ ih1 ih2 =>
    intro xs e
    obtain ⟨zs, h1, h2⟩ := ih2 xs e
    obtain ⟨ws, h3, h4⟩ := ih1 zs h2
    exact ⟨ws, h3.trans h1, h4⟩
theorem perm_im {E : List D} {ys : List Int} {P : List D → Prop} (i : IM E ys) (h : ∀ zs : List Int, zs.Perm ys → P (zs.map D.int)) : ∀ fs : List D, fs.Perm E → P fs := fun fs hp => by
  obtain ⟨zs, h1, h2⟩ := perm_map_ex hp ys i.e
  rw [h2]
  exact h zs h1
theorem perm_ix {α : Type} {mk : α → D} {E : List D} {ys : List α} {P : List D → Prop} (i : IX E α mk ys) (h : ∀ zs : List α, zs.Perm ys → P (zs.map mk)) : ∀ fs : List D, fs.Perm E → P fs := fun fs hp => by
  obtain ⟨zs, h1, h2⟩ := perm_map_ex hp ys i.e
  rw [h2]
  exact h zs h1
/-- numbers drawn out of a range -/
theorem perm_range {zs : List Int} {n : Nat} (h : zs.Perm ((List.range n).map fun i : Nat => (i : Int))) : zs.length = n ∧ zs.Nodup ∧ ∀ x ∈ zs, 0 ≤ x ∧ x < n := by
  refine ⟨by rw [h.length_eq]; simp, h.nodup_iff.mpr (List.Pairwise.map _ (fun a b h => by omega) List.nodup_range), fun x hx => ?_⟩
  have := h.mem_iff.mp hx
  simp at this
  obtain ⟨a, ha, rfl⟩ := this
  omega
instance IG.comp {α β : Type} {mk : α → D} {f : β → α} {xs : List β} : IG mk (xs.map fun x => mk (f x)) (xs.map f) := ⟨by rw [List.map_map]; rfl⟩
/-- a loop told by what is left -/
theorem for_suf {α : Type} {p : Pat} {b : YS} {k : Kt} {E : List D} {ρ : List S} (mk : α → D) (xs : List α) (e : E = xs.map mk) (St : List α → List S → Prop) (h0 : St xs ρ)
    (step : ∀ (x : α) (suf : List α) (ρ : List S) (N : List S → Prop), x ∈ xs → St (x :: suf) ρ → (∀ ρ', St suf ρ' → N ρ') → Y.bind p (mk x) ρ (Nx fun ρ => b ρ (k.loop N)))
    (fin : ∀ ρ, St [] ρ → k.nx ρ) : FoS p b E ρ k := by
  subst e
  refine forW_inv (fun i ρ => St (xs.drop i) ρ) (by simpa using h0) (fun j d ρ N hd hI hN => ?_) fun ρ hI => fin ρ (by rwa [List.length_map, List.drop_length] at hI)
  obtain ⟨x, q, rfl⟩ := ig_get hd
  obtain ⟨hj, e⟩ := List.getElem?_eq_some_iff.mp q
  have hI : St (xs.drop j) ρ := hI
  rw [List.drop_eq_getElem_cons hj, e] at hI
  exact step x (xs.drop (j + 1)) ρ N (List.mem_of_getElem? q) hI fun ρ' h' => hN ρ' h'
theorem ex_last {E : List D} {d : D} {P : D → Prop} (h : P d) : ∃ e, atD (E ++ [d]) (-1) = some e ∧ P e := by
  refine ⟨d, ?_, h⟩
  unfold atD place
  rw [if_neg (by decide), List.length_append, List.length_singleton, if_pos (by omega)]
  show (E ++ [d])[((-1 : Int) + ((E.length + 1 : Nat) : Int)).toNat]? = some d
  rw [show ((-1 : Int) + ((E.length + 1 : Nat) : Int)).toNat = E.length by omega]
  simp
/-! ### what is not lent -/
class NoBor (d : D) : Prop where
  h : nbor d = true
class NoBorL (E : List D) : Prop where
  h : nbors E = true
instance NoBorL.nilI : NoBorL [] := ⟨rfl⟩
instance NoBorL.consI {d : D} {E : List D} [a : NoBor d] [b : NoBorL E] : NoBorL (d :: E) := ⟨by rw [nbors, a.h, b.h]; rfl⟩
theorem nbors_map {α : Type} {mk : α → D} (h : ∀ x, nbor (mk x) = true) : ∀ xs : List α, nbors (xs.map mk) = true
  | [] => rfl
  | x :: xs => by rw [List.map_cons, nbors, h x, nbors_map h xs]; rfl
instance NoBorL.mapI {α : Type} {mk : α → D} {xs : List α} [a : ∀ x, NoBor (mk x)] : NoBorL (xs.map mk) := ⟨nbors_map (fun x => (a x).h) xs⟩
instance NoBor.tupI {ds : List D} [a : NoBorL ds] : NoBor (.tup ds) := ⟨by rw [nbor, a.h]⟩
instance NoBor.intI {i : Int} : NoBor (.int i) := ⟨rfl⟩
instance NoBor.blI {i : Bool} : NoBor (.bl i) := ⟨rfl⟩
instance NoBor.strI {i : Str} : NoBor (.str i) := ⟨rfl⟩
instance NoBor.nonI : NoBor .non := ⟨rfl⟩
instance NoBor.lstI {E : List D} [a : NoBorL E] : NoBor (.lst .frz E) := ⟨by rw [nbor, a.h]; rfl⟩
instance NoBor.lstO {E : List D} [a : NoBorL E] : NoBor (.lst .own E) := ⟨by rw [nbor, a.h]; rfl⟩
instance NoBor.objI {E : List D} {cn : String} {ns : List String} [a : NoBorL E] : NoBor (.obj .frz cn ns E) := ⟨by rw [nbor, a.h]; rfl⟩
instance NoBor.objO {E : List D} {cn : String} {ns : List String} [a : NoBorL E] : NoBor (.obj .own cn ns E) := ⟨by rw [nbor, a.h]; rfl⟩
theorem nb_i {d : D} (i : NoBor d) : nbor d = true := i.h
theorem srt_mem {xs : List Int} {x : Int} : x ∈ srtI xs ↔ x ∈ xs := (srtI_perm xs).mem_iff
theorem flat_len {α β : Type} {F : α → List β} {c : Nat} : ∀ {xs : List α}, (∀ x ∈ xs, (F x).length ≤ c) → (xs.flatMap F).length ≤ c * xs.length
  | [], _ => by simp
  | x :: xs, h => by
    rw [List.flatMap_cons, List.length_append, List.length_cons, Nat.mul_succ]
    have h1 := h x List.mem_cons_self
    have h2 := flat_len (F := F) (c := c) (xs := xs) fun y hy => h y (List.mem_cons_of_mem _ hy)
    omega
theorem fold_filter_len {α β : Type} {c : α → Bool} {g : α → β} {xs : List α} {b0 : List β} : (xs.foldl (fun acc x => if c x = true then acc ++ [g x] else acc) b0).length ≤ b0.length + xs.length := by
  rw [fold_filter, List.length_append, List.length_map]
  have := List.length_filter_le c xs
  omega
theorem Br.c {c : Bool} {A B : Prop} (h1 : c = true → A) (h2 : c = false → B) : Br c A B := ⟨h1, h2⟩
theorem mem_split_lt {α : Type} {pre suf xs : List α} {x : α} (h : xs = pre ++ x :: suf) : pre.length < xs.length := by
  rw [h, List.length_append, List.length_cons]
  omega
theorem range_split {n i : Nat} {pre suf : List Nat} (h : List.range n = pre ++ i :: suf) : pre = List.range i ∧ i < n := by
  have hi2 : (List.range n)[pre.length]? = some i := by rw [h]; simp
  obtain ⟨q1, q2⟩ := List.getElem?_eq_some_iff.mp hi2
  rw [List.getElem_range] at q2
  simp at q1
  have := congrArg (fun l : List Nat => l.take pre.length) h
  simp only [List.take_left] at this
  rw [List.take_range] at this
  refine ⟨?_, by omega⟩
  rw [← this, q2, Nat.min_eq_left (by omega)]
theorem nows_i {E : List D} (i : NoOwnL E) : nowns E = true := i.h
theorem now_i {d : D} (i : NoOwn d) : nown d = true := i.h
theorem nbs_i {E : List D} (i : NoBorL E) : nbors E = true := i.h
theorem All.ix {α : Type} {mk : α → D} {E : List D} {ys : List α} {P : D → Prop} (i : IX E α mk ys) (h : ∀ x ∈ ys, P (mk x)) : All E P := ⟨fun d hd => by
  rw [i.e] at hd
  obtain ⟨x, hx, rfl⟩ := List.mem_map.mp hd
  exact h x hx⟩
theorem ex_place {n : Nat} {k : Int} {P : Nat → Prop} (h0 : 0 ≤ k) (h1 : k < n) (h : P k.toNat) : ∃ j, place n k = some j ∧ P j := ⟨k.toNat, place_nn h0 h1, h⟩
theorem set_map {α : Type} {mk : α → D} {xs : List α} {n : Nat} {x : α} : (xs.map mk).set n (mk x) = (xs.set n x).map mk := by rw [List.map_set]
/-! ### data told in another way -/
class Nf (d : D) (e : outParam D) : Prop where
  e : d = e
instance (priority := 10) Nf.refl {d : D} : Nf d d := ⟨rfl⟩
instance Nf.argV {d e : D} [h : Nf d e] : Nf (arg (.val d)) e := ⟨h.e⟩
instance Nf.argT {d e : D} [h : Nf (fz d) e] : Nf (arg (.tmp d)) e := ⟨h.e⟩
instance Nf.argR {d e : D} [h : Nf (lend d) e] : Nf (arg (.rd d)) e := ⟨h.e⟩
theorem ex1n {α : Type} {d : D} {K : α → D} {a : α} {P : α → Prop} (i : Nf d (K a)) (h : P a) : ∃ a, d = K a ∧ P a := ⟨a, i.e, h⟩
theorem ex2n {α β : Type} {d : D} {K : α → β → D} {a : α} {b : β} {P : α → β → Prop} (i : Nf d (K a b)) (h : P a b) : ∃ a b, d = K a b ∧ P a b := ⟨a, b, i.e, h⟩
theorem ex3n {α β γ : Type} {d : D} {K : α → β → γ → D} {a : α} {b : β} {c : γ} {P : α → β → γ → Prop} (i : Nf d (K a b c)) (h : P a b c) : ∃ a b c, d = K a b c ∧ P a b c := ⟨a, b, c, i.e, h⟩
theorem ex4n {α β γ δ : Type} {d : D} {K : α → β → γ → δ → D} {a : α} {b : β} {c : γ} {e : δ} {P : α → β → γ → δ → Prop} (i : Nf d (K a b c e)) (h : P a b c e) : ∃ a b c e, d = K a b c e ∧ P a b c e := ⟨a, b, c, e, i.e, h⟩
theorem ex5n {α β γ δ ε : Type} {d : D} {K : α → β → γ → δ → ε → D} {a : α} {b : β} {c : γ} {e : δ} {f : ε} {P : α → β → γ → δ → ε → Prop} (i : Nf d (K a b c e f)) (h : P a b c e f) : ∃ a b c e f, d = K a b c e f ∧ P a b c e f := ⟨a, b, c, e, f, i.e, h⟩
instance IM.rep2 {E : List D} {ys : List Int} {n : Nat} [h : IM E ys] : IM (repL n E) (repL n ys) := ⟨by unfold repL; rw [h.e, List.map_flatten, List.map_replicate]⟩
theorem flat_map {α : Type} {mk : α → D} {xs : List α} : ∀ n : Nat, (List.replicate n (xs.map mk)).flatten = ((List.replicate n xs).flatten).map mk
  | 0 => rfl
  | n + 1 => by rw [List.replicate_succ, List.replicate_succ, List.flatten_cons, List.flatten_cons, List.map_append, flat_map n]
instance IG.flat {α : Type} {mk : α → D} {E : List D} {xs : List α} {n : Nat} [h : IG mk E xs] : IG mk (repL n E) (repL n xs) := ⟨by unfold repL; rw [h.e, flat_map]⟩
instance IX.flat {α : Type} {mk : α → D} {E : List D} {xs : List α} {n : Nat} [h : IX E α mk xs] : IX (repL n E) α mk (repL n xs) := ⟨by unfold repL; rw [h.e, flat_map]⟩
theorem mem_flat_rep {α : Type} {xs : List α} {n : Nat} {x : α} (h : x ∈ repL n xs) : x ∈ xs := by
  unfold repL at h
  obtain ⟨l, h1, h2⟩ := List.mem_flatten.mp h
  rw [(List.mem_replicate.mp h1).2] at h2
  exact h2
theorem len_flat_rep {α : Type} {xs : List α} {n : Nat} : (repL n xs).length = n * xs.length := by
  unfold repL
  induction n with
  | zero => simp
  | succ n ih => rw [List.replicate_succ, List.flatten_cons, List.length_append, ih, Nat.succ_mul]; omega
instance NoBor.dV {d : D} [h : NoBor d] : NoBor (RV.val d).d := h
instance NoBor.dT {d : D} [h : NoBor d] : NoBor (RV.tmp d).d := h
instance IM.setI {E : List D} {ys : List Int} {n : Nat} {x : Int} [h : IM E ys] : IM (E.set n (D.int x)) (ys.set n x) := ⟨by rw [h.e, List.map_set]⟩
instance IX.setI {α : Type} {mk : α → D} {E : List D} {xs : List α} {n : Nat} {x : α} [h : IX E α mk xs] : IX (E.set n (mk x)) α mk (xs.set n x) := ⟨by rw [h.e, List.map_set]⟩
instance IG.setI {α : Type} {mk : α → D} {E : List D} {xs : List α} {n : Nat} {x : α} [h : IG mk E xs] : IG mk (E.set n (mk x)) (xs.set n x) := ⟨by rw [h.e, List.map_set]⟩
theorem Rl2.set {α β : Type} {P : α → β → Prop} {xs : List α} {zs : List β} (h : Rl2 P xs zs) {n : Nat} {z : β} (hz : ∀ x, xs[n]? = some x → P x z) : Rl2 P xs (zs.set n z) := ⟨by rw [List.length_set, h.1], fun k x y h1 h2 => by
  rw [List.getElem?_set] at h2
  by_cases e : n = k
  · subst e
    rw [if_pos rfl] at h2
    split at h2
    · cases h2
      exact hz x h1
    · cases h2
  · rw [if_neg e] at h2
    exact h.2 k x y h1 h2⟩
end Y

/-! YA: data as trees. A node of a list, a dict, an object stands still for ever (frz), is lent for this call (bor), or is a name's own (own). -/
namespace Y
open PySem PySem.Spec PyProof.Rows L2

/-- the classes by name -/
abbrev Tb := String → Addr
def nmS (ns : List String) : List Str := ns.map Str.ofString

theorem ofString_inj {a b : String} (h : Str.ofString a = Str.ofString b) : a = b := by
  rw [Str.ofString_eq_toList, Str.ofString_eq_toList] at h
  have h1 : a.toList.map Char.toNat = b.toList.map Char.toNat := by
    have := congrArg Str.cps h
    simpa using this
  have h2 : ∀ l m : List Char, l.map Char.toNat = m.map Char.toNat → l = m := by
    intro l
    induction l with
    | nil => intro m e; cases m with
      | nil => rfl
      | cons _ _ => cases e
    | cons x l ih => intro m e; cases m with
      | nil => cases e
      | cons y m =>
        rw [List.map_cons, List.map_cons] at e
        have e1 := (List.cons.inj e).1
        have : x = y := Char.ext (UInt32.toNat_inj.mp e1)
        rw [this, ih m (List.cons.inj e).2]
  have h3 := h2 _ _ h1
  rw [← String.ofList_toList (s := a), ← String.ofList_toList (s := b), h3]

/-- the source of a law's draws, at a, over the list at b -/
def srcP (a b : Addr) : Heap → Prop := fun h => ∃ (its : List Value) (n : Nat) (i c l t : Int) (fl : Bool),
  Vals [.ref b, .int i, .int c, .int l, .int t, .bl fl] its ∧ h.get? a = some { cls := .type "list", data := .seq its.toArray n } ∧ 0 ≤ i
/-- a list that nobody changes any more -/
def StL (K : PySem.W.Frag) (H : Hp) (a : Addr) (xs : List V) : Prop := (∃ o, H a = some (.frz o (.lst xs))) ∨ ∀ H', SqL K H' a xs

/-! ### what may be read now -/
mutual
inductive Nw (K : PySem.W.Frag) (T : Tb) (H : Hp) : V → D → Prop
  | non : Nw K T H .non .non
  | bl (b : Bool) : Nw K T H (.bl b) (.bl b)
  | int (i : Int) : Nw K T H (.int i) (.int i)
  | str (x : Str) : Nw K T H (.str x) (.str x)
  | tup {a : Addr} {xs : List V} {ds : List D} : H a = some (.tup xs) → NwAll K T H xs ds → Nw K T H (.ref a) (.tup ds)
  | lst {a : Addr} {m : Fl} {xs : List V} {ds : List D} : H a = some (.lst xs) → NwAll K T H xs ds → Nw K T H (.ref a) (.lst m ds)
  | dct {a : Addr} {m : Fl} {kvs : List (Ky × V)} {ks : List Ky} {ds : List D} : H a = some (.dK kvs) → kvs.map (·.1) = ks → NwAll K T H (kvs.map (·.2)) ds → Nw K T H (.ref a) (.dct m ks ds)
  | obj {a dx : Addr} {m : Fl} {cn : String} {fs : List (Str × V)} {ns : List String} {ds : List D} : H a = some (.ins (T cn) dx fs) → fs.map (·.1) = nmS ns → NwAll K T H (fs.map (·.2)) ds → Nw K T H (.ref a) (.obj m cn ns ds)
  | src {a b : Addr} {ns : List Int} : H a = some (.ext (srcP a b)) → H b = some (.lst (ns.map V.int)) → Nw K T H (.ref a) .src
  | scr {a : Addr} {ns : List Int} : StL K H a (ns.map V.int) → Nw K T H (.ref a) (.scr ns)
  | cel {b : Addr} {ns : List Int} : H b = some (.lst (ns.map V.int)) → Nw K T H (.ref b) (.cel b ns)
  | glb (n : String) : Nw K T H (.ref (T n)) (.glb n)
inductive NwAll (K : PySem.W.Frag) (T : Tb) (H : Hp) : List V → List D → Prop
  | nil : NwAll K T H [] []
  | cons {v : V} {vs : List V} {d : D} {ds : List D} : Nw K T H v d → NwAll K T H vs ds → NwAll K T H (v :: vs) (d :: ds)
end

/-- a class whose objects are data, and its objects' attributes -/
structure Gd (K : PySem.W.Frag) (T : Tb) (cn : String) (ns : List String) : Prop where
  cl : Cls K (T cn)
  ha : PySem.W.findIn K (.ref (T cn)) "__class__" = some (some (.builtin "object.__class__"))
  hm : PySem.W.mroIn K (T cn) (.type "object") = some true
  na : ∀ f ∈ ns, NoAttr K (T cn) (Str.ofString f)
/-! ### own, lent, still: where a node stands, and the addresses that are own -/
def cell (Z B H : Hp) : Fl → Hp
  | .frz => Z
  | .bor => B
  | .own => H
def foot (m : Fl) (a : Addr) (F : List Addr) (G : List Addr) : Prop := match m with
  | .own => G = a :: F
  | _ => F = [] ∧ G = []
mutual
inductive Ow (K : PySem.W.Frag) (T : Tb) (Z B H : Hp) : V → D → List Addr → Prop
  | non : Ow K T Z B H .non .non []
  | bl (b : Bool) : Ow K T Z B H (.bl b) (.bl b) []
  | int (i : Int) : Ow K T Z B H (.int i) (.int i) []
  | str (x : Str) : Ow K T Z B H (.str x) (.str x) []
  | tup {a : Addr} {xs : List V} {ds : List D} : Z a = some (.tup xs) → OwAll K T Z B H xs ds [] → Ow K T Z B H (.ref a) (.tup ds) []
  | lst {a : Addr} {m : Fl} {xs : List V} {ds : List D} {F G : List Addr} : cell Z B H m a = some (.lst xs) → OwAll K T Z B H xs ds F → foot m a F G → Ow K T Z B H (.ref a) (.lst m ds) G
  | dct {a : Addr} {m : Fl} {kvs : List (Ky × V)} {ks : List Ky} {ds : List D} {F G : List Addr} : cell Z B H m a = some (.dK kvs) → kvs.map (·.1) = ks → OwAll K T Z B H (kvs.map (·.2)) ds F → foot m a F G → Ow K T Z B H (.ref a) (.dct m ks ds) G
  | obj {a dx : Addr} {m : Fl} {cn : String} {fs : List (Str × V)} {ns : List String} {ds : List D} {F G : List Addr} : cell Z B H m a = some (.ins (T cn) dx fs) → fs.map (·.1) = nmS ns → OwAll K T Z B H (fs.map (·.2)) ds F → foot m a F G → Gd K T cn ns → Ow K T Z B H (.ref a) (.obj m cn ns ds) G
  | src {a b : Addr} {ns : List Int} : Z a = some (.ext (srcP a b)) → Z b = some (.lst (ns.map V.int)) → Ow K T Z B H (.ref a) .src []
  | scr {a : Addr} {ns : List Int} : StL K Z a (ns.map V.int) → Ow K T Z B H (.ref a) (.scr ns) []
  | cel {b : Addr} {ns : List Int} : Z b = some (.lst (ns.map V.int)) → Ow K T Z B H (.ref b) (.cel b ns) []
  | glb (n : String) : Ow K T Z B H (.ref (T n)) (.glb n) []
inductive OwAll (K : PySem.W.Frag) (T : Tb) (Z B H : Hp) : List V → List D → List Addr → Prop
  | nil : OwAll K T Z B H [] [] []
  | cons {v : V} {vs : List V} {d : D} {ds : List D} {F G : List Addr} : Ow K T Z B H v d F → OwAll K T Z B H vs ds G → OwAll K T Z B H (v :: vs) (d :: ds) (F ++ G)
end

theorem Same.refl (H : Hp) : Same H H := fun _ _ h => h
theorem Same.new {H : Hp} {p : Addr} {o : HO} (h : H p = none) : Same H (upd H p o) := fun a u e => by
  rw [upd_ne (ne_of_none e h)]
  exact e
theorem StL.same {K : PySem.W.Frag} {H H' : Hp} {a : Addr} {xs : List V} (e : Same H H') (h : StL K H a xs) : StL K H' a xs := by
  rcases h with ⟨o, h⟩ | h
  · exact .inl ⟨o, e _ _ h⟩
  · exact .inr h
theorem StL.sq {K : PySem.W.Frag} {H : Hp} {a : Addr} {xs : List V} (h : StL K H a xs) : SqL K H a xs := by
  rcases h with ⟨o, h⟩ | h
  · exact .inl (.inr ⟨o, h⟩)
  · exact h H
section
variable {K : PySem.W.Frag} {T : Tb} {Z B H Z' B' H' : Hp}
theorem foot_nil {m : Fl} {a : Addr} {F G : List Addr} (h : foot m a F G) (e : G = []) : F = [] ∧ m ≠ .own := by
  cases m with
  | frz => exact ⟨h.1, fun z => nomatch z⟩
  | bor => exact ⟨h.1, fun z => nomatch z⟩
  | own =>
    have h' : G = a :: F := h
    rw [e] at h'
    cases h'
theorem foot_sub {m : Fl} {a : Addr} {F G : List Addr} (h : foot m a F G) : ∀ b ∈ F, b ∈ G := by
  cases m with
  | frz => intro b hb; rw [h.1] at hb; cases hb
  | bor => intro b hb; rw [h.1] at hb; cases hb
  | own =>
    have h' : G = a :: F := h
    subst h'
    exact fun b hb => List.mem_cons_of_mem _ hb
theorem cell_mono {m : Fl} {a : Addr} {o : HO} {F G : List Addr} (z : Same Z Z') (b : Same B B') (f : foot m a F G) (k : ∀ a ∈ G, H' a = H a) (h : cell Z B H m a = some o) : cell Z' B' H' m a = some o := by
  cases m with
  | frz => exact z _ _ h
  | bor => exact b _ _ h
  | own =>
    have f' : G = a :: F := f
    subst f'
    show H' a = some o
    rw [k a List.mem_cons_self]
    exact h
mutual
theorem Ow.mono (z : Same Z Z') (b : Same B B') : ∀ (d : D) (v : V) (F : List Addr), (∀ a ∈ F, H' a = H a) → Ow K T Z B H v d F → Ow K T Z' B' H' v d F
  | .non, _, _, _, h => by cases h; exact .non
  | .bl _, _, _, _, h => by cases h; exact .bl _
  | .int _, _, _, _, h => by cases h; exact .int _
  | .str _, _, _, _, h => by cases h; exact .str _
  | .tup ds, _, _, k, h => by
    cases h with
    | tup h1 h2 => exact .tup (z _ _ h1) (OwAll.mono z b ds _ _ k h2)
  | .lst m ds, _, _, k, h => by
    cases h with
    | lst h1 h2 h3 => exact .lst (cell_mono z b h3 k h1) (OwAll.mono z b ds _ _ (fun a ha => k a (foot_sub h3 a ha)) h2) h3
  | .dct m ks ds, _, _, k, h => by
    cases h with
    | dct h1 h0 h2 h3 => exact .dct (cell_mono z b h3 k h1) h0 (OwAll.mono z b ds _ _ (fun a ha => k a (foot_sub h3 a ha)) h2) h3
  | .obj m cn ns ds, _, _, k, h => by
    cases h with
    | obj h1 h0 h2 h3 g => exact .obj (cell_mono z b h3 k h1) h0 (OwAll.mono z b ds _ _ (fun a ha => k a (foot_sub h3 a ha)) h2) h3 g
  | .src, _, _, _, h => by
    cases h with
    | src h1 h2 => exact .src (z _ _ h1) (z _ _ h2)
  | .scr _, _, _, _, h => by
    cases h with
    | scr h1 => exact .scr (h1.same z)
  | .cel _ _, _, _, _, h => by
    cases h with
    | cel h1 => exact .cel (z _ _ h1)
  | .glb _, _, _, _, h => by cases h; exact .glb _
theorem OwAll.mono (z : Same Z Z') (b : Same B B') : ∀ (ds : List D) (vs : List V) (F : List Addr), (∀ a ∈ F, H' a = H a) → OwAll K T Z B H vs ds F → OwAll K T Z' B' H' vs ds F
  | [], _, _, _, h => by cases h; exact .nil
  | d :: ds, _, _, k, h => by
    cases h with
    | cons h1 h2 => exact .cons (Ow.mono z b d _ _ (fun a ha => k a (List.mem_append_left _ ha)) h1) (OwAll.mono z b ds _ _ (fun a ha => k a (List.mem_append_right _ ha)) h2)
end
/-- of what stands still nothing changes -/
theorem Ow.still {d : D} {v : V} (h : Ow K T Z B H v d []) (z : Same Z Z') (b : Same B B') : Ow K T Z' B' H' v d [] := Ow.mono z b d v [] (fun _ h => by cases h) h
theorem OwAll.still {d : List D} {v : List V} (h : OwAll K T Z B H v d []) (z : Same Z Z') (b : Same B B') : OwAll K T Z' B' H' v d [] := OwAll.mono z b d v [] (fun _ h => by cases h) h
theorem cell_now {m : Fl} {a : Addr} {o : HO} (z : Same Z H) (b : Same B H) (h : cell Z B H m a = some o) : H a = some o := by
  cases m with
  | frz => exact z _ _ h
  | bor => exact b _ _ h
  | own => exact h
mutual
theorem Ow.now (z : Same Z H) (b : Same B H) : ∀ (d : D) (v : V) (F : List Addr), Ow K T Z B H v d F → Nw K T H v d
  | .non, _, _, h => by cases h; exact .non
  | .bl _, _, _, h => by cases h; exact .bl _
  | .int _, _, _, h => by cases h; exact .int _
  | .str _, _, _, h => by cases h; exact .str _
  | .tup ds, _, _, h => by
    cases h with
    | tup h1 h2 => exact .tup (z _ _ h1) (OwAll.now z b ds _ _ h2)
  | .lst m ds, _, _, h => by
    cases h with
    | lst h1 h2 h3 => exact .lst (cell_now z b h1) (OwAll.now z b ds _ _ h2)
  | .dct m ks ds, _, _, h => by
    cases h with
    | dct h1 h0 h2 h3 => exact .dct (cell_now z b h1) h0 (OwAll.now z b ds _ _ h2)
  | .obj m cn ns ds, _, _, h => by
    cases h with
    | obj h1 h0 h2 h3 _ => exact .obj (cell_now z b h1) h0 (OwAll.now z b ds _ _ h2)
  | .src, _, _, h => by
    cases h with
    | src h1 h2 => exact .src (z _ _ h1) (z _ _ h2)
  | .scr _, _, _, h => by
    cases h with
    | scr h1 => exact .scr (h1.same z)
  | .cel _ _, _, _, h => by
    cases h with
    | cel h1 => exact .cel (z _ _ h1)
  | .glb _, _, _, h => by cases h; exact .glb _
theorem OwAll.now (z : Same Z H) (b : Same B H) : ∀ (ds : List D) (vs : List V) (F : List Addr), OwAll K T Z B H vs ds F → NwAll K T H vs ds
  | [], _, _, h => by cases h; exact .nil
  | d :: ds, _, _, h => by
    cases h with
    | cons h1 h2 => exact .cons (Ow.now z b d _ _ h1) (OwAll.now z b ds _ _ h2)
end
mutual
theorem Ow.there : ∀ (d : D) (v : V) (F : List Addr), Ow K T Z B H v d F → ∀ a ∈ F, H a ≠ none
  | .non, _, _, h => by cases h; intro _ h; cases h
  | .bl _, _, _, h => by cases h; intro _ h; cases h
  | .int _, _, _, h => by cases h; intro _ h; cases h
  | .str _, _, _, h => by cases h; intro _ h; cases h
  | .tup ds, _, _, h => by
    cases h with
    | tup h1 h2 => intro _ h; cases h
  | .lst m ds, _, _, h => by
    cases h with
    | lst h1 h2 h3 =>
      have ih := OwAll.there ds _ _ h2
      cases m with
      | own =>
        have h3' : _ = _ := h3
        subst h3'
        intro a ha
        rcases List.mem_cons.mp ha with rfl | ha
        · rw [show H a = _ from h1]; exact fun z => nomatch z
        · exact ih a ha
      | frz => intro a ha; rw [h3.2] at ha; cases ha
      | bor => intro a ha; rw [h3.2] at ha; cases ha
  | .dct m ks ds, _, _, h => by
    cases h with
    | dct h1 h0 h2 h3 =>
      have ih := OwAll.there ds _ _ h2
      cases m with
      | own =>
        have h3' : _ = _ := h3
        subst h3'
        intro a ha
        rcases List.mem_cons.mp ha with rfl | ha
        · rw [show H a = _ from h1]; exact fun z => nomatch z
        · exact ih a ha
      | frz => intro a ha; rw [h3.2] at ha; cases ha
      | bor => intro a ha; rw [h3.2] at ha; cases ha
  | .obj m cn ns ds, _, _, h => by
    cases h with
    | obj h1 h0 h2 h3 g =>
      have ih := OwAll.there ds _ _ h2
      cases m with
      | own =>
        have h3' : _ = _ := h3
        subst h3'
        intro a ha
        rcases List.mem_cons.mp ha with rfl | ha
        · rw [show H a = _ from h1]; exact fun z => nomatch z
        · exact ih a ha
      | frz => intro a ha; rw [h3.2] at ha; cases ha
      | bor => intro a ha; rw [h3.2] at ha; cases ha
  | .src, _, _, h => by cases h; intro _ h; cases h
  | .scr _, _, _, h => by cases h; intro _ h; cases h
  | .cel _ _, _, _, h => by cases h; intro _ h; cases h
  | .glb _, _, _, h => by cases h; intro _ h; cases h
theorem OwAll.there : ∀ (ds : List D) (vs : List V) (F : List Addr), OwAll K T Z B H vs ds F → ∀ a ∈ F, H a ≠ none
  | [], _, _, h => by cases h; intro _ h; cases h
  | d :: ds, _, _, h => by
    cases h with
    | cons h1 h2 =>
      intro a ha
      rcases List.mem_append.mp ha with ha | ha
      · exact Ow.there d _ _ h1 a ha
      · exact OwAll.there ds _ _ h2 a ha
end
theorem Nw.same {d : D} {v : V} (h : Nw K T H v d) (e : Same H H') : Nw K T H' v d := by
  have : ∀ (d : D) (v : V), Nw K T H v d → Nw K T H' v d := by
    intro d v h
    exact Nw.rec (motive_1 := fun v d _ => Nw K T H' v d) (motive_2 := fun vs ds _ => NwAll K T H' vs ds)
      .non .bl .int .str (fun h1 _ ih => .tup (e _ _ h1) ih) (fun h1 _ ih => .lst (e _ _ h1) ih) (fun h1 h0 _ ih => .dct (e _ _ h1) h0 ih) (fun h1 h0 _ ih => .obj (e _ _ h1) h0 ih)
      (fun h1 h2 => .src (e _ _ h1) (e _ _ h2)) (fun h1 => .scr (h1.same e)) (fun h1 => .cel (e _ _ h1)) .glb .nil (fun _ _ i1 i2 => .cons i1 i2) h
  exact this d v h
theorem NwAll.same {d : List D} {v : List V} (h : NwAll K T H v d) (e : Same H H') : NwAll K T H' v d := by
  induction d generalizing v with
  | nil => cases h; exact .nil
  | cons d ds ih => cases h with
    | cons h1 h2 => exact .cons (h1.same e) (ih h2)
theorem NwAll.length : ∀ {ds : List D} {vs : List V}, NwAll K T H vs ds → vs.length = ds.length
  | _, _, .nil => rfl
  | _, _, .cons _ t => by rw [List.length_cons, List.length_cons, NwAll.length t]
theorem OwAll.length : ∀ {ds : List D} {vs : List V} {F : List Addr}, OwAll K T Z B H vs ds F → vs.length = ds.length
  | _, _, _, .nil => rfl
  | _, _, _, .cons _ t => by rw [List.length_cons, List.length_cons, OwAll.length t]
theorem OwAll.get : ∀ {ds : List D} {vs : List V} {F : List Addr} {i : Nat} {d : D}, OwAll K T Z B H vs ds F → ds[i]? = some d → ∃ v G, vs[i]? = some v ∧ Ow K T Z B H v d G ∧ (∀ a ∈ G, a ∈ F) ∧ (F.Nodup → G.Nodup)
  | _, _, _, _, _, .nil, e => by simp at e
  | _, _, _, 0, _, .cons h _, e => by simp at e; subst e; exact ⟨_, _, rfl, h, fun a ha => List.mem_append_left _ ha, fun n => (List.nodup_append.mp n).1⟩
  | _, _, _, i + 1, d, .cons _ t, e => by
    obtain ⟨v, G, h1, h2, h3, h4⟩ := OwAll.get (i := i) (d := d) t (by simpa using e)
    exact ⟨v, G, by simpa using h1, h2, fun a ha => List.mem_append_right _ (h3 a ha), fun n => h4 (List.nodup_append.mp n).2.1⟩
theorem OwAll.getV : ∀ {ds : List D} {vs : List V} {F : List Addr} {i : Nat} {v : V}, OwAll K T Z B H vs ds F → vs[i]? = some v → ∃ d G, ds[i]? = some d ∧ Ow K T Z B H v d G ∧ (∀ a ∈ G, a ∈ F) ∧ (F.Nodup → G.Nodup)
  | _, _, _, _, _, .nil, e => by simp at e
  | _, _, _, 0, _, .cons h _, e => by simp at e; subst e; exact ⟨_, _, rfl, h, fun a ha => List.mem_append_left _ ha, fun n => (List.nodup_append.mp n).1⟩
  | _, _, _, i + 1, d, .cons _ t, e => by
    obtain ⟨v, G, h1, h2, h3, h4⟩ := OwAll.getV (i := i) (v := d) t (by simpa using e)
    exact ⟨v, G, by simpa using h1, h2, fun a ha => List.mem_append_right _ (h3 a ha), fun n => h4 (List.nodup_append.mp n).2.1⟩
theorem OwAll.append : ∀ {ds es : List D} {vs ws : List V} {F G : List Addr}, OwAll K T Z B H vs ds F → OwAll K T Z B H ws es G → OwAll K T Z B H (vs ++ ws) (ds ++ es) (F ++ G)
  | _, _, _, _, _, _, .nil, s => s
  | _, _, _, _, _, _, .cons r t, s => by
    rw [List.append_assoc]
    exact .cons r (OwAll.append t s)
end
/-! still data: lists of them -/
section
variable {K : PySem.W.Frag} {T : Tb} {Z B H : Hp}
abbrev At (K : PySem.W.Frag) (T : Tb) (Z B H : Hp) (v : V) (d : D) : Prop := Ow K T Z B H v d []
abbrev AtAll (K : PySem.W.Frag) (T : Tb) (Z B H : Hp) (vs : List V) (ds : List D) : Prop := OwAll K T Z B H vs ds []
theorem AtAll.cons {v : V} {vs : List V} {d : D} {ds : List D} (h : At K T Z B H v d) (t : AtAll K T Z B H vs ds) : AtAll K T Z B H (v :: vs) (d :: ds) := OwAll.cons (F := []) (G := []) h t
theorem AtAll.inv {v : V} {vs : List V} {d : D} {ds : List D} (h : AtAll K T Z B H (v :: vs) (d :: ds)) : At K T Z B H v d ∧ AtAll K T Z B H vs ds := by
  have key : ∀ (F : List Addr), OwAll K T Z B H (v :: vs) (d :: ds) F → F = [] → At K T Z B H v d ∧ AtAll K T Z B H vs ds := by
    intro F h e
    cases h with
    | cons h1 h2 =>
      rw [List.append_eq_nil_iff] at e
      rw [e.1] at h1
      rw [e.2] at h2
      exact ⟨h1, h2⟩
  exact key _ h rfl
theorem AtAll.append {vs ws : List V} {ds es : List D} (h : AtAll K T Z B H vs ds) (t : AtAll K T Z B H ws es) : AtAll K T Z B H (vs ++ ws) (ds ++ es) := OwAll.append h t
theorem AtAll.get {ds : List D} {vs : List V} {i : Nat} {d : D} (h : AtAll K T Z B H vs ds) (e : ds[i]? = some d) : ∃ v, vs[i]? = some v ∧ At K T Z B H v d := by
  obtain ⟨v, G, h1, h2, h3, _⟩ := OwAll.get h e
  have : G = [] := List.eq_nil_iff_forall_not_mem.mpr fun a ha => by cases h3 a ha
  subst this
  exact ⟨v, h1, h2⟩
theorem AtAll.getV {ds : List D} {vs : List V} {i : Nat} {v : V} (h : AtAll K T Z B H vs ds) (e : vs[i]? = some v) : ∃ d, ds[i]? = some d ∧ At K T Z B H v d := by
  obtain ⟨v, G, h1, h2, h3, _⟩ := OwAll.getV h e
  have : G = [] := List.eq_nil_iff_forall_not_mem.mpr fun a ha => by cases h3 a ha
  subst this
  exact ⟨v, h1, h2⟩
theorem AtAll.take : ∀ {ds : List D} {vs : List V} (n : Nat), AtAll K T Z B H vs ds → AtAll K T Z B H (vs.take n) (ds.take n)
  | _, _, 0, _ => by rw [List.take_zero, List.take_zero]; exact .nil
  | [], [], n + 1, _ => .nil
  | [], _ :: _, _ + 1, h => by cases h
  | _ :: _, [], _ + 1, h => by cases h
  | d :: ds, v :: vs, n + 1, h => AtAll.cons h.inv.1 (AtAll.take n h.inv.2)
theorem AtAll.drop : ∀ {ds : List D} {vs : List V} (n : Nat), AtAll K T Z B H vs ds → AtAll K T Z B H (vs.drop n) (ds.drop n)
  | _, _, 0, h => h
  | [], [], n + 1, _ => .nil
  | [], _ :: _, _ + 1, h => by cases h
  | _ :: _, [], _ + 1, h => by cases h
  | d :: ds, v :: vs, n + 1, h => AtAll.drop n h.inv.2
theorem AtAll.reverse : ∀ {ds : List D} {vs : List V}, AtAll K T Z B H vs ds → AtAll K T Z B H vs.reverse ds.reverse
  | [], [], _ => .nil
  | [], _ :: _, h => by cases h
  | _ :: _, [], h => by cases h
  | d :: ds, v :: vs, h => by
    rw [List.reverse_cons, List.reverse_cons]
    exact AtAll.append (AtAll.reverse h.inv.2) (AtAll.cons h.inv.1 .nil)
theorem AtAll.of_ints : ∀ is : List Int, AtAll K T Z B H (is.map V.int) (is.map D.int)
  | [] => .nil
  | i :: is => AtAll.cons (.int i) (AtAll.of_ints is)
theorem NwAll.ints : ∀ {is : List Int} {vs : List V}, NwAll K T H vs (is.map D.int) → vs = is.map V.int
  | [], _, h => by cases h; rfl
  | i :: is, _, h => by
    cases h with
    | cons h1 h2 =>
      cases h1
      rw [NwAll.ints h2]
      rfl
theorem NwAll.bls : ∀ {is : List Bool} {vs : List V}, NwAll K T H vs (is.map D.bl) → vs = is.map V.bl
  | [], _, h => by cases h; rfl
  | i :: is, _, h => by
    cases h with
    | cons h1 h2 =>
      cases h1
      rw [NwAll.bls h2]
      rfl
theorem NwAll.get : ∀ {ds : List D} {vs : List V} {i : Nat} {d : D}, NwAll K T H vs ds → ds[i]? = some d → ∃ v, vs[i]? = some v ∧ Nw K T H v d
  | _, _, _, _, .nil, e => by simp at e
  | _, _, 0, _, .cons h _, e => by simp at e; subst e; exact ⟨_, rfl, h⟩
  | _, _, i + 1, d, .cons _ t, e => by
    obtain ⟨v, h1, h2⟩ := NwAll.get (i := i) (d := d) t (by simpa using e)
    exact ⟨v, by simpa using h1, h2⟩
end

section
variable {K : PySem.W.Frag} {T : Tb} {Z B H : Hp}
mutual
theorem Ow.nown : ∀ (d : D) (v : V) (F : List Addr), Ow K T Z B H v d F → nown d = true → F = []
  | .non, _, _, h, _ => by cases h; rfl
  | .bl _, _, _, h, _ => by cases h; rfl
  | .int _, _, _, h, _ => by cases h; rfl
  | .str _, _, _, h, _ => by cases h; rfl
  | .tup ds, _, _, h, _ => by cases h <;> rfl
  | .lst m ds, _, _, h, n => by
    cases h with
    | lst h1 h2 h3 =>
      cases m with
      | frz => exact h3.2
      | bor => exact h3.2
      | own => simp [Y.nown] at n
  | .dct m ks ds, _, _, h, n => by
    cases h with
    | dct h1 h0 h2 h3 =>
      cases m with
      | frz => exact h3.2
      | bor => exact h3.2
      | own => simp [Y.nown] at n
  | .obj m cn ns ds, _, _, h, n => by
    cases h with
    | obj h1 h0 h2 h3 g =>
      cases m with
      | frz => exact h3.2
      | bor => exact h3.2
      | own => simp [Y.nown] at n
  | .src, _, _, h, _ => by cases h; rfl
  | .scr _, _, _, h, _ => by cases h; rfl
  | .cel _ _, _, _, h, _ => by cases h; rfl
  | .glb _, _, _, h, _ => by cases h; rfl
end
theorem OwAll.nown : ∀ {ds : List D} {vs : List V} {F : List Addr}, OwAll K T Z B H vs ds F → nowns ds = true → F = []
  | [], _, _, h, _ => by cases h; rfl
  | d :: ds, _, _, h, n => by
    cases h with
    | cons h1 h2 =>
      rw [nowns, Bool.and_eq_true] at n
      rw [Ow.nown _ _ _ h1 n.1, OwAll.nown h2 n.2]
      rfl
/-- what is own stands still from now on: its cells come to Z -/
theorem frz_cell {Z' : Hp} {a : Addr} {o : HO} {F G : List Addr} (f : G = a :: F) (k : ∀ a ∈ G, Z' a = H a) (h : H a = some o) : Z' a = some o := by
  rw [k a (by rw [f]; exact List.mem_cons_self)]
  exact h
mutual
theorem Ow.frz {Z' : Hp} (z : Same Z Z') : ∀ (d : D) (v : V) (F : List Addr), (∀ a ∈ F, Z' a = H a) → Ow K T Z B H v d F → Ow K T Z' B H v (fz d) []
  | .non, _, _, _, h => by cases h; exact .non
  | .bl _, _, _, _, h => by cases h; exact .bl _
  | .int _, _, _, _, h => by cases h; exact .int _
  | .str _, _, _, _, h => by cases h; exact .str _
  | .tup ds, _, _, _, h => by
    rw [fz]
    cases h with
    | tup h1 h2 => exact .tup (z _ _ h1) (h2.still z (Same.refl _))
  | .lst m ds, _, _, k, h => by
    cases h with
    | lst h1 h2 h3 =>
      cases m with
      | own =>
        rw [fz]
        exact .lst (m := .frz) (F := []) (frz_cell h3 k h1) (OwAll.frz z ds _ _ (fun a ha => k a (foot_sub h3 a ha)) h2) ⟨rfl, rfl⟩
      | frz => rw [fz]; obtain ⟨rfl, _⟩ := h3; exact .lst (m := .frz) (F := []) (z _ _ h1) (h2.still z (Same.refl _)) ⟨rfl, rfl⟩
      | bor => rw [fz]; obtain ⟨rfl, _⟩ := h3; exact .lst (m := .bor) (F := []) h1 (h2.still z (Same.refl _)) ⟨rfl, rfl⟩
  | .dct m ks ds, _, _, k, h => by
    cases h with
    | dct h1 h0 h2 h3 =>
      cases m with
      | own =>
        rw [fz]
        exact .dct (m := .frz) (F := []) (frz_cell h3 k h1) h0 (OwAll.frz z ds _ _ (fun a ha => k a (foot_sub h3 a ha)) h2) ⟨rfl, rfl⟩
      | frz => rw [fz]; obtain ⟨rfl, _⟩ := h3; exact .dct (m := .frz) (F := []) (z _ _ h1) h0 (h2.still z (Same.refl _)) ⟨rfl, rfl⟩
      | bor => rw [fz]; obtain ⟨rfl, _⟩ := h3; exact .dct (m := .bor) (F := []) h1 h0 (h2.still z (Same.refl _)) ⟨rfl, rfl⟩
  | .obj m cn ns ds, _, _, k, h => by
    cases h with
    | obj h1 h0 h2 h3 g =>
      cases m with
      | own =>
        rw [fz]
        exact .obj (m := .frz) (F := []) (frz_cell h3 k h1) h0 (OwAll.frz z ds _ _ (fun a ha => k a (foot_sub h3 a ha)) h2) ⟨rfl, rfl⟩ g
      | frz => rw [fz]; obtain ⟨rfl, _⟩ := h3; exact .obj (m := .frz) (F := []) (z _ _ h1) h0 (h2.still z (Same.refl _)) ⟨rfl, rfl⟩ g
      | bor => rw [fz]; obtain ⟨rfl, _⟩ := h3; exact .obj (m := .bor) (F := []) h1 h0 (h2.still z (Same.refl _)) ⟨rfl, rfl⟩ g
  | .src, _, _, _, h => by
    cases h with
    | src h1 h2 => exact .src (z _ _ h1) (z _ _ h2)
  | .scr _, _, _, _, h => by
    cases h with
    | scr h1 => exact .scr (h1.same z)
  | .cel _ _, _, _, _, h => by
    cases h with
    | cel h1 => exact .cel (z _ _ h1)
  | .glb _, _, _, _, h => by cases h; exact .glb _
theorem OwAll.frz {Z' : Hp} (z : Same Z Z') : ∀ (ds : List D) (vs : List V) (F : List Addr), (∀ a ∈ F, Z' a = H a) → OwAll K T Z B H vs ds F → OwAll K T Z' B H vs (fzs ds) []
  | [], _, _, _, h => by cases h; exact .nil
  | d :: ds, _, _, k, h => by
    cases h with
    | cons h1 h2 =>
      exact OwAll.cons (F := []) (G := []) (Ow.frz z d _ _ (fun a ha => k a (List.mem_append_left _ ha)) h1) (OwAll.frz z ds _ _ (fun a ha => k a (List.mem_append_right _ ha)) h2)
end
mutual
theorem Ow.lend {B' : Hp} (b : Same B B') : ∀ (d : D) (v : V) (F : List Addr), (∀ a ∈ F, B' a = H a) → Ow K T Z B H v d F → Ow K T Z B' H v (lend d) []
  | .non, _, _, _, h => by cases h; exact .non
  | .bl _, _, _, _, h => by cases h; exact .bl _
  | .int _, _, _, _, h => by cases h; exact .int _
  | .str _, _, _, _, h => by cases h; exact .str _
  | .tup ds, _, _, _, h => by
    rw [Y.lend]
    cases h with
    | tup h1 h2 => exact .tup h1 (h2.still (Same.refl _) b)
  | .lst m ds, _, _, k, h => by
    cases h with
    | lst h1 h2 h3 =>
      cases m with
      | own =>
        rw [Y.lend]
        exact .lst (m := .bor) (F := []) (frz_cell h3 k h1) (OwAll.lend b ds _ _ (fun a ha => k a (foot_sub h3 a ha)) h2) ⟨rfl, rfl⟩
      | frz => rw [Y.lend]; obtain ⟨rfl, _⟩ := h3; exact .lst (m := .frz) (F := []) h1 (h2.still (Same.refl _) b) ⟨rfl, rfl⟩
      | bor => rw [Y.lend]; obtain ⟨rfl, _⟩ := h3; exact .lst (m := .bor) (F := []) (b _ _ h1) (h2.still (Same.refl _) b) ⟨rfl, rfl⟩
  | .dct m ks ds, _, _, k, h => by
    cases h with
    | dct h1 h0 h2 h3 =>
      cases m with
      | own =>
        rw [Y.lend]
        exact .dct (m := .bor) (F := []) (frz_cell h3 k h1) h0 (OwAll.lend b ds _ _ (fun a ha => k a (foot_sub h3 a ha)) h2) ⟨rfl, rfl⟩
      | frz => rw [Y.lend]; obtain ⟨rfl, _⟩ := h3; exact .dct (m := .frz) (F := []) h1 h0 (h2.still (Same.refl _) b) ⟨rfl, rfl⟩
      | bor => rw [Y.lend]; obtain ⟨rfl, _⟩ := h3; exact .dct (m := .bor) (F := []) (b _ _ h1) h0 (h2.still (Same.refl _) b) ⟨rfl, rfl⟩
  | .obj m cn ns ds, _, _, k, h => by
    cases h with
    | obj h1 h0 h2 h3 g =>
      cases m with
      | own =>
        rw [Y.lend]
        exact .obj (m := .bor) (F := []) (frz_cell h3 k h1) h0 (OwAll.lend b ds _ _ (fun a ha => k a (foot_sub h3 a ha)) h2) ⟨rfl, rfl⟩ g
      | frz => rw [Y.lend]; obtain ⟨rfl, _⟩ := h3; exact .obj (m := .frz) (F := []) h1 h0 (h2.still (Same.refl _) b) ⟨rfl, rfl⟩ g
      | bor => rw [Y.lend]; obtain ⟨rfl, _⟩ := h3; exact .obj (m := .bor) (F := []) (b _ _ h1) h0 (h2.still (Same.refl _) b) ⟨rfl, rfl⟩ g
  | .src, _, _, _, h => by
    cases h with
    | src h1 h2 => exact .src h1 h2
  | .scr _, _, _, _, h => by
    cases h with
    | scr h1 => exact .scr h1
  | .cel _ _, _, _, _, h => by
    cases h with
    | cel h1 => exact .cel h1
  | .glb _, _, _, _, h => by cases h; exact .glb _
theorem OwAll.lend {B' : Hp} (b : Same B B') : ∀ (ds : List D) (vs : List V) (F : List Addr), (∀ a ∈ F, B' a = H a) → OwAll K T Z B H vs ds F → OwAll K T Z B' H vs (lends ds) []
  | [], _, _, _, h => by cases h; exact .nil
  | d :: ds, _, _, k, h => by
    cases h with
    | cons h1 h2 =>
      exact OwAll.cons (F := []) (G := []) (Ow.lend b d _ _ (fun a ha => k a (List.mem_append_left _ ha)) h1) (OwAll.lend b ds _ _ (fun a ha => k a (List.mem_append_right _ ha)) h2)
end
end
end Y

/-! YB: the names' slots, the steps of the heap, the judgements. -/
namespace Y
open PySem PySem.Spec PyProof.Rows L2

/-- what may be read but not changed in this call, what may be changed of what was there, the heap at its start -/
structure Cz where
  B : Hp
  W : List Addr
  H0 : Hp
  Zi : Hp
/-- for what leans on what is lent alone -/
abbrev cz0 (B : Hp) : Cz := ⟨B, [], fun _ => none, fun _ => none⟩
section
variable (K : PySem.W.Frag) (T : Tb) (c : Cz) (Z H : Hp)
def ExAt (od : Option Addr) (fs : List (String × D)) : Prop := match od with
  | none => fs = []
  | some dx => ∃ gs : List (Str × V), Z dx = some (.xd gs) ∧ gs.map (·.1) = nmS (fs.map (·.1)) ∧ OwAll K T Z c.B H (gs.map (·.2)) (fs.map (·.2)) []
def SlotOk (o : Option V) : S → List Addr → Prop
  | .no, F => F = []
  | .val d, F => F = [] ∧ ∃ v, o = some v ∧ Ow K T Z c.B H v d []
  | .own r d, F => ∃ v, o = some v ∧ (∀ a, r = some a → v = .ref a) ∧ Ow K T Z c.B H v d F
  | .exc a od _ fs, F => F = [] ∧ o = some (.ref a) ∧ ExAt K T c Z H od fs
inductive Slots : L2.St → List S → List Addr → Prop
  | nil : Slots [] [] []
  | cons {o : Option V} {s : S} {σ : L2.St} {ρ : List S} {F G : List Addr} : SlotOk K T c Z H o s F → Slots σ ρ G → Slots (o :: σ) (s :: ρ) (F ++ G)
structure EnvOk (σ : L2.St) (ρ : List S) (F : List Addr) : Prop where
  zh : Same Z H
  bh : Same c.B H
  sm : ∀ b o, c.H0 b = some o → b ∉ c.W → H b = some o
  tr : ∀ b, H b = none → c.H0 b = none
  sl : Slots K T c Z H σ ρ F
  fr : ∀ a ∈ F, Z a = none ∧ c.B a = none ∧ (c.H0 a = none ∨ a ∈ c.W)
  nd : F.Nodup
  zn : ∀ a, Z a ≠ none → c.Zi a ≠ none ∨ c.H0 a = none ∨ a ∈ c.W
end
section
variable {K : PySem.W.Frag} {T : Tb} {c : Cz} {Z H Z' H' : Hp} {σ : L2.St} {ρ : List S} {F : List Addr}
theorem ExAt.mono {od : Option Addr} {fs : List (String × D)} (z : Same Z Z') (h : ExAt K T c Z H od fs) : ExAt K T c Z' H' od fs := by
  cases od with
  | none => exact h
  | some dx =>
    obtain ⟨gs, h1, h2, h3⟩ := h
    exact ⟨gs, z _ _ h1, h2, h3.still z (Same.refl _)⟩
theorem SlotOk.mono {o : Option V} {s : S} (z : Same Z Z') (k : ∀ a ∈ F, H' a = H a) (h : SlotOk K T c Z H o s F) : SlotOk K T c Z' H' o s F := by
  cases s with
  | no => exact h
  | val d =>
    obtain ⟨h1, v, h2, h3⟩ := h
    exact ⟨h1, v, h2, h3.still z (Same.refl _)⟩
  | own r d =>
    obtain ⟨v, h2, h0, h3⟩ := h
    exact ⟨v, h2, h0, Ow.mono z (Same.refl _) _ _ _ k h3⟩
  | exc a od cn fs => exact ⟨h.1, h.2.1, h.2.2.mono z⟩
theorem Slots.mono (z : Same Z Z') (h : Slots K T c Z H σ ρ F) : (∀ a ∈ F, H' a = H a) → Slots K T c Z' H' σ ρ F := by
  induction h with
  | nil => exact fun _ => .nil
  | cons h1 _ ih => exact fun k => .cons (h1.mono z fun a ha => k a (List.mem_append_left _ ha)) (ih fun a ha => k a (List.mem_append_right _ ha))
theorem Slots.len (h : Slots K T c Z H σ ρ F) : σ.length = ρ.length := by
  induction h with
  | nil => rfl
  | cons _ _ ih => rw [List.length_cons, List.length_cons, ih]
theorem SlotOk.there {o : Option V} {s : S} (h : SlotOk K T c Z H o s F) : ∀ a ∈ F, H a ≠ none := by
  cases s with
  | no => intro a ha; rw [show F = [] from h] at ha; cases ha
  | val d => intro a ha; rw [h.1] at ha; cases ha
  | own r d =>
    obtain ⟨v, _, _, h3⟩ := h
    exact Ow.there _ _ _ h3
  | exc a od cn fs => intro a ha; rw [h.1] at ha; cases ha
theorem Slots.there (h : Slots K T c Z H σ ρ F) : ∀ a ∈ F, H a ≠ none := by
  induction h with
  | nil => intro a ha; cases ha
  | cons h1 _ ih =>
    intro a ha
    rcases List.mem_append.mp ha with ha | ha
    · exact h1.there a ha
    · exact ih a ha
theorem Slots.get (h : Slots K T c Z H σ ρ F) : ∀ {i : Nat} {s : S}, ρ[i]? = some s → ∃ o F1 Fi F2, σ[i]? = some o ∧ F = F1 ++ (Fi ++ F2) ∧ SlotOk K T c Z H o s Fi ∧
    ∀ (o' : Option V) (s' : S) (G : List Addr) (Z' H' : Hp), Same Z Z' → (∀ a ∈ F1, H' a = H a) → (∀ a ∈ F2, H' a = H a) → SlotOk K T c Z' H' o' s' G → Slots K T c Z' H' (σ.set i o') (ρ.set i s') (F1 ++ (G ++ F2)) := by
  induction h with
  | nil => intro i s e; simp at e
  | @cons o s σ ρ F G h1 h2 ih =>
    intro i t e
    cases i with
    | zero =>
      have : s = t := by simpa using e
      subst this
      exact ⟨o, [], F, G, rfl, rfl, h1, fun o' s' G' Z' H' z _ k2 h => by rw [List.nil_append]; exact .cons h (h2.mono z k2)⟩
    | succ i =>
      obtain ⟨o', F1, Fi, F2, e1, e2, e3, e4⟩ := ih (i := i) (s := t) (by simpa using e)
      refine ⟨o', F ++ F1, Fi, F2, by simpa using e1, by rw [e2, List.append_assoc], e3, fun o'' s' G' Z' H' z k1 k2 h => ?_⟩
      rw [List.append_assoc]
      exact .cons (h1.mono z fun a ha => k1 a (List.mem_append_left _ ha)) (e4 o'' s' G' Z' H' z (fun a ha => k1 a (List.mem_append_right _ ha)) k2 h)
theorem EnvOk.there (h : EnvOk K T c Z H σ ρ F) : ∀ a ∈ F, H a ≠ none := h.sl.there
end

/-! ### steps that change nothing that was there -/
structure PStep (Z H Z' H' : Hp) : Prop where
  zz : Same Z Z'
  hh : Same H H'
  zn : ∀ a, Z' a ≠ none → Z a ≠ none ∨ H a = none
  zh : Same Z' H'
section
variable {K : PySem.W.Frag} {T : Tb} {c : Cz} {Z H Z' H' Z2 H2 : Hp} {σ : L2.St} {ρ : List S} {F : List Addr}
theorem PStep.refl (h : Same Z H) : PStep Z H Z H := ⟨Same.refl _, Same.refl _, fun _ h => .inl h, h⟩
theorem same_none (h : Same H H') {a : Addr} (e : H' a = none) : H a = none := by
  cases q : H a with
  | none => rfl
  | some o => rw [h _ _ q] at e; cases e
theorem PStep.trans (h : PStep Z H Z' H') (k : PStep Z' H' Z2 H2) : PStep Z H Z2 H2 := ⟨fun a o e => k.zz a o (h.zz a o e), fun a o e => k.hh a o (h.hh a o e), fun a e => by
  rcases k.zn a e with q | q
  · exact h.zn a q
  · exact .inr (same_none h.hh q), k.zh⟩
theorem PStep.newZ {p : Addr} {o : HO} (h : Same Z H) (e : H p = none) : PStep Z H (upd Z p o) (upd H p o) := by
  have ez : Z p = none := same_none h e
  refine ⟨Same.new ez, Same.new e, fun a q => ?_, fun a u q => ?_⟩
  · by_cases ea : a = p
    · rw [ea]; exact .inr e
    · rw [upd_ne ea] at q; exact .inl q
  · by_cases ea : a = p
    · rw [ea, upd_same] at q ⊢; exact q
    · rw [upd_ne ea] at q ⊢; exact h _ _ q
theorem PStep.newH {p : Addr} {o : HO} (h : Same Z H) (e : H p = none) : PStep Z H Z (upd H p o) :=
  ⟨Same.refl _, Same.new e, fun a q => .inl q, fun a u q => Same.new e _ _ (h _ _ q)⟩
theorem EnvOk.p (h : EnvOk K T c Z H σ ρ F) (s : PStep Z H Z' H') : EnvOk K T c Z' H' σ ρ F where
  zh := s.zh
  bh := fun a o e => s.hh _ _ (h.bh a o e)
  sm := fun b o e n => s.hh _ _ (h.sm b o e n)
  tr := fun b e => h.tr b (same_none s.hh e)
  sl := h.sl.mono s.zz fun a ha => by
    cases q : H a with
    | none => exact absurd q (h.there a ha)
    | some o => exact s.hh _ _ q
  fr := fun a ha => ⟨by
    cases q : Z' a with
    | none => rfl
    | some o =>
      rcases s.zn a (by rw [q]; exact fun z => nomatch z) with z | z
      · exact absurd (h.fr a ha).1 z
      · exact absurd z (h.there a ha), (h.fr a ha).2⟩
  nd := h.nd
  zn := fun a e => (s.zn a e).elim (h.zn a) fun z => .inr (.inl (h.tr a z))
end

/-! ### what an expression comes to -/
section
variable (K : PySem.W.Frag) (T : Tb) (c : Cz)
/-- Hs: the heap at the expression's start -/
def RvG (Hs Z H : Hp) (F : List Addr) (v : V) : RV → List Addr → Prop
  | .val d, G => G = [] ∧ Ow K T Z c.B H v d []
  | .tmp d, G => Ow K T Z c.B H v d G ∧ G.Nodup ∧ ∀ a ∈ G, Hs a = none ∧ Z a = none
  | .rd d, G => G = [] ∧ ∃ G', Ow K T Z c.B H v d G' ∧ ∀ a ∈ G', a ∈ F
inductive RvsG (Hs Z H : Hp) (F : List Addr) : List V → List RV → List Addr → Prop
  | nil : RvsG Hs Z H F [] [] []
  | cons {v : V} {vs : List V} {r : RV} {rs : List RV} {G G' : List Addr} : RvG K T c Hs Z H F v r G → RvsG Hs Z H F vs rs G' → (∀ a ∈ G, a ∉ G') → RvsG Hs Z H F (v :: vs) (r :: rs) (G ++ G')
/-- .. behind steps that may have changed what the names own -/
def RvE (Z H : Hp) (F : List Addr) (v : V) : RV → Prop
  | .val d => Ow K T Z c.B H v d []
  | .tmp d => ∃ G, Ow K T Z c.B H v d G ∧ G.Nodup ∧ ∀ a ∈ G, a ∉ F ∧ Z a = none ∧ c.B a = none ∧ (c.H0 a = none ∨ a ∈ c.W)
  | .rd d => ∃ G', Ow K T Z c.B H v d G' ∧ ∀ a ∈ G', a ∈ F
def WP (W : WX) (Z : Hp) (σ : L2.St) (H : Hp) (X : XD) : Prop := ∀ Z' H' cn fs od, PStep Z H Z' H' → ExAt K T c Z' H' od fs → X cn fs → W (.ref (T cn)) od σ H'
end
section
variable {K : PySem.W.Frag} {T : Tb} {c : Cz} {Hs Z H Z' H' : Hp} {F G : List Addr} {v : V} {r : RV} {vs : List V} {rs : List RV} {W : WX} {σ : L2.St} {X : XD}
theorem WP.p (h : WP K T c W Z σ H X) (s : PStep Z H Z' H') : WP K T c W Z' σ H' X := fun Z2 H2 cn fs od s2 e x => h Z2 H2 cn fs od (s.trans s2) e x
theorem fresh_p (s : PStep Z H Z' H') {a : Addr} (e : H a ≠ none) (z : Z a = none) : Z' a = none := by
  cases q : Z' a with
  | none => rfl
  | some o =>
    rcases s.zn a (by rw [q]; exact fun z => nomatch z) with y | y
    · exact absurd z y
    · exact absurd y e
theorem same_at (h : Same H H') {a : Addr} (e : H a ≠ none) : H' a = H a := by
  cases q : H a with
  | none => exact absurd q e
  | some o => exact h _ _ q
theorem RvG.p (h : RvG K T c Hs Z H F v r G) (s : PStep Z H Z' H') (hF : ∀ a ∈ F, H a ≠ none) : RvG K T c Hs Z' H' F v r G := by
  cases r with
  | val d => exact ⟨h.1, h.2.still s.zz (Same.refl _)⟩
  | tmp d =>
    have th := Ow.there _ _ _ h.1
    exact ⟨Ow.mono s.zz (Same.refl _) _ _ _ (fun a ha => same_at s.hh (th a ha)) h.1, h.2.1, fun a ha => ⟨(h.2.2 a ha).1, fresh_p s (th a ha) (h.2.2 a ha).2⟩⟩
  | rd d =>
    obtain ⟨h1, G', h2, h3⟩ := h
    exact ⟨h1, G', Ow.mono s.zz (Same.refl _) _ _ _ (fun a ha => same_at s.hh (hF a (h3 a ha))) h2, h3⟩
theorem RvG.from {Hr : Hp} (h : RvG K T c Hs Z H F v r G) (s : Same Hr Hs) : RvG K T c Hr Z H F v r G := by
  cases r with
  | val d => exact h
  | tmp d => exact ⟨h.1, h.2.1, fun a ha => ⟨same_none s (h.2.2 a ha).1, (h.2.2 a ha).2⟩⟩
  | rd d => exact h
theorem RvG.ow (h : RvG K T c Hs Z H F v r G) : ∃ G', Ow K T Z c.B H v r.d G' := by
  cases r with
  | val d => exact ⟨_, h.2⟩
  | tmp d => exact ⟨_, h.1⟩
  | rd d => exact ⟨_, h.2.choose_spec.1⟩
theorem RvG.now (h : RvG K T c Hs Z H F v r G) (z : Same Z H) (b : Same c.B H) : Nw K T H v r.d := by
  obtain ⟨G', h⟩ := h.ow
  exact Ow.now z b _ _ _ h
theorem RvG.there (h : RvG K T c Hs Z H F v r G) : ∀ a ∈ G, H a ≠ none := by
  cases r with
  | val d => intro a ha; rw [h.1] at ha; cases ha
  | tmp d => exact Ow.there _ _ _ h.1
  | rd d => intro a ha; rw [h.1] at ha; cases ha
theorem RvG.free (h : RvG K T c Hs Z H F v r G) : ∀ a ∈ G, Hs a = none ∧ Z a = none := by
  cases r with
  | val d => intro a ha; rw [h.1] at ha; cases ha
  | tmp d => exact h.2.2
  | rd d => intro a ha; rw [h.1] at ha; cases ha
theorem RvG.nd (h : RvG K T c Hs Z H F v r G) : G.Nodup := by
  cases r with
  | val d => rw [h.1]; exact List.nodup_nil
  | tmp d => exact h.2.1
  | rd d => rw [h.1]; exact List.nodup_nil
theorem RvsG.free (h : RvsG K T c Hs Z H F vs rs G) : ∀ a ∈ G, Hs a = none ∧ Z a = none := by
  induction h with
  | nil => intro a ha; cases ha
  | cons h1 _ _ ih =>
    intro a ha
    rcases List.mem_append.mp ha with ha | ha
    · exact h1.free a ha
    · exact ih a ha
theorem RvsG.nd (h : RvsG K T c Hs Z H F vs rs G) : G.Nodup := by
  induction h with
  | nil => exact List.nodup_nil
  | cons h1 _ h3 ih => exact List.nodup_append.mpr ⟨h1.nd, ih, fun a ha b hb e => by subst e; exact h3 a ha hb⟩
theorem RvsG.there (h : RvsG K T c Hs Z H F vs rs G) : ∀ a ∈ G, H a ≠ none := by
  induction h with
  | nil => intro a ha; cases ha
  | cons h1 _ _ ih =>
    intro a ha
    rcases List.mem_append.mp ha with ha | ha
    · exact h1.there a ha
    · exact ih a ha
theorem RvsG.p (h : RvsG K T c Hs Z H F vs rs G) (s : PStep Z H Z' H') (hF : ∀ a ∈ F, H a ≠ none) : RvsG K T c Hs Z' H' F vs rs G := by
  induction h with
  | nil => exact .nil
  | cons h1 _ h3 ih => exact .cons (h1.p s hF) ih h3
theorem RvsG.from {Hr : Hp} (h : RvsG K T c Hs Z H F vs rs G) (s : Same Hr Hs) : RvsG K T c Hr Z H F vs rs G := by
  induction h with
  | nil => exact .nil
  | cons h1 _ h3 ih => exact .cons (h1.from s) ih h3
theorem RvsG.length (h : RvsG K T c Hs Z H F vs rs G) : vs.length = rs.length := by
  induction h with
  | nil => rfl
  | cons _ _ _ ih => rw [List.length_cons, List.length_cons, ih]
/-! what is nobody's stands still from now on -/
def frzZ (Z H : Hp) (G : List Addr) : Hp := fun a => if a ∈ G then H a else Z a
theorem frz_same (z : ∀ a ∈ G, Z a = none) : Same Z (frzZ Z H G) := fun a o e => by
  unfold frzZ
  rw [if_neg fun ha => by rw [z a ha] at e; cases e]
  exact e
theorem frz_step {Z0 H0 : Hp} (s : PStep Z0 H0 Z H) (z : ∀ a ∈ G, H0 a = none ∧ Z a = none) : PStep Z0 H0 (frzZ Z H G) H := by
  refine ⟨fun a o e => frz_same (fun a ha => (z a ha).2) a o (s.zz a o e), s.hh, fun a e => ?_, fun a o e => ?_⟩
  · by_cases ha : a ∈ G
    · exact .inr (z a ha).1
    · have e' : Z a ≠ none := by
        have : frzZ Z H G a = Z a := if_neg ha
        rw [this] at e
        exact e
      exact s.zn a e'
  · by_cases ha : a ∈ G
    · have : frzZ Z H G a = H a := if_pos ha
      rw [this] at e
      exact e
    · have : frzZ Z H G a = Z a := if_neg ha
      rw [this] at e
      exact s.zh a o e
theorem frz_at : ∀ a ∈ G, frzZ Z H G a = H a := fun a ha => if_pos ha
/-- a thing comes to be still -/
theorem RvG.still {Q : D → Prop} (h : RvG K T c Hs Z H F v r G) (q : Y.still false r Q) : ∃ d, Q d ∧ Ow K T (frzZ Z H G) c.B H v d [] := by
  cases r with
  | val d => exact ⟨d, q, h.2.still (frz_same fun a ha => by rw [h.1] at ha; cases ha) (Same.refl _)⟩
  | tmp d => exact ⟨fz d, q, Ow.frz (frz_same fun a ha => (h.2.2 a ha).2) _ _ _ (fun a ha => frz_at a ha) h.1⟩
  | rd d => exact False.elim q
theorem frz_app {G1 G2 : List Addr} : frzZ (frzZ Z H G1) H G2 = frzZ Z H (G1 ++ G2) := by
  funext a
  unfold frzZ
  by_cases h2 : a ∈ G2
  · rw [if_pos h2, if_pos (List.mem_append_right _ h2)]
  · rw [if_neg h2]
    by_cases h1 : a ∈ G1
    · rw [if_pos h1, if_pos (List.mem_append_left _ h1)]
    · rw [if_neg h1, if_neg fun z => (List.mem_append.mp z).elim h1 h2]
theorem frz_sub {G1 G2 : List Addr} (h : ∀ a ∈ G1, a ∈ G2) (zh : Same Z H) : Same (frzZ Z H G1) (frzZ Z H G2) := fun a o e => by
  unfold frzZ at e ⊢
  by_cases h1 : a ∈ G1
  · rw [if_pos h1] at e
    rw [if_pos (h a h1)]
    exact e
  · rw [if_neg h1] at e
    by_cases h2 : a ∈ G2
    · rw [if_pos h2]
      exact zh _ _ e
    · rw [if_neg h2]
      exact e
/-- several come to be still -/
theorem RvsG.stillF (h : RvsG K T c Hs Z H F vs rs G) (zh : Same Z H) : ∀ {Q : List D → Prop}, stills false rs Q → ∃ ds, Q ds ∧ OwAll K T (frzZ Z H G) c.B H vs ds [] := by
  induction h with
  | nil => exact fun {Q} q => ⟨[], q, .nil⟩
  | @cons v vs r rs G G' h1 h2 h3 ih =>
    intro Q q
    obtain ⟨d, q1, o1⟩ := h1.still q
    obtain ⟨ds, q2, o2⟩ := ih q1
    refine ⟨d :: ds, q2, ?_⟩
    have e1 : Same (frzZ Z H G) (frzZ Z H (G ++ G')) := frz_sub (fun a ha => List.mem_append_left _ ha) zh
    have e2 : Same (frzZ Z H G') (frzZ Z H (G ++ G')) := frz_sub (fun a ha => List.mem_append_right _ ha) zh
    exact OwAll.cons (F := []) (G := []) (o1.still e1 (Same.refl _)) (o2.still e2 (Same.refl _))
/-- .. or a tree's own -/
theorem RvG.stillO {Q : D → Prop} (h : RvG K T c Hs Z H F v r G) (q : Y.still true r Q) : ∃ d, Q d ∧ Ow K T Z c.B H v d G := by
  cases r with
  | val d => exact ⟨d, q, by rw [h.1]; exact h.2⟩
  | tmp d => exact ⟨d, q, h.1⟩
  | rd d => exact False.elim q
theorem RvsG.stillO (h : RvsG K T c Hs Z H F vs rs G) : ∀ {Q : List D → Prop}, stills true rs Q → ∃ ds, Q ds ∧ OwAll K T Z c.B H vs ds G := by
  induction h with
  | nil => exact fun {Q} q => ⟨[], q, .nil⟩
  | cons h1 h2 h3 ih =>
    intro Q q
    obtain ⟨d, q1, o1⟩ := h1.stillO q
    obtain ⟨ds, q2, o2⟩ := ih q1
    exact ⟨d :: ds, q2, .cons o1 o2⟩
end

/-! ### judgements -/
section
variable (K : PySem.W.Frag) (T : Tb) (W : WX)
def SP (te : TE) (y : YP) : Prop := ∀ (c : Cz) (Z : Hp) (σ : L2.St) (H : Hp) (ρ : List S) (F : List Addr) (Q : RV → Prop) (X : XD), EnvOk K T c Z H σ ρ F → WP K T c W Z σ H X → y ρ Q X →
  ∀ R : VK, (∀ v Z' H' r G, PStep Z H Z' H' → RvG K T c H Z' H' F v r G → Q r → R v H') → te σ H R
def SB (tt : TT) (y : YB) : Prop := ∀ (c : Cz) (Z : Hp) (σ : L2.St) (H : Hp) (ρ : List S) (F : List Addr) (Q : Bool → Prop) (X : XD), EnvOk K T c Z H σ ρ F → WP K T c W Z σ H X → y ρ Q X →
  ∀ R : Bool → Hp → Prop, (∀ b Z' H', PStep Z H Z' H' → Q b → R b H') → tt σ H R
def SA (n : Nat) (ta : TA) (y : YA) : Prop := ∀ (c : Cz) (Z : Hp) (σ : L2.St) (H : Hp) (ρ : List S) (F : List Addr) (Q : List RV → Prop) (X : XD), EnvOk K T c Z H σ ρ F → WP K T c W Z σ H X → y ρ Q X →
  ∀ R : List V → Hp → Prop, (∀ vs Z' H' rs G, PStep Z H Z' H' → RvsG K T c H Z' H' F vs rs G → rs.length = n → Q rs → R vs H') → ta σ H R
def SE (te : TE) (y : YE) : Prop := ∀ (c : Cz) (Z : Hp) (σ : L2.St) (H : Hp) (ρ : List S) (F : List Addr) (Q : RV → List S → Prop) (X : XE), EnvOk K T c Z H σ ρ F →
  (∀ Z' H' ρ' F' cn fs od, Same Z Z' → EnvOk K T c Z' H' σ ρ' F' → ExAt K T c Z' H' od fs → X cn fs ρ' → W (.ref (T cn)) od σ H') → y ρ Q X →
  ∀ R : VK, (∀ v Z' H' ρ' F' r, Same Z Z' → EnvOk K T c Z' H' σ ρ' F' → RvE K T c Z' H' F' v r → Q r ρ' → R v H') → te σ H R
def SBE (tt : TT) (y : YBE) : Prop := ∀ (c : Cz) (Z : Hp) (σ : L2.St) (H : Hp) (ρ : List S) (F : List Addr) (Q : Bool → List S → Prop) (X : XE), EnvOk K T c Z H σ ρ F →
  (∀ Z' H' ρ' F' cn fs od, Same Z Z' → EnvOk K T c Z' H' σ ρ' F' → ExAt K T c Z' H' od fs → X cn fs ρ' → W (.ref (T cn)) od σ H') → y ρ Q X →
  ∀ R : Bool → Hp → Prop, (∀ b Z' H' ρ' F', Same Z Z' → EnvOk K T c Z' H' σ ρ' F' → Q b ρ' → R b H') → tt σ H R
structure KOk (c : Cz) (Z : Hp) (k : Kt) (E : Ends) : Prop where
  nx : ∀ Z' σ' H' ρ' F', Same Z Z' → EnvOk K T c Z' H' σ' ρ' F' → k.nx ρ' → E.nx σ' H'
  rt : ∀ v Z' σ' H' ρ' F' r, Same Z Z' → EnvOk K T c Z' H' σ' ρ' F' → RvE K T c Z' H' F' v r → isRd r = false → k.rt r ρ' → E.rt v H'
  bk : ∀ Z' σ' H' ρ' F', Same Z Z' → EnvOk K T c Z' H' σ' ρ' F' → k.bk ρ' → E.bk σ' H'
  ct : ∀ Z' σ' H' ρ' F', Same Z Z' → EnvOk K T c Z' H' σ' ρ' F' → k.ct ρ' → E.ct σ' H'
def XOk (c : Cz) (Z : Hp) (X : Y.XE) : Prop := ∀ Z' σ' H' ρ' F' cn fs od, Same Z Z' → EnvOk K T c Z' H' σ' ρ' F' → ExAt K T c Z' H' od fs → X cn fs ρ' → W (.ref (T cn)) od σ' H'
def SS (ts : TS) (y : YS) : Prop := ∀ (c : Cz) (Z : Hp) (σ : L2.St) (H : Hp) (ρ : List S) (F : List Addr) (k : Kt), EnvOk K T c Z H σ ρ F → XOk K T W c Z k.ex → y ρ k → ∀ E : Ends, KOk K T c Z k E → ts E σ H
end
theorem Same.tr {H H1 H2 : Hp} (a : Same H H1) (b : Same H1 H2) : Same H H2 := fun x o e => b x o (a x o e)
section
variable {K : PySem.W.Frag} {T : Tb} {W : WX} {c : Cz} {Z H Z' H' : Hp} {σ : L2.St} {ρ : List S} {F G : List Addr} {v : V} {r : RV} {te : TE} {y : YP} {tt : TT} {yb : YB} {k : Kt} {E : Ends} {X : Y.XE}
theorem KOk.z (h : KOk K T c Z k E) (z : Same Z Z') : KOk K T c Z' k E :=
  ⟨fun a b c d e g => h.nx a b c d e (Same.tr z g), fun a b c d e f g i => h.rt a b c d e f g (Same.tr z i), fun a b c d e g => h.bk a b c d e (Same.tr z g), fun a b c d e g => h.ct a b c d e (Same.tr z g)⟩
theorem XOk.z (h : XOk K T W c Z X) (z : Same Z Z') : XOk K T W c Z' X := fun a b c d e f g i j => h a b c d e f g i (Same.tr z j)
theorem XOk.at (h : XOk K T W c Z X) : ∀ Z' H' ρ' F' cn fs od, Same Z Z' → EnvOk K T c Z' H' σ ρ' F' → ExAt K T c Z' H' od fs → X cn fs ρ' → W (.ref (T cn)) od σ H' := fun Z' H' ρ' F' cn fs od => h Z' σ H' ρ' F' cn fs od
theorem RvG.e (h : RvG K T c H Z' H' F v r G) (I : EnvOk K T c Z H σ ρ F) : RvE K T c Z' H' F v r := by
  cases r with
  | val d => exact h.2
  | tmp d =>
    refine ⟨G, h.1, h.2.1, fun a ha => ?_⟩
    obtain ⟨h1, h2⟩ := h.2.2 a ha
    exact ⟨fun hf => I.there a hf h1, h2, same_none I.bh h1, .inl (I.tr a h1)⟩
  | rd d => exact h.2
theorem WP.of (I : EnvOk K T c Z H σ ρ F) (h : ∀ Z' H' ρ' F' cn fs od, Same Z Z' → EnvOk K T c Z' H' σ ρ' F' → ExAt K T c Z' H' od fs → X cn fs ρ' → W (.ref (T cn)) od σ H') : WP K T c W Z σ H fun cn fs => X cn fs ρ :=
  fun Z' H' cn fs od s e x => h Z' H' ρ F cn fs od s.zz (I.p s) e x
theorem se_p (h : SP K T W te y) : SE K T W te (yP y) := fun c Z σ H ρ F Q X I hw q R k => h c Z σ H ρ F _ _ I (WP.of I hw) q R fun v Z' H' r G s hr q' => k v Z' H' ρ F r s.zz (I.p s) (hr.e I) q'
theorem sbe_p (h : SB K T W tt yb) : SBE K T W tt (tP yb) := fun c Z σ H ρ F Q X I hw q R k => h c Z σ H ρ F _ _ I (WP.of I hw) q R fun b Z' H' s q' => k b Z' H' ρ F s.zz (I.p s) q'
end
end Y

/-! YC: operators over data. -/
namespace Y
open PySem PySem.Spec PyProof.Rows L2

/-! ### data without objects, as the library reads them -/
mutual
def py : D → PyData
  | .non => .none
  | .bl b => .bool b
  | .int i => .int i
  | .str x => .str x
  | .tup ds => .tuple (pys ds)
  | .lst _ ds => .list (pys ds)
  | .obj _ _ _ _ => .none
  | .dct _ _ _ => .none
  | .src => .none
  | .scr _ => .none
  | .cel _ _ => .none
  | .glb _ => .none
def pys : List D → List PyData
  | [] => []
  | d :: ds => py d :: pys ds
end
mutual
theorem py_plain : ∀ d : D, (py d).plain = true
  | .non => rfl
  | .bl b => rfl
  | .int i => rfl
  | .str x => rfl
  | .tup ds => by rw [py, PyData.plain]; exact pys_plain ds
  | .lst _ ds => by rw [py, PyData.plain]; exact pys_plain ds
  | .obj _ _ _ _ => rfl
  | .dct _ _ _ => rfl
  | .src => rfl
  | .scr _ => rfl
  | .cel _ _ => rfl
  | .glb _ => rfl
theorem pys_plain : ∀ ds : List D, PyData.plainAll (pys ds) = true
  | [] => rfl
  | d :: ds => by rw [pys, PyData.plainAll, py_plain d, pys_plain ds]; rfl
end
mutual
theorem py_depth : ∀ d : D, (py d).depth ≤ deep d + 1
  | .non => by simp [py, PyData.depth]
  | .bl b => by simp [py, PyData.depth]
  | .int i => by simp [py, PyData.depth]
  | .str x => by simp [py, PyData.depth]
  | .tup ds => by
    have := pys_depth ds
    simp only [py, PyData.depth, deep]
    omega
  | .lst _ ds => by
    have := pys_depth ds
    simp only [py, PyData.depth, deep]
    omega
  | .obj _ _ _ _ => by simp [py, PyData.depth]
  | .dct _ _ _ => by simp [py, PyData.depth]
  | .src => by simp [py, PyData.depth]
  | .scr _ => by simp [py, PyData.depth]
  | .cel _ _ => by simp [py, PyData.depth]
  | .glb _ => by simp [py, PyData.depth]
theorem pys_depth : ∀ ds : List D, PyData.depthAll (pys ds) ≤ deeps ds + 1
  | [] => by simp [pys, PyData.depthAll]
  | d :: ds => by
    have := pys_depth ds
    have := py_depth d
    simp only [pys, PyData.depthAll, deeps]
    omega
end
mutual
theorem eqv_deq : ∀ a b : D, plain a = true → plain b = true → PyData.eqv (py a) (py b) = deq a b
  | .tup as, b, h, k => by
    cases b with
    | tup bs =>
      rw [plain] at h k
      rw [py, py, PyData.eqv, deq]
      exact eqvs_deq as bs h k
    | non => simp [py, PyData.eqv, deq]
    | bl _ => simp [py, PyData.eqv, deq]
    | int _ => simp [py, PyData.eqv, deq]
    | str _ => simp [py, PyData.eqv, deq]
    | lst _ _ => simp [py, PyData.eqv, deq]
    | obj _ _ _ _ => simp [plain] at k
    | dct _ _ _ => simp [plain] at k
    | src => simp [plain] at k
    | scr _ => simp [plain] at k
    | cel _ _ => simp [plain] at k
    | glb _ => simp [plain] at k
  | .lst m as, b, h, k => by
    cases b with
    | lst _ bs =>
      rw [plain] at h k
      rw [py, py, PyData.eqv, deq]
      exact eqvs_deq as bs h k
    | non => simp [py, PyData.eqv, deq]
    | bl _ => simp [py, PyData.eqv, deq]
    | int _ => simp [py, PyData.eqv, deq]
    | str _ => simp [py, PyData.eqv, deq]
    | tup _ => simp [py, PyData.eqv, deq]
    | obj _ _ _ _ => simp [plain] at k
    | dct _ _ _ => simp [plain] at k
    | src => simp [plain] at k
    | scr _ => simp [plain] at k
    | cel _ _ => simp [plain] at k
    | glb _ => simp [plain] at k
  | .non, b, h, k => by cases b <;> simp [py, PyData.eqv, deq] <;> simp [plain] at k
  | .bl x, b, h, k => by cases b <;> simp [py, PyData.eqv, deq, Bool.beq_eq_decide_eq] <;> simp [plain] at k
  | .int x, b, h, k => by cases b <;> simp [py, PyData.eqv, deq, Bool.beq_eq_decide_eq] <;> simp [plain] at k
  | .str x, b, h, k => by cases b <;> simp [py, PyData.eqv, deq, Bool.beq_eq_decide_eq] <;> simp [plain] at k
  | .obj _ _ _ _, b, h, k => by simp [plain] at h
  | .dct _ _ _, b, h, k => by simp [plain] at h
  | .src, b, h, k => by simp [plain] at h
  | .scr _, b, h, k => by simp [plain] at h
  | .cel _ _, b, h, k => by simp [plain] at h
  | .glb _, b, h, k => by simp [plain] at h
theorem eqvs_deq : ∀ a b : List D, plains a = true → plains b = true → PyData.eqvAll (pys a) (pys b) = deqs a b
  | [], [], _, _ => by rw [pys, PyData.eqvAll, deqs]
  | [], b :: bs, _, _ => by simp [pys, PyData.eqvAll, deqs]
  | a :: as, [], _, _ => by simp [pys, PyData.eqvAll, deqs]
  | a :: as, b :: bs, h, k => by
    rw [plains, Bool.and_eq_true] at h k
    rw [pys, pys, PyData.eqvAll, deqs, eqv_deq a b h.1 k.1, eqvs_deq as bs h.2 k.2]
end
section
variable {K : PySem.W.Frag} {T : Tb} {H : Hp}
mutual
theorem Nw.dp : ∀ (d : D) (v : V), Nw K T H v d → plain d = true → Dp K H v (py d)
  | .non, _, h, _ => by cases h; exact .non
  | .bl b, _, h, _ => by cases h; exact .bl b
  | .int i, _, h, _ => by cases h; exact .int i
  | .str x, _, h, _ => by cases h; exact .str x
  | .tup ds, _, h, p => by
    cases h with
    | tup h1 h2 =>
      rw [plain] at p
      rw [py]
      exact .tup (SqT.of h1) (NwAll.dp ds _ h2 p)
  | .lst _ ds, _, h, p => by
    cases h with
    | lst h1 h2 =>
      rw [plain] at p
      rw [py]
      exact .lst (SqL.of h1) (NwAll.dp ds _ h2 p)
  | .obj _ _ _ _, _, _, p => by rw [plain] at p; cases p
  | .dct _ _ _, _, _, p => by rw [plain] at p; cases p
  | .src, _, _, p => by rw [plain] at p; cases p
  | .scr _, _, _, p => by rw [plain] at p; cases p
  | .cel _ _, _, _, p => by rw [plain] at p; cases p
  | .glb _, _, _, p => by rw [plain] at p; cases p
theorem NwAll.dp : ∀ (ds : List D) (vs : List V), NwAll K T H vs ds → plains ds = true → DpAll K H vs (pys ds)
  | [], _, h, _ => by cases h; exact .nil
  | d :: ds, _, h, p => by
    cases h with
    | cons h1 h2 =>
      rw [plains, Bool.and_eq_true] at p
      exact .cons (Nw.dp d _ h1 p.1) (NwAll.dp ds _ h2 p.2)
end
end
/-! ### operators by values -/
def rP (f : PyData → PyData → Bool) (K : PySem.W.Frag) : R2 := fun x y H Q => ∃ d e, Dp K H x d ∧ Dp K H y e ∧ d.plain = true ∧ e.plain = true ∧ min d.depth e.depth ≤ 64 ∧ Q (.bl (f d e)) H
def rEqP : PySem.W.Frag → R2 := rP fun d e => PyData.eqv d e
def rNeP : PySem.W.Frag → R2 := rP fun d e => !PyData.eqv d e
def rOr (r r' : R2) : R2 := fun x y H Q => r x y H Q ∨ r' x y H Q
def rI0B (g : Int → Int → Bool) : R2 := rI0 fun i j => .bl (g i j)
section
variable {X : Cx}
theorem opP {op : CmpOp} {f : PyData → PyData → Bool} (hu : X.A.units + 64 < cLine)
    (rule : ∀ (s : Shared) (a b : Value) (d e : PyData) (as bs : List Addr) (Q : Value → Shared → Prop), Reads s.heap a d as → Reads s.heap b e bs → d.plain = true → e.plain = true → X.A.units + min d.depth e.depth < cLine → Q (.bool (f d e)) s →
      wpAny (model X.prog X.w) X.A (compareOp op a b) Q X.xe s) : OpR X (compareOp op) (rP f X.K) := by
  intro pins s σ H x y v u Q I rx ry h
  obtain ⟨d, e, hd, he, pd, pe, hm, q⟩ := h
  obtain ⟨as, r1⟩ := Dp.reads I d x v hd rx
  obtain ⟨bs, r2⟩ := Dp.reads I e y u he ry
  exact rule s v u d e as bs _ r1 r2 pd pe (by omega) ⟨.bl _, H, I, rfl, q⟩
theorem op_eqP (hu : X.A.units + 64 < cLine) : OpR X (compareOp .Eq) (rEqP X.K) := opP hu fun _ _ _ _ _ _ _ _ r1 r2 p1 p2 h q => SeqAt.eq_plain r1 r2 p1 p2 h q
theorem op_neP (hu : X.A.units + 64 < cLine) : OpR X (compareOp .NotEq) (rNeP X.K) := opP hu fun _ _ _ _ _ _ _ _ r1 r2 p1 p2 h q => SeqAt.ne_plain r1 r2 p1 p2 h q
theorem OpR.or {f : Value → Value → Sem Value} {r r' : R2} (h : OpR X f r) (h' : OpR X f r') : OpR X f (rOr r r') :=
  fun pins s σ H x y v u Q I rx ry q => q.elim (h pins s σ H x y v u Q I rx ry) (h' pins s σ H x y v u Q I rx ry)
def rLtI : R2 := rI0B fun i j => decide (i < j)
def rLeI : R2 := rI0B fun i j => decide (i ≤ j)
def rGtI : R2 := rI0B fun i j => decide (j < i)
def rGeI : R2 := rI0B fun i j => decide (j ≤ i)
theorem op_ltI : OpR X (compareOp .Lt) rLtI := op_lt
theorem op_leI : OpR X (compareOp .LtE) rLeI := op_le
theorem op_gtI : OpR X (compareOp .Gt) rGtI := op_gt
theorem op_geI : OpR X (compareOp .GtE) rGeI := op_ge
def rInP (neg : Bool) (K : PySem.W.Frag) : R2 := fun x y H Q => ∃ d es, Dp K H x d ∧ (Dp K H y (.list es) ∨ Dp K H y (.tuple es)) ∧ d.plain = true ∧ PyData.plainAll es = true ∧ d.depth ≤ 63 ∧
  Q (.bl (if neg then !(es.any fun y => PyData.eqv y d) else es.any fun y => PyData.eqv y d)) H
theorem op_inP (hu : X.A.units + 64 < cLine) : OpR X (compareOp .In) (rInP false X.K) := by
  intro pins s σ H x y v u Q I rx ry h
  obtain ⟨d, es, hd, he, pd, pe, hm, q⟩ := h
  obtain ⟨as, r1⟩ := Dp.reads I d x v hd rx
  rcases he with he | he
  · obtain ⟨bs, r2⟩ := Dp.reads I _ y u he ry
    exact SeqAt.in_list_data r2 r1 pe pd (by omega) ⟨.bl _, H, I, rfl, q⟩
  · obtain ⟨bs, r2⟩ := Dp.reads I _ y u he ry
    exact SeqAt.in_tuple_data r2 r1 pe pd (by omega) ⟨.bl _, H, I, rfl, q⟩
theorem op_niP (hu : X.A.units + 64 < cLine) : OpR X (compareOp .NotIn) (rInP true X.K) := by
  intro pins s σ H x y v u Q I rx ry h
  obtain ⟨d, es, hd, he, pd, pe, hm, q⟩ := h
  obtain ⟨as, r1⟩ := Dp.reads I d x v hd rx
  rcases he with he | he
  · obtain ⟨bs, r2⟩ := Dp.reads I _ y u he ry
    exact SeqAt.notIn_list_data r2 r1 pe pd (by omega) ⟨.bl _, H, I, rfl, q⟩
  · obtain ⟨bs, r2⟩ := Dp.reads I _ y u he ry
    exact SeqAt.notIn_tuple_data r2 r1 pe pd (by omega) ⟨.bl _, H, I, rfl, q⟩
def rCatR : R2 := fun x y H Q => ∃ l b xs zs, x = .ref l ∧ y = .ref b ∧ Rd H l (.lst xs) ∧ Rd H b (.lst zs) ∧ xs.length + zs.length ≤ sizeLine ∧ ∀ p, H p = none → Q (.ref p) (upd H p (.lst (xs ++ zs)))
theorem op_catR : OpR X (binaryOp .Add) rCatR := by
  intro pins s σ H x y v u Q I rx ry h
  obtain ⟨l, b, xs, zs, rfl, rfl, hH, hB, hz, q⟩ := h
  cases rx
  cases ry
  obtain ⟨z, its, n, r, e⟩ := hH.ok I.hok
  obtain ⟨z2, its2, n2, r2, e2⟩ := hB.ok I.hok
  have hl := r.length
  have hl2 := r2.length
  refine PySem.P.add_list e e2 ?_ (by rw [List.size_toArray, List.size_toArray]; omega)
  have ea : its.toArray ++ its2.toArray = (its ++ its2).toArray := by simp
  rw [ea]
  exact ⟨.ref _, _, I.lnew (t' := s.toks) (r.append r2) (by rw [List.length_append]; omega), rfl, q _ I.fresh⟩
def rAddS0 : R2 := fun x y H Q => ∃ i j, x = .str i ∧ y = .str j ∧ i.length + j.length ≤ sizeLine ∧ Q (.str (i ++ j)) H
def rAddI : R2 := rI0 fun i j => .int (i + j)
def rAddZ (K : PySem.W.Frag) : R2 := rOr rAddI (rOr (rCatA K) (rOr rAddS0 rCatR))
theorem op_addZ : OpR X (binaryOp .Add) (rAddZ X.K) := OpR.or op_add (OpR.or op_catA (OpR.or op_add_str op_catR))
def rSubZ : R2 := rI0 fun i j => .int (i - j)
theorem op_subZ : OpR X (binaryOp .Sub) rSubZ := op_sub
def rMulI : R2 := rI CMul fun i j => .int (i * j)
def rMulW : R2 := rI CMulW fun i j => .int (i * j)
def rMulZ : R2 := rOr rMulI (rOr rMulW rRep)
theorem op_mulZ : OpR X (binaryOp .Mult) rMulZ := OpR.or op_mul (OpR.or op_mulW op_rep)
def rDivZ : R2 := rI CDivW fun i j => .int (i / j)
theorem op_divZ : OpR X (binaryOp .FloorDiv) rDivZ := op_fdivW
def rModZ : R2 := rI (fun _ j => 0 < j) fun i j => .int (i % j)
theorem op_modZ : OpR X (binaryOp .Mod) rModZ := op_mod
def rPowZ : R2 := rI CPow fun i j => .int (i ^ j.toNat)
theorem op_powZ : OpR X (binaryOp .Pow) rPowZ := op_pow
end

/-! ### on data -/
theorem sz_of {n : Nat} (h : n ≤ 100000) : n ≤ sizeLine := Nat.le_trans h (by decide)
theorem sz_lt {n : Nat} (h : n < 100000) : n < sizeLine := Nat.lt_of_lt_of_le h (by decide)
section
variable (K : PySem.W.Frag) (T : Tb)
/-- r gives, on data, what f tells -/
def OpS (r : R2) (f : F2) : Prop := ∀ (Z B H : Hp) (x y : V) (a b : D) (Fa Fb : List Addr) (P : D → Prop) (R : VK), Same Z H → Same B H → Ow K T Z B H x a Fa → Ow K T Z B H y b Fb → f a b P →
  (∀ v Z' H' d, PStep Z H Z' H' → Ow K T Z' B H' v d [] → P d → R v H') → r x y H R
end
section
variable {K : PySem.W.Frag} {T : Tb} {W : WX} {Z B H : Hp} {a b : D} {Fa : List Addr} {v : V} {ta tb tc : TE} {ya yb yc : YP} {f g : F2} {r r' : R2}
theorem Ow.int_iff {i : Int} (h : Ow K T Z B H v (.int i) Fa) : v = .int i := by cases h; rfl
theorem Ow.bl_iff {i : Bool} (h : Ow K T Z B H v (.bl i) Fa) : v = .bl i := by cases h; rfl
theorem Ow.str_iff {i : Str} (h : Ow K T Z B H v (.str i) Fa) : v = .str i := by cases h; rfl
theorem sp_2 (hr : OpS K T r f) (ha : SP K T W ta ya) (hb : SP K T W tb yb) : SP K T W (tOp r ta tb) (y2 f ya yb) := fun c Z σ H ρ F Q X I hw q R k =>
  ha c Z σ H ρ F _ X I hw q _ fun v1 Z1 H1 r1 G1 s1 h1 q1 => hb c Z1 σ H1 ρ F _ X (I.p s1) (hw.p s1) q1 _ fun v2 Z2 H2 r2 G2 s2 h2 q2 => by
    obtain ⟨_, o1⟩ := (h1.p s2 (I.p s1).there).ow
    obtain ⟨_, o2⟩ := h2.ow
    exact hr Z2 c.B H2 v1 v2 _ _ _ _ _ R s2.zh ((I.p s1).p s2).bh o1 o2 q2 fun v Z3 H3 d s3 o3 p => k v Z3 H3 (.val d) [] (s1.trans (s2.trans s3)) ⟨rfl, o3⟩ p
/-- a < b < c -/
theorem sp_ch (hr : OpS K T r f) (hr' : OpS K T r' g) (ha : SP K T W ta ya) (hb : SP K T W tb yb) (hc : SP K T W tc yc) : SP K T W (tChain r r' ta tb tc) (yChain f g ya yb yc) := fun c Z σ H ρ F Q X I hw q R k =>
  ha c Z σ H ρ F _ X I hw q _ fun v1 Z1 H1 r1 G1 s1 h1 q1 => hb c Z1 σ H1 ρ F _ X (I.p s1) (hw.p s1) q1 _ fun v2 Z2 H2 r2 G2 s2 h2 q2 => by
    have I2 := (I.p s1).p s2
    obtain ⟨_, o1⟩ := (h1.p s2 (I.p s1).there).ow
    obtain ⟨_, o2⟩ := h2.ow
    refine hr Z2 c.B H2 v1 v2 _ _ _ _ _ _ s2.zh I2.bh o1 o2 q2 fun v Z3 H3 d s3 o3 p => ?_
    cases d with
    | bl b =>
      cases o3
      refine ⟨b, rfl, ?_⟩
      cases b with
      | true =>
        show tc σ H3 _
        have p : yc ρ _ X := p.t rfl
        refine hc c Z3 σ H3 ρ F _ X (I2.p s3) (((hw.p s1).p s2).p s3) p _ fun v4 Z4 H4 r4 G4 s4 h4 q4 => ?_
        obtain ⟨_, o2'⟩ := ((h2.p s3 I2.there).p s4 (I2.p s3).there).ow
        obtain ⟨_, o4⟩ := h4.ow
        exact hr' Z4 c.B H4 v2 v4 _ _ _ _ _ R s4.zh ((I2.p s3).p s4).bh o2' o4 q4 fun v Z5 H5 d s5 o5 p5 => k v Z5 H5 (.val d) [] (s1.trans (s2.trans (s3.trans (s4.trans s5)))) ⟨rfl, o5⟩ p5
      | false => exact k _ Z3 H3 (.val (.bl false)) [] (s1.trans (s2.trans s3)) ⟨rfl, .bl false⟩ (p.f rfl)
    | _ => exact p.elim
end
section
variable {K : PySem.W.Frag} {T : Tb}
theorem ops_sub : OpS K T rSubZ fSub := fun Z B H x y a b Fa Fb P R z bb ha hb h k => by
  unfold fSub at h
  split at h
  · exact ⟨_, _, ha.int_iff, hb.int_iff, k _ Z H _ (.refl z) (.int _) h⟩
  · exact h.elim
theorem log_lt {x n : Nat} (h : x < 2 ^ n) (hn : 0 < n) : x.log2 < n := by
  by_cases e : x = 0
  · subst e
    rw [Nat.log2_zero]
    exact hn
  · exact (Nat.log2_lt e).mpr h
theorem mul_ok {i j : Int} (h : mulOk i j) : CMul i j ∨ CMulW i j := by
  rcases h with h | h | ⟨h1, h2⟩
  · exact .inl (.inl ⟨by omega, by omega⟩)
  · exact .inl (.inr ⟨by omega, by omega⟩)
  · refine .inr ?_
    have := log_lt h1 (by decide)
    have := log_lt h2 (by decide)
    show _ + _ < _
    omega
theorem ops_mul : OpS K T rMulZ fMul := fun Z B H x y a b Fa Fb P R z bb ha hb h k => by
  unfold fMul at h
  split at h
  · rcases mul_ok h.1 with c | c
    · exact .inl ⟨_, _, ha.int_iff, hb.int_iff, c, k _ Z H _ (.refl z) (.int _) h.2⟩
    · exact .inr (.inl ⟨_, _, ha.int_iff, hb.int_iff, c, k _ Z H _ (.refl z) (.int _) h.2⟩)
  · exact h.elim
theorem ops_div : OpS K T rDivZ fDiv := fun Z B H x y a b Fa Fb P R z bb ha hb h k => by
  unfold fDiv at h
  split at h
  · rename_i i j
    have c : CDivW i j := ⟨h.1.1, by
      have : j.natAbs < 2 ^ 4000 := by
        have := h.1.2
        omega
      have := log_lt this (by decide)
      omega⟩
    exact ⟨_, _, ha.int_iff, hb.int_iff, c, k _ Z H _ (.refl z) (.int _) h.2⟩
  · exact h.elim
theorem ops_mod : OpS K T rModZ fMod := fun Z B H x y a b Fa Fb P R z bb ha hb h k => by
  unfold fMod at h
  split at h
  · exact ⟨_, _, ha.int_iff, hb.int_iff, h.1, k _ Z H _ (.refl z) (.int _) h.2⟩
  · exact h.elim
theorem ops_pow : OpS K T rPowZ fPow := fun Z B H x y a b Fa Fb P R z bb ha hb h k => by
  unfold fPow at h
  split at h
  · exact ⟨_, _, ha.int_iff, hb.int_iff, ⟨h.1.1, by have := h.1.2.1; omega, by have := h.1.2.2; omega⟩, k _ Z H _ (.refl z) (.int _) h.2⟩
  · exact h.elim
theorem ops_cmpI {p : Int → Int → Bool} : OpS K T (rI0B p) (fLt p) := fun Z B H x y a b Fa Fb P R z bb ha hb h k => by
  unfold fLt at h
  split at h
  · exact ⟨_, _, ha.int_iff, hb.int_iff, k _ Z H _ (.refl z) (.bl _) h⟩
  · exact h.elim
theorem ops_lt : OpS K T rLtI (fLt fun i j => decide (i < j)) := ops_cmpI
theorem ops_le : OpS K T rLeI (fLt fun i j => decide (i ≤ j)) := ops_cmpI
theorem ops_gt : OpS K T rGtI (fLt fun i j => decide (j < i)) := ops_cmpI
theorem ops_ge : OpS K T rGeI (fLt fun i j => decide (j ≤ i)) := ops_cmpI
theorem fEq_py {neg : Bool} {a b : D} {Q : D → Prop} (h : fEq neg a b Q) : plain a = true ∧ plain b = true ∧ deep a ≤ 60 ∧ Q (.bl (neg ^^ deq a b)) := by
  unfold fEq at h
  split at h
  · exact ⟨rfl, rfl, (by simp [deep]), by rw [deq]; exact h⟩
  · exact ⟨rfl, rfl, (by simp [deep]), by rw [deq]; exact h⟩
  · exact ⟨rfl, rfl, (by simp [deep]), by rw [deq]; exact h⟩
  · exact ⟨h.1.1, h.1.2.1, h.1.2.2, h.2⟩
theorem dpt (d : D) (h : deep d ≤ 60) (e : PyData) : min (py d).depth e.depth ≤ 64 := by
  have := py_depth d
  omega
theorem ops_eq : OpS K T (rEqP K) (fEq false) := fun Z B H x y a b Fa Fb P R z bb ha hb h k => by
  obtain ⟨h1, h2, h3, q⟩ := fEq_py h
  refine ⟨_, _, Nw.dp _ _ (Ow.now z bb _ _ _ ha) h1, Nw.dp _ _ (Ow.now z bb _ _ _ hb) h2, py_plain _, py_plain _, dpt _ h3 _, ?_⟩
  show R (V.bl (PyData.eqv (py a) (py b))) H
  rw [eqv_deq a b h1 h2]
  exact k _ Z H (.bl (deq a b)) (.refl z) (.bl _) (by simpa using q)
theorem ops_ne : OpS K T (rNeP K) (fEq true) := fun Z B H x y a b Fa Fb P R z bb ha hb h k => by
  obtain ⟨h1, h2, h3, q⟩ := fEq_py h
  refine ⟨_, _, Nw.dp _ _ (Ow.now z bb _ _ _ ha) h1, Nw.dp _ _ (Ow.now z bb _ _ _ hb) h2, py_plain _, py_plain _, dpt _ h3 _, ?_⟩
  show R (V.bl (!PyData.eqv (py a) (py b))) H
  rw [eqv_deq a b h1 h2]
  exact k _ Z H (.bl (!deq a b)) (.refl z) (.bl _) (by simpa using q)
theorem any_deq (a : D) (ha : plain a = true) : ∀ ds : List D, plains ds = true → ((pys ds).any fun y => PyData.eqv y (py a)) = anyEq a ds
  | [], _ => rfl
  | d :: ds, h => by
    rw [plains, Bool.and_eq_true] at h
    rw [pys, List.any_cons, any_deq a ha ds h.2, eqv_deq d a h.1 ha, anyEq]
theorem in_core {Z B H : Hp} {neg : Bool} {x y : V} {a : D} {ds : List D} {Fa : List Addr} {P : D → Prop} {R : VK} (z : Same Z H) (bb : Same B H) (ha : Ow K T Z B H x a Fa) (hd : Dp K H y (.list (pys ds)) ∨ Dp K H y (.tuple (pys ds)))
    (h : (plains ds = true ∧ plain a = true ∧ deep a ≤ 60) ∧ P (.bl (neg ^^ anyEq a ds))) (k : ∀ v Z' H' d, PStep Z H Z' H' → Ow K T Z' B H' v d [] → P d → R v H') : rInP neg K x y H R := by
  obtain ⟨⟨h1, h2, h3⟩, q⟩ := h
  refine ⟨py a, pys ds, Nw.dp _ _ (Ow.now z bb _ _ _ ha) h2, hd, py_plain _, pys_plain _, by have := py_depth a; omega, ?_⟩
  rw [any_deq a h2 ds h1]
  cases neg with
  | true => exact k _ Z H (.bl (!anyEq a ds)) (.refl z) (.bl _) (by simpa using q)
  | false => exact k _ Z H (.bl (anyEq a ds)) (.refl z) (.bl _) (by simpa using q)
theorem ops_in {neg : Bool} : OpS K T (rInP neg K) (fInS neg) := fun Z B H x y a b Fa Fb P R z bb ha hb h k => by
  unfold fInS at h
  split at h
  · have hd := Nw.dp _ _ (Ow.now z bb _ _ _ hb) (by rw [plain]; exact h.1.1)
    rw [py] at hd
    exact in_core z bb ha (.inl hd) h k
  · have hd := Nw.dp _ _ (Ow.now z bb _ _ _ hb) (by rw [plain]; exact h.1.1)
    rw [py] at hd
    exact in_core z bb ha (.inr hd) h k
  · exact h.elim
theorem ow_tup {Z B H : Hp} {x : V} {ds : List D} {F : List Addr} (h : Ow K T Z B H x (.tup ds) F) : ∃ p xs, x = .ref p ∧ F = [] ∧ Z p = some (.tup xs) ∧ OwAll K T Z B H xs ds [] := by
  cases h with
  | tup h1 h2 => exact ⟨_, _, rfl, rfl, h1, h2⟩
theorem ops_add : OpS K T (rAddZ K) fAdd := fun Z B H x y a b Fa Fb P R z bb ha hb h k => by
  unfold fAdd at h
  split at h
  · exact .inl ⟨_, _, ha.int_iff, hb.int_iff, k _ Z H _ (.refl z) (.int _) h⟩
  · obtain ⟨hz, q⟩ := h
    obtain ⟨p, xs, rfl, rfl, h1, h2⟩ := ow_tup ha
    obtain ⟨p', ys, rfl, rfl, h3, h4⟩ := ow_tup hb
    have l1 := h2.length
    have l2 := h4.length
    refine .inr (.inl ⟨p, p', xs, ys, rfl, rfl, SqT.of (z _ _ h1), SqT.of (z _ _ h3), by rw [l1, l2]; exact sz_of hz, fun e => ?_, fun _ e => ?_, fun _ _ w hw => ?_⟩)
    · subst e
      cases h2
      exact k _ Z H _ (.refl z) hb q
    · subst e
      cases h4
      rw [List.append_nil] at q
      exact k _ Z H _ (.refl z) ha q
    · have st := PStep.newZ (o := .tup (xs ++ ys)) z hw
      exact k _ _ _ (.tup _) st (.tup upd_same ((AtAll.append h2 h4).still st.zz (Same.refl _))) q
  · obtain ⟨hz, q⟩ := h
    exact .inr (.inr (.inl ⟨_, _, ha.str_iff, hb.str_iff, sz_of hz, k _ Z H _ (.refl z) (.str _) q⟩))
  · exact h.elim
end
end Y

/-! YD: names, places, slices, built-in calls, tests, displays. -/
namespace Y
open PySem PySem.Spec PyProof.Rows L2

section
variable {K : PySem.W.Frag} {T : Tb} {W : WX} {Z B H : Hp} {a b : D} {Fa : List Addr} {v : V} {ta tb tc te : TE} {ya yb yc : YP} {f g : F2} {r r' : R2} {tt uu : TT} {yt yu : YB} {tr : TA} {yr : YA}
theorem sp_int {i : Int} : SP K T W (tC (.int i)) (yC (.int i)) := fun c Z σ H ρ F Q X I hw q R k => k _ Z H (.val (.int i)) [] (.refl I.zh) ⟨rfl, .int i⟩ q
theorem sp_bl {i : Bool} : SP K T W (tC (.bl i)) (yC (.bl i)) := fun c Z σ H ρ F Q X I hw q R k => k _ Z H (.val (.bl i)) [] (.refl I.zh) ⟨rfl, .bl i⟩ q
theorem sp_str {i : Str} : SP K T W (tC (.str i)) (yC (.str i)) := fun c Z σ H ρ F Q X I hw q R k => k _ Z H (.val (.str i)) [] (.refl I.zh) ⟨rfl, .str i⟩ q
theorem sp_non : SP K T W (tC .non) (yC .non) := fun c Z σ H ρ F Q X I hw q R k => k _ Z H (.val .non) [] (.refl I.zh) ⟨rfl, .non⟩ q
theorem sp_v {i : Nat} : SP K T W (tVar i) (yV i) := fun c Z σ H ρ F Q X I hw q R k => by
  unfold yV at q
  split at q
  · rename_i d e
    obtain ⟨o, F1, Fi, F2, e1, e2, e3, _⟩ := I.sl.get e
    obtain ⟨h1, w, rfl, h2⟩ := e3
    exact ⟨w, e1, k w Z H (.val d) [] (.refl I.zh) ⟨rfl, h2⟩ q⟩
  · rename_i r0 d e
    obtain ⟨o, F1, Fi, F2, e1, e2, e3, _⟩ := I.sl.get e
    obtain ⟨w, rfl, _, h2⟩ := e3
    exact ⟨w, e1, k w Z H (.rd d) [] (.refl I.zh) ⟨rfl, Fi, h2, fun a ha => by rw [e2]; exact List.mem_append_right _ (List.mem_append_left _ ha)⟩ q⟩
  · exact q.elim
/-! parts -/
theorem Ow.sub_nil {c : Cz} {G : List Addr} {d : D} (h : Ow K T Z B H v d G) (e : G = []) : Ow K T Z B H v d [] := by rw [← e]; exact h
theorem part_ok {c : Cz} {Hs Z H : Hp} {F G : List Addr} {x : RV} {w : V} {d : D} {Q : RV → Prop} {R : VK} {Z0 : Hp} (hx : RvG K T c Hs Z H F v x G) (st : PStep Z0 Hs Z H)
    (ho : ∀ G', Ow K T Z c.B H v x.d G' → ∃ G2, Ow K T Z c.B H w d G2 ∧ ∀ a ∈ G2, a ∈ G') (q : part x d Q) (k : ∀ v Z' H' r G, PStep Z0 Hs Z' H' → RvG K T c Hs Z' H' F v r G → Q r → R v H') : R w H := by
  cases x with
  | val e =>
    obtain ⟨G2, h1, h2⟩ := ho _ hx.2
    have : G2 = [] := List.eq_nil_iff_forall_not_mem.mpr fun a ha => by cases h2 a ha
    subst this
    exact k w Z H (.val d) [] st ⟨rfl, h1⟩ q
  | tmp e =>
    obtain ⟨G2, h1, h2⟩ := ho _ hx.1
    have := Ow.nown _ _ _ h1 q.1
    subst this
    exact k w Z H (.val d) [] st ⟨rfl, h1⟩ q.2
  | rd e =>
    obtain ⟨_, G', h1, h2⟩ := hx
    obtain ⟨G2, h3, h4⟩ := ho _ h1
    have q : Br (nown d) (Q (.val d)) (Q (.rd d)) := q
    cases hn : nown d with
    | true =>
      have := Ow.nown _ _ _ h3 hn
      subst this
      exact k w Z H (.val d) [] st ⟨rfl, h3⟩ (q.t hn)
    | false => exact k w Z H (.rd d) [] st ⟨rfl, G2, h3, fun a ha => h2 a (h4 a ha)⟩ (q.f hn)
theorem ow_lst {m : Fl} {ds : List D} {F : List Addr} (h : Ow K T Z B H v (.lst m ds) F) : ∃ p xs F', v = .ref p ∧ cell Z B H m p = some (.lst xs) ∧ OwAll K T Z B H xs ds F' ∧ foot m p F' F := by
  cases h with
  | lst h1 h2 h3 => exact ⟨_, _, _, rfl, h1, h2, h3⟩
theorem ow_dct {m : Fl} {ks : List Ky} {ds : List D} {F : List Addr} (h : Ow K T Z B H v (.dct m ks ds) F) : ∃ p kvs F', v = .ref p ∧ cell Z B H m p = some (.dK kvs) ∧ kvs.map (·.1) = ks ∧ OwAll K T Z B H (kvs.map (·.2)) ds F' ∧ foot m p F' F := by
  cases h with
  | dct h1 h0 h2 h3 => exact ⟨_, _, _, rfl, h1, h0, h2, h3⟩
theorem ow_obj {m : Fl} {cn : String} {ns : List String} {ds : List D} {F : List Addr} (h : Ow K T Z B H v (.obj m cn ns ds) F) :
    ∃ p dx fs F', v = .ref p ∧ cell Z B H m p = some (.ins (T cn) dx fs) ∧ fs.map (·.1) = nmS ns ∧ OwAll K T Z B H (fs.map (·.2)) ds F' ∧ foot m p F' F ∧ Gd K T cn ns := by
  cases h with
  | obj h1 h0 h2 h3 g => exact ⟨_, _, _, _, rfl, h1, h0, h2, h3, g⟩
theorem atI_rel {vs : List V} {ds : List D} {i : Int} {d : D} {F : List Addr} (a : OwAll K T Z B H vs ds F) (h : atD ds i = some d) : ∃ v G, atI vs i = some v ∧ Ow K T Z B H v d G ∧ ∀ a ∈ G, a ∈ F := by
  have h' : atI ds i = some d := h
  unfold atI at h' ⊢
  rw [a.length]
  cases e : ixN ds.length i with
  | none => rw [e] at h'; cases h'
  | some j =>
    rw [e] at h'
    obtain ⟨v, G, h1, h2, h3, _⟩ := a.get h'
    exact ⟨v, G, h1, h2, h3⟩
theorem sp_ix (ha : SP K T W ta ya) (hb : SP K T W tb yb) : SP K T W (tOp (rIx K) ta tb) (yIxS ya yb) := fun c Z σ H ρ F Q X I hw q R k =>
  ha c Z σ H ρ F _ X I hw q _ fun v1 Z1 H1 r1 G1 s1 h1 q1 => hb c Z1 σ H1 ρ F _ X (I.p s1) (hw.p s1) q1 _ fun v2 Z2 H2 r2 G2 s2 h2 q2 => by
    have h1' := h1.p s2 (I.p s1).there
    have I2 := (I.p s1).p s2
    obtain ⟨_, o2⟩ := h2.ow
    unfold ixS at q2
    split at q2
    · rename_i m ds i e1 e2
      rw [e2] at o2
      have := o2.int_iff
      subst this
      obtain ⟨G', o1⟩ := h1'.ow
      rw [e1] at o1
      obtain ⟨p, xs, F', rfl, c1, o3, f1⟩ := ow_lst o1
      obtain ⟨d, ed, q2⟩ := q2
      · obtain ⟨w, G3, e3, o4, sb⟩ := atI_rel o3 ed
        refine .inl ⟨p, xs, i, w, rfl, rfl, SqL.of (cell_now I2.zh I2.bh c1), e3, ?_⟩
        refine part_ok h1' (s1.trans s2) (fun G' o => ?_) q2 k
        rw [e1] at o
        obtain ⟨p', xs', F'', ep, c1', o3', f1'⟩ := ow_lst o
        cases ep
        rw [c1] at c1'
        cases c1'
        obtain ⟨w', G4, e4, o5, sb'⟩ := atI_rel o3' ed
        rw [e3] at e4
        cases e4
        exact ⟨G4, o5, fun a ha => foot_sub f1' a (sb' a ha)⟩
    · rename_i ds i e1 e2
      rw [e2] at o2
      have := o2.int_iff
      subst this
      obtain ⟨G', o1⟩ := h1'.ow
      rw [e1] at o1
      obtain ⟨p, xs, rfl, rfl, c1, o3⟩ := ow_tup o1
      obtain ⟨d, ed, q2⟩ := q2
      · obtain ⟨w, G3, e3, o4, sb⟩ := atI_rel o3 ed
        refine .inr (.inl ⟨p, xs, i, w, rfl, rfl, SqT.of (I2.zh _ _ c1), e3, ?_⟩)
        refine part_ok h1' (s1.trans s2) (fun G' o => ?_) q2 k
        exact ⟨G3, o4, fun a ha => by cases sb a ha⟩
    · exact q2.elim
/-! attributes -/
theorem fld_ix : ∀ {ns : List String} {ds : List D} {f : String} {d : D}, fld ns ds f = some d → ∃ i, ns[i]? = some f ∧ ds[i]? = some d ∧ ∀ j : Nat, j < i → ns[j]? ≠ some f
  | [], _, _, _, h => by unfold fld at h; cases h
  | _ :: _, [], _, _, h => by unfold fld at h; cases h
  | n :: ns, d' :: ds, f, d, h => by
    unfold fld at h
    by_cases e : n = f
    · rw [if_pos e] at h
      cases h
      exact ⟨0, by simp [e], rfl, fun j hj => by omega⟩
    · rw [if_neg e] at h
      obtain ⟨i, h1, h2, h3⟩ := fld_ix h
      refine ⟨i + 1, by simpa using h1, by simpa using h2, fun j hj => ?_⟩
      cases j with
      | zero => simpa using e
      | succ j => simpa using h3 j (by omega)
theorem lookup_fld : ∀ {fs : List (Str × V)} {ns : List String} {f : String} {i : Nat} {v : V}, fs.map (·.1) = nmS ns → ns[i]? = some f → (∀ j : Nat, j < i → ns[j]? ≠ some f) → (fs.map (·.2))[i]? = some v → fs.lookup (Str.ofString f) = some v
  | [], ns, f, i, v, h, h1, _, h3 => by simp at h3
  | (g, w) :: fs, [], f, i, v, h, h1, _, h3 => by cases h
  | (g, w) :: fs, n :: ns, f, 0, v, h, h1, h2, h3 => by
    have e0 : g = Str.ofString n := (List.cons.inj h).1
    have e1 : n = f := by simpa using h1
    have e2 : w = v := by simpa using h3
    subst e1 e2 e0
    rw [List.lookup_cons, show (Str.ofString n == Str.ofString n) = true from beq_self_eq_true _]
  | (g, w) :: fs, n :: ns, f, i + 1, v, h, h1, h2, h3 => by
    have e0 : g = Str.ofString n := (List.cons.inj h).1
    have hne : n ≠ f := fun e => h2 0 (by omega) (by simp [e])
    have : (Str.ofString f == g) = false := beq_eq_false_iff_ne.mpr fun e => hne (ofString_inj (e0 ▸ e)).symm
    rw [List.lookup_cons, this]
    exact lookup_fld (List.cons.inj h).2 (by simpa using h1) (fun j hj => by have := h2 (j + 1) (by omega); simpa using this) (by simpa using h3)
theorem sp_fl {fn : String} {f : Str} (hf : f = Str.ofString fn) (ha : SP K T W ta ya) : SP K T W (tFld K ta f) (yFl ya fn) := fun c Z σ H ρ F Q X I hw q R k =>
  ha c Z σ H ρ F _ X I hw q _ fun v1 Z1 H1 r1 G1 s1 h1 q1 => by
    subst hf
    have I1 := I.p s1
    unfold fldR at q1
    split at q1
    · rename_i m cn ns ds e1
      split at q1
      · rename_i d ed
        obtain ⟨i, e2, e3, e4⟩ := fld_ix ed
        obtain ⟨G', o1⟩ := h1.ow
        rw [e1] at o1
        obtain ⟨p, dx, fs, F', rfl, c1, c2, o2, f1, g⟩ := ow_obj o1
        obtain ⟨w, G2, e5, o3, sb, _⟩ := o2.get e3
        refine ⟨p, T cn, dx, fs, w, rfl, cell_now I1.zh I1.bh c1, g.cl, g.na _ (List.mem_of_getElem? e2), lookup_fld c2 e2 e4 e5, ?_⟩
        refine part_ok h1 s1 (fun G' o => ?_) q1 k
        rw [e1] at o
        obtain ⟨p', dx', fs', F'', ep, c1', c2', o2', f1', _⟩ := ow_obj o
        cases ep
        rw [c1] at c1'
        cases c1'
        obtain ⟨w', G4, e6, o5, sb', _⟩ := o2'.get e3
        rw [e5] at e6
        cases e6
        exact ⟨G4, o5, fun a ha => foot_sub f1' a (sb' a ha)⟩
      · exact q1.elim
    · exact q1.elim
/-! one operand, no new thing -/
theorem sp_1 {f : F1} {t : TE} (ht : ∀ c Z σ H ρ F (I : EnvOk K T c Z H σ ρ F) X (_ : WP K T c W Z σ H X) (Q : D → Prop), ya ρ (fun r => f r.d Q) X → ∀ R : VK, (∀ v Z' H' d, PStep Z H Z' H' → Ow K T Z' c.B H' v d [] → Q d → R v H') → t σ H R) : SP K T W t (y1 f ya) :=
  fun c Z σ H ρ F Q X I hw q R k => ht c Z σ H ρ F I X hw _ q R fun v Z' H' d s o p => k v Z' H' (.val d) [] s ⟨rfl, o⟩ p
theorem sp_cb {f : F1} {rr : List V → Hp → VK → Prop} (hr : ∀ Z B H v d G (Q : D → Prop) (R : VK), Same Z H → Same B H → Ow K T Z B H v d G → f d Q → (∀ v Z' H' d, PStep Z H Z' H' → Ow K T Z' B H' v d [] → Q d → R v H') → rr [v] H R) (ha : SP K T W ta ya) : SP K T W (tCB rr (tCons ta tNil)) (y1 f ya) :=
  sp_1 fun c Z σ H ρ F I X hw Q q R k => ha c Z σ H ρ F _ X I hw q _ fun v1 Z1 H1 r1 G1 s1 h1 q1 => by
    obtain ⟨G', o1⟩ := h1.ow
    exact hr Z1 c.B H1 v1 _ G' Q R s1.zh (I.p s1).bh o1 q1 fun v Z' H' d s2 o p => k v Z' H' d (s1.trans s2) o p
def rLenZ (K : PySem.W.Frag) : List V → Hp → VK → Prop := fun xs H Q => ∃ p ys, xs = [.ref p] ∧ (SqL K H p ys ∨ SqT K H p ys) ∧ Q (.int ys.length) H
theorem call_lenZ {X : Cx} : CallR X (.builtin "len") (rLenZ X.K) := call_len_seq
theorem sp_len (ha : SP K T W ta ya) : SP K T W (tCB (rLenZ K) (tCons ta tNil)) (y1 fLenS ya) := sp_cb (fun Z B H v d G Q R z b o q k => by
  unfold fLenS at q
  split at q
  · obtain ⟨p, xs, F', rfl, c1, o3, f1⟩ := ow_lst o
    exact ⟨p, xs, rfl, .inl (SqL.of (cell_now z b c1)), by rw [o3.length]; exact k _ Z H _ (.refl z) (.int _) q⟩
  · obtain ⟨p, xs, rfl, rfl, c1, o3⟩ := ow_tup o
    exact ⟨p, xs, rfl, .inr (SqT.of (z _ _ c1)), by rw [o3.length]; exact k _ Z H _ (.refl z) (.int _) q⟩
  · exact q.elim) ha
def rIntZ : List V → Hp → VK → Prop := fun xs H Q => (∃ i, xs = [.int i] ∧ Q (.int i) H) ∨ ∃ k, xs = [.bl k] ∧ Q (.int (if k then 1 else 0)) H
theorem call_intZ {X : Cx} : CallR X (.type "int") rIntZ := call_int1
def rBoolZ : List V → Hp → VK → Prop := fun xs H Q => (∃ i, xs = [.int i] ∧ Q (.bl (i != 0)) H) ∨ ∃ k, xs = [.bl k] ∧ Q (.bl k) H
theorem call_boolZ {X : Cx} : CallR X (.type "bool") rBoolZ := call_bool1
theorem sp_intc (ha : SP K T W ta ya) : SP K T W (tCB rIntZ (tCons ta tNil)) (y1 fInt ya) := sp_cb (fun Z B H v d G Q R z b o q k => by
  unfold fInt at q
  split at q
  · exact .inl ⟨_, by rw [o.int_iff], k _ Z H _ (.refl z) (.int _) q⟩
  · exact .inr ⟨_, by rw [o.bl_iff], k _ Z H _ (.refl z) (.int _) q⟩
  · exact q.elim) ha
theorem sp_boolc (ha : SP K T W ta ya) : SP K T W (tCB rBoolZ (tCons ta tNil)) (y1 fBool ya) := sp_cb (fun Z B H v d G Q R z b o q k => by
  unfold fBool at q
  split at q
  · rename_i i
    refine .inl ⟨_, by rw [o.int_iff], k _ Z H (.bl (i != 0)) (.refl z) (.bl _) ?_⟩
    have : (i != 0) = decide (i ≠ 0) := by
      by_cases h : i = 0
      · simp [h]
      · simp [h]
    rw [this]
    exact q
  · exact .inr ⟨_, by rw [o.bl_iff], k _ Z H _ (.refl z) (.bl _) q⟩
  · exact q.elim) ha
def rAbsZ : List V → Hp → VK → Prop := fun xs H Q => ∃ i, xs = [.int i] ∧ Q (.int (if i < 0 then -i else i)) H
theorem call_absZ {X : Cx} : CallR X (.builtin "abs") rAbsZ := call_abs
theorem sp_abs (ha : SP K T W ta ya) : SP K T W (tCB rAbsZ (tCons ta tNil)) (y1 fAbs ya) := sp_cb (fun Z B H v d G Q R z b o q k => by
  unfold fAbs at q
  split at q
  · rename_i i
    refine ⟨i, by rw [o.int_iff], k _ Z H _ (.refl z) (.int _) ?_⟩
    have : (if i < 0 then -i else i) = (i.natAbs : Int) := by split <;> omega
    rw [this]
    exact q
  · exact q.elim) ha
theorem intsD_map : ∀ {ds : List D} {is : List Int}, intsD ds = some is → ds = is.map D.int
  | [], is, h => by unfold intsD at h; cases h; rfl
  | d :: ds, is, h => by
    cases d with
    | int i =>
      unfold intsD at h
      cases e : intsD ds with
      | none => rw [e] at h; cases h
      | some js =>
        rw [e] at h
        cases h
        rw [intsD_map e]
        rfl
    | _ => unfold intsD at h; cases h
theorem blsD_map : ∀ {ds : List D} {is : List Bool}, blsD ds = some is → ds = is.map D.bl
  | [], is, h => by unfold blsD at h; cases h; rfl
  | d :: ds, is, h => by
    cases d with
    | bl i =>
      unfold blsD at h
      cases e : blsD ds with
      | none => rw [e] at h; cases h
      | some js =>
        rw [e] at h
        cases h
        rw [blsD_map e]
        rfl
    | _ => unfold blsD at h; cases h
theorem sp_sum (ha : SP K T W ta ya) : SP K T W (tCB (rSum K) (tCons ta tNil)) (y1 fSum ya) := sp_cb (fun Z B H v d G Q R z b o q k => by
  unfold fSum at q
  split at q
  · obtain ⟨is, e, q⟩ := q
    · skip
      have := intsD_map e
      subst this
      obtain ⟨p, xs, F', rfl, c1, o3, f1⟩ := ow_lst o
      have ex := (OwAll.now z b _ _ _ o3).ints
      subst ex
      exact ⟨p, is, rfl, SqL.of (cell_now z b c1), k _ Z H _ (.refl z) (.int _) q⟩
  · exact q.elim) ha
theorem sp_any (ha : SP K T W ta ya) : SP K T W (tCB (rAny K) (tCons ta tNil)) (y1 fAny ya) := sp_cb (fun Z B H v d G Q R z b o q k => by
  unfold fAny at q
  split at q
  · obtain ⟨is, e, q⟩ := q
    · skip
      have := blsD_map e
      subst this
      obtain ⟨p, xs, F', rfl, c1, o3, f1⟩ := ow_lst o
      have ex := (OwAll.now z b _ _ _ o3).bls
      subst ex
      exact ⟨p, is, rfl, SqL.of (cell_now z b c1), k _ Z H _ (.refl z) (.bl _) q⟩
  · exact q.elim) ha
theorem sp_all (ha : SP K T W ta ya) : SP K T W (tCB (rAll K) (tCons ta tNil)) (y1 fAll ya) := sp_cb (fun Z B H v d G Q R z b o q k => by
  unfold fAll at q
  split at q
  · obtain ⟨is, e, q⟩ := q
    · skip
      have := blsD_map e
      subst this
      obtain ⟨p, xs, F', rfl, c1, o3, f1⟩ := ow_lst o
      have ex := (OwAll.now z b _ _ _ o3).bls
      subst ex
      exact ⟨p, is, rfl, SqL.of (cell_now z b c1), k _ Z H _ (.refl z) (.bl _) q⟩
  · exact q.elim) ha
theorem sp_neg (ha : SP K T W ta ya) : SP K T W (tUn (rU fun i => .int (-i)) ta) (y1 fNeg ya) := sp_1 fun c Z σ H ρ F I X hw Q q R k => ha c Z σ H ρ F _ X I hw q _ fun v1 Z1 H1 r1 G1 s1 h1 q1 => by
  obtain ⟨G', o1⟩ := h1.ow
  unfold fNeg at q1
  split at q1
  · rename_i i e
    rw [e] at o1
    exact ⟨i, o1.int_iff, k _ Z1 H1 _ s1 (.int _) q1⟩
  · exact q1.elim
theorem sp_isN (ha : SP K T W ta ya) : SP K T W (tIsN ta) (y1 (fIsN false) ya) := sp_1 fun c Z σ H ρ F I X hw Q q R k => ha c Z σ H ρ F _ X I hw q _ fun v1 Z1 H1 r1 G1 s1 h1 q1 => by
  obtain ⟨G', o1⟩ := h1.ow
  generalize r1.d = d at o1 q1
  cases o1 <;> exact k _ Z1 H1 (.bl _) s1 (.bl _) q1
theorem sp_notN (ha : SP K T W ta ya) : SP K T W (tNotN ta) (y1 (fIsN true) ya) := sp_1 fun c Z σ H ρ F I X hw Q q R k => ha c Z σ H ρ F _ X I hw q _ fun v1 Z1 H1 r1 G1 s1 h1 q1 => by
  obtain ⟨G', o1⟩ := h1.ow
  generalize r1.d = d at o1 q1
  cases o1 <;> exact k _ Z1 H1 (.bl _) s1 (.bl _) q1
/-! tests -/
theorem sb_test (h : SP K T W te ya) : SB K T W (tTest te) (tE ya) := fun c Z σ H ρ F Q X I hw q R k => h c Z σ H ρ F _ X I hw q _ fun v1 Z1 H1 r1 G1 s1 h1 q1 => by
  obtain ⟨G', o1⟩ := h1.ow
  split at q1
  · rename_i b e
    rw [e] at o1
    exact ⟨b, o1.bl_iff, k b Z1 H1 s1 q1⟩
  · exact q1.elim
theorem sb_B (h : SP K T W te ya) : SB K T W (tB te) (tE ya) := sb_test h
theorem sb_and (h : SB K T W tt yt) (h' : SB K T W uu yu) : SB K T W (L2.tAnd tt uu) (tAnd yt yu) := fun c Z σ H ρ F Q X I hw q R k => h c Z σ H ρ F _ X I hw q _ fun b Z1 H1 s1 q1 => by
  cases b with
  | true => exact h' c Z1 σ H1 ρ F _ X (I.p s1) (hw.p s1) (q1.t rfl) _ fun b Z2 H2 s2 q2 => k b Z2 H2 (s1.trans s2) q2
  | false => exact k false Z1 H1 s1 (q1.f rfl)
theorem sb_or (h : SB K T W tt yt) (h' : SB K T W uu yu) : SB K T W (L2.tOr tt uu) (tOr yt yu) := fun c Z σ H ρ F Q X I hw q R k => h c Z σ H ρ F _ X I hw q _ fun b Z1 H1 s1 q1 => by
  cases b with
  | true => exact k true Z1 H1 s1 (q1.t rfl)
  | false => exact h' c Z1 σ H1 ρ F _ X (I.p s1) (hw.p s1) (q1.f rfl) _ fun b Z2 H2 s2 q2 => k b Z2 H2 (s1.trans s2) q2
theorem sb_not (h : SB K T W tt yt) : SB K T W (L2.tNot tt) (tNot yt) := fun c Z σ H ρ F Q X I hw q R k => h c Z σ H ρ F _ X I hw q _ fun b Z1 H1 s1 q1 => k _ Z1 H1 s1 q1
theorem sb_yes : SB K T W L2.tYes tYes := fun c Z σ H ρ F Q X I hw q R k => k true Z H (.refl I.zh) q
theorem isEmpty_at {vs : List V} {ds : List D} {F : List Addr} (a : OwAll K T Z B H vs ds F) : (!ds.isEmpty) = !vs.isEmpty := by cases a <;> rfl
theorem sb_tru (h : SP K T W te ya) : SB K T W (L2.tTru K te) (Y.tTru ya) := fun c Z σ H ρ F Q X I hw q R k => h c Z σ H ρ F _ X I hw q _ fun v1 Z1 H1 r1 G1 s1 h1 q1 => by
  obtain ⟨G', o1⟩ := h1.ow
  have I1 := I.p s1
  split at q1
  · rename_i b e
    refine ⟨b, ?_, k b Z1 H1 s1 q1⟩
    generalize r1.d = d at o1 e
    cases o1 with
    | non => cases e; rfl
    | bl b => cases e; rfl
    | int i =>
      cases e
      show _ = _
      by_cases h : i = 0
      · simp [h]
      · simp [h]
    | str x => cases e
    | tup k1 k2 => cases e; exact .inr (.inl ⟨_, SqT.of (I1.zh _ _ k1), isEmpty_at k2⟩)
    | lst k1 k2 k3 => cases e; exact .inl ⟨_, SqL.of (cell_now I1.zh I1.bh k1), isEmpty_at k2⟩
    | dct _ _ _ _ => cases e
    | obj _ _ _ _ _ => cases e
    | src _ _ => cases e
    | scr _ => cases e
    | cel _ => cases e
    | glb _ => cases e
  · exact q1.elim
/-! and, or, not, if as values -/
theorem sp_and (ha : SP K T W ta ya) (hb : SP K T W tb yb) : SP K T W (tAndV ta tb) (yAnd ya yb) := fun c Z σ H ρ F Q X I hw q R k => ha c Z σ H ρ F _ X I hw q _ fun v1 Z1 H1 r1 G1 s1 h1 q1 => by
  obtain ⟨G', o1⟩ := h1.ow
  split at q1
  · rename_i b e
    rw [e] at o1
    refine ⟨b, o1.bl_iff, ?_⟩
    cases b with
    | true => exact hb c Z1 σ H1 ρ F _ X (I.p s1) (hw.p s1) (q1.t rfl) _ fun v Z2 H2 r2 G2 s2 h2 q2 => k v Z2 H2 r2 G2 (s1.trans s2) (h2.from s1.hh) q2
    | false => exact k _ Z1 H1 (.val (.bl false)) [] s1 ⟨rfl, .bl false⟩ (q1.f rfl)
  · exact q1.elim
theorem sp_or (ha : SP K T W ta ya) (hb : SP K T W tb yb) : SP K T W (tOrV ta tb) (yOr ya yb) := fun c Z σ H ρ F Q X I hw q R k => ha c Z σ H ρ F _ X I hw q _ fun v1 Z1 H1 r1 G1 s1 h1 q1 => by
  obtain ⟨G', o1⟩ := h1.ow
  split at q1
  · rename_i b e
    rw [e] at o1
    refine ⟨b, o1.bl_iff, ?_⟩
    cases b with
    | true => exact k _ Z1 H1 (.val (.bl true)) [] s1 ⟨rfl, .bl true⟩ (q1.t rfl)
    | false => exact hb c Z1 σ H1 ρ F _ X (I.p s1) (hw.p s1) (q1.f rfl) _ fun v Z2 H2 r2 G2 s2 h2 q2 => k v Z2 H2 r2 G2 (s1.trans s2) (h2.from s1.hh) q2
  · exact q1.elim
theorem sp_not (ha : SP K T W ta ya) : SP K T W (tNotV ta) (yNot ya) := fun c Z σ H ρ F Q X I hw q R k => ha c Z σ H ρ F _ X I hw q _ fun v1 Z1 H1 r1 G1 s1 h1 q1 => by
  obtain ⟨G', o1⟩ := h1.ow
  split at q1
  · rename_i b e
    rw [e] at o1
    exact ⟨b, o1.bl_iff, k _ Z1 H1 (.val (.bl (!b))) [] s1 ⟨rfl, .bl _⟩ q1⟩
  · exact q1.elim
theorem sp_if (ht : SB K T W tt yt) (ha : SP K T W ta ya) (hb : SP K T W tb yb) : SP K T W (tIf tt ta tb) (yIf yt ya yb) := fun c Z σ H ρ F Q X I hw q R k => ht c Z σ H ρ F _ X I hw q _ fun b Z1 H1 s1 q1 => by
  cases b with
  | true => exact ha c Z1 σ H1 ρ F _ X (I.p s1) (hw.p s1) (q1.t rfl) _ fun v Z2 H2 r2 G2 s2 h2 q2 => k v Z2 H2 r2 G2 (s1.trans s2) (h2.from s1.hh) q2
  | false => exact hb c Z1 σ H1 ρ F _ X (I.p s1) (hw.p s1) (q1.f rfl) _ fun v Z2 H2 r2 G2 s2 h2 q2 => k v Z2 H2 r2 G2 (s1.trans s2) (h2.from s1.hh) q2
/-! arguments, displays -/
theorem sa_nil : SA K T W 0 L2.tNil aNil := fun c Z σ H ρ F Q X I hw q R k => k [] Z H [] [] (.refl I.zh) .nil rfl q
theorem sa_cons {n : Nat} (ha : SP K T W ta ya) (hr : SA K T W n tr yr) : SA K T W (n + 1) (L2.tCons ta tr) (aCons ya yr) := fun c Z σ H ρ F Q X I hw q R k => ha c Z σ H ρ F _ X I hw q _ fun v1 Z1 H1 r1 G1 s1 h1 q1 =>
  hr c Z1 σ H1 ρ F _ X (I.p s1) (hw.p s1) q1 _ fun vs Z2 H2 rs G2 s2 h2 hl q2 => k (v1 :: vs) Z2 H2 (r1 :: rs) (G1 ++ G2) (s1.trans s2) (.cons (h1.p s2 (I.p s1).there) (h2.from s1.hh) fun a h3 h4 => h1.there a h3 (h2.free a h4).1) (by rw [List.length_cons, hl]) q2
theorem sp_tup {n : Nat} (hr : SA K T W n tr yr) (hn : n ≤ 1000) : SP K T W (tTup tr) (yTup yr) := fun c Z σ H ρ F Q X I hw q R k => hr c Z σ H ρ F _ X I hw q _ fun vs Z1 H1 rs G s1 h1 hl q1 => by
  obtain ⟨ds, q2, o⟩ := h1.stillF s1.zh q1
  have s2 := frz_step s1 h1.free
  refine ⟨by rw [h1.length, hl]; exact sz_of (by omega), fun p hp => ?_⟩
  have s3 := PStep.newZ (o := .tup vs) s2.zh hp
  exact k _ _ _ (.val (.tup ds)) [] (s2.trans s3) ⟨rfl, .tup upd_same (o.still s3.zz (Same.refl _))⟩ q2
theorem fresh_cons {c : Cz} {Z0 H0 Z H : Hp} {p : Addr} {o : HO} {G : List Addr} (s : PStep Z0 H0 Z H) (hp : H p = none) (h : ∀ a ∈ G, H0 a = none ∧ Z a = none) : ∀ a ∈ p :: G, H0 a = none ∧ Z a = none := fun a ha => by
  rcases List.mem_cons.mp ha with rfl | ha
  · exact ⟨same_none s.hh hp, same_none s.zh hp⟩
  · exact h a ha
theorem sp_lst {n : Nat} (hr : SA K T W n tr yr) (hn : n ≤ 1000) : SP K T W (tLst tr) (yLst false yr) := fun c Z σ H ρ F Q X I hw q R k => hr c Z σ H ρ F _ X I hw q _ fun vs Z1 H1 rs G s1 h1 hl q1 => by
  obtain ⟨ds, q2, o⟩ := h1.stillF s1.zh q1
  have s2 := frz_step s1 h1.free
  refine ⟨by rw [h1.length, hl]; exact sz_of (by omega), fun p hp => ?_⟩
  have s3 := PStep.newH (o := .lst vs) s2.zh hp
  refine k _ _ _ (.tmp (.lst .own ds)) [p] (s2.trans s3) ⟨.lst (F := []) upd_same (o.still s3.zz (Same.refl _)) rfl, (by simp), fun a ha => ?_⟩ q2
  cases List.mem_singleton.mp ha
  exact ⟨same_none s1.hh hp, same_none s2.zh hp⟩
theorem sp_lstO {n : Nat} (hr : SA K T W n tr yr) (hn : n ≤ 1000) : SP K T W (tLst tr) (yLst true yr) := fun c Z σ H ρ F Q X I hw q R k => hr c Z σ H ρ F _ X I hw q _ fun vs Z1 H1 rs G s1 h1 hl q1 => by
  obtain ⟨ds, q2, o⟩ := h1.stillO q1
  refine ⟨by rw [h1.length, hl]; exact sz_of (by omega), fun p hp => ?_⟩
  have s3 := PStep.newH (o := .lst vs) s1.zh hp
  have th := h1.there
  have pn : p ∉ G := fun hg => th p hg hp
  refine k _ _ _ (.tmp (.lst .own ds)) (p :: G) (s1.trans s3) ⟨.lst (F := G) upd_same (OwAll.mono (Same.refl _) (Same.refl _) _ _ _ (fun a ha => upd_ne fun e => pn (e ▸ ha)) o) rfl, List.nodup_cons.mpr ⟨pn, h1.nd⟩, fun a ha => ?_⟩ q2
  rcases List.mem_cons.mp ha with rfl | ha
  · exact ⟨same_none s1.hh hp, same_none s1.zh hp⟩
  · exact h1.free a ha
/-! what has items: still ones -/
theorem seq_ow {v : V} {d : D} {ds : List D} {G : List Addr} (h : Ow K T Z B H v d G) (e : seqD d = some ds) (z : Same Z H) (b : Same B H) : ∃ p xs F, v = .ref p ∧ (H p = some (.lst xs) ∨ H p = some (.tup xs)) ∧ OwAll K T Z B H xs ds F ∧ ∀ a ∈ F, a ∈ G := by
  cases h with
  | tup h1 h2 => cases e; exact ⟨_, _, _, rfl, .inr (z _ _ h1), h2, fun a ha => by cases ha⟩
  | lst h1 h2 h3 => cases e; exact ⟨_, _, _, rfl, .inl (cell_now z b h1), h2, foot_sub h3⟩
  | _ => cases e
theorem frz_nil : frzZ Z H [] = Z := by
  funext a
  unfold frzZ
  rw [if_neg (by simp)]
theorem els_ok {c : Cz} {Hs Z H : Hp} {F G : List Addr} {x : RV} {Q : List D → Prop} (h : RvG K T c Hs Z H F v x G) (zh : Same Z H) (bb : Same c.B H) (q : els x Q) :
    ∃ ds p xs, Q ds ∧ v = .ref p ∧ (H p = some (.lst xs) ∨ H p = some (.tup xs)) ∧ OwAll K T (frzZ Z H G) c.B H xs ds [] := by
  cases x with
  | val d =>
    have q : (match seqD d with
      | some ds => Q ds
      | none => False) := q
    split at q
    · rename_i ds e
      obtain ⟨p, xs, F', e1, e2, e3, e4⟩ := seq_ow h.2 e zh bb
      have : F' = [] := List.eq_nil_iff_forall_not_mem.mpr fun a ha => by cases e4 a ha
      subst this
      exact ⟨ds, p, xs, q, e1, e2, by rw [h.1, frz_nil]; exact e3⟩
    · exact q.elim
  | rd d =>
    have q : (match seqD d with
      | some ds => nowns ds = true ∧ Q ds
      | none => False) := q
    split at q
    · rename_i ds e
      obtain ⟨h0, G', h1, h2⟩ := h
      obtain ⟨p, xs, F', e1, e2, e3, e4⟩ := seq_ow h1 e zh bb
      have := e3.nown q.1
      subst this
      exact ⟨ds, p, xs, q.2, e1, e2, by rw [h0, frz_nil]; exact e3⟩
    · exact q.elim
  | tmp d =>
    have q : (match seqD d with
      | some ds => Q (fzs ds)
      | none => False) := q
    split at q
    · rename_i ds e
      obtain ⟨p, xs, F', e1, e2, e3, e4⟩ := seq_ow h.1 e zh bb
      refine ⟨fzs ds, p, xs, q, e1, e2, ?_⟩
      exact OwAll.frz (frz_same fun a ha => (h.2.2 a ha).2) _ _ _ (fun a ha => frz_at a (e4 a ha)) e3
    · exact q.elim
/-! new lists and tuples of still items -/
theorem new_lst {c : Cz} {Z0 H0 Z H : Hp} {F : List Addr} {p : Addr} {xs : List V} {ds : List D} {Q : RV → Prop} {R : VK} (s : PStep Z0 H0 Z H) (o : OwAll K T Z c.B H xs ds []) (hp : H p = none) (q : Q (.tmp (.lst .own ds)))
    (k : ∀ v Z' H' r G, PStep Z0 H0 Z' H' → RvG K T c H0 Z' H' F v r G → Q r → R v H') : R (.ref p) (upd H p (.lst xs)) := by
  have s3 := PStep.newH (o := .lst xs) s.zh hp
  refine k _ _ _ (.tmp (.lst .own ds)) [p] (s.trans s3) ⟨.lst (F := []) upd_same (o.still s3.zz (Same.refl _)) rfl, (by simp), fun a ha => ?_⟩ q
  cases List.mem_singleton.mp ha
  exact ⟨same_none s.hh hp, same_none s.zh hp⟩
theorem new_tup {c : Cz} {Z0 H0 Z H : Hp} {F : List Addr} {p : Addr} {xs : List V} {ds : List D} {Q : RV → Prop} {R : VK} (s : PStep Z0 H0 Z H) (o : OwAll K T Z c.B H xs ds []) (hp : H p = none) (q : Q (.val (.tup ds)))
    (k : ∀ v Z' H' r G, PStep Z0 H0 Z' H' → RvG K T c H0 Z' H' F v r G → Q r → R v H') : R (.ref p) (upd H p (.tup xs)) := by
  have s3 := PStep.newZ (o := .tup xs) s.zh hp
  exact k _ _ _ (.val (.tup ds)) [] (s.trans s3) ⟨rfl, .tup upd_same (o.still s3.zz (Same.refl _))⟩ q
theorem SqO {p : Addr} {xs : List V} (h : H p = some (.lst xs) ∨ H p = some (.tup xs)) : SqL K H p xs ∨ SqT K H p xs := h.elim (fun h => .inl (SqL.of h)) fun h => .inr (SqT.of h)
/-! list(x), tuple(x) -/
def rListZ (K : PySem.W.Frag) : List V → Hp → VK → Prop := fun xs H Q => ∃ p ys, xs = [.ref p] ∧ (SqL K H p ys ∨ SqT K H p ys) ∧ ∀ l, H l = none → Q (.ref l) (upd H l (.lst ys))
theorem call_listZ {X : Cx} : CallR X (.type "list") (rListZ X.K) := call_list_of
def rTupZ (K : PySem.W.Frag) : List V → Hp → VK → Prop := fun xs H Q => ∃ p ys, xs = [.ref p] ∧ ((SqL K H p ys ∧ ∀ l, H l = none → Q (.ref l) (upd H l (.tup ys))) ∨ (SqT K H p ys ∧ Q (.ref p) H))
theorem call_tupZ {X : Cx} : CallR X (.type "tuple") (rTupZ X.K) := call_tuple_of
theorem sp_list (ha : SP K T W ta ya) : SP K T W (tCB (rListZ K) (tCons ta tNil)) (yListS ya) := fun c Z σ H ρ F Q X I hw q R k => ha c Z σ H ρ F _ X I hw q _ fun v1 Z1 H1 r1 G1 s1 h1 q1 => by
  obtain ⟨ds, p, xs, q2, rfl, e2, o⟩ := els_ok h1 s1.zh (I.p s1).bh q1
  have s2 := frz_step s1 h1.free
  exact ⟨p, xs, rfl, SqO e2, fun l hl => new_lst s2 o hl q2 k⟩
theorem sp_tuple (ha : SP K T W ta ya) : SP K T W (tCB (rTupZ K) (tCons ta tNil)) (yTuple ya) := fun c Z σ H ρ F Q X I hw q R k => ha c Z σ H ρ F _ X I hw q _ fun v1 Z1 H1 r1 G1 s1 h1 q1 => by
  have h1' := h1
  obtain ⟨ds, p, xs, q2, rfl, e2, o⟩ := els_ok h1 s1.zh (I.p s1).bh q1
  have s2 := frz_step s1 h1.free
  rcases e2 with e2 | e2
  · exact ⟨p, xs, rfl, .inl ⟨SqL.of e2, fun l hl => new_tup s2 o hl q2 k⟩⟩
  · refine ⟨p, xs, rfl, .inr ⟨SqT.of e2, ?_⟩⟩
    obtain ⟨G', o1⟩ := h1'.ow
    have key : ∀ (d : D) (ds : List D), Ow K T Z1 c.B H1 (.ref p) d G' → (seqD d = some ds) → ∃ ds', d = .tup ds' := by
      intro d ds h e
      cases h with
      | tup h1 h2 => exact ⟨_, rfl⟩
      | lst h1 h2 h3 =>
        have := cell_now s1.zh (I.p s1).bh h1
        rw [e2] at this
        cases this
      | _ => cases e
    cases r1 with
    | val d =>
      have q1 : (match seqD d with
        | some ds => Q (.val (.tup ds))
        | none => False) := q1
      split at q1
      · rename_i ds' e
        obtain ⟨ds'', e3⟩ := key d ds' o1 e
        have e3 : d = .tup ds'' := e3
        subst e3
        cases e
        exact k _ Z1 H1 (.val (.tup ds')) [] s1 ⟨rfl, h1'.2⟩ q1
      · exact q1.elim
    | rd d =>
      have q1 : (match seqD d with
        | some ds => nowns ds = true ∧ Q (.val (.tup ds))
        | none => False) := q1
      split at q1
      · rename_i ds' e
        obtain ⟨ds'', e3⟩ := key d ds' o1 e
        have e3 : d = .tup ds'' := e3
        subst e3
        cases e
        have o1 : Ow K T Z1 c.B H1 (.ref p) (.tup ds') G' := o1
        obtain ⟨_, _, _, e5, _⟩ := ow_tup o1
        subst e5
        exact k _ Z1 H1 (.val (.tup ds')) [] s1 ⟨rfl, o1⟩ q1.2
      · exact q1.elim
    | tmp d =>
      have q1 : (match seqD d with
        | some ds => Q (.val (.tup (fzs ds)))
        | none => False) := q1
      split at q1
      · rename_i ds' e
        obtain ⟨ds'', e3⟩ := key d ds' o1 e
        have e3 : d = .tup ds'' := e3
        subst e3
        cases e
        have o1 : Ow K T Z1 c.B H1 (.ref p) (.tup ds') G' := o1
        obtain ⟨_, _, _, e5, h6, h7⟩ := ow_tup o1
        subst e5
        have e6 : fzs ds' = ds' := fzs_still h7
        have q1 : Q (.val (.tup (fzs ds'))) := q1
        rw [e6] at q1
        exact k _ Z1 H1 (.val (.tup ds')) [] s1 ⟨rfl, o1⟩ q1
      · exact q1.elim
where
  fzs_still {Z B H : Hp} : ∀ {ds : List D} {xs : List V}, OwAll K T Z B H xs ds [] → fzs ds = ds
    | [], _, _ => rfl
    | d :: ds, [], h => by cases h
    | d :: ds, x :: xs, h => by
      rw [fzs, fz_still (AtAll.inv h).1, fzs_still (AtAll.inv h).2]
  fz_still {Z B H : Hp} : ∀ {d : D} {x : V}, Ow K T Z B H x d [] → fz d = d := fun {d x} h => by
    generalize e : ([] : List Addr) = G at h
    cases h with
    | lst h1 h2 h3 =>
      rename_i m _ _ _
      cases m with
      | own => have h3' : _ = _ := h3; rw [← e] at h3'; cases h3'
      | frz => rfl
      | bor => rfl
    | dct h1 h0 h2 h3 =>
      rename_i m _ _ _ _
      cases m with
      | own => have h3' : _ = _ := h3; rw [← e] at h3'; cases h3'
      | frz => rfl
      | bor => rfl
    | obj h1 h0 h2 h3 g =>
      rename_i m _ _ _ _ _
      cases m with
      | own => have h3' : _ = _ := h3; rw [← e] at h3'; cases h3'
      | frz => rfl
      | bor => rfl
    | _ => rfl
/-! list + list, [x] * n -/
theorem rd_of {p : Addr} {xs : List V} (h : H p = some (.lst xs)) : Rd H p (.lst xs) := .inl h
theorem lst_now {c : Cz} {Hs : Hp} {F G : List Addr} {x : RV} {p : Addr} {xs : List V} (h : RvG K T c Hs Z H F (.ref p) x G) (z : Same Z H) (b : Same c.B H) (e : H p = some (.lst xs) ∨ H p = some (.tup xs)) (l : isLst x.d = true) : H p = some (.lst xs) := by
  obtain ⟨G', o⟩ := h.ow
  generalize x.d = d at o l
  cases o with
  | lst h1 h2 h3 =>
    have := cell_now z b h1
    rcases e with e | e
    · exact e
    · rw [e] at this; cases this
  | _ => cases l
theorem sp_cat (ha : SP K T W ta ya) (hb : SP K T W tb yb) : SP K T W (tOp (rAddZ K) ta tb) (yCatS ya yb) := fun c Z σ H ρ F Q X I hw q R k =>
  ha c Z σ H ρ F _ X I hw q _ fun v1 Z1 H1 r1 G1 s1 h1 q1 => hb c Z1 σ H1 ρ F _ X (I.p s1) (hw.p s1) q1 _ fun v2 Z2 H2 r2 G2 s2 h2 q2 => by
    have I2 := (I.p s1).p s2
    have h1' := h1.p s2 (I.p s1).there
    obtain ⟨⟨l1, l2⟩, q2⟩ := q2
    obtain ⟨ds, p, xs, q3, rfl, e3, o3⟩ := els_ok h1' I2.zh I2.bh q2
    obtain ⟨es, p', ys, q4, rfl, e4, o4⟩ := els_ok h2 I2.zh I2.bh q3
    obtain ⟨hz, q5⟩ := q4
    have a1 := lst_now h1' I2.zh I2.bh e3 l1
    have a2 := lst_now h2 I2.zh I2.bh e4 l2
    have n1 := o3.length
    have n2 := o4.length
    have s4 : PStep Z H (frzZ Z2 H2 (G1 ++ G2)) H2 := frz_step (s1.trans s2) fun a ha => (List.mem_append.mp ha).elim (fun ha => h1'.free a ha) fun ha => ⟨same_none s1.hh (h2.free a ha).1, (h2.free a ha).2⟩
    have m1 : Same (frzZ Z2 H2 G1) (frzZ Z2 H2 (G1 ++ G2)) := frz_sub (fun a ha => List.mem_append_left _ ha) I2.zh
    have m2 : Same (frzZ Z2 H2 G2) (frzZ Z2 H2 (G1 ++ G2)) := frz_sub (fun a ha => List.mem_append_right _ ha) I2.zh
    refine .inr (.inr (.inr ⟨p, p', xs, ys, rfl, rfl, .inl a1, .inl a2, by rw [n1, n2]; exact sz_of hz, fun l hl => ?_⟩))
    exact new_lst s4 (AtAll.append (o3.still m1 (Same.refl _)) (o4.still m2 (Same.refl _))) hl q5 k
theorem flat_at {c : Cz} {x : V} {d : D} (h : Ow K T Z c.B H x d []) : ∀ n : Nat, OwAll K T Z c.B H (List.replicate n [x]).flatten (List.replicate n d) []
  | 0 => .nil
  | n + 1 => by
    rw [List.replicate_succ, List.replicate_succ, List.flatten_cons]
    exact AtAll.cons h (flat_at h n)
theorem sp_rep (ha : SP K T W ta ya) (hb : SP K T W tb yb) : SP K T W (tOp rMulZ (tLst (L2.tCons ta L2.tNil)) tb) (yRep ya yb) := fun c Z σ H ρ F Q X I hw q R k =>
  ha c Z σ H ρ F _ X I hw q _ fun v1 Z1 H1 r1 G1 s1 h1 q1 => ⟨(by show 1 ≤ sizeLine; decide), fun p hp => by
    have sn := PStep.newH (o := .lst [v1]) s1.zh hp
    have In := (I.p s1).p sn
    refine hb c Z1 σ _ ρ F _ X In ((hw.p s1).p sn) q1 _ fun v2 Z2 H2 r2 G2 s2 h2 q2 => ?_
    obtain ⟨G', o2⟩ := h2.ow
    have st := s1.trans (sn.trans s2)
    have h1' := (h1.p sn (I.p s1).there).p s2 In.there
    obtain ⟨d, q3, o3⟩ := h1'.still q2
    split at q3
    · rename_i n e
      rw [e] at o2
      obtain ⟨⟨n0, n1⟩, q4⟩ := q3
      refine .inr (.inr ⟨p, n, [v1], rfl, o2.int_iff, s2.hh _ _ upd_same, by omega, by omega, ?_, fun p' hp' => ?_⟩)
      · show 1 * n.toNat ≤ sizeLine
        rw [Nat.one_mul]
        exact sz_of (by omega)
      · exact new_lst (frz_step st h1'.free) (flat_at o3 _) hp' q4 k
    · exact q3.elim⟩
/-! slices -/
def SO (K : PySem.W.Frag) (T : Tb) (W : WX) (to : TO) (y : Option YP) : Prop := ∀ (c : Cz) (Z : Hp) (σ : L2.St) (H : Hp) (ρ : List S) (F : List Addr) (Q : Option Int → Prop) (X : XD), EnvOk K T c Z H σ ρ F → WP K T c W Z σ H X → yO y ρ Q X →
  ∀ R : Option Int → Hp → Prop, (∀ o Z' H', PStep Z H Z' H' → Q o → R o H') → to σ H R
theorem so_none : SO K T W tNoPart none := fun c Z σ H ρ F Q X I hw q R k => k none Z H (.refl I.zh) q
theorem so_some (h : SP K T W te ya) : SO K T W (tPart te) (some ya) := fun c Z σ H ρ F Q X I hw q R k => h c Z σ H ρ F _ X I hw q _ fun v1 Z1 H1 r1 G1 s1 h1 q1 => by
  obtain ⟨G', o1⟩ := h1.ow
  split at q1
  · rename_i i e
    rw [e] at o1
    exact ⟨i, o1.int_iff, k _ Z1 H1 s1 q1⟩
  · exact q1.elim
def rSlZ (K : PySem.W.Frag) : V → Option Int → Option Int → Hp → VK → Prop := fun x lo hi H Q => rSlL K x lo hi H Q ∨ rSlA K x lo hi H Q
theorem sl_Z {X : Cx} : SlR X (rSlZ X.K) := fun pins s σ H x v vl vu lo hi sl Q I rx hs pl pu h => h.elim (sl_list pins s σ H x v vl vu lo hi sl Q I rx hs pl pu) (sl_tupA pins s σ H x v vl vu lo hi sl Q I rx hs pl pu)
theorem cut_at {c : Cz} {vs : List V} {ds : List D} {lo hi : Option Int} (a : OwAll K T Z c.B H vs ds []) : OwAll K T Z c.B H (cutV vs lo hi) (cutD ds lo hi) [] := by
  show OwAll K T Z c.B H ((vs.drop (HT.sIx vs.length 0 lo)).take (HT.sIx vs.length vs.length hi - HT.sIx vs.length 0 lo)) ((ds.drop (HT.sIx ds.length 0 lo)).take (HT.sIx ds.length ds.length hi - HT.sIx ds.length 0 lo)) []
  rw [a.length]
  exact AtAll.take _ (AtAll.drop _ a)
theorem cut_whole {α : Type} {xs : List α} {lo hi : Option Int} (h : HT.sIx xs.length 0 lo = 0 ∧ HT.sIx xs.length xs.length hi = xs.length) : cutD xs lo hi = xs := by
  show (xs.drop (HT.sIx xs.length 0 lo)).take (HT.sIx xs.length xs.length hi - HT.sIx xs.length 0 lo) = xs
  rw [h.1, h.2]
  simp
theorem sp_sl {tl th : TO} {yl yh : Option YP} (ha : SP K T W te ya) (hl : SO K T W tl yl) (hh : SO K T W th yh) : SP K T W (tSl (rSlZ K) te tl th) (ySlL ya yl yh) := fun c Z σ H ρ F Q X I hw q R k =>
  ha c Z σ H ρ F _ X I hw q _ fun v1 Z1 H1 r1 G1 s1 h1 q1 => hl c Z1 σ H1 ρ F _ X (I.p s1) (hw.p s1) q1 _ fun lo Z2 H2 s2 q2 => hh c Z2 σ H2 ρ F _ X ((I.p s1).p s2) ((hw.p s1).p s2) q2 _ fun hi Z3 H3 s3 q3 => by
    have I1 := I.p s1
    have I2 := I1.p s2
    have I3 := I2.p s3
    have h1' := (h1.p s2 I1.there).p s3 I2.there
    have st := s1.trans (s2.trans s3)
    split at q3
    · rename_i m ds0 e0
      obtain ⟨ds, p, xs, q4, rfl, e3, o3⟩ := els_ok h1' I3.zh I3.bh q3
      have a1 := lst_now h1' I3.zh I3.bh e3 (by rw [e0]; rfl)
      exact .inl ⟨p, xs, rfl, SqL.of a1, fun z hz => new_lst (frz_step st h1'.free) (cut_at o3) hz q4 k⟩
    · rename_i ds0 e0
      obtain ⟨G', ow⟩ := h1'.ow
      rw [e0] at ow
      obtain ⟨p0, ys, rfl, rfl, z1, o1⟩ := ow_tup ow
      obtain ⟨ds, p, xs, q4, ep, e3, o3⟩ := els_ok h1' I3.zh I3.bh q3
      cases ep
      have a1 : H3 p0 = some (.tup ys) := I3.zh _ _ z1
      have : xs = ys := by
        rcases e3 with e3 | e3
        · rw [a1] at e3; cases e3
        · rw [a1] at e3; cases e3; rfl
      subst this
      have hl := o3.length
      have sf := frz_step st h1'.free
      refine .inr ⟨p0, xs, rfl, SqT.of a1, fun w => ?_, fun _ z hz => new_tup sf (cut_at o3) hz q4 k⟩
      rw [hl] at w
      rw [cut_whole w] at q4
      exact k _ _ H3 (.val (.tup ds)) [] sf ⟨rfl, .tup (frz_same (fun a ha => (h1'.free a ha).2) _ _ z1) o3⟩ q4
    · exact q3.elim
end
end Y

/-! YE: calls of defs that change no argument, makes, methods, properties. -/
namespace Y
open PySem PySem.Spec PyProof.Rows L2

/-! ### exceptions whose context is None -/
theorem passN {X : Cx} : Passes (L2N.CX X.prog X.w) X E0 := by
  intro _ _ _ _ _ _ _ h
  obtain ⟨_, _, _, _, _, _, _, _, _, _, _, _, z⟩ := h
  exact False.elim z
section
variable {P : Program} {w : World} {K : PySem.W.Frag} {mg : Str → Option Value} {base : Heap}
theorem okN {x qual : Str} {st : Stmt} {f : Addr} {fd : FuncData} {N ps : List Str} {k : Nat} {sp : Sp} (F : Fun K x qual st f fd) (S : FnScope N ps (defScope st)) (len : ∀ vs H Q E, sp vs H Q E → vs.length = ps.length)
    (hbody : ∀ (cdv : Value) (A : Around) (outer : List Env) (s : Shared) (H : Hp) (vs : List V) (Q : VK) (E : XK), Room k (A.deeper (envOfC qual (defScope st) s.heap.objs.size f cdv)) → sp vs H Q E →
      ∃ t, PSs (cxOf (L2N.CX P w) P w K mg base N qual (defScope st) f cdv A outer s H E) (defBody st) t ∧ t { nx := fun _ H' => Q .non H', rt := Q } (L2.start N vs) H) :
    FnOk P w K mg base (L2N.CX P w) (k + 1) f fd ps sp := by
  have y := F.ex
  obtain ⟨oc, od, kV, doc, pm, an, cdv, ct, osl, e, lk, hcd⟩ := y
  subst e
  refine fn_of lk hcd S len ?_
  intro A outer s H vs Q E hr hsp
  exact hbody cdv A outer s H vs Q E hr hsp
end
/-! ### promises -/
section
variable (K : PySem.W.Frag) (T : Tb)
/-- a def that changes no argument -/
def spP (S : DSp) : Sp := fun vs H Q E => ∃ (Z B : Hp) (ds : List D) (R : RV → Prop) (X : XD), Same Z H ∧ Same B H ∧ OwAll K T Z B H vs ds [] ∧ S ds R X ∧
  (∀ v Z' H' r G, PStep Z H Z' H' → RvG K T (cz0 B) H Z' H' [] v r G → isRd r = false → R r → Q v H') ∧ (∀ cn fs od Z' H', PStep Z H Z' H' → ExAt K T (cz0 B) Z' H' od fs → X cn fs → E (.ref (T cn)) od H')
/-- steps in which what stands at p alone is changed -/
structure IStep (p : Addr) (Z H Z' H' : Hp) : Prop where
  zz : Same Z Z'
  zh : Same Z' H'
  hh : ∀ b o, H b = some o → b ≠ p → H' b = some o
  tr : ∀ b, H' b = none → H b = none
  zn : ∀ a, Z' a ≠ none → Z a ≠ none ∨ H a = none ∨ a = p
/-- an __init__ -/
def spN (cn : String) (S : SpI) : Sp := fun vs H Q E => ∃ (Z B : Hp) (p dx : Addr) (ws : List V) (ds : List D) (R : D → Prop) (X : XD), vs = .ref p :: ws ∧ H p = some (.ins (T cn) dx []) ∧ Same Z H ∧ Same B H ∧ Z p = none ∧ B p = none ∧ OwAll K T Z B H ws ds [] ∧ S ds R X ∧
  (∀ Z' H' d G, IStep p Z H Z' H' → Ow K T Z' B H' (.ref p) d G → G.Nodup → (∀ a ∈ G, (H a = none ∨ a = p) ∧ Z' a = none) → R d → Q .non H') ∧
  (∀ cn fs od Z' H', IStep p Z H Z' H' → ExAt K T (cz0 B) Z' H' od fs → X cn fs → E (.ref (T cn)) od H')
end
/-- no exception is wanted -/
abbrev W0 : WX := fun _ _ _ _ => False

section
variable {K : PySem.W.Frag} {T : Tb} {W : WX} {Z B H Z' B' H' : Hp} {v : V} {ta tb te : TE} {ya yb : YP} {tr : TA} {yr : YA} {c : Cz} {n : Nat}
mutual
/-- nothing lent within: it is still data without what is lent -/
theorem Ow.nobor : ∀ (d : D) (v : V) (F : List Addr), Ow K T Z B H v d F → nbor d = true → Ow K T Z B' H v d F
  | .non, _, _, h, _ => by cases h; exact .non
  | .bl _, _, _, h, _ => by cases h; exact .bl _
  | .int _, _, _, h, _ => by cases h; exact .int _
  | .str _, _, _, h, _ => by cases h; exact .str _
  | .tup ds, _, _, h, n => by
    cases h with
    | tup h1 h2 => exact .tup h1 (OwAll.nobor ds _ _ h2 (by rw [nbor] at n; exact n))
  | .lst m ds, _, _, h, n => by
    rw [nbor, Bool.and_eq_true] at n
    cases h with
    | lst h1 h2 h3 =>
      cases m with
      | frz => exact .lst (m := .frz) h1 (OwAll.nobor ds _ _ h2 n.2) h3
      | own => exact .lst (m := .own) h1 (OwAll.nobor ds _ _ h2 n.2) h3
      | bor => simp at n
  | .dct m ks ds, _, _, h, n => by
    rw [nbor, Bool.and_eq_true] at n
    cases h with
    | dct h1 h0 h2 h3 =>
      cases m with
      | frz => exact .dct (m := .frz) h1 h0 (OwAll.nobor ds _ _ h2 n.2) h3
      | own => exact .dct (m := .own) h1 h0 (OwAll.nobor ds _ _ h2 n.2) h3
      | bor => simp at n
  | .obj m cn ns ds, _, _, h, n => by
    rw [nbor, Bool.and_eq_true] at n
    cases h with
    | obj h1 h0 h2 h3 g =>
      cases m with
      | frz => exact .obj (m := .frz) h1 h0 (OwAll.nobor ds _ _ h2 n.2) h3 g
      | own => exact .obj (m := .own) h1 h0 (OwAll.nobor ds _ _ h2 n.2) h3 g
      | bor => simp at n
  | .src, _, _, h, _ => by
    cases h with
    | src h1 h2 => exact .src h1 h2
  | .scr _, _, _, h, _ => by
    cases h with
    | scr h1 => exact .scr h1
  | .cel _ _, _, _, h, _ => by
    cases h with
    | cel h1 => exact .cel h1
  | .glb _, _, _, h, _ => by cases h; exact .glb _
theorem OwAll.nobor : ∀ (ds : List D) (vs : List V) (F : List Addr), OwAll K T Z B H vs ds F → nbors ds = true → OwAll K T Z B' H vs ds F
  | [], _, _, h, _ => by cases h; exact .nil
  | d :: ds, _, _, h, n => by
    rw [nbors, Bool.and_eq_true] at n
    cases h with
    | cons h1 h2 => exact .cons (Ow.nobor d _ _ h1 n.1) (OwAll.nobor ds _ _ h2 n.2)
end
/-- the arguments: nobody's trees stand still from now on, what names own is lent -/
def lentB (c : Cz) (H : Hp) (rs : List RV) : Hp := if rs.any isRd = true then H else c.B
theorem arg_ok {Hs : Hp} {F G : List Addr} {r : RV} (h : RvG K T c Hs Z H F v r G) (b : Same c.B B') (hr : isRd r = true → B' = H) : Ow K T (frzZ Z H G) B' H v (arg r) [] := by
  cases r with
  | val d => exact h.2.still (by rw [h.1, frz_nil]; exact Same.refl _) b
  | tmp d =>
    have o := Ow.frz (frz_same fun a ha => (h.2.2 a ha).2) _ _ _ (fun a ha => frz_at a ha) h.1
    exact o.still (Same.refl _) b
  | rd d =>
    obtain ⟨h0, G', h1, h2⟩ := h
    have e := hr rfl
    subst e
    rw [h0, frz_nil]
    exact Ow.lend b _ _ _ (fun a ha => rfl) h1
theorem args_ok {Hs : Hp} {F G : List Addr} {vs : List V} {rs : List RV} (h : RvsG K T c Hs Z H F vs rs G) (zh : Same Z H) (b : Same c.B B') (hr : rs.any isRd = true → B' = H) : OwAll K T (frzZ Z H G) B' H vs (rs.map arg) [] := by
  induction h with
  | nil => exact .nil
  | @cons v vs r rs G G' h1 h2 h3 ih =>
    have o1 := arg_ok h1 b fun e => hr (by rw [List.any_cons, e]; rfl)
    have o2 := ih fun e => hr (by rw [List.any_cons, e]; simp)
    exact AtAll.cons (o1.still (frz_sub (fun a ha => List.mem_append_left _ ha) zh) (Same.refl _)) (o2.still (frz_sub (fun a ha => List.mem_append_right _ ha) zh) (Same.refl _))
theorem lentB_ok {rs : List RV} (b : Same c.B H) : Same c.B (lentB c H rs) ∧ Same (lentB c H rs) H ∧ (rs.any isRd = true → lentB c H rs = H) := by
  unfold lentB
  by_cases e : rs.any isRd = true
  · rw [if_pos e]; exact ⟨b, Same.refl _, fun _ => rfl⟩
  · rw [if_neg e]; exact ⟨Same.refl _, b, fun h => absurd h e⟩
/-- a result comes back -/
theorem back_ok {rs : List RV} {H1 Z2 H2 Hs : Hp} {F G : List Addr} {r : RV} {P : Prop} (h : RvG K T (cz0 (lentB c H1 rs)) H1 Z2 H2 [] v r G) (nr : isRd r = false) (s : Same Hs H1) (q : if rs.any isRd = true then nbor r.d = true ∧ P else P) :
    RvG K T c Hs Z2 H2 F v r G ∧ P := by
  have key : (∃ d G', Ow K T Z2 (lentB c H1 rs) H2 v d G' ∧ d = r.d ∧ G' = G) → (Ow K T Z2 c.B H2 v r.d G ∧ P) := by
    rintro ⟨d, G', o, rfl, rfl⟩
    by_cases e : rs.any isRd = true
    · rw [if_pos e] at q
      exact ⟨Ow.nobor _ _ _ o q.1, q.2⟩
    · rw [if_neg e] at q
      have : lentB c H1 rs = c.B := if_neg e
      rw [this] at o
      exact ⟨o, q⟩
  cases r with
  | val d =>
    obtain ⟨o, p⟩ := key ⟨d, [], h.2, rfl, h.1.symm⟩
    exact ⟨⟨h.1, by rw [h.1] at o; exact o⟩, p⟩
  | tmp d =>
    obtain ⟨o, p⟩ := key ⟨d, G, h.1, rfl, rfl⟩
    exact ⟨⟨o, h.2.1, fun a ha => ⟨same_none s (h.2.2 a ha).1, (h.2.2 a ha).2⟩⟩, p⟩
  | rd d => cases nr
theorem nmS_len {fs : List (Str × V)} {gs : List (String × D)} : True := trivial
theorem backX_ok {rs : List RV} {H1 Z2 H2 : Hp} {od : Option Addr} {fs : List (String × D)} {P : Prop} (h : ExAt K T (cz0 (lentB c H1 rs)) Z2 H2 od fs) (q : if rs.any isRd = true then fsD fs = true ∧ P else P) : ExAt K T c Z2 H2 od fs ∧ P := by
  by_cases e : rs.any isRd = true
  · rw [if_pos e] at q
    refine ⟨?_, q.2⟩
    cases od with
    | none => exact h
    | some dx =>
      obtain ⟨gs, h1, h2, h3⟩ := h
      exact ⟨gs, h1, h2, OwAll.nobor _ _ _ h3 q.1⟩
  · rw [if_neg e] at q
    have : lentB c H1 rs = c.B := if_neg e
    refine ⟨?_, q⟩
    cases od with
    | none => exact h
    | some dx =>
      obtain ⟨gs, h1, h2, h3⟩ := h
      rw [show (cz0 (lentB c H1 rs)).B = c.B from this] at h3
      exact ⟨gs, h1, h2, h3⟩
/-- the core of a call -/
theorem call_core {S : DSp} {σ : L2.St} {ρ : List Y.S} {F G : List Addr} {Q : RV → Prop} {X : XD} {R : VK} {E : XK} {Z1 H1 : Hp} {vs : List V} {rs : List RV} (I : EnvOk K T c Z H σ ρ F) (s1 : PStep Z H Z1 H1) (h1 : RvsG K T c H Z1 H1 F vs rs G)
    (hw : ∀ Z' H' cn fs od, PStep Z H Z' H' → ExAt K T c Z' H' od fs → X cn fs → E (.ref (T cn)) od H')
    (q : S (rs.map arg) (fun r => if rs.any isRd = true then nbor r.d = true ∧ Q r else Q r) fun cn fs => if rs.any isRd = true then fsD fs = true ∧ X cn fs else X cn fs)
    (k : ∀ v Z' H' r G, PStep Z H Z' H' → RvG K T c H Z' H' F v r G → Q r → R v H') : spP K T S vs H1 R E := by
  have I1 := I.p s1
  obtain ⟨b1, b2, b3⟩ := lentB_ok (c := c) (rs := rs) I1.bh
  have s2 := frz_step s1 h1.free
  refine ⟨frzZ Z1 H1 G, lentB c H1 rs, rs.map arg, _, _, s2.zh, b2, args_ok h1 s1.zh b1 b3, q, fun v Z' H' r G' s3 hr nr q2 => ?_, fun cn fs od Z' H' s3 ex q2 => ?_⟩
  · obtain ⟨hr', q3⟩ := back_ok (F := F) hr nr s1.hh q2
    exact k v Z' H' r G' (s2.trans s3) hr' q3
  · obtain ⟨ex', q3⟩ := backX_ok ex q2
    exact hw Z' H' cn fs od (s2.trans s3) ex' q3
theorem sp_call {S : DSp} (hr : SA K T W n tr yr) : SP K T W (tCallSD (spP K T S) [] (WE W) tr) (yCall S yr) := fun c Z σ H ρ F Q X I hw q R k => hr c Z σ H ρ F _ X I hw q _ fun vs Z1 H1 rs G s1 h1 hl q1 => by
  show spP K T S (vs ++ []) H1 R _
  rw [List.append_nil]
  exact call_core I s1 h1 (fun Z' H' cn fs od s ex x => hw Z' H' cn fs od s ex x) q1 k
theorem callN_x {rs : List RV} {S : DSp} {ds : List D} {Q : RV → Prop} (q : S ds Q X0) : S ds Q fun cn fs => if rs.any isRd = true then fsD fs = true ∧ X0 cn fs else X0 cn fs := by
  have : (fun cn fs => if rs.any isRd = true then fsD fs = true ∧ X0 cn fs else X0 cn fs) = X0 := by
    funext cn fs
    by_cases h : rs.any isRd = true
    · rw [if_pos h]
      exact propext ⟨fun h => h.2.elim, fun h => h.elim⟩
    · rw [if_neg h]
  rw [this]
  exact q
theorem sp_callN {S : DSp} {E : XK} (hr : SA K T W n tr yr) : SP K T W (tCall (spP K T S) [] E tr) (yCallN S yr) := fun c Z σ H ρ F Q X I hw q R k => hr c Z σ H ρ F _ X I hw q _ fun vs Z1 H1 rs G s1 h1 hl q1 => by
  show spP K T S (vs ++ []) H1 R _
  rw [List.append_nil]
  exact call_core (X := X0) I s1 h1 (fun Z' H' cn fs od s ex x => x.elim) (callN_x q1) k
/-! methods: the object first -/
theorem lookup_noS : ∀ {fs : List (Str × V)} {ns : List String} {m : String}, fs.map (·.1) = nmS ns → ns.contains m = false → fs.lookup (Str.ofString m) = none
  | [], _, _, _, _ => rfl
  | (g, w) :: fs, [], _, h, _ => by cases h
  | (g, w) :: fs, n :: ns, m, h, k => by
    have e0 : g = Str.ofString n := (List.cons.inj h).1
    rw [List.contains_cons, Bool.or_eq_false_iff] at k
    have hne : m ≠ n := by simpa using k.1
    rw [List.lookup_cons, show (Str.ofString m == g) = false from beq_eq_false_iff_ne.mpr fun e => hne (ofString_inj (e0 ▸ e))]
    exact lookup_noS (List.cons.inj h).2 k.2
theorem isOf_at {Hs : Hp} {F G : List Addr} {cn m : String} {r : RV} (h : RvG K T c Hs Z H F v r G) (z : Same Z H) (b : Same c.B H) (i : isOf cn m r) : ∃ a dx fs, v = .ref a ∧ H a = some (.ins (T cn) dx fs) ∧ fs.lookup (Str.ofString m) = none := by
  obtain ⟨G', o⟩ := h.ow
  unfold isOf at i
  split at i
  · rename_i e
    rw [e] at o
    obtain ⟨p, dx, fs, F', rfl, h1, h2, _⟩ := ow_obj o
    rw [i.1] at h1
    exact ⟨p, dx, fs, rfl, cell_now z b h1, lookup_noS h2 i.2⟩
  · exact i.elim
theorem meth_core {S : DSp} {cn m : String} {X' : XD} (ho : SP K T W te ya) (hr : SA K T W n tr yr) (c : Cz) (Z : Hp) (σ : L2.St) (H : Hp) (ρ : List Y.S) (F : List Addr) (Q : RV → Prop) (X : XD) (I : EnvOk K T c Z H σ ρ F) (hw : WP K T c W Z σ H X) (E : XK)
    (hE : ∀ Z' H' cn fs od, PStep Z H Z' H' → ExAt K T c Z' H' od fs → X' cn fs → E (.ref (T cn)) od H')
    (q : ya ρ (fun r => isOf cn m r ∧ yr ρ (fun rs => S ((r :: rs).map arg) (fun x => if (r :: rs).any isRd = true then nbor x.d = true ∧ Q x else Q x) fun cn fs => if (r :: rs).any isRd = true then fsD fs = true ∧ X' cn fs else X' cn fs) X) X) (R : VK) (k : ∀ v Z' H' r G, PStep Z H Z' H' → RvG K T c H Z' H' F v r G → Q r → R v H') :
    te σ H fun x H1 => ∃ a dx fs, x = .ref a ∧ H1 a = some (.ins (T cn) dx fs) ∧ fs.lookup (Str.ofString m) = none ∧ tr σ H1 fun vs H2 => spP K T S (x :: (vs ++ [])) H2 R E :=
  ho c Z σ H ρ F _ X I hw q _ fun v1 Z1 H1 r1 G1 s1 h1 q1 => by
    have I1 := I.p s1
    obtain ⟨a, dx, fs, e1, e2, e3⟩ := isOf_at h1 I1.zh I1.bh q1.1
    refine ⟨a, dx, fs, e1, e2, e3, hr c Z1 σ H1 ρ F _ X I1 (hw.p s1) q1.2 _ fun vs Z2 H2 rs G2 s2 h2 hl q2 => ?_⟩
    rw [List.append_nil]
    exact call_core I (s1.trans s2) (.cons (h1.p s2 I1.there) (h2.from s1.hh) fun a h3 h4 => h1.there a h3 (h2.free a h4).1) hE q2 k
theorem methN_x {o : YP} {as : YA} {S : DSp} {cn m : String} {ρ : List Y.S} {Q : RV → Prop} {X : XD} (q : yMethN cn m S o as ρ Q X) :
    o ρ (fun r => isOf cn m r ∧ as ρ (fun rs => S ((r :: rs).map arg) (fun x => if (r :: rs).any isRd = true then nbor x.d = true ∧ Q x else Q x) fun cn fs => if (r :: rs).any isRd = true then fsD fs = true ∧ X0 cn fs else X0 cn fs) X) X := by
  have : ∀ rs : List RV, (fun cn fs => if rs.any isRd = true then fsD fs = true ∧ X0 cn fs else X0 cn fs) = X0 := fun rs => by
    funext cn fs
    by_cases h : rs.any isRd = true
    · rw [if_pos h]
      exact propext ⟨fun h => h.2.elim, fun h => h.elim⟩
    · rw [if_neg h]
  simp only [this]
  exact q
theorem sp_methN {S : DSp} {cn m : String} {ms : Str} {C : Addr} {E : XK} (hC : C = T cn) (hm : ms = Str.ofString m) (ho : SP K T W te ya) (hr : SA K T W n tr yr) : SP K T W (tMeth C ms (spP K T S) [] E te tr) (yMethN cn m S ya yr) := by
  subst hC hm
  exact fun c Z σ H ρ F Q X I hw q R k => meth_core (X' := X0) ho hr c Z σ H ρ F Q X I hw E (fun Z' H' cn fs od s ex x => x.elim) (methN_x q) R k
/-- a property -/
theorem sp_propN {S : DSp} {cn m : String} {C : Addr} {E : XK} (hC : C = T cn) (ho : SP K T W te ya) : SP K T W (tProp C (spP K T S) [] E te) (yMethN cn m S ya aNil) := by
  subst hC
  exact fun c Z σ H ρ F Q X I hw q R k => ho c Z σ H ρ F _ X I hw (methN_x q) _ fun v1 Z1 H1 r1 G1 s1 h1 q1 => by
    have I1 := I.p s1
    obtain ⟨a, dx, fs, e1, e2, e3⟩ := isOf_at h1 I1.zh I1.bh q1.1
    subst e1
    exact ⟨a, dx, fs, rfl, e2, call_core (X := X0) I s1 (.cons h1 .nil fun a _ h4 => by cases h4) (fun Z' H' cn fs od s ex x => x.elim) q1.2 k⟩
/-! .. that may raise -/
section
variable {X : Cx} {CX : CXT} {k : Nat} {f C : Addr} {fd : FuncData} {ps : List Str} {sp : Sp} {E : L2.St → XK} {x m : Str} {p pos apos : Pos} {e o : Expr} {es : List Expr} {ta : TE} {t : TA} {dvs : List V} {ds : List Value}
/-- C(..), __init__ may raise -/
def tMakeS (C : Addr) (sp : Sp) (dvs : List V) (E : L2.St → XK) (t : TA) : TE := fun σ H Q => t σ H fun vs H1 => ∀ x dx, H1 x = none → H1 dx = none → dx ≠ x → sp (.ref x :: (vs ++ dvs)) (upd (upd H1 dx (.own x)) x (.ins C dx [])) (fun v H2 => v = .non ∧ Q (.ref x) H2) (E σ)
theorem run_makeS {pins : List (Addr × Obj)} {σ : L2.St} {H : Hp} {s : Shared} {Q : VK} {us : List Value} {vs : List V} (M : Mk X.K C f) (F : FnOk X.prog X.w X.K X.mg X.base CX k f fd ps sp) (hr : Room (k + 1) X.A) (hb : Binds X.K fd ps ds) (hd : Vals dvs ds) (hx : PassesAt CX X σ (E σ)) (I : Inv X pins σ H s) (r : Vals vs us)
    (h : ∀ x dx, H x = none → H dx = none → dx ≠ x → sp (.ref x :: (vs ++ dvs)) (upd (upd H dx (.own x)) x (.ins C dx [])) (fun v H2 => v = .non ∧ Q (.ref x) H2) (E σ)) : wpAny (model X.prog X.w) X.A (call (.ref C) us) (EP X pins σ Q) X.xe s := by
  have hq := h _ _ (I.hok.fresh (Nat.le_succ s.heap.objs.size)) (I.hok.fresh (Nat.le_refl s.heap.objs.size)) (Nat.ne_of_lt (Nat.lt_succ_self _)); have I2 := Inv.made (C := C) I
  have r2 : Vals (V.ref (s.heap.objs.size + 1) :: (vs ++ dvs)) (Value.ref (s.heap.objs.size + 1) :: (us ++ ds)) := .cons rfl (r.append hd); have hl : (Value.ref (s.heap.objs.size + 1) :: us ++ ds).length = ps.length := (r2.length.symm.trans (F.len _ _ _ _ hq))
  refine wpAny_call (make_map (f := f) I.kIn M.makes M.init (beq_iff_eq.mp M.fn) (codeAny_mono (F.run _ X.stack _ _ ⟨_ :: us, []⟩ _ _ _ (E σ) (hr.make C us []) (I2.env0.make C us []) (hb _ (_ :: us) I2.kIn hl) r2 hq) fun r s' hq' => ?_))
  rcases r with er | fl
  · exact hx pins _ _ er s' I2 hq'
  · cases fl with
    | ret u => obtain ⟨v, H', I3, rv, ev, q3⟩ := I2.after hq'; subst ev; exact ⟨rv, ⟨V.ref (s.heap.objs.size + 1), H', I3, rfl, q3⟩⟩
    | next => exact hq'.elim
    | brk => exact hq'.elim
    | cont => exact hq'.elim
theorem pe_makeS (M : Mk X.K C f) (F : FnOk X.prog X.w X.K X.mg X.base CX k f fd ps sp) (hr : Room (k + 1) X.A) (hg : Gl X x) (hm : X.mg x = some (.ref C)) (hb : Binds X.K fd ps ds) (hd : Vals dvs ds) (hx : ∀ σ, PassesAt CX X σ (E σ)) (ha : PA X (e :: es) t) (hdb : (x == ("__debug__" : Str)) = false := by decide)
    (he : starEach (e :: es) X.env = (false, eval e X.env) :: starEach es X.env := by rfl) (hpl : (backTo pos (starEach es X.env)).any (·.1) = false := by rfl) : PE X (.Call (.Name x p) (e :: es) [] pos) (tMakeS C sp dvs E t) :=
  ⟨fun pins s σ H Q I h => wpAny_Call_Name_kw (ld_glob I hg hm (PySem.W.callWith_K (h₀ := X.base) I.ok.mod.kin M.kp (thn (ha.run pos pins s σ H _ I h) fun us s1 ⟨vs, H1, I1, r, q⟩ => ⟨I1.kIn, run_makeS M F hr hb hd (hx σ) I1 r q⟩) he hpl) hdb)⟩
/-- o.m(..), it may raise -/
def tMethS (C : Addr) (m : Str) (sp : Sp) (dvs : List V) (E : L2.St → XK) (ta : TE) (t : TA) : TE := fun σ H Q => ta σ H fun x H1 => ∃ a dx fs, x = .ref a ∧ H1 a = some (.ins C dx fs) ∧ fs.lookup m = none ∧ t σ H1 fun vs H2 => sp (x :: (vs ++ dvs)) H2 Q (E σ)
theorem pe_methS {pl : Sem Bool} (he : PE X o ta) (c : Cls X.K C) (hm : Meth X.K C m f) (F : FnOk X.prog X.w X.K X.mg X.base CX k f fd ps sp) (hr : Room k X.A) (hb : Binds X.K fd ps ds) (hd : Vals dvs ds) (hx : ∀ σ, PassesAt CX X σ (E σ)) (ha : PA X (e :: es) t)
    (hst : starEach (e :: es) X.env = (false, eval e X.env) :: starEach es X.env := by rfl) (hpl : (backTo pos (starEach es X.env)).any (·.1) = false := by rfl)
    (ht : eval (.Call (.Attribute o m apos) (e :: es) [] pos) X.env = (do let ov ← eval o X.env; standAt apos.atName; let (f, first) ← holding [ov] (getMethod ov m pl); callWith pos f first (backTo pos (starEach (e :: es) X.env)) (backToKw pos (keywordEach [] X.env))) := by rfl) :
    PE X (.Call (.Attribute o m apos) (e :: es) [] pos) (tMethS C m sp dvs E ta t) := by
  refine ⟨fun pins s σ H Q I h => PySem.W.methodCall_KW (pl := pl) (thn (he.run pins s σ H _ I h) fun u s1 ⟨x, H1, I1, rx, a, dx, fs, ex, ea, l, q⟩ => ?_) ht⟩
  subst ex; obtain rfl : u = Value.ref a := rx
  exact getmeth_ok I1 ea c hm l (PySem.W.callWith_K (first := [.ref a]) (h₀ := X.base) I.ok.mod.kin hm.kp (thn (ha.run pos pins s1 σ H1 _ I1 q) fun us s2 ⟨vs, H2, I2, r, q2⟩ => ⟨I2.kIn, run_fnSD (us := .ref a :: us) (vs := .ref a :: vs) F hr hb hd (hx σ) I2 (.cons rfl r) q2⟩) hst hpl)
theorem pe_methS0 {pl : Sem Bool} (he : PE X o ta) (c : Cls X.K C) (hm : Meth X.K C m f) (F : FnOk X.prog X.w X.K X.mg X.base CX k f fd ps sp) (hr : Room k X.A) (hb : Binds X.K fd ps ds) (hd : Vals dvs ds) (hx : ∀ σ, PassesAt CX X σ (E σ))
    (ht : eval (.Call (.Attribute o m apos) [] [] pos) X.env = (do let ov ← eval o X.env; standAt apos.atName; let (f, first) ← holding [ov] (getMethod ov m pl); callWith pos f first (backTo pos (starEach [] X.env)) (backToKw pos (keywordEach [] X.env))) := by rfl) :
    PE X (.Call (.Attribute o m apos) [] [] pos) (tMethS C m sp dvs E ta L2.tNil) := by
  refine ⟨fun pins s σ H Q I h => PySem.W.methodCall_KW (pl := pl) (thn (he.run pins s σ H _ I h) fun u s1 ⟨x, H1, I1, rx, a, dx, fs, ex, ea, l, q⟩ => ?_) ht⟩
  subst ex; obtain rfl : u = Value.ref a := rx
  exact getmeth_ok I1 ea c hm l (PySem.W.callWith_K0 (first := [.ref a]) I1.kIn hm.kp (run_fnSD (us := [.ref a]) (vs := [.ref a]) F hr hb hd (hx σ) I1 (.cons rfl .nil) q))
end
theorem sp_meth {S : DSp} {cn m : String} {ms : Str} {C : Addr} (hC : C = T cn) (hm : ms = Str.ofString m) (ho : SP K T W te ya) (hr : SA K T W n tr yr) : SP K T W (tMethS C ms (spP K T S) [] (WE W) te tr) (yMeth cn m S ya yr) := by
  subst hC hm
  exact fun c Z σ H ρ F Q X I hw q R k => meth_core (X' := X) ho hr c Z σ H ρ F Q X I hw (WE W σ) (fun Z' H' cn fs od s ex x => hw Z' H' cn fs od s ex x) q R k
/-! C(..) -/
theorem IStep.of {p : Addr} (s : PStep Z H Z' H') : IStep p Z H Z' H' := ⟨s.zz, s.zh, fun b o h _ => s.hh b o h, fun b h => same_none s.hh h, fun a e => (s.zn a e).elim .inl fun h => .inr (.inl h)⟩
theorem make_core {dvs : List V} {dd : List D} (hd : ∀ Z B H, OwAll K T Z B H dvs dd []) {S : SpI} {cn : String} {fr : Bool} {σ : L2.St} {ρ : List Y.S} {F G : List Addr} {Q : RV → Prop} {X : XD} {R : VK} {E : XK} {Z1 H1 : Hp} {vs : List V} {rs : List RV} {x dx : Addr} (I : EnvOk K T c Z H σ ρ F) (s1 : PStep Z H Z1 H1) (h1 : RvsG K T c H Z1 H1 F vs rs G)
    (nx : H1 x = none) (nd : H1 dx = none) (ne : dx ≠ x)
    (hw : ∀ Z' H' cn fs od, PStep Z H Z' H' → ExAt K T c Z' H' od fs → X cn fs → E (.ref (T cn)) od H')
    (q : S (rs.map arg ++ dd) (fun d => if rs.any isRd = true then nbor d = true ∧ (if fr = true then Q (.val (fz d)) else Q (.tmp d)) else (if fr = true then Q (.val (fz d)) else Q (.tmp d))) fun cn fs => if rs.any isRd = true then fsD fs = true ∧ X cn fs else X cn fs)
    (k : ∀ v Z' H' r G, PStep Z H Z' H' → RvG K T c H Z' H' F v r G → Q r → R v H') : spN K T cn S (.ref x :: (vs ++ dvs)) (upd (upd H1 dx (.own x)) x (.ins (T cn) dx [])) (fun v H2 => v = .non ∧ R (.ref x) H2) E := by
  have I1 := I.p s1
  obtain ⟨b1, b2, b3⟩ := lentB_ok (c := c) (rs := rs) I1.bh
  have s2 := frz_step s1 h1.free
  have sm : Same H1 (upd (upd H1 dx (.own x)) x (.ins (T cn) dx [])) := fun b o hb => by
    rw [upd_ne (ne_of_none hb nx), upd_ne (ne_of_none hb nd)]
    exact hb
  have st : ∀ {Z' H'}, IStep x (frzZ Z1 H1 G) (upd (upd H1 dx (.own x)) x (.ins (T cn) dx [])) Z' H' → PStep Z H Z' H' := fun {Z' H'} s3 => by
    refine s2.trans ⟨s3.zz, fun b o hb => s3.hh b o (sm b o hb) (ne_of_none hb nx), fun a ha => ?_, s3.zh⟩
    rcases s3.zn a ha with y | y | y
    · exact .inl y
    · exact .inr (same_none sm y)
    · exact .inr (by rw [y]; exact nx)
  refine ⟨frzZ Z1 H1 G, lentB c H1 rs, x, dx, vs ++ dvs, rs.map arg ++ dd, _, _, rfl, upd_same, fun b o hb => sm b o (s2.zh b o hb), fun b o hb => sm b o (b2 b o hb), same_none s2.zh nx, same_none b2 nx, AtAll.append ((args_ok h1 s1.zh b1 b3).still (Same.refl _) (Same.refl _)) (hd _ _ _), q,
    fun Z' H' d G' s3 o nd' hf q2 => ⟨rfl, ?_⟩, fun cn' fs od Z' H' s3 ex q2 => ?_⟩
  · have hfr : ∀ a ∈ G', H a = none ∧ Z' a = none := fun a ha => by
      obtain ⟨h2, h3⟩ := hf a ha
      rcases h2 with h2 | h2
      · exact ⟨same_none s1.hh (same_none sm h2), h3⟩
      · rw [h2] at h3 ⊢
        exact ⟨same_none s1.hh nx, h3⟩
    have fin : Ow K T Z' c.B H' (.ref x) d G' → (if fr = true then Q (.val (fz d)) else Q (.tmp d)) → R (.ref x) H' := fun o q3 => by
      cases fr with
      | true =>
        have hz : ∀ a ∈ G', Z' a = none := fun a ha => (hfr a ha).2
        exact k _ _ H' (.val (fz d)) [] (frz_step (st s3) hfr) ⟨rfl, Ow.frz (frz_same hz) _ _ _ (fun a ha => frz_at a ha) o⟩ q3
      | false => exact k _ Z' H' (.tmp d) G' (st s3) ⟨o, nd', hfr⟩ q3
    by_cases e : rs.any isRd = true
    · rw [if_pos e] at q2
      exact fin (Ow.nobor _ _ _ o q2.1) q2.2
    · rw [if_neg e] at q2
      have : lentB c H1 rs = c.B := if_neg e
      rw [this] at o
      exact fin o q2
  · obtain ⟨ex', q3⟩ := backX_ok (c := c) (H1 := H1) (rs := rs) (show ExAt K T (cz0 (lentB c H1 rs)) Z' H' od fs from by
      cases od with
      | none => exact ex
      | some dx => exact ex) q2
    exact hw Z' H' cn' fs od (st s3) ex' q3
theorem sp_make {dvs : List V} {dd : List D} {S : SpI} {cn : String} {C : Addr} {fr : Bool} (hC : C = T cn) (hd : ∀ Z B H, OwAll K T Z B H dvs dd []) (hr : SA K T W n tr yr) : SP K T W (tMakeS C (spN K T cn S) dvs (WE W) tr) (yMake fr dd S yr) := by
  subst hC
  exact fun c Z σ H ρ F Q X I hw q R k => hr c Z σ H ρ F _ X I hw q _ fun vs Z1 H1 rs G s1 h1 hl q1 => fun x dx nx nd ne =>
    make_core hd I s1 h1 nx nd ne (fun Z' H' cn fs od s ex x => hw Z' H' cn fs od s ex x) q1 k
theorem sp_makeN {dvs : List V} {dd : List D} {S : SpI} {cn : String} {C : Addr} {fr : Bool} {E : XK} (hC : C = T cn) (hd : ∀ Z B H, OwAll K T Z B H dvs dd []) (hr : SA K T W n tr yr) : SP K T W (tMake C (spN K T cn S) dvs E tr) (yMakeN fr dd S yr) := by
  subst hC
  exact fun c Z σ H ρ F Q X I hw q R k => hr c Z σ H ρ F _ X I hw q _ fun vs Z1 H1 rs G s1 h1 hl q1 => fun x dx nx nd ne => by
    have ex : (fun cn fs => if rs.any isRd = true then fsD fs = true ∧ X0 cn fs else X0 cn fs) = X0 := by
      funext cn fs
      by_cases h : rs.any isRd = true
      · rw [if_pos h]
        exact propext ⟨fun h => h.2.elim, fun h => h.elim⟩
      · rw [if_neg h]
    exact make_core (X := X0) hd I s1 h1 nx nd ne (fun Z' H' cn fs od s ex x => x.elim) (by rw [ex]; exact q1) k
end
end Y

/-! YF: names given anew, paths into what a name owns, changes there. -/
namespace Y
open PySem PySem.Spec PyProof.Rows L2

section
variable {K : PySem.W.Frag} {T : Tb} {W : WX} {c : Cz} {Z B H Z' H' : Hp} {σ : L2.St} {ρ : List S} {F G : List Addr} {v : V} {te ti tv : TE} {ya yb : YP}
/-- what may come to be own -/
def Fresh (c : Cz) (Z : Hp) (F G : List Addr) : Prop := ∀ a ∈ G, a ∉ F ∧ Z a = none ∧ c.B a = none ∧ (c.H0 a = none ∨ a ∈ c.W)
theorem nodup3 {α : Type} {F1 F2 X G : List α} (n : (F1 ++ (X ++ F2)).Nodup) (g : G.Nodup) (h : ∀ a ∈ G, a ∈ X ∨ a ∉ F1 ++ (X ++ F2)) : (F1 ++ (G ++ F2)).Nodup := by
  rw [List.nodup_append] at n ⊢
  obtain ⟨n1, n2, n3⟩ := n
  rw [List.nodup_append] at n2 ⊢
  obtain ⟨n4, n5, n6⟩ := n2
  refine ⟨n1, ⟨g, n5, fun a ha b hb e => ?_⟩, fun a ha b hb e => ?_⟩
  · subst e
    rcases h a ha with z | z
    · exact n6 a z a hb rfl
    · exact z (List.mem_append_right _ (List.mem_append_right _ hb))
  · subst e
    rcases List.mem_append.mp hb with hb | hb
    · rcases h a hb with z | z
      · exact n3 a ha a (List.mem_append_left _ z) rfl
      · exact z (List.mem_append_left _ ha)
    · exact n3 a ha a (List.mem_append_right _ hb) rfl
/-- a name is given something -/
theorem EnvOk.put (I : EnvOk K T c Z H σ ρ F) {i : Nat} {o : Option V} {s : S} (h : SlotOk K T c Z H o s G) (g : G.Nodup) (fr : Fresh c Z F G) : ∃ F', EnvOk K T c Z H (σ.set i o) (ρ.set i s) F' ∧ ∀ a ∈ F', a ∈ F ∨ a ∈ G := by
  by_cases hi : i < ρ.length
  · obtain ⟨o0, F1, Fi, F2, e1, e2, e3, e4⟩ := I.sl.get (List.getElem?_eq_getElem hi)
    have nd : (F1 ++ (Fi ++ F2)).Nodup := by rw [← e2]; exact I.nd
    refine ⟨F1 ++ (G ++ F2), ⟨I.zh, I.bh, I.sm, I.tr, e4 o s G Z H (Same.refl _) (fun _ _ => rfl) (fun _ _ => rfl) h, fun a ha => ?_, nodup3 nd g fun a ha => .inr (by rw [← e2]; exact (fr a ha).1), I.zn⟩, fun a ha => ?_⟩
    · rcases List.mem_append.mp ha with ha | ha
      · exact I.fr a (by rw [e2]; exact List.mem_append_left _ ha)
      · rcases List.mem_append.mp ha with ha | ha
        · exact (fr a ha).2
        · exact I.fr a (by rw [e2]; exact List.mem_append_right _ (List.mem_append_right _ ha))
    · rcases List.mem_append.mp ha with ha | ha
      · exact .inl (by rw [e2]; exact List.mem_append_left _ ha)
      · rcases List.mem_append.mp ha with ha | ha
        · exact .inr ha
        · exact .inl (by rw [e2]; exact List.mem_append_right _ (List.mem_append_right _ ha))
  · have hs := I.sl.len
    rw [List.set_eq_of_length_le (by omega), List.set_eq_of_length_le (by omega)]
    exact ⟨F, I, fun a ha => .inl ha⟩
theorem EnvOk.putV (I : EnvOk K T c Z H σ ρ F) {i : Nat} {d : D} (h : Ow K T Z c.B H v d []) : ∃ F', EnvOk K T c Z H (σ.set i (some v)) (ρ.set i (.val d)) F' ∧ ∀ a ∈ F', a ∈ F := by
  obtain ⟨F', h1, h2⟩ := I.put (i := i) (o := some v) (s := .val d) (G := []) ⟨rfl, v, rfl, h⟩ List.nodup_nil fun a ha => by cases ha
  exact ⟨F', h1, fun a ha => (h2 a ha).elim id fun z => by cases z⟩
/-- a name is forgotten: its value stays as it is -/
theorem EnvOk.kill (I : EnvOk K T c Z H σ ρ F) {i : Nat} : ∃ F', EnvOk K T c Z H σ (ρ.set i .no) F' ∧ ∀ a ∈ F', a ∈ F := by
  by_cases hi : i < σ.length
  · obtain ⟨F', h1, h2⟩ := I.put (i := i) (o := σ[i]) (s := .no) (G := []) rfl List.nodup_nil fun a ha => by cases ha
    rw [List.set_getElem_self] at h1
    exact ⟨F', h1, fun a ha => (h2 a ha).elim id fun z => by cases z⟩
  · have hs := I.sl.len
    rw [List.set_eq_of_length_le (by omega)]
    exact ⟨F, I, fun a ha => ha⟩
theorem EnvOk.wipe (I : EnvOk K T c Z H σ ρ F) : ∀ is : List Nat, ∃ F', EnvOk K T c Z H σ (Y.wipe ρ is) F' ∧ ∀ a ∈ F', a ∈ F
  | [] => ⟨F, I, fun a ha => ha⟩
  | i :: is => by
    obtain ⟨F1, h1, h2⟩ := EnvOk.wipe I is
    obtain ⟨F2, h3, h4⟩ := h1.kill (i := i)
    exact ⟨F2, h3, fun a ha => h2 a (h4 a ha)⟩
/-! ### paths -/
def kid (H : Hp) (a : Addr) (n : Nat) : Option V := match H a with
  | some (.lst xs) => xs[n]?
  | some (.ins _ _ fs) => (fs.map (·.2))[n]?
  | _ => none
inductive Pth (H : Hp) : V → D → List Stp → V → D → Prop
  | nil {v : V} {d : D} : Pth H v d [] v d
  | cons {a : Addr} {d e : D} {s : Stp} {π : List Stp} {n : Nat} {w v' : V} {d' : D} : stepN d s = some n → (kids d)[n]? = some e → kid H a n = some w → Pth H w e π v' d' → Pth H (.ref a) d (s :: π) v' d'
theorem Pth.same {v v' : V} {d d' : D} {π : List Stp} (h : Pth H v d π v' d') (s : Same H H') : Pth H' v d π v' d' := by
  induction h with
  | nil => exact .nil
  | cons h1 h2 h3 _ ih =>
    refine .cons h1 h2 ?_ ih
    unfold kid at h3 ⊢
    split at h3
    · rename_i e; rw [s _ _ e]; exact h3
    · rename_i e; rw [s _ _ e]; exact h3
    · cases h3
theorem Pth.snoc {v : V} {d d' e : D} {π : List Stp} {a : Addr} {s : Stp} {n : Nat} {w : V} (h : Pth H v d π (.ref a) d') (h1 : stepN d' s = some n) (h2 : (kids d')[n]? = some e) (h3 : kid H a n = some w) : Pth H v d (π ++ [s]) w e := by
  generalize ev : V.ref a = x at h
  induction h with
  | nil => subst ev; exact .cons h1 h2 h3 .nil
  | cons g1 g2 g3 _ ih => exact .cons g1 g2 g3 (ih h1 h2 ev)
theorem OwAll.split : ∀ {ds : List D} {vs : List V} {F : List Addr} {n : Nat} {e : D}, OwAll K T Z B H vs ds F → ds[n]? = some e → ∃ w F1 Fe F2, vs[n]? = some w ∧ Ow K T Z B H w e Fe ∧ F = F1 ++ (Fe ++ F2) ∧
    ∀ (Z' H' : Hp) (w' : V) (e' : D) (G : List Addr), Same Z Z' → (∀ a ∈ F1, H' a = H a) → (∀ a ∈ F2, H' a = H a) → Ow K T Z' B H' w' e' G → OwAll K T Z' B H' (vs.set n w') (ds.set n e') (F1 ++ (G ++ F2))
  | _, _, _, _, _, .nil, e => by simp at e
  | _, _, _, 0, _, .cons h t, e => by
    simp at e
    subst e
    exact ⟨_, [], _, _, rfl, h, rfl, fun Z' H' w' e' G z _ k2 o => by rw [List.nil_append]; exact .cons o (OwAll.mono z (Same.refl _) _ _ _ k2 t)⟩
  | _, _, _, n + 1, _, .cons (F := Fh) h t, e => by
    obtain ⟨w, F1, Fe, F2, e1, e2, e3, e4⟩ := OwAll.split (n := n) t (by simpa using e)
    refine ⟨w, Fh ++ F1, Fe, F2, by simpa using e1, e2, by rw [e3, List.append_assoc], fun Z' H' w' e' G z k1 k2 o => ?_⟩
    rw [List.append_assoc]
    exact .cons (Ow.mono z (Same.refl _) _ _ _ (fun a ha => k1 a (List.mem_append_left _ ha)) h) (e4 Z' H' w' e' G z (fun a ha => k1 a (List.mem_append_right _ ha)) k2 o)
theorem set_self {α : Type} {l : List α} {n : Nat} {x : α} (h : l[n]? = some x) : l.set n x = l := by
  obtain ⟨h1, h2⟩ := List.getElem?_eq_some_iff.mp h
  subst h2
  rw [List.set_getElem_self]
/-- what is at a path, what is around it, and how it is put together again -/
theorem Pth.split {v v' : V} {d d' : D} {π : List Stp} (h : Pth H v d π v' d') : ∀ {F : List Addr}, Ow K T Z B H v d F → ∃ F1 Fe F2, Ow K T Z B H v' d' Fe ∧ F = F1 ++ (Fe ++ F2) ∧
    ∀ (Z' H' : Hp) (e' : D) (G : List Addr), Same Z Z' → (∀ a ∈ F1, H' a = H a) → (∀ a ∈ F2, H' a = H a) → Ow K T Z' B H' v' e' G → Ow K T Z' B H' v (Y.put d π e') (F1 ++ (G ++ F2)) := by
  induction h with
  | nil => exact fun {F} o => ⟨[], F, [], o, by simp, fun Z' H' e' G z _ _ o' => by simpa [Y.put] using o'⟩
  | @cons a d e s π n w v' d' h1 h2 h3 _ ih =>
    intro F o
    cases o with
    | @lst _ m xs ds F' _ c1 o1 f1 =>
      cases m with
      | own =>
        have f1 : F = a :: F' := f1
        subst f1
        have c1 : H a = some (.lst xs) := c1
        obtain ⟨w', F1, Fe, F2, e1, e2, e3, e4⟩ := o1.split (n := n) h2
        have : w' = w := by
          unfold kid at h3
          rw [c1] at h3
          have h3 : xs[n]? = some w := h3
          rw [h3] at e1
          exact (Option.some.inj e1).symm
        subst this
        obtain ⟨G1, Ge, G2, i1, i2, i3⟩ := ih e2
        refine ⟨a :: (F1 ++ G1), Ge, G2 ++ F2, i1, by rw [e3, i2]; simp, fun Z' H' e' G z k1 k2 o' => ?_⟩
        have oc := i3 Z' H' e' G z (fun b hb => k1 b (List.mem_cons_of_mem _ (List.mem_append_right _ hb))) (fun b hb => k2 b (List.mem_append_left _ hb)) o'
        have oa := e4 Z' H' w' _ _ z (fun b hb => k1 b (List.mem_cons_of_mem _ (List.mem_append_left _ hb))) (fun b hb => k2 b (List.mem_append_right _ hb)) oc
        rw [set_self e1] at oa
        have ep : Y.put (.lst .own ds) (s :: π) e' = .lst .own (ds.set n (Y.put e π e')) := by
          simp only [Y.put, h1, h2, setKid]
        rw [ep]
        exact .lst (m := .own) (show H' a = some (.lst xs) by rw [k1 a List.mem_cons_self]; exact c1) oa (show _ = _ by simp)
      | frz => cases h1
      | bor => cases h1
    | @obj _ dx m cn fs ns ds F' _ c1 c2 o1 f1 g =>
      cases m with
      | own =>
        have f1 : F = a :: F' := f1
        subst f1
        have c1 : H a = some (.ins (T cn) dx fs) := c1
        obtain ⟨w', F1, Fe, F2, e1, e2, e3, e4⟩ := o1.split (n := n) h2
        have : w' = w := by
          unfold kid at h3
          rw [c1] at h3
          have h3 : (fs.map (·.2))[n]? = some w := h3
          rw [h3] at e1
          exact (Option.some.inj e1).symm
        subst this
        obtain ⟨G1, Ge, G2, i1, i2, i3⟩ := ih e2
        refine ⟨a :: (F1 ++ G1), Ge, G2 ++ F2, i1, by rw [e3, i2]; simp, fun Z' H' e' G z k1 k2 o' => ?_⟩
        have oc := i3 Z' H' e' G z (fun b hb => k1 b (List.mem_cons_of_mem _ (List.mem_append_right _ hb))) (fun b hb => k2 b (List.mem_append_left _ hb)) o'
        have oa := e4 Z' H' w' _ _ z (fun b hb => k1 b (List.mem_cons_of_mem _ (List.mem_append_left _ hb))) (fun b hb => k2 b (List.mem_append_right _ hb)) oc
        rw [set_self e1] at oa
        have ep : Y.put (.obj .own cn ns ds) (s :: π) e' = .obj .own cn ns (ds.set n (Y.put e π e')) := by
          simp only [Y.put, h1, h2, setKid]
        rw [ep]
        exact .obj (m := .own) (show H' a = some (.ins (T cn) dx fs) by rw [k1 a List.mem_cons_self]; exact c1) c2 oa (show _ = _ by simp) g
      | frz => cases h1
      | bor => cases h1
    | dct _ _ _ _ => cases h1
    | tup _ _ => cases h1
    | src _ _ => cases h1
    | scr _ => cases h1
    | cel _ => cases h1
    | glb _ => cases h1
/-- where a path leads from a name -/
structure PAt (H : Hp) (σ : L2.St) (ρ : List S) (i : Nat) (π : List Stp) (v : V) (d : D) : Prop where
  ex : ∃ v0 r0 d0, σ[i]? = some (some v0) ∧ ρ[i]? = some (.own r0 d0) ∧ Pth H v0 d0 π v d
theorem PAt.same {i : Nat} {π : List Stp} {d : D} (h : PAt H σ ρ i π v d) (s : Same H H') : PAt H' σ ρ i π v d := by
  obtain ⟨v0, r0, d0, h1, h2, h3⟩ := h.ex
  exact ⟨v0, r0, d0, h1, h2, h3.same s⟩
theorem PAt.ow {i : Nat} {π : List Stp} {d : D} (h : PAt H σ ρ i π v d) (I : EnvOk K T c Z H σ ρ F) : ∃ G, Ow K T Z c.B H v d G ∧ ∀ a ∈ G, a ∈ F := by
  obtain ⟨v0, r0, d0, h1, h2, h3⟩ := h.ex
  obtain ⟨o, F1, Fi, F2, e1, e2, e3, e4⟩ := I.sl.get h2
  obtain ⟨v1, e5, e7, o1⟩ := e3
  rw [h1] at e1
  have : v0 = v1 := by rw [e5] at e1; exact Option.some.inj (Option.some.inj e1)
  subst this
  obtain ⟨G1, Ge, G2, i1, i2, i3⟩ := h3.split o1
  exact ⟨Ge, i1, fun a ha => by rw [e2, i2]; exact List.mem_append_right _ (List.mem_append_left _ (List.mem_append_right _ (List.mem_append_left _ ha)))⟩
/-- the tree at a path is changed -/
theorem EnvOk.upd (I : EnvOk K T c Z H σ ρ F) {i : Nat} {π : List Stp} {a : Addr} {d d' : D} {o' : HO} (h : PAt H σ ρ i π (.ref a) d) (zz : Same Z Z') (zh : Same Z' (L2.upd H a o')) (zn : ∀ b ∈ F, Z' b = none) (zi : ∀ b, Z' b ≠ none → c.Zi b ≠ none ∨ c.H0 b = none ∨ b ∈ c.W)
    (ha : H a ≠ none) (af : a ∈ F)
    (k : ∀ Fe, Ow K T Z c.B H (.ref a) d Fe → (∀ b ∈ Fe, b ∈ F) → Fe.Nodup → ∃ G, Ow K T Z' c.B (L2.upd H a o') (.ref a) d' G ∧ G.Nodup ∧ a ∈ Fe ∧ ∀ b ∈ G, b ∈ Fe ∨ (b ∉ F ∧ Z' b = none ∧ c.B b = none ∧ (c.H0 b = none ∨ b ∈ c.W))) :
    ∃ F', EnvOk K T c Z' (L2.upd H a o') σ (upS ρ i π d') F' := by
  obtain ⟨v0, r0, d0, h1, h2, h3⟩ := h.ex
  obtain ⟨o, F1, Fi, F2, e1, e2, e3, e4⟩ := I.sl.get h2
  obtain ⟨v1, e5, e7, o1⟩ := e3
  rw [h1] at e1
  have e6 : o = some v0 := (Option.some.inj e1).symm
  subst e6
  have : v0 = v1 := Option.some.inj e5
  subst this
  obtain ⟨G1, Ge, G2, i1, i2, i3⟩ := h3.split o1
  have inF : ∀ b ∈ Ge, b ∈ F := fun b hb => by rw [e2, i2]; exact List.mem_append_right _ (List.mem_append_left _ (List.mem_append_right _ (List.mem_append_left _ hb)))
  have nd := I.nd
  rw [e2, i2] at nd
  have ndE : Ge.Nodup := by
    have n1 := (List.nodup_append.mp nd).2.1
    have n2 := (List.nodup_append.mp n1).1
    have n3 := (List.nodup_append.mp n2).2.1
    exact (List.nodup_append.mp n3).1
  obtain ⟨G, o2, g, aE, hG⟩ := k Ge i1 inF ndE
  have fr3 : (F1 ++ G1 ++ (Ge ++ (G2 ++ F2))).Nodup := by
    have : F1 ++ G1 ++ (Ge ++ (G2 ++ F2)) = F1 ++ (G1 ++ (Ge ++ G2) ++ F2) := by simp
    rw [this]
    exact nd
  have ne : ∀ b, b ∈ F1 ∨ b ∈ G1 ∨ b ∈ G2 ∨ b ∈ F2 → b ≠ a := fun b hb e => by
    subst e
    rw [List.nodup_append] at fr3
    obtain ⟨_, m2, m3⟩ := fr3
    rw [List.nodup_append] at m2
    rcases hb with hb | hb | hb | hb
    · exact m3 b (List.mem_append_left _ hb) b (List.mem_append_left _ aE) rfl
    · exact m3 b (List.mem_append_right _ hb) b (List.mem_append_left _ aE) rfl
    · exact m2.2.2 b aE b (List.mem_append_left _ hb) rfl
    · exact m2.2.2 b aE b (List.mem_append_right _ hb) rfl
  have ow := i3 Z' (L2.upd H a o') d' G zz (fun b hb => upd_ne (ne b (.inr (.inl hb)))) (fun b hb => upd_ne (ne b (.inr (.inr (.inl hb))))) o2
  have sl := e4 (some v0) (.own r0 (Y.put d0 π d')) _ Z' (L2.upd H a o') zz (fun b hb => upd_ne (ne b (.inl hb))) (fun b hb => upd_ne (ne b (.inr (.inr (.inr hb))))) ⟨v0, rfl, e7, ow⟩
  rw [set_self (show σ[i]? = some (some v0) from h1)] at sl
  have eu : upS ρ i π d' = ρ.set i (.own r0 (Y.put d0 π d')) := by
    unfold upS
    rw [h2]
  rw [eu]
  have eF : F = F1 ++ G1 ++ (Ge ++ (G2 ++ F2)) := by rw [e2, i2]; simp
  have eq : F1 ++ (G1 ++ (G ++ G2) ++ F2) = F1 ++ G1 ++ (G ++ (G2 ++ F2)) := by simp
  refine ⟨_, ⟨zh, fun b u e => ?_, fun b u e n => ?_, fun b e => ?_, sl, fun b hb => ?_, ?_, zi⟩⟩
  · have : b ≠ a := fun z => by
      subst z
      rw [(I.fr b af).2.1] at e
      cases e
    rw [upd_ne this]
    exact I.bh b u e
  · have : b ≠ a := fun z => by
      subst z
      rcases (I.fr b af).2.2 with y | y
      · rw [y] at e; cases e
      · exact n y
    rw [upd_ne this]
    exact I.sm b u e n
  · by_cases hb : b = a
    · subst hb
      rw [upd_same] at e
      cases e
    · rw [upd_ne hb] at e
      exact I.tr b e
  · have old : ∀ b ∈ F, Z' b = none ∧ c.B b = none ∧ (c.H0 b = none ∨ b ∈ c.W) := fun b hb => ⟨zn b hb, (I.fr b hb).2⟩
    rw [eq] at hb
    rcases List.mem_append.mp hb with hb | hb
    · exact old b (by rw [eF]; exact List.mem_append_left _ hb)
    · rcases List.mem_append.mp hb with hb | hb
      · rcases hG b hb with y | y
        · exact old b (inF b y)
        · exact y.2
      · exact old b (by rw [eF]; exact List.mem_append_right _ (List.mem_append_right _ hb))
  · rw [eq]
    exact nodup3 fr3 g fun b hb => by
      rcases hG b hb with y | y
      · exact .inl y
      · exact .inr (by rw [← eF]; exact y.1)
end
end Y

/-! YG: statements. -/
namespace Y
open PySem PySem.Spec PyProof.Rows L2
section
variable {K : PySem.W.Frag} {T : Tb} {W : WX} {c : Cz} {Z B H Z' B' H' : Hp} {σ : L2.St} {ρ : List S} {F G : List Addr} {v : V} {te ti tv : TE} {ya yb : YP} {ye : YE} {tt uu : TT} {yt : YBE} {t u : TS} {a b : YS} {g : TG} {p : Pat} {r : RV}
theorem RvE.tmpS {d : D} (h : RvE K T c Z H F v (.tmp d)) : ∃ G, SlotOk K T c Z H (some v) (.own none d) G ∧ G.Nodup ∧ Fresh c Z F G := by
  obtain ⟨G, h1, h2, h3⟩ := h
  exact ⟨G, ⟨v, rfl, fun a z => (by cases z), h1⟩, h2, h3⟩
/-- steps that let what is nobody's stand still -/
theorem EnvOk.frz (I : EnvOk K T c Z H σ ρ F) (fr : Fresh c Z F G) : EnvOk K T c (frzZ Z H G) H σ ρ F := by
  have sm : Same Z (frzZ Z H G) := frz_same fun a ha => (fr a ha).2.1
  refine ⟨fun a o e => ?_, I.bh, I.sm, I.tr, I.sl.mono sm fun _ _ => rfl, fun a ha => ⟨?_, (I.fr a ha).2⟩, I.nd, fun a e => ?_⟩
  · unfold frzZ at e
    by_cases ha : a ∈ G
    · rw [if_pos ha] at e; exact e
    · rw [if_neg ha] at e; exact I.zh _ _ e
  · unfold frzZ
    rw [if_neg fun hg => (fr a hg).1 ha]
    exact (I.fr a ha).1
  · by_cases ha : a ∈ G
    · exact .inr (fr a ha).2.2.2
    · have : frzZ Z H G a = Z a := if_neg ha
      rw [this] at e
      exact I.zn a e
/-- what comes of an expression stands still -/
theorem RvE.still {Q : D → Prop} (h : RvE K T c Z H F v r) (I : EnvOk K T c Z H σ ρ F) (q : Y.still false r Q) : ∃ d Z', Q d ∧ Same Z Z' ∧ EnvOk K T c Z' H σ ρ F ∧ Ow K T Z' c.B H v d [] := by
  cases r with
  | val d => exact ⟨d, Z, q, Same.refl _, I, h⟩
  | tmp d =>
    obtain ⟨G, h1, h2, h3⟩ := h
    exact ⟨fz d, frzZ Z H G, q, frz_same fun a ha => (h3 a ha).2.1, I.frz h3, Ow.frz (frz_same fun a ha => (h3 a ha).2.1) _ _ _ (fun a ha => frz_at a ha) h1⟩
  | rd d => exact False.elim q
theorem ss_next : SS K T W tNext sNext := fun c Z σ H ρ F k I hx q E ok => ok.nx Z σ H ρ F (Same.refl _) I q
theorem ss_brk : SS K T W tBreak sBrk := fun c Z σ H ρ F k I hx q E ok => ok.bk Z σ H ρ F (Same.refl _) I q
theorem ss_cont : SS K T W tCont sCont := fun c Z σ H ρ F k I hx q E ok => ok.ct Z σ H ρ F (Same.refl _) I q
theorem ss_never {t : TS} : SS K T W t sNever := fun c Z σ H ρ F k I hx q E ok => q.elim
theorem ss_seq (ha : SS K T W t a) (hb : SS K T W u b) : SS K T W (tSeq t u) (sSeq a b) := fun c Z σ H ρ F k I hx q E ok =>
  ha c Z σ H ρ F (k.wnx (Nx fun ρ => b ρ k)) I hx q { E with nx := u E } ⟨fun Z' σ' H' ρ' F' z J q' => hb c Z' σ' H' ρ' F' k J (hx.z z) q'.go E (ok.z z), ok.rt, ok.bk, ok.ct⟩
theorem ss_if (ht : SBE K T W tt yt) (ha : SS K T W t a) (hb : SS K T W u b) : SS K T W (tIfS tt t u) (sIf yt a b) := fun c Z σ H ρ F k I hx q E ok =>
  ht c Z σ H ρ F _ _ I hx.at q _ fun d Z' H' ρ' F' z J q' => by
    cases d with
    | true => exact ha c Z' σ H' ρ' F' k J (hx.z z) (q'.t rfl) E (ok.z z)
    | false => exact hb c Z' σ H' ρ' F' k J (hx.z z) (q'.f rfl) E (ok.z z)
theorem ss_drop (he : SE K T W te ye) : SS K T W (tDrop te) (sDrop ye) := fun c Z σ H ρ F k I hx q E ok => he c Z σ H ρ F _ _ I hx.at q _ fun v Z' H' ρ' F' r z J hr q' => ok.nx Z' σ H' ρ' F' z J q'
theorem ss_asg {i : Nat} (he : SE K T W te ye) : SS K T W (tAsg te (gName i)) (sAsg i ye) := fun c Z σ H ρ F k I hx q E ok => he c Z σ H ρ F _ _ I hx.at q _ fun v Z' H' ρ' F' r z J hr q' => by
  cases r with
  | val d =>
    obtain ⟨F2, J2, _⟩ := J.putV (i := i) (d := d) hr
    exact ok.nx Z' _ H' _ F2 z J2 q'
  | tmp d =>
    obtain ⟨G, h1, h2, h3⟩ := hr.tmpS
    obtain ⟨F2, J2, _⟩ := J.put (i := i) h1 h2 h3
    exact ok.nx Z' _ H' _ F2 z J2 q'
  | rd d => exact False.elim q'
theorem ss_asgF {i : Nat} (he : SE K T W te ye) : SS K T W (tAsg te (gName i)) (sAsgF i ye) := fun c Z σ H ρ F k I hx q E ok => he c Z σ H ρ F _ _ I hx.at q _ fun v Z' H' ρ' F' r z J hr q' => by
  obtain ⟨d, Z2, q2, z2, J2, o⟩ := hr.still J q'
  obtain ⟨F3, J3, _⟩ := J2.putV (i := i) o
  exact ok.nx Z2 _ H' _ F3 (Same.tr z z2) J3 q2
theorem ss_ret (he : SE K T W te ye) : SS K T W (tRet te) (sRet ye) := fun c Z σ H ρ F k I hx q E ok => he c Z σ H ρ F _ _ I hx.at q _ fun v Z' H' ρ' F' r z J hr q' => by
  cases r with
  | val d => exact ok.rt v Z' σ H' ρ' F' _ z J hr rfl q'
  | tmp d => exact ok.rt v Z' σ H' ρ' F' _ z J hr rfl q'
  | rd d => exact False.elim q'
theorem ss_retN : SS K T W tRetN sRetN := fun c Z σ H ρ F k I hx q E ok => ok.rt .non Z σ H ρ F (.val .non) (Same.refl _) I .non rfl q
theorem ss_retO {i : Nat} : SS K T W (tRet (tVar i)) (sRetO i) := fun c Z σ H ρ F k I hx q E ok => by
  unfold sRetO at q
  split at q
  · rename_i d e
    obtain ⟨o, F1, Fi, F2, e1, e2, e3, _⟩ := I.sl.get e
    obtain ⟨h1, w, rfl, h2⟩ := e3
    exact ⟨w, e1, ok.rt w Z σ H ρ F (.val d) (Same.refl _) I h2 rfl q⟩
  · rename_i d e
    obtain ⟨o, F1, Fi, F2, e1, e2, e3, e4⟩ := I.sl.get e
    obtain ⟨w, rfl, _, h2⟩ := e3
    have sl := e4 (some w) .no [] Z H (Same.refl _) (fun _ _ => rfl) (fun _ _ => rfl) rfl
    rw [set_self e1] at sl
    have nd := I.nd
    rw [e2] at nd
    have mem : ∀ a ∈ F1 ++ ([] ++ F2), a ∈ F := fun a ha => by
      rw [e2]
      rcases List.mem_append.mp ha with ha | ha
      · exact List.mem_append_left _ ha
      · exact List.mem_append_right _ (List.mem_append_right _ (by simpa using ha))
    have J : EnvOk K T c Z H σ (ρ.set i .no) (F1 ++ ([] ++ F2)) := ⟨I.zh, I.bh, I.sm, I.tr, sl, fun a ha => I.fr a (mem a ha), nodup3 nd List.nodup_nil fun a ha => (by cases ha), I.zn⟩
    refine ⟨w, e1, ok.rt w Z σ H _ _ (.tmp d) (Same.refl _) J ⟨Fi, h2, ?_, fun a ha => ⟨fun hf => ?_, I.fr a (by rw [e2]; exact List.mem_append_right _ (List.mem_append_left _ ha))⟩⟩ rfl q⟩
    · exact (List.nodup_append.mp (List.nodup_append.mp nd).2.1).1
    · rw [List.nodup_append] at nd
      obtain ⟨n1, n2, n3⟩ := nd
      rw [List.nodup_append] at n2
      rcases List.mem_append.mp hf with hf | hf
      · exact n3 a hf a (List.mem_append_left _ ha) rfl
      · exact n2.2.2 a ha a (by simpa using hf) rfl
  · exact q.elim
/-! ghost steps -/
theorem ss_fz {i : Nat} (h : SS K T W t a) : SS K T W t (sFz i a) := fun c Z σ H ρ F k I hx q E ok => by
  unfold sFz at q
  split at q
  · rename_i d e
    obtain ⟨o, F1, Fi, F2, e1, e2, e3, e4⟩ := I.sl.get e
    obtain ⟨w, rfl, _, h2⟩ := e3
    have nd := I.nd
    rw [e2] at nd
    have inF : ∀ a ∈ Fi, a ∈ F := fun a ha => by rw [e2]; exact List.mem_append_right _ (List.mem_append_left _ ha)
    have hz : ∀ a ∈ Fi, Z a = none := fun a ha => (I.fr a (inF a ha)).1
    have sm : Same Z (frzZ Z H Fi) := frz_same hz
    have ow := Ow.frz sm _ _ _ (fun a ha => frz_at a ha) h2
    have sl := e4 (some w) (.val (fz d)) [] (frzZ Z H Fi) H sm (fun _ _ => rfl) (fun _ _ => rfl) ⟨rfl, w, rfl, ow⟩
    rw [set_self e1] at sl
    have mem : ∀ a ∈ F1 ++ ([] ++ F2), a ∈ F ∧ a ∉ Fi := fun a ha => by
      rw [List.nodup_append] at nd
      obtain ⟨n1, n2, n3⟩ := nd
      rw [List.nodup_append] at n2
      rcases List.mem_append.mp ha with ha | ha
      · exact ⟨by rw [e2]; exact List.mem_append_left _ ha, fun hf => n3 a ha a (List.mem_append_left _ hf) rfl⟩
      · have ha : a ∈ F2 := by simpa using ha
        exact ⟨by rw [e2]; exact List.mem_append_right _ (List.mem_append_right _ ha), fun hf => n2.2.2 a hf a ha rfl⟩
    have J : EnvOk K T c (frzZ Z H Fi) H σ (ρ.set i (.val (fz d))) (F1 ++ ([] ++ F2)) := by
      refine ⟨fun a o e => ?_, I.bh, I.sm, I.tr, sl, fun a ha => ⟨?_, (I.fr a (mem a ha).1).2⟩, nodup3 nd List.nodup_nil fun a ha => (by cases ha), fun a e => ?_⟩
      · unfold frzZ at e
        by_cases ha : a ∈ Fi
        · rw [if_pos ha] at e; exact e
        · rw [if_neg ha] at e; exact I.zh _ _ e
      · unfold frzZ
        rw [if_neg (mem a ha).2]
        exact (I.fr a (mem a ha).1).1
      · by_cases ha : a ∈ Fi
        · exact .inr (I.fr a (inF a ha)).2.2
        · have : frzZ Z H Fi a = Z a := if_neg ha
          rw [this] at e
          exact I.zn a e
    exact h c _ σ H _ _ k J (hx.z sm) q E (ok.z sm)
  · exact h c Z σ H ρ F k I hx q E ok
  · exact q.elim
theorem ss_kill {is : List Nat} (h : SS K T W t a) : SS K T W t (sKill is a) := fun c Z σ H ρ F k I hx q E ok => by
  obtain ⟨F', J, _⟩ := I.wipe is
  exact h c Z σ H _ F' k J hx q E ok
/-! targets -/
def SG (K : PySem.W.Frag) (T : Tb) (g : TG) (p : Pat) : Prop := ∀ (c : Cz) (Z : Hp) (σ : L2.St) (H : Hp) (ρ : List S) (F : List Addr) (v : V) (d : D) (Q : List S → Prop), EnvOk K T c Z H σ ρ F → Ow K T Z c.B H v d [] → bind p d ρ Q →
  ∀ R : L2.St → Hp → Prop, (∀ σ' ρ' F', EnvOk K T c Z H σ' ρ' F' → (∀ a ∈ F', a ∈ F) → Q ρ' → R σ' H) → g v σ H R
theorem sg_nm {i : Nat} : SG K T (gName i) (.nm i) := fun c Z σ H ρ F v d Q I o q R k => by
  obtain ⟨F', J, h⟩ := I.putV (i := i) o
  exact k _ _ F' J h q
def gNames : List Nat → TGs
  | [] => gNil
  | i :: is => gCons (gName i) (gNames is)
theorem names_ok {c : Cz} {Z H : Hp} {R : L2.St → Hp → Prop} : ∀ {is : List Nat} {vs : List V} {ds : List D} {σ : L2.St} {ρ : List S} {F : List Addr}, EnvOk K T c Z H σ ρ F → OwAll K T Z c.B H vs ds [] → ds.length = is.length →
    (∀ σ' F', EnvOk K T c Z H σ' (setAll is ds ρ) F' → (∀ a ∈ F', a ∈ F) → R σ' H) → gNames is vs σ H R
  | [], [], [], σ, ρ, F, I, _, _, k => ⟨rfl, k σ F I fun a ha => ha⟩
  | [], _, _ :: _, _, _, _, _, _, h, _ => by simp at h
  | [], _ :: _, [], _, _, _, _, o, _, _ => by cases o
  | _ :: _, _, [], _, _, _, _, _, h, _ => by simp at h
  | _ :: _, [], _ :: _, _, _, _, _, o, _, _ => by cases o
  | i :: is, v :: vs, d :: ds, σ, ρ, F, I, o, h, k => by
    refine ⟨v, vs, rfl, ?_⟩
    obtain ⟨F', J, h1⟩ := I.putV (i := i) (AtAll.inv o).1
    exact names_ok J (AtAll.inv o).2 (by simpa using h) fun σ' F2 J2 h2 => k σ' F2 J2 fun a ha => h1 a (h2 a ha)
theorem sg_tp {n : Nat} {is : List Nat} {gs : TGs} (hg : gs = gNames is) (hn : n = is.length) : SG K T (gTup K n gs) (.tp is) := fun c Z σ H ρ F v d Q I o q R k => by
  subst hg hn
  cases d with
  | tup ds =>
    have q : ds.length = is.length ∧ Q (setAll is ds ρ) := q
    obtain ⟨a, xs, rfl, _, h1, h2⟩ := ow_tup o
    exact ⟨a, xs, rfl, SqT.of (I.zh _ _ h1), by rw [h2.length]; exact q.1, names_ok I h2 q.1 fun σ' F' J h => k σ' _ F' J h q.2⟩
  | _ => exact False.elim q
theorem ss_unp (hg : SG K T g p) (he : SE K T W te ye) : SS K T W (tAsg te g) (sUnp p ye) := fun c Z σ H ρ F k I hx q E ok => he c Z σ H ρ F _ _ I hx.at q _ fun v Z' H' ρ' F' r z J hr q' => by
  obtain ⟨d, Z2, q2, z2, J2, o⟩ := hr.still J q'
  exact hg c Z2 σ H' ρ' F' v d _ J2 o q2 _ fun σ3 ρ3 F3 J3 _ q3 => ok.nx Z2 σ3 H' ρ3 F3 (Same.tr z z2) J3 q3
/-! what is walked over -/
/-- J walks over the data ds -/
inductive ItOk (K : PySem.W.Frag) (T : Tb) (Z B H : Hp) : It → List D → Prop
  | lst {a : Addr} {xs : List V} {ds : List D} : (Z a = some (.lst xs) ∨ B a = some (.lst xs)) → OwAll K T Z B H xs ds [] → ItOk K T Z B H (Itl K a) ds
  | tup {a : Addr} {xs : List V} {ds : List D} : Z a = some (.tup xs) → OwAll K T Z B H xs ds [] → ItOk K T Z B H (Itt K a) ds
  | rng {lo : Int} {n : Nat} : ItOk K T Z B H (Itr lo n) ((List.range n).map fun i => .int (lo + (i : Nat)))
  | rgc {lo c : Int} {n : Nat} : ItOk K T Z B H (Itc lo c n) ((List.range n).map fun i => .int (lo + (i : Nat) * c))
def SI (K : PySem.W.Frag) (T : Tb) (W : WX) (wi : TI) (y : YI) : Prop := ∀ (c : Cz) (Z : Hp) (σ : L2.St) (H : Hp) (ρ : List S) (F : List Addr) (Q : List D → Prop) (X : XD), EnvOk K T c Z H σ ρ F → WP K T c W Z σ H X → y ρ Q X →
  ∀ R : It → Hp → Prop, (∀ J Z' H' ds, PStep Z H Z' H' → ItOk K T Z' c.B H' J ds → Q ds → R J H') → wi σ H R
def iSeq (K : PySem.W.Frag) (tl : TE) : TI := fun σ H R => tl σ H fun x H1 => ∃ a, x = .ref a ∧ (((∃ xs, SqL K H1 a xs) ∧ R (Itl K a) H1) ∨ ((∃ xs, SqT K H1 a xs) ∧ R (Itt K a) H1))
theorem pi_seq {X : Cx} {tg l : Expr} {tl : TE} (hl : PE X l tl) : PI X tg l (iSeq X.K tl) := by
  refine ⟨fun pins s σ H R I h => thn (hl.run pins s σ H _ I h) fun v s1 ⟨x, H1, I1, r1, a, e, q1⟩ => ?_⟩
  subst e
  cases r1
  rcases q1 with ⟨⟨xs, hq⟩, q⟩ | ⟨⟨xs, hq⟩, q⟩
  · obtain ⟨its, rv, p, hz⟩ := I1.list hq
    refine wpAny_pyIter_list p.isList ?_
    refine ⟨s1.heap.objs.size, [s1.heap.objs.size], _, _, H1, rfl, L2.Inv.kept (t' := s1.toks) I1 fun b o e => Heap.get?_push_of_some _ e, turn_list a _, ⟨_, Heap.get?_push_size _ rfl, rfl, rfl⟩, fun b hb => ?_, q⟩
    have e : b = s1.heap.objs.size := by simpa using hb
    subst e
    exact I1.fpOk (Nat.le_refl _) (I1.hok.fresh (Nat.le_refl _))
  · obtain ⟨its, rv, p, hz⟩ := I1.tuple hq
    refine wpAny_pyIter_tuple (show s1.heap.IsTuple a its.toArray from p) ?_
    refine ⟨s1.heap.objs.size, [s1.heap.objs.size], _, _, H1, rfl, L2.Inv.kept (t' := s1.toks) I1 fun b o e => Heap.get?_push_of_some _ e, turn_tuple a _, ⟨_, Heap.get?_push_size _ rfl, rfl, rfl⟩, fun b hb => ?_, q⟩
    have e : b = s1.heap.objs.size := by simpa using hb
    subst e
    exact I1.fpOk (Nat.le_refl _) (I1.hok.fresh (Nat.le_refl _))
theorem seq_still {d : D} {ds : List D} (h : Ow K T Z B H v d []) (e : seqD d = some ds) : ∃ p xs, v = .ref p ∧ ((Z p = some (.lst xs) ∨ B p = some (.lst xs)) ∨ Z p = some (.tup xs)) ∧ OwAll K T Z B H xs ds [] := by
  have key : ∀ F0, Ow K T Z B H v d F0 → [] = F0 → ∃ p xs, v = .ref p ∧ ((Z p = some (.lst xs) ∨ B p = some (.lst xs)) ∨ Z p = some (.tup xs)) ∧ OwAll K T Z B H xs ds [] := seq_still' e
  exact key _ h rfl
where
  seq_still' {d : D} {ds : List D} (e : seqD d = some ds) (F0 : List Addr) (h : Ow K T Z B H v d F0) (eF : [] = F0) : ∃ p xs, v = .ref p ∧ ((Z p = some (.lst xs) ∨ B p = some (.lst xs)) ∨ Z p = some (.tup xs)) ∧ OwAll K T Z B H xs ds [] := by
    cases h with
    | tup h1 h2 => cases e; exact ⟨_, _, rfl, .inr h1, h2⟩
    | @lst _ m xs ds F' _ h1 h2 h3 =>
      cases e
      cases m with
      | frz =>
        obtain ⟨rfl, _⟩ := h3
        exact ⟨_, _, rfl, .inl (.inl h1), h2⟩
      | bor =>
        obtain ⟨rfl, _⟩ := h3
        exact ⟨_, _, rfl, .inl (.inr h1), h2⟩
      | own =>
        have h3 : _ = _ := h3
        rw [← eF] at h3
        cases h3
    | _ => cases e
theorem it_still {R : It → Hp → Prop} {d : D} {ds : List D} (zh : Same Z H) (bh : Same B H) (h : Ow K T Z B H v d []) (e : seqD d = some ds) (k : ∀ J, ItOk K T Z B H J ds → R J H) :
    ∃ a, v = .ref a ∧ (((∃ xs, SqL K H a xs) ∧ R (Itl K a) H) ∨ ((∃ xs, SqT K H a xs) ∧ R (Itt K a) H)) := by
  obtain ⟨p, xs, e1, e2, e3⟩ := seq_still h e
  refine ⟨p, e1, ?_⟩
  rcases e2 with e2 | e2
  · exact .inl ⟨⟨xs, SqL.of (e2.elim (zh _ _) (bh _ _))⟩, k _ (.lst e2 e3)⟩
  · exact .inr ⟨⟨xs, SqT.of (zh _ _ e2)⟩, k _ (.tup e2 e3)⟩
theorem si_S (he : SP K T W te ya) : SI K T W (iSeq K te) (iS ya) := fun c Z σ H ρ F Q X I hw q R k => he c Z σ H ρ F _ X I hw q _ fun v1 Z1 H1 r1 G1 s1 h1 q1 => by
  have I1 := I.p s1
  cases r1 with
  | val d =>
    have q1 : (match seqD d with
      | some ds => Q ds
      | none => False) := q1
    split at q1
    · rename_i ds e
      exact it_still I1.zh I1.bh h1.2 e fun J hj => k J Z1 H1 ds s1 hj q1
    · exact q1.elim
  | tmp d =>
    have q1 : (match seqD d with
      | some ds => Q (fzs ds)
      | none => False) := q1
    split at q1
    · rename_i ds e
      have sf := frz_step s1 h1.2.2
      have o := Ow.frz (frz_same fun a ha => (h1.2.2 a ha).2) _ _ _ (fun a ha => frz_at a ha) h1.1
      have e' : seqD (fz d) = some (fzs ds) := by
        cases d with
        | lst m es =>
          cases e
          cases m with
          | own => rfl
          | frz =>
            obtain ⟨p, xs, F', _, c1, o1, f1⟩ := ow_lst h1.1
            obtain ⟨rfl, _⟩ := f1
            rw [sp_tuple.fzs_still o1]
            rfl
          | bor =>
            obtain ⟨p, xs, F', _, c1, o1, f1⟩ := ow_lst h1.1
            obtain ⟨rfl, _⟩ := f1
            rw [sp_tuple.fzs_still o1]
            rfl
        | tup es =>
          cases e
          obtain ⟨_, _, _, _, _, o1⟩ := ow_tup h1.1
          rw [sp_tuple.fzs_still o1]
          rfl
        | _ => cases e
      exact it_still sf.zh I1.bh o e' fun J hj => k J _ H1 _ sf hj q1
    · exact q1.elim
  | rd d => exact False.elim q1
theorem si_R1 (he : SP K T W te ya) : SI K T W (iRng1 (L2.tCons te L2.tNil)) (iR1 ya) := fun c Z σ H ρ F Q X I hw q R k => he c Z σ H ρ F _ X I hw q _ fun v1 Z1 H1 r1 G1 s1 h1 q1 => by
  obtain ⟨G', o1⟩ := h1.ow
  split at q1
  · rename_i n e
    rw [e] at o1
    refine ⟨n, by rw [o1.int_iff], by omega, by omega, k _ Z1 H1 _ s1 ?_ q1.2⟩
    have : (fun i : Nat => D.int (i : Int)) = fun i : Nat => D.int (0 + (i : Int)) := by funext i; rw [Int.zero_add]
    rw [this]
    exact .rng
  · exact q1.elim
theorem si_R2 {tf : TE} {yf : YP} (he : SP K T W te ya) (hf : SP K T W tf yf) : SI K T W (iRng2 (L2.tCons te (L2.tCons tf L2.tNil))) (iR2 ya yf) := fun c Z σ H ρ F Q X I hw q R k => he c Z σ H ρ F _ X I hw q _ fun v1 Z1 H1 r1 G1 s1 h1 q1 =>
  hf c Z1 σ H1 ρ F _ X (I.p s1) (hw.p s1) q1 _ fun v2 Z2 H2 r2 G2 s2 h2 q2 => by
  obtain ⟨_, o1⟩ := h1.ow
  obtain ⟨_, o2⟩ := h2.ow
  split at q2
  · rename_i m n e1 e2
    rw [e1] at o1
    rw [e2] at o2
    exact ⟨m, n, by rw [o1.int_iff, o2.int_iff], by omega, k _ Z2 H2 _ (s1.trans s2) .rng q2.2⟩
  · exact q2.elim
theorem si_R3 {tf tg : TE} {yf yg : YP} (he : SP K T W te ya) (hf : SP K T W tf yf) (hg : SP K T W tg yg) : SI K T W (iRng3 (L2.tCons te (L2.tCons tf (L2.tCons tg L2.tNil)))) (iR3 ya yf yg) := fun c Z σ H ρ F Q X I hw q R k => he c Z σ H ρ F _ X I hw q _ fun v1 Z1 H1 r1 G1 s1 h1 q1 =>
  hf c Z1 σ H1 ρ F _ X (I.p s1) (hw.p s1) q1 _ fun v2 Z2 H2 r2 G2 s2 h2 q2 => hg c Z2 σ H2 ρ F _ X ((I.p s1).p s2) ((hw.p s1).p s2) q2 _ fun v3 Z3 H3 r3 G3 s3 h3 q3 => by
  obtain ⟨_, o1⟩ := h1.ow
  obtain ⟨_, o2⟩ := h2.ow
  obtain ⟨_, o3⟩ := h3.ow
  split at q3
  · rename_i m n l e1 e2 e3
    rw [e1] at o1
    rw [e2] at o2
    rw [e3] at o3
    obtain ⟨rfl, h4, q4⟩ := q3
    exact ⟨m, n, -1, _, by rw [o1.int_iff, o2.int_iff, o3.int_iff], RgC.neg (by omega) (by omega) (by omega) (by omega), k _ Z3 H3 _ (s1.trans (s2.trans s3)) .rgc q4⟩
  · exact q3.elim
theorem ItOk.mono {J : It} {ds : List D} (h : ItOk K T Z B H J ds) (z : Same Z Z') : ItOk K T Z' B H' J ds := by
  cases h with
  | lst h1 h2 => exact .lst (h1.elim (fun e => .inl (z _ _ e)) .inr) (h2.still z (Same.refl _))
  | tup h1 h2 => exact .tup (z _ _ h1) (h2.still z (Same.refl _))
  | rng => exact .rng
  | rgc => exact .rgc
/-- for .. in .. -/
theorem ss_for {wi : TI} {yi : YI} (hi : SI K T W wi yi) (hg : SG K T g p) (hb : SS K T W t b) : SS K T W (tFor wi g t) (sFor yi p b) := fun c Z σ H ρ F k I hx q E ok =>
  hi c Z σ H ρ F _ _ I (WP.of I hx.at) q _ fun J Z1 H1 ds s1 hj q1 => by
    have I1 := I.p s1
    let Pv : Nat → L2.St → Hp → Prop := fun i σ H => ∃ Z2 ρ2 F2, Same Z1 Z2 ∧ EnvOk K T c Z2 H σ ρ2 F2 ∧ forW p b (ds.drop i) ρ2 k
    have p0 : Pv 0 σ H1 := ⟨Z1, ρ, F, Same.refl _, I1, q1.go⟩
    have turn : ∀ (i : Nat) (x : V) (y : D) (σ' : L2.St) (H' : Hp), (∀ Z2, Same Z1 Z2 → Ow K T Z2 c.B H' x y []) → ds[i]? = some y → Pv i σ' H' →
        g x σ' H' fun σ2 H2 => t { E with nx := fun σ H => Pv (i + 1) σ H, ct := fun σ H => Pv (i + 1) σ H, bk := E.nx } σ2 H2 := by
      rintro i x y σ' H' hy hd ⟨Z2, ρ2, F2, z2, J2, q2⟩
      have ed : ds.drop i = y :: ds.drop (i + 1) := by
        obtain ⟨hi, e⟩ := List.getElem?_eq_some_iff.mp hd
        rw [List.drop_eq_getElem_cons hi, e]
      rw [ed] at q2
      refine hg c Z2 σ' H' ρ2 F2 x y _ J2 (hy Z2 z2) q2 _ fun σ3 ρ3 F3 J3 _ q3 => ?_
      refine hb c Z2 σ3 H' ρ3 F3 { k with nx := fun ρ => forW p b (ds.drop (i + 1)) ρ k, ct := fun ρ => forW p b (ds.drop (i + 1)) ρ k, bk := k.nx } J3 (hx.z (Same.tr s1.zz z2)) q3.go _ ⟨fun Z4 σ4 H4 ρ4 F4 z4 J4 q4 => ⟨Z4, ρ4, F4, Same.tr z2 z4, J4, q4⟩, fun v Z4 σ4 H4 ρ4 F4 r z4 J4 hr nr q4 => ok.rt v Z4 σ4 H4 ρ4 F4 r (Same.tr s1.zz (Same.tr z2 z4)) J4 hr nr q4,
        fun Z4 σ4 H4 ρ4 F4 z4 J4 q4 => ok.nx Z4 σ4 H4 ρ4 F4 (Same.tr s1.zz (Same.tr z2 z4)) J4 q4, fun Z4 σ4 H4 ρ4 F4 z4 J4 q4 => ⟨Z4, ρ4, F4, Same.tr z2 z4, J4, q4⟩⟩
    have fin : ∀ (n : Nat) σ' H', n = ds.length → Pv n σ' H' → E.nx σ' H' := by
      rintro n σ' H' rfl ⟨Z2, ρ2, F2, z2, J2, q2⟩
      rw [List.drop_length] at q2
      exact ok.nx Z2 σ' H' ρ2 F2 (Same.tr s1.zz z2) J2 q2
    cases hj with
    | @lst a xs _ h1 h2 =>
      refine for_list (K := K) Pv p0 (fun i σ' H' _ q => ?_) (fun i x σ' H' hx' q => ?_) fun σ' H' q => fin _ σ' H' h2.length q
      · obtain ⟨Z2, ρ2, F2, z2, J2, q2⟩ := q
        exact SqL.of (h1.elim (fun e => J2.zh _ _ (z2 _ _ e)) (J2.bh _ _))
      · obtain ⟨y, hy, m⟩ := AtAll.getV h2 hx'
        exact turn i x y σ' H' (fun Z2 z2 => m.still z2 (Same.refl _)) hy q
    | @tup a xs _ h1 h2 =>
      refine for_tup (K := K) Pv p0 (fun i σ' H' _ q => ?_) (fun i x σ' H' hx' q => ?_) fun σ' H' q => fin _ σ' H' h2.length q
      · obtain ⟨Z2, ρ2, F2, z2, J2, q2⟩ := q
        exact SqT.of (J2.zh _ _ (z2 _ _ h1))
      · obtain ⟨y, hy, m⟩ := AtAll.getV h2 hx'
        exact turn i x y σ' H' (fun Z2 z2 => m.still z2 (Same.refl _)) hy q
    | @rng lo n =>
      refine for_range (lo := lo) (n := n) Pv p0 (fun i σ' H' hi' q => ?_) fun σ' H' q => fin _ σ' H' (by simp) q
      exact turn i _ (.int (lo + (i : Nat))) σ' H' (fun Z2 _ => .int _) (by rw [List.getElem?_map, List.getElem?_range hi']; rfl) q
    | @rgc lo cc n =>
      refine for_rangeC (lo := lo) (c := cc) (n := n) Pv p0 (fun i σ' H' hi' q => ?_) fun σ' H' q => fin _ σ' H' (by simp) q
      exact turn i _ (.int (lo + (i : Nat) * cc)) σ' H' (fun Z2 _ => .int _) (by rw [List.getElem?_map, List.getElem?_range hi']; rfl) q
/-- while .. -/
theorem ss_while (ht : SBE K T W tt yt) (hb : SS K T W t b) : SS K T W (tWhile tt t) (sWhile yt b) := fun c Z σ H ρ F k I hx q E ok => by
  obtain ⟨n, q⟩ := q
  refine ⟨fun m σ' H' => ∃ Z2 ρ2 F2, Same Z Z2 ∧ EnvOk K T c Z2 H' σ' ρ2 F2 ∧ whileN yt b m ρ2 k, ⟨n, Z, ρ, F, Same.refl _, I, q⟩, fun m σ' H' ⟨Z2, ρ2, F2, z2, J2, q2⟩ => ?_⟩
  cases m with
  | zero => exact q2.elim
  | succ m =>
    refine ht c Z2 σ' H' ρ2 F2 _ _ J2 (hx.z z2).at q2 _ fun d Z3 H3 ρ3 F3 z3 J3 q3 => ?_
    cases d with
    | true =>
      show ∃ N : L2.St → Hp → Prop, _
      refine ⟨fun σ4 H4 => ∃ Z4 ρ4 F4, Same Z Z4 ∧ EnvOk K T c Z4 H4 σ4 ρ4 F4 ∧ whileN yt b m ρ4 k, fun σ4 H4 h => ⟨m, Nat.lt_succ_self _, h⟩, ?_⟩
      have z23 := Same.tr z2 z3
      exact hb c Z3 σ' H3 ρ3 F3 (k.loop fun ρ => whileN yt b m ρ k) J3 (hx.z z23) (q3.t rfl) _ ⟨fun Z4 σ4 H4 ρ4 F4 z4 J4 q4 => ⟨Z4, ρ4, F4, Same.tr z23 z4, J4, q4⟩, fun v Z4 σ4 H4 ρ4 F4 r z4 J4 hr nr q4 => ok.rt v Z4 σ4 H4 ρ4 F4 r (Same.tr z23 z4) J4 hr nr q4,
        fun Z4 σ4 H4 ρ4 F4 z4 J4 q4 => ok.nx Z4 σ4 H4 ρ4 F4 (Same.tr z23 z4) J4 q4, fun Z4 σ4 H4 ρ4 F4 z4 J4 q4 => ⟨Z4, ρ4, F4, Same.tr z23 z4, J4, q4⟩⟩
    | false => exact ok.nx Z3 σ' H3 ρ3 F3 (Same.tr z2 z3) J3 (q3.f rfl)
end
end Y

/-! YH: comprehensions; defs. -/
namespace Y
open PySem PySem.Spec PyProof.Rows L2
section
variable {K : PySem.W.Frag} {T : Tb} {W : WX} {c : Cz} {Z B H Z' B' H' : Hp} {σ : L2.St} {ρ : List S} {F G : List Addr} {v : V} {te ti tv : TE} {ya yb : YP} {tt uu : TT} {yt : YB} {g : TG} {p : Pat} {r : RV}
/-- J walks over the data ds, while nothing that is there changes -/
inductive ItH (K : PySem.W.Frag) (T : Tb) (Z B H : Hp) : It → List D → Prop
  | lst {a : Addr} {xs : List V} {ds : List D} : H a = some (.lst xs) → OwAll K T Z B H xs ds [] → ItH K T Z B H (Itl K a) ds
  | tup {a : Addr} {xs : List V} {ds : List D} : H a = some (.tup xs) → OwAll K T Z B H xs ds [] → ItH K T Z B H (Itt K a) ds
  | rng {lo : Int} {n : Nat} : ItH K T Z B H (Itr lo n) ((List.range n).map fun i => .int (lo + (i : Nat)))
  | rgc {lo c : Int} {n : Nat} : ItH K T Z B H (Itc lo c n) ((List.range n).map fun i => .int (lo + (i : Nat) * c))
theorem ItOk.h {J : It} {ds : List D} (h : ItOk K T Z B H J ds) (z : Same Z H) (b : Same B H) : ItH K T Z B H J ds := by
  cases h with
  | lst h1 h2 => exact .lst (h1.elim (z _ _) (b _ _)) h2
  | tup h1 h2 => exact .tup (z _ _ h1) h2
  | rng => exact .rng
  | rgc => exact .rgc
def SIc (K : PySem.W.Frag) (T : Tb) (W : WX) (wi : TI) (y : YI) : Prop := ∀ (c : Cz) (Z : Hp) (σ : L2.St) (H : Hp) (ρ : List S) (F : List Addr) (Q : List D → Prop) (X : XD), EnvOk K T c Z H σ ρ F → WP K T c W Z σ H X → y ρ Q X →
  ∀ R : It → Hp → Prop, (∀ J Z' H' ds, PStep Z H Z' H' → ItH K T Z' c.B H' J ds → Q ds → R J H') → wi σ H R
theorem sic_of {wi : TI} {y : YI} (h : SI K T W wi y) : SIc K T W wi y := fun c Z σ H ρ F Q X I hw q R k => h c Z σ H ρ F Q X I hw q R fun J Z' H' ds s hj q' => k J Z' H' ds s (hj.h s.zh (I.p s).bh) q'
theorem sic_E (he : SP K T W te ya) : SIc K T W (iSeq K te) (iE ya) := fun c Z σ H ρ F Q X I hw q R k => he c Z σ H ρ F _ X I hw q _ fun v1 Z1 H1 r1 G1 s1 h1 q1 => by
  have I1 := I.p s1
  obtain ⟨ds, p, xs, q2, rfl, e2, o⟩ := els_ok h1 I1.zh I1.bh q1
  have sf := frz_step s1 h1.free
  refine ⟨p, rfl, ?_⟩
  rcases e2 with e2 | e2
  · exact .inl ⟨⟨xs, SqL.of e2⟩, k _ _ H1 ds sf (.lst e2 o) q2⟩
  · exact .inr ⟨⟨xs, SqT.of e2⟩, k _ _ H1 ds sf (.tup e2 o) q2⟩
/-! a target's names are forgotten again -/
def GOk (g : TG) (vs : List Nat) : Prop := ∀ v σ H (R : L2.St → Hp → Prop), g v σ H (fun σ' H' => L2.wipe σ' vs = L2.wipe σ vs → R σ' H') → g v σ H R
theorem wipe_set {σ : L2.St} {i : Nat} {o : Option V} : ∀ {vs : List Nat}, i ∈ vs → L2.wipe (σ.set i o) vs = L2.wipe σ vs
  | [], h => by cases h
  | v :: vs, h => by
    unfold L2.wipe
    by_cases e : v = i
    · subst e
      have key : ∀ ws : List Nat, (L2.wipe (σ.set v o) ws).set v none = (L2.wipe σ ws).set v none := by
        intro ws
        induction ws with
        | nil => show (σ.set v o).set v none = σ.set v none; rw [List.set_set]
        | cons w ws ih =>
          show ((L2.wipe (σ.set v o) ws).set w none).set v none = ((L2.wipe σ ws).set w none).set v none
          by_cases q : w = v
          · subst q
            rw [List.set_set, List.set_set, ih]
          · rw [List.set_comm _ _ q, List.set_comm _ _ q, ih]
      exact key vs
    · rw [wipe_set (by rcases List.mem_cons.mp h with h | h; exact absurd h.symm e; exact h)]
theorem wipe_wipe : ∀ (ws : List Nat) (s : L2.St), L2.wipe (L2.wipe s ws) ws = L2.wipe s ws := by
  intro ws
  induction ws with
  | nil => intro s; rfl
  | cons w ws ih =>
    intro s
    show (L2.wipe ((L2.wipe s ws).set w none) ws).set w none = (L2.wipe s ws).set w none
    have k2 : ∀ us : List Nat, ∀ t : L2.St, (L2.wipe (t.set w none) us).set w none = (L2.wipe t us).set w none := by
      intro us
      induction us with
      | nil => intro t; show (t.set w none).set w none = t.set w none; rw [List.set_set]
      | cons u us ih2 =>
        intro t
        show ((L2.wipe (t.set w none) us).set u none).set w none = ((L2.wipe t us).set u none).set w none
        by_cases q : u = w
        · subst q
          rw [List.set_set, List.set_set, ih2]
        · rw [List.set_comm _ _ q, List.set_comm _ _ q, ih2]
    rw [k2, ih]
theorem gok_nm {i : Nat} {vs : List Nat} (h : i ∈ vs) : GOk (gName i) vs := fun v σ H R q => q (wipe_set h)
theorem gok_names {vs : List Nat} : ∀ {is : List Nat}, (∀ i ∈ is, i ∈ vs) → ∀ (xs : List V) (σ : L2.St) (H : Hp) (R : L2.St → Hp → Prop), gNames is xs σ H (fun σ' H' => L2.wipe σ' vs = L2.wipe σ vs → R σ' H') → gNames is xs σ H R
  | [], _, xs, σ, H, R, q => ⟨q.1, q.2 rfl⟩
  | i :: is, h, xs, σ, H, R, q => by
    obtain ⟨x, r, e, q⟩ := q
    refine ⟨x, r, e, gok_names (is := is) (fun j hj => h j (List.mem_cons_of_mem _ hj)) r (σ.set i (some x)) H R ?_⟩
    have q : gNames is r (σ.set i (some x)) H fun σ' H' => L2.wipe σ' vs = L2.wipe σ vs → R σ' H' := q
    rw [wipe_set (h i List.mem_cons_self)]
    exact q
theorem gok_tp {n : Nat} {is vs : List Nat} {gs : TGs} (hg : gs = gNames is) (h : ∀ i ∈ is, i ∈ vs) : GOk (gTup K n gs) vs := fun v σ H R q => by
  subst hg
  obtain ⟨a, xs, e, h1, h2, q⟩ := q
  exact ⟨a, xs, e, h1, h2, gok_names h xs σ H R q⟩
theorem EnvOk.wipe2 (I : EnvOk K T c Z H σ ρ F) : ∀ vs : List Nat, ∃ F', EnvOk K T c Z H (L2.wipe σ vs) (Y.wipe ρ vs) F' ∧ ∀ a ∈ F', a ∈ F
  | [] => ⟨F, I, fun a ha => ha⟩
  | w :: vs => by
    obtain ⟨F1, J, h1⟩ := EnvOk.wipe2 I vs
    obtain ⟨F2, J2, h2⟩ := J.put (i := w) (o := none) (s := .no) (G := []) rfl List.nodup_nil fun a ha => by cases ha
    exact ⟨F2, J2, fun a ha => (h2 a ha).elim (h1 a) fun z => by cases z⟩
/-- the list under way -/
structure Pl (K : PySem.W.Frag) (T : Tb) (c : Cz) (Z1 H1 : Hp) (D0 : Addr) (i : Nat) (Q : List D → Prop) (P : List D → Prop) (H : Hp) : Prop where
  ex : ∃ (Z : Hp) (xs : List V) (es : List D) (G : List Addr), PStep Z1 H1 Z H ∧ H D0 = some (.lst xs) ∧ Z D0 = none ∧ OwAll K T Z c.B H xs es G ∧ G.Nodup ∧ (∀ a ∈ G, H1 a = none ∧ Z a = none ∧ a ≠ D0) ∧ es.length ≤ i ∧ P es
theorem stillE {o : Bool} {r : RV} {Q : D → Prop} {Hs : Hp} (h : RvG K T c Hs Z H F v r G) (q : still o r Q) : ∃ d Z2 G2, Q d ∧ Ow K T Z2 c.B H v d G2 ∧ G2.Nodup ∧ Same Z Z2 ∧ (∀ a, Z2 a ≠ none → Z a ≠ none ∨ a ∈ G) ∧ (∀ a ∈ G, Z2 a = none ∨ Z2 a = H a) ∧ (∀ a ∈ G2, a ∈ G ∧ Z2 a = none) := by
  cases o with
  | true =>
    obtain ⟨d, q, ow⟩ := h.stillO q
    exact ⟨d, Z, G, q, ow, h.nd, Same.refl _, fun a ha => .inl ha, fun a ha => .inl (h.free a ha).2, fun a ha => ⟨ha, (h.free a ha).2⟩⟩
  | false =>
    obtain ⟨d, q, ow⟩ := h.still q
    refine ⟨d, frzZ Z H G, [], q, ow, List.nodup_nil, frz_same fun a ha => (h.free a ha).2, fun a ha => ?_, fun a ha => .inr (frz_at a ha), fun a ha => by cases ha⟩
    by_cases hg : a ∈ G
    · exact .inr hg
    · have : frzZ Z H G a = Z a := if_neg hg
      rw [this] at ha
      exact .inl ha
theorem pl_turn {o : Bool} {Z1 H1 : Hp} {D0 : Addr} {i : Nat} {vs : List Nat} {x : V} {y : D} {ds : List D} {Q : List D → Prop} (I : EnvOk K T c Z1 H1 σ ρ F) (d0 : H1 D0 = none) (hgo : GOk g vs) (hg : SG K T g p) (ht : SB K T W0 tt yt) (he : SP K T W0 te ya) (hz : i < 100000)
    (hx : ∀ Z', Same Z1 Z' → Ow K T Z' c.B H' x y []) (pl : Pl K T c Z1 H1 D0 i Q (fun es => lcW o p yt ya (Y.wipe ρ vs) (y :: ds) fun fs => Q (es ++ fs)) H') :
    g x (L2.wipe σ vs) H' fun σ2 H2 => L2.wipe σ2 vs = L2.wipe σ vs ∧ tt σ2 H2 fun b H3 => if b = true then te σ2 H3 fun z H4 => ∃ acc, H4 D0 = some (.lst acc) ∧ acc.length < sizeLine ∧ Pl K T c Z1 H1 D0 (i + 1) Q (fun es => lcW o p yt ya (Y.wipe ρ vs) ds fun fs => Q (es ++ fs)) (upd H4 D0 (.lst (acc ++ [z])))
      else Pl K T c Z1 H1 D0 (i + 1) Q (fun es => lcW o p yt ya (Y.wipe ρ vs) ds fun fs => Q (es ++ fs)) H3 := by
  obtain ⟨Z2, xs, es, G, s2, e1, e2, o1, g1, g2, l1, q⟩ := pl.ex
  obtain ⟨Fw, Iw, _⟩ := (I.p s2).wipe2 vs
  refine hgo _ _ _ _ (hg c Z2 _ H' _ Fw x y _ Iw (hx Z2 s2.zz) q _ fun σ3 ρ3 F3 J3 _ q3 hw => ⟨?_, ?_⟩)
  · rw [hw, wipe_wipe]
  · refine ht c Z2 σ3 H' ρ3 F3 _ _ J3 (fun _ _ _ _ _ _ _ z => z.elim) q3 _ fun b Z3 H3 s3 q4 => ?_
    have th := OwAll.there _ _ _ o1
    have o3 : OwAll K T Z3 c.B H3 xs es G := OwAll.mono s3.zz (Same.refl _) _ _ _ (fun a ha => same_at s3.hh (th a ha)) o1
    have d3 : H3 D0 = some (.lst xs) := s3.hh _ _ e1
    have z3 : Z3 D0 = none := fresh_p s3 (by rw [e1]; exact fun z => nomatch z) e2
    have g3 : ∀ a ∈ G, H1 a = none ∧ Z3 a = none ∧ a ≠ D0 := fun a ha => ⟨(g2 a ha).1, fresh_p s3 (th a ha) (g2 a ha).2.1, (g2 a ha).2.2⟩
    cases b with
    | true =>
      refine he c Z3 σ3 H3 ρ3 F3 _ _ (J3.p s3) (fun _ _ _ _ _ _ _ z => z.elim) (q4.t rfl) _ fun z Z4 H4 r4 G4 s4 h4 q5 => ?_
      have th3 := OwAll.there _ _ _ o3
      obtain ⟨d, Z5, G5, q6, o5, n5, zz5, zn5, zg5, gg5⟩ := stillE h4 q5
      have hd4 : H4 D0 = some (.lst xs) := s4.hh _ _ d3
      have z4 : Z4 D0 = none := fresh_p s4 (by rw [d3]; exact fun z => nomatch z) z3
      have dG4 : D0 ∉ G4 := fun hm => by
        have := (h4.free D0 hm).1
        rw [d3] at this
        cases this
      have z5 : Z5 D0 = none := by
        cases q : Z5 D0 with
        | none => rfl
        | some u =>
          rcases zn5 D0 (by rw [q]; exact fun z => nomatch z) with y | y
          · exact absurd z4 y
          · exact absurd y dG4
      have o4 : OwAll K T Z5 c.B H4 xs es G := OwAll.mono (Same.tr s4.zz zz5) (Same.refl _) _ _ _ (fun a ha => same_at s4.hh (th3 a ha)) o3
      have gd : ∀ a ∈ G, a ∉ G4 := fun a ha hm => th3 a ha (h4.free a hm).1
      have gz5 : ∀ a ∈ G, Z5 a = none := fun a ha => by
        cases q : Z5 a with
        | none => rfl
        | some u =>
          rcases zn5 a (by rw [q]; exact fun z => nomatch z) with y | y
          · exact absurd (fresh_p s4 (th3 a ha) (g3 a ha).2.1) y
          · exact absurd y (gd a ha)
      have zh5 : Same Z5 H4 := fun a u e => by
        by_cases ha : a ∈ G4
        · rcases zg5 a ha with y | y
          · rw [y] at e; cases e
          · rw [y] at e; exact e
        · have : Z4 a ≠ none := by
            rcases zn5 a (by rw [e]; exact fun z => nomatch z) with y | y
            · exact y
            · exact absurd y ha
          cases q : Z4 a with
          | none => exact absurd q this
          | some w =>
            have := zz5 _ _ q
            rw [this] at e
            cases e
            exact s4.zh _ _ q
      have upne : ∀ a, a ≠ D0 → upd H4 D0 (.lst (xs ++ [z])) a = H4 a := fun a ha => upd_ne ha
      have hlen := o1.length
      refine ⟨xs, hd4, sz_lt (by omega), ⟨Z5, xs ++ [z], es ++ [d], G ++ G5, ⟨?_, ?_, ?_, ?_⟩, upd_same, z5, ?_, ?_, ?_, by rw [List.length_append, List.length_singleton]; omega, ?_⟩⟩
      · exact Same.tr s2.zz (Same.tr s3.zz (Same.tr s4.zz zz5))
      · exact fun a u e => by
          rw [upne a (ne_of_none e d0)]
          exact s4.hh _ _ (s3.hh _ _ (s2.hh _ _ e))
      · exact fun a ha => by
          rcases zn5 a ha with y | y
          · exact (s2.trans (s3.trans s4)).zn a y
          · exact .inr (same_none s2.hh (same_none s3.hh (h4.free a y).1))
      · exact fun a u e => by
          have : a ≠ D0 := fun z => by rw [z, z5] at e; cases e
          rw [upne a this]
          exact zh5 _ _ e
      · have o6 : OwAll K T Z5 c.B H4 (xs ++ [z]) (es ++ [d]) (G ++ G5) := by
          have := o4.append (OwAll.cons o5 .nil)
          rw [List.append_nil] at this
          exact this
        refine OwAll.mono (Same.refl _) (Same.refl _) _ _ _ (fun a ha => upne a ?_) o6
        rcases List.mem_append.mp ha with ha | ha
        · exact (g3 a ha).2.2
        · exact fun e => dG4 (e ▸ (gg5 a ha).1)
      · exact List.nodup_append.mpr ⟨g1, n5, fun a ha b hb e => by subst e; exact gd a ha (gg5 a hb).1⟩
      · intro a ha
        rcases List.mem_append.mp ha with ha | ha
        · exact ⟨(g3 a ha).1, gz5 a ha, (g3 a ha).2.2⟩
        · exact ⟨same_none s2.hh (same_none s3.hh (h4.free a (gg5 a ha).1).1), (gg5 a ha).2, fun e => dG4 (e ▸ (gg5 a ha).1)⟩
      · have e : (fun fs => Q (es ++ [d] ++ fs)) = fun fs => Q (es ++ d :: fs) := by
          funext fs
          rw [List.append_assoc]
          rfl
        rw [e]
        exact q6
    | false => exact ⟨Z3, xs, es, G, s2.trans s3, d3, z3, o3, g1, g3, by omega, q4.f rfl⟩
/-- [e for g in xs if t] -/
theorem sp_lc {o : Bool} {vs : List Nat} {wi : TI} {yi : YI} (hi : SIc K T W wi yi) (hgo : GOk g vs) (hg : SG K T g p) (ht : SB K T W0 tt yt) (he : SP K T W0 te ya) : SP K T W (tLc wi g tt te vs) (yLc o vs yi p yt ya) := fun c Z σ H ρ F Q X I hw q R k =>
  hi c Z σ H ρ F _ X I hw q _ fun J Z1 H1 ds s1 hj ⟨hz, q1⟩ => fun D0 hD => by
    have I1 := I.p s1
    let P : Nat → Hp → Prop := fun i H => Pl K T c Z1 H1 D0 i (fun es => Q (.tmp (.lst .own es))) (fun es => lcW o p yt ya (Y.wipe ρ vs) (ds.drop i) fun fs => Q (.tmp (.lst .own (es ++ fs)))) H
    have p0 : P 0 (upd H1 D0 (.lst [])) := ⟨Z1, [], [], [], PStep.newH s1.zh hD, upd_same, same_none s1.zh hD, .nil, List.nodup_nil, fun a ha => (by cases ha), Nat.le_refl _, q1.go⟩
    have fin : ∀ (n : Nat) H', n = ds.length → P n H' → R (.ref D0) H' := by
      rintro n H' rfl ⟨Z2, xs, es, G, s2, e1, e2, o1, g1, g2, l1, q2⟩
      have q2 : lcW o p yt ya (Y.wipe ρ vs) (ds.drop ds.length) fun fs => Q (.tmp (.lst .own (es ++ fs))) := q2
      rw [List.drop_length] at q2
      have q3 : Q (.tmp (.lst .own (es ++ []))) := q2
      rw [List.append_nil] at q3
      refine k _ Z2 H' (.tmp (.lst .own es)) (D0 :: G) (s1.trans s2) ⟨.lst (m := .own) e1 o1 rfl, List.nodup_cons.mpr ⟨fun hm => (g2 D0 hm).2.2 rfl, g1⟩, fun a ha => ?_⟩ q3
      rcases List.mem_cons.mp ha with rfl | ha
      · exact ⟨same_none s1.hh hD, e2⟩
      · exact ⟨same_none s1.hh (g2 a ha).1, (g2 a ha).2.1⟩
    have turn : ∀ (i : Nat) (x : V) (y : D) (H' : Hp), i < ds.length → (∀ Z', Same Z1 Z' → Ow K T Z' c.B H' x y []) → ds[i]? = some y → P i H' → g x (L2.wipe σ vs) H' fun σ2 H2 => L2.wipe σ2 vs = L2.wipe σ vs ∧ tt σ2 H2 fun b H3 =>
        if b = true then te σ2 H3 fun z H4 => ∃ acc, H4 D0 = some (.lst acc) ∧ acc.length < sizeLine ∧ P (i + 1) (upd H4 D0 (.lst (acc ++ [z]))) else P (i + 1) H3 := by
      intro i x y H' hi hx hy pl
      refine pl_turn I1 hD hgo hg ht he (by omega) hx ?_
      have ed : ds.drop i = y :: ds.drop (i + 1) := by
        obtain ⟨hi, e⟩ := List.getElem?_eq_some_iff.mp hy
        rw [List.drop_eq_getElem_cons hi, e]
      have pl : Pl K T c Z1 H1 D0 i (fun es => Q (.tmp (.lst .own es))) (fun es => lcW o p yt ya (Y.wipe ρ vs) (ds.drop i) fun fs => Q (.tmp (.lst .own (es ++ fs)))) H' := pl
      rw [ed] at pl
      exact pl
    cases hj with
    | @lst a xs _ h1 h2 =>
      refine lc_list (K := K) P p0 (fun i H' _ q => ?_) (fun i x H' hx' q => ?_) fun H' q => fin _ H' h2.length q
      · obtain ⟨_, _, _, _, s2, _⟩ := q.ex
        exact SqL.of (s2.hh _ _ h1)
      · obtain ⟨y, hy, m⟩ := AtAll.getV h2 hx'
        exact turn i x y H' (List.getElem?_eq_some_iff.mp hy).1 (fun Z' z => m.still z (Same.refl _)) hy q
    | @tup a xs _ h1 h2 =>
      refine lc_tup (K := K) P p0 (fun i H' _ q => ?_) (fun i x H' hx' q => ?_) fun H' q => fin _ H' h2.length q
      · obtain ⟨_, _, _, _, s2, _⟩ := q.ex
        exact SqT.of (s2.hh _ _ h1)
      · obtain ⟨y, hy, m⟩ := AtAll.getV h2 hx'
        exact turn i x y H' (List.getElem?_eq_some_iff.mp hy).1 (fun Z' z => m.still z (Same.refl _)) hy q
    | @rng lo n =>
      refine lc_range (lo := lo) (n := n) P p0 (fun i H' hi' q => ?_) fun H' q => fin _ H' (by simp) q
      exact turn i _ (.int (lo + (i : Nat))) H' (by simpa using hi') (fun Z' _ => .int _) (by rw [List.getElem?_map, List.getElem?_range hi']; rfl) q
    | @rgc lo cc n =>
      refine ⟨fun i m H => m = n - i ∧ i ≤ n ∧ P i H, ⟨n, by simp, Nat.zero_le _, p0⟩, ?_⟩
      rintro i m H' ⟨rfl, hi', q⟩
      by_cases hlt : i < n
      · refine .inr ⟨hlt, P (i + 1), fun H2 p' => ⟨n - (i + 1), by omega, rfl, hlt, p'⟩, fun x H2 y => ?_⟩
        obtain ⟨e, y⟩ := y
        subst e y
        exact turn i _ (.int (lo + (i : Nat) * cc)) _ (by simpa using hlt) (fun Z' _ => .int _) (by rw [List.getElem?_map, List.getElem?_range hlt]; rfl) q
      · obtain rfl : i = n := by omega
        exact .inl ⟨Nat.le_refl _, fin _ H' (by simp) q⟩
end
/-! ### defs -/
theorem slots_no {K : PySem.W.Frag} {T : Tb} {c : Cz} {Z H : Hp} : ∀ n : Nat, Slots K T c Z H (List.replicate n none) (List.replicate n .no) []
  | 0 => .nil
  | n + 1 => by
    rw [List.replicate_succ, List.replicate_succ]
    exact Slots.cons (F := []) (G := []) rfl (slots_no n)
theorem slots_val {K : PySem.W.Frag} {T : Tb} {c : Cz} {Z H : Hp} : ∀ {vs : List V} {ds : List D} (n : Nat), OwAll K T Z c.B H vs ds [] → Slots K T c Z H (vs.map some ++ List.replicate n none) (ds.map S.val ++ List.replicate n .no) []
  | [], [], n, _ => slots_no n
  | [], _ :: _, _, h => by cases h
  | _ :: _, [], _, h => by cases h
  | v :: vs, d :: ds, n, h => Slots.cons (F := []) (G := []) ⟨rfl, v, rfl, (AtAll.inv h).1⟩ (slots_val n (AtAll.inv h).2)
section
variable {P : Program} {w : World} {K : PySem.W.Frag} {mg : Str → Option Value} {base : Heap} {T : Tb}
/-- what a def's exceptions come to -/
abbrev WD (E : XK) : WX := fun cls d _ H' => E cls d H'
/-- a def that changes no argument -/
theorem fn_P {x qual : Str} {st : Stmt} {f : Addr} {fd : FuncData} {N ps : List Str} {k m n : Nat} {body : YS} (F : Fun K x qual st f fd) (Sc : FnScope N ps (defScope st)) (hm : ps.length = m) (hn : N.length = m + n)
    (bd : ∀ (cdv : Value) (A : Around) (outer : List Env) (s : Shared) (H : Hp) (E : XK), Room k (A.deeper (envOfC qual (defScope st) s.heap.objs.size f cdv)) →
      ∃ t, PSs (cxOf (L2N.CX P w) P w K mg base N qual (defScope st) f cdv A outer s H E) (defBody st) t ∧ SS K T (WD E) t body) :
    FnOk P w K mg base (L2N.CX P w) (k + 1) f fd ps (spP K T (defP m n body)) := by
  refine okN F Sc (fun vs H Q E h => ?_) fun cdv A outer s H vs Q E hr h => ?_
  · obtain ⟨Z, B, ds, R, X, _, _, o, hs, _⟩ := h
    rw [o.length, hs.1, hm]
  · obtain ⟨t, ht, sd⟩ := bd cdv A outer s H E hr
    obtain ⟨Z, B, ds, R, X, z, b, o, hs, kr, kx⟩ := h
    have I : EnvOk K T ⟨B, [], H, Z⟩ Z H (L2.start N vs) (ds.map S.val ++ List.replicate n .no) [] := by
      refine ⟨z, b, fun a u e _ => e, fun a e => e, ?_, fun a ha => (by cases ha), List.nodup_nil, fun a e => .inl e⟩
      unfold L2.start
      have : N.length - vs.length = n := by rw [o.length, hs.1]; omega
      rw [this]
      exact slots_val (c := ⟨B, [], H, Z⟩) n o
    have st' : ∀ {Z' H' σ' ρ' F'}, Same Z Z' → EnvOk K T ⟨B, [], H, Z⟩ Z' H' σ' ρ' F' → PStep Z H Z' H' := fun {Z' H' σ' ρ' F'} zz J => ⟨zz, fun a u e => J.sm a u e (by simp), fun a e => (J.zn a e).elim .inl fun h => h.elim .inr fun h => (by cases h), J.zh⟩
    refine ⟨t, ht, sd ⟨B, [], H, Z⟩ Z _ H _ [] _ I (fun Z' σ' H' ρ' F' cn fs od zz J ex x => kx cn fs od Z' H' (st' zz J) ex x) hs.2.go _ ⟨fun Z' σ' H' ρ' F' zz J q => ?_, fun v Z' σ' H' ρ' F' r zz J hr nr q => ?_, fun _ _ _ _ _ _ _ z => z.elim, fun _ _ _ _ _ _ _ z => z.elim⟩⟩
    · exact kr .non Z' H' (.val .non) [] (st' zz J) ⟨rfl, .non⟩ rfl q
    · have hF : ∀ {d G}, Ow K T Z' B H' v d G → True := fun _ => trivial
      cases r with
      | val d => exact kr v Z' H' (.val d) [] (st' zz J) ⟨rfl, hr⟩ rfl q
      | tmp d =>
        obtain ⟨G, h1, h2, h3⟩ := hr
        exact kr v Z' H' (.tmp d) G (st' zz J) ⟨h1, h2, fun a ha => ⟨(h3 a ha).2.2.2.elim id fun h => (by cases h), (h3 a ha).2.1⟩⟩ rfl q
      | rd d => cases nr
/-- an __init__ -/
theorem fn_N {cn : String} {x qual : Str} {st : Stmt} {f : Addr} {fd : FuncData} {N ps : List Str} {k m n : Nat} {body : YS} (F : Fun K x qual st f fd) (Sc : FnScope N ps (defScope st)) (hm : ps.length = m + 1) (hn : N.length = m + 1 + n) (g : Gd K T cn [])
    (bd : ∀ (cdv : Value) (A : Around) (outer : List Env) (s : Shared) (H : Hp) (E : XK), Room k (A.deeper (envOfC qual (defScope st) s.heap.objs.size f cdv)) →
      ∃ t, PSs (cxOf (L2N.CX P w) P w K mg base N qual (defScope st) f cdv A outer s H E) (defBody st) t ∧ SS K T (WD E) t body) :
    FnOk P w K mg base (L2N.CX P w) (k + 1) f fd ps (spN K T cn (defI cn m n body)) := by
  refine okN F Sc (fun vs H Q E h => ?_) fun cdv A outer s H vs Q E hr h => ?_
  · obtain ⟨Z, B, p, dx, ws, ds, R, X, rfl, _, _, _, _, _, o, hs, _⟩ := h
    rw [List.length_cons, o.length, hs.1, hm]
  · obtain ⟨t, ht, sd⟩ := bd cdv A outer s H E hr
    obtain ⟨Z, B, p, dx, ws, ds, R, X, rfl, hp, z, b, zp, bp, o, hs, kr, kx⟩ := h
    have I : EnvOk K T ⟨B, [p], H, Z⟩ Z H (L2.start N (V.ref p :: ws)) (S.own (some p) (.obj .own cn [] []) :: (ds.map S.val ++ List.replicate n .no)) [p] := by
      refine ⟨z, b, fun a u e _ => e, fun a e => e, ?_, fun a ha => ?_, (by simp), fun a e => .inl e⟩
      · unfold L2.start
        have : N.length - (V.ref p :: ws).length = n := by rw [List.length_cons, o.length, hs.1]; omega
        rw [this]
        exact Slots.cons (F := [p]) (G := []) ⟨.ref p, rfl, fun a z => (by cases z; rfl), .obj (m := .own) (F := []) hp rfl .nil rfl g⟩ (slots_val (c := ⟨B, [p], H, Z⟩) n o)
      · cases List.mem_singleton.mp ha
        exact ⟨zp, bp, .inr (by simp)⟩
    have st' : ∀ {Z' H' σ' ρ' F'}, Same Z Z' → EnvOk K T ⟨B, [p], H, Z⟩ Z' H' σ' ρ' F' → IStep p Z H Z' H' := fun {Z' H' σ' ρ' F'} zz J =>
      ⟨zz, J.zh, fun a u e n => J.sm a u e (by simpa using n), J.tr, fun a e => (J.zn a e).elim .inl fun h => h.elim (fun h => .inr (.inl h)) fun h => .inr (.inr (by simpa using h))⟩
    have fin : ∀ {Z' H' σ' ρ' F'}, Same Z Z' → EnvOk K T ⟨B, [p], H, Z⟩ Z' H' σ' ρ' F' → own0 p ρ' R → Q .non H' := fun {Z' H' σ' ρ' F'} zz J q => by
      unfold own0 at q
      split at q
      · rename_i r d e
        obtain ⟨o, F1, Fi, F2, e1, e2, e3, _⟩ := J.sl.get e
        obtain ⟨v, rfl, e4, ow⟩ := e3
        have := e4 p q.1
        subst this
        have nd := J.nd
        rw [e2] at nd
        exact kr Z' H' d Fi (st' zz J) ow (List.nodup_append.mp (List.nodup_append.mp nd).2.1).1 (fun a ha => by
          have := J.fr a (by rw [e2]; exact List.mem_append_right _ (List.mem_append_left _ ha))
          exact ⟨this.2.2.elim .inl fun h => .inr (by simpa using h), this.1⟩) q.2
      · exact q.elim
    refine ⟨t, ht, sd ⟨B, [p], H, Z⟩ Z _ H _ [p] _ I (fun Z' σ' H' ρ' F' cn fs od zz J ex x => kx cn fs od Z' H' (st' zz J) ex x) (hs.2 p) _ ⟨fun Z' σ' H' ρ' F' zz J q => fin zz J q, fun v Z' σ' H' ρ' F' r zz J hr nr q => ?_, fun _ _ _ _ _ _ _ z => z.elim, fun _ _ _ _ _ _ _ z => z.elim⟩⟩
    cases r with
    | val d =>
      cases d with
      | non =>
        cases hr
        exact fin zz J q
      | _ => exact False.elim q
    | tmp d => exact False.elim q
    | rd d => exact False.elim q
end
end Y

/-! YI: changes in what a name owns. -/
namespace Y
open PySem PySem.Spec PyProof.Rows L2
section
variable (K : PySem.W.Frag) (T : Tb) (W : WX)
def SW (te : TE) (y : YW) : Prop := ∀ (c : Cz) (Z : Hp) (σ : L2.St) (H : Hp) (ρ : List S) (F : List Addr) (Q : Nat → List Stp → D → Prop) (X : XD), EnvOk K T c Z H σ ρ F → WP K T c W Z σ H X → y ρ Q X →
  ∀ R : VK, (∀ v Z' H' i π d, PStep Z H Z' H' → PAt H' σ ρ i π v d → Q i π d → R v H') → te σ H R
end
section
variable {K : PySem.W.Frag} {T : Tb} {W : WX} {c : Cz} {Z B H Z' B' H' : Hp} {σ : L2.St} {ρ : List S} {F G : List Addr} {v : V} {te ti tv tw : TE} {ya yb yj : YP} {yw : YW} {r : RV}
theorem sw_V {i : Nat} : SW K T W (tVar i) (wV i) := fun c Z σ H ρ F Q X I hw q R k => by
  unfold wV at q
  split at q
  · rename_i r0 d e
    obtain ⟨o, F1, Fi, F2, e1, e2, e3, _⟩ := I.sl.get e
    obtain ⟨w, rfl, _, h2⟩ := e3
    exact ⟨w, e1, k w Z H i [] d (.refl I.zh) ⟨⟨w, r0, d, e1, e, .nil⟩⟩ q⟩
  · exact q.elim
theorem childF_ix : ∀ {ns : List String} {ds : List D} {f : String} {n : Nat}, childF ns ds f = some n → ns[n]? = some f ∧ ∀ j : Nat, j < n → ns[j]? ≠ some f
  | [], _, _, _, h => by unfold childF at h; cases h
  | _ :: _, [], _, _, h => by unfold childF at h; cases h
  | m :: ns, d :: ds, f, n, h => by
    unfold childF at h
    by_cases e : m = f
    · rw [if_pos e] at h
      cases h
      exact ⟨by simp [e], fun j hj => by omega⟩
    · rw [if_neg e] at h
      cases q : childF ns ds f with
      | none => rw [q] at h; cases h
      | some i =>
        rw [q] at h
        cases h
        obtain ⟨h1, h2⟩ := childF_ix q
        refine ⟨by simpa using h1, fun j hj => ?_⟩
        cases j with
        | zero => simpa using e
        | succ j => simpa using h2 j (by have : j + 1 < i + 1 := hj; omega)
theorem sw_F {fn : String} {f : Str} (hf : f = Str.ofString fn) (hw' : SW K T W te yw) : SW K T W (tFld K te f) (wF yw fn) := fun c Z σ H ρ F Q X I hw q R k => hw' c Z σ H ρ F _ X I hw q _ fun v1 Z1 H1 i π d s1 hp q1 => by
  subst hf
  have I1 := I.p s1
  split at q1
  · rename_i n e1
    split at q1
    · rename_i e e2
      obtain ⟨G1, ow, _⟩ := hp.ow I1
      cases ow with
      | @obj a dx m cn fs ns ds F' _ c1 c2 o1 f1 g =>
        cases m with
        | own =>
          have e1 : childF ns ds fn = some n := e1
          obtain ⟨h1, h2⟩ := childF_ix e1
          obtain ⟨w, G2, e3, o2, _, _⟩ := o1.get e2
          have c1 : H1 a = some (.ins (T cn) dx fs) := c1
          refine ⟨a, T cn, dx, fs, w, rfl, c1, g.cl, g.na _ (List.mem_of_getElem? h1), lookup_fld c2 h1 h2 e3, ?_⟩
          obtain ⟨v0, r0, d0, g1, g2, g3⟩ := hp.ex
          refine k w Z1 H1 i _ e s1 ⟨⟨v0, r0, d0, g1, g2, g3.snoc (s := .fl fn) (n := n) e1 e2 ?_⟩⟩ q1
          unfold kid
          rw [c1]
          exact e3
        | frz => cases e1
        | bor => cases e1
      | @lst _ m _ _ _ _ _ _ _ => cases m <;> simp [stepN] at e1
      | _ => cases e1
    · exact q1.elim
  · exact q1.elim
theorem place_atI {α : Type} {ds : List α} {k : Int} {n : Nat} (h : place ds.length k = some n) : atI ds k = ds[n]? := by
  have h' : ixN ds.length k = some n := h
  unfold atI
  rw [h']
  rfl
theorem place_lt {n : Nat} {k : Int} {j : Nat} (h : place n k = some j) : j < n := by
  have h' : ixN n k = some j := h
  exact (ixN_seq h').2.1
theorem sw_I (hw' : SW K T W te yw) (hj : SP K T W ti yj) : SW K T W (tOp (rIx K) te ti) (wI yw yj) := fun c Z σ H ρ F Q X I hw q R k => hw' c Z σ H ρ F _ X I hw q _ fun v1 Z1 H1 i π d s1 hp q1 =>
  hj c Z1 σ H1 ρ F _ X (I.p s1) (hw.p s1) q1 _ fun v2 Z2 H2 r2 G2 s2 h2 q2 => by
  have I2 := (I.p s1).p s2
  have hp2 := hp.same s2.hh
  obtain ⟨_, o2⟩ := h2.ow
  split at q2
  · rename_i z ds e1
    rw [e1] at o2
    have := o2.int_iff
    subst this
    obtain ⟨n, e, e2, e3, q2⟩ := q2
    · skip
      · obtain ⟨G1, ow, _⟩ := hp2.ow I2
        obtain ⟨p, xs, F', rfl, c1, o1, f1⟩ := ow_lst ow
        have c1 : H2 p = some (.lst xs) := c1
        obtain ⟨w, G3, e4, o3, _, _⟩ := o1.get e3
        have hl := o1.length
        refine .inl ⟨p, xs, z, w, rfl, rfl, SqL.of c1, by rw [place_atI (by rw [hl]; exact e2)]; exact e4, ?_⟩
        obtain ⟨v0, r0, d0, g1, g2, g3⟩ := hp2.ex
        refine k w Z2 H2 i _ e (s1.trans s2) ⟨⟨v0, r0, d0, g1, g2, g3.snoc (s := .ix n) (n := n) ?_ e3 ?_⟩⟩ q2
        · show (if n < ds.length then some n else none) = some n
          rw [if_pos (place_lt e2)]
        · unfold kid
          rw [c1]
          exact e4
  · exact q2.elim
/-! what is stored -/
theorem putF_ok {fn : String} {e : D} {x : V} {G2 : List Addr} (hx : Ow K T Z B H x e G2) : ∀ {fs : List (Str × V)} {ns : List String} {ds : List D} {F' : List Addr}, fs.map (·.1) = nmS ns → OwAll K T Z B H (fs.map (·.2)) ds F' →
    ∃ F'', OwAll K T Z B H ((L2.putF (Str.ofString fn) x fs).map (·.2)) (Y.putF fn e ns ds).2 F'' ∧ (L2.putF (Str.ofString fn) x fs).map (·.1) = nmS (Y.putF fn e ns ds).1 ∧ (∀ b ∈ F'', b ∈ F' ∨ b ∈ G2) ∧ (F'.Nodup → G2.Nodup → (∀ b ∈ F', b ∉ G2) → F''.Nodup)
  | [], [], [], F', _, o => by
    cases o
    exact ⟨G2 ++ [], .cons hx .nil, rfl, fun b hb => .inr (by simpa using hb), fun _ n _ => by simpa using n⟩
  | [], [], _ :: _, F', _, o => by cases o
  | [], _ :: _, _, _, h, _ => by cases h
  | _ :: _, [], _, _, h, _ => by cases h
  | _ :: _, _ :: _, [], _, _, o => by cases o
  | (g, y) :: fs, n :: ns, d :: ds, F', h, o => by
    have e0 : g = Str.ofString n := (List.cons.inj h).1
    have hr := (List.cons.inj h).2
    cases o with
    | @cons _ _ _ _ Fh Ft o1 o2 =>
      by_cases en : n = fn
      · subst en
        refine ⟨G2 ++ Ft, ?_, ?_, fun b hb => ?_, fun n1 n2 n3 => ?_⟩
        · rw [L2.putF, if_pos e0, Y.putF, if_pos rfl]
          exact .cons hx o2
        · rw [L2.putF, if_pos e0, Y.putF, if_pos rfl]
          exact h
        · rcases List.mem_append.mp hb with hb | hb
          · exact .inr hb
          · exact .inl (List.mem_append_right _ hb)
        · exact List.nodup_append.mpr ⟨n2, (List.nodup_append.mp n1).2.1, fun a ha b hb e => by subst e; exact n3 a (List.mem_append_right _ hb) ha⟩
      · have hg : ¬ g = Str.ofString fn := fun z => en (ofString_inj (e0 ▸ z))
        obtain ⟨F2, i1, i2, i3, i4⟩ := putF_ok (fn := fn) hx hr o2
        refine ⟨Fh ++ F2, ?_, ?_, fun b hb => ?_, fun n1 n2 n3 => ?_⟩
        · rw [L2.putF, if_neg hg, Y.putF, if_neg en]
          exact .cons o1 i1
        · rw [L2.putF, if_neg hg, Y.putF, if_neg en]
          show g :: _ = Str.ofString n :: nmS _
          rw [i2, e0]
        · rcases List.mem_append.mp hb with hb | hb
          · exact .inl (List.mem_append_left _ hb)
          · exact (i3 b hb).imp (List.mem_append_right _) id
        · rw [List.nodup_append] at n1 ⊢
          refine ⟨n1.1, i4 n1.2.1 n2 fun b hb => n3 b (List.mem_append_right _ hb), fun a ha b hb e => ?_⟩
          subst e
          rcases i3 a hb with z | z
          · exact n1.2.2 a ha a z rfl
          · exact n3 a (List.mem_append_left _ ha) z
/-- what is stored, told for the store: its cells are fresh -/
structure Sto (K : PySem.W.Frag) (T : Tb) (c : Cz) (Z H : Hp) (F : List Addr) (x : V) (e : D) (G : List Addr) : Prop where
  ow : Ow K T Z c.B H x e G
  nd : G.Nodup
  fr : Fresh c Z F G
theorem sto_ok {o : Bool} {Q : D → Prop} (I : EnvOk K T c Z H σ ρ F) (h : RvE K T c Z H F v r) (q : still o r Q) : ∃ e Z' G, Q e ∧ Same Z Z' ∧ EnvOk K T c Z' H σ ρ F ∧ Sto K T c Z' H F v e G := by
  cases r with
  | val d => exact ⟨d, Z, [], q, Same.refl _, I, ⟨h, List.nodup_nil, fun a ha => by cases ha⟩⟩
  | tmp d =>
    cases o with
    | true =>
      obtain ⟨G, h1, h2, h3⟩ := h
      exact ⟨d, Z, G, q, Same.refl _, I, ⟨h1, h2, h3⟩⟩
    | false =>
      obtain ⟨e, Z', q', z, J, ow⟩ := RvE.still h I q
      exact ⟨e, Z', [], q', z, J, ⟨ow, List.nodup_nil, fun a ha => by cases ha⟩⟩
  | rd d => exact False.elim q
theorem Sto.p {x : V} {e : D} (h : Sto K T c Z H F x e G) (s : PStep Z H Z' H') : Sto K T c Z' H' F x e G := by
  have th := Ow.there _ _ _ h.ow
  exact ⟨Ow.mono s.zz (Same.refl _) _ _ _ (fun a ha => same_at s.hh (th a ha)) h.ow, h.nd, fun a ha => ⟨(h.fr a ha).1, fresh_p s (th a ha) (h.fr a ha).2.1, (h.fr a ha).2.2⟩⟩
/-- o.f = e -/
theorem ss_setF {o : Bool} {cn fn : String} {f : Str} (hf : f = Str.ofString fn) (na : NoAttr K (T cn) f) (he : SP K T W tv yb) (hw' : SW K T W te yw) : SS K T W (sFld K te tv f) (sSetF o cn yw fn yb) := fun c Z σ H ρ F k I hx q E ok => by
  subst hf
  refine he c Z σ H ρ F _ _ I (WP.of I hx.at) q _ fun v1 Z1 H1 r1 G1 s1 h1 q1 => ?_
  have I1 := I.p s1
  obtain ⟨e, Z2, G, q2, z2, I2, sto⟩ := sto_ok I1 (h1.e I) q1
  have hx2 := hx.z (Same.tr s1.zz z2)
  refine hw' c Z2 σ H1 ρ F _ _ I2 (WP.of I2 hx2.at) q2 _ fun v3 Z3 H3 i π d s3 hp q3 => ?_
  have I3 := I2.p s3
  have sto3 := sto.p s3
  split at q3
  · rename_i cn' ns ds
    obtain ⟨⟨rfl, hl⟩, q4⟩ := q3
    obtain ⟨Gd0, ow, inF⟩ := hp.ow I3
    obtain ⟨a, dx, fs, F', rfl, c1, c2, o1, f1, g⟩ := ow_obj ow
    have f1 : Gd0 = a :: F' := f1
    have c1 : H3 a = some (.ins (T cn') dx fs) := c1
    have hfl : fs.length < 1000 := by
      have := o1.length
      rw [List.length_map] at this
      omega
    refine ⟨a, T cn', dx, fs, rfl, c1, g.cl, na, hfl, ?_⟩
    have zu : Same Z3 (L2.upd H3 a (.ins (T cn') dx (L2.putF (Str.ofString fn) v1 fs))) := fun b u e => by
      have : b ≠ a := fun z => by
        rw [z, (I3.fr a (inF a (by rw [f1]; exact List.mem_cons_self))).1] at e
        cases e
      rw [upd_ne this]
      exact I3.zh _ _ e
    obtain ⟨F2, J⟩ := I3.upd (d' := .obj .own cn' (Y.putF fn e ns ds).1 (Y.putF fn e ns ds).2) hp (Same.refl _) zu (fun b hb => (I3.fr b hb).1) I3.zn (by rw [c1]; exact fun z => nomatch z) (inF a (by rw [f1]; exact List.mem_cons_self)) (fun Fe oe inE nE => by
      obtain ⟨a', dx', fs', Fk, ea, k1, k2, k3, k4, k5⟩ := ow_obj oe
      cases ea
      have k4 : Fe = a :: Fk := k4
      subst k4
      have k1 : H3 a = some (.ins (T cn') dx' fs') := k1
      rw [c1] at k1
      cases k1
      have aG : a ∉ G := fun ha => (sto3.fr a ha).1 (inE a List.mem_cons_self)
      have aF : a ∉ Fk := (List.nodup_cons.mp nE).1
      obtain ⟨F3, j1, j2, j3, j4⟩ := putF_ok (fn := fn) sto3.ow k2 k3
      have aF3 : a ∉ F3 := fun ha => (j3 a ha).elim aF aG
      refine ⟨a :: F3, .obj (m := .own) upd_same j2 (OwAll.mono (Same.refl _) (Same.refl _) _ _ _ (fun b hb => upd_ne fun z => aF3 (z ▸ hb)) j1) rfl ⟨k5.cl, k5.ha, k5.hm, fun g hg => ?_⟩, List.nodup_cons.mpr ⟨aF3, j4 (List.nodup_cons.mp nE).2 sto3.nd fun b hb hg => (sto3.fr b hg).1 (inE b (List.mem_cons_of_mem _ hb))⟩, List.mem_cons_self, fun b hb => ?_⟩
      · rcases putF_mem hg with z | z
        · exact k5.na g z
        · subst z; exact na
      · rcases List.mem_cons.mp hb with rfl | hb
        · exact .inl List.mem_cons_self
        · rcases j3 b hb with z | z
          · exact .inl (List.mem_cons_of_mem _ z)
          · exact .inr (sto3.fr b z))
    exact ok.nx Z3 σ _ _ F2 (Same.tr s1.zz (Same.tr z2 s3.zz)) J q4
  · exact q3.elim
where
  putF_mem {fn : String} {e : D} : ∀ {ns : List String} {ds : List D} {g : String}, g ∈ (Y.putF fn e ns ds).1 → g ∈ ns ∨ g = fn
    | [], _, g, h => by
      rw [Y.putF] at h
      · exact .inr (by simpa using h)
      · intro _ _ _ _ z; cases z
    | n :: ns, [], g, h => by
      rw [Y.putF] at h
      · exact .inr (by simpa using h)
      · intro _ _ _ _ _ z; cases z
    | n :: ns, d :: ds, g, h => by
      rw [Y.putF] at h
      by_cases en : n = fn
      · rw [if_pos en] at h
        exact .inl h
      · rw [if_neg en] at h
        rcases List.mem_cons.mp h with z | z
        · exact .inl (by rw [z]; exact List.mem_cons_self)
        · exact (putF_mem z).imp (List.mem_cons_of_mem _) id
end
end Y

/-! YJ: a name's own lists changed: append, pop, [..] = -/
namespace Y
open PySem PySem.Spec PyProof.Rows L2
section
variable {K : PySem.W.Frag} {T : Tb} {W : WX} {c : Cz} {Z B H Z' B' H' : Hp} {σ : L2.St} {ρ : List Y.S} {F G : List Addr} {v : V} {te ti tj tv tw : TE} {ya yb yj : YP} {yw : YW} {r : RV}
theorem owa_erase : ∀ {ds : List D} {vs : List V} {F : List Addr} {n : Nat} {e : D}, OwAll K T Z B H vs ds F → ds[n]? = some e → Y.nown e = true → OwAll K T Z B H (vs.eraseIdx n) (ds.eraseIdx n) F
  | _, _, _, _, _, .nil, e, _ => by simp at e
  | _, _, _, 0, _, .cons h t, e, k => by
    simp at e
    subst e
    rw [Ow.nown _ _ _ h k]
    simpa using t
  | _, _, _, n + 1, _, .cons (F := Fh) h t, e, k => .cons h (owa_erase (n := n) t (by simpa using e) k)
theorem owa_set : ∀ {ds : List D} {vs : List V} {F G : List Addr} {n : Nat} {e : D} {x : V}, OwAll K T Z B H vs ds F → Ow K T Z B H x e G → ∃ F', OwAll K T Z B H (vs.set n x) (ds.set n e) F' ∧ (∀ a ∈ F', a ∈ F ∨ a ∈ G) ∧ (F.Nodup → G.Nodup → (∀ a ∈ F, a ∉ G) → F'.Nodup)
  | _, _, _, G, _, _, _, .nil, _ => ⟨[], .nil, fun a h => (by cases h), fun _ _ _ => List.nodup_nil⟩
  | _, _, _, G, 0, _, _, .cons (G := F2) h t, o => ⟨_, .cons o t, fun a ha => (List.mem_append.mp ha).elim .inr fun z => .inl (List.mem_append_right _ z), fun n1 n2 n3 =>
      List.nodup_append.mpr ⟨n2, (List.nodup_append.mp n1).2.1, fun a ha b hb e => by subst e; exact n3 a (List.mem_append_right _ hb) ha⟩⟩
  | _, _, _, G, n + 1, _, _, .cons (F := Fh) (G := F2) h t, o => by
    obtain ⟨F3, h1, h2, h3⟩ := owa_set (n := n) t o
    refine ⟨Fh ++ F3, .cons h h1, fun a ha => ?_, fun n1 n2 n3 => ?_⟩
    · rcases List.mem_append.mp ha with z | z
      · exact .inl (List.mem_append_left _ z)
      · exact (h2 a z).imp (List.mem_append_right _) id
    · have nn := List.nodup_append.mp n1
      refine List.nodup_append.mpr ⟨nn.1, h3 nn.2.1 n2 fun a ha => n3 a (List.mem_append_right _ ha), fun a ha b hb e => ?_⟩
      subst e
      rcases h2 a hb with z | z
      · exact nn.2.2 a ha a z rfl
      · exact n3 a (List.mem_append_left _ ha) z
/-- the list at a path is told anew -/
theorem lst_upd {i : Nat} {π : List Stp} {a : Addr} {xs ys : List V} {ds es : List D} {G : List Addr} (I : EnvOk K T c Z H σ ρ F) (h : PAt H σ ρ i π (.ref a) (.lst .own ds)) (h1 : H a = some (.lst xs)) (fr : Fresh c Z F G) (nd : G.Nodup)
    (k : ∀ Fk, OwAll K T Z c.B H xs ds Fk → ∃ F3, OwAll K T Z c.B H ys es F3 ∧ (∀ b ∈ F3, b ∈ Fk ∨ b ∈ G) ∧ (Fk.Nodup → (∀ b ∈ Fk, b ∉ G) → F3.Nodup)) : ∃ F', EnvOk K T c Z (L2.upd H a (.lst ys)) σ (upS ρ i π (.lst .own es)) F' := by
  obtain ⟨Gd0, ow, inF⟩ := h.ow I
  obtain ⟨p, xs0, F', ep, c1, o1, f1⟩ := ow_lst ow
  cases ep
  have f1 : Gd0 = a :: F' := f1
  have af : a ∈ F := inF a (by rw [f1]; exact List.mem_cons_self)
  have zu : Same Z (L2.upd H a (.lst ys)) := fun b u e => by
    have : b ≠ a := fun z => by
      rw [z, (I.fr a af).1] at e
      cases e
    rw [upd_ne this]
    exact I.zh _ _ e
  refine I.upd h (Same.refl _) zu (fun b hb => (I.fr b hb).1) I.zn (by rw [h1]; exact fun z => nomatch z) af fun Fe oe inE nE => ?_
  obtain ⟨a', xs', Fk, ea, k1, k2, k4⟩ := ow_lst oe
  cases ea
  have k4 : Fe = a :: Fk := k4
  subst k4
  have k1 : H a = some (.lst xs') := k1
  rw [h1] at k1
  cases k1
  obtain ⟨F3, j1, j3, j4⟩ := k Fk k2
  have aG : a ∉ G := fun ha => (fr a ha).1 af
  have aF : a ∉ Fk := (List.nodup_cons.mp nE).1
  have aF3 : a ∉ F3 := fun ha => (j3 a ha).elim aF aG
  refine ⟨a :: F3, .lst (m := .own) upd_same (OwAll.mono (Same.refl _) (Same.refl _) _ _ _ (fun b hb => upd_ne fun z => aF3 (z ▸ hb)) j1) rfl, List.nodup_cons.mpr ⟨aF3, j4 (List.nodup_cons.mp nE).2 fun b hb hg => (fr b hg).1 (inE b (List.mem_cons_of_mem _ hb))⟩, List.mem_cons_self, fun b hb => ?_⟩
  rcases List.mem_cons.mp hb with rfl | hb
  · exact .inl List.mem_cons_self
  · rcases j3 b hb with z | z
    · exact .inl (List.mem_cons_of_mem _ z)
    · exact .inr (fr b z)
theorem lst_at {i : Nat} {π : List Stp} {ds : List D} (I : EnvOk K T c Z H σ ρ F) (h : PAt H σ ρ i π v (.lst .own ds)) : ∃ a xs, v = .ref a ∧ H a = some (.lst xs) ∧ xs.length = ds.length ∧ ∃ F', OwAll K T Z c.B H xs ds F' := by
  obtain ⟨Gd0, ow, inF⟩ := h.ow I
  obtain ⟨p, xs0, F', ep, c1, o1, f1⟩ := ow_lst ow
  exact ⟨p, xs0, ep, c1, o1.length, F', o1⟩
/-- x.append(e) -/
theorem ss_app {o : Bool} (hw' : SW K T W te yw) (he : SP K T W tv yb) : SS K T W (tDrop (tBM K "list" rAppend te (L2.tCons tv L2.tNil))) (sApp o yw yb) := fun c Z σ H ρ F k I hx q E ok => by
  refine hw' c Z σ H ρ F _ _ I (WP.of I hx.at) q _ fun v1 Z1 H1 i π d s1 hp q1 => ?_
  have I1 := I.p s1
  split at q1
  · rename_i ds
    obtain ⟨a, xs, rfl, h1, hl, _⟩ := lst_at I1 hp
    refine ⟨.inl ⟨rfl, xs, SqL.of h1⟩, he c Z1 σ H1 ρ F _ _ I1 (WP.of I1 (hx.z s1.zz).at) q1 _ fun v2 Z2 H2 r2 G2 s2 h2 q2 => ?_⟩
    have I2 := I1.p s2
    obtain ⟨e, Z3, G, ⟨hz, q3⟩, z3, I3, sto⟩ := sto_ok I2 (h2.e I1) q2
    have h12 := s2.hh _ _ h1
    obtain ⟨F2, J⟩ := lst_upd (ys := xs ++ [v2]) (es := ds ++ [e]) I3 (hp.same s2.hh) h12 sto.fr sto.nd fun Fk ok => ⟨Fk ++ (G ++ []), OwAll.append ok (.cons sto.ow .nil), fun b hb => (List.mem_append.mp hb).imp id fun z => by simpa using z, fun n1 n2 => by
      rw [List.append_nil]
      exact List.nodup_append.mpr ⟨n1, sto.nd, fun a ha b hb e => by subst e; exact n2 a ha hb⟩⟩
    exact ⟨a, xs, v2, rfl, rfl, h12, sz_lt (by omega), ok.nx Z3 σ _ _ F2 (Same.tr s1.zz (Same.tr s2.zz z3)) J q3⟩
  · exact q1.elim
/-- x[j] = e -/
theorem ss_setI {o : Bool} (hw' : SW K T W te yw) (hj : SP K T W tj yj) (he : SP K T W tv yb) : SS K T W (tAsg tv (gSub te tj rSetL)) (sSetI o yw yj yb) := fun c Z σ H ρ F k I hx q E ok => by
  refine he c Z σ H ρ F _ _ I (WP.of I hx.at) q _ fun v1 Z1 H1 r1 G1 s1 h1 q1 => ?_
  have I1 := I.p s1
  obtain ⟨e, Z2, G, q2, z2, I2, sto⟩ := sto_ok I1 (h1.e I) q1
  have hx2 := hx.z (Same.tr s1.zz z2)
  refine hw' c Z2 σ H1 ρ F _ _ I2 (WP.of I2 hx2.at) q2 _ fun v3 Z3 H3 i π d s3 hp q3 => ?_
  have I3 := I2.p s3
  refine hj c Z3 σ H3 ρ F _ _ I3 (WP.of I3 (hx2.z s3.zz).at) q3 _ fun v4 Z4 H4 r4 G4 s4 h4 q4 => ?_
  have I4 := I3.p s4
  have sto4 := (sto.p s3).p s4
  obtain ⟨_, o4⟩ := h4.ow
  split at q4
  · rename_i ds z e1
    rw [e1] at o4
    have := o4.int_iff
    subst this
    obtain ⟨n, e2, q4⟩ := q4
    · obtain ⟨a, xs, rfl, g1, hl, _⟩ := lst_at I4 (hp.same s4.hh)
      obtain ⟨F2, J⟩ := lst_upd (ys := xs.set n v1) (es := ds.set n e) I4 (hp.same s4.hh) g1 sto4.fr sto4.nd fun Fk ok => by
        obtain ⟨F3, j1, j2, j3⟩ := owa_set (n := n) ok sto4.ow
        exact ⟨F3, j1, j2, fun n1 n2 => j3 n1 sto4.nd n2⟩
      exact ⟨a, xs, z, n, rfl, rfl, g1, by rw [hl]; exact e2, ok.nx Z4 σ _ _ F2 (Same.tr s1.zz (Same.tr z2 (Same.tr s3.zz s4.zz))) J q4⟩
  · exact q4.elim
/-- x.pop(j) -/
theorem se_pop (hw' : SW K T W te yw) (hj : SP K T W tj yj) : SE K T W (tBM K "list" rPopAt te (L2.tCons tj L2.tNil)) (ePop yw yj) := fun c Z σ H ρ F Q X I hw q R k => by
  refine hw' c Z σ H ρ F _ _ I (WP.of I hw) q _ fun v1 Z1 H1 i π d s1 hp q1 => ?_
  have I1 := I.p s1
  split at q1
  · rename_i ds
    obtain ⟨a, xs, rfl, h1, hl, _⟩ := lst_at I1 hp
    refine ⟨.inl ⟨rfl, xs, SqL.of h1⟩, hj c Z1 σ H1 ρ F _ _ I1 (WP.of I1 fun Z' H' ρ' F' cn fs od z => hw Z' H' ρ' F' cn fs od (Same.tr s1.zz z)) q1 _ fun v2 Z2 H2 r2 G2 s2 h2 q2 => ?_⟩
    have I2 := I1.p s2
    obtain ⟨_, o2⟩ := h2.ow
    split at q2
    · rename_i z e1
      rw [e1] at o2
      have := o2.int_iff
      subst this
      obtain ⟨n, x, e2, e3, nx, hz, q3⟩ := q2
      · skip
        · skip
          have h12 := s2.hh _ _ h1
          have hp2 := hp.same s2.hh
          obtain ⟨a', xs', ea, h1', hl', Fk0, o0⟩ := lst_at I2 hp2
          cases ea
          rw [h12] at h1'
          cases h1'
          obtain ⟨w, Gw, e4, o3, _, _⟩ := o0.get e3
          have e5 := Ow.nown _ _ _ o3 nx
          subst e5
          obtain ⟨F2, J⟩ := lst_upd (G := []) (ys := xs.eraseIdx n) (es := ds.eraseIdx n) I2 hp2 h12 (fun a ha => by cases ha) List.nodup_nil fun Fk ok => ⟨Fk, owa_erase ok e3 nx, fun b hb => .inl hb, fun n1 _ => n1⟩
          have e2' : ixN xs.length z = some n := by rw [hl]; exact e2
          exact ⟨a, xs, z, n, w, rfl, rfl, h12, by omega, by omega, (ixN_seq e2').1, e4, k w Z2 _ _ F2 (.val x) (Same.tr s1.zz s2.zz) J (o3.still (Same.refl _) (Same.refl _)) q3⟩
    · exact q2.elim
  · exact q1.elim
theorem erase_last {α : Type} : ∀ {l : List α} {n : Nat}, n + 1 = l.length → l.eraseIdx n = l.dropLast
  | [], n, h => by simp at h
  | [a], n, h => by
    have : n = 0 := by simpa using h
    subst this
    rfl
  | a :: b :: r, 0, h => by simp at h
  | a :: b :: r, n + 1, h => by
    rw [List.eraseIdx_cons_succ, erase_last (l := b :: r) (by simpa using h)]
    rfl
/-- x.pop() -/
theorem se_pop0 (hw' : SW K T W te yw) : SE K T W (tBM0 K "list" rPop te) (ePop0 yw) := fun c Z σ H ρ F Q X I hw q R k => by
  refine hw' c Z σ H ρ F _ _ I (WP.of I hw) q _ fun v1 Z1 H1 i π d s1 hp q1 => ?_
  have I1 := I.p s1
  split at q1
  · rename_i ds
    obtain ⟨a, xs, rfl, h1, hl, Fk0, o0⟩ := lst_at I1 hp
    obtain ⟨x, e3, nx, q3⟩ := q1
    · rw [List.getLast?_eq_getElem?] at e3
      obtain ⟨w, Gw, e4, o3, _, _⟩ := o0.get e3
      have e5 := Ow.nown _ _ _ o3 nx
      subst e5
      obtain ⟨F2, J⟩ := lst_upd (G := []) (ys := xs.dropLast) (es := ds.dropLast) I1 hp h1 (fun a ha => by cases ha) List.nodup_nil fun Fk ok => ⟨Fk, by
        have := owa_erase ok e3 nx
        have hj := (List.getElem?_eq_some_iff.mp e3).1
        rw [erase_last (by omega), erase_last (by omega)] at this
        exact this, fun b hb => .inl hb, fun n1 _ => n1⟩
      exact ⟨.inl ⟨rfl, xs, SqL.of h1⟩, a, xs, w, rfl, rfl, h1, by rw [hl]; exact e4, k w Z1 _ _ F2 (.val x) s1.zz J (o3.still (Same.refl _) (Same.refl _)) q3⟩
  · exact q1.elim
theorem upS_nil {i : Nat} {r0 : Option Nat} {d e : D} (h : ρ[i]? = some (.own r0 d)) : upS ρ i [] e = ρ.set i (.own r0 e) := by
  unfold upS
  rw [h]
  rfl
theorem pat_V {i : Nat} {r0 : Option Nat} {d : D} (I : EnvOk K T c Z H σ ρ F) (h : ρ[i]? = some (.own r0 d)) : ∃ v, σ[i]? = some (some v) ∧ PAt H σ ρ i [] v d := by
  obtain ⟨o, F1, Fi, F2, e1, e2, e3, _⟩ := I.sl.get h
  obtain ⟨v, rfl, e4, ow⟩ := e3
  exact ⟨v, e1, ⟨v, r0, d, e1, h, .nil⟩⟩
/-- x.append(e), e may change names -/
theorem ss_appV {o : Bool} {i : Nat} {ye : YE} (he : SE K T W tv ye) : SS K T W (tDrop (tBM K "list" rAppend (tVar i) (L2.tCons tv L2.tNil))) (sAppV o i ye) := fun c Z σ H ρ F k I hx q E ok => by
  unfold sAppV at q
  split at q
  · rename_i q0 ds0 e0
    obtain ⟨v, hv, pv0⟩ := pat_V I e0
    obtain ⟨a, xs0, rfl, h1, _⟩ := lst_at I pv0
    refine ⟨_, hv, .inl ⟨rfl, xs0, SqL.of h1⟩, he c Z σ H ρ F _ _ I hx.at q _ fun v2 Z2 H2 ρ2 F2 r2 z2 I2 h2 q2 => ?_⟩
    split at q2
    · rename_i q1 ds e1
      obtain ⟨v', hv', pv2⟩ := pat_V I2 e1
      have : v' = V.ref a := by rw [hv] at hv'; exact (Option.some.inj (Option.some.inj hv')).symm
      subst this
      obtain ⟨e, Z3, G, ⟨hz, q3⟩, z3, I3, sto⟩ := sto_ok I2 h2 q2
      obtain ⟨a', xs, ea, h3, hl, _⟩ := lst_at I3 pv2
      cases ea
      obtain ⟨F3, J⟩ := lst_upd (ys := xs ++ [v2]) (es := ds ++ [e]) I3 pv2 h3 sto.fr sto.nd fun Fk ok => ⟨Fk ++ (G ++ []), OwAll.append ok (.cons sto.ow .nil), fun b hb => (List.mem_append.mp hb).imp id fun z => by simpa using z, fun n1 n2 => by
        rw [List.append_nil]
        exact List.nodup_append.mpr ⟨n1, sto.nd, fun a ha b hb e => by subst e; exact n2 a ha hb⟩⟩
      rw [upS_nil e1] at J
      exact ⟨a, xs, v2, rfl, rfl, h3, sz_lt (by omega), ok.nx Z3 σ _ _ F3 (Same.tr z2 z3) J q3⟩
    · exact q2.elim
  · exact q.elim
end
end Y

/-! YL: an own exception over a base of one's own over ValueError: super().__init__(text); self.f = f. -/
namespace Y
open PySem PySem.Spec PyProof.Rows L2
/-- ValueError.__init__, bound to x -/
abbrev viW (x : Addr) : Obj := { cls := .type "method-wrapper", dict := none, data := .fields #[.builtin "ValueError.__init__", .ref x], slots := #[] }
theorem vi_type : typeOf (.builtin "ValueError.__init__") = pure (.type "wrapper_descriptor") := (show builtinType _ = _ by rw [builtinType_eq_fast]; kernel_rfl)
theorem vi_name : (kfb_private% "nameAndClass") (Value.builtin "ValueError.__init__") = (pure (Str.ofString "__init__", Value.type "ValueError") : Sem (Str × Value)) := by kernel_rfl
section
open PySem.W
variable {prog : Program} {w : World} {M : Model} {A : Around} {E : Value → Shared → Prop} {h : Heap} {g : Array GenState} {d : Drawn} {t : Nat} {os : OsState}
theorem vi_get {x C : Addr} {P : Fin → Shared → Prop} (hin : Looks M h (isInstance (.ref x) (.type "ValueError")) true) (hq : P (.done (.ret (.ref h.objs.size))) ⟨h.push (viW x), g, d, t, os⟩) :
    wpAny M A (Builtin.«wrapper_descriptor.__get__» ⟨[.builtin "ValueError.__init__", .ref x, .ref C], []⟩) P E ⟨h, g, d, t, os⟩ := by
  unfold Builtin.«wrapper_descriptor.__get__»; refine wpAny_bind (wpAny_of_eq (a := (.builtin "ValueError.__init__", some (.ref x), some (.ref C))) (by first | rfl | kernel_rfl) ?_)
  show wpAny M A ((kfb_private% "checkInstance") (.builtin "ValueError.__init__") (.ref x) >>= fun _ => newFields "method-wrapper" [.builtin "ValueError.__init__", .ref x] >>= fun r => ret r) P E _
  refine wpAny_bind (show wpAny M A ((kfb_private% "nameAndClass") (.builtin "ValueError.__init__") >>= _) _ E _ from wpAny_bind (wpAny_of_eq vi_name ?_))
  exact (show wpAny M A (isInstance (.ref x) (.type "ValueError") >>= _) _ E _ from wpAny_bind (hin.at (KFB.if_not rfl (wpAny_pure (wpAny_bind (wpAny_newObj_type (wpAny_pure hq)))))))
theorem vi_ga {so D x C : Addr} {l₀ l : List Value} {K : Frag} {name : Str} {tk : Tok} {Q : Fin → Shared → Prop}
    (hso : h.get? so = some (ks_superObj D x C)) (hno : Looks (model prog w) h (opaqueClassAbove (.ref C)) none) (hC : Looks (model prog w) h (mroOf (.ref C)) l₀) (hl : (l₀.dropWhile (· != .ref D)).drop 1 = l) (X : K.In h)
    (hf : alongIn K name l = some (some (.builtin "ValueError.__init__"))) (hxC : x ≠ C) (hn : (name == ("__class__" : Str)) = false) (hin : Looks (model prog w) h (isInstance (.ref x) (.type "ValueError")) true)
    (hq : Q (.done (.ret (.ref h.objs.size))) ⟨h.push (viW x), g, d, t, os⟩) : wpAny (model prog w) A (Builtin.«super.__getattribute__» ⟨[.ref so, .str name tk], []⟩) Q E ⟨h, g, d, t, os⟩ := by
  have hlk := ESX.slot_wd.lookup; have hne : (Value.ref x == Value.ref C) = false := by simp [hxC]
  have ht : Shared.TypeIs ⟨h, g, d, t, os⟩ (.builtin "ValueError.__init__") "wrapper_descriptor" := vi_type
  have hdt : (ks_superObj D x C).data = .fields #[.ref D, .ref x, .ref C] := rfl
  have q0 : (#[.ref D, .ref x, .ref C] : Array Value)[0]? = some (.ref D) := rfl; have q1 : (#[.ref D, .ref x, .ref C] : Array Value)[1]? = some (.ref x) := rfl; have q2 : (#[.ref D, .ref x, .ref C] : Array Value)[2]? = some (.ref C) := rfl
  unfold Builtin.«super.__getattribute__»; repeat (first | (with_reducible refine wpAny_field hso hdt q0 ?_) | (with_reducible refine wpAny_field hso hdt q1 ?_) | (with_reducible refine wpAny_field hso hdt q2 ?_) | (with_reducible refine ks_wpAny_notOpaque hno ?_) | (with_reducible refine Looks.at hC ?_; rw [hl]) | (refine ks_forIn_along X (fun _ _ => rfl) rfl ?_ hf) | (with_reducible refine wpAny_call_entry ESX.slot_wd ht ESX.entry_wd ?_ (ESX.args_wd _ _ _)) | (with_reducible refine vi_get hin ?_) | (with_reducible refine ⟨_, rfl, ?_⟩) | (simp only [hn, hne, Bool.or_false, Bool.false_eq_true, if_false]) | wp_step | dsimp only)
  all_goals exact hq
theorem vi_method {so D x C : Addr} {l₀ l : List Value} {K : Frag} {name : Str} {pl : Sem Bool} {Q : Value × List Value → Shared → Prop}
    (hso : h.get? so = some (ks_superObj D x C)) (hno : Looks (model prog w) h (opaqueClassAbove (.ref C)) none) (hC : Looks (model prog w) h (mroOf (.ref C)) l₀) (hl : (l₀.dropWhile (· != .ref D)).drop 1 = l) (X : K.In h)
    (hf : alongIn K name l = some (some (.builtin "ValueError.__init__"))) (hxC : x ≠ C) (hn : (name == ("__class__" : Str)) = false) (hin : Looks (model prog w) h (isInstance (.ref x) (.type "ValueError")) true)
    (hq : Q (.ref h.objs.size, []) ⟨h.push (viW x), g, d, t + 1, os⟩) : wpAny (model prog w) A (getMethod (.ref so) name pl) Q E ⟨h, g, d, t, os⟩ := by
  have hlk := F.ks_slot_super_ga.lookup; have hcan := F.ks_canon_super_ga
  have hT : ∀ t', (⟨h, g, d, t', os⟩ : Shared).TypeIs (.ref so) "super" := fun _ => ⟨_, hso, rfl⟩
  unfold getMethod; refine wpAny_bind (wpAny_specialOf (hT _) hlk (show wpAny _ _ (if (Manifest.canonical "super.__getattribute__" != "object.__getattribute__") = true then _ else _) _ _ _ from ?_))
  rw [if_pos hcan]; unfold getAttr getAttrBy
  refine wpAny_bind (wpAny_bind (wpAny_mkText (wpAny_holding (wpAny_bind (wpAny_typeOf (hT _) (wpAny_bind (wpAny_of_eq hlk (show wpAny _ _ (getAttrByItsOwn (.ref so) (.str name t) (.type "super") (.builtin "super.__getattribute__") true false) _ _ _ from ?_))))))))
  unfold getAttrByItsOwn hookBefore callGetattribute boundAndCalled; refine wpAny_bind (wpAny_of_eq (show (if onTheHeap (.type "super") then typeLookup (.type "super") "__getattr__" else pure none) = pure none from rfl) (wpAny_bind (wpAny_attempt (wpAny_holding (show wpAny _ _ (bindSpecial (.builtin "super.__getattribute__") (.ref so) >>= _) _ _ _ from wpAny_bind (wpAny_of_eq (F.ks_slot_super_ga.bind _) ?_))))))
  refine wpAny_mono (Q := fun v s' => v = .ref h.objs.size ∧ s' = ⟨h.push (viW x), g, d, t + 1, os⟩) (E := fun _ _ => False) (wpAny_call_entry F.ks_slot_super_ga (hT _) F.ks_entry_super_ga (vi_ga hso hno hC hl X hf hxC hn hin ⟨_, rfl, rfl, rfl⟩) (F.ks_gaArgs_super _ _)) (fun v s' hv => ?_) fun _ _ z => z.elim
  obtain ⟨rfl, rfl⟩ := hv; exact wpAny_pure (wpAny_pure hq)
end
/-! ### the bound one called -/
section
open PySem.W PySem.Calls PyProof.Rows
variable {prog : Program} {w : World} {M : Model} {A : Around} {E : Value → Shared → Prop} {s : Shared}
theorem vi_with {pos : Pos} {u x : Addr} {first : List Value} {args : List (Bool × Sem Value)} {Q : Value → Shared → Prop} (hpl : args.any (·.1) = false)
    (h : wpAny M A (evalArgs (.ref u) true args []) (fun a s₁ => s₁.heap.get? u = some (viW x) ∧ wpAny M A (call (.ref u) (first ++ a.pos) a.kw) Q E s₁) E s) : wpAny M A (callWith pos (.ref u) first args []) Q E s := by
  unfold callWith; refine wpAny_bind (wpAny_holding (wpAny_mono h (fun a s₁ h₁ => wpAny_bind (wpAny_standAt ?_)) fun _ _ x => x))
  obtain ⟨ho, hc⟩ := h₁; simp only [hpl, List.any_nil, Bool.or_false]
  refine wpAny_bind (m := keeperOf (.ref u)) ?_; unfold keeperOf; refine wpAny_bind (wpAny_load ho ?_)
  simp only [viW, show (Value.type "method-wrapper" != Value.type "method") = true by decide, show (Value.type "method-wrapper" == Value.type "builtin_function_or_method" || Value.type "method-wrapper" == Value.type "method-wrapper") = true by decide, if_true]
  exact wpAny_pure (wpAny_bind (wpAny_mono hc (fun r s₂ hr => wpAny_bind (wpAny_holding (wpAny_point (wpAny_pure hr)))) fun _ _ x => x))
theorem vi_bound {pos : Pos} {u x : Addr} {first : List Value} {env : Env} {e : Expr} {rest : List Expr} {Q : Value → Shared → Prop}
    (h : wpAny M A (spliced (backTo pos (starEach (e :: rest) env))) (fun vs s₁ => s₁.heap.get? u = some (viW x) ∧ wpAny M A (call (.ref u) (first ++ vs)) Q E s₁) E s)
    (he : starEach (e :: rest) env = (false, eval e env) :: starEach rest env := by rfl) (hpl : (backTo pos (starEach rest env)).any (·.1) = false := by rfl) : wpAny M A (callWith pos (.ref u) first (backTo pos (starEach (e :: rest) env)) []) Q E s := by
  rw [he] at h ⊢; exact vi_with (x := x) (show (false || (backTo pos (starEach rest env)).any (·.1)) = false by rw [hpl]; rfl) (evalArgs_plain h)
end
section
variable {prog : Program} {w : World} {A : Around} {E : Value → Shared → Prop} {h : Heap} {g : Array GenState} {d : Drawn} {t : Nat} {os : OsState}
variable {nm q : Str} {C N : Addr} {bs bm : List Value} {hdct : Bool} {sn : List Str} {sub : List Value} {ab : Bool} {col : Option Bool} {dd : Option Addr} {k0 k1 k2 k3 k5 : Option Value}
theorem vi_call {u e t0 : Addr} {rest : List Value} {Q : Value → Shared → Prop} (hC : h.get? C = some (excClassObj nm q C N bs bm hdct sn sub ab col dd k0 k1 k2 k3 k5 "ValueError.__new__")) (he : h.get? e = some (HandSPX.excO C t0)) (hu : h.get? u = some (viW e)) (hr : rest.length ≤ sizeLine)
    (hq : ∀ h' t1, (∀ b o, b ≠ e → h.get? b = some o → h'.get? b = some o) → h'.get? e = some (HandSPX.excO C t1) → Q .none ⟨h', g, d, t, os⟩) : wpAny (model prog w) A (call (.ref u) rest) Q E ⟨h, g, d, t, os⟩ := by
  refine wpAny_call (codeAny_of_tree (show wpAny _ A.in1 (callAny (.ref u) ⟨rest, []⟩) _ _ _ from ?_)); simp only [callAny]
  refine wpAny_bind (wpAny_load hu ?_); simp only [viW, show (Value.type "method-wrapper" == Value.type "method" || Value.type "method-wrapper" == Value.type "builtin_function_or_method" || Value.type "method-wrapper" == Value.type "method-wrapper") = true by decide, if_true]
  refine W.KFB.if_so (by decide) (wpAny_bind (ESX.check_bound F.excBase_ValueError hC he rfl (wpAny_bind (wpAny_pure (wpAny_pure ⟨Code.quiet_builtin _ (by decide +kernel), codeAny_builtin F.excBase_ValueError.initEntry ?_⟩)))))
  rw [Around.under_plainId F.excBase_ValueError.init.plain _]; wp_walk
  refine hq _ h.objs.size (fun b o hb ho => (Heap.get?_update_other _ _ (Ne.symm hb)).trans (Heap.get?_push_of_some _ ho)) ?_
  rw [Heap.get?_update_self _ (Heap.get?_push_of_some _ he) rfl]; rfl
end
end Y

/-! YM: the __init__ of such an exception, as a whole. -/
namespace Y
open PySem PySem.Spec PyProof.Rows L2
/-- the context of a def that names super() -/
def cxS (P : Program) (w : World) (K : PySem.W.Frag) (mg : Str → Option Value) (base : Heap) (N : List Str) (qual : Str) (scope : Scope) (f cc : Addr) (cd : Value) (A : Around) (outer : List Env) (s : Shared) (H : Hp) : Cx where
  prog := P
  w := w
  K := K
  mg := mg
  base := base
  A := A.deeper (PySem.W.ksEnv qual scope s.heap.objs.size f cd cc)
  N := N
  s_0 := s
  H_0 := H
  env := PySem.W.ksEnv qual scope s.heap.objs.size f cd cc
  outer := outer
  stack := PySem.W.ksEnv qual scope s.heap.objs.size f cd cc :: outer
  ex := []
  calm := true
  fn := fun _ => false
  pn := []
  xe := fun _ _ => False
structure SScope (N ps : List Str) (sc : Scope) : Prop where
  kind : sc.kind = .function
  co : sc.isCoroutine = false
  gen : sc.isGenerator = false
  nd : N.Nodup
  pre : N.take ps.length = ps
  par : ∀ p ∈ ps, sc.names.lookup p = some .local
  nocell : ∀ x ∈ sc.names, x.2 ≠ .cell
  free : ∀ y ∈ sc.names, y.2 = .free → y.1 = "__class__"
  sup : sc.names.lookup ("super" : Str) = some .globalImplicit
  cls : sc.names.lookup ("__class__" : Str) = some .free
theorem inv_S {P : Program} {w : World} {K : PySem.W.Frag} {mg : Str → Option Value} {base : Heap} {N ps : List Str} {qual : Str} {scope : Scope} {f cc : Addr} {cd : Value} {A : Around} {outer : List Env} {s : Shared} {H : Hp} {us : List Value} {vs : List V} {h₀ : Heap} {tk : Nat} {oc : Obj} {vc : Value}
    (S : SScope N ps scope) (hd : A.handled = none) (e0 : Env0 P w K mg base A outer s H) (hl : vs.length = ps.length) (r : Vals vs us) (hns : h₀.Ns s.heap.objs.size fun x => (ps.zip us).reverse.lookup x) (hk : ∀ b o, s.heap.get? b = some o → h₀.get? b = some o)
    (hcc : base.get? cc = some oc) (hco : oc.data = .cell (some vc)) : Inv (cxS P w K mg base N qual scope f cc cd A outer s H) [] (L2.start N vs) H { s with heap := h₀, toks := tk } := by
  have hpl : ps.length ≤ N.length := by have := congrArg List.length S.pre; rw [List.length_take] at this; omega
  have noA : ∀ b : Addr, b ∉ (cxS P w K mg base N qual scope f cc cd A outer s H).ex := fun b z => absurd (show b ∈ ([] : List Addr) from z) (by simp)
  have cel : ∀ (x : Str) (c : Addr), (cxS P w K mg base N qual scope f cc cd A outer s H).env.cells.lookup x = some c → x = "__class__" ∧ c = cc := fun x c e => by
    have e' : List.lookup x [(("__class__" : Str), cc)] = some c := e
    rw [List.lookup_cons] at e'
    split at e'
    · rename_i hx
      exact ⟨by simpa using hx, (Option.some.inj e').symm⟩
    · cases e'
  have hccs := e0.bs cc oc hcc
  refine ⟨⟨e0.mod, S.kind, rfl, rfl, Nat.le_refl _, fun y z c h1 h2 => (cel y c h1).1.trans (cel z c h2).1.symm, fun y hy => ?_, fun y c h _ => (Bool.noConfusion h), fun _ => hd, Around.frames_deeper e0.frames, .inr ⟨rfl, rfl⟩, fun b z => absurd z (noA b), e0.bs, e0.bsz, fun b _ _ => noA b, fun b z => absurd z (noA b), e0.funs, e0.frf⟩,
    rfl, e0.bare, Un.kept hk, ⟨_, hns, fun i y v h1 h2 h3 => ?_⟩, fun y c h => ?_, e0.hok.fresh (Nat.le_refl _), fun y c h => ?_, fun p hp => absurd (show p ∈ ([] : List (Addr × Obj)) from hp) (by simp), e0.hok.kept hk, ?_⟩
  · have hy : scope.names.lookup y = some .cell ∨ scope.names.lookup y = some .free := hy
    rcases hy with hy | hy
    · exact absurd rfl (S.nocell _ (PySem.mem_of_lookup hy))
    · have := S.free _ (PySem.mem_of_lookup hy) rfl
      exact ⟨cc, by rw [show y = ("__class__" : Str) from this]; rfl⟩
  · have hi : i < vs.length := by
      unfold L2.start at h2
      by_cases hi : i < vs.length
      · exact hi
      · rw [List.getElem?_append_right (by simpa using hi), List.getElem?_replicate] at h2
        split at h2 <;> cases h2
    have ha : vs[i]? = some v := by
      unfold L2.start at h2
      rw [List.getElem?_append_left (by simpa using hi), List.getElem?_map] at h2
      cases e : vs[i]? with
      | none => rw [e] at h2; cases h2
      | some a => rw [e] at h2; cases h2; rfl
    obtain ⟨u, hu, rv⟩ := r.get ha
    have hp : ps[i]? = some y := by
      rw [← S.pre, List.getElem?_take_of_lt (by omega)]; exact h1
    have ndP : ps.Nodup := by rw [← S.pre]; exact S.nd.sublist (List.take_sublist _ _)
    exact ⟨u, rv, .inl ⟨S.par y (List.mem_of_getElem? hp), NdefX.zip_look ndP hp hu⟩⟩
  · obtain ⟨rfl, rfl⟩ := cel y c h
    exact ⟨_, _, hk _ _ hccs.1, hco⟩
  · obtain ⟨rfl, rfl⟩ := cel y c h
    exact hccs.2
  · unfold L2.start
    show _ = N.length
    rw [List.length_append, List.length_map, List.length_replicate]
    omega
theorem veq_ref {l : List Value} {C : Addr} : ((Value.ref C :: l).dropWhile (· != .ref C)).drop 1 = l := by simp [List.dropWhile_cons]
/-- a def whose first statement is super().__init__(text), of an exception class over ValueError -/
theorem fn_S {P : Program} {w : World} {K : PySem.W.Frag} {mg : Str → Option Value} {base : Heap} {x qual : Str} {st : Stmt} {rest : List Stmt} {f cc cda C : Addr} {N ps : List Str} {k : Nat} {sp : Sp} {kV doc pm ct oc ccl cl : Value} {an od cdd cld : Option Addr} {osl ccs csl : Array (Option Value)} {vs0 : Array Value} {file text : Str} {tf : Tok} {ar : Arg} {p0 p1 p2 p3 p4 p5 : Pos} {j : Nat}
    (lk : K.lookup f = some ⟨oc, od, .func (PySem.W.ksFn x qual (defArgs st) (defBody st) (defScope st) .none kV doc pm an (.ref cda) ct cc), osl⟩) (hcd : PySem.W.codeIn K (.ref cda) qual = true) (S : SScope N ps (defScope st))
    (hcode : K.lookup cda = some ⟨ccl, cdd, .fields vs0, ccs⟩) (hvs : vs0[2]? = some (.str file tf)) (hfile : ((P.main.file : Str) == file) = true) (hcell : K.lookup cc = some ⟨cl, cld, .cell (some (.ref C)), csl⟩) (T : OexC K C)
    (hmro : PySem.W.mroIn K C (.type "ValueError") = some true) (hself : PySem.W.mroIn K C (.ref C) = some true) (hal : PySem.W.ks_superIn K C C "__init__" = some (some (.builtin "ValueError.__init__"))) (hany : PySem.W.nsIn K cStatics "thirdparty.any" = some none)
    (hsup : mg "super" = none) (htop : (P.main.scope.names.lookup ("super" : Str)).isSome = false) (hbody : defBody st = .Expr (.Call (.Attribute (.Call (.Name "super" p0) [] [] p1) "__init__" p2) [.Constant (.str text) j p3] [] p4) p5 :: rest)
    (hcall : ∀ L : Addr, ∃ pl : Sem Bool, eval (.Call (.Attribute (.Call (.Name "super" p0) [] [] p1) "__init__" p2) [.Constant (.str text) j p3] [] p4) (PySem.W.ksEnv qual (defScope st) L f (.ref cda) cc) = (do
      let ov ← attributeBase (.Call (.Name "super" p0) [] [] p1) "__init__" (PySem.W.ksEnv qual (defScope st) L f (.ref cda) cc) (eval (.Call (.Name "super" p0) [] [] p1) (PySem.W.ksEnv qual (defScope st) L f (.ref cda) cc))
      standAt p2.atName
      let (fn, first) ← holding [ov] (getMethod ov "__init__" pl)
      callWith p4 fn first (backTo p4 (starEach [.Constant (.str text) j p3] (PySem.W.ksEnv qual (defScope st) L f (.ref cda) cc))) []))
    (hps : ((defArgs st).posonlyargs ++ (defArgs st).args).head? = some ar) (hp0 : ps[0]? = some ar.arg) (len : ∀ vs H Q E, sp vs H Q E → vs.length = ps.length)
    (body : ∀ (A : Around) (outer : List Env) (s : Shared) (H : Hp) (vs : List V) (Q : VK) (E : XK), sp vs H Q E → ∃ a t, vs[0]? = some (.ref a) ∧ H a = some (exo a C none) ∧
      PSs (cxS P w K mg base N qual (defScope st) f cc (.ref cda) A outer s H) rest t ∧ t { nx := fun _ H' => Q .non H', rt := Q } (L2.start N vs) H) :
    FnOk P w K mg base CX0 (k + 1) f (PySem.W.ksFn x qual (defArgs st) (defBody st) (defScope st) .none kV doc pm an (.ref cda) ct cc) ps sp := by
  refine ⟨len, fun A outer s H args us vs Q E hr e0 hb r hsp => ?_⟩
  have hl := len _ _ _ _ hsp
  have KX : K.In s.heap := e0.mod.kin.keeps fun b o e => (e0.bs b o e).1
  have lim : s.heap.NoLimit := e0.mod.nolimit.keeps fun b o e => (e0.bs b o e).1
  refine PySem.ks_codeAny_call_defAt (fd := PySem.W.ksFn x qual (defArgs st) (defBody st) (defScope st) .none kV doc pm an (.ref cda) ct cc) (body := defBody st) hr.depth (KX _ _ lk) rfl lim (PySem.W.codeRec_of KX hcd) rfl hb S.nocell (fun y hy => S.par y.1 (List.of_mem_zip (show (y.1, y.2) ∈ ps.zip us from hy)).1) (fun h₀ hns hk => ?_) S.co S.gen S.kind
  obtain ⟨a, t, ha, hea, ht, hq⟩ := body A outer s H vs Q E hsp
  have hcc := e0.mod.kin _ _ hcell
  have I0 : Inv (cxS P w K mg base N qual (defScope st) f cc (.ref cda) A outer s H) [] (L2.start N vs) H { s with heap := h₀, toks := s.toks + (ps.zip us).length } := inv_S S hr.hd e0 hl r hns hk hcc rfl
  obtain ⟨uself, hus, rus⟩ := r.get ha
  obtain rfl : uself = Value.ref a := rus
  have hv : (ps.zip us).reverse.lookup ar.arg = some (.ref a) := NdefX.zip_look (by rw [← S.pre]; exact S.nd.sublist (List.take_sublist _ _)) hp0 hus
  obtain ⟨nm, q, N', bs, bm, sn, sub, ab, col, dd, k0, k1, k2, k3, k5, hC, hbm⟩ := T.cls
  have hcl : PySem.W.clsIn K C = some { name := nm, bases := bs, mro := .ref C :: bm, ns := N', qualname := q, hasDict := true, slotNames := sn, subclasses := sub, abstract := ab, collection := col, hasDel := false } := by unfold PySem.W.clsIn; rw [hC] <;> rfl
  have KI := I0.kIn
  obtain ⟨t1, ho⟩ := exo_at I0.hok hea
  obtain ⟨mb, b1, b2⟩ := I0.mod.blt
  obtain ⟨pl, hca⟩ := hcall s.heap.objs.size
  show PySem.wpAt _ _ _ (execs (defBody st) (PySem.W.ksEnv qual (defScope st) s.heap.objs.size f (.ref cda) cc)) _ _ _
  rw [show execs (defBody st) = execs (.Expr (.Call (.Attribute (.Call (.Name "super" p0) [] [] p1) "__init__" p2) [.Constant (.str text) j p3] [] p4) p5 :: rest) by rw [hbody]]
  refine PySem.ks_wpAt_execs_cons (PySem.ks_wpAt_Expr_any (PySem.ks_wpAt_MethodCall ?_ hca) (by show (((defScope st).kind == .module) && _) = false; rw [S.kind]; rfl) rfl)
  refine PySem.ks_wpAt_super_base (env := PySem.W.ksEnv qual (defScope st) s.heap.objs.size f (.ref cda) cc) S.sup S.cls rfl rfl (KI _ _ lk) rfl hps rfl (KI _ _ hcode) rfl hvs hfile htop ?_
  refine PySem.W.ks_loadName_global S.kind S.sup (Calls.loadGlobal_builtin (env := PySem.W.ksEnv qual (defScope st) s.heap.objs.size f (.ref cda) cc) (I0.mod.glob.keeps I0.bk) hsup (b1.keeps I0.bk) ((b2 _ (by decide +kernel)).trans PyProof.Rows.Boot.«super») ⟨rfl, ?_⟩)
  refine wpAny_loadName_free S.kind S.cls rfl ⟨_, KI _ _ hcell, rfl⟩ (wpAny_loadName_local S.kind (S.par _ (List.mem_of_getElem? hp0)) hns hv ?_)
  have naC : a ≠ C := fun z => by
    subst z
    have := KI _ _ hC
    rw [ho] at this
    cases Option.some.inj this
  refine PySem.ks_wpAny_isType_cls (KI _ _ hC) rfl ⟨rfl, PySem.ks_wpAny_call_super (KI _ _ hC) rfl ho rfl (fun c e => by cases e) (PySem.W.looks_mroIn KI hself) fun h1 e1 k1' => ?_⟩
  have I1 := I0.kept (t' := s.toks + (ps.zip us).length) k1'
  have KI1 := I1.kIn
  have ho1 := k1' _ _ ho
  have hal' : PySem.W.alongIn K "__init__" bm = some (some (.builtin "ValueError.__init__")) := by
    unfold PySem.W.ks_superIn at hal
    rw [hcl] at hal
    have hal : PySem.W.alongIn K "__init__" (((Value.ref C :: bm).dropWhile (· != .ref C)).drop 1) = some (some (.builtin "ValueError.__init__")) := hal
    rw [veq_ref] at hal
    exact hal
  have IA : PySem.W.InstAt h1 a _ C none := ⟨ho1, rfl, rfl, trivial⟩
  refine vi_method (x := a) (C := C) (D := C) (l₀ := .ref C :: bm) (l := bm) e1 (PySem.W.looks_opaque KI1 hany) (fun A Q E s k q => wpAny_bind ((PySem.W.looks_clsIn KI1 hcl) A _ E s k (wpAny_pure q))) veq_ref KI1 hal' naC rfl (IA.type.andThen (PySem.W.looks_mroIn KI1 hmro)) ?_
  have I2 := (I1.kept (h' := h1.push (viW a)) (t' := s.toks + (ps.zip us).length + 1) fun b o e => Heap.get?_push_of_some _ e).pins_of (pins' := [(h1.objs.size, viW a)]) fun p hp => by
    have hp : p ∈ [(h1.objs.size, viW a)] := hp
    cases List.mem_singleton.mp hp
    exact ⟨Heap.get?_push_at rfl rfl, I1.hok.fresh (Nat.le_refl _), Nat.ne_of_gt I1.lt, I1.nofs (Nat.le_refl _), fun v z => by cases z⟩
  refine vi_bound (x := a) (thn ((pa_cons pe_str pa_nil : PA (cxS P w K mg base N qual (defScope st) f cc (.ref cda) A outer s H) [.Constant (.str text) j p3] _).run p4 _ _ _ H (fun vs2 H2 => vs2 = [V.str text] ∧ H2 = H) I2 ⟨rfl, rfl⟩) fun us2 s3 ⟨vs2, H2, I3, r2, e2, e3⟩ => ?_) rfl rfl
  subst e2 e3
  have hu := (I3.pin (h1.objs.size, viW a) (List.mem_append_right _ (List.mem_singleton.mpr rfl))).1
  obtain ⟨t3, ho3⟩ := exo_at I3.hok hea
  have hlen : us2.length ≤ sizeLine := by
    rw [← r2.length, sizeLine_eq]
    exact (show 1 ≤ 16777216 by decide)
  obtain ⟨hp, g, d, tk, os⟩ := s3
  refine ⟨hu, vi_call (I3.kIn _ _ hC) ho3 hu hlen fun h4 t4 k4 hx4 => ?_⟩
  have J := I3.write (t' := tk) (x := a) (e := a) (o := exo a C none) (by rw [hea]; exact True.intro) (.inl rfl) k4 ⟨_, hx4⟩ (exo_ok hx4)
  have eu : upd H2 a (exo a C none) = H2 := by
    funext b
    by_cases hb : b = a
    · rw [hb, upd_same, hea]
    · rw [upd_ne hb]
  rw [eu] at J
  refine wpAt_of_wpAny (wpAny_mono (ht.run _ _ _ _ _ J hq) (fun fl s' hs => ?_) fun e s' hs => hs.elim)
  have fin : ∀ {σ' : L2.St} {H' : Hp} {v : V} {u : Value}, Inv (cxS P w K mg base N qual (defScope st) f cc (.ref cda) A outer s H2) [(h1.objs.size, viW a)] σ' H' s' → RelV v u → Q v H' → CE outer P w H2 s Q u s' :=
    fun {σ' H' v u} J rv q => ⟨v, H', J.os, J.bare, J.base, J.hok, rv, q⟩
  cases fl with
  | ret u => obtain ⟨v, σ', H', J, rv, q⟩ := hs; exact fin J rv q
  | next => obtain ⟨σ', H', J, q⟩ := hs; exact fin (v := V.non) (u := Value.none) J rfl q
  | brk => obtain ⟨_, _, _, q⟩ := hs; exact False.elim q
  | cont => obtain ⟨_, _, _, q⟩ := hs; exact False.elim q
end Y

/-! YO: raise, try .. except, what is caught. -/
namespace Y
open PySem PySem.Spec PyProof.Rows L2
/-! ### isinstance of what is caught, its dict whatever -/
section
open PySem.W
variable {prog : Program} {w : World} {A : Around} {E : Value → Shared → Prop} {s : Shared} {K : Frag} {x D : Addr} {ox : Obj} {od : Option Obj}
theorem cls_find {K : Frag} {C : Addr} (c : ExcC K C) : findObj K C od "__class__" = some (.bind (.builtin "getset_descriptor.__get__") (.builtin "object.__class__")) := by
  obtain ⟨cd, hc, _⟩ := any_some c.hd
  unfold findObj; rw [hc, Option.bind_some, c.ha, Option.bind_some]; simp [c.hn, c.ht]
theorem cls_get {Q : Option Value → Shared → Prop} (c : ExcC K D) (X : K.In s.heap) (I : InstAt s.heap x ox D od) (h : Q (some (.ref D)) { s with toks := s.toks + 1 }) : wpAny (model prog w) A (getAttr? (.ref x) "__class__") Q E s := by
  have hf := cls_find (od := od) c
  obtain ⟨hp, g, d, t, os⟩ := s
  have l0 := I.type (M := model prog w); have l1 := looks_findIn (M := model prog w) X c.hg; have l2 := looks_findIn (M := model prog w) X c.hk; have l3 := looks_find (M := model prog w) X I hf
  have sub : Looks (model prog w) hp (isInstance (.ref x) (.type "BaseException")) true := l0.andThen (looks_subIn X c.hs)
  have z0 : (Value.builtin "BaseException.__getattribute__" == Value.builtin "object.__getattribute__") = false := by decide +kernel
  have z1 : (onTheHeap (Value.ref D) && Value.builtin "BaseException.__getattribute__" == Value.builtin "object.__getattribute__") = false := by rw [z0]; rfl
  unfold getAttr? getAttrBy? getAttrBy
  refine wpAny_bind (wpAny_mkText (wpAny_bind (wpAny_attempt (wpAny_holding (wpAny_bind (l0.at (wpAny_bind (l1.at (show wpAny _ _ (if (onTheHeap (Value.ref D) && Value.builtin "BaseException.__getattribute__" == Value.builtin "object.__getattribute__") = true then _ else _) _ _ _ from ?_)))))))))
  rw [z1, if_neg Bool.false_ne_true]; unfold getAttrByItsOwn hookBefore
  refine wpAny_bind ?_; rw [if_pos (show onTheHeap (Value.ref D) = true from rfl)]
  refine l2.at (wpAny_bind (wpAny_attempt (wpAny_holding ?_))); unfold callGetattribute
  rw [show (false && onTheHeap (Value.builtin "BaseException.__getattribute__")) = false from rfl, if_neg Bool.false_ne_true]; unfold boundAndCalled
  rw [PySem.F.excAttr_ValueError.ga.bind (.ref x)]
  refine wpAny_bind (wpAny_pure (show wpAny _ _ (call (.builtin "BaseException.__getattribute__") [.ref x, .str "__class__" t]) _ _ _ from wpAny_call (codeAny_call_builtin PySem.F.excAttr_ValueError.ga.plain PySem.F.entry_bexc_ga ?_)))
  refine @check_slot (model prog w) _ _ ⟨hp, g, d, t + 1, os⟩ "BaseException.__getattribute__" "BaseException" "__getattribute__" (.ref x) [.str "__class__" t] [] _ (by decide +kernel) (by decide +kernel) sub (PySem.F.args_bexc_ga (.ref x) (.str "__class__" t)) ?_
  unfold Builtin.«object.__getattribute__»; refine wpAny_bind (wpAny_of_eq (a := ((Value.ref x : Value), [Value.str "__class__" t])) (by first | rfl | (simp only [slotArgs]; rfl)) (wpAny_bind (wpAny_pure (wpAny_bind (l0.at (wpAny_bind (l3.at ?_)))))))
  show wpAny _ _ (holding [Value.builtin "object.__class__"] (call (.builtin "getset_descriptor.__get__") [.builtin "object.__class__", .ref x, .ref D]) >>= ret) _ _ _
  refine wpAny_bind (wpAny_holding (wpAny_call (class_get (s := ⟨hp, g, d, t + 1, os⟩) (ox := ox) (od := od) X I c.hm (wpAny_pure (show wpAny _ _ (handedOut (.ref D)) _ _ _ from ?_)))))
  rw [handedOut_of (v := .ref D) rfl]
  first
    | exact wpAny_pure (wpAny_pure h)
    | exact wpAny_pure h
    | exact wpAny_pure (wpAny_bind (wpAny_pure (wpAny_pure h)))
theorem cls_kit (c : ExcC K D) : KitX K (.ref x) (.ref D) (fun h => InstAt h x ox D od) where
  ty := fun _ _ _ I => I.type
  it := fun _ _ X _ => by
    obtain ⟨cdD, hcD, _⟩ := any_some c.hd
    unfold clsIn at hcD; split at hcD
    · rename_i c' d' cd' sl' ho; intro A' Q' E' s' k q; unfold isType loadHead
      exact wpAny_bind (wpAny_loadPart (k _ _ (X _ _ ho)) (wpAny_pure q))
    · cases hcD
  ne := fun h tp dd its n sl X htp => by
    obtain ⟨cdD, hcD, _⟩ := any_some c.hd
    refine Bool.eq_false_iff.mpr fun q => ?_; have e : D = tp := Value.ref.inj (beq_iff_eq.mp q)
    subst e; unfold clsIn at hcD; split at hcD
    · rename_i c' d' cd' sl' ho; have z := (X _ _ ho).symm.trans htp; cases z
    · cases hcD
  ca := fun X I k => cls_get c X I k
end
/-- isinstance(e, c), e what the suite holds -/
def rIsX (K : PySem.W.Frag) (a : Addr) (cls : Value) (d : Option Addr) : List V → Hp → VK → Prop := fun xs H Q => ∃ (D : Addr) (c : V) (cv : Value) (b : Bool), cls = .ref D ∧ ExcC K D ∧ (∀ dx, d = some dx → ∃ gs, H dx = some (.xd gs)) ∧ xs = [.ref a, c] ∧ (∀ u, RelV c u → u = cv) ∧ PySem.W.kitOne K (.ref D) cv = some b ∧ Q (.bl b) H
theorem xd_obj {P : Program} {w : World} {H : Hp} {h : Heap} {dx : Addr} {gs : List (Str × V)} (hok : HOk P w H h) (e : H dx = some (.xd gs)) : ∃ o, h.get? dx = some o := by
  obtain ⟨_, ⟨o, _, _, ho, _⟩, _⟩ := hok dx _ e
  exact ⟨o, ho⟩
theorem call_isX {X : Cx} {a : Addr} {cls : Value} {d : Option Addr} {oe : Obj} {pn : List (Addr × Obj)} (hz' : L2N.Zn cls d oe) (hf : ∃ vs, oe.data = .fields vs) : CallR (X.suite a ((a, oe) :: pn)) (.builtin "isinstance") (rIsX X.K a cls d) := by
  intro pins s σ H xs us Q I r h
  have hz := hz'.zc
  obtain ⟨D, c, cv, b, rfl, C, hd, rfl, hcv, e, q⟩ := h
  cases r with
  | cons rx rr =>
    cases rr with
    | cons rt rr =>
      cases rr
      cases rx
      have ec := hcv _ rt
      subst ec
      obtain ⟨hget, _⟩ := I.pin (a, oe) (List.mem_append.mpr (.inl List.mem_cons_self))
      obtain ⟨vs, hv⟩ := hf
      obtain ⟨oc, od, oda, osl⟩ := oe
      obtain ⟨h1, h2⟩ := hz
      dsimp only at h1 h2 hv
      subst h1 h2 hv
      obtain ⟨oo, J⟩ : ∃ oo, PySem.W.InstAt s.heap a ⟨.ref D, od, .fields vs, osl⟩ D oo := by
        cases od with
        | none => exact ⟨none, hget, rfl, rfl, trivial⟩
        | some dx =>
          obtain ⟨gs, hg⟩ := hd dx rfl
          obtain ⟨o, ho⟩ := xd_obj I.hok hg
          exact ⟨some o, hget, rfl, rfl, ho⟩
      exact PySem.W.kia_one (cls_kit C) I.kIn J e (fun z => nomatch z) fun tk => ⟨.bl b, H, I.kept (t' := tk) fun _ _ z => z, rfl, q⟩
end Y

/-! YX: raise and try on data. -/
namespace Y
open PySem PySem.Spec PyProof.Rows L2
/-- an error class of the program, over ValueError -/
structure ErrC (K : PySem.W.Frag) (C : Addr) : Prop where
  ox : OexC K C
  ex : ExcC K C
section
variable {K : PySem.W.Frag} {C D : Addr} {b : Bool}
theorem ErrC.xf (e : ErrC K C) : XfC K C := ⟨e.ex.hg, e.ex.hk, e.ex.hs, e.ex.hd⟩
theorem exm_ok (c : ErrC K C) (h : PySem.W.subIn K (.ref D) (.ref C) = some b) : PySem.W.exmOne K (.ref D) (.ref C) = some b := PySem.W.exm_ref c.ex.hs c.ex.hd c.ox.tyC h
theorem kit_ok (c : ErrC K C) (h : PySem.W.subIn K (.ref D) (.ref C) = some b) (ne : D = C → b = true) : PySem.W.kitOne K (.ref D) (.ref C) = some b := by
  unfold PySem.W.kitOne
  split
  · rename_i e
    have : D = C := Value.ref.inj (beq_iff_eq.mp e)
    rw [ne this]
  · obtain ⟨cd, hc, _⟩ := PySem.W.any_some c.ex.hd
    show (if ((PySem.W.clsIn K C).isSome && PySem.W.typeIn K (.ref C) == some (.type "type")) = true then PySem.W.subIn K (.ref D) (.ref C) else none) = some b
    rw [hc, c.ox.tyC, if_pos (by rfl), h]
theorem kit_b {T : String} (hm : PySem.W.kitMeta T = true) (h : PySem.W.subIn K (.ref D) (.type T) = some b) : PySem.W.kitOne K (.ref D) (.type T) = some b := by
  unfold PySem.W.kitOne
  split
  · rename_i e
    cases (beq_iff_eq.mp e : Value.ref D = Value.type T)
  · show (if PySem.W.kitMeta T = true then PySem.W.subIn K (.ref D) (.type T) else none) = some b
    rw [if_pos hm, h]
end
/-! ### what an error's __init__ does -/
def xSp (C : Addr) (fs : List Str) : Sp := fun vs H Q _ => ∃ a ys, vs = .ref a :: ys ∧ ys.length = fs.length ∧ H a = some (exo a C none) ∧ ∀ dx, H dx = none → dx ≠ a → Q .non (upd (upd H dx (exd dx ((fs.zip ys).reverse))) a (exo a C (some dx)))
section
variable {K : PySem.W.Frag} {C a : Addr} {f g : Str} {y z : V} {H : Hp} {Q : VK}
theorem x1_read (T : OexC K C) (hf : PySem.W.findIn K (.ref C) f = some none) (hea : H a = some (exo a C none)) (q : ∀ dx, H dx = none → dx ≠ a → Q .non (upd (upd H dx (exd dx [(f, y)])) a (exo a C (some dx)))) :
    tOst K f (tVar 0) (tVar 1) { nx := fun _ H' => Q .non H', rt := Q } [some (.ref a), some y] H := ⟨y, rfl, .ref a, rfl, a, C, rfl, T, hf, .inl ⟨hea, q⟩⟩
theorem x2_read (T : OexC K C) (hf : PySem.W.findIn K (.ref C) f = some none) (hg : PySem.W.findIn K (.ref C) g = some none) (hea : H a = some (exo a C none)) (q : ∀ dx, H dx = none → dx ≠ a → Q .non (upd (upd H dx (exd dx [(g, z), (f, y)])) a (exo a C (some dx)))) :
    tSeq (tOst K f (tVar 0) (tVar 1)) (tOst K g (tVar 0) (tVar 2)) { nx := fun _ H' => Q .non H', rt := Q } [some (.ref a), some y, some z] H :=
  ⟨y, rfl, .ref a, rfl, a, C, rfl, T, hf, .inl ⟨hea, fun dx h1 h2 => ⟨z, rfl, .ref a, rfl, a, C, rfl, T, hg, .inr ⟨dx, [(f, y)], upd_same, by rw [upd_ne h2]; exact upd_same, (show 1 ≤ 900 by decide), by
    have e : upd (upd (upd H dx (exd dx [(f, y)])) a (exo a C (some dx))) dx (exd dx [(g, z), (f, y)]) = upd (upd H dx (exd dx [(g, z), (f, y)])) a (exo a C (some dx)) := by
      funext b
      by_cases e1 : b = dx
      · subst e1
        rw [upd_same, upd_ne h2, upd_same]
      · rw [upd_ne e1]
        by_cases e2 : b = a
        · rw [e2, upd_same, upd_same]
        · rw [upd_ne e2, upd_ne e2, upd_ne e1, upd_ne e1]
    show Q .non _
    rw [e]
    exact q dx h1 h2⟩⟩⟩⟩
end
/-! ### statements -/
def tRaise (W : WX) (t : L2.St → Hp → XK → Prop) : TS := fun _ σ H => t σ H fun cls d H' => W cls d σ H'
def tMk0 (C : Addr) : L2.St → Hp → XK → Prop := fun _ H Q => Q (.ref C) none H
theorem ps_raiseW {X : Cx} {W : WX} {e : Expr} {t : L2.St → Hp → XK → Prop} {pos : Pos} (hc : X.calm = true) (tk : L2N.Takes X W) (he : L2N.PMk X e t) : PS X (.Raise (some e) none pos) (tRaise W t) := L2N.ps_raise hc tk he
/-- a new error of a class with its own __init__, its context is None -/
theorem pmk_oexN {X : Cx} {e : Expr} {es : List Expr} {ta : TA} {p pos : Pos} {CX : CXT} {x : Str} {C fI : Addr} {k : Nat} {fd : FuncData} {ps : List Str} {sp : Sp} {ds : List Value} {dvs : List V} (T : OexC X.K C)
    (iC : PySem.W.findIn X.K (.ref C) "__init__" = some (some (.ref fI))) (tI : PySem.W.typeIn X.K (.ref fI) = some (.type "function")) (F1 : FnOk X.prog X.w X.K X.mg X.base CX k fI fd ps sp) (hr : Room (k + 1) X.A)
    (hb : Binds X.K fd ps ds) (hd : Vals dvs ds) (hx : Passes CX X (fun _ _ _ => False)) (hg : Gl X x) (hm : X.mg x = some (.ref C)) (ha : PA X (e :: es) ta) (hdb : (x == ("__debug__" : Str)) = false := by decide)
    (he : starEach (e :: es) X.env = (false, eval e X.env) :: starEach es X.env := by rfl) (hpl : (backTo pos (starEach es X.env)).any (·.1) = false := by rfl) : L2N.PMk X (.Call (.Name x p) (e :: es) [] pos) (tMkO C sp dvs ta) := fun pins s σ H Q I h => by
  have hcl := T.cls
  obtain ⟨_, _, _, _, bm, _, _, _, _, _, _, _, _, _, _, hC, hbm⟩ := hcl
  refine wpAny_Call_Name_kw (ld_glob I hg hm (PySem.W.callWith_K (h₀ := X.base) I.ok.mod.kin T.kC (thn (ha.run pos pins s σ H _ I h) ?_) he hpl) hdb)
  rintro us ⟨hp, g, dr, tk, os⟩ ⟨vs, H1, I1, r1, _, q1⟩
  refine ⟨I1.kIn, ?_⟩
  have le1 : hp.objs.size ≤ hp.objs.size + 1 := Nat.le_succ _
  have hq := q1 _ (I1.hok.fresh le1)
  have old : ∀ b o, hp.get? b = some o → ((hp.push (PySem.W.kdv_tup us)).push (PySem.HandSPX.excO C hp.objs.size)).get? b = some o := by
    intro b o z
    exact Heap.get?_push_of_some _ (Heap.get?_push_of_some _ z)
  have at1 : ((hp.push (PySem.W.kdv_tup us)).push (PySem.HandSPX.excO C hp.objs.size)).get? (hp.objs.size + 1) = some (PySem.HandSPX.excO C hp.objs.size) := by
    heap_get
  have I2 := I1.laid (t' := tk) (a := hp.objs.size + 1) (o := exo (hp.objs.size + 1) C none) old le1 (exo_ok at1)
  have r2 : Vals (V.ref (hp.objs.size + 1) :: (vs ++ dvs)) (Value.ref (hp.objs.size + 1) :: (us ++ ds)) := .cons rfl (r1.append hd)
  have n2 := r2.length
  rw [F1.len _ _ _ _ hq] at n2
  have n1 : us.length ≤ sizeLine := by
    have := r1.length
    rw [sizeLine_eq]
    omega
  have run := F1.run _ X.stack _ _ ⟨Value.ref (hp.objs.size + 1) :: us, []⟩ _ _ _ (fun _ _ _ => False) (hr.make C us []) (I2.env0.make C us []) (hb _ (Value.ref (hp.objs.size + 1) :: us) I2.kIn n2.symm) r2 hq
  refine wpAny_call (PySem.HandSPX.call_own F.excBase_ValueError (fun Y => PySem.HandSPX.refsVE_contains Y bm hbm) (I1.kIn _ _ hC) (PySem.W.looks_findIn I1.kIn iC) (fun self => PySem.W.bind_fn I1.kIn self tI) n1 (codeAny_mono run ?_))
  rintro r s' z
  cases r with
  | error er => exact hx pins σ _ _ er s' I2 z
  | ok fl =>
    cases fl with
    | ret u =>
      obtain ⟨v, H2, os2, bare2, un2, hok2, rv, ev, d, fs, ea, ed, hd1, q2⟩ := z
      subst ev
      obtain ⟨h2, g2, d2, t2, os'⟩ := s'
      have fin := mk_end0 (d2 := d2) (t2 := t2) I1 le1 old un2 hok2 os2 bare2 ea ed hd1
      obtain ⟨t0, G, J, kG, ge, hoe, na⟩ := fin
      refine ⟨rv, hp.objs.size + 1, _, _, ⟨G, g2, d2, t2, os'⟩, _, .ref C, some d, rfl, J, kG, ge, hoe, ⟨rfl, rfl, ?_⟩, rfl, rfl, na, rfl, bare2, raises_own T.exC T.tyC, q2⟩
      intro ws ew
      cases ew
      rfl
    | next => exact z.elim
    | brk => exact z.elim
    | cont => exact z.elim
theorem zip_fst : ∀ {α β : Type} {fs : List α} {ys : List β}, ys.length = fs.length → (fs.zip ys).map (·.1) = fs
  | _, _, [], [], _ => rfl
  | _, _, [], _ :: _, h => by simp at h
  | _, _, _ :: _, [], h => by simp at h
  | _, _, f :: fs, y :: ys, h => by rw [List.zip_cons_cons, List.map_cons, zip_fst (by simpa using h)]
theorem zip_snd : ∀ {α β : Type} {fs : List α} {ys : List β}, ys.length = fs.length → (fs.zip ys).map (·.2) = ys
  | _, _, [], [], _ => rfl
  | _, _, [], _ :: _, h => by simp at h
  | _, _, _ :: _, [], h => by simp at h
  | _, _, f :: fs, y :: ys, h => by rw [List.zip_cons_cons, List.map_cons, zip_snd (by simpa using h)]
theorem nmS_rev (ns : List String) : nmS ns.reverse = (nmS ns).reverse := by unfold nmS; rw [List.map_reverse]
section
variable {K : PySem.W.Frag} {T : Tb} {W : WX} {c : Cz} {Z B H Z' B' H' : Hp} {σ : L2.St} {ρ : List Y.S} {F G : List Addr} {v : V} {te ti tv tw : TE} {ya yb yj : YP} {r : RV} {tr : TA} {yr : YA} {n : Nat} {t u : TS} {a b : YS}
/-- raise C(..) of an error class with attributes -/
theorem ss_raise {cn : String} {C : Addr} {fs : List String} {gs : List Str} (hC : C = T cn) (hg : gs = nmS fs) (hr : SA K T W n tr yr) (hn : n = fs.length) (h3 : n ≤ 900) : SS K T W (tRaise W (tMkO C (xSp C gs) [] tr)) (sRaise cn fs yr) := fun c Z σ H ρ F k I hx q E ok => by
  subst hC hg
  refine hr c Z σ H ρ F _ _ I (WP.of I hx.at) q _ fun vs Z1 H1 rs G s1 h1 hl q1 => ?_
  obtain ⟨ds, q2, o⟩ := h1.stillF s1.zh q1
  have hlv := h1.length
  have hld := o.length
  have hlg : (nmS fs).length = fs.length := by unfold nmS; rw [List.length_map]
  have s2 := frz_step s1 h1.free
  refine ⟨by omega, fun x hx' => ⟨x, vs, by rw [List.append_nil], by omega, upd_same, fun dx hd hne => ⟨rfl, dx, ((nmS fs).zip vs).reverse, upd_same, by rw [upd_ne hne]; exact upd_same, by rw [upd_ne hne] at hd; exact hd, ?_⟩⟩⟩
  rw [upd_ne hne] at hd
  have e2 : L2.upd (del (L2.upd (L2.upd (L2.upd H1 x (exo x (T cn) none)) dx (exd dx ((nmS fs).zip vs).reverse)) x (exo x (T cn) (some dx))) x) dx (.xd ((nmS fs).zip vs).reverse) = L2.upd H1 dx (.xd ((nmS fs).zip vs).reverse) := by
    funext b
    by_cases e1 : b = dx
    · rw [e1, upd_same, upd_same]
    · rw [upd_ne e1, upd_ne e1]
      by_cases e2 : b = x
      · rw [e2, del_same, hx']
      · rw [del_ne e2, upd_ne e2, upd_ne e1, upd_ne e2]
  show W (.ref (T cn)) (some dx) σ _
  rw [e2]
  have s3 := PStep.newZ (o := .xd ((nmS fs).zip vs).reverse) s2.zh hd
  have s13 := s2.trans s3
  refine hx _ σ _ ρ F cn _ (some dx) s13.zz (I.p s13) ⟨((nmS fs).zip vs).reverse, upd_same, ?_, ?_⟩ q2
  · rw [List.map_reverse, List.map_reverse, zip_fst (by omega), zip_fst (by omega), nmS_rev]
  · rw [List.map_reverse, List.map_reverse, zip_snd (by omega), zip_snd (by omega)]
    exact AtAll.reverse (o.still s3.zz (Same.refl _))
/-- raise C() or C('..') of an error class without -/
theorem ss_raise0 {cn : String} {C : Addr} (hC : C = T cn) : SS K T W (tRaise W (tMk0 C)) (sRaise cn [] aNil) := fun c Z σ H ρ F k I hx q E ok => by
  subst hC
  exact hx Z σ H ρ F cn [] none (Same.refl _) I rfl q
/-- try: .. except c as n: .. (n in slot i) -/
def tTryAs (K : PySem.W.Frag) (cv : Value) (i : Nat) (ts : Addr → Value → Option Addr → TS) (Wout : WX) (tb : WX → TS) : TS := fun D σ H => tb (wAs K cv i ts Wout D) D σ H
theorem takes_mem {es : List (String × Bool)} {cn : String} {b : Bool} (h : takesX es cn = some b) : (cn, b) ∈ es := by
  induction es with
  | nil => cases h
  | cons e es ih =>
    obtain ⟨n, b'⟩ := e
    unfold takesX at h
    by_cases e : n = cn
    · rw [if_pos e] at h
      cases h
      rw [e]
      exact List.mem_cons_self
    · rw [if_neg e] at h
      exact List.mem_cons_of_mem _ (ih h)
theorem ss_tryAs {cv : Value} {i : Nat} {ts : Addr → Value → Option Addr → TS} {Wout : WX} {tb : WX → TS} {es : List (String × Bool)} {s : Nat → Option Nat → String → YS} (he : ∀ p ∈ es, PySem.W.exmOne K (.ref (T p.1)) cv = some p.2)
    (hb : ∀ W, SS K T W (tb W) b) (hs : ∀ a od cn, SS K T Wout (ts a (.ref (T cn)) od) (s a od cn)) : SS K T Wout (tTryAs K cv i ts Wout tb) (sTryAs es i b s) := fun c Z σ H ρ F k I hx q E ok => by
  refine hb (wAs K cv i ts Wout E) c Z σ H ρ F _ I (fun Z' σ' H' ρ' F' cn fs od zz J ex q' => ?_) q E ⟨ok.nx, ok.rt, ok.bk, ok.ct⟩
  have q' : (match takesX es cn with
    | some true => ∀ a od, s a od cn (ρ'.set i (.exc a od cn fs)) (suiteK i k)
    | some false => k.ex cn fs ρ'
    | none => False) := q'
  split at q'
  · rename_i e
    refine ⟨true, he _ (takes_mem e), fun _ a _ => ?_, fun z => nomatch z⟩
    obtain ⟨F2, J2, _⟩ := J.put (i := i) (o := some (.ref a)) (s := .exc a od cn fs) (G := []) ⟨rfl, rfl, ex⟩ List.nodup_nil fun a ha => by cases ha
    have back : ∀ {Z3 σ3 H3 ρ3 F3}, EnvOk K T c Z3 H3 σ3 ρ3 F3 → ∃ F4, EnvOk K T c Z3 H3 (σ3.set i none) (ρ3.set i .no) F4 := fun {Z3 σ3 H3 ρ3 F3} J3 => by
      obtain ⟨F4, J4, _⟩ := J3.put (i := i) (o := none) (s := .no) (G := []) rfl List.nodup_nil fun a ha => by cases ha
      exact ⟨F4, J4⟩
    refine hs a od cn c Z' _ H' _ F2 (suiteK i k) J2 (hx.z zz) (q' a od) _ ⟨fun Z3 σ3 H3 ρ3 F3 z3 J3 q3 => ?_, fun v Z3 σ3 H3 ρ3 F3 r z3 J3 hr nr q3 => ok.rt v Z3 σ3 H3 ρ3 F3 r (Same.tr zz z3) J3 hr nr q3, fun Z3 σ3 H3 ρ3 F3 z3 J3 q3 => ?_, fun Z3 σ3 H3 ρ3 F3 z3 J3 q3 => ?_⟩
    · obtain ⟨F4, J4⟩ := back J3
      exact ok.nx Z3 _ H3 _ F4 (Same.tr zz z3) J4 q3
    · obtain ⟨F4, J4⟩ := back J3
      exact ok.bk Z3 _ H3 _ F4 (Same.tr zz z3) J4 q3
    · obtain ⟨F4, J4⟩ := back J3
      exact ok.ct Z3 _ H3 _ F4 (Same.tr zz z3) J4 q3
  · rename_i e
    exact ⟨false, he _ (takes_mem e), (fun z => by cases z), fun _ => hx Z' σ' H' ρ' F' cn fs od zz J ex q'⟩
  · exact q'.elim
theorem lookup_two {Z H : Hp} : ∀ {gs : List (Str × V)} {fs : List (String × D)} {f : String} {d : D}, gs.map (·.1) = nmS (fs.map (·.1)) → OwAll K T Z B H (gs.map (·.2)) (fs.map (·.2)) [] → fs.lookup f = some d → ∃ v, gs.lookup (Str.ofString f) = some v ∧ Ow K T Z B H v d []
  | [], [], f, d, _, _, h => by cases h
  | [], _ :: _, _, _, h, _, _ => by cases h
  | _ :: _, [], _, _, h, _, _ => by cases h
  | (g, w) :: gs, (g', d') :: fs, f, d, h1, h2, h3 => by
    have e1 : g = Str.ofString g' := (List.cons.inj h1).1
    have o := AtAll.inv h2
    rw [List.lookup_cons] at h3
    by_cases e : f = g'
    · subst e e1
      rw [beq_self_eq_true] at h3
      cases h3
      exact ⟨w, by rw [List.lookup_cons, beq_self_eq_true], o.1⟩
    · rw [beq_eq_false_iff_ne.mpr e] at h3
      rw [List.lookup_cons, show (Str.ofString f == g) = false from beq_eq_false_iff_ne.mpr fun z => e (ofString_inj (e1 ▸ z))]
      exact lookup_two (List.cons.inj h1).2 o.2 h3
/-- e.f of what is caught -/
theorem sp_xf {i : Nat} {a : Addr} {od : Option Addr} {cn c f : String} {C : Addr} {fs : Str} (hC : C = T c) (hf : fs = Str.ofString f) : SP K T W (tXf a (.ref (T cn)) od C fs (tVar i)) (yXf a od cn i c f) := fun cc Z σ H ρ F Q X I hw q R k => by
  subst hC hf
  unfold yXf at q
  split at q
  · rename_i a' od' cn' fs' e
    obtain ⟨⟨rfl, rfl, rfl, rfl⟩, q⟩ := q
    obtain ⟨o, F1, Fi, F2, e1, e2, e3, _⟩ := I.sl.get e
    obtain ⟨_, rfl, ex⟩ := e3
    split at q
    · rename_i d el
      cases od' with
      | none =>
        have : fs' = [] := ex
        rw [this] at el
        cases el
      | some dx =>
        obtain ⟨gs, g1, g2, g3⟩ := ex
        obtain ⟨v, hv, av⟩ := lookup_two g2 g3 el
        exact ⟨.ref a', e1, rfl, rfl, dx, gs, v, rfl, I.zh _ _ g1, hv, k v Z H (.val d) [] (.refl I.zh) ⟨rfl, av⟩ q⟩
    · exact q.elim
  · exact q.elim
/-- isinstance(e, c) of what is caught -/
theorem sp_xi {i : Nat} {a : Addr} {od : Option Addr} {cn : String} {v : V} {cv : Value} {es : List (String × Bool)} (he : ∀ p ∈ es, ExcC K (T p.1) ∧ PySem.W.kitOne K (.ref (T p.1)) cv = some p.2) (hv : ∀ u, RelV v u → u = cv) :
    SP K T W (tCB (rIsX K a (.ref (T cn)) od) (L2.tCons (tVar i) (L2.tCons (tC v) L2.tNil))) (yXi es a od cn i) := fun cc Z σ H ρ F Q X I hw q R k => by
  unfold yXi at q
  split at q
  · rename_i a' od' cn' fs' e
    obtain ⟨⟨rfl, rfl, rfl⟩, q⟩ := q
    obtain ⟨o, F1, Fi, F2, e1, e2, e3, _⟩ := I.sl.get e
    obtain ⟨_, rfl, ex⟩ := e3
    split at q
    · rename_i b et
      obtain ⟨h1, h2⟩ := he _ (takes_mem et)
      refine ⟨.ref a', e1, T cn', v, cv, b, rfl, h1, fun dx hd => ?_, rfl, hv, h2, k _ Z H (.val (.bl b)) [] (.refl I.zh) ⟨rfl, .bl b⟩ q⟩
      subst hd
      obtain ⟨gs, g1, _⟩ := ex
      exact ⟨gs, I.zh _ _ g1⟩
    · exact q.elim
  · exact q.elim
end
end Y

/-! YS: the source of a law's draws. -/
namespace Y
open PySem PySem.Spec PyProof.Rows L2
section
variable {X : Cx} {pins : List (Addr × Obj)} {σ : L2.St} {H : Hp} {s : Shared}
theorem Inv.retag (I : Inv X pins σ H s) {p : Addr} {xs : List V} {o : HO} (e : H p = some (.lst xs)) (new : ObjOk X.prog X.w (upd H p o) s.heap p o) : Inv X pins σ (upd H p o) s := by
  have nt : ∀ b ys, H b = some (.tup ys) → b ≠ p := fun b ys q => ne_of q e (fun z => nomatch z)
  have nf : ∀ b ob u, H b = some (.frz ob u) → b ≠ p := fun b ob u q => ne_of q e (fun z => nomatch z)
  have no : ∀ b y, H b = some (.own y) → b ≠ p := fun b y q => ne_of q e (fun z => nomatch z)
  have nb : ∀ b ps, H b = some (.tbl ps) → b ≠ p := fun b ps q => ne_of q e (fun z => nomatch z)
  have nn : ∀ b, H b = none → b ≠ p := fun b q z => by rw [z, e] at q; cases q
  refine L2.Inv.un (h' := s.heap) (t' := s.toks) I ⟨fun b u q _ _ _ => q, fun b u q _ _ _ => ⟨u.slots, q⟩, fun b u q n _ => by rw [upd_ne (nn b n)]; exact n, fun b u q _ => ⟨u, q⟩,
    fun b ys q => by rw [upd_ne (nt b ys q)]; exact q, fun b ob u q => by rw [upd_ne (nf b ob u q)]; exact q, fun b ps q => ⟨#[], by rw [upd_ne (nb b ps q), q]; simp⟩⟩ fun b u q => ?_
  by_cases hb : b = p
  · subst hb
    rw [upd_same] at q
    cases q
    exact new
  · rw [upd_ne hb] at q
    exact (I.hok b u q).stay (fun c v _ q => q) (fun c q => by rw [upd_ne (no c b q)]; exact q) fun c ys q => by rw [upd_ne (nt c ys q)]; exact q
end
/-- a new list becomes a source of draws -/
def tSrc (te : TE) : TE := fun σ H Q => te σ H fun v H' => ∃ p b i c l t fl, v = .ref p ∧ H' p = some (.lst [.ref b, .int i, .int c, .int l, .int t, .bl fl]) ∧ 0 ≤ i ∧ Q v (upd H' p (.ext (srcP p b)))
theorem pe_src {X : Cx} {e : Expr} {te : TE} (he : PE X e te) : PE X e (tSrc te) := by
  refine ⟨fun pins s σ H Q I h => thn (he.run pins s σ H _ I h) fun u s1 ⟨v, H1, I1, r, p, b, i, c, l, t, fl, ev, e2, hi, q⟩ => ?_⟩
  subst ev
  have x := I1.hok p _ e2
  obtain ⟨z, its, n, rv, g⟩ := id x
  have new : ObjOk X.prog X.w (upd H1 p (.ext (srcP p b))) s1.heap p (.ext (srcP p b)) := by
    refine ⟨⟨its, n, i, c, l, t, fl, rv, g, hi⟩, ⟨_, g⟩, fun h1 h2 => ?_⟩
    rintro ⟨its, n, i, c, l, t, fl, rv, g, hi⟩ k
    exact ⟨its, n, i, c, l, t, fl, rv, k _ g, hi⟩
  exact ⟨_, _, Inv.retag I1 e2 new, r, q⟩
section
variable {K : PySem.W.Frag} {T : Tb} {W : WX} {c : Cz} {Z B H Z' B' H' : Hp} {σ : L2.St} {ρ : List Y.S} {F G : List Addr} {v : V} {te : TE} {ya : YP}
theorem sp_listScr (ha : SP K T W te ya) : SP K T W (tCB (rListZ K) (L2.tCons te L2.tNil)) (yListScr ya) := fun c Z σ H ρ F Q X I hw q R k => ha c Z σ H ρ F _ X I hw q _ fun v1 Z1 H1 r1 G1 s1 h1 q1 => by
  obtain ⟨G', o⟩ := h1.ow
  split at q1
  · rename_i ns e
    rw [e] at o
    cases o with
    | scr h2 =>
      have h3 := h2.same s1.zh
      exact ⟨_, _, rfl, .inl h3.sq, fun l hl => new_lst s1 (AtAll.of_ints ns) hl q1 k⟩
  · exact q1.elim
theorem src_items (zh : Same Z H) (bh : Same B H) {ds : List V} {ns : List Int} {i c0 l t : Int} {fl : Bool} (a : OwAll K T Z B H ds [.lst .frz (ns.map D.int), .int i, .int c0, .int l, .int t, .bl fl] F) : ∃ b, ds = [.ref b, .int i, .int c0, .int l, .int t, .bl fl] ∧ Z b = some (.lst (ns.map V.int)) := by
  cases a with
  | cons a1 a => cases a with
    | cons a2 a => cases a with
      | cons a3 a => cases a with
        | cons a4 a => cases a with
          | cons a5 a => cases a with
            | cons a6 a =>
              cases a
              cases a2
              cases a3
              cases a4
              cases a5
              cases a6
              cases a1 with
              | @lst _ _ xs _ F' _ h1 h2 h3 =>
                obtain ⟨rfl, _⟩ := h3
                have h1 : Z _ = _ := h1
                have e := (OwAll.now zh bh _ _ _ h2).ints
                subst e
                exact ⟨_, rfl, h1⟩
theorem cel_items {ds : List V} {b : Nat} {ns : List Int} {i c0 l t : Int} {fl : Bool} (a : OwAll K T Z B H ds [.cel b ns, .int i, .int c0, .int l, .int t, .bl fl] F) : ds = [.ref b, .int i, .int c0, .int l, .int t, .bl fl] := by
  cases a with
  | cons a1 a => cases a with
    | cons a2 a => cases a with
      | cons a3 a => cases a with
        | cons a4 a => cases a with
          | cons a5 a => cases a with
            | cons a6 a =>
              cases a
              cases a1
              cases a2
              cases a3
              cases a4
              cases a5
              cases a6
              rfl
theorem sp_src (ha : SP K T W te ya) : SP K T W (tSrc te) (ySrc ya) := fun c Z σ H ρ F Q X I hw q R k => ha c Z σ H ρ F _ X I hw q _ fun v1 Z1 H1 r1 G1 s1 h1 q1 => by
  obtain ⟨ns, i, c0, l, t, fl, rfl, hi, q2⟩ := q1
  obtain ⟨o, nd, fr⟩ := h1
  obtain ⟨p, xs, F', rfl, c1, o1, f1⟩ := ow_lst o
  have f1 : G1 = p :: F' := f1
  have c1 : H1 p = some (.lst xs) := c1
  obtain ⟨b, rfl, hb⟩ := src_items s1.zh (I.p s1).bh o1
  have hp := fr p (by rw [f1]; exact List.mem_cons_self)
  refine ⟨p, b, i, c0, l, t, fl, rfl, c1, hi, ?_⟩
  have st : PStep Z H (upd Z1 p (.ext (srcP p b))) (upd H1 p (.ext (srcP p b))) := by
    refine ⟨Same.tr s1.zz (Same.new hp.2), fun a u e => ?_, fun a e => ?_, fun a u e => ?_⟩
    · rw [upd_ne (ne_of_none e hp.1)]
      exact s1.hh _ _ e
    · by_cases ha : a = p
      · subst ha; exact .inr hp.1
      · rw [upd_ne ha] at e; exact s1.zn a e
    · by_cases ha : a = p
      · subst ha; rw [upd_same] at e ⊢; exact e
      · rw [upd_ne ha] at e ⊢; exact s1.zh _ _ e
  refine k _ _ _ (.val .src) [] st ⟨rfl, .src (ns := ns) upd_same ?_⟩ q2
  rw [upd_ne (ne_of_none hb hp.2)]
  exact hb
end
/-! ### the def that draws -/
/-- its promise: the source opened, the others are ints -/
def spO (K : PySem.W.Frag) (T : Tb) (S : List Int → (D → Prop) → Prop) : Sp := fun vs H Q _ => ∃ (l b : Addr) (ns : List Int) (i c0 l0 t0 : Int) (fl : Bool) (is : List Int) (R : D → Prop), vs = .ref l :: is.map V.int ∧
  H l = some (.lst [.ref b, .int i, .int c0, .int l0, .int t0, .bl fl]) ∧ H b = some (.lst (ns.map V.int)) ∧ l ≠ b ∧ 0 ≤ i ∧
  S is R ∧ ∀ (j : Int) (H' : Hp) (i' c' l' t' : Int) (fl' : Bool), R (.int j) → (∀ a u, H a = some u → a ≠ l → H' a = some u) → H' l = some (.lst [.ref b, .int i', .int c', .int l', .int t', .bl fl']) → 0 ≤ i' → Q (.int j) H'
/-- what its callers see -/
def drawS (S : List Int → (D → Prop) → Prop) : DSp := fun ds R _ => ∃ is : List Int, ds = .src :: is.map D.int ∧ S is fun d => R (.val d)
section
variable {P : Program} {w : World} {K : PySem.W.Frag} {mg : Str → Option Value} {base : Heap} {T : Tb}
theorem hok_upd {H : Hp} {h : Heap} {a : Addr} {o : HO} (x : HOk P w H h) (n1 : ∀ y, H a ≠ some (.own y)) (n2 : ∀ xs, H a ≠ some (.tup xs)) (new : ObjOk P w (upd H a o) h a o) : HOk P w (upd H a o) h := fun b u q => by
  by_cases hb : b = a
  · subst hb
    rw [upd_same] at q
    cases q
    exact new
  · rw [upd_ne hb] at q
    exact (x b u q).stay (fun c v _ q => q) (fun c q => by rw [upd_ne (fun z => n1 b (by rw [← z]; exact q))]; exact q) fun c ys q => by rw [upd_ne (fun z => n2 ys (by rw [← z]; exact q))]; exact q
theorem fn_open {f : Addr} {fd : FuncData} {ps : List Str} {k : Nat} {S : List Int → (D → Prop) → Prop} (F : FnOk P w K mg base CX0 k f fd ps (spO K T S)) (hs : ∀ is R, S is R → is.length + 1 = ps.length) : FnOk P w K mg base CX0 k f fd ps (spP K T (drawS S)) := by
  refine ⟨fun vs H Q E h => ?_, fun A outer s H args us vs Q E hr he hb hv h => ?_⟩
  · obtain ⟨Z, B, ds, R, X, _, _, o, ⟨is, rfl, q⟩, _⟩ := h
    rw [o.length, List.length_cons, List.length_map]
    exact hs is _ q
  · obtain ⟨Z, B, ds, R, X, zh, bh, o, ⟨is, rfl, q0⟩, kr, _⟩ := h
    cases vs with
    | nil => cases o
    | cons v ws =>
      obtain ⟨a1, a2⟩ := AtAll.inv o
      have ew := (OwAll.now zh bh _ _ _ a2).ints
      subst ew
      cases a1 with
      | @src a b ns z1 z2 =>
        have h1 := zh _ _ z1
        have h2 := zh _ _ z2
        obtain ⟨⟨its, n, i, c0, l0, t0, fl, rv, g, hi⟩, ⟨ob, g2⟩, st⟩ := he.hok a _ h1
        have nn : ∀ {b}, H b = none → b ≠ a := fun {b} z y => by rw [y, h1] at z; cases z
        have nx : ∀ {b u}, H b = some u → (∀ φ, u ≠ .ext φ) → b ≠ a := fun {b u} z y w => by
          rw [w, h1] at z
          cases z
          exact y _ rfl
        have hab : b ≠ a := nx h2 fun φ z => nomatch z
        have e1 : Env0 P w K mg base A outer s (upd H a (.lst [.ref b, .int i, .int c0, .int l0, .int t0, .bl fl])) := by
          refine ⟨he.frames, he.mod, fun b' o' z => ⟨(he.bs b' o' z).1, ?_⟩, he.bsz, he.funs, fun b' z => ?_, ?_, he.bare⟩
          · rw [upd_ne (nn (he.bs b' o' z).2)]
            exact (he.bs b' o' z).2
          · rw [upd_ne (nn (he.frf b' z))]
            exact he.frf b' z
          · refine hok_upd he.hok (fun y z => by rw [h1] at z; cases z) (fun y z => by rw [h1] at z; cases z) ?_
            exact ⟨(by show 6 ≤ sizeLine; decide), its, n, rv, g⟩
        have sp1 : spO K T S (.ref a :: is.map V.int) (upd H a (.lst [.ref b, .int i, .int c0, .int l0, .int t0, .bl fl])) (fun v H2 => ∃ (j : Int) (i' c' l' t' : Int) (fl' : Bool), v = .int j ∧ R (.val (.int j)) ∧ (∀ a' u, H a' = some u → a' ≠ a → H2 a' = some u) ∧
            H2 a = some (.lst [.ref b, .int i', .int c', .int l', .int t', .bl fl']) ∧ 0 ≤ i') E := by
          refine ⟨a, b, ns, i, c0, l0, t0, fl, is, _, rfl, upd_same, by rw [upd_ne hab]; exact h2, fun e => hab e.symm, hi, q0, fun j H' i' c' l' t' fl' hr' hk hl h0 => ⟨j, i', c', l', t', fl', rfl, hr', fun a' u z y => hk a' u (by rw [upd_ne y]; exact z) y, hl, h0⟩⟩
        refine codeAny_mono (F.run A outer s _ args us _ _ E hr e1 hb hv sp1) fun r s' z => ?_
        cases r with
        | error e => exact False.elim z
        | ok fl1 =>
          cases fl1 with
          | next => exact False.elim z
          | brk => exact False.elim z
          | cont => exact False.elim z
          | ret u =>
            obtain ⟨v, H2, os, bare, un, hok, r', j, i', c', l', t', fl', ev, hrj, hk, hl, h0⟩ := z
            subst ev
            have up : ∀ {c u}, H c = some u → c ≠ a → upd H a (.lst [.ref b, .int i, .int c0, .int l0, .int t0, .bl fl]) c = some u := fun {c u} z y => by rw [upd_ne y]; exact z
            have upn : ∀ {c}, H c = none → upd H a (.lst [.ref b, .int i, .int c0, .int l0, .int t0, .bl fl]) c = none := fun {c} z => by rw [upd_ne (nn z)]; exact z
            refine ⟨.int j, upd H2 a (.ext (srcP a b)), os, bare, ⟨fun c ob q n hf hx => un.keep c ob q (upn n) hf hx, fun c ob q n hf hx => un.slot c ob q (upn n) hf hx, fun c ob q n hx => ?_, un.there, fun c xs z => ?_, fun c ob u z => ?_, fun c ps z => ?_⟩, ?_, r', ?_⟩
            · rw [upd_ne (nn n)]
              exact un.free c ob q (upn n) hx
            · have y := nx z fun φ z => nomatch z
              rw [upd_ne y]
              exact un.tups c xs (up z y)
            · have y := nx z fun φ z => nomatch z
              rw [upd_ne y]
              exact un.frzs c ob u (up z y)
            · have y := nx z fun φ z => nomatch z
              rw [upd_ne y]
              exact un.tbls c ps (up z y)
            · refine hok_upd hok (fun y z => by rw [hl] at z; cases z) (fun y z => by rw [hl] at z; cases z) ?_
              obtain ⟨z1, its', n', rv', g'⟩ := hok a _ hl
              refine ⟨⟨its', n', i', c', l', t', fl', rv', g', h0⟩, ⟨_, g'⟩, fun x1 x2 => ?_⟩
              rintro ⟨its, n, i, c, l, t, fl, rv, g, hi⟩ k
              exact ⟨its, n, i, c, l, t, fl, rv, k _ g, hi⟩
            · have sm : Same H (upd H2 a (.ext (srcP a b))) := fun c u z => by
                by_cases y : c = a
                · subst y
                  rw [h1] at z
                  cases z
                  exact upd_same
                · rw [upd_ne y]
                  exact hk c u z y
              exact kr (.int j) Z _ (.val (.int j)) [] ⟨Same.refl _, sm, fun a e => .inl e, Same.tr zh sm⟩ ⟨rfl, .int j⟩ rfl hrj
/-- its body -/
theorem fn_O {x qual : Str} {st : Stmt} {f : Addr} {fd : FuncData} {N ps : List Str} {k m n : Nat} {body : YS} {S : List Int → (D → Prop) → Prop} (F : Fun K x qual st f fd) (Sc : FnScope N ps (defScope st)) (hm : ps.length = m + 1) (hn : N.length = m + 1 + n)
    (hS : ∀ is R, S is R → is.length = m ∧ defO n body is R)
    (bd : ∀ (cdv : Value) (A : Around) (outer : List Env) (s : Shared) (H : Hp) (E : XK), Room k (A.deeper (envOfC qual (defScope st) s.heap.objs.size f cdv)) →
      ∃ t, PSs (cxOf CX0 P w K mg base N qual (defScope st) f cdv A outer s H E).nox (defBody st) t ∧ SS K T W0 t body) :
    FnOk P w K mg base CX0 (k + 1) f fd ps (spP K T (drawS S)) := by
  refine fn_open (F.ok Sc (fun vs H Q E h => ?_) fun cdv A outer s H vs Q E hr h => ?_) fun is R q => by rw [(hS is R q).1, hm]
  · obtain ⟨l, b, ns, i, c0, l0, t0, fl, is, R, rfl, _, _, _, _, q, _⟩ := h
    rw [List.length_cons, List.length_map, (hS _ _ q).1, hm]
  · obtain ⟨t, ht, sd⟩ := bd cdv A outer s H E hr
    obtain ⟨l, b, ns, i, c0, l0, t0, fl, is, R, rfl, hl, hb, hlb, hi, q, kr⟩ := h
    obtain ⟨hm', q⟩ := hS _ _ q
    let Z : Hp := fun a => if a = b then some (.lst (ns.map V.int)) else none
    have Zb : Z b = some (.lst (ns.map V.int)) := if_pos rfl
    have Zn : ∀ {a}, a ≠ b → Z a = none := fun {a} h => if_neg h
    have zh : Same Z H := fun a u e => by
      by_cases h : a = b
      · subst h; rw [Zb] at e; cases e; exact hb
      · rw [Zn h] at e; cases e
    have I : EnvOk K T ⟨fun _ => none, [l], H, Z⟩ Z H (L2.start N (V.ref l :: is.map V.int)) (Y.S.own (some l) (srcD b ns i c0 l0 t0 fl) :: (is.map (fun z => Y.S.val (.int z)) ++ List.replicate n .no)) [l] := by
      refine ⟨zh, fun a u e => (by cases e), fun a u e _ => e, fun a e => e, ?_, fun a ha => ?_, (by simp), fun a e => .inl e⟩
      · unfold L2.start
        have : N.length - (V.ref l :: is.map V.int).length = n := by rw [List.length_cons, List.length_map, hm']; omega
        rw [this]
        have e2 : (is.map (fun z => Y.S.val (.int z)) ++ List.replicate n Y.S.no) = ((is.map D.int).map Y.S.val ++ List.replicate n Y.S.no) := by rw [List.map_map]; rfl
        rw [e2]
        refine Slots.cons (F := [l]) (G := []) ⟨.ref l, rfl, fun a z => (by cases z; rfl), .lst (m := .own) (F := []) hl ?_ rfl⟩ (slots_val (c := ⟨fun _ => none, [l], H, Z⟩) n (AtAll.of_ints is))
        exact AtAll.cons (.cel Zb) (AtAll.cons (.int _) (AtAll.cons (.int _) (AtAll.cons (.int _) (AtAll.cons (.int _) (AtAll.cons (.bl _) .nil)))))
      · cases List.mem_singleton.mp ha
        exact ⟨Zn hlb, rfl, .inr (by simp)⟩
    refine ⟨t, ht, sd ⟨fun _ => none, [l], H, Z⟩ Z _ H _ [l] _ I (fun _ _ _ _ _ _ _ _ _ _ _ z => False.elim z) (q l b ns i c0 l0 t0 fl hi) _ ⟨fun _ _ _ _ _ _ _ z => z.elim, fun v Z' σ' H' ρ' F' r zz J hr nr q => ?_, fun _ _ _ _ _ _ _ z => z.elim, fun _ _ _ _ _ _ _ z => z.elim⟩⟩
    obtain ⟨j, i', c', l', t', fl', rfl, h0, e0, hR⟩ := q
    cases hr
    obtain ⟨o, F1, Fi, F2, e1, e2, e3, _⟩ := J.sl.get e0
    obtain ⟨v', rfl, e4, ow⟩ := e3
    have := e4 l rfl
    subst this
    obtain ⟨p, xs, F', ep, c1, o1, f1⟩ := ow_lst ow
    cases ep
    have c1 : H' l = some (.lst xs) := c1
    have := cel_items o1
    subst this
    exact kr j H' i' c' l' t' fl' hR (fun a u hu ha => J.sm a u hu (by simpa using ha)) c1 h0
end
section
variable {K : PySem.W.Frag} {T : Tb} {W : WX} {ta tb : TE} {ya yb : YP}
theorem sp_lenC (ha : SP K T W ta ya) : SP K T W (tCB (rLenZ K) (L2.tCons ta L2.tNil)) (y1 fLenC ya) := sp_cb (fun Z B H v d G Q R z b o q k => by
  unfold fLenC at q
  split at q
  · cases o with
    | cel h => exact ⟨_, _, rfl, .inl (SqL.of (z _ _ h)), by rw [List.length_map]; exact k _ Z H _ (.refl z) (.int _) q⟩
  · exact q.elim) ha
theorem ops_ixC : OpS K T (rIx K) fIxC := fun Z B H x y a b Fa Fb P R z bb ha hb h k => by
  unfold fIxC at h
  split at h
  · rename_i b' ns i
    obtain ⟨w, e, h⟩ := h
    · have := hb.int_iff
      subst this
      cases ha with
      | cel hz =>
        obtain ⟨v, G, e1, o, _⟩ := atI_rel (AtAll.of_ints (K := K) (T := T) (Z := Z) (B := B) (H := H) ns) (show atD (ns.map D.int) i = some (.int w) by
          have e' : atI ns i = some w := e
          show atI (ns.map D.int) i = some (.int w)
          unfold atI at e' ⊢
          rw [List.length_map]
          cases q : ixN ns.length i with
          | none => rw [q] at e'; cases e'
          | some j =>
            rw [q] at e'
            have e' : ns[j]? = some w := e'
            show (ns.map D.int)[j]? = some (.int w)
            rw [List.getElem?_map, e']
            rfl)
        have := o.int_iff
        subst this
        exact .inl ⟨_, _, i, _, rfl, rfl, SqL.of (z _ _ hz), e1, k _ Z H (.int w) (.refl z) (.int w) h⟩
  · exact h.elim
end
end Y

/-! YN: callees, defaults, isinstance, sorted, list(range ..), the end. -/
namespace Y
open PySem PySem.Spec PyProof.Rows L2
section
variable (P : Program) (w : World) (K : PySem.W.Frag) (mg : Str → Option Value) (base : Heap)
/-- a def of the top, with its promise -/
structure Cal (CX : CXT) (k : Nat) (x : Str) (ps : List Str) (sp : Sp) (f : Addr) (fd : FuncData) : Prop where
  G : FnOk P w K mg base CX k f fd ps sp
  mg : mg x = some (.ref f)
  kp : PySem.W.keepIn K (.ref f) = true
  b : Binds K fd ps []
/-- a method -/
structure CalM (CX : CXT) (k : Nat) (C : Addr) (m : Str) (ps : List Str) (sp : Sp) (f : Addr) (fd : FuncData) : Prop where
  G : FnOk P w K mg base CX k f fd ps sp
  me : Meth K C m f
  cl : Cls K C
  b : Binds K fd ps []
theorem CalM.find {P : Program} {w : World} {K : PySem.W.Frag} {mg : Str → Option Value} {base : Heap} {CX : CXT} {k : Nat} {C : Addr} {m : Str} {ps : List Str} {sp : Sp} {f : Addr} {fd : FuncData} (c : CalM P w K mg base CX k C m ps sp f fd) : PySem.W.findIn K (.ref C) m = some (some (.ref f)) := c.me.at_
theorem CalM.fn {P : Program} {w : World} {K : PySem.W.Frag} {mg : Str → Option Value} {base : Heap} {CX : CXT} {k : Nat} {C : Addr} {m : Str} {ps : List Str} {sp : Sp} {f : Addr} {fd : FuncData} (c : CalM P w K mg base CX k C m ps sp f fd) : PySem.W.isFn K (.ref f) = true := c.me.fn
/-- a property -/
structure CalP (CX : CXT) (k : Nat) (C : Addr) (m : Str) (ps : List Str) (sp : Sp) (p f : Addr) (fd : FuncData) : Prop where
  G : FnOk P w K mg base CX k f fd ps sp
  pr : PropOf K C m p f
  cl : Cls K C
  b : Binds K fd ps []
/-- a class that is called -/
structure CalK (CX : CXT) (k : Nat) (x : Str) (C : Addr) (ps : List Str) (sp : Sp) (f : Addr) (fd : FuncData) : Prop where
  G : FnOk P w K mg base CX k f fd ps sp
  M : Mk K C f
  mg : mg x = some (.ref C)
  b : Binds K fd ps []
end


section
variable {P : Program} {w : World} {K : PySem.W.Frag} {mg : Str → Option Value} {base : Heap} {T : Tb}
/-- how its arguments bind where all are written -/
theorem fund_binds {x qual : Str} {st : Stmt} {dvs : List V} {f : Addr} {fd : FuncData} {ps : List Str} (F : FunD K x qual (defArgs st) (defBody st) (defScope st) dvs [] f fd) (n j : Nat) (hd : dvs ≠ []) (hn : n + (dvs.length - j) = ps.length)
    (h : ∀ (T : Addr) (kV doc pm : Value) (an : Option Addr) (cdv ct : Value) (us its : List Value), us.length = n → its.length = dvs.length →
      ∃ k, bindArgs (PySem.W.fnOf x qual (defArgs st) (defBody st) (defScope st) (.ref T) kV doc pm an cdv ct) ⟨us, []⟩ = seqItems? (.ref T) >>= k ∧ k (some its.toArray) = pure (ps.zip (us ++ its.drop j))) : ∃ ds, Vals (dvs.drop j) ds ∧ Binds K fd ps ds := F.binds1 n j hd hn h
theorem binds_all {fd : FuncData} {ps : List Str} {ds : List Value} {vs : List V} (h : Vals vs ds) (e : vs = []) (b : Binds K fd ps ds) : Binds K fd ps [] := by
  subst e
  cases h
  exact b
/-- a def that changes no argument -/
theorem fn_PD {dvs : List V} {x qual : Str} {st : Stmt} {f : Addr} {fd : FuncData} {N ps : List Str} {k m n : Nat} {body : YS} (F : FunD K x qual (defArgs st) (defBody st) (defScope st) dvs [] f fd) (Sc : FnScope N ps (defScope st)) (hm : ps.length = m) (hn : N.length = m + n)
    (bd : ∀ (cdv : Value) (A : Around) (outer : List Env) (s : Shared) (H : Hp) (E : XK), Room k (A.deeper (envOfC qual (defScope st) s.heap.objs.size f cdv)) →
      ∃ t, PSs (cxOf (L2N.CX P w) P w K mg base N qual (defScope st) f cdv A outer s H E) (defBody st) t ∧ SS K T (WD E) t body) :
    FnOk P w K mg base (L2N.CX P w) (k + 1) f fd ps (spP K T (defP m n body)) := by
  refine F.ok (CX := L2N.CX P w) Sc (fun vs H Q E h => ?_) fun cdv A outer s H vs Q E hr h => ?_
  · obtain ⟨Z, B, ds, R, X, _, _, o, hs, _⟩ := h
    rw [o.length, hs.1, hm]
  · obtain ⟨t, ht, sd⟩ := bd cdv A outer s H E hr
    obtain ⟨Z, B, ds, R, X, z, b, o, hs, kr, kx⟩ := h
    have I : EnvOk K T ⟨B, [], H, Z⟩ Z H (L2.start N vs) (ds.map S.val ++ List.replicate n .no) [] := by
      refine ⟨z, b, fun a u e _ => e, fun a e => e, ?_, fun a ha => (by cases ha), List.nodup_nil, fun a e => .inl e⟩
      unfold L2.start
      have : N.length - vs.length = n := by rw [o.length, hs.1]; omega
      rw [this]
      exact slots_val (c := ⟨B, [], H, Z⟩) n o
    have st' : ∀ {Z' H' σ' ρ' F'}, Same Z Z' → EnvOk K T ⟨B, [], H, Z⟩ Z' H' σ' ρ' F' → PStep Z H Z' H' := fun {Z' H' σ' ρ' F'} zz J => ⟨zz, fun a u e => J.sm a u e (by simp), fun a e => (J.zn a e).elim .inl fun h => h.elim .inr fun h => (by cases h), J.zh⟩
    refine ⟨t, ht, sd ⟨B, [], H, Z⟩ Z _ H _ [] _ I (fun Z' σ' H' ρ' F' cn fs od zz J ex x => kx cn fs od Z' H' (st' zz J) ex x) hs.2.go _ ⟨fun Z' σ' H' ρ' F' zz J q => ?_, fun v Z' σ' H' ρ' F' r zz J hr nr q => ?_, fun _ _ _ _ _ _ _ z => z.elim, fun _ _ _ _ _ _ _ z => z.elim⟩⟩
    · exact kr .non Z' H' (.val .non) [] (st' zz J) ⟨rfl, .non⟩ rfl q
    · have hF : ∀ {d G}, Ow K T Z' B H' v d G → True := fun _ => trivial
      cases r with
      | val d => exact kr v Z' H' (.val d) [] (st' zz J) ⟨rfl, hr⟩ rfl q
      | tmp d =>
        obtain ⟨G, h1, h2, h3⟩ := hr
        exact kr v Z' H' (.tmp d) G (st' zz J) ⟨h1, h2, fun a ha => ⟨(h3 a ha).2.2.2.elim id fun h => (by cases h), (h3 a ha).2.1⟩⟩ rfl q
      | rd d => cases nr
/-- an __init__ -/
theorem fn_ND {dvs : List V} {cn : String} {x qual : Str} {st : Stmt} {f : Addr} {fd : FuncData} {N ps : List Str} {k m n : Nat} {body : YS} (F : FunD K x qual (defArgs st) (defBody st) (defScope st) dvs [] f fd) (Sc : FnScope N ps (defScope st)) (hm : ps.length = m + 1) (hn : N.length = m + 1 + n) (g : Gd K T cn [])
    (bd : ∀ (cdv : Value) (A : Around) (outer : List Env) (s : Shared) (H : Hp) (E : XK), Room k (A.deeper (envOfC qual (defScope st) s.heap.objs.size f cdv)) →
      ∃ t, PSs (cxOf (L2N.CX P w) P w K mg base N qual (defScope st) f cdv A outer s H E) (defBody st) t ∧ SS K T (WD E) t body) :
    FnOk P w K mg base (L2N.CX P w) (k + 1) f fd ps (spN K T cn (defI cn m n body)) := by
  refine F.ok (CX := L2N.CX P w) Sc (fun vs H Q E h => ?_) fun cdv A outer s H vs Q E hr h => ?_
  · obtain ⟨Z, B, p, dx, ws, ds, R, X, rfl, _, _, _, _, _, o, hs, _⟩ := h
    rw [List.length_cons, o.length, hs.1, hm]
  · obtain ⟨t, ht, sd⟩ := bd cdv A outer s H E hr
    obtain ⟨Z, B, p, dx, ws, ds, R, X, rfl, hp, z, b, zp, bp, o, hs, kr, kx⟩ := h
    have I : EnvOk K T ⟨B, [p], H, Z⟩ Z H (L2.start N (V.ref p :: ws)) (S.own (some p) (.obj .own cn [] []) :: (ds.map S.val ++ List.replicate n .no)) [p] := by
      refine ⟨z, b, fun a u e _ => e, fun a e => e, ?_, fun a ha => ?_, (by simp), fun a e => .inl e⟩
      · unfold L2.start
        have : N.length - (V.ref p :: ws).length = n := by rw [List.length_cons, o.length, hs.1]; omega
        rw [this]
        exact Slots.cons (F := [p]) (G := []) ⟨.ref p, rfl, fun a z => (by cases z; rfl), .obj (m := .own) (F := []) hp rfl .nil rfl g⟩ (slots_val (c := ⟨B, [p], H, Z⟩) n o)
      · cases List.mem_singleton.mp ha
        exact ⟨zp, bp, .inr (by simp)⟩
    have st' : ∀ {Z' H' σ' ρ' F'}, Same Z Z' → EnvOk K T ⟨B, [p], H, Z⟩ Z' H' σ' ρ' F' → IStep p Z H Z' H' := fun {Z' H' σ' ρ' F'} zz J =>
      ⟨zz, J.zh, fun a u e n => J.sm a u e (by simpa using n), J.tr, fun a e => (J.zn a e).elim .inl fun h => h.elim (fun h => .inr (.inl h)) fun h => .inr (.inr (by simpa using h))⟩
    have fin : ∀ {Z' H' σ' ρ' F'}, Same Z Z' → EnvOk K T ⟨B, [p], H, Z⟩ Z' H' σ' ρ' F' → own0 p ρ' R → Q .non H' := fun {Z' H' σ' ρ' F'} zz J q => by
      unfold own0 at q
      split at q
      · rename_i r d e
        obtain ⟨o, F1, Fi, F2, e1, e2, e3, _⟩ := J.sl.get e
        obtain ⟨v, rfl, e4, ow⟩ := e3
        have := e4 p q.1
        subst this
        have nd := J.nd
        rw [e2] at nd
        exact kr Z' H' d Fi (st' zz J) ow (List.nodup_append.mp (List.nodup_append.mp nd).2.1).1 (fun a ha => by
          have := J.fr a (by rw [e2]; exact List.mem_append_right _ (List.mem_append_left _ ha))
          exact ⟨this.2.2.elim .inl fun h => .inr (by simpa using h), this.1⟩) q.2
      · exact q.elim
    refine ⟨t, ht, sd ⟨B, [p], H, Z⟩ Z _ H _ [p] _ I (fun Z' σ' H' ρ' F' cn fs od zz J ex x => kx cn fs od Z' H' (st' zz J) ex x) (hs.2 p) _ ⟨fun Z' σ' H' ρ' F' zz J q => fin zz J q, fun v Z' σ' H' ρ' F' r zz J hr nr q => ?_, fun _ _ _ _ _ _ _ z => z.elim, fun _ _ _ _ _ _ _ z => z.elim⟩⟩
    cases r with
    | val d =>
      cases d with
      | non =>
        cases hr
        exact fin zz J q
      | _ => exact False.elim q
    | tmp d => exact False.elim q
    | rd d => exact False.elim q
end
/-- an error class with attributes, raised -/
structure CalE (P : Program) (w : World) (K : PySem.W.Frag) (mg : Str → Option Value) (base : Heap) (k : Nat) (x : Str) (C : Addr) (ps fs : List Str) (f : Addr) (fd : FuncData) : Prop where
  er : ErrC K C
  G : FnOk P w K mg base CX0 k f fd ps (xSp C fs)
  init : PySem.W.findIn K (.ref C) "__init__" = some (some (.ref f))
  ty : PySem.W.typeIn K (.ref f) = some (.type "function")
  mg : mg x = some (.ref C)
  b : Binds K fd ps []
/-- one without -/
structure CalE0 (K : PySem.W.Frag) (mg : Str → Option Value) (x : Str) (C : Addr) : Prop where
  er : ErrC K C
  xc : PySem.W.excIn K C [.type "ValueError", .type "Exception", .type "BaseException", .type "object"] "ValueError.__new__" = true
  mg : mg x = some (.ref C)
  kp : PySem.W.keepIn K (.ref C) = true
section
variable {P : Program} {w : World} {K : PySem.W.Frag} {mg : Str → Option Value} {base : Heap}
theorem fn_none {CX : CXT} {k : Nat} {f : Addr} {fd : FuncData} {ps : List Str} {sp : Sp} (h : ∀ vs H Q E, ¬ sp vs H Q E) : FnOk P w K mg base CX k f fd ps sp :=
  ⟨fun vs H Q E q => (h vs H Q E q).elim, fun _ _ _ H _ _ vs Q E _ _ _ _ q => (h vs H Q E q).elim⟩
end
/-! ### isinstance -/
section
variable {K : PySem.W.Frag} {T : Tb} {W : WX} {Z B H : Hp} {v : V} {d : D} {F : List Addr} {ta tb te : TE} {ya yb : YP} {c : Cz}
theorem ty_ow (z : Same Z H) (bb : Same B H) (h : Ow K T Z B H v d F) {n : String} (e : tyD d = some n) : TyX K H v (.type n) := by
  cases h with
  | non => cases e; exact .base .non
  | bl b => cases e; exact .base (.bl b)
  | int i => cases e; exact .base (.int i)
  | str x => cases e; exact .base (.str x)
  | tup h1 h2 => cases e; exact .base (.tup (z _ _ h1))
  | @lst a m xs ds F G h1 h2 h3 => cases e; exact .base (.lst (by cases m <;> first | exact z _ _ h1 | exact bb _ _ h1 | exact h1))
  | dct h1 h0 h2 h3 => cases e
  | obj h1 h0 h2 h3 g => cases e
  | src h1 h2 => cases e
  | scr h1 => cases e
  | cel h1 => cases e
  | glb _ => cases e
/-- isinstance(x, c), c one class -/
theorem sp_isi {u : V} {cv : Value} {bs es : List (String × Bool)} (hu : ClsV u cv) (hb : ∀ p ∈ bs, PySem.W.kitOne K (.type p.1) cv = some p.2) (he : ∀ p ∈ es, PySem.W.kitOne K (.ref (T p.1)) cv = some p.2)
    (hn : PySem.W.specialIn K (.builtin "object.__class__") "__get__" = some (some (.builtin "getset_descriptor.__get__"))) (ht : PySem.W.takesIn K (.builtin "object.__class__") = some true) (ha : SP K T W ta ya) :
    SP K T W (tCB (rIsi K) (L2.tCons ta (L2.tCons (tC u) L2.tNil))) (y1 (fIsI bs es) ya) := sp_1 fun c Z σ H ρ F I X hw Q q R k => ha c Z σ H ρ F _ X I hw q _ fun v1 Z1 H1 r1 G1 s1 h1 q1 => by
  have I1 := I.p s1
  obtain ⟨G', o1⟩ := h1.ow
  unfold fIsI at q1
  split at q1
  · rename_i m cn ns ds e
    split at q1
    · rename_i b eb
      rw [e] at o1
      obtain ⟨p, dx, fs, F', rfl, c1, c2, _, _, g⟩ := ow_obj o1
      exact ⟨_, u, _, cv, b, rfl, hu, .base (.ins (cell_now I1.zh I1.bh c1) g.cl g.ha hn ht g.hm), he _ (takes_mem eb), k _ Z1 H1 (.bl b) s1 (.bl b) q1⟩
    · exact q1.elim
  · split at q1
    · rename_i n en
      split at q1
      · rename_i b eb
        exact ⟨_, u, _, cv, b, rfl, hu, ty_ow I1.zh I1.bh o1 en, hb _ (takes_mem eb), k _ Z1 H1 (.bl b) s1 (.bl b) q1⟩
      · exact q1.elim
    · exact q1.elim
end
theorem kit_self {K : PySem.W.Frag} {C : Addr} : PySem.W.kitOne K (.ref C) (.ref C) = some true := by
  unfold PySem.W.kitOne
  rw [if_pos (beq_self_eq_true _)]
section
variable {prog : Program} {w : World} {A : Around} {E : Value → Shared → Prop} {s : Shared}
theorem collect_tup {l : Addr} {vs : List Value} {Q : List Value → Shared → Prop} (hl : IsTup s.heap l vs.toArray) (h : Q vs { s with heap := (s.heap.push (seqObj "list" #[] 0)).update s.heap.objs.size (Obj.mapSeq (· ++ vs.toArray)) }) (hsz : vs.length ≤ sizeLine) :
    wpAny (model prog w) A (collect (.ref l)) Q E s := by
  obtain ⟨o, ho, hc, n, hd⟩ := id hl
  unfold collect; refine wpAny_bind (wpAny_runValue (codeAny_builtin entry_proto_collect' (show wpAny _ _ (do again (.builtin "list.__iadd__" ⟨[← newList [], .ref l], []⟩)) _ _ s from ?_)))
  refine wpAny_bind (wpAny_newList (wpAny_pure ⟨Code.quiet_builtin _ (by decide +kernel), codeAny_builtin entry_list_iadd' (show wpAny _ _ (Builtin.List.listExtendWith (.ref s.heap.objs.size) (.ref l) (.ref s.heap.objs.size)) _ _ { s with heap := s.heap.push (seqObj "list" #[] 0) } from ?_)⟩))
  unfold Builtin.List.listExtendWith; have ho' : (s.heap.push (seqObj "list" #[] 0)).get? l = some o := Heap.get?_push_of_some _ ho
  refine wpAny_bind (wpAny_typeOf (T := "tuple") ⟨o, ho', hc⟩ ?_)
  rw [if_pos (by rw [show (Value.type "tuple" == Value.type "tuple") = true from rfl]; simp)]
  refine wpAny_bind (listItems_at ho' hd (wpAny_bind (listItems_at (xs := #[]) (n := 0) (Heap.get?_push_size _ rfl) rfl ?_)))
  rw [if_neg (by simp)]
  refine wpAny_bind (listUpdate_at (xs := #[]) (n := 0) (Heap.get?_push_size _ rfl) rfl ?_ (Nat.zero_le _) (by show (#[] ++ vs.toArray).size ≤ sizeLine + 1; simp only [Array.size_append, List.size_toArray, List.length_nil]; omega))
  refine wpAny_pure (show wpAny (model prog w) A (do
      let o ← load s.heap.objs.size; match o.data with | .seq xs _ => pure xs.toList | _ => unsupported "internal:collect") Q E { s with heap := (s.heap.push (seqObj "list" #[] 0)).update s.heap.objs.size (Obj.mapSeq (· ++ vs.toArray)) } from ?_)
  refine wpAny_bind (wpAny_load (get?_update_seq (Heap.get?_push_size _ rfl) _) (show wpAny _ _ (pure ((#[] : Array Value) ++ vs.toArray).toList) Q E _ from ?_))
  rw [show ((#[] : Array Value) ++ vs.toArray).toList = vs by simp]; exact wpAny_pure h
theorem sorted_tup {l : Addr} {vs : List Value} {ns : List Int} {Q : Value → Shared → Prop} (hl : IsTup s.heap l vs.toArray) (hI : IntsAre vs ns) (h64 : vs.length < 64)
    (h : ∀ (out : Array Value) (ns' : List Int), IntsAre out.toList ns' → ns'.Perm ns → ns'.Pairwise (· ≤ ·) → Q (.ref (s.heap.objs.size + 1)) { s with heap := sortedAll s.heap vs out }) : wpAny (model prog w) A (call (.builtin "sorted") [.ref l]) Q E s := by
  refine Calls.call_function_entry kind_sorted plain_sorted entry_sorted (args_sorted1 _) ?_; unfold Builtin.«sorted»
  refine wpAny_bind (m := checkCount "sorted" 1 1 _) (wpAny_pure (wpAny_bind (collect_tup hl (wpAny_bind (wpAny_newList ?_)) (small64 h64))))
  have hsz : ((s.heap.push (seqObj "list" #[] 0)).update s.heap.objs.size (Obj.mapSeq (· ++ vs.toArray))).objs.size = s.heap.objs.size + 1 := (Heap.size_update ..).trans (size_push' ..)
  have hoL : (((s.heap.push (seqObj "list" #[] 0)).update s.heap.objs.size (Obj.mapSeq (· ++ vs.toArray))).push (seqObj "list" vs.toArray 0)).get? (s.heap.objs.size + 1) = some (seqObj "list" vs.toArray 0) := by rw [← hsz]; exact Heap.get?_push_size _ rfl
  show wpAny _ _ _ _ _ { s with heap := ((s.heap.push (seqObj "list" #[] 0)).update s.heap.objs.size (Obj.mapSeq (· ++ vs.toArray))).push (seqObj "list" vs.toArray 0) }
  rw [hsz]; exact wpAny_bind (wpAny_holding (wpAny_call_entry slot_list_sort ⟨_, hoL, rfl⟩ entry_list_sort (list_sort_tree hoL hI h64 fun out ns' a1 a2 a3 => ⟨_, rfl, wpAny_pure ⟨_, rfl, h out ns' a1 a2 a3⟩⟩) (args_list_sort _)))
end
section
variable {X : Cx}
def rSortedU (K : PySem.W.Frag) : List V → Hp → VK → Prop := fun vs H Q => ∃ (a : Addr) (ns : List Int), vs = [V.ref a] ∧ SqT K H a (ns.map V.int) ∧ ns.length < 64 ∧ ∀ (ns' : List Int) (p : Addr), ns'.Perm ns → ns'.Pairwise (· ≤ ·) → H p = none → Q (.ref p) (upd H p (.lst (ns'.map V.int)))
theorem cr_sortedU : CallR X (.builtin "sorted") (rSortedU X.K) := by
  intro pins s σ H vs us Q I r h
  obtain ⟨a, ns, rfl, hs, h64, q⟩ := h
  obtain ⟨its, rv, hl, _⟩ := I.tuple hs
  rw [Vals.ref1 r]; have hi := rv.ints
  refine sorted_tup hl hi (by rw [hi.length]; exact h64) fun out ns' h1 h2 h3 => ?_
  obtain ⟨ep, he'⟩ := PyProof.Rows.sortedAll_at s.heap its out; have hlen : (ns'.map V.int).length ≤ sizeLine := by rw [List.length_map, h2.length_eq]; exact small64 h64
  exact ⟨.ref _, upd H _ (.lst (ns'.map V.int)), I.laid (t' := s.toks) (fun _ _ => PyProof.Rows.sortedAll_old) (Nat.le_succ _) ⟨hlen, out.toList, ep, vals_of_ints h1, he'⟩, rfl, q ns' _ h2 h3 (I.hok.fresh (Nat.le_succ _))⟩
def rSortedZ (K : PySem.W.Frag) : List V → Hp → VK → Prop := fun vs H Q => rSorted K vs H Q ∨ rSortedU K vs H Q
theorem cr_sortedZ : CallR X (.builtin "sorted") (rSortedZ X.K) := fun pins s σ H xs us Q I r h => h.elim (cr_sorted pins s σ H xs us Q I r) (cr_sortedU pins s σ H xs us Q I r)
end
section
variable {K : PySem.W.Frag} {T : Tb} {W : WX} {Z B H : Hp} {v : V} {d : D} {F : List Addr} {ta tb te : TE} {ya yb : YP} {c : Cz}
/-! ### sorted -/
theorem ow_ints {is : List Int} {xs : List V} {F' : List Addr} (o : OwAll K T Z B H xs (is.map D.int) F') : xs = is.map V.int := by
  induction is generalizing xs F' with
  | nil => cases o; rfl
  | cons i is ih =>
    cases o with
    | cons h t =>
      rw [h.int_iff, ih t]
      rfl
theorem sp_sort (ha : SP K T W ta ya) : SP K T W (tCB (rSortedZ K) (L2.tCons ta L2.tNil)) (ySort ya) := fun c Z σ H ρ F Q X I hw q R k => ha c Z σ H ρ F _ X I hw q _ fun v1 Z1 H1 r1 G1 s1 h1 q1 => by
  have I1 := I.p s1
  obtain ⟨G', o1⟩ := h1.ow
  split at q1
  · rename_i ds e1
    obtain ⟨is, e2, q1⟩ := q1
    · have e3 := intsD_map e2
      subst e3
      obtain ⟨p, xs, F', rfl, h2, h3, _⟩ := seq_ow o1 e1 I1.zh I1.bh
      have e4 := ow_ints h3
      subst e4
      have fin : ∀ (ns' : List Int) (p' : Addr), ns'.Perm is → ns'.Pairwise (· ≤ ·) → H1 p' = none → R (.ref p') (upd H1 p' (.lst (ns'.map V.int))) := fun ns' p' h4 h5 h6 =>
        new_lst (Q := Q) (ds := ns'.map D.int) s1 (AtAll.of_ints ns') h6 (by rw [srtI_of h4 h5]; exact q1.2) k
      rcases h2 with h2 | h2
      · exact .inl ⟨p, is, rfl, SqL.of h2, q1.1, fin⟩
      · exact .inr ⟨p, is, rfl, .inl (.inl h2), q1.1, fin⟩
  · exact q1.elim
/-- list(range(n)) -/
theorem sp_range (ha : SP K T W ta ya) : SP K T W (tLstRg (tRg1 ta)) (yRange ya) := fun c Z σ H ρ F Q X I hw q R k => ha c Z σ H ρ F _ X I hw q _ fun v1 Z1 H1 r1 G1 s1 h1 q1 => by
  have I1 := I.p s1
  obtain ⟨G', o1⟩ := h1.ow
  split at q1
  · rename_i n e
    rw [e] at o1
    have := o1.int_iff
    subst this
    refine ⟨n, rfl, ⟨by omega, by omega, by omega, by omega, by omega⟩, fun p hp => ?_⟩
    have e2 : rgV 0 n = ((List.range n.toNat).map fun i : Nat => (i : Int)).map V.int := by
      unfold rgV
      rw [List.map_map, show n - 0 = n by omega]
      exact List.map_congr_left fun i _ => by simp
    have e3 : ((List.range n.toNat).map fun i : Nat => D.int (i : Int)) = ((List.range n.toNat).map fun i : Nat => (i : Int)).map D.int := by rw [List.map_map]; rfl
    rw [e2]
    exact new_lst (Q := Q) s1 (AtAll.of_ints _) hp (by rw [← e3]; exact q1.2) k
  · exact q1.elim
end
section
variable {K : PySem.W.Frag} {T : Tb} {W : WX} {ta tb te : TE} {ya yb : YP}
/-- x + y -/
theorem sp_add (ha : SP K T W ta ya) (hb : SP K T W tb yb) : SP K T W (tOp (rAddZ K) ta tb) (yAdd ya yb) := fun c Z σ H ρ F Q X I hw q R k =>
  ha c Z σ H ρ F _ X I hw q _ fun v1 Z1 H1 r1 G1 s1 h1 q1 => hb c Z1 σ H1 ρ F _ X (I.p s1) (hw.p s1) q1 _ fun v2 Z2 H2 r2 G2 s2 h2 q2 => by
    have I2 := (I.p s1).p s2
    have h1' := h1.p s2 (I.p s1).there
    unfold addR at q2
    split at q2
    · rename_i l
      obtain ⟨l1, l2⟩ := l
      obtain ⟨ds, p, xs, q3, rfl, e3, o3⟩ := els_ok h1' I2.zh I2.bh q2
      obtain ⟨es, p', ys, q4, rfl, e4, o4⟩ := els_ok h2 I2.zh I2.bh q3
      obtain ⟨hz, q5⟩ := q4
      have a1 := lst_now h1' I2.zh I2.bh e3 l1
      have a2 := lst_now h2 I2.zh I2.bh e4 l2
      have n1 := o3.length
      have n2 := o4.length
      have s4 : PStep Z H (frzZ Z2 H2 (G1 ++ G2)) H2 := frz_step (s1.trans s2) fun a ha => (List.mem_append.mp ha).elim (fun ha => h1'.free a ha) fun ha => ⟨same_none s1.hh (h2.free a ha).1, (h2.free a ha).2⟩
      have m1 : Same (frzZ Z2 H2 G1) (frzZ Z2 H2 (G1 ++ G2)) := frz_sub (fun a ha => List.mem_append_left _ ha) I2.zh
      have m2 : Same (frzZ Z2 H2 G2) (frzZ Z2 H2 (G1 ++ G2)) := frz_sub (fun a ha => List.mem_append_right _ ha) I2.zh
      refine .inr (.inr (.inr ⟨p, p', xs, ys, rfl, rfl, .inl a1, .inl a2, by rw [n1, n2]; exact sz_of hz, fun l hl => ?_⟩))
      exact new_lst s4 (AtAll.append (o3.still m1 (Same.refl _)) (o4.still m2 (Same.refl _))) hl q5 k
    · obtain ⟨G1', o1⟩ := h1'.ow
      obtain ⟨G2', o2⟩ := h2.ow
      exact ops_add Z2 c.B H2 v1 v2 _ _ _ _ _ R I2.zh I2.bh o1 o2 q2 fun v Z' H' d s3 o p => k v Z' H' (.val d) [] ((s1.trans s2).trans s3) ⟨rfl, o⟩ p
end
section
variable {X : Cx} {e a l tg : Expr} {f : Str} {ta tl : TE} {pos : Pos}
theorem pe_fldK (K : PySem.W.Frag) (hK : X.K = K) (he : PE X e ta) (hb : attributeBase e f X.env (eval e X.env) = eval e X.env) : PE X (.Attribute e f pos) (tFld K ta f) := by
  subst hK
  exact pe_fld he hb
theorem pt_truK (K : PySem.W.Frag) (hK : X.K = K) (ha : PE X a ta) (he : ∀ whole, isTrue a X.env whole = (do let v ← whole; standAt a.pos; holding [v] (truthy v))) : PT X a (L2.tTru K ta) := by
  subst hK
  exact pt_truth ha he
theorem pi_seqK (K : PySem.W.Frag) (hK : X.K = K) (hl : PE X l tl) : PI X tg l (iSeq K tl) := by
  subst hK
  exact pi_seq hl
end
theorem kit_int {K : PySem.W.Frag} : ∀ p ∈ bs_int, PySem.W.kitOne K (.type p.1) (.type "int") = some p.2 := fun p hp => by
  simp only [bs_int, List.mem_cons, List.not_mem_nil, or_false] at hp
  rcases hp with rfl | rfl | rfl | rfl | rfl | rfl <;> exact kit_ty (by decide +kernel)
theorem kit_bool {K : PySem.W.Frag} : ∀ p ∈ bs_bool, PySem.W.kitOne K (.type p.1) (.type "bool") = some p.2 := fun p hp => by
  simp only [bs_bool, List.mem_cons, List.not_mem_nil, or_false] at hp
  rcases hp with rfl | rfl | rfl | rfl | rfl | rfl <;> exact kit_ty (by decide +kernel)
theorem kit_str {K : PySem.W.Frag} : ∀ p ∈ bs_str, PySem.W.kitOne K (.type p.1) (.type "str") = some p.2 := fun p hp => by
  simp only [bs_str, List.mem_cons, List.not_mem_nil, or_false] at hp
  rcases hp with rfl | rfl | rfl | rfl | rfl | rfl <;> exact kit_ty (by decide +kernel)
theorem kit_tuple {K : PySem.W.Frag} : ∀ p ∈ bs_tuple, PySem.W.kitOne K (.type p.1) (.type "tuple") = some p.2 := fun p hp => by
  simp only [bs_tuple, List.mem_cons, List.not_mem_nil, or_false] at hp
  rcases hp with rfl | rfl | rfl | rfl | rfl | rfl <;> exact kit_ty (by decide +kernel)
theorem kit_list {K : PySem.W.Frag} : ∀ p ∈ bs_list, PySem.W.kitOne K (.type p.1) (.type "list") = some p.2 := fun p hp => by
  simp only [bs_list, List.mem_cons, List.not_mem_nil, or_false] at hp
  rcases hp with rfl | rfl | rfl | rfl | rfl | rfl <;> exact kit_ty (by decide +kernel)
section
variable {K : PySem.W.Frag} {T : Tb} {W : WX} {te : TE} {ya : YP}
theorem ss_aug {i : Nat} {f : Int → Int → Int} (he : SP K T W te ya) : SS K T W (tAug i te (ipI f)) (sAug i f ya) := fun c Z σ H ρ F k I hx q E ok => by
  unfold sAug at q
  split at q
  · rename_i x e
    obtain ⟨o, F1, Fi, F2, e1, e2, e3, _⟩ := I.sl.get e
    obtain ⟨_, v, rfl, ow⟩ := e3
    have := ow.int_iff
    subst this
    refine ⟨_, e1, he c Z σ H ρ F _ _ I (WP.of I hx.at) q _ fun v1 Z1 H1 r1 G1 s1 h1 q1 => ?_⟩
    obtain ⟨_, o1⟩ := h1.ow
    split at q1
    · rename_i y ey
      rw [ey] at o1
      have := o1.int_iff
      subst this
      obtain ⟨F3, J3, _⟩ := (I.p s1).putV (i := i) (d := .int (f x y)) (.int _)
      exact ⟨x, y, rfl, rfl, ok.nx Z1 _ H1 _ F3 s1.zz J3 q1⟩
    · exact q1.elim
  · exact q.elim
theorem ss_augAdd {i : Nat} (he : SP K T W te ya) : SS K T W (tAug i te (ipI fun i j => i + j)) (sAug i (fun x y => x + y) ya) := ss_aug he
theorem ss_augSub {i : Nat} (he : SP K T W te ya) : SS K T W (tAug i te (ipI fun i j => i - j)) (sAug i (fun x y => x - y) ya) := ss_aug he
end
section
variable {K : PySem.W.Frag} {T : Tb}
theorem spP_imp {S S' : DSp} (h : ∀ ds R X, S ds R X → S' ds R X) : ∀ vs H Q E, spP K T S vs H Q E → spP K T S' vs H Q E := fun vs H Q E ⟨Z, B, ds, R, X, z, b, o, s, kr, kx⟩ => ⟨Z, B, ds, R, X, z, b, o, h ds R X s, kr, kx⟩
theorem spN_imp {cn : String} {S S' : SpI} (h : ∀ ds R X, S ds R X → S' ds R X) : ∀ vs H Q E, spN K T cn S vs H Q E → spN K T cn S' vs H Q E := fun vs H Q E ⟨Z, B, p, dx, ws, ds, R, X, e, hp, z, b, zp, bp, o, s, kr, kx⟩ => ⟨Z, B, p, dx, ws, ds, R, X, e, hp, z, b, zp, bp, o, h ds R X s, kr, kx⟩
end
/-! ### the end -/
theorem fn_law {P : Program} {w : World} {K : PySem.W.Frag} {T : Tb} {S : DSp} {mg : Str → Option Value} {base : Heap} {CX : CXT} {k : Nat} {f : Addr} {fd : FuncData} {ps : List Str} (F : FnOk P w K mg base CX k f fd ps (spP K T S))
    (hS : ∀ ns (R : RV → Prop), R (.val (.bl true)) → S [.scr ns] R X0) : FnOk P w K mg base CX k f fd ps (spZ K) :=
  F.imp fun vs H Q E ⟨a, ns, ev, o, h, q⟩ => by
    subst ev
    refine ⟨H, fun _ => none, [.scr ns], fun r => r = .val (.bl true), X0, Same.refl _, fun _ _ z => (by cases z), AtAll.cons (.scr ?_) .nil, hS ns _ rfl, fun v Z' H' r G s m nr e => ?_, fun _ _ _ _ _ _ _ z => z.elim⟩
    · rcases h with h | h
      · rcases o a with e | ⟨ob, xs, e⟩
        · rcases h with h | ⟨_, h⟩ <;> (rw [e] at h; cases h)
        · rcases h with h | ⟨o2, h⟩
          · rw [e] at h
            cases h
          · exact .inl ⟨o2, h⟩
      · exact .inr fun _ => .inr h
    · subst e
      have := m.2.bl_iff
      subst this
      exact q H'
end Y

/-! YP: classes as values, classmethods, defs with *args, len of an own object. -/
namespace Y
open PySem PySem.Spec PyProof.Rows L2
/-! ### a def by its raw promise, what is raised wished for at the slots -/
section
variable {X : Cx} {CX : CXT} {k : Nat} {f g C p q : Addr} {sp : Sp} {E : L2.St → XK} {x m : Str} {pos apos pp : Pos} {e o : Expr} {es : List Expr} {ta : TE} {t : TA} {mc : Value} {pins : List (Addr × Obj)} {σ : L2.St} {H : Hp} {s : Shared} {us : List Value} {vs : List V} {Q : VK}
theorem run_fnRS (F : FnR X.prog X.w X.K X.mg X.base CX k f sp) (hr : Room k X.A) (hx : PassesAt CX X σ (E σ)) (I : Inv X pins σ H s) (r : Vals vs us) (h : sp vs H Q (E σ)) :
    codeAny (model X.prog X.w) X.A (.call (.ref f) ⟨us, []⟩) (fun r s' => match r with | .ok (.ret v) => EP X pins σ Q v s' | .ok _ => False | .error e => X.xe e s') s := by
  refine codeAny_mono (F X.A X.stack s H us vs Q (E σ) hr I.env0 r h) fun r s' hq => ?_
  cases r with
  | error e => exact hx pins H s e s' I hq
  | ok fl =>
    cases fl with
    | ret u => exact I.after hq
    | next => exact False.elim hq
    | brk => exact False.elim hq
    | cont => exact False.elim hq
theorem run_cmS (F : FnR X.prog X.w X.K X.mg X.base CX k g sp) (hr : Room k X.A) (hx : PassesAt CX X σ (E σ)) (I : Inv X ((q, PySem.W.methodObj (.ref g) (.ref C)) :: pins) σ H s)
    (r : Vals vs us) (h : sp (.ref C :: vs) H Q (E σ)) : wpAny (model X.prog X.w) X.A (call (.ref q) us) (EP X pins σ Q) X.xe s := by
  have z : wpAny (model X.prog X.w) X.A (call (.ref q) us) (EP X ((q, PySem.W.methodObj (.ref g) (.ref C)) :: pins) σ Q) X.xe s :=
    wpAny_call (PySem.W.method_call (ClX.pin_at I) (run_fnRS (us := .ref C :: us) (vs := .ref C :: vs) F hr hx I (.cons rfl r) h))
  exact thn z fun _ _ y => ClX.unpinE y
/-- C.m(..), m a classmethod -/
def tCMethS (C : Addr) (sp : Sp) (E : L2.St → XK) (ta : TE) (t : TA) : TE := fun σ H Q => ta σ H fun x H1 => x = .ref C ∧ t σ H1 fun vs H2 => sp (.ref C :: vs) H2 Q (E σ)
theorem pe_cmethS {pl : Sem Bool} (he : PE X o ta) (r : ClX.CRead X.K C mc) (c : ClX.CMet X.K C mc m p g) (F : FnR X.prog X.w X.K X.mg X.base CX k g sp) (hr : Room k X.A) (hx : ∀ σ, PassesAt CX X σ (E σ)) (ha : PA X (e :: es) t)
    (hst : starEach (e :: es) X.env = (false, eval e X.env) :: starEach es X.env := by rfl) (hpl : (backTo pos (starEach es X.env)).any (·.1) = false := by rfl)
    (ht : eval (.Call (.Attribute o m apos) (e :: es) [] pos) X.env = (do
      let ov ← eval o X.env
      standAt apos.atName
      let (f, first) ← holding [ov] (getMethod ov m pl)
      callWith pos f first (backTo pos (starEach (e :: es) X.env)) (backToKw pos (keywordEach [] X.env))) := by rfl) :
    PE X (.Call (.Attribute o m apos) (e :: es) [] pos) (tCMethS C sp E ta t) := by
  refine ⟨fun pins s σ H Q I h => ?_⟩
  refine PySem.W.methodCall_KW (pl := pl) (thn (he.run pins s σ H _ I h) fun u s1 ⟨x, H1, I1, rx, ex, q⟩ => ?_) ht
  subst ex
  obtain rfl : u = Value.ref C := rx
  refine ClX.getmethcm_ok I1 r c fun s2 I2 => ?_
  refine ClX.callwith_cm I2 (ClX.base_none I1 (Nat.le_refl _)) c.fi (thn (ha.run pos _ s2 σ H1 _ I2 q) fun us s3 ⟨vs, H2, I3, rv, q2⟩ => ⟨⟨ClX.pin_at I3, I3.kIn⟩, ?_⟩) hst hpl
  exact run_cmS F hr (hx σ) I3 rv q2
theorem pe_cmethS0 {pl : Sem Bool} (he : PE X o ta) (r : ClX.CRead X.K C mc) (c : ClX.CMet X.K C mc m p g) (F : FnR X.prog X.w X.K X.mg X.base CX k g sp) (hr : Room k X.A) (hx : ∀ σ, PassesAt CX X σ (E σ))
    (ht : eval (.Call (.Attribute o m apos) [] [] pos) X.env = (do
      let ov ← eval o X.env
      standAt apos.atName
      let (f, first) ← holding [ov] (getMethod ov m pl)
      callWith pos f first (backTo pos (starEach [] X.env)) (backToKw pos (keywordEach [] X.env))) := by rfl) :
    PE X (.Call (.Attribute o m apos) [] [] pos) (tCMethS C sp E ta L2.tNil) := by
  refine ⟨fun pins s σ H Q I h => ?_⟩
  refine PySem.W.methodCall_KW (pl := pl) (thn (he.run pins s σ H _ I h) fun u s1 ⟨x, H1, I1, rx, ex, q⟩ => ?_) ht
  subst ex
  obtain rfl : u = Value.ref C := rx
  refine ClX.getmethcm_ok I1 r c fun s2 I2 => ?_
  exact PySem.W.callWith_M0 (first := []) ⟨ClX.pin_at I2, I2.kIn⟩ c.fi (run_cmS F hr (hx σ) I2 .nil q)
/-- cls(..), cls a name that holds the class at C -/
def tMakeL (i : Nat) (C : Addr) (sp : Sp) (dvs : List V) (E : L2.St → XK) (t : TA) : TE := fun σ H Q => σ[i]? = some (some (.ref C)) ∧ tMakeS C sp dvs E t σ H Q
theorem pe_makeL {i : Nat} {fd : FuncData} {ps : List Str} {ds : List Value} {dvs : List V} (M : Mk X.K C f) (F : FnOk X.prog X.w X.K X.mg X.base CX k f fd ps sp) (hr : Room (k + 1) X.A) (hN : X.N[i]? = some x) (hv : Vis X.env.scope x) (hb : Binds X.K fd ps ds) (hd : Vals dvs ds) (hx : ∀ σ, PassesAt CX X σ (E σ)) (ha : PA X (e :: es) t)
    (hdb : (x == ("__debug__" : Str)) = false := by decide) (hcd : (x == ("__classdict__" : Str)) = false := by decide)
    (he : starEach (e :: es) X.env = (false, eval e X.env) :: starEach es X.env := by rfl) (hpl : (backTo pos (starEach es X.env)).any (·.1) = false := by rfl) : PE X (.Call (.Name x pp) (e :: es) [] pos) (tMakeL i C sp dvs E t) := by
  refine ⟨fun pins s σ H Q I h => ?_⟩
  obtain ⟨hs, ht⟩ := h
  refine wpAny_Call_Name_kw (thn ((pe_var (pos := pp) hN hv hdb hcd).run pins s σ H (fun v H1 => v = .ref C ∧ H1 = H) I ⟨.ref C, hs, rfl, rfl⟩) fun u s1 ⟨v, H1, I1, r1, q1⟩ => ?_)
  obtain ⟨rfl, rfl⟩ := q1
  cases r1
  exact PySem.W.callWith_K (h₀ := X.base) I.ok.mod.kin M.kp (thn (ha.run pos pins s1 σ _ _ I1 ht) fun us s2 ⟨vs, H2, I2, r, q⟩ => ⟨I2.kIn, run_makeS M F hr hb hd (hx σ) I2 r q⟩) he hpl
/-- len(a), a of the class C, whose own __len__ raises nothing -/
def rLenO (C : Addr) (sp : Sp) : List V → Hp → VK → Prop := fun xs H Q => ∃ a dx fs, xs = [.ref a] ∧ H a = some (.ins C dx fs) ∧ sp [.ref a] H (fun v H' => ∃ n : Int, v = .int n ∧ 0 ≤ n ∧ n < 2 ^ 63 ∧ Q (.int n) H') fun _ _ _ => False
theorem call_lenO {fd : FuncData} {ps : List Str} (F : FnOk X.prog X.w X.K X.mg X.base (L2N.CX X.prog X.w) k f fd ps sp) (hr : Room (k + 1) X.A) (hb : Binds X.K fd ps []) (hs : PySem.W.findIn X.K (.ref C) "__len__" = some (some (.ref f))) (hf : PySem.W.isFn X.K (.ref f) = true) : CallR X (.builtin "len") (rLenO C sp) := by
  intro pins s σ H xs us Q I r h
  obtain ⟨a, dx, fs, rfl, ha, h⟩ := h
  rw [Vals.ref1 r]
  obtain ⟨mA, J, _⟩ := ins_get I.hok ha
  obtain ⟨od, J, _⟩ := J.look
  obtain ⟨m, hF⟩ := I.fr
  have hl : ([Value.ref a] ++ ([] : List Value)).length = ps.length := (F.len _ _ _ _ h)
  refine PySem.W.len_K hF I.ok.mod.kin J hs hf (wpAny_call (codeAny_mono (F.run X.A.in1 X.stack s H ⟨[.ref a], []⟩ [.ref a] [.ref a] _ _ hr.in1 I.env0.in1 (by have b := hb s [.ref a] I.kIn hl; rw [List.append_nil] at b; exact b) (.cons rfl .nil) h) fun r s' hq => ?_))
  cases r with
  | error e => exact passN pins σ H s e s' I hq
  | ok fl =>
    cases fl with
    | ret u =>
      obtain ⟨v, H', I3, rv, n, ev, n0, n1, q⟩ := I.after hq
      subst ev
      obtain ⟨t, rfl⟩ := rv
      exact ⟨⟨n0, n1⟩, .int n, H', I3.tok _, ⟨_, rfl⟩, q⟩
    | next => exact False.elim hq
    | brk => exact False.elim hq
    | cont => exact False.elim hq
end

section
variable {K : PySem.W.Frag} {T : Tb} {W : WX} {Z B H : Hp} {v : V} {ta te : TE} {ya yb : YP} {tr : TA} {yr : YA} {n : Nat}
theorem sp_glb {cn : String} {C : Addr} (hC : C = T cn) : SP K T W (tC (.ref C)) (yC (.glb cn)) := by
  subst hC
  exact fun c Z σ H ρ F Q X I hw q R k => k _ Z H (.val (.glb cn)) [] (.refl I.zh) ⟨rfl, .glb cn⟩ q
theorem sp_cmeth {S : DSp} {cn : String} {C : Addr} (hC : C = T cn) (hr : SA K T W n tr yr) : SP K T W (tCMethS C (spP K T S) (WE W) (tC (.ref C)) tr) (yCall S (aCons (yC (.glb cn)) yr)) := by
  subst hC
  exact fun c Z σ H ρ F Q X I hw q R k => ⟨rfl, hr c Z σ H ρ F _ X I hw q _ fun vs Z1 H1 rs G s1 h1 hl q1 => by
    have h2 : RvsG K T c H Z1 H1 F (V.ref (T cn) :: vs) (RV.val (.glb cn) :: rs) ([] ++ G) := .cons ⟨rfl, .glb cn⟩ h1 fun a ha => (by cases ha)
    exact call_core I s1 h2 (fun Z' H' cn fs od s ex x => hw Z' H' cn fs od s ex x) q1 k⟩
theorem sp_cmethN {S : DSp} {cn : String} {C : Addr} (hC : C = T cn) (hr : SA K T W n tr yr) : SP K T W (tCMethS C (spP K T S) (fun _ => E0) (tC (.ref C)) tr) (yCallN S (aCons (yC (.glb cn)) yr)) := by
  subst hC
  exact fun c Z σ H ρ F Q X I hw q R k => ⟨rfl, hr c Z σ H ρ F _ X I hw q _ fun vs Z1 H1 rs G s1 h1 hl q1 => by
    have h2 : RvsG K T c H Z1 H1 F (V.ref (T cn) :: vs) (RV.val (.glb cn) :: rs) ([] ++ G) := .cons ⟨rfl, .glb cn⟩ h1 fun a ha => (by cases ha)
    exact call_core (X := X0) I s1 h2 (fun Z' H' cn fs od s ex x => x.elim) (callN_x q1) k⟩
theorem sp_makeL {i : Nat} {dvs : List V} {dd : List D} {S : SpI} {cn : String} {C : Addr} {fr : Bool} (hC : C = T cn) (hd : ∀ Z B H, OwAll K T Z B H dvs dd []) (hr : SA K T W n tr yr) : SP K T W (tMakeL i C (spN K T cn S) dvs (WE W) tr) (yMakeL i cn fr dd S yr) := fun c Z σ H ρ F Q X I hw q R k => by
  obtain ⟨q0, q1⟩ := q
  refine ⟨?_, sp_make hC hd hr c Z σ H ρ F Q X I hw q1 R k⟩
  split at q0
  · rename_i m e
    obtain ⟨o, F1, Fi, F2, e1, e2, e3, _⟩ := I.sl.get e
    obtain ⟨h1, w, rfl, h2⟩ := e3
    cases h2
    rw [e1, hC, q0]
  · exact q0.elim
theorem sp_lenO {S : DSp} {cn : String} {C : Addr} (hC : C = T cn) (ha : SP K T W ta ya) : SP K T W (tCB (rLenO C (spP K T S)) (L2.tCons ta L2.tNil)) (yLenO cn S ya) := by
  subst hC
  exact fun c Z σ H ρ F Q X I hw q R k => ha c Z σ H ρ F _ X I hw q _ fun v1 Z1 H1 r1 G1 s1 h1 q1 => by
    have I1 := I.p s1
    obtain ⟨q2, q3⟩ := q1
    obtain ⟨G', o⟩ := h1.ow
    split at q2
    · rename_i e
      rw [e] at o
      obtain ⟨p, dx, fs, F', rfl, c1, c2, _⟩ := ow_obj o
      rw [q2] at c1
      refine ⟨p, dx, fs, rfl, cell_now I1.zh I1.bh c1, ?_⟩
      refine call_core (X := X0) (Q := fun x => match x with
        | .val (.int n) => (0 ≤ n ∧ n < 9223372036854775808) ∧ Q (.val (.int n))
        | _ => False) I s1 (.cons h1 .nil fun a _ h => by cases h) (fun Z' H' cn fs od s ex x => x.elim) ?_ ?_
      · refine callN_x ?_
        have : (fun r => if ([r1] : List RV).any isRd = true then nbor r.d = true ∧ (match r with
          | .val (.int n) => (0 ≤ n ∧ n < 9223372036854775808) ∧ Q (.val (.int n))
          | _ => False) else (match r with
          | .val (.int n) => (0 ≤ n ∧ n < 9223372036854775808) ∧ Q (.val (.int n))
          | _ => False)) = fun x : RV => (match x with
          | .val (.int n) => (0 ≤ n ∧ n < 9223372036854775808) ∧ Q (.val (.int n))
          | _ => False) := by
          funext r
          by_cases h : ([r1] : List RV).any isRd = true
          · rw [if_pos h]
            refine propext ⟨fun z => z.2, fun z => ⟨?_, z⟩⟩
            split at z
            · rfl
            · exact z.elim
          · rw [if_neg h]
        rw [this]
        exact q3
      · intro v Z' H' r G s hr q4
        split at q4
        · rename_i m
          obtain ⟨rfl, o2⟩ := hr
          have := o2.int_iff
          subst this
          exact ⟨m, rfl, q4.1.1, q4.1.2, k _ Z' H' (.val (.int m)) [] s ⟨rfl, .int m⟩ q4.2⟩
        · exact q4.elim
    · exact q2.elim
end
/-! ### defs with *args -/
section
variable {P : Program} {w : World} {K : PySem.W.Frag} {mg : Str → Option Value} {base : Heap} {T : Tb}
theorem owall_append : ∀ {ws : List V} {rest : List V} {ds : List D} {Z B H : Hp} {m : Nat}, OwAll K T Z B H (ws ++ rest) ds [] → ws.length = m → OwAll K T Z B H ws (ds.take m) [] ∧ OwAll K T Z B H rest (ds.drop m) []
  | [], rest, ds, Z, B, H, m, h, e => by
    subst e
    exact ⟨.nil, h⟩
  | w :: ws, rest, d :: ds, Z, B, H, m + 1, h, e => by
    generalize eF : ([] : List Addr) = F at h
    cases h with
    | @cons _ _ _ _ F1 F2 h1 h2 =>
      have e1 : F1 = [] := (List.append_eq_nil_iff.mp eF.symm).1
      have e2 : F2 = [] := (List.append_eq_nil_iff.mp eF.symm).2
      subst e1 e2
      obtain ⟨h3, h4⟩ := owall_append h2 (by simpa using e)
      exact ⟨.cons h1 h3, h4⟩
  | w :: ws, rest, [], Z, B, H, m, h, e => by cases h
  | w :: ws, rest, d :: ds, Z, B, H, 0, h, e => by cases e
theorem spP_star {S : DSp} {m : Nat} {vs : List V} {H : Hp} {Q : VK} {E : XK} (h : spP K T (starS m S) vs H Q E) :
    ∃ ws rest, vs = ws ++ rest ∧ ws.length = m ∧ rest.length ≤ sizeLine ∧ ∀ p, H p = Option.none → spP K T S (ws ++ [V.ref p]) (upd H p (.tup rest)) Q E := by
  obtain ⟨Z, B, ds, R, X, z, b, o, ⟨⟨h1, h2⟩, hs⟩, kr, kx⟩ := h
  have hl := o.length
  have lw : (vs.take m).length = m := by rw [List.length_take, hl]; omega
  refine ⟨vs.take m, vs.drop m, (List.take_append_drop m vs).symm, lw, by rw [List.length_drop, hl]; exact sz_of (by omega), fun p hp => ?_⟩
  obtain ⟨o1, o2⟩ := owall_append (ws := vs.take m) (rest := vs.drop m) (by rw [List.take_append_drop]; exact o) lw
  have s1 : PStep Z H (upd Z p (.tup (vs.drop m))) (upd H p (.tup (vs.drop m))) := PStep.newZ z hp
  have b1 : Same B (upd H p (.tup (vs.drop m))) := fun a u e => s1.hh a u (b a u e)
  refine ⟨upd Z p (.tup (vs.drop m)), B, ds.take m ++ [.tup (ds.drop m)], R, X, s1.zh, b1, ?_, hs, fun v Z' H' r G st hr nr q => ?_, fun cn fs od Z' H' st ex x => kx cn fs od Z' H' (s1.trans st) ex x⟩
  · refine AtAll.append (o1.still s1.zz (Same.refl _)) (.cons (.tup upd_same (o2.still s1.zz (Same.refl _))) .nil)
  · exact kr v Z' H' r G (s1.trans st) (hr.from s1.hh) nr q
/-- what a def's body comes to -/
theorem body_core {x qual : Str} {st : Stmt} {f : Addr} {N : List Str} {k m n : Nat} {body : YS} {S : DSp} (hS : ∀ ds R X, S ds R X → defP m n body ds R X) (hn : N.length = m + n)
    (bd : ∀ (cdv : Value) (A : Around) (outer : List Env) (s : Shared) (H : Hp) (E : XK), Room k (A.deeper (envOfC qual (defScope st) s.heap.objs.size f cdv)) →
      ∃ t, PSs (cxOf (L2N.CX P w) P w K mg base N qual (defScope st) f cdv A outer s H E) (defBody st) t ∧ SS K T (WD E) t body)
    (cdv : Value) (A : Around) (outer : List Env) (s : Shared) (H : Hp) (vs : List V) (Q : VK) (E : XK) (hr : Room k (A.deeper (envOfC qual (defScope st) s.heap.objs.size f cdv))) (h : spP K T S vs H Q E) :
    ∃ t, PSs (cxOf (L2N.CX P w) P w K mg base N qual (defScope st) f cdv A outer s H E) (defBody st) t ∧ t { nx := fun _ H' => Q .non H', rt := Q } (L2.start N vs) H := by
  obtain ⟨t, ht, sd⟩ := bd cdv A outer s H E hr
  obtain ⟨Z, B, ds, R, X, z, b, o, hs, kr, kx⟩ := h
  have hs := hS _ _ _ hs
  have I : EnvOk K T ⟨B, [], H, Z⟩ Z H (L2.start N vs) (ds.map Y.S.val ++ List.replicate n .no) [] := by
    refine ⟨z, b, fun a u e _ => e, fun a e => e, ?_, fun a ha => (by cases ha), List.nodup_nil, fun a e => .inl e⟩
    unfold L2.start
    have : N.length - vs.length = n := by rw [o.length, hs.1]; omega
    rw [this]
    exact slots_val (c := ⟨B, [], H, Z⟩) n o
  have st' : ∀ {Z' H' σ' ρ' F'}, Same Z Z' → EnvOk K T ⟨B, [], H, Z⟩ Z' H' σ' ρ' F' → PStep Z H Z' H' := fun {Z' H' σ' ρ' F'} zz J => ⟨zz, fun a u e => J.sm a u e (by simp), fun a e => (J.zn a e).elim .inl fun h => h.elim .inr fun h => (by cases h), J.zh⟩
  refine ⟨t, ht, sd ⟨B, [], H, Z⟩ Z _ H _ [] _ I (fun Z' σ' H' ρ' F' cn fs od zz J ex x => kx cn fs od Z' H' (st' zz J) ex x) hs.2.go _ ⟨fun Z' σ' H' ρ' F' zz J q => ?_, fun v Z' σ' H' ρ' F' r zz J hr nr q => ?_, fun _ _ _ _ _ _ _ z => z.elim, fun _ _ _ _ _ _ _ z => z.elim⟩⟩
  · exact kr .non Z' H' (.val .non) [] (st' zz J) ⟨rfl, .non⟩ rfl q
  · cases r with
    | val d => exact kr v Z' H' (.val d) [] (st' zz J) ⟨rfl, hr⟩ rfl q
    | tmp d =>
      obtain ⟨G, h1, h2, h3⟩ := hr
      exact kr v Z' H' (.tmp d) G (st' zz J) ⟨h1, h2, fun a ha => ⟨(h3 a ha).2.2.2.elim id fun h => (by cases h), (h3 a ha).2.1⟩⟩ rfl q
    | rd d => cases nr
theorem ub_up {l : List Addr} {H H2 H' : Hp} {h h2 B g : Heap} (un : Un l [] H H2 h h2) (kp : ∀ b o, h.get? b = some o → h2.get? b = some o) (ub : UB l H2 H' h2 B g) : UB l H H' h B g := by
  constructor
  · intro b o q n hb
    exact ub.keep b o (kp b o q) (un.free b o q n (by simp)) hb
  · intro b o q hb
    exact ub.slot b o (kp b o q) hb
  · intro b o q n
    have n2 := un.free b o q n (by simp)
    exact ub.free b o (kp b o q) n2
  · intro b o q hb
    exact ub.there b o (kp b o q) hb
  · intro b xs q
    have q2 := un.tups b xs q
    exact ub.tups b xs q2
  · intro b o xs q
    have q2 := un.frzs b o xs q
    exact ub.frzs b o xs q2
  · intro b ps q
    have ⟨m1, e1⟩ := un.tbls b ps q
    have ⟨m2, e2⟩ := ub.tbls b _ e1
    refine ⟨m1 ++ m2, ?_⟩
    rw [e2, Array.append_assoc]
theorem cxUpN {P : Program} {w : World} : StX.CXUp (L2N.CX P w) := by
  intro outer s H s2 H2 E e s' un kp ho z
  obtain ⟨a, B, H', cls, d, ea, fl, hok, ub, na, os, ag, he⟩ := z
  exact ⟨a, B, H', cls, d, ea, fl, hok, ub_up un kp ub, na, os.trans ho, ag, he⟩
/-- def f(a, .., *v) -/
theorem fn_PS {x qual pv : Str} {st : Stmt} {f : Addr} {fd : FuncData} {N ps : List Str} {k m n : Nat} {body : YS} {S : DSp} (F : Fun K x qual st f fd) (Sc : FnScope N (ps ++ [pv]) (defScope st)) (hm : ps.length = m) (hn : N.length = m + 1 + n)
    (hb : ∀ (kV doc pm : Value) (an : Option Addr) (cdv ct : Value) (us rest : List Value), us.length = ps.length → bindArgs (PySem.W.fnOf x qual (defArgs st) (defBody st) (defScope st) .none kV doc pm an cdv ct) ⟨us ++ rest, []⟩ = (newTuple rest >>= fun t => pure (ps.zip us ++ [(pv, t)])))
    (hS : ∀ ds R X, S ds R X → defP (m + 1) n body ds R X)
    (bd : ∀ (cdv : Value) (A : Around) (outer : List Env) (s : Shared) (H : Hp) (E : XK), Room k (A.deeper (envOfC qual (defScope st) s.heap.objs.size f cdv)) →
      ∃ t, PSs (cxOf (L2N.CX P w) P w K mg base N qual (defScope st) f cdv A outer s H E) (defBody st) t ∧ SS K T (WD E) t body) :
    FnR P w K mg base (L2N.CX P w) (k + 1) f (spP K T (starS m S)) := by
  obtain ⟨oc, od, kV, doc, pm, an, cdv, ct, osl, rfl, lk, hcd⟩ := F.ex
  subst hm
  refine FnR.imp (StX.fn_star (sp := spP K T S) lk hcd Sc cxUpN (hb kV doc pm an cdv ct) fun A outer s H vs Q E hr hsp => ?_) fun vs H Q E h => spP_star h
  exact body_core (x := x) hS hn bd cdv A outer s H vs Q E hr hsp
theorem FnOk.rawP {k : Nat} {f : Addr} {fd : FuncData} {ps : List Str} {sp : Sp} (F : FnOk P w K mg base (L2N.CX P w) k f fd ps sp) (hb : Binds K fd ps []) : FnR P w K mg base (L2N.CX P w) k f sp :=
  FnR.imp (L2.FnOk.raw F hb .nil) fun vs H Q E h => by
    show sp (vs ++ []) H Q E
    rw [List.append_nil]
    exact h
end
section
variable (P : Program) (w : World) (K : PySem.W.Frag) (mg : Str → Option Value) (base : Heap)
/-- a classmethod -/
structure CalC (CX : CXT) (k : Nat) (C : Addr) (m : Str) (sp : Sp) (p f : Addr) : Prop where
  G : FnR P w K mg base CX k f sp
  rd : ClX.CRead K C (.type "type")
  cm : ClX.CMet K C (.type "type") m p f
/-- a def with *args -/
structure CalR (CX : CXT) (k : Nat) (x : Str) (sp : Sp) (f : Addr) : Prop where
  G : FnR P w K mg base CX k f sp
  mg : mg x = some (.ref f)
  kp : PySem.W.keepIn K (.ref f) = true
/-- a class that is called, the last arguments left out -/
structure CalKD (CX : CXT) (k : Nat) (x : Str) (C : Addr) (ps : List Str) (sp : Sp) (vs : List V) (ds : List Value) (f : Addr) (fd : FuncData) : Prop where
  G : FnOk P w K mg base CX k f fd ps sp
  M : Mk K C f
  mg : mg x = some (.ref C)
  b : Binds K fd ps ds
  v : Vals vs ds
/-- a method with *args -/
structure CalMR (CX : CXT) (k : Nat) (C : Addr) (m : Str) (sp : Sp) (f : Addr) : Prop where
  G : FnR P w K mg base CX k f sp
  me : Meth K C m f
  cl : Cls K C
end
end Y

/-! YQ: classes without __init__, methods of one of several classes, xs[::-1]. -/
namespace Y
open PySem PySem.Spec PyProof.Rows L2
section
variable {X : Cx} {C : Addr} {x : Str} {p pos : Pos} {e : Expr} {t1 t2 : TE} {pins : List (Addr × Obj)} {σ : L2.St} {H : Hp} {s : Shared} {Q : VK}
/-- a class without __init__ -/
structure Mk0 (K : PySem.W.Frag) (C : Addr) : Prop where
  makes : PySem.W.makesIn K C = true
  init : PySem.W.findIn K (.ref C) "__init__" = some (some (.builtin "object.__init__"))
  top : PySem.W.mroIn K C (.type "object") = some true
  kp : PySem.W.keepIn K (.ref C) = true
def tMake0 (C : Addr) : TE := fun σ H Q => ∀ x dx, H x = none → H dx = none → dx ≠ x → Q (.ref x) (upd (upd H dx (.own x)) x (.ins C dx []))
theorem run_make00 (M : Mk0 X.K C) (I : Inv X pins σ H s) (h : ∀ x dx, H x = none → H dx = none → dx ≠ x → Q (.ref x) (upd (upd H dx (.own x)) x (.ins C dx []))) : wpAny (model X.prog X.w) X.A (call (.ref C) []) (EP X pins σ Q) X.xe s := by
  have hq := h _ _ (I.hok.fresh (Nat.le_succ s.heap.objs.size)) (I.hok.fresh (Nat.le_refl s.heap.objs.size)) (Nat.ne_of_lt (Nat.lt_succ_self _))
  have I2 := Inv.made (C := C) I
  refine wpAny_call (make_map0 I.kIn M.makes M.init (fun self => PySem.W.Looks.of_pure (PySem.W.oi_bind self)) ?_)
  have e2 : ((s.heap.push PySem.W.emptyDict).push (PySem.W.instObj C s.heap.objs.size)).get? (s.heap.objs.size + 1) = some (PySem.W.instObj C s.heap.objs.size) := by
    have := Heap.get?_push_size (s.heap.push PySem.W.emptyDict) (o := PySem.W.instObj C s.heap.objs.size) rfl
    rwa [Heap.size_push] at this
  have t1 : PySem.W.Looks (model X.prog X.w) ((s.heap.push PySem.W.emptyDict).push (PySem.W.instObj C s.heap.objs.size)) (typeOf (.ref (s.heap.objs.size + 1))) (.ref C) := (PySem.W.Looks.ld e2).andThen .now
  have t2 : PySem.W.Looks (model X.prog X.w) ((s.heap.push PySem.W.emptyDict).push (PySem.W.instObj C s.heap.objs.size)) (isInstance (.ref (s.heap.objs.size + 1)) (.type "object")) true := t1.andThen (PySem.W.looks_mroIn I2.kIn M.top)
  refine codeAny_call_builtin PySem.W.oi_plain PySem.W.entry_oi (@PySem.W.check_slot (model X.prog X.w) _ _ _ "object.__init__" "object" "__init__" (.ref (s.heap.objs.size + 1)) [] [] _ PySem.W.oi_kind PySem.W.oi_split t2 (PySem.W.oi_args (.ref (s.heap.objs.size + 1))) ?_)
  rw [PySem.W.oi_run]
  exact wpAny_pure (And.intro rfl ⟨.ref (s.heap.objs.size + 1), _, I2, rfl, hq⟩)
theorem pe_make00 (M : Mk0 X.K C) (hg : Gl X x) (hm : X.mg x = some (.ref C)) (hdb : (x == ("__debug__" : Str)) = false := by decide) : PE X (.Call (.Name x p) [] [] pos) (tMake0 C) := by
  refine ⟨fun pins s σ H Q I h => ?_⟩
  refine wpAny_Call_Name_kw (ld_glob I hg hm ?_ hdb)
  exact PySem.W.callWith_K0 I.kIn M.kp (run_make00 M I h)
def tOrE (t1 t2 : TE) : TE := fun σ H Q => t1 σ H Q ∨ t2 σ H Q
theorem pe_or (h1 : PE X e t1) (h2 : PE X e t2) : PE X e (tOrE t1 t2) := ⟨fun pins s σ H Q I h => h.elim (h1.run pins s σ H Q I) (h2.run pins s σ H Q I)⟩
end
section
variable {K : PySem.W.Frag} {T : Tb} {W : WX} {ta tb : TE} {ya yb : YP}
theorem sp_make0 {cn : String} {C : Addr} {fr : Bool} (hC : C = T cn) (g : Gd K T cn []) : SP K T W (tMake0 C) (yMake0 cn fr) := by
  subst hC
  exact fun c Z σ H ρ F Q X I hw q R k => fun x dx nx nd ne => by
    have s1 : PStep Z H Z (upd H dx (.own x)) := PStep.newH I.zh nd
    have nx' : upd H dx (.own x) x = none := by rw [upd_ne (Ne.symm ne)]; exact nx
    have s2 := s1.trans (PStep.newH (o := .ins (T cn) dx []) s1.zh nx')
    have o : Ow K T Z c.B (upd (upd H dx (.own x)) x (.ins (T cn) dx [])) (.ref x) (.obj .own cn [] []) [x] := .obj (m := .own) (F := []) upd_same rfl .nil rfl g
    have hf : ∀ a ∈ [x], H a = none ∧ Z a = none := fun a ha => by
      cases List.mem_singleton.mp ha
      exact ⟨nx, same_none I.zh nx⟩
    cases fr with
    | true => exact k _ _ _ (.val (fz (.obj .own cn [] []))) [] (frz_step s2 hf) ⟨rfl, Ow.frz (frz_same fun a ha => (hf a ha).2) _ _ _ (fun a ha => frz_at a ha) o⟩ q
    | false => exact k _ Z _ (.tmp (.obj .own cn [] [])) [x] s2 ⟨o, by simp, hf⟩ q
theorem sp_alt {p : List Y.S → Bool} (ha : SP K T W ta ya) (hb : SP K T W tb yb) : SP K T W (tOrE ta tb) (yAlt p ya yb) := fun c Z σ H ρ F Q X I hw q R k => by
  unfold yAlt at q
  by_cases h : p ρ = true
  · rw [if_pos h] at q
    exact .inl (ha c Z σ H ρ F Q X I hw q R k)
  · rw [if_neg h] at q
    exact .inr (hb c Z σ H ρ F Q X I hw q R k)
theorem owall_reverse : ∀ {xs : List V} {ds : List D} {Z B H : Hp}, OwAll K T Z B H xs ds [] → OwAll K T Z B H xs.reverse ds.reverse []
  | [], ds, Z, B, H, h => by
    cases h
    exact .nil
  | x :: xs, [], Z, B, H, h => by cases h
  | x :: xs, d :: ds, Z, B, H, h => by
    generalize eF : ([] : List Addr) = F at h
    cases h with
    | @cons _ _ _ _ F1 F2 h1 h2 =>
      have e1 : F1 = [] := (List.append_eq_nil_iff.mp eF.symm).1
      have e2 : F2 = [] := (List.append_eq_nil_iff.mp eF.symm).2
      subst e1 e2
      rw [List.reverse_cons, List.reverse_cons]
      exact AtAll.append (owall_reverse h2) (.cons h1 .nil)
theorem sp_revL (ha : SP K T W ta ya) : SP K T W (tRevL K ta) (yRev ya) := fun c Z σ H ρ F Q X I hw q R k => ha c Z σ H ρ F _ X I hw q _ fun v1 Z1 H1 r1 G1 s1 h1 q1 => by
  split at q1
  · rename_i m es e
    obtain ⟨ds, p, xs, q2, rfl, e2, o⟩ := els_ok h1 s1.zh (I.p s1).bh q1
    have s2 := frz_step s1 h1.free
    have a1 := lst_now h1 s1.zh (I.p s1).bh e2 (by rw [e]; rfl)
    exact ⟨p, xs, rfl, SqL.of a1, fun l hl => new_lst s2 (owall_reverse o) hl q2 k⟩
  · exact q1.elim
end
end Y

/-! YR: operators of own classes. -/
namespace Y
open PySem PySem.Spec PyProof.Rows L2
section
open PySem.W
variable {prog : Program} {w : World} {A : Around} {E : Value → Shared → Prop} {s : Shared} {K : Frag} {x C L f : Addr} {h₀ : Heap} {m : Str → Option Value} {ox : Obj} {od : Option Obj}
/-- an own object op an int -/
theorem binop1_int {nm : String} {i : Int} {tk : Tok} {rr : Value} {Q : Option Value → Shared → Prop} (F : Fr h₀ L s.heap m) (X₀ : K.In h₀) (I : InstAt s.heap x ox C od) (hc : selfFirst K C = true) (hs : findIn K (.ref C) (PySem.dunder nm) = some (some (.ref f))) (hr : findIn K (.ref C) (dunderR nm) = some none)
    (hsub : subIn K (.type "int") (.ref C) = some false) (hfi : fillsNumberSlot (.type "int") nm = pure true) (hti : PySem.typeLookup (.type "int") (dunderR nm) = pure (some rr)) (hf : isFn K (.ref f) = true)
    (h : wpAny (model prog w) A (call (.ref f) [.ref x, .int i tk]) (PySem.W.CmpBack fun v => Q (some v)) E s) : wpAny (model prog w) A (binaryOp1 nm (.ref x) (.int i tk)) Q E s := by
  have X := X₀.keeps F.keep
  obtain ⟨cd, hcd, hm⟩ := any_some hc
  obtain ⟨rest, hm⟩ : ∃ rest, cd.mro = .ref C :: rest := by
    cases q : cd.mro with
    | nil => rw [q] at hm; cases hm
    | cons a r => rw [q] at hm; exact ⟨r, by rw [List.head?_cons] at hm; cases (beq_iff_eq.mp hm); rfl⟩
  have ne : (Value.ref C == Value.type "int") = false := by simp
  have hnp : Looks (model prog w) s.heap (numberSlotInPython (.ref C) nm) true := by
    intro A' Q' E' s' k q
    unfold numberSlotInPython
    refine wpAny_bind (looks_findIn X hs A' _ E' s' k ?_)
    refine wpAny_bind (wpAny_pure (wpAny_bind (looks_findIn X hr A' _ E' s' k (wpAny_bind (wpAny_pure ?_)))))
    exact wpAny_pure q
  have hni : numberSlotInPython (.type "int") nm = pure false := rfl
  unfold binaryOp1
  refine wpAny_bind (I.type.here (wpAny_bind (wpAny_of_eq (show typeOf (.int i tk) = pure (.type "int") from rfl) (wpAny_bind ((fills_K X hcd hm hs).here ?_)))))
  simp only [ne, Bool.false_eq_true, if_false]
  refine wpAny_bind (wpAny_of_eq hfi ?_)
  simp only [Bool.and_true, Bool.true_and, if_true]
  refine wpAny_bind ((looks_subIn X hsub).here ?_)
  simp only [Bool.false_eq_true, if_false, Bool.not_false, if_true]
  refine wpAny_bind (hnp.here ?_)
  simp only [if_true]
  refine wpAny_bind (wpAny_of_eq hni ?_)
  simp only [Bool.not_false, if_true]
  refine wpAny_bind (wpAny_of_eq hti ?_)
  refine wpAny_bind (m := tryMethod (.ref x) _ _) ?_
  unfold tryMethod
  refine wpAny_bind (special_fn X I hs (beq_iff_eq.mp hf) (wpAny_mono h (fun v s' hv => ?_) fun _ _ e => e))
  cases v <;> first | exact hv.elim | exact wpAny_pure (wpAny_pure hv)
theorem binop_int {op : Operator} {i : Int} {tk : Tok} {rr : Value} {Q : Value → Shared → Prop} (F : Fr h₀ L s.heap m) (X₀ : K.In h₀) (I : InstAt s.heap x ox C od) (hc : selfFirst K C = true) (hs : findIn K (.ref C) (PySem.dunder op.info.2) = some (some (.ref f))) (hr : findIn K (.ref C) (dunderR op.info.2) = some none)
    (hsub : subIn K (.type "int") (.ref C) = some false) (hfi : fillsNumberSlot (.type "int") op.info.2 = pure true) (hti : PySem.typeLookup (.type "int") (dunderR op.info.2) = pure (some rr)) (hf : isFn K (.ref f) = true)
    (h : wpAny (model prog w) A (call (.ref f) [.ref x, .int i tk]) (PySem.W.CmpBack Q) E s) : wpAny (model prog w) A (binaryOp op (.ref x) (.int i tk)) Q E s := by
  unfold binaryOp
  refine wpAny_holding (wpAny_bind (binop1_int F X₀ I hc hs hr hsub hfi hti hf (wpAny_mono h (fun v s' hv => ?_) fun _ _ e => e)))
  cases v <;> first | exact hv.elim | exact wpAny_pure hv
/-- an own object op an object of another own class that has the operator, too -/
theorem binop1_oth {nm : String} {y C2 f2 : Addr} {oy : Obj} {od2 : Option Obj} {Q : Option Value → Shared → Prop} (F : Fr h₀ L s.heap m) (X₀ : K.In h₀) (I : InstAt s.heap x ox C od) (I2 : InstAt s.heap y oy C2 od2) (hc : selfFirst K C = true) (hc2 : selfFirst K C2 = true) (hne : C2 ≠ C)
    (hs : findIn K (.ref C) (PySem.dunder nm) = some (some (.ref f))) (hr : findIn K (.ref C) (dunderR nm) = some none) (hs2 : findIn K (.ref C2) (PySem.dunder nm) = some (some (.ref f2))) (hr2 : findIn K (.ref C2) (dunderR nm) = some none)
    (hsub : subIn K (.ref C2) (.ref C) = some false) (hf : isFn K (.ref f) = true)
    (h : wpAny (model prog w) A (call (.ref f) [.ref x, .ref y]) (PySem.W.CmpBack fun v => Q (some v)) E s) : wpAny (model prog w) A (binaryOp1 nm (.ref x) (.ref y)) Q E s := by
  have X := X₀.keeps F.keep
  obtain ⟨cd, hcd, hm⟩ := any_some hc
  obtain ⟨rest, hm⟩ : ∃ rest, cd.mro = .ref C :: rest := by
    cases q : cd.mro with
    | nil => rw [q] at hm; cases hm
    | cons a r => rw [q] at hm; exact ⟨r, by rw [List.head?_cons] at hm; cases (beq_iff_eq.mp hm); rfl⟩
  obtain ⟨cd2, hcd2, hm2⟩ := any_some hc2
  obtain ⟨rest2, hm2⟩ : ∃ rest2, cd2.mro = .ref C2 :: rest2 := by
    cases q : cd2.mro with
    | nil => rw [q] at hm2; cases hm2
    | cons a r => rw [q] at hm2; exact ⟨r, by rw [List.head?_cons] at hm2; cases (beq_iff_eq.mp hm2); rfl⟩
  have ne : (Value.ref C == Value.ref C2) = false := by
    rw [beq_eq_false_iff_ne]
    intro e
    cases e
    exact hne rfl
  have hnp : ∀ {D g : Addr}, findIn K (.ref D) (PySem.dunder nm) = some (some (.ref g)) → findIn K (.ref D) (dunderR nm) = some none → Looks (model prog w) s.heap (numberSlotInPython (.ref D) nm) true := by
    intro D g h1 h2 A' Q' E' s' k q
    unfold numberSlotInPython
    refine wpAny_bind (looks_findIn X h1 A' _ E' s' k ?_)
    refine wpAny_bind (wpAny_pure (wpAny_bind (looks_findIn X h2 A' _ E' s' k (wpAny_bind (wpAny_pure ?_)))))
    exact wpAny_pure q
  unfold binaryOp1
  refine wpAny_bind (I.type.here (wpAny_bind (I2.type.here (wpAny_bind ((fills_K X hcd hm hs).here ?_)))))
  simp only [ne, Bool.false_eq_true, if_false]
  refine wpAny_bind ((fills_K X hcd2 hm2 hs2).here ?_)
  simp only [Bool.and_true, Bool.true_and, if_true]
  refine wpAny_bind ((looks_subIn X hsub).here ?_)
  simp only [Bool.false_eq_true, if_false, Bool.not_false, if_true]
  refine wpAny_bind ((hnp hs hr).here ?_)
  simp only [if_true]
  refine wpAny_bind ((hnp hs2 hr2).here ?_)
  simp only [Bool.not_true, Bool.false_eq_true, if_false]
  refine wpAny_bind (m := tryMethod (.ref x) _ _) ?_
  unfold tryMethod
  refine wpAny_bind (special_fn X I hs (beq_iff_eq.mp hf) (wpAny_mono h (fun v s' hv => ?_) fun _ _ e => e))
  cases v <;> first | exact hv.elim | exact wpAny_pure (wpAny_pure hv)
theorem binop_oth {op : Operator} {y C2 f2 : Addr} {oy : Obj} {od2 : Option Obj} {Q : Value → Shared → Prop} (F : Fr h₀ L s.heap m) (X₀ : K.In h₀) (I : InstAt s.heap x ox C od) (I2 : InstAt s.heap y oy C2 od2) (hc : selfFirst K C = true) (hc2 : selfFirst K C2 = true) (hne : C2 ≠ C)
    (hs : findIn K (.ref C) (PySem.dunder op.info.2) = some (some (.ref f))) (hr : findIn K (.ref C) (dunderR op.info.2) = some none) (hs2 : findIn K (.ref C2) (PySem.dunder op.info.2) = some (some (.ref f2))) (hr2 : findIn K (.ref C2) (dunderR op.info.2) = some none)
    (hsub : subIn K (.ref C2) (.ref C) = some false) (hf : isFn K (.ref f) = true)
    (h : wpAny (model prog w) A (call (.ref f) [.ref x, .ref y]) (PySem.W.CmpBack Q) E s) : wpAny (model prog w) A (binaryOp op (.ref x) (.ref y)) Q E s := by
  unfold binaryOp
  refine wpAny_holding (wpAny_bind (binop1_oth F X₀ I I2 hc hc2 hne hs hr hs2 hr2 hsub hf (wpAny_mono h (fun v s' hv => ?_) fun _ _ e => e)))
  cases v <;> first | exact hv.elim | exact wpAny_pure hv
/-- -a, ~a -/
theorem unop_own {op : UnaryOp} {nm : Str} {Q : Value → Shared → Prop} (hop : (op = .USub ∧ nm = "__neg__") ∨ (op = .Invert ∧ nm = "__invert__")) (F : Fr h₀ L s.heap m) (X₀ : K.In h₀) (I : InstAt s.heap x ox C od) (hs : findIn K (.ref C) nm = some (some (.ref f))) (hf : isFn K (.ref f) = true)
    (h : wpAny (model prog w) A (call (.ref f) [.ref x]) Q E s) : wpAny (model prog w) A (unaryOp op (.ref x)) Q E s := by
  have X := X₀.keeps F.keep
  have key : wpAny (model prog w) A (callSpecial? (.ref x) nm []) (fun o s' => ∃ v, o = some v ∧ Q v s') E s := special_fn X I hs (beq_iff_eq.mp hf) (wpAny_mono h (fun v s' hv => ⟨v, rfl, hv⟩) fun _ _ e => e)
  unfold unaryOp
  refine wpAny_holding ?_
  rcases hop with ⟨rfl, rfl⟩ | ⟨rfl, rfl⟩
  all_goals
    refine wpAny_bind (wpAny_mono key (fun o s' ⟨v, e, q⟩ => ?_) fun _ _ e => e)
    subst e
    exact wpAny_pure q
end
/-- what stands behind a binary operator of an own class -/
structure BinDef (K : PySem.W.Frag) (C : Addr) (m : Str) (f : Addr) : Prop where
  find : PySem.W.findIn K (.ref C) m = some (some (.ref f))
  fn : PySem.W.isFn K (.ref f) = true
  first : PySem.W.selfFirst K C = true
/-- .. with an int at its right -/
structure BinInt (K : PySem.W.Frag) (C : Addr) (op : Operator) : Prop where
  no : PySem.W.findIn K (.ref C) (dunderR op.info.2) = some none
  sub : PySem.W.subIn K (.type "int") (.ref C) = some false
  fill : fillsNumberSlot (.type "int") op.info.2 = pure true
  look : ∃ rr, PySem.typeLookup (.type "int") (dunderR op.info.2) = pure (some rr)
theorem int_add : fillsNumberSlot (.type "int") (Operator.info .Add).2 = pure true ∧ ∃ rr, PySem.typeLookup (.type "int") (dunderR (Operator.info .Add).2) = pure (some rr) :=
  ⟨by kernel_rfl, .builtin "int.__radd__", by rw [typeLookup_type, builtinLookup_eq_fast]; kernel_rfl⟩
theorem int_sub : fillsNumberSlot (.type "int") (Operator.info .Sub).2 = pure true ∧ ∃ rr, PySem.typeLookup (.type "int") (dunderR (Operator.info .Sub).2) = pure (some rr) :=
  ⟨by kernel_rfl, .builtin "int.__rsub__", by rw [typeLookup_type, builtinLookup_eq_fast]; kernel_rfl⟩
/-- .. with an object of another own class at its right -/
structure BinOth (K : PySem.W.Frag) (C C2 : Addr) (op : Operator) : Prop where
  ne : C2 ≠ C
  first : PySem.W.selfFirst K C2 = true
  no : PySem.W.findIn K (.ref C) (dunderR op.info.2) = some none
  find : ∃ f2, PySem.W.findIn K (.ref C2) (PySem.dunder op.info.2) = some (some (.ref f2))
  no2 : PySem.W.findIn K (.ref C2) (dunderR op.info.2) = some none
  sub : PySem.W.subIn K (.ref C2) (.ref C) = some false
/-- what stands at the right: an int, an object of the class at C2 -/
inductive Rt | int | obj (C2 : Addr)
def Rt.ok : Rt → V → Hp → Prop
  | .int, y, _ => ∃ i, y = .int i
  | .obj C2, y, H => ∃ b dy gs, y = .ref b ∧ H b = some (.ins C2 dy gs)
/-- a op b, a of the class C -/
def tBinS (C : Addr) (rt : Rt) (sp : Sp) (E : L2.St → XK) (ta tb : TE) : TE := fun σ H Q => ta σ H fun x H1 => tb σ H1 fun y H2 => ∃ a dx fs, x = .ref a ∧ H2 a = some (.ins C dx fs) ∧ rt.ok y H2 ∧ sp [x, y] H2 Q (E σ)
/-- what the right side needs -/
def Rt.side (K : PySem.W.Frag) (C : Addr) (op : Operator) : Rt → Prop
  | .int => BinInt K C op
  | .obj C2 => C2 = C ∨ BinOth K C C2 op
section
variable {X : Cx} {CX : CXT} {k : Nat} {f C : Addr} {fd : FuncData} {ps : List Str} {sp : Sp} {E : L2.St → XK} {op : Operator} {pos : Pos} {a b : Expr} {ta tb : TE}
theorem relV_back {Q : VK} {pins : List (Addr × Obj)} {σ : L2.St} {v : Value} {s : Shared} (h : EP X pins σ Q v s) : PySem.W.CmpBack (EP X pins σ Q) v s := by
  cases v with
  | notImplemented =>
    obtain ⟨u, H', I, r, q⟩ := h
    cases u <;> first | (cases r; done) | (obtain ⟨_, r⟩ := r; cases r)
  | _ => exact h
theorem pe_binS {rt : Rt} (F : FnOk X.prog X.w X.K X.mg X.base CX k f fd ps sp) (hr : Room k X.A) (hb : Binds X.K fd ps []) (hx : ∀ σ, PassesAt CX X σ (E σ)) (B : BinDef X.K C (PySem.dunder op.info.2) f) (S : rt.side X.K C op) (ha : PE X a ta) (hb' : PE X b tb) :
    PE X (.BinOp a op b pos) (tBinS C rt sp E ta tb) := by
  refine ⟨fun pins s σ H Q I h => wpAny_BinOp (binT ha hb' I h fun v u s2 x y H2 I2 rx ry q => ?_)⟩
  obtain ⟨p, dx, fs, rfl, hp, hy, q⟩ := q
  cases rx
  obtain ⟨mA, J, _⟩ := ins_get I2.hok hp
  obtain ⟨od, J, _⟩ := J.look
  obtain ⟨m, hF⟩ := I2.fr
  cases rt with
  | int =>
    obtain ⟨i, rfl⟩ := hy
    obtain ⟨tk, rfl⟩ := ry
    have B2 : BinInt X.K C op := S
    obtain ⟨rr, hl⟩ := B2.look
    exact binop_int (op := op) hF I2.ok.mod.kin J B.first B.find B2.no B2.sub B2.fill hl B.fn (wpAny_mono (run_fnSD (us := [.ref p, .int i tk]) (vs := [.ref p, .int i]) F hr hb .nil (hx σ) I2 (.cons rfl (.cons ⟨_, rfl⟩ .nil)) q) (fun _ _ h => relV_back h) fun _ _ e => e)
  | obj C2 =>
    obtain ⟨b', dy, gs, rfl, hb2⟩ := hy
    cases ry
    obtain ⟨mB, J', _⟩ := ins_get I2.hok hb2
    obtain ⟨od', J', _⟩ := J'.look
    have run := wpAny_mono (run_fnSD (us := [.ref p, .ref b']) (vs := [.ref p, .ref b']) F hr hb .nil (hx σ) I2 (.cons rfl (.cons rfl .nil)) q) (fun _ _ h => relV_back h) fun _ _ e => e
    rcases S with rfl | B2
    · exact PySem.W.binop_K (op := op) hF I2.ok.mod.kin J J'.type B.first B.find B.fn run
    · obtain ⟨f2, h2⟩ := B2.find
      exact binop_oth (op := op) hF I2.ok.mod.kin J J' B.first B2.first B2.ne B.find B2.no h2 B2.no2 B2.sub B.fn run
/-- -a, ~a -/
def tUnS (C : Addr) (sp : Sp) (E : L2.St → XK) (ta : TE) : TE := fun σ H Q => ta σ H fun x H1 => ∃ a dx fs, x = .ref a ∧ H1 a = some (.ins C dx fs) ∧ sp [x] H1 Q (E σ)
theorem pe_unS {uop : UnaryOp} {nm : Str} (hop : (uop = .USub ∧ nm = "__neg__") ∨ (uop = .Invert ∧ nm = "__invert__")) (F : FnOk X.prog X.w X.K X.mg X.base CX k f fd ps sp) (hr : Room k X.A) (hb : Binds X.K fd ps []) (hx : ∀ σ, PassesAt CX X σ (E σ)) (hs : PySem.W.findIn X.K (.ref C) nm = some (some (.ref f))) (hf : PySem.W.isFn X.K (.ref f) = true) (ha : PE X a ta) :
    PE X (.UnaryOp uop a pos) (tUnS C sp E ta) := by
  refine ⟨fun pins s σ H Q I h => UnaryOp_ (thn (ha.run pins s σ H _ I h) fun v s1 ⟨x, H1, I1, r1, q1⟩ => ?_)⟩
  obtain ⟨p, dx, fs, rfl, hp, q⟩ := q1
  cases r1
  obtain ⟨mA, J, _⟩ := ins_get I1.hok hp
  obtain ⟨od, J, _⟩ := J.look
  obtain ⟨m, hF⟩ := I1.fr
  exact unop_own hop hF I1.ok.mod.kin J hs hf (run_fnSD (us := [.ref p]) (vs := [.ref p]) F hr hb .nil (hx σ) I1 (.cons rfl .nil) q)
/-- x op y, both instances of the class at C, the answer True or False -/
def rCmpO (C : Addr) (sp : Sp) (E : XK) : R2 := fun x y H Q => ∃ a b dx dy fs gs, x = .ref a ∧ y = .ref b ∧ H a = some (.ins C dx fs) ∧ H b = some (.ins C dy gs) ∧ sp [x, y] H (fun v H' => ∃ k, v = .bl k ∧ Q (.bl k) H') E
theorem rich_cmpO {n : Nat} {cop : CmpOp} {E0 : XK} (F : FnOk X.prog X.w X.K X.mg X.base CX n f fd ps sp) (hr : Room n X.A) (hb : Binds X.K fd ps []) (hx : Passes CX X E0) (h1 : PySem.W.findIn X.K (.ref C) (cmpInfo cop).2.1 = some (some (.ref f))) (h2 : PySem.W.isFn X.K (.ref f) = true)
    (pins : List (Addr × Obj)) (s : Shared) (σ : L2.St) (H : Hp) (x y : V) (v u : Value) (Q : VK) (I : Inv X pins σ H s) (rx : RelV x v) (ry : RelV y u) (h : rCmpO C sp E0 x y H Q) :
    wpAny (model X.prog X.w) X.A (richCompare cop v u) (EP X pins σ Q) X.xe s := by
  obtain ⟨a, b, dx, dy, fs, gs, rfl, rfl, ha, hb', q⟩ := h
  cases rx
  cases ry
  obtain ⟨mA, J, _⟩ := ins_get I.hok ha
  obtain ⟨mB, J', _⟩ := ins_get I.hok hb'
  obtain ⟨od, J, _⟩ := J.look
  obtain ⟨od', J', _⟩ := J'.look
  obtain ⟨m, hF⟩ := I.fr
  refine PySem.W.cmp_K (op := cop) (tb := .ref C) hr.units0 hF I.ok.mod.kin J J'.type (by simp [PySem.W.notFirst]) h1 h2 ?_
  refine thn (run_fn (us := [.ref a, .ref b]) (vs := [.ref a, .ref b]) F hr hb .nil hx I (.cons rfl (.cons rfl .nil)) q) fun w s' ⟨z, H', I', rz, k, ez, q'⟩ => ?_
  subst ez
  cases rz
  exact ⟨.bl k, H', I', rfl, q'⟩
end
section
variable {K : PySem.W.Frag} {T : Tb} {W : WX} {Z B H : Hp} {v : V} {ta tb : TE} {ya yb : YP}
theorem isObj_at {c : Cz} {Hs : Hp} {F G : List Addr} {cn : String} {r : RV} (h : RvG K T c Hs Z H F v r G) (z : Same Z H) (b : Same c.B H) (i : isObj cn r) : ∃ a dx fs, v = .ref a ∧ H a = some (.ins (T cn) dx fs) := by
  obtain ⟨G', o⟩ := h.ow
  unfold isObj at i
  split at i
  · rename_i e
    rw [e] at o
    obtain ⟨p, dx, fs, F', rfl, h1, h2, _⟩ := ow_obj o
    rw [i] at h1
    exact ⟨p, dx, fs, rfl, cell_now z b h1⟩
  · exact i.elim
/-- what the right side is told -/
def Rt.of (T : Tb) : Option String → Rt
  | none => .int
  | some cn => .obj (T cn)
theorem right_at {c : Cz} {Hs : Hp} {F G : List Addr} {rt : Option String} {r : RV} (h : RvG K T c Hs Z H F v r G) (z : Same Z H) (b : Same c.B H) (i : rightOk rt r) : (Rt.of T rt).ok v H := by
  cases rt with
  | some cn =>
    obtain ⟨a, dx, fs, e1, e2⟩ := isObj_at h z b i
    exact ⟨a, dx, fs, e1, e2⟩
  | none =>
    obtain ⟨G', o⟩ := h.ow
    unfold rightOk at i
    dsimp only at i
    split at i
    · rename_i n e
      rw [e] at o
      exact ⟨n, o.int_iff⟩
    · exact i.elim
theorem bin_core {S : DSp} {cn : String} {rt : Option String} {X' : XD} (ha : SP K T W ta ya) (hb : SP K T W tb yb) (c : Cz) (Z : Hp) (σ : L2.St) (H : Hp) (ρ : List Y.S) (F : List Addr) (Q : RV → Prop) (X : XD) (I : EnvOk K T c Z H σ ρ F) (hw : WP K T c W Z σ H X) (E : XK)
    (hE : ∀ Z' H' cn fs od, PStep Z H Z' H' → ExAt K T c Z' H' od fs → X' cn fs → E (.ref (T cn)) od H')
    (q : ya ρ (fun x => yb ρ (fun y => (isObj cn x ∧ rightOk rt y) ∧ S [arg x, arg y] (fun r => if [x, y].any isRd = true then nbor r.d = true ∧ Q r else Q r) fun cn fs => if [x, y].any isRd = true then fsD fs = true ∧ X' cn fs else X' cn fs) X) X) (R : VK) (k : ∀ v Z' H' r G, PStep Z H Z' H' → RvG K T c H Z' H' F v r G → Q r → R v H') :
    ta σ H fun x H1 => tb σ H1 fun y H2 => ∃ a dx fs, x = .ref a ∧ H2 a = some (.ins (T cn) dx fs) ∧ (Rt.of T rt).ok y H2 ∧ spP K T S [x, y] H2 R E :=
  ha c Z σ H ρ F _ X I hw q _ fun v1 Z1 H1 r1 G1 s1 h1 q1 => hb c Z1 σ H1 ρ F _ X (I.p s1) (hw.p s1) q1 _ fun v2 Z2 H2 r2 G2 s2 h2 q2 => by
    have I1 := I.p s1
    have I2 := I1.p s2
    have h1' := h1.p s2 I1.there
    obtain ⟨⟨o1, o2⟩, q3⟩ := q2
    obtain ⟨a, dx, fs, e1, e2⟩ := isObj_at h1' I2.zh I2.bh o1
    refine ⟨a, dx, fs, e1, e2, right_at h2 I2.zh I2.bh o2, ?_⟩
    exact call_core I (s1.trans s2) (.cons h1' (.cons (h2.from s1.hh) .nil fun a _ h => by cases h) fun a h3 h4 => h1.there a h3 (h2.free a (by simpa using h4)).1) hE q3 k
theorem sp_binS {S : DSp} {cn : String} {rt : Option String} {C : Addr} {rr : Rt} (hC : C = T cn) (hR : rr = Rt.of T rt) (ha : SP K T W ta ya) (hb : SP K T W tb yb) : SP K T W (tBinS C rr (spP K T S) (WE W) ta tb) (yBinS cn rt S ya yb) := by
  subst hC hR
  exact fun c Z σ H ρ F Q X I hw q R k => bin_core (X' := X) ha hb c Z σ H ρ F Q X I hw (WE W σ) (fun Z' H' cn fs od s ex x => hw Z' H' cn fs od s ex x) q R k
theorem noX {rs : List RV} : (fun (cn : String) (fs : List (String × D)) => if rs.any isRd = true then fsD fs = true ∧ X0 cn fs else X0 cn fs) = X0 := by
  funext cn fs
  by_cases h : rs.any isRd = true
  · rw [if_pos h]
    exact propext ⟨fun h => h.2.elim, fun h => h.elim⟩
  · rw [if_neg h]
theorem sp_binN {S : DSp} {cn : String} {rt : Option String} {C : Addr} {rr : Rt} (hC : C = T cn) (hR : rr = Rt.of T rt) (ha : SP K T W ta ya) (hb : SP K T W tb yb) : SP K T W (tBinS C rr (spP K T S) (fun _ => E0) ta tb) (yBinN cn rt S ya yb) := by
  subst hC hR
  exact fun c Z σ H ρ F Q X I hw q R k => bin_core (X' := X0) ha hb c Z σ H ρ F Q X I hw E0 (fun Z' H' cn fs od s ex x => x.elim) (by simp only [noX]; exact q) R k
theorem un_core {S : DSp} {cn : String} {X' : XD} (ha : SP K T W ta ya) (c : Cz) (Z : Hp) (σ : L2.St) (H : Hp) (ρ : List Y.S) (F : List Addr) (Q : RV → Prop) (X : XD) (I : EnvOk K T c Z H σ ρ F) (hw : WP K T c W Z σ H X) (E : XK)
    (hE : ∀ Z' H' cn fs od, PStep Z H Z' H' → ExAt K T c Z' H' od fs → X' cn fs → E (.ref (T cn)) od H')
    (q : ya ρ (fun x => isObj cn x ∧ S [arg x] (fun r => if [x].any isRd = true then nbor r.d = true ∧ Q r else Q r) fun cn fs => if [x].any isRd = true then fsD fs = true ∧ X' cn fs else X' cn fs) X) (R : VK) (k : ∀ v Z' H' r G, PStep Z H Z' H' → RvG K T c H Z' H' F v r G → Q r → R v H') :
    ta σ H fun x H1 => ∃ a dx fs, x = .ref a ∧ H1 a = some (.ins (T cn) dx fs) ∧ spP K T S [x] H1 R E :=
  ha c Z σ H ρ F _ X I hw q _ fun v1 Z1 H1 r1 G1 s1 h1 q1 => by
    have I1 := I.p s1
    obtain ⟨o1, q3⟩ := q1
    obtain ⟨a, dx, fs, e1, e2⟩ := isObj_at h1 I1.zh I1.bh o1
    exact ⟨a, dx, fs, e1, e2, call_core I s1 (.cons h1 .nil fun a _ h => by cases h) hE q3 k⟩
theorem sp_unS {S : DSp} {cn : String} {C : Addr} (hC : C = T cn) (ha : SP K T W ta ya) : SP K T W (tUnS C (spP K T S) (WE W) ta) (yUnS cn S ya) := by
  subst hC
  exact fun c Z σ H ρ F Q X I hw q R k => un_core (X' := X) ha c Z σ H ρ F Q X I hw (WE W σ) (fun Z' H' cn fs od s ex x => hw Z' H' cn fs od s ex x) q R k
theorem sp_unN {S : DSp} {cn : String} {C : Addr} (hC : C = T cn) (ha : SP K T W ta ya) : SP K T W (tUnS C (spP K T S) (fun _ => E0) ta) (yUnN cn S ya) := by
  subst hC
  exact fun c Z σ H ρ F Q X I hw q R k => un_core (X' := X0) ha c Z σ H ρ F Q X I hw E0 (fun Z' H' cn fs od s ex x => x.elim) (by simp only [noX]; exact q) R k
theorem sp_cmpO {S : DSp} {cn : String} {C : Addr} (hC : C = T cn) (ha : SP K T W ta ya) (hb : SP K T W tb yb) : SP K T W (tOp (rCmpO C (spP K T S) E0) ta tb) (yCmpO cn S ya yb) := by
  subst hC
  exact fun c Z σ H ρ F Q X I hw q R k => ha c Z σ H ρ F _ X I hw q _ fun v1 Z1 H1 r1 G1 s1 h1 q1 => hb c Z1 σ H1 ρ F _ X (I.p s1) (hw.p s1) q1 _ fun v2 Z2 H2 r2 G2 s2 h2 q2 => by
    have I1 := I.p s1
    have I2 := I1.p s2
    have h1' := h1.p s2 I1.there
    obtain ⟨⟨o1, o2⟩, q3⟩ := q2
    obtain ⟨a, dx, fs, e1, e2⟩ := isObj_at h1' I2.zh I2.bh o1
    obtain ⟨b, dy, gs, e3, e4⟩ := isObj_at h2 I2.zh I2.bh o2
    refine ⟨a, b, dx, dy, fs, gs, e1, e3, e2, e4, ?_⟩
    refine call_core (X := X0) (Q := fun r => match r with
      | .val (.bl k) => Q (.val (.bl k))
      | _ => False) I (s1.trans s2) (.cons h1' (.cons (h2.from s1.hh) .nil fun a _ h => by cases h) fun a h3 h4 => h1.there a h3 (h2.free a (by simpa using h4)).1) (fun Z' H' cn fs od s ex x => x.elim) ?_ ?_
    · refine callN_x ?_
      have : (fun r => if ([r1, r2] : List RV).any isRd = true then nbor r.d = true ∧ (match r with
        | .val (.bl k) => Q (.val (.bl k))
        | _ => False) else (match r with
        | .val (.bl k) => Q (.val (.bl k))
        | _ => False)) = fun r : RV => (match r with
        | .val (.bl k) => Q (.val (.bl k))
        | _ => False) := by
        funext r
        by_cases h : ([r1, r2] : List RV).any isRd = true
        · rw [if_pos h]
          refine propext ⟨fun z => z.2, fun z => ⟨?_, z⟩⟩
          split at z
          · rfl
          · exact z.elim
        · rw [if_neg h]
      show S ([r1, r2].map arg) _ X0
      rw [this]
      exact q3
    · intro v Z' H' r G s hr q4
      split at q4
      · rename_i b
        obtain ⟨rfl, o⟩ := hr
        have := o.bl_iff
        subst this
        exact ⟨b, rfl, k _ Z' H' (.val (.bl b)) [] s ⟨rfl, .bl b⟩ q4⟩
      · exact q4.elim
end
end Y

/-! YT: try with several clauses, with or without names. -/
namespace Y
open PySem PySem.Spec PyProof.Rows L2
/-- a clause: the class, the slot of its name, its suite -/
abbrev Cl := Value × Option Nat × (Addr → Value → Option Addr → TS)
/-- the ends of a suite whose name goes behind it -/
def Ends.gone (D : Ends) (i : Nat) : Ends :=
  { nx := fun σ H => D.nx (σ.set i none) H, rt := D.rt, bk := fun σ H => D.bk (σ.set i none) H, ct := fun σ H => D.ct (σ.set i none) H }
def suiteAt (D : Ends) (m : Cl) (cls : Value) (d : Option Addr) (a : Addr) (σ : L2.St) (H : Hp) : Prop := match m.2.1 with
  | some i => m.2.2 a cls d (Ends.gone D i) (σ.set i (some (.ref a))) H
  | none => m.2.2 a cls d D σ H
def wMas (K : PySem.W.Frag) (Wout : WX) (D : Ends) : List Cl → WX
  | [] => Wout
  | m :: r => fun cls d σ H => ∃ b, PySem.W.exmOne K cls m.1 = some b ∧ (b = true → ∀ a, H a = none → suiteAt D m cls d a σ H) ∧ (b = false → wMas K Wout D r cls d σ H)
/-- the clauses as they are written -/
inductive HdsN (X : Cx) : List ExceptHandler → List Cl → Prop
  | nil : HdsN X [] []
  | cons {x : Str} {c : Value} {on : Option Str} {oi : Option Nat} {ts : Addr → Value → Option Addr → TS} {b₀ : Stmt} {suite : List Stmt} {np ep : Pos} {hds : List ExceptHandler} {l : List Cl} (hc : Names X x c)
      (hn : match on, oi with
        | some n, some i => X.N[i]? = some n ∧ X.env.kindOf n = some .local
        | none, none => True
        | _, _ => False)
      (hsu : ∀ (a : Addr) (oe : Obj) (cls : Value) (d : Option Addr) (pn : List (Addr × Obj)), L2N.Zn cls d oe → (∃ vs, oe.data = .fields vs) → PSs (X.suite a ((a, oe) :: pn)) (b₀ :: suite) (ts a cls d))
      (r : HdsN X hds l) : HdsN X (.ExceptHandler (some (.Name x np)) on (b₀ :: suite) ep :: hds) ((c, oi, ts) :: l)
section
variable {X : Cx} {body : List Stmt} {h₀ : ExceptHandler} {hds : List ExceptHandler} {l : List Cl} {pos : Pos} {tb : WX → TS} {Wout : WX}
/-- what comes behind the body's error -/
abbrev behind (X : Cx) (hds : List ExceptHandler) (pins : List (Addr × Obj)) (D : Ends) : Value → Shared → Prop := fun e s1 =>
  wpAny (model X.prog X.w) X.A (noteFrame e X.env) (fun _ s2 => wpAny (model X.prog X.w) X.A (setFlight e none)
    (fun _ s3 => wpAny (model X.prog X.w) X.A (handleBy e X.env hds) (L2.SP X pins D) X.xe s3) X.xe s2) X.xe s1
theorem ps_try_mas (hs : X.stack = X.env :: X.outer) (hf : X.env.frame = some X.env.locals) (hN : X.N.Nodup) (tk : L2N.Takes X Wout)
    (hb : ∀ (W : WX) (pn : List (Addr × Obj)) (xe : Value → Shared → Prop), L2N.Takes (X.tr pn xe) W → PassesOwn (model X.prog X.w) X.A X.env xe → PSs (X.tr pn xe) body (tb W))
    (hh : HdsN X (h₀ :: hds) l) : PS X (.Try body (h₀ :: hds) [] [] pos) (fun D σ H => tb (wMas X.K Wout D l) D σ H) := by
  constructor
  intro pins s σ H D I start
  have okX := I.ok
  have frm : X.A.frames = some (X.env :: X.outer) := okX.frames.trans (congrArg some hs)
  refine wpAny_Try_except ?_
  have run := (hb (wMas X.K Wout D l) (X.pn ++ pins) (behind X (h₀ :: hds) pins D) ?caught PassesOwn.looking).run [] s σ H D (I.toTry _) start
  case caught =>
    rintro u s' ⟨a, B, sI, pins', σ', H', cls, d, rfl, J', nb, up, sky, na, os, ag, wish⟩
    have J : Inv X pins σ' H' sI := J'.ofTry okX
    show wpAny (model X.prog X.w) X.A (noteFrame (.ref a) X.env) _ _ _
    refine L2N.Sky.land L2N.Zn.steady frm hf (by rw [← hs]; exact sky) fun g fl upg => ?_
    have JG : Inv X pins σ' H' { s' with heap := g } := J.landed nb fl.1 (up.trans upg) os ag
    obtain ⟨oe, vs, ge, gz, gd⟩ := fl.there
    have away : a ∉ frs (X.env :: X.outer) := fun hm => by
      obtain ⟨_, o', e', bad⟩ := fl.2.2.1.mem hm
      rw [ge] at e'
      cases e'
      exact bad _ gd
    have aL : a ≠ X.env.locals := fun z => away (List.mem_filterMap.mpr ⟨X.env, .head _, by rw [hf, z]⟩)
    have aF : a ∉ X.fs := fun hm => by
      obtain ⟨e, he, q⟩ := List.mem_filterMap.mp hm
      exact away (List.mem_filterMap.mpr ⟨e, .tail _ he, q⟩)
    have SG := JG.suite ge gd na aL aF
    have each : ∀ {hs' : List ExceptHandler} {ms : List Cl}, HdsN X hs' ms → wMas X.K Wout D ms cls d σ' H' → wpAny (model X.prog X.w) X.A (handleBy (.ref a) X.env hs') (L2.SP X pins D) X.xe { s' with heap := g } := by
      intro hs' ms hk
      induction hk with
      | nil =>
        intro w
        refine wpAny_handleBy_nil ?_
        have fl' := fl
        obtain ⟨_, _, _, o2, v2, T2, _, _, e2, _, d2, f2, _⟩ := fl'
        unfold PySem.passOn
        refine wpAny_bind (wpAny_field e2 d2 f2 ?_)
        rw [if_neg (show ¬ ((Value.ref T2 == Value.none) = true) by simp)]
        have on : wpAny (model X.prog X.w) X.A (setFlight (.ref a) X.env.frame) (fun _ t => wpAny (model X.prog X.w) X.A (throw (.ref a) : Sem Flow) (L2.SP X pins D) X.xe t) X.xe { s' with heap := g } := by
          rw [hf]
          refine HandSPX.setFlight_upZ fl fun g4 s4 up4 => wpAny_throw (tk _ _ ?_)
          exact ⟨a, B, sI, pins, σ', H', cls, d, rfl, J, nb, (up.trans upg).trans up4, .inr (.inr (by rw [hs]; exact s4)), na, os, ag, w⟩
        first
          | exact wpAny_bind (wpAny_pure (wpAny_bind on))
          | exact wpAny_bind on
      | @cons x c oname oi ts b₀ suite np ep hds2 l2 hc hn hsu r ih =>
        rintro ⟨b, ex, yes, no⟩
        refine wpAny_handleBy_cons (codeAny_handlers_test ?_) (fun q => by cases q)
        have ty : PySem.W.Looks (model X.prog X.w) g (typeOf (.ref a)) cls := fun A Q E s k q => wpAny_typeOf_ref (k _ _ ge) (by rw [gz.1]; exact q)
        have look := PySem.W.exm_one (M := model X.prog X.w) JG.kIn ty ex
        have named : ∀ {Q : Value → Shared → Prop} {E : Value → Shared → Prop}, Q c { s' with heap := g } → wpAny (model X.prog X.w) (X.A.mark (some (.ref a))) (eval (.Name x np) X.env) Q E { s' with heap := g } := by
          intro Q E q
          rcases hc with ⟨hg, hdb, hm | ⟨hm, hv, hne⟩⟩
          · exact ld_glob (X := X.suite a ((a, oe) :: (X.pn ++ pins))) SG hg hm q hdb
          · exact ld_blt (X := X.suite a ((a, oe) :: (X.pn ++ pins))) SG hg hm hv q hne hdb
        refine named (look.here ?_)
        cases b with
        | false => exact ih (no rfl)
        | true =>
          have go := yes rfl a na
          cases oi with
          | none =>
            cases oname with
            | some n => exact hn.elim
            | none =>
              refine codeAny_handlers_suite (HandSPX.lands_againZ fl fun g4 fl4 up4 => ?_)
              have J4 : Inv X pins σ' H' { s' with heap := g4 } := J.landed nb fl4.1 ((up.trans upg).trans up4) os ag
              obtain ⟨o4, v4, e4, z4, d4⟩ := fl4.there
              refine wpAny_mono ((hsu a o4 cls d (X.pn ++ pins) z4 ⟨_, d4⟩).run [] _ _ H' _ (J4.suite e4 d4 na aL aF) go) (fun f s6 end6 => ?_) fun _ _ z => z.elim
              cases f with
              | ret u =>
                obtain ⟨v6, σ6, H6, S6, r6, q6⟩ := end6
                exact ⟨_, _, _, S6.unsuite okX, r6, q6⟩
              | _ =>
                obtain ⟨σ6, H6, S6, q6⟩ := end6
                exact ⟨_, _, S6.unsuite okX, q6⟩
          | some i =>
            cases oname with
            | none => exact hn.elim
            | some n =>
              obtain ⟨hi, hl⟩ := hn
              refine codeAny_handlers_suite_as (HandSPX.lands_againZ fl fun g4 fl4 up4 => ?_)
              have J4 : Inv X pins σ' H' { s' with heap := g4 } := J.landed nb fl4.1 ((up.trans upg).trans up4) os ag
              obtain ⟨o4, v4, e4, z4, d4⟩ := fl4.there
              refine store_ok (X := X.suite a ((a, o4) :: (X.pn ++ pins))) (v := .ref a) (J4.suite e4 d4 na aL aF) hN hi (.inl hl) rfl (fun s5 S5 => ?_) (.inr hl)
              refine wpAny_mono ((hsu a o4 cls d (X.pn ++ pins) z4 ⟨_, d4⟩).run [] s5 _ H' _ S5 go) (fun f s6 end6 => ?_) fun _ _ z => z.elim
              have away6 : ∀ {σ6 : L2.St} {H6 : Hp} {Q : Shared → Prop}, Inv (X.suite a ((a, o4) :: (X.pn ++ pins))) [] σ6 H6 s6 → (∀ s7, Inv X pins (σ6.set i none) H6 s7 → Q s7) →
                  wpAny (model X.prog X.w) X.A (do bindName X.env n .none; unbindBehindTheSuite X.env n ep) (fun _ s7 => Q s7) X.xe s6 := fun S6 hq => gone_ok (S6.unsuite okX) hN hi hl hq
              cases f with
              | ret u =>
                obtain ⟨v6, σ6, H6, S6, r6, q6⟩ := end6
                exact away6 S6 fun s7 J7 => ⟨_, _, _, J7, r6, q6⟩
              | _ =>
                obtain ⟨σ6, H6, S6, q6⟩ := end6
                exact away6 S6 fun s7 J7 => ⟨_, _, J7, q6⟩
    exact each hh wish
  refine wpAny_mono run (fun f s1 end1 => ?_) fun e s1 he => he
  cases f with
  | ret u =>
    obtain ⟨v, σ1, H1, J1, r1, q1⟩ := end1
    exact ⟨v, σ1, H1, J1.ofTry okX, r1, q1⟩
  | next =>
    obtain ⟨σ1, H1, J1, q1⟩ := end1
    exact wpAny_execs_nil ⟨σ1, H1, J1.ofTry okX, q1⟩
  | _ =>
    obtain ⟨σ1, H1, J1, q1⟩ := end1
    exact ⟨σ1, H1, J1.ofTry okX, q1⟩
end
section
variable {K : PySem.W.Frag} {T : Tb}
/-- the clauses read -/
inductive HdsY (K : PySem.W.Frag) (T : Tb) (Wout : WX) : List Cl → List (List (String × Bool) × Option Nat × (Nat → Option Nat → String → YS)) → Prop
  | nil : HdsY K T Wout [] []
  | cons {cv : Value} {oi : Option Nat} {ts : Addr → Value → Option Addr → TS} {es : List (String × Bool)} {s : Nat → Option Nat → String → YS} {ms : List Cl} {ys : List (List (String × Bool) × Option Nat × (Nat → Option Nat → String → YS))}
      (he : ∀ p ∈ es, PySem.W.exmOne K (.ref (T p.1)) cv = some p.2) (hs : ∀ a od cn, SS K T Wout (ts a (.ref (T cn)) od) (s a od cn)) (r : HdsY K T Wout ms ys) : HdsY K T Wout ((cv, oi, ts) :: ms) ((es, oi, s) :: ys)
def tTryM (K : PySem.W.Frag) (l : List Cl) (Wout : WX) (tb : WX → TS) : TS := fun D σ H => tb (wMas K Wout D l) D σ H
theorem ss_tryM {Wout : WX} {tb : WX → TS} {b : YS} {ms : List Cl} {ys : List (List (String × Bool) × Option Nat × (Nat → Option Nat → String → YS))} (hb : ∀ W, SS K T W (tb W) b) (hh : HdsY K T Wout ms ys) : SS K T Wout (tTryM K ms Wout tb) (sTryM ys b) := fun c Z σ H ρ F k I hx q E ok => by
  refine hb (wMas K Wout E ms) c Z σ H ρ F _ I (fun Z' σ' H' ρ' F' cn fs od zz J ex q' => ?_) q E ⟨ok.nx, ok.rt, ok.bk, ok.ct⟩
  have q' : tryK k ys cn fs ρ' := q'
  clear q
  revert q'
  induction hh with
  | nil => exact fun q' => hx Z' σ' H' ρ' F' cn fs od zz J ex q'
  | @cons cv oi ts es s ms ys he hs r ih =>
    intro q'
    unfold tryK at q'
    split at q'
    · rename_i e
      refine ⟨true, he _ (takes_mem e), fun _ a _ => ?_, fun z => nomatch z⟩
      cases oi with
      | none =>
        refine hs a od cn c Z' _ H' _ F' k J (hx.z zz) (q' a od) _ ⟨fun Z3 σ3 H3 ρ3 F3 z3 J3 q3 => ok.nx Z3 _ H3 _ F3 (Same.tr zz z3) J3 q3, fun v Z3 σ3 H3 ρ3 F3 r z3 J3 hr nr q3 => ok.rt v Z3 σ3 H3 ρ3 F3 r (Same.tr zz z3) J3 hr nr q3, fun Z3 σ3 H3 ρ3 F3 z3 J3 q3 => ok.bk Z3 _ H3 _ F3 (Same.tr zz z3) J3 q3, fun Z3 σ3 H3 ρ3 F3 z3 J3 q3 => ok.ct Z3 _ H3 _ F3 (Same.tr zz z3) J3 q3⟩
      | some i =>
        obtain ⟨F2, J2, _⟩ := J.put (i := i) (o := some (.ref a)) (s := .exc a od cn fs) (G := []) ⟨rfl, rfl, ex⟩ List.nodup_nil fun a ha => by cases ha
        have back : ∀ {Z3 σ3 H3 ρ3 F3}, EnvOk K T c Z3 H3 σ3 ρ3 F3 → ∃ F4, EnvOk K T c Z3 H3 (σ3.set i none) (ρ3.set i .no) F4 := fun {Z3 σ3 H3 ρ3 F3} J3 => by
          obtain ⟨F4, J4, _⟩ := J3.put (i := i) (o := none) (s := .no) (G := []) rfl List.nodup_nil fun a ha => by cases ha
          exact ⟨F4, J4⟩
        refine hs a od cn c Z' _ H' _ F2 (suiteK i k) J2 (hx.z zz) (q' a od) _ ⟨fun Z3 σ3 H3 ρ3 F3 z3 J3 q3 => ?_, fun v Z3 σ3 H3 ρ3 F3 r z3 J3 hr nr q3 => ok.rt v Z3 σ3 H3 ρ3 F3 r (Same.tr zz z3) J3 hr nr q3, fun Z3 σ3 H3 ρ3 F3 z3 J3 q3 => ?_, fun Z3 σ3 H3 ρ3 F3 z3 J3 q3 => ?_⟩
        · obtain ⟨F4, J4⟩ := back J3
          exact ok.nx Z3 _ H3 _ F4 (Same.tr zz z3) J4 q3
        · obtain ⟨F4, J4⟩ := back J3
          exact ok.bk Z3 _ H3 _ F4 (Same.tr zz z3) J4 q3
        · obtain ⟨F4, J4⟩ := back J3
          exact ok.ct Z3 _ H3 _ F4 (Same.tr zz z3) J4 q3
    · rename_i e
      exact ⟨false, he _ (takes_mem e), (fun z => by cases z), fun _ => ih q' q'⟩
    · exact q'.elim
end
end Y

/-! YU: max, min, calls of what takes *args. -/
namespace Y
open PySem PySem.Spec PyProof.Rows L2
section
variable {X : Cx} {CX : CXT} {k : Nat} {f C : Addr} {sp : Sp} {E : L2.St → XK} {x m : Str} {p pos apos : Pos} {o e : Expr} {es : List Expr} {ta : TE} {t : TA}
/-- f(..), f takes *args -/
def tCallRS (sp : Sp) (E : L2.St → XK) (t : TA) : TE := fun σ H Q => t σ H fun vs H1 => sp vs H1 Q (E σ)
theorem run_anyRS {pins : List (Addr × Obj)} {σ : L2.St} {H : Hp} {s : Shared} {us : List Value} {vs : List V} {Q : VK} (F : FnR X.prog X.w X.K X.mg X.base CX k f sp) (hr : Room k X.A) (hx : PassesAt CX X σ (E σ)) (I : Inv X pins σ H s) (r : Vals vs us) (h : sp vs H Q (E σ)) :
    wpAny (model X.prog X.w) X.A (call (.ref f) us) (EP X pins σ Q) X.xe s := wpAny_call (run_fnRS F hr hx I r h)
theorem pe_callRS (F : FnR X.prog X.w X.K X.mg X.base CX k f sp) (hr : Room k X.A) (hg : Gl X x) (hm : X.mg x = some (.ref f)) (hk : PySem.W.keepIn X.K (.ref f) = true) (hx : ∀ σ, PassesAt CX X σ (E σ)) (ha : PA X (e :: es) t) (hdb : (x == ("__debug__" : Str)) = false := by decide)
    (he : starEach (e :: es) X.env = (false, eval e X.env) :: starEach es X.env := by rfl) (hpl : (backTo pos (starEach es X.env)).any (·.1) = false := by rfl) : PE X (.Call (.Name x p) (e :: es) [] pos) (tCallRS sp E t) :=
  ⟨fun pins s σ H Q I h => wpAny_Call_Name_kw (ld_glob I hg hm (PySem.W.callWith_K (h₀ := X.base) I.ok.mod.kin hk (thn (ha.run pos pins s σ H _ I h) fun us s1 ⟨vs, H1, I1, r, q⟩ => ⟨I1.kIn, run_anyRS F hr (hx σ) I1 r q⟩) he hpl) hdb)⟩
theorem pe_callRS0 (F : FnR X.prog X.w X.K X.mg X.base CX k f sp) (hr : Room k X.A) (hg : Gl X x) (hm : X.mg x = some (.ref f)) (hk : PySem.W.keepIn X.K (.ref f) = true) (hx : ∀ σ, PassesAt CX X σ (E σ)) (hdb : (x == ("__debug__" : Str)) = false := by decide) :
    PE X (.Call (.Name x p) [] [] pos) (tCallRS sp E L2.tNil) :=
  ⟨fun pins s σ H Q I h => wpAny_Call_Name_kw (ld_glob I hg hm (PySem.W.callWith_K0 I.kIn hk (run_anyRS F hr (hx σ) I .nil h)) hdb)⟩
/-- o.m(..), m takes *args -/
def tMethRS (C : Addr) (m : Str) (sp : Sp) (E : L2.St → XK) (ta : TE) (t : TA) : TE := fun σ H Q => ta σ H fun x H1 => ∃ a dx fs, x = .ref a ∧ H1 a = some (.ins C dx fs) ∧ fs.lookup m = none ∧ t σ H1 fun vs H2 => sp (x :: vs) H2 Q (E σ)
theorem pe_methRS {pl : Sem Bool} (he : PE X o ta) (c : Cls X.K C) (hm : Meth X.K C m f) (F : FnR X.prog X.w X.K X.mg X.base CX k f sp) (hr : Room k X.A) (hx : ∀ σ, PassesAt CX X σ (E σ)) (ha : PA X (e :: es) t)
    (hst : starEach (e :: es) X.env = (false, eval e X.env) :: starEach es X.env := by rfl) (hpl : (backTo pos (starEach es X.env)).any (·.1) = false := by rfl)
    (ht : eval (.Call (.Attribute o m apos) (e :: es) [] pos) X.env = (do let ov ← eval o X.env; standAt apos.atName; let (f, first) ← holding [ov] (getMethod ov m pl); callWith pos f first (backTo pos (starEach (e :: es) X.env)) (backToKw pos (keywordEach [] X.env))) := by rfl) :
    PE X (.Call (.Attribute o m apos) (e :: es) [] pos) (tMethRS C m sp E ta t) := by
  refine ⟨fun pins s σ H Q I h => PySem.W.methodCall_KW (pl := pl) (thn (he.run pins s σ H _ I h) fun u s1 ⟨x, H1, I1, rx, a, dx, fs, ex, ea, l, q⟩ => ?_) ht⟩
  subst ex
  obtain rfl : u = Value.ref a := rx
  exact getmeth_ok I1 ea c hm l (PySem.W.callWith_K (first := [.ref a]) (h₀ := X.base) I.ok.mod.kin hm.kp (thn (ha.run pos pins s1 σ H1 _ I1 q) fun us s2 ⟨vs, H2, I2, r, q2⟩ => ⟨I2.kIn, run_anyRS (us := .ref a :: us) (vs := .ref a :: vs) F hr (hx σ) I2 (.cons rfl r) q2⟩) hst hpl)
theorem pe_methRS0 {pl : Sem Bool} (he : PE X o ta) (c : Cls X.K C) (hm : Meth X.K C m f) (F : FnR X.prog X.w X.K X.mg X.base CX k f sp) (hr : Room k X.A) (hx : ∀ σ, PassesAt CX X σ (E σ))
    (ht : eval (.Call (.Attribute o m apos) [] [] pos) X.env = (do let ov ← eval o X.env; standAt apos.atName; let (f, first) ← holding [ov] (getMethod ov m pl); callWith pos f first (backTo pos (starEach [] X.env)) (backToKw pos (keywordEach [] X.env))) := by rfl) :
    PE X (.Call (.Attribute o m apos) [] [] pos) (tMethRS C m sp E ta L2.tNil) := by
  refine ⟨fun pins s σ H Q I h => PySem.W.methodCall_KW (pl := pl) (thn (he.run pins s σ H _ I h) fun u s1 ⟨x, H1, I1, rx, a, dx, fs, ex, ea, l, q⟩ => ?_) ht⟩
  subst ex
  obtain rfl : u = Value.ref a := rx
  exact getmeth_ok I1 ea c hm l (PySem.W.callWith_K0 (first := [.ref a]) I1.kIn hm.kp (run_anyRS (us := [.ref a]) (vs := [.ref a]) F hr (hx σ) I1 (.cons rfl .nil) q))
end
section
variable {K : PySem.W.Frag} {T : Tb} {W : WX} {Z B H : Hp} {v : V} {ta tb te : TE} {ya yb : YP} {tr : TA} {yr : YA} {n : Nat}
theorem sp_callRS {S : DSp} (hr : SA K T W n tr yr) : SP K T W (tCallRS (spP K T S) (WE W) tr) (yCall S yr) := fun c Z σ H ρ F Q X I hw q R k => hr c Z σ H ρ F _ X I hw q _ fun vs Z1 H1 rs G s1 h1 hl q1 =>
  call_core I s1 h1 (fun Z' H' cn fs od s ex x => hw Z' H' cn fs od s ex x) q1 k
theorem sp_callRN {S : DSp} (hr : SA K T W n tr yr) : SP K T W (tCallRS (spP K T S) (fun _ => E0) tr) (yCallN S yr) := fun c Z σ H ρ F Q X I hw q R k => hr c Z σ H ρ F _ X I hw q _ fun vs Z1 H1 rs G s1 h1 hl q1 =>
  call_core (X := X0) I s1 h1 (fun Z' H' cn fs od s ex x => x.elim) (callN_x q1) k
theorem meth_coreR {S : DSp} {cn m : String} {X' : XD} (ho : SP K T W te ya) (hr : SA K T W n tr yr) (c : Cz) (Z : Hp) (σ : L2.St) (H : Hp) (ρ : List Y.S) (F : List Addr) (Q : RV → Prop) (X : XD) (I : EnvOk K T c Z H σ ρ F) (hw : WP K T c W Z σ H X) (E : XK)
    (hE : ∀ Z' H' cn fs od, PStep Z H Z' H' → ExAt K T c Z' H' od fs → X' cn fs → E (.ref (T cn)) od H')
    (q : ya ρ (fun r => isOf cn m r ∧ yr ρ (fun rs => S ((r :: rs).map arg) (fun x => if (r :: rs).any isRd = true then nbor x.d = true ∧ Q x else Q x) fun cn fs => if (r :: rs).any isRd = true then fsD fs = true ∧ X' cn fs else X' cn fs) X) X) (R : VK) (k : ∀ v Z' H' r G, PStep Z H Z' H' → RvG K T c H Z' H' F v r G → Q r → R v H') :
    te σ H fun x H1 => ∃ a dx fs, x = .ref a ∧ H1 a = some (.ins (T cn) dx fs) ∧ fs.lookup (Str.ofString m) = none ∧ tr σ H1 fun vs H2 => spP K T S (x :: vs) H2 R E := by
  have := meth_core ho hr c Z σ H ρ F Q X I hw E hE q R k
  simp only [List.append_nil] at this
  exact this
theorem sp_methRS {S : DSp} {cn m : String} {ms : Str} {C : Addr} (hC : C = T cn) (hm : ms = Str.ofString m) (ho : SP K T W te ya) (hr : SA K T W n tr yr) : SP K T W (tMethRS C ms (spP K T S) (WE W) te tr) (yMeth cn m S ya yr) := by
  subst hC hm
  exact fun c Z σ H ρ F Q X I hw q R k => meth_coreR (X' := X) ho hr c Z σ H ρ F Q X I hw (WE W σ) (fun Z' H' cn fs od s ex x => hw Z' H' cn fs od s ex x) q R k
theorem sp_methRN {S : DSp} {cn m : String} {ms : Str} {C : Addr} (hC : C = T cn) (hm : ms = Str.ofString m) (ho : SP K T W te ya) (hr : SA K T W n tr yr) : SP K T W (tMethRS C ms (spP K T S) (fun _ => E0) te tr) (yMethN cn m S ya yr) := by
  subst hC hm
  exact fun c Z σ H ρ F Q X I hw q R k => meth_coreR (X' := X0) ho hr c Z σ H ρ F Q X I hw E0 (fun Z' H' cn fs od s ex x => x.elim) (methN_x q) R k
/-! max(a, b), min(a, b) -/
theorem sp_cb2 {f : F2} {rr : List V → Hp → VK → Prop} (hr : ∀ (H : Hp) (i j : Int) (Q : D → Prop) (R : VK), f (.int i) (.int j) Q → (∀ n : Int, Q (.int n) → R (.int n) H) → rr [.int i, .int j] H R) (hf : ∀ x y Q, f x y Q → ∃ i j, x = .int i ∧ y = .int j)
    (ha : SP K T W ta ya) (hb : SP K T W tb yb) : SP K T W (tCB rr (L2.tCons ta (L2.tCons tb L2.tNil))) (y2 f ya yb) := fun c Z σ H ρ F Q X I hw q R k => ha c Z σ H ρ F _ X I hw q _ fun v1 Z1 H1 r1 G1 s1 h1 q1 => hb c Z1 σ H1 ρ F _ X (I.p s1) (hw.p s1) q1 _ fun v2 Z2 H2 r2 G2 s2 h2 q2 => by
    obtain ⟨i, j, e1, e2⟩ := hf _ _ _ q2
    obtain ⟨G1', o1⟩ := h1.ow
    obtain ⟨G2', o2⟩ := h2.ow
    rw [e1] at o1
    rw [e2] at o2
    have a1 := o1.int_iff
    have a2 := o2.int_iff
    subst a1 a2
    rw [e1, e2] at q2
    exact hr H2 i j _ R q2 fun n qn => k _ Z2 H2 (.val (.int n)) [] (s1.trans s2) ⟨rfl, .int n⟩ qn
theorem sp_max2 (ha : SP K T W ta ya) (hb : SP K T W tb yb) : SP K T W (tCB (fun xs H Q => ∃ i j, xs = [V.int i, V.int j] ∧ Q (.int (if j > i then j else i)) H) (L2.tCons ta (L2.tCons tb L2.tNil))) (y2 fMax2 ya yb) :=
  sp_cb2 (fun H i j Q R q k => ⟨i, j, rfl, k _ q⟩) (fun x y Q q => by unfold fMax2 at q; split at q; exact ⟨_, _, rfl, rfl⟩; exact q.elim) ha hb
theorem sp_min2 (ha : SP K T W ta ya) (hb : SP K T W tb yb) : SP K T W (tCB (fun xs H Q => ∃ i j, xs = [V.int i, V.int j] ∧ Q (.int (if j < i then j else i)) H) (L2.tCons ta (L2.tCons tb L2.tNil))) (y2 fMin2 ya yb) :=
  sp_cb2 (fun H i j Q R q k => ⟨i, j, rfl, k _ q⟩) (fun x y Q q => by unfold fMin2 at q; split at q; exact ⟨_, _, rfl, rfl⟩; exact q.elim) ha hb
end
end Y

/-! YV: max, min of a list; & | ^; .index of ints. -/
namespace Y
open PySem PySem.Spec PyProof.Rows L2
def fBAnd : F2
  | .int i, .int j, Q => Q (.int (Builtin.bitAnd i j))
  | _, _, _ => False
def fBOr : F2
  | .int i, .int j, Q => Q (.int (Builtin.bitOr i j))
  | _, _, _ => False
def fBXor : F2
  | .int i, .int j, Q => Q (.int (Builtin.bitXor i j))
  | _, _, _ => False
section
variable {K : PySem.W.Frag} {T : Tb} {W : WX} {Z B H : Hp} {v : V} {ta tb te : TE} {ya yb : YP}
theorem sp_max (ha : SP K T W ta ya) : SP K T W (tCB (rMax K) (L2.tCons ta L2.tNil)) (y1 fMax ya) := sp_cb (fun Z B H v d G Q R z b o q k => by
  unfold fMax at q
  split at q
  · obtain ⟨is, e, l, q⟩ := q
    have := intsD_map e
    subst this
    obtain ⟨p, xs, F', rfl, c1, o3, f1⟩ := ow_lst o
    have ex := (OwAll.now z b _ _ _ o3).ints
    subst ex
    exact ⟨p, is, rfl, SqL.of (cell_now z b c1), l, fun m h1 h2 => k _ Z H _ (.refl z) (.int _) (q m ⟨h1, h2⟩)⟩
  · exact q.elim) ha
theorem sp_min (ha : SP K T W ta ya) : SP K T W (tCB (rMin K) (L2.tCons ta L2.tNil)) (y1 fMin ya) := sp_cb (fun Z B H v d G Q R z b o q k => by
  unfold fMin at q
  split at q
  · obtain ⟨is, e, l, q⟩ := q
    have := intsD_map e
    subst this
    obtain ⟨p, xs, F', rfl, c1, o3, f1⟩ := ow_lst o
    have ex := (OwAll.now z b _ _ _ o3).ints
    subst ex
    exact ⟨p, is, rfl, SqL.of (cell_now z b c1), l, fun m h1 h2 => k _ Z H _ (.refl z) (.int _) (q m ⟨h1, h2⟩)⟩
  · exact q.elim) ha
def rBAndZ : R2 := rI0 fun i j => .int (Builtin.bitAnd i j)
def rBOrZ : R2 := rI0 fun i j => .int (Builtin.bitOr i j)
def rBXorZ : R2 := rI0 fun i j => .int (Builtin.bitXor i j)
theorem op_bandZ {X : Cx} : OpR X (binaryOp .BitAnd) rBAndZ := op_and
theorem op_borZ {X : Cx} : OpR X (binaryOp .BitOr) rBOrZ := op_or
theorem op_bxorZ {X : Cx} : OpR X (binaryOp .BitXor) rBXorZ := op_xor
theorem ops_band : OpS K T rBAndZ fBAnd := fun Z B H x y a b Fa Fb P R z bb ha hb h k => by
  unfold fBAnd at h
  split at h
  · exact ⟨_, _, ha.int_iff, hb.int_iff, k _ Z H _ (.refl z) (.int _) h⟩
  · exact h.elim
theorem ops_bor : OpS K T rBOrZ fBOr := fun Z B H x y a b Fa Fb P R z bb ha hb h k => by
  unfold fBOr at h
  split at h
  · exact ⟨_, _, ha.int_iff, hb.int_iff, k _ Z H _ (.refl z) (.int _) h⟩
  · exact h.elim
theorem ops_bxor : OpS K T rBXorZ fBXor := fun Z B H x y a b Fa Fb P R z bb ha hb h k => by
  unfold fBXor at h
  split at h
  · exact ⟨_, _, ha.int_iff, hb.int_iff, k _ Z H _ (.refl z) (.int _) h⟩
  · exact h.elim
end
section
variable {K : PySem.W.Frag} {T : Tb} {W : WX} {ta tb : TE} {ya yb : YP}
theorem first_at : ∀ {is : List Int} {n : Int}, n ∈ is → ∃ j : Nat, is[j]? = some n ∧ ∀ m : Nat, m < j → is[m]? ≠ some n
  | i :: is, n, h => by
    by_cases e : i = n
    · subst e
      exact ⟨0, rfl, fun m h => absurd h (Nat.not_lt_zero m)⟩
    · have h' : n ∈ is := by
        cases h with
        | head => exact absurd rfl e
        | tail _ h => exact h
      obtain ⟨j, h1, h2⟩ := first_at h'
      refine ⟨j + 1, h1, fun m hm => ?_⟩
      cases m with
      | zero => exact fun z => e (Option.some.inj z)
      | succ m => exact h2 m (by omega)
theorem isLs_at {d : D} (h : isLs d = true) : ∃ f ds, d = .lst f ds := by
  unfold isLs at h
  split at h
  · exact ⟨_, _, rfl⟩
  · cases h
theorem ints_eq {a b : Int} : eqV (.int a) (.int b) = (a == b) := rfl
theorem sp_index (ha : SP K T W ta ya) (hb : SP K T W tb yb) : SP K T W (tBM K "list" (rIndex K) ta (L2.tCons tb L2.tNil)) (yIndex ya yb) := fun c Z σ H ρ F Q X I hw q R k => ha c Z σ H ρ F _ X I hw q _ fun v1 Z1 H1 r1 G1 s1 h1 q1 => by
  have I1 := I.p s1
  obtain ⟨hl, q1⟩ := q1
  obtain ⟨fl, ds, e1⟩ := isLs_at hl
  obtain ⟨_, o1⟩ := h1.ow
  rw [e1] at o1
  obtain ⟨p, xs, F', rfl, c1, o3, f1⟩ := ow_lst o1
  refine ⟨.inl ⟨rfl, xs, SqL.of (cell_now I1.zh I1.bh c1)⟩, hb c Z1 σ H1 ρ F _ X I1 (hw.p s1) q1 _ fun v2 Z2 H2 r2 G2 s2 h2 q2 => ?_⟩
  have I2 := I1.p s2
  obtain ⟨_, o1⟩ := (h1.p s2 I1.there).ow
  obtain ⟨_, o2⟩ := h2.ow
  rw [e1] at o1 q2
  unfold fIndex at q2
  split at q2
  · rename_i n e2 e3
    cases e2
    obtain ⟨is, e, hm, q3⟩ := q2
    rw [e3] at o2
    have := intsD_map e
    subst this
    obtain ⟨p', xs', F'', ep, c1', o3', f1'⟩ := ow_lst o1
    cases ep
    have ex := (OwAll.now I2.zh I2.bh _ _ _ o3').ints
    subst ex
    obtain ⟨j, j1, j2⟩ := first_at hm
    refine ⟨p, is.map V.int, .int n, j, .int n, rfl, by rw [o2.int_iff], SqL.of (cell_now I2.zh I2.bh c1'), rfl, by simp [flatV], by simp [j1], by simp [ints_eq], fun m z hm hz => ?_, k _ Z2 H2 (.val (.int (j : Int))) [] (s1.trans s2) ⟨rfl, .int _⟩ (q3 j ⟨j1, j2⟩)⟩
    rw [List.getElem?_map] at hz
    cases e4 : is[m]? with
    | none => rw [e4] at hz; cases hz
    | some i =>
      rw [e4] at hz
      cases hz
      have := j2 m hm
      rw [e4] at this
      simp only [ints_eq, beq_eq_false_iff_ne]
      exact fun z => this (by rw [z])
  · exact q2.elim
end
end Y

/-! YW: methods and defs that change their first argument; own __setitem__, own __getitem__. -/
namespace Y
open PySem PySem.Spec PyProof.Rows L2
/-- steps in which what stands at Fe alone is changed -/
structure MStep (Fe : List Addr) (Z H Z' H' : Hp) : Prop where
  zz : Same Z Z'
  zh : Same Z' H'
  hh : ∀ b o, H b = some o → b ∉ Fe → H' b = some o
  tr : ∀ b, H' b = none → H b = none
  zn : ∀ a, Z' a ≠ none → Z a ≠ none ∨ H a = none ∨ a ∈ Fe
section
variable (K : PySem.W.Frag) (T : Tb)
/-- what such a def gives -/
def RvM (B : Hp) (Fe Fd : List Addr) (H Z' H' : Hp) (v : V) : RV → Prop
  | .val d => Ow K T Z' B H' v d []
  | .tmp d => ∃ G, Ow K T Z' B H' v d G ∧ G.Nodup ∧ ∀ a ∈ G, a ∉ Fd ∧ Z' a = none ∧ (H a = none ∨ a ∈ Fe)
  | .rd _ => False
/-- what the changed tree is -/
structure ChG (B : Hp) (Fe : List Addr) (H Z' H' : Hp) (v : V) (d : D) (Fd : List Addr) : Prop where
  ow : Ow K T Z' B H' v d Fd
  nd : Fd.Nodup
  fr : ∀ a ∈ Fd, (H a = none ∨ a ∈ Fe) ∧ Z' a = none
/-- a def that changes its first argument -/
def spM (S : SpM) : Sp := fun vs H Q E => ∃ (Z B : Hp) (p : Addr) (ws : List V) (d : D) (Fe : List Addr) (ds : List D) (R : RV → D → Prop) (X : String → List (String × D) → D → Prop), vs = .ref p :: ws ∧ Same Z H ∧ Same B H ∧ Ow K T Z B H (.ref p) d Fe ∧ Fe.Nodup ∧ (∀ a ∈ Fe, Z a = none ∧ B a = none) ∧ OwAll K T Z B H ws ds [] ∧ S d ds R X ∧
  (∀ v Z' H' r d' Fd, MStep Fe Z H Z' H' → ChG K T B Fe H Z' H' (.ref p) d' Fd → RvM K T B Fe Fd H Z' H' v r → R r d' → Q v H') ∧
  (∀ cn fs od Z' H' d' Fd, MStep Fe Z H Z' H' → ChG K T B Fe H Z' H' (.ref p) d' Fd → ExAt K T (cz0 B) Z' H' od fs → X cn fs d' → E (.ref (T cn)) od H')
end
section
variable {K : PySem.W.Frag} {T : Tb} {W : WX} {c : Cz} {Z B H Z' B' H' : Hp} {σ : L2.St} {ρ : List Y.S} {F G : List Addr} {v : V} {te ti tj tv tw : TE} {ya yb yj : YP} {yw : YW} {r : RV} {tr : TA} {yr : YA} {n : Nat}
/-- the tree at a path, opened -/
theorem PAt.opn {i : Nat} {π : List Stp} {d : D} (h : PAt H σ ρ i π v d) (I : EnvOk K T c Z H σ ρ F) : ∃ Fe, Ow K T Z c.B H v d Fe ∧ Fe.Nodup ∧ (∀ b ∈ Fe, b ∈ F) ∧
    ∀ Z' H' d' Fd, MStep Fe Z H Z' H' → ChG K T c.B Fe H Z' H' v d' Fd → ∃ F', EnvOk K T c Z' H' σ (upS ρ i π d') F' ∧ ∀ a ∈ F', a ∈ Fd ∨ (a ∈ F ∧ a ∉ Fe) := by
  obtain ⟨v0, r0, d0, h1, h2, h3⟩ := h.ex
  obtain ⟨o, F1, Fi, F2, e1, e2, e3, e4⟩ := I.sl.get h2
  obtain ⟨v1, e5, e7, o1⟩ := e3
  rw [h1] at e1
  have e6 : o = some v0 := (Option.some.inj e1).symm
  subst e6
  have : v0 = v1 := Option.some.inj e5
  subst this
  obtain ⟨G1, Ge, G2, i1, i2, i3⟩ := h3.split o1
  have inF : ∀ b ∈ Ge, b ∈ F := fun b hb => by rw [e2, i2]; exact List.mem_append_right _ (List.mem_append_left _ (List.mem_append_right _ (List.mem_append_left _ hb)))
  have nd := I.nd
  rw [e2, i2] at nd
  have ndE : Ge.Nodup := by
    have n1 := (List.nodup_append.mp nd).2.1
    have n2 := (List.nodup_append.mp n1).1
    have n3 := (List.nodup_append.mp n2).2.1
    exact (List.nodup_append.mp n3).1
  have fr3 : (F1 ++ G1 ++ (Ge ++ (G2 ++ F2))).Nodup := by
    have : F1 ++ G1 ++ (Ge ++ (G2 ++ F2)) = F1 ++ (G1 ++ (Ge ++ G2) ++ F2) := by simp
    rw [this]
    exact nd
  have eF : F = F1 ++ G1 ++ (Ge ++ (G2 ++ F2)) := by rw [e2, i2]; simp
  have out : ∀ b, b ∈ F1 ∨ b ∈ G1 ∨ b ∈ G2 ∨ b ∈ F2 → b ∈ F ∧ b ∉ Ge := fun b hb => by
    constructor
    · rw [eF]
      rcases hb with hb | hb | hb | hb <;> simp [hb]
    · intro aE
      rw [List.nodup_append] at fr3
      obtain ⟨_, m2, m3⟩ := fr3
      rw [List.nodup_append] at m2
      rcases hb with hb | hb | hb | hb
      · exact m3 b (List.mem_append_left _ hb) b (List.mem_append_left _ aE) rfl
      · exact m3 b (List.mem_append_right _ hb) b (List.mem_append_left _ aE) rfl
      · exact m2.2.2 b aE b (List.mem_append_left _ hb) rfl
      · exact m2.2.2 b aE b (List.mem_append_right _ hb) rfl
  refine ⟨Ge, i1, ndE, inF, fun Z' H' d' Fd m ch => ?_⟩
  have keep : ∀ b, b ∈ F ∧ b ∉ Ge → H' b = H b := fun b hb => by
    cases q : H b with
    | none => exact absurd q (I.there b hb.1)
    | some u => exact m.hh b u q hb.2
  have ow := i3 Z' H' d' Fd m.zz (fun b hb => keep b (out b (.inr (.inl hb)))) (fun b hb => keep b (out b (.inr (.inr (.inl hb))))) ch.ow
  have sl := e4 (some v0) (.own r0 (Y.put d0 π d')) _ Z' H' m.zz (fun b hb => keep b (out b (.inl hb))) (fun b hb => keep b (out b (.inr (.inr (.inr hb))))) ⟨v0, rfl, e7, ow⟩
  rw [set_self (show σ[i]? = some (some v0) from h1)] at sl
  have eu : upS ρ i π d' = ρ.set i (.own r0 (Y.put d0 π d')) := by
    unfold upS
    rw [h2]
  rw [eu]
  have eq : F1 ++ (G1 ++ (Fd ++ G2) ++ F2) = F1 ++ G1 ++ (Fd ++ (G2 ++ F2)) := by simp
  have dF : ∀ b ∈ Fd, b ∈ Ge ∨ b ∉ F := fun b hb => by
    rcases (ch.fr b hb).1 with y | y
    · exact .inr fun z => I.there b z y
    · exact .inl y
  refine ⟨_, ⟨m.zh, fun b u e => ?_, fun b u e n => ?_, fun b e => I.tr b (m.tr b e), sl, fun b hb => ?_, ?_, fun b hb => ?_⟩, fun b hb => ?_⟩
  · have : b ∉ Ge := fun z => by
      rw [(I.fr b (inF b z)).2.1] at e
      cases e
    exact m.hh b u (I.bh b u e) this
  · have : b ∉ Ge := fun z => by
      rcases (I.fr b (inF b z)).2.2 with y | y
      · rw [y] at e; cases e
      · exact n y
    exact m.hh b u (I.sm b u e n) this
  · have old : ∀ b, b ∈ F ∧ b ∉ Ge → Z' b = none ∧ c.B b = none ∧ (c.H0 b = none ∨ b ∈ c.W) := fun b hb => ⟨by
      cases q : Z' b with
      | none => rfl
      | some u =>
        rcases m.zn b (by rw [q]; exact fun z => nomatch z) with y | y | y
        · exact absurd (I.fr b hb.1).1 y
        · exact absurd y (I.there b hb.1)
        · exact absurd y hb.2, (I.fr b hb.1).2⟩
    rw [eq] at hb
    rcases List.mem_append.mp hb with hb | hb
    · exact old b (out b ((List.mem_append.mp hb).imp id .inl))
    · rcases List.mem_append.mp hb with hb | hb
      · refine ⟨(ch.fr b hb).2, ?_⟩
        rcases (ch.fr b hb).1 with y | y
        · exact ⟨same_none I.bh y, .inl (I.tr b y)⟩
        · exact (I.fr b (inF b y)).2
      · exact old b (out b (.inr (.inr (List.mem_append.mp hb))))
  · rw [eq]
    exact nodup3 fr3 ch.nd fun b hb => by
      rw [← eF]
      exact dF b hb
  · rcases m.zn b hb with y | y | y
    · exact I.zn b y
    · exact .inr (.inl (I.tr b y))
    · exact .inr (I.fr b (inF b y)).2.2
  · rw [eq] at hb
    rcases List.mem_append.mp hb with hb | hb
    · exact .inr (out b ((List.mem_append.mp hb).imp id .inl))
    · rcases List.mem_append.mp hb with hb | hb
      · exact .inl hb
      · exact .inr (out b (.inr (.inr (List.mem_append.mp hb))))
/-- the core of such a call -/
theorem callM_core {S : SpM} {i : Nat} {π : List Stp} {d : D} {p : Addr} {Z1 H1 : Hp} {G : List Addr} {vs : List V} {rs : List RV} {Q : RV → List Y.S → Prop} {X : Y.XE} {R : VK} {E : XK} (I : EnvOk K T c Z H σ ρ F) (s1 : PStep Z H Z1 H1) (hp : PAt H1 σ ρ i π (.ref p) d) (h1 : RvsG K T c H Z1 H1 F vs rs G) (nr : rs.any isRd = false)
    (hw : ∀ Z' H' ρ' F' cn fs od, Same Z Z' → EnvOk K T c Z' H' σ ρ' F' → ExAt K T c Z' H' od fs → X cn fs ρ' → E (.ref (T cn)) od H')
    (q : S d (rs.map arg) (fun r d' => Q r (upS ρ i π d')) fun cn fs d' => X cn fs (upS ρ i π d'))
    (k : ∀ v Z' H' ρ' F' r, Same Z Z' → EnvOk K T c Z' H' σ ρ' F' → RvE K T c Z' H' F' v r → Q r ρ' → R v H') : spM K T S (.ref p :: vs) H1 R E := by
  have s2 := frz_step s1 h1.free
  have I2 := I.p s2
  obtain ⟨Fe, o1, o2, o3, o4⟩ := hp.opn I2
  have nb : rs.any isRd = true → c.B = H1 := fun z => by rw [nr] at z; cases z
  refine ⟨frzZ Z1 H1 G, c.B, p, vs, d, Fe, rs.map arg, _, _, rfl, I2.zh, I2.bh, o1, o2, fun a ha => ⟨(I2.fr a (o3 a ha)).1, (I2.fr a (o3 a ha)).2.1⟩, args_ok h1 s1.zh (Same.refl _) nb, q, fun v Z' H' r d' Fd m ch hr q2 => ?_, fun cn fs od Z' H' d' Fd m ch ex q2 => ?_⟩
  · obtain ⟨F', J, hF⟩ := o4 Z' H' d' Fd m ch
    refine k v Z' H' _ F' r (Same.tr s2.zz m.zz) J ?_ q2
    cases r with
    | val d => exact hr
    | tmp d =>
      obtain ⟨G', g1, g2, g3⟩ := hr
      refine ⟨G', g1, g2, fun a ha => ?_⟩
      obtain ⟨h1, h2, h3⟩ := g3 a ha
      refine ⟨fun z => ?_, h2, ?_⟩
      · rcases hF a z with y | y
        · exact h1 y
        · rcases h3 with w | w
          · exact I2.there a y.1 w
          · exact y.2 w
      · rcases h3 with w | w
        · exact ⟨same_none I2.bh w, .inl (I2.tr a w)⟩
        · exact (I2.fr a (o3 a w)).2
    | rd d => exact hr.elim
  · obtain ⟨F', J, hF⟩ := o4 Z' H' d' Fd m ch
    refine hw Z' H' _ F' cn fs od (Same.tr s2.zz m.zz) J ?_ q2
    cases od with
    | none => exact ex
    | some dx => exact ex
/-- what is at a path is an object -/
theorem pat_obj {i : Nat} {π : List Stp} {d : D} {cn m : String} (I : EnvOk K T c Z H σ ρ F) (h : PAt H σ ρ i π v d) (io : isOf cn m (.rd d)) : ∃ a dx fs, v = .ref a ∧ H a = some (.ins (T cn) dx fs) ∧ fs.lookup (Str.ofString m) = none := by
  obtain ⟨G, o, hG⟩ := h.ow I
  exact isOf_at (Hs := H) (F := F) (r := .rd d) (G := []) ⟨rfl, G, o, hG⟩ I.zh I.bh io
theorem se_methM {S : SpM} {cn m : String} {ms : Str} {C : Addr} (hC : C = T cn) (hm : ms = Str.ofString m) (ho : SW K T W te yw) (hr : SA K T W n tr yr) : SE K T W (tMethS C ms (spM K T S) [] (WE W) te tr) (eMethM cn m S yw yr) := by
  subst hC hm
  exact fun c Z σ H ρ F Q X I hw q R k => ho c Z σ H ρ F _ _ I (WP.of I hw) q _ fun v1 Z1 H1 i π d s1 hp q1 => by
    have I1 := I.p s1
    obtain ⟨a, dx, fs, e1, e2, e3⟩ := pat_obj I1 hp q1.1
    refine ⟨a, dx, fs, e1, e2, e3, hr c Z1 σ H1 ρ F _ _ I1 (WP.of I1 fun Z' H' ρ' F' cn fs od z => hw Z' H' ρ' F' cn fs od (Same.tr s1.zz z)) q1.2 _ fun vs Z2 H2 rs G s2 h2 hl q2 => ?_⟩
    subst e1
    rw [List.append_nil]
    exact callM_core I (s1.trans s2) (hp.same s2.hh) (h2.from s1.hh) q2.1 (fun Z' H' ρ' F' cn fs od z J ex x => hw Z' H' ρ' F' cn fs od z J ex x) q2.2 k
theorem node_ref {d : D} {F : List Addr} (o : Ow K T Z B H v d F) (n : isNode d = true) : ∃ p, v = .ref p := by
  cases o <;> first | exact ⟨_, rfl⟩ | cases n
theorem se_callM {S : SpM} (ho : SW K T W te yw) (hr : SA K T W n tr yr) : SE K T W (tCallSD (spM K T S) [] (WE W) (L2.tCons te tr)) (eCallM S yw yr) :=
  fun c Z σ H ρ F Q X I hw q R k => ho c Z σ H ρ F _ _ I (WP.of I hw) q _ fun v1 Z1 H1 i π d s1 hp q1 => by
    have I1 := I.p s1
    obtain ⟨G, o, _⟩ := hp.ow I1
    obtain ⟨a, e1⟩ := node_ref o q1.1
    refine hr c Z1 σ H1 ρ F _ _ I1 (WP.of I1 fun Z' H' ρ' F' cn fs od z => hw Z' H' ρ' F' cn fs od (Same.tr s1.zz z)) q1.2 _ fun vs Z2 H2 rs G s2 h2 hl q2 => ?_
    subst e1
    show spM K T S (V.ref a :: vs ++ []) H2 R _
    rw [List.append_nil]
    exact callM_core I (s1.trans s2) (hp.same s2.hh) (h2.from s1.hh) q2.1 (fun Z' H' ρ' F' cn fs od z J ex x => hw Z' H' ρ' F' cn fs od z J ex x) q2.2 k
/-- o[j] = e, by an own __setitem__ -/
def gSubO (C : Addr) (sp : Sp) (E : L2.St → XK) (to ti : TE) : TG := fun v σ H Q => to σ H fun o H1 => ti σ H1 fun i H2 => ∃ a dx fs, o = .ref a ∧ H2 a = some (.ins C dx fs) ∧ sp [o, i, v] H2 (fun _ H3 => Q σ H3) (E σ)
theorem ss_setO {S : SpM} {cn : String} {C : Addr} (hC : C = T cn) (hw' : SW K T W te yw) (hj : SP K T W tj yj) (he : SP K T W tv yb) : SS K T W (tAsg tv (gSubO C (spM K T S) (WE W) te tj)) (sSetO cn S yw yj yb) := by
  subst hC
  exact fun c Z σ H ρ F k I hx q E ok => by
    refine he c Z σ H ρ F _ _ I (WP.of I hx.at) q _ fun v1 Z1 H1 r1 G1 s1 h1 q1 => ?_
    have I1 := I.p s1
    refine hw' c Z1 σ H1 ρ F _ _ I1 (WP.of I1 (hx.z s1.zz).at) q1 _ fun v3 Z3 H3 i π d s3 hp q3 => ?_
    have I3 := I1.p s3
    have hx3 := hx.z (Same.tr s1.zz s3.zz)
    refine hj c Z3 σ H3 ρ F _ _ I3 (WP.of I3 hx3.at) q3 _ fun v4 Z4 H4 r4 G4 s4 h4 q4 => ?_
    have I4 := I3.p s4
    obtain ⟨⟨o1, nr⟩, q5⟩ := q4
    have hp4 := hp.same s4.hh
    have h1' := (h1.p s3 I1.there).p s4 I3.there
    obtain ⟨Go, oo, _⟩ := hp4.ow I4
    obtain ⟨a, dx, fs, e1, e2⟩ : ∃ a dx fs, v3 = .ref a ∧ H4 a = some (.ins (T cn) dx fs) := by
      unfold isObj at o1
      split at o1
      · rename_i e
        have e : d = _ := e
        rw [e] at oo
        obtain ⟨p, dx, fs, F', rfl, c1, c2, _⟩ := ow_obj oo
        rw [o1] at c1
        exact ⟨p, dx, fs, rfl, cell_now I4.zh I4.bh c1⟩
      · exact o1.elim
    refine ⟨a, dx, fs, e1, e2, ?_⟩
    subst e1
    have hv : RvsG K T c H Z4 H4 F [v4, v1] [r4, r1] (G4 ++ (G1 ++ [])) := .cons (h4.from (Same.tr s1.hh s3.hh)) (.cons h1' .nil fun a _ h => by cases h) fun a ha hb => by
      have hb : a ∈ G1 := by simpa using hb
      exact h1.there a hb (same_none s3.hh (h4.free a ha).1)
    exact callM_core (R := fun _ H3 => E.nx σ H3) (Q := fun _ ρ' => k.nx ρ') (X := k.ex) I (s1.trans (s3.trans s4)) hp4 hv nr (fun Z' H' ρ' F' cn fs od z J ex x => hx Z' σ H' ρ' F' cn fs od z J ex x) q5 fun v Z' H' ρ' F' r z J _ q => ok.nx Z' σ H' ρ' F' z J q
end
/-! ### the machine's own __setitem__, __getitem__ -/
section
variable {X : Cx} {CX : CXT} {k : Nat} {f C : Addr} {fd : FuncData} {ps : List Str} {sp : Sp} {E : L2.St → XK} {pos : Pos} {a b o i : Expr} {ta tb to ti : TE}
theorem setItem_own {prog : Program} {w : World} {A : Around} {E : Value → Shared → Prop} {s : Shared} {K : PySem.W.Frag} {x C L f : Addr} {h₀ : Heap} {m : Str → Option Value} {ox : Obj} {od : Option Obj} {j v : Value} {Q : Unit → Shared → Prop} (F : Fr h₀ L s.heap m) (X₀ : K.In h₀) (I : PySem.W.InstAt s.heap x ox C od) (hq : PySem.W.noSeq K C = true) (hs : PySem.W.findIn K (.ref C) "__setitem__" = some (some (.ref f))) (hf : PySem.W.isFn K (.ref f) = true)
    (h : wpAny (model prog w) A (call (.ref f) [.ref x, j, v]) (fun _ s' => Q () s') E s) : wpAny (model prog w) A (setItem (.ref x) j v) Q E s := by
  have X := X₀.keeps F.keep
  unfold setItem sequenceKey
  refine wpAny_holding (wpAny_bind (wpAny_bind (I.type.here ?_)))
  refine wpAny_bind ((PySem.W.anyM_none X hq).here ?_)
  rw [if_pos (show (!false) = true from rfl)]
  exact wpAny_pure (wpAny_bind (PySem.W.special_fn X I hs (beq_iff_eq.mp hf) (wpAny_mono h (fun _ _ z => wpAny_pure z) fun _ _ z => z)))
theorem pg_subO (F : FnOk X.prog X.w X.K X.mg X.base CX k f fd ps sp) (hr : Room k X.A) (hb : Binds X.K fd ps []) (hx : ∀ σ, PassesAt CX X σ (E σ)) (hq : PySem.W.noSeq X.K C = true) (hs : PySem.W.findIn X.K (.ref C) "__setitem__" = some (some (.ref f))) (hf : PySem.W.isFn X.K (.ref f) = true) (ho : PE X o to) (hi : PE X i ti)
    (ha : ∀ v, assign (.Subscript o i pos) X.env v = (do
      let ov ← holding [v] (eval o X.env)
      let iv ← holding [v, ov] (eval i X.env)
      standAt pos
      holding [v, ov, iv] (setItem ov iv v)
      release [v, ov, iv] []) := by intro _; rfl) : PG X (.Subscript o i pos) (gSubO C sp E to ti) := by
  refine ⟨fun pins s σ H v u Q I r h => ?_⟩
  rw [ha]
  refine wpAny_bind (wpAny_holding (thn (ho.run pins s σ H _ I h) fun ov s1 ⟨x, H1, I1, r1, q1⟩ => ?_))
  refine wpAny_bind (wpAny_holding (thn (hi.run pins s1 σ H1 _ I1 q1) fun iv s2 ⟨y, H2, I2, r2, q2⟩ => ?_))
  obtain ⟨p, dx, fs, rfl, hp, q⟩ := q2
  cases r1
  obtain ⟨mA, J, _⟩ := ins_get I2.hok hp
  obtain ⟨od, J, _⟩ := J.look
  obtain ⟨m, hF⟩ := I2.fr
  have run := run_fnSD (us := [.ref p, iv, u]) (vs := [.ref p, y, v]) F hr hb .nil (hx σ) I2 (.cons rfl (.cons r2 (.cons r .nil))) q
  refine wpAny_bind (wpAny_standAt (wpAny_bind (wpAny_holding ?_)))
  refine setItem_own hF I2.ok.mod.kin J hq hs hf (wpAny_mono run (fun w s3 hw => ?_) fun _ _ e => e)
  obtain ⟨v3, H3, I3, _, q3⟩ := hw
  exact wpAny_release ⟨σ, H3, I3, q3⟩
/-- o[j], by an own __getitem__ -/
def tIxO (C : Addr) (sp : Sp) (E : L2.St → XK) (ta tb : TE) : TE := fun σ H Q => ta σ H fun x H1 => tb σ H1 fun y H2 => ∃ a dx fs, x = .ref a ∧ H2 a = some (.ins C dx fs) ∧ sp [x, y] H2 Q (E σ)
theorem pe_ixO (F : FnOk X.prog X.w X.K X.mg X.base CX k f fd ps sp) (hr : Room (k + 1) X.A) (hb : Binds X.K fd ps []) (hx : ∀ σ, PassesAt CX X σ (E σ)) (hs : PySem.W.findIn X.K (.ref C) "__getitem__" = some (some (.ref f))) (hfi : PySem.W.fnIn X.K f = true) (hf : PySem.W.isFn X.K (.ref f) = true) (ha : PE X a ta) (hb' : PE X b tb)
    (hsl : ∀ o j, subscripted b true o j = runValue (.builtin "lifetime.subscript" ⟨[o, j], []⟩)) :
    PE X (.Subscript a b pos) (tIxO C sp E ta tb) := by
  refine ⟨fun pins s σ H Q I h => Subscript_ (binT ha hb' I h fun v u s2 x y H2 I2 rx ry q => ?_)⟩
  obtain ⟨p, dx, fs, rfl, hp, q⟩ := q
  cases rx
  obtain ⟨mA, J, _⟩ := ins_get I2.hok hp
  obtain ⟨od, J, _⟩ := J.look
  obtain ⟨m, hF⟩ := I2.fr
  have hl : ([Value.ref p, u] ++ ([] : List Value)).length = ps.length := (F.len _ _ _ _ q)
  refine PySem.W.sub_K hF I2.ok.mod.kin J hs hfi hf (wpAny_call (codeAny_mono (F.run X.A.in1 X.stack s2 H2 ⟨[.ref p, u], []⟩ [.ref p, u] [.ref p, y] Q (E σ) hr.in1 I2.env0.in1 (by have b := hb s2 [.ref p, u] I2.kIn hl; rw [List.append_nil] at b; exact b) (.cons rfl (.cons ry .nil)) q) fun r s' hq => ?_)) (hsl _ _)
  cases r with
  | error e => exact hx σ pins H2 s2 e s' I2 hq
  | ok fl =>
    cases fl with
    | ret u => exact I2.after hq
    | next => exact False.elim hq
    | brk => exact False.elim hq
    | cont => exact False.elim hq
end
section
variable {K : PySem.W.Frag} {T : Tb} {W : WX} {Z B H : Hp} {v : V} {ta tb : TE} {ya yb : YP}
theorem ixO_core {S : DSp} {cn : String} {X' : XD} (ha : SP K T W ta ya) (hb : SP K T W tb yb) (c : Cz) (Z : Hp) (σ : L2.St) (H : Hp) (ρ : List Y.S) (F : List Addr) (Q : RV → Prop) (X : XD) (I : EnvOk K T c Z H σ ρ F) (hw : WP K T c W Z σ H X) (E : XK)
    (hE : ∀ Z' H' cn fs od, PStep Z H Z' H' → ExAt K T c Z' H' od fs → X' cn fs → E (.ref (T cn)) od H')
    (q : ya ρ (fun x => yb ρ (fun y => isObj cn x ∧ S [arg x, arg y] (fun r => if [x, y].any isRd = true then nbor r.d = true ∧ Q r else Q r) fun cn fs => if [x, y].any isRd = true then fsD fs = true ∧ X' cn fs else X' cn fs) X) X) (R : VK) (k : ∀ v Z' H' r G, PStep Z H Z' H' → RvG K T c H Z' H' F v r G → Q r → R v H') :
    ta σ H fun x H1 => tb σ H1 fun y H2 => ∃ a dx fs, x = .ref a ∧ H2 a = some (.ins (T cn) dx fs) ∧ spP K T S [x, y] H2 R E :=
  ha c Z σ H ρ F _ X I hw q _ fun v1 Z1 H1 r1 G1 s1 h1 q1 => hb c Z1 σ H1 ρ F _ X (I.p s1) (hw.p s1) q1 _ fun v2 Z2 H2 r2 G2 s2 h2 q2 => by
    have I1 := I.p s1
    have I2 := I1.p s2
    have h1' := h1.p s2 I1.there
    obtain ⟨o1, q3⟩ := q2
    obtain ⟨a, dx, fs, e1, e2⟩ := isObj_at h1' I2.zh I2.bh o1
    refine ⟨a, dx, fs, e1, e2, ?_⟩
    exact call_core I (s1.trans s2) (.cons h1' (.cons (h2.from s1.hh) .nil fun a _ h => by cases h) fun a h3 h4 => h1.there a h3 (h2.free a (by simpa using h4)).1) hE q3 k
theorem sp_ixO {S : DSp} {cn : String} {C : Addr} (hC : C = T cn) (ha : SP K T W ta ya) (hb : SP K T W tb yb) : SP K T W (tIxO C (spP K T S) (WE W) ta tb) (yIxO cn S ya yb) := by
  subst hC
  exact fun c Z σ H ρ F Q X I hw q R k => ixO_core (X' := X) ha hb c Z σ H ρ F Q X I hw (WE W σ) (fun Z' H' cn fs od s ex x => hw Z' H' cn fs od s ex x) q R k
theorem sp_ixON {S : DSp} {cn : String} {C : Addr} (hC : C = T cn) (ha : SP K T W ta ya) (hb : SP K T W tb yb) : SP K T W (tIxO C (spP K T S) (fun _ => E0) ta tb) (yIxON cn S ya yb) := by
  subst hC
  exact fun c Z σ H ρ F Q X I hw q R k => ixO_core (X' := X0) ha hb c Z σ H ρ F Q X I hw E0 (fun Z' H' cn fs od s ex x => x.elim) (by simp only [noX]; exact q) R k
end
/-! ### such a def -/
section
variable {P : Program} {w : World} {K : PySem.W.Frag} {mg : Str → Option Value} {base : Heap} {T : Tb}
theorem spM_imp {S S' : SpM} (h : ∀ d ds R X, S d ds R X → S' d ds R X) : ∀ vs H Q E, spM K T S vs H Q E → spM K T S' vs H Q E := fun vs H Q E ⟨Z, B, p, ws, d, Fe, ds, R, X, e, z, b, o, n, f, a, s, k⟩ => ⟨Z, B, p, ws, d, Fe, ds, R, X, e, z, b, o, n, f, a, h _ _ _ _ s, k⟩
theorem fn_M {x qual : Str} {st : Stmt} {f : Addr} {fd : FuncData} {N ps : List Str} {k m n : Nat} {body : YS} (F : Fun K x qual st f fd) (Sc : FnScope N ps (defScope st)) (hm : ps.length = m + 1) (hn : N.length = m + 1 + n)
    (bd : ∀ (cdv : Value) (A : Around) (outer : List Env) (s : Shared) (H : Hp) (E : XK), Room k (A.deeper (envOfC qual (defScope st) s.heap.objs.size f cdv)) →
      ∃ t, PSs (cxOf (L2N.CX P w) P w K mg base N qual (defScope st) f cdv A outer s H E) (defBody st) t ∧ SS K T (WD E) t body) :
    FnOk P w K mg base (L2N.CX P w) (k + 1) f fd ps (spM K T (defM m n body)) := by
  refine okN F Sc (fun vs H Q E h => ?_) fun cdv A outer s H vs Q E hr h => ?_
  · obtain ⟨Z, B, p, ws, d, Fe, ds, R, X, rfl, _, _, _, _, _, o, hs, _⟩ := h
    rw [List.length_cons, o.length, hs.1, hm]
  · obtain ⟨t, ht, sd⟩ := bd cdv A outer s H E hr
    obtain ⟨Z, B, p, ws, d, Fe, ds, R, X, rfl, z, b, od, nd, fr, o, hs, kr, kx⟩ := h
    have I : EnvOk K T ⟨B, Fe, H, Z⟩ Z H (L2.start N (V.ref p :: ws)) (S.own (some p) d :: (ds.map S.val ++ List.replicate n .no)) (Fe ++ []) := by
      refine ⟨z, b, fun a u e _ => e, fun a e => e, ?_, fun a ha => ?_, by simpa using nd, fun a e => .inl e⟩
      · unfold L2.start
        have : N.length - (V.ref p :: ws).length = n := by rw [List.length_cons, o.length, hs.1]; omega
        rw [this]
        exact Slots.cons (F := Fe) (G := []) ⟨.ref p, rfl, fun a z => (by cases z; rfl), od⟩ (slots_val (c := ⟨B, Fe, H, Z⟩) n o)
      · have ha : a ∈ Fe := by simpa using ha
        exact ⟨(fr a ha).1, (fr a ha).2, .inr ha⟩
    have st' : ∀ {Z' H' σ' ρ' F'}, Same Z Z' → EnvOk K T ⟨B, Fe, H, Z⟩ Z' H' σ' ρ' F' → MStep Fe Z H Z' H' := fun {Z' H' σ' ρ' F'} zz J =>
      ⟨zz, J.zh, fun a u e n => J.sm a u e n, J.tr, fun a e => J.zn a e⟩
    have fin : ∀ {Z' H' σ' ρ' F'} {R' : D → Prop}, EnvOk K T ⟨B, Fe, H, Z⟩ Z' H' σ' ρ' F' → own0 p ρ' R' → ∃ d' Fd, ChG K T B Fe H Z' H' (.ref p) d' Fd ∧ R' d' ∧ ∀ a ∈ Fd, a ∈ F' := fun {Z' H' σ' ρ' F' R'} J q => by
      unfold own0 at q
      split at q
      · rename_i r d e
        obtain ⟨o, F1, Fi, F2, e1, e2, e3, _⟩ := J.sl.get e
        obtain ⟨v, rfl, e4, ow⟩ := e3
        have := e4 p q.1
        subst this
        have nd := J.nd
        rw [e2] at nd
        have sub : ∀ a ∈ Fi, a ∈ F' := fun a ha => by rw [e2]; exact List.mem_append_right _ (List.mem_append_left _ ha)
        exact ⟨d, Fi, ⟨ow, (List.nodup_append.mp (List.nodup_append.mp nd).2.1).1, fun a ha => ⟨(J.fr a (sub a ha)).2.2, (J.fr a (sub a ha)).1⟩⟩, q.2, sub⟩
      · exact q.elim
    refine ⟨t, ht, sd ⟨B, Fe, H, Z⟩ Z _ H _ (Fe ++ []) _ I (fun Z' σ' H' ρ' F' cn fs od zz J ex x => ?_) (hs.2 p).go _ ⟨fun Z' σ' H' ρ' F' zz J q => ?_, fun v Z' σ' H' ρ' F' r zz J hr nr q => ?_, fun _ _ _ _ _ _ _ z => z.elim, fun _ _ _ _ _ _ _ z => z.elim⟩⟩
    · obtain ⟨d', Fd, ch, q, _⟩ := fin J x
      refine kx cn fs od Z' H' d' Fd (st' zz J) ch ?_ q
      cases od with
      | none => exact ex
      | some dx => exact ex
    · obtain ⟨d', Fd, ch, q, _⟩ := fin J q
      exact kr .non Z' H' (.val .non) d' Fd (st' zz J) ch .non q
    · obtain ⟨d', Fd, ch, q, sub⟩ := fin J q
      refine kr v Z' H' r d' Fd (st' zz J) ch ?_ q
      cases r with
      | val d => exact hr
      | tmp d =>
        obtain ⟨G, h1, h2, h3⟩ := hr
        exact ⟨G, h1, h2, fun a ha => ⟨fun z => (h3 a ha).1 (sub a z), (h3 a ha).2.1, (h3 a ha).2.2.2⟩⟩
      | rd d => cases nr
end
end Y

/-! YY: list * int, the rest of a def. -/
namespace Y
open PySem PySem.Spec PyProof.Rows L2
section
variable {K : PySem.W.Frag} {T : Tb} {W : WX} {c : Cz} {Z B H Z' B' H' : Hp} {v : V} {ta tb te : TE} {ya yb : YP} {ts : TS} {ys : YS}
theorem ss_cut (h : SS K T W ts ys) : SS K T W ts (sCut ys) := fun c Z σ H ρ F k I hx q E ok => h c Z σ H ρ F k I hx q.go E ok
theorem flats_at {xs : List V} {ds : List D} (h : OwAll K T Z B H xs ds []) : ∀ n : Nat, OwAll K T Z B H (List.replicate n xs).flatten (List.replicate n ds).flatten []
  | 0 => .nil
  | n + 1 => by
    rw [List.replicate_succ, List.replicate_succ, List.flatten_cons, List.flatten_cons]
    exact AtAll.append h (flats_at h n)
theorem sp_mulL (ha : SP K T W ta ya) (hb : SP K T W tb yb) : SP K T W (tOp rMulZ ta tb) (yMulL ya yb) := fun c Z σ H ρ F Q X I hw q R k =>
  ha c Z σ H ρ F _ X I hw q _ fun v1 Z1 H1 r1 G1 s1 h1 q1 => hb c Z1 σ H1 ρ F _ X (I.p s1) (hw.p s1) q1 _ fun v2 Z2 H2 r2 G2 s2 h2 q2 => by
    have I2 := (I.p s1).p s2
    have h1' := h1.p s2 (I.p s1).there
    obtain ⟨l1, q2⟩ := q2
    obtain ⟨ds, p, xs, q3, rfl, e3, o3⟩ := els_ok h1' I2.zh I2.bh q2
    have a1 := lst_now h1' I2.zh I2.bh e3 l1
    obtain ⟨G', o2⟩ := h2.ow
    have n1 := o3.length
    split at q3
    · rename_i n e
      rw [e] at o2
      have := o2.int_iff
      subst this
      obtain ⟨⟨n0, n1', n2⟩, q4⟩ := q3
      refine .inr (.inr ⟨p, n, xs, rfl, rfl, a1, by omega, by omega, by rw [n1]; exact sz_of n2, fun p' hp' => ?_⟩)
      exact new_lst (frz_step (s1.trans s2) h1'.free) (flats_at o3 _) hp' q4 k
    · exact q3.elim
end
end Y

/-! YHO: defs called within an except suite. -/
theorem L2H.RoomH.units {k : Nat} {A : PySem.Around} (r : L2H.RoomH k A) : A.units + 64 < PySem.cLine := by
  have := r.un
  omega
namespace Y
open PySem PySem.Spec PyProof.Rows L2
section
variable {P : Program} {w : World} {K : PySem.W.Frag} {mg : Str → Option Value} {base : Heap} {T : Tb}
structure CalH (P : Program) (w : World) (K : PySem.W.Frag) (mg : Str → Option Value) (base : Heap) (CX : CXT) (k : Nat) (x : Str) (ps : List Str) (sp : Sp) (f : Addr) (fd : FuncData) : Prop where
  G : L2H.FnH P w K mg base CX k f fd ps sp
  mg : mg x = some (.ref f)
  kp : PySem.W.keepIn K (.ref f) = true
  b : Binds K fd ps []
theorem fnH_imp {CX : CXT} {k : Nat} {f : Addr} {fd : FuncData} {ps : List Str} {sp sp' : Sp} (F : L2H.FnH P w K mg base CX k f fd ps sp) (h : ∀ vs H Q E, sp' vs H Q E → sp vs H Q E) : L2H.FnH P w K mg base CX k f fd ps sp' :=
  ⟨fun vs H Q E q => F.len vs H Q E (h vs H Q E q), fun A outer s H args us vs Q E p hr hot pin e0 b r q => F.run A outer s H args us vs Q E p hr hot pin e0 b r (h vs H Q E q)⟩
theorem fnH_none {CX : CXT} {k : Nat} {f : Addr} {fd : FuncData} {ps : List Str} {sp : Sp} (h : ∀ vs H Q E, ¬ sp vs H Q E) : L2H.FnH P w K mg base CX k f fd ps sp :=
  ⟨fun vs H Q E q => (h vs H Q E q).elim, fun A outer s H args us vs Q E p hr hot pin e0 b r q => (h vs H Q E q).elim⟩
/-- what a body's walk comes to -/
theorem body_run {N : List Str} {n m : Nat} {body : YS} {t : TS} {H : Hp} {vs : List V} {Q : VK} {E : XK} (hn : N.length = m + n) (sd : SS K T (WD E) t body) (h : spP K T (defP m n body) vs H Q E) : t { nx := fun _ H' => Q .non H', rt := Q } (L2.start N vs) H := by
  obtain ⟨Z, B, ds, R, X, z, b, o, hs, kr, kx⟩ := h
  have I : EnvOk K T ⟨B, [], H, Z⟩ Z H (L2.start N vs) (ds.map Y.S.val ++ List.replicate n .no) [] := by
    refine ⟨z, b, fun a u e _ => e, fun a e => e, ?_, fun a ha => (by cases ha), List.nodup_nil, fun a e => .inl e⟩
    unfold L2.start
    have : N.length - vs.length = n := by rw [o.length, hs.1]; omega
    rw [this]
    exact slots_val (c := ⟨B, [], H, Z⟩) n o
  have st' : ∀ {Z' H' σ' ρ' F'}, Same Z Z' → EnvOk K T ⟨B, [], H, Z⟩ Z' H' σ' ρ' F' → PStep Z H Z' H' := fun {Z' H' σ' ρ' F'} zz J => ⟨zz, fun a u e => J.sm a u e (by simp), fun a e => (J.zn a e).elim .inl fun h => h.elim .inr fun h => (by cases h), J.zh⟩
  refine sd ⟨B, [], H, Z⟩ Z _ H _ [] _ I (fun Z' σ' H' ρ' F' cn fs od zz J ex x => kx cn fs od Z' H' (st' zz J) ex x) hs.2.go _ ⟨fun Z' σ' H' ρ' F' zz J q => ?_, fun v Z' σ' H' ρ' F' r zz J hr nr q => ?_, fun _ _ _ _ _ _ _ z => z.elim, fun _ _ _ _ _ _ _ z => z.elim⟩
  · exact kr .non Z' H' (.val .non) [] (st' zz J) ⟨rfl, .non⟩ rfl q
  · cases r with
    | val d => exact kr v Z' H' (.val d) [] (st' zz J) ⟨rfl, hr⟩ rfl q
    | tmp d =>
      obtain ⟨G, h1, h2, h3⟩ := hr
      exact kr v Z' H' (.tmp d) G (st' zz J) ⟨h1, h2, fun a ha => ⟨(h3 a ha).2.2.2.elim id fun h => (by cases h), (h3 a ha).2.1⟩⟩ rfl q
    | rd d => cases nr
theorem fn_H {x qual : Str} {st : Stmt} {f : Addr} {fd : FuncData} {N ps : List Str} {k m n : Nat} {body : YS} (F : Fun K x qual st f fd) (Sc : FnScope N ps (defScope st)) (hm : ps.length = m) (hn : N.length = m + n)
    (bd : ∀ (cdv : Value) (A : Around) (outer : List Env) (s : Shared) (H : Hp) (E : XK) (p : Addr × Obj), L2H.Hot1 A p → L2H.RoomH k (A.deeper (envOfC qual (defScope st) s.heap.objs.size f cdv)) →
      ∃ t, PSs (L2H.cxH (L2N.CX P w) P w K mg base N qual (defScope st) f cdv A outer s H E p) (defBody st) t ∧ SS K T (WD E) t body) :
    L2H.FnH P w K mg base (L2N.CX P w) (k + 1) f fd ps (spP K T (defP m n body)) := by
  obtain ⟨oc, od, kV, doc, pm, an, cdv, ct, osl, rfl, lk, hcd⟩ := F.ex
  refine L2H.fn_ofH lk hcd Sc (fun vs H Q E h => ?_) fun A outer s H vs Q E p hot hr h => ?_
  · obtain ⟨Z, B, ds, R, X, _, _, o, hs, _⟩ := h
    rw [o.length, hs.1, hm]
  · obtain ⟨t, ht, sd⟩ := bd cdv A outer s H E p hot hr
    exact ⟨t, ht, body_run hn sd h⟩
theorem hotB {CX : CXT} {N : List Str} {qual : Str} {scope : Scope} {f : Addr} {cd : Value} {A : Around} {outer : List Env} {s : Shared} {H : Hp} {E : XK} {p : Addr × Obj} (h : L2H.Hot1 A p) : L2H.HotC (L2H.cxH CX P w K mg base N qual scope f cd A outer s H E p) := ⟨p, ⟨h.1, h.2⟩, by simp [L2H.cxH]⟩
theorem hotS {X : Cx} {a : Addr} {oe : Obj} {cls : Value} {d : Option Addr} {pn : List (Addr × Obj)} (hz : L2N.Zn cls d oe) (hf : ∃ vs, oe.data = .fields vs) : L2H.HotC (X.suite a ((a, oe) :: pn)) := by
  obtain ⟨vs, e⟩ := hf
  exact ⟨(a, oe), ⟨rfl, vs, e, hz.2.2 vs e⟩, List.mem_cons_self⟩
theorem roomS {X : Cx} {k : Nat} {a : Addr} {pn : List (Addr × Obj)} (r : Room k X.A) : L2H.RoomH k (X.suite a pn).A := ⟨r.dp, r.un⟩
theorem passS {X : Cx} {a : Addr} {pn : List (Addr × Obj)} {σ : L2.St} : PassesAt (L2N.CX X.prog X.w) (X.suite a pn) σ E0 := fun p H s e s' I h => (passN (X := X.suite a pn)) p σ H s e s' I h
end
end Y

/-! YZ: staticmethods; comprehensions of two clauses. -/
namespace Y
open PySem PySem.Spec PyProof.Rows L2
/-! ### C.m(..), m a staticmethod -/
structure SMet (K : PySem.W.Frag) (C : Addr) (m : Str) (p g : Addr) : Prop where
  at_ : PySem.W.findCls K (.ref C) (.type "type") m = some (.get (.builtin "staticmethod.__get__") (.ref p) .none (.ref C))
  rc : ∃ rest, PySem.W.recIn K p "staticmethod" = some (.ref g :: rest)
  kp : PySem.W.keepIn K (.ref g) = true
section
variable {X : Cx} {CX : CXT} {k : Nat} {g C p : Addr} {sp : Sp} {E : L2.St → XK} {m : Str} {pos apos : Pos} {e o : Expr} {es : List Expr} {ta : TE} {t : TA}
def tSMethS (C : Addr) (sp : Sp) (E : L2.St → XK) (ta : TE) (t : TA) : TE := fun σ H Q => ta σ H fun x H1 => x = .ref C ∧ t σ H1 fun vs H2 => sp vs H2 Q (E σ)
theorem pe_smethS {pl : Sem Bool} (he : PE X o ta) (r : ClX.CRead X.K C (.type "type")) (c : SMet X.K C m p g) (F : FnR X.prog X.w X.K X.mg X.base CX k g sp) (hr : Room k X.A) (hx : ∀ σ, PassesAt CX X σ (E σ)) (ha : PA X (e :: es) t)
    (hst : starEach (e :: es) X.env = (false, eval e X.env) :: starEach es X.env := by rfl) (hpl : (backTo pos (starEach es X.env)).any (·.1) = false := by rfl)
    (ht : eval (.Call (.Attribute o m apos) (e :: es) [] pos) X.env = (do
      let ov ← eval o X.env
      standAt apos.atName
      let (f, first) ← holding [ov] (getMethod ov m pl)
      callWith pos f first (backTo pos (starEach (e :: es) X.env)) (backToKw pos (keywordEach [] X.env))) := by rfl) :
    PE X (.Call (.Attribute o m apos) (e :: es) [] pos) (tSMethS C sp E ta t) := by
  refine ⟨fun pins s σ H Q I h => ?_⟩
  refine PySem.W.methodCall_KW (pl := pl) (thn (he.run pins s σ H _ I h) fun u s1 ⟨x, H1, I1, rx, ex, q⟩ => ?_) ht
  subst ex
  obtain rfl : u = Value.ref C := rx
  obtain ⟨rest, hp⟩ := c.rc
  refine PySem.W.method_cls I1.kIn r.ga (PySem.W.cls_bind I1.kIn r.rd c.at_ (wpAny_call (PySem.W.sm_get (s := { s1 with toks := s1.toks + 1 }) I1.kIn hp (PySem.W.handed_on rfl ?_))))
  have I2 := I1.tok (s1.toks + 1)
  exact PySem.W.callWith_K (first := []) (h₀ := X.base) I2.ok.mod.kin c.kp (thn (ha.run pos pins _ σ H1 _ I2 q) fun us s3 ⟨vs, H2, I3, rv, q2⟩ => ⟨I3.kIn, wpAny_call (run_fnRS F hr (hx σ) I3 rv q2)⟩) hst hpl
end
/-- a staticmethod -/
structure CalS (P : Program) (w : World) (K : PySem.W.Frag) (mg : Str → Option Value) (base : Heap) (CX : CXT) (k : Nat) (C : Addr) (m : Str) (sp : Sp) (p f : Addr) : Prop where
  G : FnR P w K mg base CX k f sp
  rd : ClX.CRead K C (.type "type")
  cm : SMet K C m p f
section
variable {K : PySem.W.Frag} {T : Tb} {W : WX} {tr : TA} {yr : YA} {n : Nat}
theorem sp_smeth {S : DSp} {cn : String} {C : Addr} (hC : C = T cn) (hr : SA K T W n tr yr) : SP K T W (tSMethS C (spP K T S) (WE W) (tC (.ref C)) tr) (yCall S yr) := by
  subst hC
  exact fun c Z σ H ρ F Q X I hw q R k => ⟨rfl, hr c Z σ H ρ F _ X I hw q _ fun vs Z1 H1 rs G s1 h1 hl q1 => call_core I s1 h1 (fun Z' H' cn fs od s ex x => hw Z' H' cn fs od s ex x) q1 k⟩
theorem sp_smethN {S : DSp} {cn : String} {C : Addr} (hC : C = T cn) (hr : SA K T W n tr yr) : SP K T W (tSMethS C (spP K T S) (fun _ => E0) (tC (.ref C)) tr) (yCallN S yr) := by
  subst hC
  exact fun c Z σ H ρ F Q X I hw q R k => ⟨rfl, hr c Z σ H ρ F _ X I hw q _ fun vs Z1 H1 rs G s1 h1 hl q1 => call_core (X := X0) I s1 h1 (fun Z' H' cn fs od s ex x => x.elim) (callN_x q1) k⟩
end
/-! ### comprehensions of two clauses -/
section
variable {K : PySem.W.Frag} {T : Tb} {W : WX} {c : Cz} {Z B H Z' B' H' : Hp} {σ : L2.St} {ρ : List S} {F : List Addr} {te : TE} {ya : YP} {tt tt1 : TT} {yt yt1 : YB} {g g1 : TG} {p p1 : Pat}
theorem ItH.walk {J : It} {ds : List D} (h : ItH K T Z B H J ds) (s : Same H H') : J.stop ds.length H' ∧ (∀ i, i < ds.length → J.go i H') ∧
    ∀ i x H2, J.yld i H' x H2 → i < ds.length → H2 = H' ∧ ∃ y, ds[i]? = some y ∧ ∀ Z' H3, Same Z Z' → Ow K T Z' B H3 x y [] := by
  cases h with
  | @lst a xs _ h1 h2 =>
    have sq : SqL K H' a xs := SqL.of (s _ _ h1)
    have hl := h2.length
    refine ⟨⟨xs, sq, by omega⟩, fun i hi => ⟨xs, xs[i]'(by omega), sq, by simp [hl, hi]⟩, fun i x H2 y _ => ⟨y.1, ?_⟩⟩
    obtain ⟨d, hd, m⟩ := AtAll.getV h2 (y.2 xs sq)
    exact ⟨d, hd, fun Z' H3 z => m.still z (Same.refl _)⟩
  | @tup a xs _ h1 h2 =>
    have sq : SqT K H' a xs := SqT.of (s _ _ h1)
    have hl := h2.length
    refine ⟨⟨xs, sq, by omega⟩, fun i hi => ⟨xs, xs[i]'(by omega), sq, by simp [hl, hi]⟩, fun i x H2 y _ => ⟨y.1, ?_⟩⟩
    obtain ⟨d, hd, m⟩ := AtAll.getV h2 (y.2 xs sq)
    exact ⟨d, hd, fun Z' H3 z => m.still z (Same.refl _)⟩
  | @rng lo n =>
    rw [List.length_map, List.length_range]
    exact ⟨Nat.le_refl _, fun i hi => hi, fun i x H2 y hi => ⟨y.1, .int (lo + (i : Nat)), by rw [List.getElem?_map, List.getElem?_range hi]; rfl, fun Z' H3 z => by rw [y.2]; exact .int _⟩⟩
  | @rgc lo cc n =>
    rw [List.length_map, List.length_range]
    exact ⟨Nat.le_refl _, fun i hi => hi, fun i x H2 y hi => ⟨y.1, .int (lo + (i : Nat) * cc), by rw [List.getElem?_map, List.getElem?_range hi]; rfl, fun Z' H3 z => by rw [y.2]; exact .int _⟩⟩
theorem ItOk.walk {J : It} {ds : List D} (h : ItOk K T Z B H J ds) (z : Same Z H') (b : Same B H') : J.stop ds.length H' ∧ (∀ i, i < ds.length → J.go i H') ∧
    ∀ i x H2, J.yld i H' x H2 → i < ds.length → H2 = H' ∧ ∃ y, ds[i]? = some y ∧ ∀ Z' H3, Same Z Z' → Ow K T Z' B H3 x y [] := by
  have h' : ItH K T Z B H' J ds := by
    cases h with
    | lst h1 h2 => exact .lst (h1.elim (z _ _) (b _ _)) (h2.still (Same.refl _) (Same.refl _))
    | tup h1 h2 => exact .tup (z _ _ h1) (h2.still (Same.refl _) (Same.refl _))
    | rng => exact .rng
    | rgc => exact .rgc
  exact h'.walk (Same.refl _)
/-- the list under way -/
structure Pl2 (K : PySem.W.Frag) (T : Tb) (c : Cz) (Z1 H1 : Hp) (D0 : Addr) (N : Nat) (es : List D) (Z H : Hp) : Prop where
  ex : ∃ (xs : List V) (G : List Addr), PStep Z1 H1 Z H ∧ H D0 = some (.lst xs) ∧ Z D0 = none ∧ OwAll K T Z c.B H xs es G ∧ G.Nodup ∧ (∀ a ∈ G, H1 a = none ∧ Z a = none ∧ a ≠ D0) ∧ es.length ≤ N
theorem Pl2.ps {Z1 H1 : Hp} {D0 : Addr} {N : Nat} {es : List D} (pl : Pl2 K T c Z1 H1 D0 N es Z H) : PStep Z1 H1 Z H := pl.ex.elim fun _ h => h.elim fun _ h => h.1
theorem Pl2.step {Z1 H1 : Hp} {D0 : Addr} {N M : Nat} {es : List D} (pl : Pl2 K T c Z1 H1 D0 N es Z H) (s3 : PStep Z H Z' H') (hm : N ≤ M) : Pl2 K T c Z1 H1 D0 M es Z' H' := by
  obtain ⟨xs, G, s2, e1, e2, o1, g1, g2, l1⟩ := pl.ex
  have th := OwAll.there _ _ _ o1
  exact ⟨xs, G, s2.trans s3, s3.hh _ _ e1, fresh_p s3 (by rw [e1]; exact fun z => nomatch z) e2, OwAll.mono s3.zz (Same.refl _) _ _ _ (fun a ha => same_at s3.hh (th a ha)) o1, g1,
    fun a ha => ⟨(g2 a ha).1, fresh_p s3 (th a ha) (g2 a ha).2.1, (g2 a ha).2.2⟩, Nat.le_trans l1 hm⟩
theorem Pl2.app {o : Bool} {Z1 H1 Z3 H3 Z4 H4 : Hp} {D0 : Addr} {N : Nat} {es : List D} {z : V} {r4 : RV} {G4 : List Addr} {Q' : D → Prop} (d0 : H1 D0 = none) (pl : Pl2 K T c Z1 H1 D0 N es Z3 H3) (s4 : PStep Z3 H3 Z4 H4) (h4 : RvG K T c H3 Z4 H4 F z r4 G4) (q5 : still o r4 Q') (hN : N < 10000000) :
    ∃ acc d Z5, H4 D0 = some (.lst acc) ∧ acc.length < sizeLine ∧ Q' d ∧ Same Z4 Z5 ∧ (∀ a, Z5 a ≠ none → Z4 a ≠ none ∨ a ∈ G4) ∧ Pl2 K T c Z1 H1 D0 (N + 1) (es ++ [d]) Z5 (upd H4 D0 (.lst (acc ++ [z]))) := by
  obtain ⟨xs, G, s3, d3, z3, o3, g1, g3, l1⟩ := pl.ex
  have th3 := OwAll.there _ _ _ o3
  obtain ⟨d, Z5, G5, q6, o5, n5, zz5, zn5, zg5, gg5⟩ := stillE h4 q5
  have hd4 : H4 D0 = some (.lst xs) := s4.hh _ _ d3
  have z4 : Z4 D0 = none := fresh_p s4 (by rw [d3]; exact fun z => nomatch z) z3
  have dG4 : D0 ∉ G4 := fun hm => by
    have := (h4.free D0 hm).1
    rw [d3] at this
    cases this
  have z5 : Z5 D0 = none := by
    cases q : Z5 D0 with
    | none => rfl
    | some u =>
      rcases zn5 D0 (by rw [q]; exact fun z => nomatch z) with y | y
      · exact absurd z4 y
      · exact absurd y dG4
  have o4 : OwAll K T Z5 c.B H4 xs es G := OwAll.mono (Same.tr s4.zz zz5) (Same.refl _) _ _ _ (fun a ha => same_at s4.hh (th3 a ha)) o3
  have gd : ∀ a ∈ G, a ∉ G4 := fun a ha hm => th3 a ha (h4.free a hm).1
  have gz5 : ∀ a ∈ G, Z5 a = none := fun a ha => by
    cases q : Z5 a with
    | none => rfl
    | some u =>
      rcases zn5 a (by rw [q]; exact fun z => nomatch z) with y | y
      · exact absurd (fresh_p s4 (th3 a ha) (g3 a ha).2.1) y
      · exact absurd y (gd a ha)
  have zh5 : Same Z5 H4 := fun a u e => by
    by_cases ha : a ∈ G4
    · rcases zg5 a ha with y | y
      · rw [y] at e; cases e
      · rw [y] at e; exact e
    · have : Z4 a ≠ none := by
        rcases zn5 a (by rw [e]; exact fun z => nomatch z) with y | y
        · exact y
        · exact absurd y ha
      cases q : Z4 a with
      | none => exact absurd q this
      | some w =>
        have := zz5 _ _ q
        rw [this] at e
        cases e
        exact s4.zh _ _ q
  have upne : ∀ a, a ≠ D0 → upd H4 D0 (.lst (xs ++ [z])) a = H4 a := fun a ha => upd_ne ha
  have hlen := o3.length
  refine ⟨xs, d, Z5, hd4, Nat.lt_of_le_of_lt (by omega : xs.length ≤ 10000000) (by decide), q6, zz5, zn5, ⟨xs ++ [z], G ++ G5, ⟨?_, ?_, ?_, ?_⟩, upd_same, z5, ?_, ?_, ?_, by rw [List.length_append, List.length_singleton]; omega⟩⟩
  · exact Same.tr s3.zz (Same.tr s4.zz zz5)
  · exact fun a u e => by
      rw [upne a (ne_of_none e d0)]
      exact s4.hh _ _ (s3.hh _ _ e)
  · exact fun a ha => by
      rcases zn5 a ha with y | y
      · exact (s3.trans s4).zn a y
      · exact .inr (same_none s3.hh (h4.free a y).1)
  · exact fun a u e => by
      have : a ≠ D0 := fun z => by rw [z, z5] at e; cases e
      rw [upne a this]
      exact zh5 _ _ e
  · have o6 : OwAll K T Z5 c.B H4 (xs ++ [z]) (es ++ [d]) (G ++ G5) := by
      have := o4.append (OwAll.cons o5 .nil)
      rw [List.append_nil] at this
      exact this
    refine OwAll.mono (Same.refl _) (Same.refl _) _ _ _ (fun a ha => upne a ?_) o6
    rcases List.mem_append.mp ha with ha | ha
    · exact (g3 a ha).2.2
    · exact fun e => dG4 (e ▸ (gg5 a ha).1)
  · exact List.nodup_append.mpr ⟨g1, n5, fun a ha b hb e => by subst e; exact gd a ha (gg5 a hb).1⟩
  · intro a ha
    rcases List.mem_append.mp ha with ha | ha
    · exact ⟨(g3 a ha).1, gz5 a ha, (g3 a ha).2.2⟩
    · exact ⟨same_none s3.hh (h4.free a (gg5 a ha).1).1, (gg5 a ha).2, fun e => dG4 (e ▸ (gg5 a ha).1)⟩
/-- a fresh cell of nobody's changes -/
theorem env_upd2 {Z4 H4 Z5 : Hp} {D0 : Addr} {u : HO} {G4 : List Addr} (I : EnvOk K T c Z4 H4 σ ρ F) (zz : Same Z4 Z5) (zn : ∀ a, Z5 a ≠ none → Z4 a ≠ none ∨ a ∈ G4) (dF : D0 ∉ F) (zh : Same Z5 (upd H4 D0 u)) (h0 : c.H0 D0 = none) (b0 : c.B D0 = none)
    (fF : ∀ a ∈ F, a ∉ G4) (g0 : ∀ a ∈ G4, c.H0 a = none) : EnvOk K T c Z5 (upd H4 D0 u) σ ρ F where
  zh := zh
  bh := fun a o e => by rw [upd_ne (ne_of_none e b0)]; exact I.bh a o e
  sm := fun b o e n => by rw [upd_ne (ne_of_none e h0)]; exact I.sm b o e n
  tr := fun b e => by
    by_cases hb : b = D0
    · rw [hb]; exact h0
    · rw [upd_ne hb] at e; exact I.tr b e
  sl := I.sl.mono zz fun a ha => upd_ne fun e => dF (e ▸ ha)
  fr := fun a ha => ⟨by
    cases q : Z5 a with
    | none => rfl
    | some w =>
      rcases zn a (by rw [q]; exact fun z => nomatch z) with y | y
      · exact absurd (I.fr a ha).1 y
      · exact absurd y (fF a ha), (I.fr a ha).2⟩
  nd := I.nd
  zn := fun a h => (zn a h).elim (I.zn a) fun g => .inr (.inl (g0 a g))
/-- [e for g in xs if t for g1 in ys if t1] -/
theorem sp_lc2 {o : Bool} {vs vs1 : List Nat} {wi wi1 : TI} {yi yi1 : YI} (hi : SIc K T W wi yi) (hgo : GOk g vs) (hg : SG K T g p) (ht : SB K T W0 tt yt) (hi1 : SI K T W0 wi1 yi1) (hgo1 : GOk g1 vs1) (hg1 : SG K T g1 p1) (ht1 : SB K T W0 tt1 yt1) (he : SP K T W0 te ya) :
    SP K T W (tLc2 wi g tt wi1 g1 tt1 te vs vs1) (yLc2 o vs vs1 yi p yt yi1 p1 yt1 ya) := fun c Z σ H ρ F Q X I hw q R k =>
  hi c Z σ H ρ F _ X I hw q _ fun J Z1 H1 ds s1 hj ⟨hz, q1⟩ => fun D0 hD => by
    have I1 := I.p s1
    have hH0 : c.H0 D0 = none := I1.tr _ hD
    have hB0 : c.B D0 = none := same_none I1.bh hD
    let P : Nat → Hp → Prop := fun i H => ∃ Z es, Pl2 K T c Z1 H1 D0 (1000 * i) es Z H ∧ lc2W o p yt vs1 yi1 p1 yt1 ya (Y.wipe ρ vs) (ds.drop i) fun fs => Q (.tmp (.lst .own (es ++ fs)))
    have p0 : P 0 (upd H1 D0 (.lst [])) := ⟨Z1, [], ⟨[], [], PStep.newH s1.zh hD, upd_same, same_none s1.zh hD, .nil, List.nodup_nil, fun a ha => (by cases ha), Nat.zero_le _⟩, q1.go⟩
    refine ⟨fun i m H => m = ds.length - i ∧ i ≤ ds.length ∧ P i H, ⟨ds.length, by simp, Nat.zero_le _, p0⟩, ?_⟩
    rintro i m H' ⟨rfl, hi', Z2, es, pl, q2⟩
    have s2 := pl.ps
    have wk := hj.walk s2.hh
    by_cases hlt : i < ds.length
    · refine .inr ⟨wk.2.1 i hlt, P (i + 1), fun H2 p' => ⟨ds.length - (i + 1), by omega, rfl, hlt, p'⟩, fun x H2 yy => ?_⟩
      obtain ⟨rfl, y, hy, oy⟩ := wk.2.2 i x H2 yy hlt
      have ed : ds.drop i = y :: ds.drop (i + 1) := by
        obtain ⟨hi, e⟩ := List.getElem?_eq_some_iff.mp hy
        rw [List.drop_eq_getElem_cons hi, e]
      rw [ed] at q2
      obtain ⟨Fw, Iw, fw⟩ := (I1.p s2).wipe2 vs
      have dFw : D0 ∉ Fw := fun h => I1.there D0 (fw _ h) hD
      refine hgo _ _ _ _ (hg c Z2 _ H2 _ Fw x y _ Iw (oy Z2 H2 s2.zz) q2 _ fun σ3 ρ3 F3 J3 f3 q3 hw3 => ⟨by rw [hw3, wipe_wipe], ?_⟩)
      have dF3 : D0 ∉ F3 := fun h => dFw (f3 _ h)
      refine ht c Z2 σ3 H2 ρ3 F3 _ _ J3 (fun _ _ _ _ _ _ _ z => z.elim) q3 _ fun b Z3 H3 s3 q4 => ?_
      cases b with
      | false => exact ⟨Z3, es, pl.step s3 (by omega), q4.f rfl⟩
      | true =>
        refine hi1 c Z3 σ3 H3 ρ3 F3 _ _ (J3.p s3) (fun _ _ _ _ _ _ _ z => z.elim) (q4.t rfl) _ fun J1 Z4 H4 ds1 s4 hj1 ⟨hz1, q5⟩ => ?_
        have J4 := (J3.p s3).p s4
        let P1 : Nat → Hp → Prop := fun j H => ∃ Z es, Pl2 K T c Z1 H1 D0 (1000 * i + j) es Z H ∧ EnvOk K T c Z H σ3 ρ3 F3 ∧ Same Z4 Z ∧ lcW o p1 yt1 ya (Y.wipe ρ3 vs1) (ds1.drop j) fun fs => lc2W o p yt vs1 yi1 p1 yt1 ya (Y.wipe ρ vs) (ds.drop (i + 1)) fun gs => Q (.tmp (.lst .own (es ++ (fs ++ gs))))
        have p10 : P1 0 H4 := ⟨Z4, es, (pl.step s3 (Nat.le_refl _)).step s4 (by omega), J4, Same.refl _, q5.go⟩
        refine ⟨fun j m H => m = ds1.length - j ∧ j ≤ ds1.length ∧ P1 j H, ⟨ds1.length, by simp, Nat.zero_le _, p10⟩, ?_⟩
        rintro j m1 H5 ⟨rfl, hj', Z5, es5, pl5, J5, z45, q6⟩
        have wk1 := hj1.walk (H' := H5) (fun a u e => J5.zh _ _ (z45 _ _ e)) J5.bh
        by_cases hlt1 : j < ds1.length
        · refine .inr ⟨wk1.2.1 j hlt1, P1 (j + 1), fun H6 p' => ⟨ds1.length - (j + 1), by omega, rfl, hlt1, p'⟩, fun x1 H6 yy1 => ?_⟩
          obtain ⟨rfl, y1, hy1, oy1⟩ := wk1.2.2 j x1 H6 yy1 hlt1
          have ed1 : ds1.drop j = y1 :: ds1.drop (j + 1) := by
            obtain ⟨hi, e⟩ := List.getElem?_eq_some_iff.mp hy1
            rw [List.drop_eq_getElem_cons hi, e]
          rw [ed1] at q6
          obtain ⟨Fv, Iv, fv⟩ := J5.wipe2 vs1
          refine hgo1 _ _ _ _ (hg1 c Z5 _ H6 _ Fv x1 y1 _ Iv (oy1 Z5 H6 z45) q6 _ fun σ7 ρ7 F7 J7 f7 q7 hw7 => ⟨by rw [hw7, wipe_wipe], ?_⟩)
          refine ht1 c Z5 σ7 H6 ρ7 F7 _ _ J7 (fun _ _ _ _ _ _ _ z => z.elim) q7 _ fun b1 Z8 H8 s8 q8 => ?_
          cases b1 with
          | false => exact ⟨Z8, es5, pl5.step s8 (by omega), J5.p s8, Same.tr z45 s8.zz, q8.f rfl⟩
          | true =>
            refine he c Z8 σ7 H8 ρ7 F7 _ _ (J7.p s8) (fun _ _ _ _ _ _ _ z => z.elim) (q8.t rfl) _ fun z9 Z9 H9 r9 G9 s9 h9 q9 => ?_
            obtain ⟨acc, d, Z10, e1, e2, q10, zz10, zn10, pl10⟩ := (pl5.step s8 (Nat.le_refl _)).app hD s9 h9 q9 (by omega)
            have J9 := (J5.p s8).p s9
            refine ⟨acc, e1, e2, Z10, es5 ++ [d], pl10, env_upd2 J9 zz10 zn10 dF3 pl10.ps.zh hH0 hB0 (fun a ha hm => (J5.p s8).there a ha (h9.free a hm).1) (fun a ha => (J5.p s8).tr _ (h9.free a ha).1), Same.tr z45 (Same.tr s8.zz (Same.tr s9.zz zz10)), ?_⟩
            have e : (fun fs => lc2W o p yt vs1 yi1 p1 yt1 ya (Y.wipe ρ vs) (ds.drop (i + 1)) fun gs => Q (.tmp (.lst .own (es5 ++ [d] ++ (fs ++ gs))))) = fun fs => lc2W o p yt vs1 yi1 p1 yt1 ya (Y.wipe ρ vs) (ds.drop (i + 1)) fun gs => Q (.tmp (.lst .own (es5 ++ (d :: fs ++ gs)))) := by
              funext fs
              congr 1
              funext gs
              rw [List.append_assoc]
              rfl
            rw [e]
            exact q10
        · obtain rfl : j = ds1.length := by omega
          refine .inl ⟨wk1.1, Z5, es5, pl5.step (PStep.refl J5.zh) (by omega), ?_⟩
          rw [List.drop_length] at q6
          exact q6
    · obtain rfl : i = ds.length := by omega
      refine .inl ⟨wk.1, ?_⟩
      rw [List.drop_length] at q2
      have q3 : Q (.tmp (.lst .own (es ++ []))) := q2
      rw [List.append_nil] at q3
      obtain ⟨xs, G, s2, e1, e2, o1, g1, g2, l1⟩ := pl.ex
      refine k _ Z2 H' (.tmp (.lst .own es)) (D0 :: G) (s1.trans s2) ⟨.lst (m := .own) e1 o1 rfl, List.nodup_cons.mpr ⟨fun hm => (g2 D0 hm).2.2 rfl, g1⟩, fun a ha => ?_⟩ q3
      rcases List.mem_cons.mp ha with rfl | ha
      · exact ⟨same_none s1.hh hD, e2⟩
      · exact ⟨same_none s1.hh (g2 a ha).1, (g2 a ha).2.1⟩
end
end Y

namespace Y
open PySem
local macro_rules | `(tactic| walk_at "yw") => `(tactic| conv => whnf)
local macro_rules | `(tactic| walk_at "yd") => `(tactic| (first | with_reducible rfl | exact rfl | omega | decide | assumption | (with_reducible exact mulR (by decide)) | (with_reducible exact mulR (by omega)) | (with_reducible exact mulL (by omega)) | decide +kernel))
local macro_rules | `(tactic| walk_at "yn") => `(tactic| ((with_reducible refine Nx.id ?_); (with_reducible apply Nx.nm); (focus (first | (simp only [upS, put, stepN, kids, setKid, Y.wipe, setAll, List.map_cons, List.map_nil, List.cons_append, List.nil_append, List.replicate, List.getElem?_cons_zero, List.getElem?_cons_succ, List.set_cons_zero, List.set_cons_succ, List.append_eq, Int.reduceToNat, putF, reduceIte, String.reduceEq, arg, fz_lot, fz, fzs_ig, fzs, fzs_ints, List.take_succ_cons, List.take_zero, List.drop_succ_cons, List.drop_zero, List.append_nil]; done) | (simp only [upS, put, stepN, kids, setKid, Y.wipe, setAll, List.map_cons, List.map_nil, List.cons_append, List.nil_append, List.replicate, List.getElem?_cons_zero, List.getElem?_cons_succ, List.set_cons_zero, List.set_cons_succ, List.append_eq, Int.reduceToNat, putF, reduceIte, String.reduceEq, arg, fz_lot, fz, fzs_ig, fzs, fzs_ints, List.take_succ_cons, List.take_zero, List.drop_succ_cons, List.drop_zero, List.append_nil]; exact rfl) | exact rfl))))
local macro_rules | `(tactic| walk_at "yy") => `(tactic| ((conv => whnf); (try (first | ((with_reducible refine Nx.id ?_); (with_reducible apply Nx.nm); (focus (first | (simp only [upS, put, stepN, kids, setKid, Y.wipe, setAll, List.map_cons, List.map_nil, List.cons_append, List.nil_append, List.replicate, List.getElem?_cons_zero, List.getElem?_cons_succ, List.set_cons_zero, List.set_cons_succ, List.append_eq, Int.reduceToNat, putF, reduceIte, String.reduceEq, arg, fz_lot, fz, fzs_ig, fzs, fzs_ints, List.take_succ_cons, List.take_zero, List.drop_succ_cons, List.drop_zero, List.append_nil]; done) | (simp only [upS, put, stepN, kids, setKid, Y.wipe, setAll, List.map_cons, List.map_nil, List.cons_append, List.nil_append, List.replicate, List.getElem?_cons_zero, List.getElem?_cons_succ, List.set_cons_zero, List.set_cons_succ, List.append_eq, Int.reduceToNat, putF, reduceIte, String.reduceEq, arg, fz_lot, fz, fzs_ig, fzs, fzs_ints, List.take_succ_cons, List.take_zero, List.drop_succ_cons, List.drop_zero, List.append_nil]; exact rfl) | exact rfl)); walk_at "yy") | ((with_reducible refine Br.yes ?_ ?_); ((exact rfl); walk_at "yy")) | ((with_reducible refine Br.no ?_ ?_); ((exact rfl); walk_at "yy")) | ((with_reducible refine And.intro ?_ ?_); (focus (first | with_reducible rfl | exact rfl | omega | decide | assumption | (with_reducible exact mulR (by decide)) | (with_reducible exact mulR (by omega)) | (with_reducible exact mulL (by omega)) | decide +kernel)); walk_at "yy") | ((refine Exists.intro _ (And.intro rfl ?_)); walk_at "yy") | ((refine Exists.intro _ (Exists.intro _ (And.intro rfl (And.intro rfl ?_)))); walk_at "yy")))))
local macro_rules | `(tactic| walk_at "yo") => `(tactic| ((with_reducible refine okId ?_); (first | assumption | with_reducible rfl | ((with_reducible refine okD_ints ?_); (first | omega | (rw [srt_len]; omega) | (simp only [srt_len, List.length_cons, List.length_nil, List.length_map, List.length_append, List.length_range]; omega))) | ((with_reducible refine okL_ints ?_); (first | omega | (rw [srt_len]; omega) | (simp only [srt_len, List.length_cons, List.length_nil, List.length_map, List.length_append, List.length_range]; omega))) | ((with_reducible refine ok_made ?_ ?_) <;> (first | omega | (rw [srt_len]; omega) | (simp only [srt_len, List.length_cons, List.length_nil, List.length_map, List.length_append, List.length_range]; omega))) | ((refine okD_ints ?_); (first | omega | (rw [srt_len]; omega) | (simp only [srt_len, List.length_cons, List.length_nil, List.length_map, List.length_append, List.length_range]; omega))) | ((refine okL_ints ?_); (first | omega | (rw [srt_len]; omega) | (simp only [srt_len, List.length_cons, List.length_nil, List.length_map, List.length_append, List.length_range]; omega))) | ((refine ok_made ?_ ?_) <;> (first | omega | (rw [srt_len]; omega) | (simp only [srt_len, List.length_cons, List.length_nil, List.length_map, List.length_append, List.length_range]; omega))) | ((refine okL_im inferInstance ?_); (first | omega | (rw [srt_len]; omega) | (simp only [srt_len, List.length_cons, List.length_nil, List.length_map, List.length_append, List.length_range]; omega))) | ((refine okT_im inferInstance ?_); (first | omega | (rw [srt_len]; omega) | (simp only [srt_len, List.length_cons, List.length_nil, List.length_map, List.length_append, List.length_range]; omega))) | exact rfl)))
local macro_rules | `(tactic| walk_at "ye") => `(tactic| (first | ((with_reducible refine And.intro ?_ ?_) <;> walk_at "ye") | ((with_reducible refine okId ?_); (first | assumption | with_reducible rfl | ((with_reducible refine okD_ints ?_); (first | omega | (rw [srt_len]; omega) | (simp only [srt_len, List.length_cons, List.length_nil, List.length_map, List.length_append, List.length_range]; omega))) | ((with_reducible refine okL_ints ?_); (first | omega | (rw [srt_len]; omega) | (simp only [srt_len, List.length_cons, List.length_nil, List.length_map, List.length_append, List.length_range]; omega))) | ((with_reducible refine ok_made ?_ ?_) <;> (first | omega | (rw [srt_len]; omega) | (simp only [srt_len, List.length_cons, List.length_nil, List.length_map, List.length_append, List.length_range]; omega))) | ((refine okD_ints ?_); (first | omega | (rw [srt_len]; omega) | (simp only [srt_len, List.length_cons, List.length_nil, List.length_map, List.length_append, List.length_range]; omega))) | ((refine okL_ints ?_); (first | omega | (rw [srt_len]; omega) | (simp only [srt_len, List.length_cons, List.length_nil, List.length_map, List.length_append, List.length_range]; omega))) | ((refine ok_made ?_ ?_) <;> (first | omega | (rw [srt_len]; omega) | (simp only [srt_len, List.length_cons, List.length_nil, List.length_map, List.length_append, List.length_range]; omega))) | ((refine okL_im inferInstance ?_); (first | omega | (rw [srt_len]; omega) | (simp only [srt_len, List.length_cons, List.length_nil, List.length_map, List.length_append, List.length_range]; omega))) | ((refine okT_im inferInstance ?_); (first | omega | (rw [srt_len]; omega) | (simp only [srt_len, List.length_cons, List.length_nil, List.length_map, List.length_append, List.length_range]; omega))) | exact rfl)) | omega | with_reducible rfl | exact rfl | decide | assumption | (with_reducible exact mulR (by decide)) | (with_reducible exact mulR (by omega)) | (with_reducible exact mulL (by omega)) | (simp only [fzs_ints, lends_ints, fzs_ig, lends_ig, fzs, lends, srt_len, List.length_map, List.length_append, List.length_cons, List.length_nil, List.length_take, List.length_drop, List.length_reverse, List.length_replicate, List.length_range]; omega) | ((refine Nat.le_trans cutD_len ?_); omega) | exact Nat.zero_le _ | (simp [putF]; done) | ((with_reducible refine lenu_im inferInstance ?_); (first | omega | (rw [srt_len]; omega) | (simp only [srt_len, List.length_cons, List.length_nil, List.length_map, List.length_append, List.length_range]; omega))) | ((with_reducible refine lenu_il inferInstance ?_); (first | omega | (rw [srt_len]; omega) | (simp only [srt_len, List.length_cons, List.length_nil, List.length_map, List.length_append, List.length_range]; omega))) | ((with_reducible refine lenp_im inferInstance ?_); (first | omega | (rw [srt_len]; omega) | (simp only [srt_len, List.length_cons, List.length_nil, List.length_map, List.length_append, List.length_range]; omega))) | ((with_reducible refine lenp_il inferInstance ?_); (first | omega | (rw [srt_len]; omega) | (simp only [srt_len, List.length_cons, List.length_nil, List.length_map, List.length_append, List.length_range]; omega))) | ((with_reducible refine lenu_ix inferInstance ?_); (first | omega | (rw [srt_len]; omega) | (simp only [srt_len, List.length_cons, List.length_nil, List.length_map, List.length_append, List.length_range]; omega))) | ((with_reducible refine lenp_ix inferInstance ?_); (first | omega | (rw [srt_len]; omega) | (simp only [srt_len, List.length_cons, List.length_nil, List.length_map, List.length_append, List.length_range]; omega))) | (with_reducible exact (nb_i inferInstance)) | (with_reducible exact (nows_i inferInstance)) | (with_reducible exact (now_i inferInstance)) | (with_reducible exact (nbs_i inferInstance)) | exact (IM.nown inferInstance) | exact (IM.nbor inferInstance) | exact (IM.plain inferInstance) | (with_reducible exact inferInstance) | decide +kernel | ((refine And.intro ?_ ?_) <;> walk_at "ye")))
local macro_rules | `(tactic| walk_at "yk") => `(tactic| (first | contradiction | (exfalso; exact absurd (by assumption) (by decide)) | (exfalso; omega) | (exfalso; rename_i hk; simp only [List.length_cons, List.length_nil, fzs, lends] at hk; omega)))
local macro_rules | `(tactic| walk_at "yc") => `(tactic| ((conv => whnf); (try (first | ((with_reducible refine Nx.id ?_); (with_reducible apply Nx.nm); (focus (first | (simp only [upS, put, stepN, kids, setKid, Y.wipe, setAll, List.map_cons, List.map_nil, List.cons_append, List.nil_append, List.replicate, List.getElem?_cons_zero, List.getElem?_cons_succ, List.set_cons_zero, List.set_cons_succ, List.append_eq, Int.reduceToNat, putF, reduceIte, String.reduceEq, arg, fz_lot, fz, fzs_ig, fzs, fzs_ints, List.take_succ_cons, List.take_zero, List.drop_succ_cons, List.drop_zero, List.append_nil]; done) | (simp only [upS, put, stepN, kids, setKid, Y.wipe, setAll, List.map_cons, List.map_nil, List.cons_append, List.nil_append, List.replicate, List.getElem?_cons_zero, List.getElem?_cons_succ, List.set_cons_zero, List.set_cons_succ, List.append_eq, Int.reduceToNat, putF, reduceIte, String.reduceEq, arg, fz_lot, fz, fzs_ig, fzs, fzs_ints, List.take_succ_cons, List.take_zero, List.drop_succ_cons, List.drop_zero, List.append_nil]; exact rfl) | exact rfl)); walk_at "yc") | ((with_reducible refine And.intro ?_ ?_); (focus (first | ((with_reducible refine And.intro ?_ ?_) <;> (first | ((with_reducible refine And.intro ?_ ?_) <;> (first | ((with_reducible refine okId ?_); (first | assumption | with_reducible rfl | ((with_reducible refine okD_ints ?_); (first | omega | (rw [srt_len]; omega) | (simp only [srt_len, List.length_cons, List.length_nil, List.length_map, List.length_append, List.length_range]; omega))) | ((with_reducible refine okL_ints ?_); (first | omega | (rw [srt_len]; omega) | (simp only [srt_len, List.length_cons, List.length_nil, List.length_map, List.length_append, List.length_range]; omega))) | ((with_reducible refine ok_made ?_ ?_) <;> (first | omega | (rw [srt_len]; omega) | (simp only [srt_len, List.length_cons, List.length_nil, List.length_map, List.length_append, List.length_range]; omega))) | ((refine okD_ints ?_); (first | omega | (rw [srt_len]; omega) | (simp only [srt_len, List.length_cons, List.length_nil, List.length_map, List.length_append, List.length_range]; omega))) | ((refine okL_ints ?_); (first | omega | (rw [srt_len]; omega) | (simp only [srt_len, List.length_cons, List.length_nil, List.length_map, List.length_append, List.length_range]; omega))) | ((refine ok_made ?_ ?_) <;> (first | omega | (rw [srt_len]; omega) | (simp only [srt_len, List.length_cons, List.length_nil, List.length_map, List.length_append, List.length_range]; omega))) | ((refine okL_im inferInstance ?_); (first | omega | (rw [srt_len]; omega) | (simp only [srt_len, List.length_cons, List.length_nil, List.length_map, List.length_append, List.length_range]; omega))) | ((refine okT_im inferInstance ?_); (first | omega | (rw [srt_len]; omega) | (simp only [srt_len, List.length_cons, List.length_nil, List.length_map, List.length_append, List.length_range]; omega))) | exact rfl)) | omega | with_reducible rfl | exact rfl | decide | assumption | (with_reducible exact mulR (by decide)) | (with_reducible exact mulR (by omega)) | (with_reducible exact mulL (by omega)) | (simp only [fzs_ints, lends_ints, fzs_ig, lends_ig, fzs, lends, srt_len, List.length_map, List.length_append, List.length_cons, List.length_nil, List.length_take, List.length_drop, List.length_reverse, List.length_replicate, List.length_range]; omega) | ((refine Nat.le_trans cutD_len ?_); omega) | exact Nat.zero_le _ | (simp [putF]; done) | ((with_reducible refine lenu_im inferInstance ?_); (first | omega | (rw [srt_len]; omega) | (simp only [srt_len, List.length_cons, List.length_nil, List.length_map, List.length_append, List.length_range]; omega))) | ((with_reducible refine lenu_il inferInstance ?_); (first | omega | (rw [srt_len]; omega) | (simp only [srt_len, List.length_cons, List.length_nil, List.length_map, List.length_append, List.length_range]; omega))) | ((with_reducible refine lenp_im inferInstance ?_); (first | omega | (rw [srt_len]; omega) | (simp only [srt_len, List.length_cons, List.length_nil, List.length_map, List.length_append, List.length_range]; omega))) | ((with_reducible refine lenp_il inferInstance ?_); (first | omega | (rw [srt_len]; omega) | (simp only [srt_len, List.length_cons, List.length_nil, List.length_map, List.length_append, List.length_range]; omega))) | ((with_reducible refine lenu_ix inferInstance ?_); (first | omega | (rw [srt_len]; omega) | (simp only [srt_len, List.length_cons, List.length_nil, List.length_map, List.length_append, List.length_range]; omega))) | ((with_reducible refine lenp_ix inferInstance ?_); (first | omega | (rw [srt_len]; omega) | (simp only [srt_len, List.length_cons, List.length_nil, List.length_map, List.length_append, List.length_range]; omega))) | (with_reducible exact (nb_i inferInstance)) | (with_reducible exact (nows_i inferInstance)) | (with_reducible exact (now_i inferInstance)) | (with_reducible exact (nbs_i inferInstance)) | exact (IM.nown inferInstance) | exact (IM.nbor inferInstance) | exact (IM.plain inferInstance) | (with_reducible exact inferInstance) | decide +kernel)) | ((with_reducible refine okId ?_); (first | assumption | with_reducible rfl | ((with_reducible refine okD_ints ?_); (first | omega | (rw [srt_len]; omega) | (simp only [srt_len, List.length_cons, List.length_nil, List.length_map, List.length_append, List.length_range]; omega))) | ((with_reducible refine okL_ints ?_); (first | omega | (rw [srt_len]; omega) | (simp only [srt_len, List.length_cons, List.length_nil, List.length_map, List.length_append, List.length_range]; omega))) | ((with_reducible refine ok_made ?_ ?_) <;> (first | omega | (rw [srt_len]; omega) | (simp only [srt_len, List.length_cons, List.length_nil, List.length_map, List.length_append, List.length_range]; omega))) | ((refine okD_ints ?_); (first | omega | (rw [srt_len]; omega) | (simp only [srt_len, List.length_cons, List.length_nil, List.length_map, List.length_append, List.length_range]; omega))) | ((refine okL_ints ?_); (first | omega | (rw [srt_len]; omega) | (simp only [srt_len, List.length_cons, List.length_nil, List.length_map, List.length_append, List.length_range]; omega))) | ((refine ok_made ?_ ?_) <;> (first | omega | (rw [srt_len]; omega) | (simp only [srt_len, List.length_cons, List.length_nil, List.length_map, List.length_append, List.length_range]; omega))) | ((refine okL_im inferInstance ?_); (first | omega | (rw [srt_len]; omega) | (simp only [srt_len, List.length_cons, List.length_nil, List.length_map, List.length_append, List.length_range]; omega))) | ((refine okT_im inferInstance ?_); (first | omega | (rw [srt_len]; omega) | (simp only [srt_len, List.length_cons, List.length_nil, List.length_map, List.length_append, List.length_range]; omega))) | exact rfl)) | omega | with_reducible rfl | exact rfl | decide | assumption | (with_reducible exact mulR (by decide)) | (with_reducible exact mulR (by omega)) | (with_reducible exact mulL (by omega)) | (simp only [fzs_ints, lends_ints, fzs_ig, lends_ig, fzs, lends, srt_len, List.length_map, List.length_append, List.length_cons, List.length_nil, List.length_take, List.length_drop, List.length_reverse, List.length_replicate, List.length_range]; omega) | ((refine Nat.le_trans cutD_len ?_); omega) | exact Nat.zero_le _ | (simp [putF]; done) | ((with_reducible refine lenu_im inferInstance ?_); (first | omega | (rw [srt_len]; omega) | (simp only [srt_len, List.length_cons, List.length_nil, List.length_map, List.length_append, List.length_range]; omega))) | ((with_reducible refine lenu_il inferInstance ?_); (first | omega | (rw [srt_len]; omega) | (simp only [srt_len, List.length_cons, List.length_nil, List.length_map, List.length_append, List.length_range]; omega))) | ((with_reducible refine lenp_im inferInstance ?_); (first | omega | (rw [srt_len]; omega) | (simp only [srt_len, List.length_cons, List.length_nil, List.length_map, List.length_append, List.length_range]; omega))) | ((with_reducible refine lenp_il inferInstance ?_); (first | omega | (rw [srt_len]; omega) | (simp only [srt_len, List.length_cons, List.length_nil, List.length_map, List.length_append, List.length_range]; omega))) | ((with_reducible refine lenu_ix inferInstance ?_); (first | omega | (rw [srt_len]; omega) | (simp only [srt_len, List.length_cons, List.length_nil, List.length_map, List.length_append, List.length_range]; omega))) | ((with_reducible refine lenp_ix inferInstance ?_); (first | omega | (rw [srt_len]; omega) | (simp only [srt_len, List.length_cons, List.length_nil, List.length_map, List.length_append, List.length_range]; omega))) | (with_reducible exact (nb_i inferInstance)) | (with_reducible exact (nows_i inferInstance)) | (with_reducible exact (now_i inferInstance)) | (with_reducible exact (nbs_i inferInstance)) | exact (IM.nown inferInstance) | exact (IM.nbor inferInstance) | exact (IM.plain inferInstance) | (with_reducible exact inferInstance) | decide +kernel)) | ((with_reducible refine okId ?_); (first | assumption | with_reducible rfl | ((with_reducible refine okD_ints ?_); (first | omega | (rw [srt_len]; omega) | (simp only [srt_len, List.length_cons, List.length_nil, List.length_map, List.length_append, List.length_range]; omega))) | ((with_reducible refine okL_ints ?_); (first | omega | (rw [srt_len]; omega) | (simp only [srt_len, List.length_cons, List.length_nil, List.length_map, List.length_append, List.length_range]; omega))) | ((with_reducible refine ok_made ?_ ?_) <;> (first | omega | (rw [srt_len]; omega) | (simp only [srt_len, List.length_cons, List.length_nil, List.length_map, List.length_append, List.length_range]; omega))) | ((refine okD_ints ?_); (first | omega | (rw [srt_len]; omega) | (simp only [srt_len, List.length_cons, List.length_nil, List.length_map, List.length_append, List.length_range]; omega))) | ((refine okL_ints ?_); (first | omega | (rw [srt_len]; omega) | (simp only [srt_len, List.length_cons, List.length_nil, List.length_map, List.length_append, List.length_range]; omega))) | ((refine ok_made ?_ ?_) <;> (first | omega | (rw [srt_len]; omega) | (simp only [srt_len, List.length_cons, List.length_nil, List.length_map, List.length_append, List.length_range]; omega))) | ((refine okL_im inferInstance ?_); (first | omega | (rw [srt_len]; omega) | (simp only [srt_len, List.length_cons, List.length_nil, List.length_map, List.length_append, List.length_range]; omega))) | ((refine okT_im inferInstance ?_); (first | omega | (rw [srt_len]; omega) | (simp only [srt_len, List.length_cons, List.length_nil, List.length_map, List.length_append, List.length_range]; omega))) | exact rfl)) | omega | with_reducible rfl | exact rfl | decide | assumption | (with_reducible exact mulR (by decide)) | (with_reducible exact mulR (by omega)) | (with_reducible exact mulL (by omega)) | (simp only [fzs_ints, lends_ints, fzs_ig, lends_ig, fzs, lends, srt_len, List.length_map, List.length_append, List.length_cons, List.length_nil, List.length_take, List.length_drop, List.length_reverse, List.length_replicate, List.length_range]; omega) | ((refine Nat.le_trans cutD_len ?_); omega) | exact Nat.zero_le _ | (simp [putF]; done) | ((with_reducible refine lenu_im inferInstance ?_); (first | omega | (rw [srt_len]; omega) | (simp only [srt_len, List.length_cons, List.length_nil, List.length_map, List.length_append, List.length_range]; omega))) | ((with_reducible refine lenu_il inferInstance ?_); (first | omega | (rw [srt_len]; omega) | (simp only [srt_len, List.length_cons, List.length_nil, List.length_map, List.length_append, List.length_range]; omega))) | ((with_reducible refine lenp_im inferInstance ?_); (first | omega | (rw [srt_len]; omega) | (simp only [srt_len, List.length_cons, List.length_nil, List.length_map, List.length_append, List.length_range]; omega))) | ((with_reducible refine lenp_il inferInstance ?_); (first | omega | (rw [srt_len]; omega) | (simp only [srt_len, List.length_cons, List.length_nil, List.length_map, List.length_append, List.length_range]; omega))) | ((with_reducible refine lenu_ix inferInstance ?_); (first | omega | (rw [srt_len]; omega) | (simp only [srt_len, List.length_cons, List.length_nil, List.length_map, List.length_append, List.length_range]; omega))) | ((with_reducible refine lenp_ix inferInstance ?_); (first | omega | (rw [srt_len]; omega) | (simp only [srt_len, List.length_cons, List.length_nil, List.length_map, List.length_append, List.length_range]; omega))) | (with_reducible exact (nb_i inferInstance)) | (with_reducible exact (nows_i inferInstance)) | (with_reducible exact (now_i inferInstance)) | (with_reducible exact (nbs_i inferInstance)) | exact (IM.nown inferInstance) | exact (IM.nbor inferInstance) | exact (IM.plain inferInstance) | (with_reducible exact inferInstance) | decide +kernel | ((refine And.intro ?_ ?_) <;> (first | ((with_reducible refine okId ?_); (first | assumption | with_reducible rfl | ((with_reducible refine okD_ints ?_); (first | omega | (rw [srt_len]; omega) | (simp only [srt_len, List.length_cons, List.length_nil, List.length_map, List.length_append, List.length_range]; omega))) | ((with_reducible refine okL_ints ?_); (first | omega | (rw [srt_len]; omega) | (simp only [srt_len, List.length_cons, List.length_nil, List.length_map, List.length_append, List.length_range]; omega))) | ((with_reducible refine ok_made ?_ ?_) <;> (first | omega | (rw [srt_len]; omega) | (simp only [srt_len, List.length_cons, List.length_nil, List.length_map, List.length_append, List.length_range]; omega))) | ((refine okD_ints ?_); (first | omega | (rw [srt_len]; omega) | (simp only [srt_len, List.length_cons, List.length_nil, List.length_map, List.length_append, List.length_range]; omega))) | ((refine okL_ints ?_); (first | omega | (rw [srt_len]; omega) | (simp only [srt_len, List.length_cons, List.length_nil, List.length_map, List.length_append, List.length_range]; omega))) | ((refine ok_made ?_ ?_) <;> (first | omega | (rw [srt_len]; omega) | (simp only [srt_len, List.length_cons, List.length_nil, List.length_map, List.length_append, List.length_range]; omega))) | ((refine okL_im inferInstance ?_); (first | omega | (rw [srt_len]; omega) | (simp only [srt_len, List.length_cons, List.length_nil, List.length_map, List.length_append, List.length_range]; omega))) | ((refine okT_im inferInstance ?_); (first | omega | (rw [srt_len]; omega) | (simp only [srt_len, List.length_cons, List.length_nil, List.length_map, List.length_append, List.length_range]; omega))) | exact rfl)) | omega | with_reducible rfl | exact rfl | decide | assumption | (with_reducible exact mulR (by decide)) | (with_reducible exact mulR (by omega)) | (with_reducible exact mulL (by omega)) | (simp only [fzs_ints, lends_ints, fzs_ig, lends_ig, fzs, lends, srt_len, List.length_map, List.length_append, List.length_cons, List.length_nil, List.length_take, List.length_drop, List.length_reverse, List.length_replicate, List.length_range]; omega) | ((refine Nat.le_trans cutD_len ?_); omega) | exact Nat.zero_le _ | (simp [putF]; done) | ((with_reducible refine lenu_im inferInstance ?_); (first | omega | (rw [srt_len]; omega) | (simp only [srt_len, List.length_cons, List.length_nil, List.length_map, List.length_append, List.length_range]; omega))) | ((with_reducible refine lenu_il inferInstance ?_); (first | omega | (rw [srt_len]; omega) | (simp only [srt_len, List.length_cons, List.length_nil, List.length_map, List.length_append, List.length_range]; omega))) | ((with_reducible refine lenp_im inferInstance ?_); (first | omega | (rw [srt_len]; omega) | (simp only [srt_len, List.length_cons, List.length_nil, List.length_map, List.length_append, List.length_range]; omega))) | ((with_reducible refine lenp_il inferInstance ?_); (first | omega | (rw [srt_len]; omega) | (simp only [srt_len, List.length_cons, List.length_nil, List.length_map, List.length_append, List.length_range]; omega))) | ((with_reducible refine lenu_ix inferInstance ?_); (first | omega | (rw [srt_len]; omega) | (simp only [srt_len, List.length_cons, List.length_nil, List.length_map, List.length_append, List.length_range]; omega))) | ((with_reducible refine lenp_ix inferInstance ?_); (first | omega | (rw [srt_len]; omega) | (simp only [srt_len, List.length_cons, List.length_nil, List.length_map, List.length_append, List.length_range]; omega))) | (with_reducible exact (nb_i inferInstance)) | (with_reducible exact (nows_i inferInstance)) | (with_reducible exact (now_i inferInstance)) | (with_reducible exact (nbs_i inferInstance)) | exact (IM.nown inferInstance) | exact (IM.nbor inferInstance) | exact (IM.plain inferInstance) | (with_reducible exact inferInstance) | decide +kernel)) | walk_at "ye")); walk_at "yc") | ((with_reducible refine Br.id ?_); ((first | ((with_reducible refine Br.yes ?_ ?_); ((exact rfl); walk_at "yc")) | ((with_reducible refine Br.no ?_ ?_); ((exact rfl); walk_at "yc")) | ((with_reducible refine Br.nw inferInstance ?_); walk_at "yc")))) | ((with_reducible refine Ex.id ?_); ((first | ((with_reducible refine ex_ints inferInstance ?_); walk_at "yc") | ((with_reducible refine ex_bls inferInstance ?_); walk_at "yc") | ((with_reducible refine ex_ig inferInstance ?_); walk_at "yc") | ((refine ex_lot2 ?_); walk_at "yc") | ((refine ex_lot ?_); walk_at "yc") | ((refine Exists.intro _ (And.intro rfl ?_)); walk_at "yc") | ((refine Exists.intro _ (Exists.intro _ (And.intro rfl ?_))); walk_at "yc") | ((refine Exists.intro _ (And.intro (by assumption) ?_)); walk_at "yc") | ((with_reducible refine ex_at inferInstance (by omega) (by first | omega | (simp only [List.length_set, List.length_append, List.length_cons, List.length_nil, List.length_reverse, srt_len]; omega)) ?_); (intro _ hx; (try cases hx)); walk_at "yc") | ((refine Exists.intro _ (Exists.intro _ (And.intro rfl (And.intro rfl ?_)))); walk_at "yc") | ((with_reducible refine ex1n inferInstance ?_); walk_at "yc") | ((with_reducible refine ex2n inferInstance ?_); walk_at "yc") | ((with_reducible refine ex3n inferInstance ?_); walk_at "yc") | ((with_reducible refine ex4n inferInstance ?_); walk_at "yc") | ((with_reducible refine ex5n inferInstance ?_); walk_at "yc") | ((with_reducible refine ex_last ?_); walk_at "yc") | ((with_reducible refine ex_place (by omega) (by omega) ?_); walk_at "yc") | ((with_reducible refine ex_atx inferInstance (by omega) (by first | omega | (simp only [List.length_set, List.length_append, List.length_cons, List.length_nil, List.length_reverse, srt_len]; omega)) ?_); (intro _ hx); walk_at "yc"))))))))
local macro_rules | `(tactic| walk_at "yz") => `(tactic| ((conv => whnf); (try (first | ((with_reducible refine Nx.id ?_); (with_reducible apply Nx.nm); (focus (first | (simp only [upS, put, stepN, kids, setKid, Y.wipe, setAll, List.map_cons, List.map_nil, List.cons_append, List.nil_append, List.replicate, List.getElem?_cons_zero, List.getElem?_cons_succ, List.set_cons_zero, List.set_cons_succ, List.append_eq, Int.reduceToNat, putF, reduceIte, String.reduceEq, arg, fz_lot, fz, fzs_ig, fzs, fzs_ints, List.take_succ_cons, List.take_zero, List.drop_succ_cons, List.drop_zero, List.append_nil]; done) | (simp only [upS, put, stepN, kids, setKid, Y.wipe, setAll, List.map_cons, List.map_nil, List.cons_append, List.nil_append, List.replicate, List.getElem?_cons_zero, List.getElem?_cons_succ, List.set_cons_zero, List.set_cons_succ, List.append_eq, Int.reduceToNat, putF, reduceIte, String.reduceEq, arg, fz_lot, fz, fzs_ig, fzs, fzs_ints, List.take_succ_cons, List.take_zero, List.drop_succ_cons, List.drop_zero, List.append_nil]; exact rfl) | exact rfl)); walk_at "yz") | ((with_reducible refine And.intro ?_ ?_); (focus (first | ((with_reducible refine And.intro ?_ ?_) <;> (first | ((with_reducible refine And.intro ?_ ?_) <;> (first | ((with_reducible refine okId ?_); (first | assumption | with_reducible rfl | ((with_reducible refine okD_ints ?_); (first | omega | (rw [srt_len]; omega) | (simp only [srt_len, List.length_cons, List.length_nil, List.length_map, List.length_append, List.length_range]; omega))) | ((with_reducible refine okL_ints ?_); (first | omega | (rw [srt_len]; omega) | (simp only [srt_len, List.length_cons, List.length_nil, List.length_map, List.length_append, List.length_range]; omega))) | ((with_reducible refine ok_made ?_ ?_) <;> (first | omega | (rw [srt_len]; omega) | (simp only [srt_len, List.length_cons, List.length_nil, List.length_map, List.length_append, List.length_range]; omega))) | ((refine okD_ints ?_); (first | omega | (rw [srt_len]; omega) | (simp only [srt_len, List.length_cons, List.length_nil, List.length_map, List.length_append, List.length_range]; omega))) | ((refine okL_ints ?_); (first | omega | (rw [srt_len]; omega) | (simp only [srt_len, List.length_cons, List.length_nil, List.length_map, List.length_append, List.length_range]; omega))) | ((refine ok_made ?_ ?_) <;> (first | omega | (rw [srt_len]; omega) | (simp only [srt_len, List.length_cons, List.length_nil, List.length_map, List.length_append, List.length_range]; omega))) | ((refine okL_im inferInstance ?_); (first | omega | (rw [srt_len]; omega) | (simp only [srt_len, List.length_cons, List.length_nil, List.length_map, List.length_append, List.length_range]; omega))) | ((refine okT_im inferInstance ?_); (first | omega | (rw [srt_len]; omega) | (simp only [srt_len, List.length_cons, List.length_nil, List.length_map, List.length_append, List.length_range]; omega))) | exact rfl)) | omega | with_reducible rfl | exact rfl | decide | assumption | (with_reducible exact mulR (by decide)) | (with_reducible exact mulR (by omega)) | (with_reducible exact mulL (by omega)) | (simp only [fzs_ints, lends_ints, fzs_ig, lends_ig, fzs, lends, srt_len, List.length_map, List.length_append, List.length_cons, List.length_nil, List.length_take, List.length_drop, List.length_reverse, List.length_replicate, List.length_range]; omega) | ((refine Nat.le_trans cutD_len ?_); omega) | exact Nat.zero_le _ | (simp [putF]; done) | ((with_reducible refine lenu_im inferInstance ?_); (first | omega | (rw [srt_len]; omega) | (simp only [srt_len, List.length_cons, List.length_nil, List.length_map, List.length_append, List.length_range]; omega))) | ((with_reducible refine lenu_il inferInstance ?_); (first | omega | (rw [srt_len]; omega) | (simp only [srt_len, List.length_cons, List.length_nil, List.length_map, List.length_append, List.length_range]; omega))) | ((with_reducible refine lenp_im inferInstance ?_); (first | omega | (rw [srt_len]; omega) | (simp only [srt_len, List.length_cons, List.length_nil, List.length_map, List.length_append, List.length_range]; omega))) | ((with_reducible refine lenp_il inferInstance ?_); (first | omega | (rw [srt_len]; omega) | (simp only [srt_len, List.length_cons, List.length_nil, List.length_map, List.length_append, List.length_range]; omega))) | ((with_reducible refine lenu_ix inferInstance ?_); (first | omega | (rw [srt_len]; omega) | (simp only [srt_len, List.length_cons, List.length_nil, List.length_map, List.length_append, List.length_range]; omega))) | ((with_reducible refine lenp_ix inferInstance ?_); (first | omega | (rw [srt_len]; omega) | (simp only [srt_len, List.length_cons, List.length_nil, List.length_map, List.length_append, List.length_range]; omega))) | (with_reducible exact (nb_i inferInstance)) | (with_reducible exact (nows_i inferInstance)) | (with_reducible exact (now_i inferInstance)) | (with_reducible exact (nbs_i inferInstance)) | exact (IM.nown inferInstance) | exact (IM.nbor inferInstance) | exact (IM.plain inferInstance) | (with_reducible exact inferInstance) | decide +kernel)) | ((with_reducible refine okId ?_); (first | assumption | with_reducible rfl | ((with_reducible refine okD_ints ?_); (first | omega | (rw [srt_len]; omega) | (simp only [srt_len, List.length_cons, List.length_nil, List.length_map, List.length_append, List.length_range]; omega))) | ((with_reducible refine okL_ints ?_); (first | omega | (rw [srt_len]; omega) | (simp only [srt_len, List.length_cons, List.length_nil, List.length_map, List.length_append, List.length_range]; omega))) | ((with_reducible refine ok_made ?_ ?_) <;> (first | omega | (rw [srt_len]; omega) | (simp only [srt_len, List.length_cons, List.length_nil, List.length_map, List.length_append, List.length_range]; omega))) | ((refine okD_ints ?_); (first | omega | (rw [srt_len]; omega) | (simp only [srt_len, List.length_cons, List.length_nil, List.length_map, List.length_append, List.length_range]; omega))) | ((refine okL_ints ?_); (first | omega | (rw [srt_len]; omega) | (simp only [srt_len, List.length_cons, List.length_nil, List.length_map, List.length_append, List.length_range]; omega))) | ((refine ok_made ?_ ?_) <;> (first | omega | (rw [srt_len]; omega) | (simp only [srt_len, List.length_cons, List.length_nil, List.length_map, List.length_append, List.length_range]; omega))) | ((refine okL_im inferInstance ?_); (first | omega | (rw [srt_len]; omega) | (simp only [srt_len, List.length_cons, List.length_nil, List.length_map, List.length_append, List.length_range]; omega))) | ((refine okT_im inferInstance ?_); (first | omega | (rw [srt_len]; omega) | (simp only [srt_len, List.length_cons, List.length_nil, List.length_map, List.length_append, List.length_range]; omega))) | exact rfl)) | omega | with_reducible rfl | exact rfl | decide | assumption | (with_reducible exact mulR (by decide)) | (with_reducible exact mulR (by omega)) | (with_reducible exact mulL (by omega)) | (simp only [fzs_ints, lends_ints, fzs_ig, lends_ig, fzs, lends, srt_len, List.length_map, List.length_append, List.length_cons, List.length_nil, List.length_take, List.length_drop, List.length_reverse, List.length_replicate, List.length_range]; omega) | ((refine Nat.le_trans cutD_len ?_); omega) | exact Nat.zero_le _ | (simp [putF]; done) | ((with_reducible refine lenu_im inferInstance ?_); (first | omega | (rw [srt_len]; omega) | (simp only [srt_len, List.length_cons, List.length_nil, List.length_map, List.length_append, List.length_range]; omega))) | ((with_reducible refine lenu_il inferInstance ?_); (first | omega | (rw [srt_len]; omega) | (simp only [srt_len, List.length_cons, List.length_nil, List.length_map, List.length_append, List.length_range]; omega))) | ((with_reducible refine lenp_im inferInstance ?_); (first | omega | (rw [srt_len]; omega) | (simp only [srt_len, List.length_cons, List.length_nil, List.length_map, List.length_append, List.length_range]; omega))) | ((with_reducible refine lenp_il inferInstance ?_); (first | omega | (rw [srt_len]; omega) | (simp only [srt_len, List.length_cons, List.length_nil, List.length_map, List.length_append, List.length_range]; omega))) | ((with_reducible refine lenu_ix inferInstance ?_); (first | omega | (rw [srt_len]; omega) | (simp only [srt_len, List.length_cons, List.length_nil, List.length_map, List.length_append, List.length_range]; omega))) | ((with_reducible refine lenp_ix inferInstance ?_); (first | omega | (rw [srt_len]; omega) | (simp only [srt_len, List.length_cons, List.length_nil, List.length_map, List.length_append, List.length_range]; omega))) | (with_reducible exact (nb_i inferInstance)) | (with_reducible exact (nows_i inferInstance)) | (with_reducible exact (now_i inferInstance)) | (with_reducible exact (nbs_i inferInstance)) | exact (IM.nown inferInstance) | exact (IM.nbor inferInstance) | exact (IM.plain inferInstance) | (with_reducible exact inferInstance) | decide +kernel)) | ((with_reducible refine okId ?_); (first | assumption | with_reducible rfl | ((with_reducible refine okD_ints ?_); (first | omega | (rw [srt_len]; omega) | (simp only [srt_len, List.length_cons, List.length_nil, List.length_map, List.length_append, List.length_range]; omega))) | ((with_reducible refine okL_ints ?_); (first | omega | (rw [srt_len]; omega) | (simp only [srt_len, List.length_cons, List.length_nil, List.length_map, List.length_append, List.length_range]; omega))) | ((with_reducible refine ok_made ?_ ?_) <;> (first | omega | (rw [srt_len]; omega) | (simp only [srt_len, List.length_cons, List.length_nil, List.length_map, List.length_append, List.length_range]; omega))) | ((refine okD_ints ?_); (first | omega | (rw [srt_len]; omega) | (simp only [srt_len, List.length_cons, List.length_nil, List.length_map, List.length_append, List.length_range]; omega))) | ((refine okL_ints ?_); (first | omega | (rw [srt_len]; omega) | (simp only [srt_len, List.length_cons, List.length_nil, List.length_map, List.length_append, List.length_range]; omega))) | ((refine ok_made ?_ ?_) <;> (first | omega | (rw [srt_len]; omega) | (simp only [srt_len, List.length_cons, List.length_nil, List.length_map, List.length_append, List.length_range]; omega))) | ((refine okL_im inferInstance ?_); (first | omega | (rw [srt_len]; omega) | (simp only [srt_len, List.length_cons, List.length_nil, List.length_map, List.length_append, List.length_range]; omega))) | ((refine okT_im inferInstance ?_); (first | omega | (rw [srt_len]; omega) | (simp only [srt_len, List.length_cons, List.length_nil, List.length_map, List.length_append, List.length_range]; omega))) | exact rfl)) | omega | with_reducible rfl | exact rfl | decide | assumption | (with_reducible exact mulR (by decide)) | (with_reducible exact mulR (by omega)) | (with_reducible exact mulL (by omega)) | (simp only [fzs_ints, lends_ints, fzs_ig, lends_ig, fzs, lends, srt_len, List.length_map, List.length_append, List.length_cons, List.length_nil, List.length_take, List.length_drop, List.length_reverse, List.length_replicate, List.length_range]; omega) | ((refine Nat.le_trans cutD_len ?_); omega) | exact Nat.zero_le _ | (simp [putF]; done) | ((with_reducible refine lenu_im inferInstance ?_); (first | omega | (rw [srt_len]; omega) | (simp only [srt_len, List.length_cons, List.length_nil, List.length_map, List.length_append, List.length_range]; omega))) | ((with_reducible refine lenu_il inferInstance ?_); (first | omega | (rw [srt_len]; omega) | (simp only [srt_len, List.length_cons, List.length_nil, List.length_map, List.length_append, List.length_range]; omega))) | ((with_reducible refine lenp_im inferInstance ?_); (first | omega | (rw [srt_len]; omega) | (simp only [srt_len, List.length_cons, List.length_nil, List.length_map, List.length_append, List.length_range]; omega))) | ((with_reducible refine lenp_il inferInstance ?_); (first | omega | (rw [srt_len]; omega) | (simp only [srt_len, List.length_cons, List.length_nil, List.length_map, List.length_append, List.length_range]; omega))) | ((with_reducible refine lenu_ix inferInstance ?_); (first | omega | (rw [srt_len]; omega) | (simp only [srt_len, List.length_cons, List.length_nil, List.length_map, List.length_append, List.length_range]; omega))) | ((with_reducible refine lenp_ix inferInstance ?_); (first | omega | (rw [srt_len]; omega) | (simp only [srt_len, List.length_cons, List.length_nil, List.length_map, List.length_append, List.length_range]; omega))) | (with_reducible exact (nb_i inferInstance)) | (with_reducible exact (nows_i inferInstance)) | (with_reducible exact (now_i inferInstance)) | (with_reducible exact (nbs_i inferInstance)) | exact (IM.nown inferInstance) | exact (IM.nbor inferInstance) | exact (IM.plain inferInstance) | (with_reducible exact inferInstance) | decide +kernel | ((refine And.intro ?_ ?_) <;> (first | ((with_reducible refine okId ?_); (first | assumption | with_reducible rfl | ((with_reducible refine okD_ints ?_); (first | omega | (rw [srt_len]; omega) | (simp only [srt_len, List.length_cons, List.length_nil, List.length_map, List.length_append, List.length_range]; omega))) | ((with_reducible refine okL_ints ?_); (first | omega | (rw [srt_len]; omega) | (simp only [srt_len, List.length_cons, List.length_nil, List.length_map, List.length_append, List.length_range]; omega))) | ((with_reducible refine ok_made ?_ ?_) <;> (first | omega | (rw [srt_len]; omega) | (simp only [srt_len, List.length_cons, List.length_nil, List.length_map, List.length_append, List.length_range]; omega))) | ((refine okD_ints ?_); (first | omega | (rw [srt_len]; omega) | (simp only [srt_len, List.length_cons, List.length_nil, List.length_map, List.length_append, List.length_range]; omega))) | ((refine okL_ints ?_); (first | omega | (rw [srt_len]; omega) | (simp only [srt_len, List.length_cons, List.length_nil, List.length_map, List.length_append, List.length_range]; omega))) | ((refine ok_made ?_ ?_) <;> (first | omega | (rw [srt_len]; omega) | (simp only [srt_len, List.length_cons, List.length_nil, List.length_map, List.length_append, List.length_range]; omega))) | ((refine okL_im inferInstance ?_); (first | omega | (rw [srt_len]; omega) | (simp only [srt_len, List.length_cons, List.length_nil, List.length_map, List.length_append, List.length_range]; omega))) | ((refine okT_im inferInstance ?_); (first | omega | (rw [srt_len]; omega) | (simp only [srt_len, List.length_cons, List.length_nil, List.length_map, List.length_append, List.length_range]; omega))) | exact rfl)) | omega | with_reducible rfl | exact rfl | decide | assumption | (with_reducible exact mulR (by decide)) | (with_reducible exact mulR (by omega)) | (with_reducible exact mulL (by omega)) | (simp only [fzs_ints, lends_ints, fzs_ig, lends_ig, fzs, lends, srt_len, List.length_map, List.length_append, List.length_cons, List.length_nil, List.length_take, List.length_drop, List.length_reverse, List.length_replicate, List.length_range]; omega) | ((refine Nat.le_trans cutD_len ?_); omega) | exact Nat.zero_le _ | (simp [putF]; done) | ((with_reducible refine lenu_im inferInstance ?_); (first | omega | (rw [srt_len]; omega) | (simp only [srt_len, List.length_cons, List.length_nil, List.length_map, List.length_append, List.length_range]; omega))) | ((with_reducible refine lenu_il inferInstance ?_); (first | omega | (rw [srt_len]; omega) | (simp only [srt_len, List.length_cons, List.length_nil, List.length_map, List.length_append, List.length_range]; omega))) | ((with_reducible refine lenp_im inferInstance ?_); (first | omega | (rw [srt_len]; omega) | (simp only [srt_len, List.length_cons, List.length_nil, List.length_map, List.length_append, List.length_range]; omega))) | ((with_reducible refine lenp_il inferInstance ?_); (first | omega | (rw [srt_len]; omega) | (simp only [srt_len, List.length_cons, List.length_nil, List.length_map, List.length_append, List.length_range]; omega))) | ((with_reducible refine lenu_ix inferInstance ?_); (first | omega | (rw [srt_len]; omega) | (simp only [srt_len, List.length_cons, List.length_nil, List.length_map, List.length_append, List.length_range]; omega))) | ((with_reducible refine lenp_ix inferInstance ?_); (first | omega | (rw [srt_len]; omega) | (simp only [srt_len, List.length_cons, List.length_nil, List.length_map, List.length_append, List.length_range]; omega))) | (with_reducible exact (nb_i inferInstance)) | (with_reducible exact (nows_i inferInstance)) | (with_reducible exact (now_i inferInstance)) | (with_reducible exact (nbs_i inferInstance)) | exact (IM.nown inferInstance) | exact (IM.nbor inferInstance) | exact (IM.plain inferInstance) | (with_reducible exact inferInstance) | decide +kernel)) | walk_at "ye")); walk_at "yz") | ((with_reducible refine Br.id ?_); ((first | ((first | with_reducible refine Br.e ?_ ?_ | with_reducible refine Br.x ?_ ?_ | with_reducible refine Br.d ?_ ?_ | with_reducible refine Br.n ?_ ?_) <;> (intro _; first | (first | contradiction | (exfalso; exact absurd (by assumption) (by decide)) | (exfalso; omega) | (exfalso; rename_i hk; simp only [List.length_cons, List.length_nil, fzs, lends] at hk; omega)) | walk_at "yz")) | ((first | refine Br.in inferInstance rfl ?_ ?_ | refine Br.ni inferInstance rfl ?_ ?_) <;> (intro _; first | (first | contradiction | (exfalso; exact absurd (by assumption) (by decide)) | (exfalso; omega) | (exfalso; rename_i hk; simp only [List.length_cons, List.length_nil, fzs, lends] at hk; omega)) | walk_at "yz")) | ((with_reducible refine Br.nn ?_); walk_at "yz") | ((with_reducible refine Br.yes (sameD_refl 11 ?_) ?_); (focus ((with_reducible refine okId ?_); (first | assumption | with_reducible rfl | ((with_reducible refine okD_ints ?_); (first | omega | (rw [srt_len]; omega) | (simp only [srt_len, List.length_cons, List.length_nil, List.length_map, List.length_append, List.length_range]; omega))) | ((with_reducible refine okL_ints ?_); (first | omega | (rw [srt_len]; omega) | (simp only [srt_len, List.length_cons, List.length_nil, List.length_map, List.length_append, List.length_range]; omega))) | ((with_reducible refine ok_made ?_ ?_) <;> (first | omega | (rw [srt_len]; omega) | (simp only [srt_len, List.length_cons, List.length_nil, List.length_map, List.length_append, List.length_range]; omega))) | ((refine okD_ints ?_); (first | omega | (rw [srt_len]; omega) | (simp only [srt_len, List.length_cons, List.length_nil, List.length_map, List.length_append, List.length_range]; omega))) | ((refine okL_ints ?_); (first | omega | (rw [srt_len]; omega) | (simp only [srt_len, List.length_cons, List.length_nil, List.length_map, List.length_append, List.length_range]; omega))) | ((refine ok_made ?_ ?_) <;> (first | omega | (rw [srt_len]; omega) | (simp only [srt_len, List.length_cons, List.length_nil, List.length_map, List.length_append, List.length_range]; omega))) | ((refine okL_im inferInstance ?_); (first | omega | (rw [srt_len]; omega) | (simp only [srt_len, List.length_cons, List.length_nil, List.length_map, List.length_append, List.length_range]; omega))) | ((refine okT_im inferInstance ?_); (first | omega | (rw [srt_len]; omega) | (simp only [srt_len, List.length_cons, List.length_nil, List.length_map, List.length_append, List.length_range]; omega))) | exact rfl))); walk_at "yz") | ((with_reducible apply Br.nm); (focus (simp only [arg, fz, fzs, fzs_ints, lend, lends_ints, List.length_map]; exact rfl)); walk_at "yz") | ((with_reducible refine Br.yes (sameL_im inferInstance inferInstance) ?_); walk_at "yz") | ((with_reducible refine Br.yes (sameT_im inferInstance inferInstance) ?_); walk_at "yz") | ((with_reducible refine Br.yes ?_ ?_); ((exact rfl); walk_at "yz")) | ((with_reducible refine Br.no ?_ ?_); ((exact rfl); walk_at "yz")) | ((with_reducible refine Br.nw inferInstance ?_); walk_at "yz")))) | ((with_reducible refine Ex.id ?_); ((first | ((with_reducible refine ex_ints inferInstance ?_); walk_at "yz") | ((with_reducible refine ex_bls inferInstance ?_); walk_at "yz") | ((refine ex_candT inferInstance ?_); walk_at "yz") | ((refine ex_candL inferInstance ?_); walk_at "yz") | ((with_reducible refine ex_ig inferInstance ?_); walk_at "yz") | ((refine ex_lot2 ?_); walk_at "yz") | ((refine ex_lot ?_); walk_at "yz") | ((refine Exists.intro _ (And.intro rfl ?_)); walk_at "yz") | ((refine Exists.intro _ (Exists.intro _ (And.intro rfl ?_))); walk_at "yz") | ((refine Exists.intro _ (And.intro (by assumption) ?_)); walk_at "yz") | ((with_reducible refine ex_at inferInstance (by omega) (by first | omega | (simp only [List.length_set, List.length_append, List.length_cons, List.length_nil, List.length_reverse, srt_len]; omega)) ?_); (intro _ hx; (try cases hx)); walk_at "yz") | ((refine Exists.intro _ (Exists.intro _ (And.intro rfl (And.intro rfl ?_)))); walk_at "yz") | ((with_reducible refine ex1n inferInstance ?_); walk_at "yz") | ((with_reducible refine ex2n inferInstance ?_); walk_at "yz") | ((with_reducible refine ex3n inferInstance ?_); walk_at "yz") | ((with_reducible refine ex4n inferInstance ?_); walk_at "yz") | ((with_reducible refine ex5n inferInstance ?_); walk_at "yz") | ((with_reducible refine ex_last ?_); walk_at "yz") | ((with_reducible refine ex_place (by omega) (by omega) ?_); walk_at "yz") | ((with_reducible refine ex_atx inferInstance (by omega) (by first | omega | (simp only [List.length_set, List.length_append, List.length_cons, List.length_nil, List.length_reverse, srt_len]; omega)) ?_); (intro _ hx); walk_at "yz")))) | ((with_reducible refine Both.mk ?_ ?_) <;> walk_at "yz") | ((with_reducible refine All.ints inferInstance ?_); walk_at "yz") | ((with_reducible refine All.rows inferInstance ?_); walk_at "yz") | ((with_reducible refine All.ix inferInstance ?_); walk_at "yz") | ((with_reducible apply lc_ints inferInstance); (focus (intro _ _ _ _ _; walk_at "yc"; first | assumption | exact Br.t (by assumption) rfl)); (try rw [filter_true]); walk_at "yz") | ((with_reducible apply lc_rows inferInstance); (focus (intro _ _ _ _ _; walk_at "yc"; first | assumption | exact Br.t (by assumption) rfl)); (try rw [filter_true]); walk_at "yz") | ((with_reducible apply lc_x inferInstance); (focus (intro _ _ _ _ _; walk_at "yc"; first | assumption | exact Br.t (by assumption) rfl)); (try rw [filter_true]); walk_at "yz") | ((with_reducible refine All.cons ?_ ?_) <;> walk_at "yz") | (with_reducible exact All.nil) | ((with_reducible refine perm_im inferInstance ?_); (intro _ _); walk_at "yz") | ((with_reducible refine perm_ix inferInstance ?_); (intro _ _); walk_at "yz") | (intro _; walk_at "yz")))))
local macro_rules | `(tactic| walk_at "yu") => `(tactic| ((conv => whnf); (try (first | ((with_reducible refine Nx.id ?_); (with_reducible apply Nx.nm); (focus (first | (simp only [upS, put, stepN, kids, setKid, Y.wipe, setAll, List.map_cons, List.map_nil, List.cons_append, List.nil_append, List.replicate, List.getElem?_cons_zero, List.getElem?_cons_succ, List.set_cons_zero, List.set_cons_succ, List.append_eq, Int.reduceToNat, putF, reduceIte, String.reduceEq, arg, fz_lot, fz, fzs_ig, fzs, fzs_ints, List.take_succ_cons, List.take_zero, List.drop_succ_cons, List.drop_zero, List.append_nil]; done) | (simp only [upS, put, stepN, kids, setKid, Y.wipe, setAll, List.map_cons, List.map_nil, List.cons_append, List.nil_append, List.replicate, List.getElem?_cons_zero, List.getElem?_cons_succ, List.set_cons_zero, List.set_cons_succ, List.append_eq, Int.reduceToNat, putF, reduceIte, String.reduceEq, arg, fz_lot, fz, fzs_ig, fzs, fzs_ints, List.take_succ_cons, List.take_zero, List.drop_succ_cons, List.drop_zero, List.append_nil]; exact rfl) | exact rfl)); walk_at "yu") | ((with_reducible refine And.intro ?_ ?_); (focus (first | ((with_reducible refine And.intro ?_ ?_) <;> (first | ((with_reducible refine And.intro ?_ ?_) <;> (first | ((with_reducible refine okId ?_); (first | assumption | with_reducible rfl | ((with_reducible refine okD_ints ?_); (first | omega | (rw [srt_len]; omega) | (simp only [srt_len, List.length_cons, List.length_nil, List.length_map, List.length_append, List.length_range]; omega))) | ((with_reducible refine okL_ints ?_); (first | omega | (rw [srt_len]; omega) | (simp only [srt_len, List.length_cons, List.length_nil, List.length_map, List.length_append, List.length_range]; omega))) | ((with_reducible refine ok_made ?_ ?_) <;> (first | omega | (rw [srt_len]; omega) | (simp only [srt_len, List.length_cons, List.length_nil, List.length_map, List.length_append, List.length_range]; omega))) | ((refine okD_ints ?_); (first | omega | (rw [srt_len]; omega) | (simp only [srt_len, List.length_cons, List.length_nil, List.length_map, List.length_append, List.length_range]; omega))) | ((refine okL_ints ?_); (first | omega | (rw [srt_len]; omega) | (simp only [srt_len, List.length_cons, List.length_nil, List.length_map, List.length_append, List.length_range]; omega))) | ((refine ok_made ?_ ?_) <;> (first | omega | (rw [srt_len]; omega) | (simp only [srt_len, List.length_cons, List.length_nil, List.length_map, List.length_append, List.length_range]; omega))) | ((refine okL_im inferInstance ?_); (first | omega | (rw [srt_len]; omega) | (simp only [srt_len, List.length_cons, List.length_nil, List.length_map, List.length_append, List.length_range]; omega))) | ((refine okT_im inferInstance ?_); (first | omega | (rw [srt_len]; omega) | (simp only [srt_len, List.length_cons, List.length_nil, List.length_map, List.length_append, List.length_range]; omega))) | exact rfl)) | omega | with_reducible rfl | exact rfl | decide | assumption | (with_reducible exact mulR (by decide)) | (with_reducible exact mulR (by omega)) | (with_reducible exact mulL (by omega)) | (simp only [fzs_ints, lends_ints, fzs_ig, lends_ig, fzs, lends, srt_len, List.length_map, List.length_append, List.length_cons, List.length_nil, List.length_take, List.length_drop, List.length_reverse, List.length_replicate, List.length_range]; omega) | ((refine Nat.le_trans cutD_len ?_); omega) | exact Nat.zero_le _ | (simp [putF]; done) | ((with_reducible refine lenu_im inferInstance ?_); (first | omega | (rw [srt_len]; omega) | (simp only [srt_len, List.length_cons, List.length_nil, List.length_map, List.length_append, List.length_range]; omega))) | ((with_reducible refine lenu_il inferInstance ?_); (first | omega | (rw [srt_len]; omega) | (simp only [srt_len, List.length_cons, List.length_nil, List.length_map, List.length_append, List.length_range]; omega))) | ((with_reducible refine lenp_im inferInstance ?_); (first | omega | (rw [srt_len]; omega) | (simp only [srt_len, List.length_cons, List.length_nil, List.length_map, List.length_append, List.length_range]; omega))) | ((with_reducible refine lenp_il inferInstance ?_); (first | omega | (rw [srt_len]; omega) | (simp only [srt_len, List.length_cons, List.length_nil, List.length_map, List.length_append, List.length_range]; omega))) | ((with_reducible refine lenu_ix inferInstance ?_); (first | omega | (rw [srt_len]; omega) | (simp only [srt_len, List.length_cons, List.length_nil, List.length_map, List.length_append, List.length_range]; omega))) | ((with_reducible refine lenp_ix inferInstance ?_); (first | omega | (rw [srt_len]; omega) | (simp only [srt_len, List.length_cons, List.length_nil, List.length_map, List.length_append, List.length_range]; omega))) | (with_reducible exact (nb_i inferInstance)) | (with_reducible exact (nows_i inferInstance)) | (with_reducible exact (now_i inferInstance)) | (with_reducible exact (nbs_i inferInstance)) | exact (IM.nown inferInstance) | exact (IM.nbor inferInstance) | exact (IM.plain inferInstance) | (with_reducible exact inferInstance) | decide +kernel)) | ((with_reducible refine okId ?_); (first | assumption | with_reducible rfl | ((with_reducible refine okD_ints ?_); (first | omega | (rw [srt_len]; omega) | (simp only [srt_len, List.length_cons, List.length_nil, List.length_map, List.length_append, List.length_range]; omega))) | ((with_reducible refine okL_ints ?_); (first | omega | (rw [srt_len]; omega) | (simp only [srt_len, List.length_cons, List.length_nil, List.length_map, List.length_append, List.length_range]; omega))) | ((with_reducible refine ok_made ?_ ?_) <;> (first | omega | (rw [srt_len]; omega) | (simp only [srt_len, List.length_cons, List.length_nil, List.length_map, List.length_append, List.length_range]; omega))) | ((refine okD_ints ?_); (first | omega | (rw [srt_len]; omega) | (simp only [srt_len, List.length_cons, List.length_nil, List.length_map, List.length_append, List.length_range]; omega))) | ((refine okL_ints ?_); (first | omega | (rw [srt_len]; omega) | (simp only [srt_len, List.length_cons, List.length_nil, List.length_map, List.length_append, List.length_range]; omega))) | ((refine ok_made ?_ ?_) <;> (first | omega | (rw [srt_len]; omega) | (simp only [srt_len, List.length_cons, List.length_nil, List.length_map, List.length_append, List.length_range]; omega))) | ((refine okL_im inferInstance ?_); (first | omega | (rw [srt_len]; omega) | (simp only [srt_len, List.length_cons, List.length_nil, List.length_map, List.length_append, List.length_range]; omega))) | ((refine okT_im inferInstance ?_); (first | omega | (rw [srt_len]; omega) | (simp only [srt_len, List.length_cons, List.length_nil, List.length_map, List.length_append, List.length_range]; omega))) | exact rfl)) | omega | with_reducible rfl | exact rfl | decide | assumption | (with_reducible exact mulR (by decide)) | (with_reducible exact mulR (by omega)) | (with_reducible exact mulL (by omega)) | (simp only [fzs_ints, lends_ints, fzs_ig, lends_ig, fzs, lends, srt_len, List.length_map, List.length_append, List.length_cons, List.length_nil, List.length_take, List.length_drop, List.length_reverse, List.length_replicate, List.length_range]; omega) | ((refine Nat.le_trans cutD_len ?_); omega) | exact Nat.zero_le _ | (simp [putF]; done) | ((with_reducible refine lenu_im inferInstance ?_); (first | omega | (rw [srt_len]; omega) | (simp only [srt_len, List.length_cons, List.length_nil, List.length_map, List.length_append, List.length_range]; omega))) | ((with_reducible refine lenu_il inferInstance ?_); (first | omega | (rw [srt_len]; omega) | (simp only [srt_len, List.length_cons, List.length_nil, List.length_map, List.length_append, List.length_range]; omega))) | ((with_reducible refine lenp_im inferInstance ?_); (first | omega | (rw [srt_len]; omega) | (simp only [srt_len, List.length_cons, List.length_nil, List.length_map, List.length_append, List.length_range]; omega))) | ((with_reducible refine lenp_il inferInstance ?_); (first | omega | (rw [srt_len]; omega) | (simp only [srt_len, List.length_cons, List.length_nil, List.length_map, List.length_append, List.length_range]; omega))) | ((with_reducible refine lenu_ix inferInstance ?_); (first | omega | (rw [srt_len]; omega) | (simp only [srt_len, List.length_cons, List.length_nil, List.length_map, List.length_append, List.length_range]; omega))) | ((with_reducible refine lenp_ix inferInstance ?_); (first | omega | (rw [srt_len]; omega) | (simp only [srt_len, List.length_cons, List.length_nil, List.length_map, List.length_append, List.length_range]; omega))) | (with_reducible exact (nb_i inferInstance)) | (with_reducible exact (nows_i inferInstance)) | (with_reducible exact (now_i inferInstance)) | (with_reducible exact (nbs_i inferInstance)) | exact (IM.nown inferInstance) | exact (IM.nbor inferInstance) | exact (IM.plain inferInstance) | (with_reducible exact inferInstance) | decide +kernel)) | ((with_reducible refine okId ?_); (first | assumption | with_reducible rfl | ((with_reducible refine okD_ints ?_); (first | omega | (rw [srt_len]; omega) | (simp only [srt_len, List.length_cons, List.length_nil, List.length_map, List.length_append, List.length_range]; omega))) | ((with_reducible refine okL_ints ?_); (first | omega | (rw [srt_len]; omega) | (simp only [srt_len, List.length_cons, List.length_nil, List.length_map, List.length_append, List.length_range]; omega))) | ((with_reducible refine ok_made ?_ ?_) <;> (first | omega | (rw [srt_len]; omega) | (simp only [srt_len, List.length_cons, List.length_nil, List.length_map, List.length_append, List.length_range]; omega))) | ((refine okD_ints ?_); (first | omega | (rw [srt_len]; omega) | (simp only [srt_len, List.length_cons, List.length_nil, List.length_map, List.length_append, List.length_range]; omega))) | ((refine okL_ints ?_); (first | omega | (rw [srt_len]; omega) | (simp only [srt_len, List.length_cons, List.length_nil, List.length_map, List.length_append, List.length_range]; omega))) | ((refine ok_made ?_ ?_) <;> (first | omega | (rw [srt_len]; omega) | (simp only [srt_len, List.length_cons, List.length_nil, List.length_map, List.length_append, List.length_range]; omega))) | ((refine okL_im inferInstance ?_); (first | omega | (rw [srt_len]; omega) | (simp only [srt_len, List.length_cons, List.length_nil, List.length_map, List.length_append, List.length_range]; omega))) | ((refine okT_im inferInstance ?_); (first | omega | (rw [srt_len]; omega) | (simp only [srt_len, List.length_cons, List.length_nil, List.length_map, List.length_append, List.length_range]; omega))) | exact rfl)) | omega | with_reducible rfl | exact rfl | decide | assumption | (with_reducible exact mulR (by decide)) | (with_reducible exact mulR (by omega)) | (with_reducible exact mulL (by omega)) | (simp only [fzs_ints, lends_ints, fzs_ig, lends_ig, fzs, lends, srt_len, List.length_map, List.length_append, List.length_cons, List.length_nil, List.length_take, List.length_drop, List.length_reverse, List.length_replicate, List.length_range]; omega) | ((refine Nat.le_trans cutD_len ?_); omega) | exact Nat.zero_le _ | (simp [putF]; done) | ((with_reducible refine lenu_im inferInstance ?_); (first | omega | (rw [srt_len]; omega) | (simp only [srt_len, List.length_cons, List.length_nil, List.length_map, List.length_append, List.length_range]; omega))) | ((with_reducible refine lenu_il inferInstance ?_); (first | omega | (rw [srt_len]; omega) | (simp only [srt_len, List.length_cons, List.length_nil, List.length_map, List.length_append, List.length_range]; omega))) | ((with_reducible refine lenp_im inferInstance ?_); (first | omega | (rw [srt_len]; omega) | (simp only [srt_len, List.length_cons, List.length_nil, List.length_map, List.length_append, List.length_range]; omega))) | ((with_reducible refine lenp_il inferInstance ?_); (first | omega | (rw [srt_len]; omega) | (simp only [srt_len, List.length_cons, List.length_nil, List.length_map, List.length_append, List.length_range]; omega))) | ((with_reducible refine lenu_ix inferInstance ?_); (first | omega | (rw [srt_len]; omega) | (simp only [srt_len, List.length_cons, List.length_nil, List.length_map, List.length_append, List.length_range]; omega))) | ((with_reducible refine lenp_ix inferInstance ?_); (first | omega | (rw [srt_len]; omega) | (simp only [srt_len, List.length_cons, List.length_nil, List.length_map, List.length_append, List.length_range]; omega))) | (with_reducible exact (nb_i inferInstance)) | (with_reducible exact (nows_i inferInstance)) | (with_reducible exact (now_i inferInstance)) | (with_reducible exact (nbs_i inferInstance)) | exact (IM.nown inferInstance) | exact (IM.nbor inferInstance) | exact (IM.plain inferInstance) | (with_reducible exact inferInstance) | decide +kernel | ((refine And.intro ?_ ?_) <;> (first | ((with_reducible refine okId ?_); (first | assumption | with_reducible rfl | ((with_reducible refine okD_ints ?_); (first | omega | (rw [srt_len]; omega) | (simp only [srt_len, List.length_cons, List.length_nil, List.length_map, List.length_append, List.length_range]; omega))) | ((with_reducible refine okL_ints ?_); (first | omega | (rw [srt_len]; omega) | (simp only [srt_len, List.length_cons, List.length_nil, List.length_map, List.length_append, List.length_range]; omega))) | ((with_reducible refine ok_made ?_ ?_) <;> (first | omega | (rw [srt_len]; omega) | (simp only [srt_len, List.length_cons, List.length_nil, List.length_map, List.length_append, List.length_range]; omega))) | ((refine okD_ints ?_); (first | omega | (rw [srt_len]; omega) | (simp only [srt_len, List.length_cons, List.length_nil, List.length_map, List.length_append, List.length_range]; omega))) | ((refine okL_ints ?_); (first | omega | (rw [srt_len]; omega) | (simp only [srt_len, List.length_cons, List.length_nil, List.length_map, List.length_append, List.length_range]; omega))) | ((refine ok_made ?_ ?_) <;> (first | omega | (rw [srt_len]; omega) | (simp only [srt_len, List.length_cons, List.length_nil, List.length_map, List.length_append, List.length_range]; omega))) | ((refine okL_im inferInstance ?_); (first | omega | (rw [srt_len]; omega) | (simp only [srt_len, List.length_cons, List.length_nil, List.length_map, List.length_append, List.length_range]; omega))) | ((refine okT_im inferInstance ?_); (first | omega | (rw [srt_len]; omega) | (simp only [srt_len, List.length_cons, List.length_nil, List.length_map, List.length_append, List.length_range]; omega))) | exact rfl)) | omega | with_reducible rfl | exact rfl | decide | assumption | (with_reducible exact mulR (by decide)) | (with_reducible exact mulR (by omega)) | (with_reducible exact mulL (by omega)) | (simp only [fzs_ints, lends_ints, fzs_ig, lends_ig, fzs, lends, srt_len, List.length_map, List.length_append, List.length_cons, List.length_nil, List.length_take, List.length_drop, List.length_reverse, List.length_replicate, List.length_range]; omega) | ((refine Nat.le_trans cutD_len ?_); omega) | exact Nat.zero_le _ | (simp [putF]; done) | ((with_reducible refine lenu_im inferInstance ?_); (first | omega | (rw [srt_len]; omega) | (simp only [srt_len, List.length_cons, List.length_nil, List.length_map, List.length_append, List.length_range]; omega))) | ((with_reducible refine lenu_il inferInstance ?_); (first | omega | (rw [srt_len]; omega) | (simp only [srt_len, List.length_cons, List.length_nil, List.length_map, List.length_append, List.length_range]; omega))) | ((with_reducible refine lenp_im inferInstance ?_); (first | omega | (rw [srt_len]; omega) | (simp only [srt_len, List.length_cons, List.length_nil, List.length_map, List.length_append, List.length_range]; omega))) | ((with_reducible refine lenp_il inferInstance ?_); (first | omega | (rw [srt_len]; omega) | (simp only [srt_len, List.length_cons, List.length_nil, List.length_map, List.length_append, List.length_range]; omega))) | ((with_reducible refine lenu_ix inferInstance ?_); (first | omega | (rw [srt_len]; omega) | (simp only [srt_len, List.length_cons, List.length_nil, List.length_map, List.length_append, List.length_range]; omega))) | ((with_reducible refine lenp_ix inferInstance ?_); (first | omega | (rw [srt_len]; omega) | (simp only [srt_len, List.length_cons, List.length_nil, List.length_map, List.length_append, List.length_range]; omega))) | (with_reducible exact (nb_i inferInstance)) | (with_reducible exact (nows_i inferInstance)) | (with_reducible exact (now_i inferInstance)) | (with_reducible exact (nbs_i inferInstance)) | exact (IM.nown inferInstance) | exact (IM.nbor inferInstance) | exact (IM.plain inferInstance) | (with_reducible exact inferInstance) | decide +kernel)) | walk_at "ye")); walk_at "yu") | ((with_reducible refine Br.id ?_); ((first | ((first | with_reducible refine Br.e ?_ ?_ | with_reducible refine Br.x ?_ ?_ | with_reducible refine Br.d ?_ ?_ | with_reducible refine Br.n ?_ ?_) <;> (intro _; first | (first | contradiction | (exfalso; exact absurd (by assumption) (by decide)) | (exfalso; omega) | (exfalso; rename_i hk; simp only [List.length_cons, List.length_nil, fzs, lends] at hk; omega)) | walk_at "yu")) | ((first | refine Br.in inferInstance rfl ?_ ?_ | refine Br.ni inferInstance rfl ?_ ?_) <;> (intro _; first | (first | contradiction | (exfalso; exact absurd (by assumption) (by decide)) | (exfalso; omega) | (exfalso; rename_i hk; simp only [List.length_cons, List.length_nil, fzs, lends] at hk; omega)) | walk_at "yu")) | ((with_reducible refine Br.nn ?_); walk_at "yu") | ((with_reducible refine Br.yes (sameD_refl 11 ?_) ?_); (focus ((with_reducible refine okId ?_); (first | assumption | with_reducible rfl | ((with_reducible refine okD_ints ?_); (first | omega | (rw [srt_len]; omega) | (simp only [srt_len, List.length_cons, List.length_nil, List.length_map, List.length_append, List.length_range]; omega))) | ((with_reducible refine okL_ints ?_); (first | omega | (rw [srt_len]; omega) | (simp only [srt_len, List.length_cons, List.length_nil, List.length_map, List.length_append, List.length_range]; omega))) | ((with_reducible refine ok_made ?_ ?_) <;> (first | omega | (rw [srt_len]; omega) | (simp only [srt_len, List.length_cons, List.length_nil, List.length_map, List.length_append, List.length_range]; omega))) | ((refine okD_ints ?_); (first | omega | (rw [srt_len]; omega) | (simp only [srt_len, List.length_cons, List.length_nil, List.length_map, List.length_append, List.length_range]; omega))) | ((refine okL_ints ?_); (first | omega | (rw [srt_len]; omega) | (simp only [srt_len, List.length_cons, List.length_nil, List.length_map, List.length_append, List.length_range]; omega))) | ((refine ok_made ?_ ?_) <;> (first | omega | (rw [srt_len]; omega) | (simp only [srt_len, List.length_cons, List.length_nil, List.length_map, List.length_append, List.length_range]; omega))) | ((refine okL_im inferInstance ?_); (first | omega | (rw [srt_len]; omega) | (simp only [srt_len, List.length_cons, List.length_nil, List.length_map, List.length_append, List.length_range]; omega))) | ((refine okT_im inferInstance ?_); (first | omega | (rw [srt_len]; omega) | (simp only [srt_len, List.length_cons, List.length_nil, List.length_map, List.length_append, List.length_range]; omega))) | exact rfl))); walk_at "yu") | ((with_reducible apply Br.nm); (focus (simp only [arg, fz, fzs, fzs_ints, lend, lends_ints, List.length_map]; exact rfl)); walk_at "yu") | ((with_reducible refine Br.yes (sameL_im inferInstance inferInstance) ?_); walk_at "yu") | ((with_reducible refine Br.yes (sameT_im inferInstance inferInstance) ?_); walk_at "yu") | ((with_reducible refine Br.yes ?_ ?_); ((exact rfl); walk_at "yu")) | ((with_reducible refine Br.no ?_ ?_); ((exact rfl); walk_at "yu")) | ((with_reducible refine Br.nw inferInstance ?_); walk_at "yu")))) | ((with_reducible refine Ex.id ?_); ((first | ((with_reducible refine ex_ints inferInstance ?_); walk_at "yu") | ((with_reducible refine ex_bls inferInstance ?_); walk_at "yu") | ((refine ex_candT inferInstance ?_); walk_at "yu") | ((refine ex_candL inferInstance ?_); walk_at "yu") | ((with_reducible refine ex_ig inferInstance ?_); walk_at "yu") | ((refine ex_lot2 ?_); walk_at "yu") | ((refine ex_lot ?_); walk_at "yu") | ((refine Exists.intro _ (And.intro rfl ?_)); walk_at "yu") | ((refine Exists.intro _ (Exists.intro _ (And.intro rfl ?_))); walk_at "yu") | ((refine Exists.intro _ (And.intro (by assumption) ?_)); walk_at "yu") | ((with_reducible refine ex_at inferInstance (by omega) (by first | omega | (simp only [List.length_set, List.length_append, List.length_cons, List.length_nil, List.length_reverse, srt_len]; omega)) ?_); (intro _ hx; (try cases hx)); walk_at "yu") | ((refine Exists.intro _ (Exists.intro _ (And.intro rfl (And.intro rfl ?_)))); walk_at "yu") | ((with_reducible refine ex1n inferInstance ?_); walk_at "yu") | ((with_reducible refine ex2n inferInstance ?_); walk_at "yu") | ((with_reducible refine ex3n inferInstance ?_); walk_at "yu") | ((with_reducible refine ex4n inferInstance ?_); walk_at "yu") | ((with_reducible refine ex5n inferInstance ?_); walk_at "yu") | ((with_reducible refine ex_last ?_); walk_at "yu") | ((with_reducible refine ex_place (by omega) (by omega) ?_); walk_at "yu") | ((with_reducible refine ex_atx inferInstance (by omega) (by first | omega | (simp only [List.length_set, List.length_append, List.length_cons, List.length_nil, List.length_reverse, srt_len]; omega)) ?_); (intro _ hx); walk_at "yu")))) | ((with_reducible refine Both.mk ?_ ?_) <;> walk_at "yu") | ((with_reducible refine All.ints inferInstance ?_); walk_at "yu") | ((with_reducible refine All.rows inferInstance ?_); walk_at "yu") | ((with_reducible refine All.ix inferInstance ?_); walk_at "yu") | ((with_reducible refine FoS.cons ?_); walk_at "yu") | ((with_reducible refine FoS.nil ?_); walk_at "yu") | ((with_reducible refine FoS.fz ?_); walk_at "yu") | ((with_reducible refine FoS.fz0 ?_); walk_at "yu") | ((with_reducible apply lc_ints inferInstance); (focus (intro _ _ _ _ _; walk_at "yc"; first | assumption | exact Br.t (by assumption) rfl)); (try rw [filter_true]); walk_at "yu") | ((with_reducible apply lc_rows inferInstance); (focus (intro _ _ _ _ _; walk_at "yc"; first | assumption | exact Br.t (by assumption) rfl)); (try rw [filter_true]); walk_at "yu") | ((with_reducible apply lc_x inferInstance); (focus (intro _ _ _ _ _; walk_at "yc"; first | assumption | exact Br.t (by assumption) rfl)); (try rw [filter_true]); walk_at "yu") | ((with_reducible refine All.cons ?_ ?_) <;> walk_at "yu") | (with_reducible exact All.nil) | ((with_reducible refine perm_im inferInstance ?_); (intro _ _); walk_at "yu") | ((with_reducible refine perm_ix inferInstance ?_); (intro _ _); walk_at "yu") | (intro _; walk_at "yu")))))

abbrev Rw := List Int × List Int × Int
/-- a row that tells a lot; the lot; the network -/
def rowF (r : Rw) : D := .tup [.tup (r.1.map D.int), .tup (r.2.1.map D.int), .int r.2.2]
def lotF (r : Rw) : D := .obj .frz "Lot" ["members", "candidates", "price"] [.tup (r.1.map D.int), .tup (r.2.1.map D.int), .int r.2.2]
def netM (m : Fl) (s : Int) (rows : List Rw) : D := .obj m "Network" ["size", "lots"] [.int s, .tup (rows.map lotF)]
def netF (s : Int) (rows : List Rw) : D := netM .frz s rows
instance fz_rowF : FzK rowF := ⟨fun r => by simp only [rowF, fz, fzs, fzs_ints], fun r => by simp only [rowF, lend, lends, lends_ints]⟩
instance fz_lotF : FzK lotF := ⟨fun r => by simp only [lotF, fz, fzs, fzs_ints], fun r => by simp only [lotF, lend, lends, lends_ints]⟩
theorem fz_netM {s : Int} {rows : List Rw} : fz (netM .own s rows) = netF s rows := by simp only [netF, netM, fz, fzs, fzs_ig]
instance fz_netF {s : Int} : FzK (netF s) := ⟨fun r => by simp only [netF, netM, fz, fzs, fzs_ig], fun r => by simp only [netF, netM, lend, lends, lends_ig]⟩
instance nw_rowF {r : Rw} : NoOwn (rowF r) := ⟨rfl⟩
instance nw_lotF {r : Rw} : NoOwn (lotF r) := ⟨rfl⟩
instance nw_netF {s : Int} {r : List Rw} : NoOwn (netF s r) := ⟨rfl⟩
def mkRows (l : List Rw) : D := .lst .frz (l.map rowF)
instance nw_mkRows {l : List Rw} : NoOwn (mkRows l) := ⟨by unfold mkRows; rw [nown, nowns_map (fun _ => rfl)]; rfl⟩
structure OkR (r : Rw) : Prop where
  m : okM r.1 = true
  c : okC r.1 r.2.1 = true
  p : okP r.2.2 = true
  s1 : srtI r.1 = r.1
  s2 : srtI r.2.1 = r.2.1
theorem srt_srt (xs : List Int) : srtI (srtI xs) = srtI xs := (srtI_of (List.Perm.refl _) (srtI_sorted xs)).symm
theorem okM_perm {a b : List Int} (p : a.Perm b) (h : okM a = true) : okM b = true := by
  rw [okM_iff] at h ⊢
  exact ⟨p.length_eq ▸ h.1, p.nodup_iff.mp h.2.1, fun x hx => h.2.2 x (p.mem_iff.mpr hx)⟩
theorem okC_perm {a b c d : List Int} (p : a.Perm b) (q : c.Perm d) (h : okC a c = true) : okC b d = true := by
  rw [okC_iff] at h ⊢
  exact ⟨q.length_eq ▸ h.1, q.nodup_iff.mp h.2.1, fun x hx => p.mem_iff.mp (h.2.2 x (q.mem_iff.mpr hx))⟩
theorem okR_srt {gs ms : List Int} {c : Int} (h1 : okM gs = true) (h2 : okC gs ms = true) (h3 : okP c = true) : OkR (srtI gs, srtI ms, c) :=
  ⟨okM_perm (srtI_perm gs).symm h1, okC_perm (srtI_perm gs).symm (srtI_perm ms).symm h2, h3, srt_srt _, srt_srt _⟩
theorem lot_row {r : Rw} (h : OkR r) {m : Fl} : lotD m r.1 r.2.1 r.2.2 = .obj m "Lot" ["members", "candidates", "price"] [.tup (r.1.map D.int), .tup (r.2.1.map D.int), .int r.2.2] := by
  unfold lotD
  rw [h.s1, h.s2]
theorem OkR.why {r : Rw} (h : OkR r) : lotWhy r.1 r.2.1 r.2.2 = none := why_n h.m h.c h.p
theorem OkR.len {r : Rw} (h : OkR r) : r.1.length ≤ 12 ∧ r.2.1.length ≤ 12 := ⟨okM_len h.m, okC_len h.m h.c⟩
/-- what may go wrong -/
inductive Oops | number (n : Int) | place (n : Int) | lot (n : Int)
def Oops.cn : Oops → String
  | .number _ => "NumberOutOfRange"
  | .place _ => "PlaceOutOfRange"
  | .lot _ => "NoSuchLot"
def Oops.fs : Oops → List (String × D)
  | .number n => [("number", .int n)]
  | .place n => [("place", .int n)]
  | .lot n => [("lot", .int n)]
def Oops.d : Oops → D
  | .number n => .tup [.str (Str.ofString "number"), .int n, .bl true]
  | .place n => .tup [.str (Str.ofString "place"), .int n, .bl true]
  | .lot n => .tup [.str (Str.ofString "lot"), .int n, .bl true]
/-- the first place that is not below the size -/
def badP (s : Int) (rows : List Rw) : Option Int := rows.findSome? fun r => r.1.find? fun p => decide (¬ (0 ≤ p ∧ p < s))
def whyN (s : Int) (rows : List Rw) : Option Oops := if rows.length > 40 then some (.number rows.length) else (badP s rows).map .place
theorem whyN_many {s : Int} {rows : List Rw} (h : 40 < rows.length) : whyN s rows = some (.number rows.length) := by
  unfold whyN
  rw [if_pos h]
theorem whyN_few {s : Int} {rows : List Rw} (h : ¬ 40 < rows.length) : whyN s rows = (badP s rows).map .place := by
  unfold whyN
  rw [if_neg h]
theorem badP_cons {s : Int} {r : Rw} {rows : List Rw} : badP s (r :: rows) = (r.1.find? fun p => decide (¬ (0 ≤ p ∧ p < s))).or (badP s rows) := by
  unfold badP
  rw [List.findSome?_cons]
  cases r.1.find? fun p => decide (¬ (0 ≤ p ∧ p < s)) <;> rfl
theorem badP_app {s : Int} : ∀ {rows more : List Rw}, badP s (rows ++ more) = (badP s rows).or (badP s more)
  | [], more => rfl
  | r :: rows, more => by
    rw [List.cons_append, badP_cons, badP_cons, badP_app, Option.or_assoc]
theorem badP_none {s : Int} {rows : List Rw} : badP s rows = none ↔ ∀ r ∈ rows, ∀ p ∈ r.1, 0 ≤ p ∧ p < s := by
  unfold badP
  rw [List.findSome?_eq_none_iff]
  refine ⟨fun h r hr p hp => ?_, fun h r hr => ?_⟩
  · have := List.find?_eq_none.mp (h r hr) p hp
    simpa using this
  · exact List.find?_eq_none.mpr fun p hp => by simpa using h r hr p hp
theorem bad_at {s : Int} {pre suf : List Rw} {x : Rw} {pre2 suf2 : List Int} {p : Int} (h1 : ∀ y ∈ pre, ∀ q ∈ y.1, 0 ≤ q ∧ q < s) (e : x.1 = pre2 ++ p :: suf2) (h2 : ∀ q ∈ pre2, 0 ≤ q ∧ q < s) (h3 : ¬ (0 ≤ p ∧ p < s)) : badP s (pre ++ x :: suf) = some p := by
  rw [badP_app, badP_none.mpr h1, badP_cons, e, List.find?_append, List.find?_eq_none.mpr fun q hq => by simpa using h2 q hq, List.find?_cons_of_pos (by simp only [decide_eq_true_eq]; exact h3)]
  rfl
theorem okR_wide {gs ms : List Int} {c b : Int} (hb : b ≤ 12) (h1 : 2 ≤ gs.length) (h3 : gs.Nodup) (h4 : ∀ x ∈ gs, 0 ≤ x ∧ x < b) (h5 : okC gs ms = true) (h7 : 0 ≤ c) (h8 : c ≤ 1000000000) : OkR (srtI gs, srtI ms, c) :=
  okR_srt (okM_iff.mpr ⟨h1, h3, fun x hx => ⟨(h4 x hx).1, Int.lt_of_lt_of_le (h4 x hx).2 hb⟩⟩) h5 (okP_iff.mpr ⟨h7, h8⟩)
theorem srt_pw {xs : List Int} (h : srtI xs = xs) : xs.Pairwise (· ≤ ·) := by
  have := srtI_sorted xs
  rw [h] at this
  exact this
theorem first_far {m s : Int} : ∀ {xs : List Int}, xs.Pairwise (· ≤ ·) → (∀ x ∈ xs, 0 ≤ x) → m ∈ xs → s ≤ m → (∀ y ∈ xs, s ≤ y → m ≤ y) → xs.find? (fun p => decide (¬ (0 ≤ p ∧ p < s))) = some m
  | x :: xs, hs, h0, hm, hms, hl => by
    have hs' := List.pairwise_cons.mp hs
    by_cases hx : s ≤ x
    · have h1 := hl x List.mem_cons_self hx
      have h2 : x ≤ m := by
        cases hm with
        | head => exact Int.le_refl _
        | tail _ hm => exact hs'.1 m hm
      have e : x = m := Int.le_antisymm h2 h1
      subst e
      exact List.find?_cons_of_pos (by simp only [decide_eq_true_eq]; omega)
    · have hx0 := h0 x List.mem_cons_self
      rw [List.find?_cons_of_neg (by simp only [decide_eq_true_eq]; omega)]
      refine first_far hs'.2 (fun y hy => h0 y (List.mem_cons_of_mem _ hy)) ?_ hms fun y hy => hl y (List.mem_cons_of_mem _ hy)
      cases hm with
      | head => exact absurd hms hx
      | tail _ hm => exact hm
theorem bad_find {s : Int} {pre suf : List Rw} {x : Rw} {m : Int} (h1 : ∀ y ∈ pre, ∀ q ∈ y.1, 0 ≤ q ∧ q < s) (hf : x.1.find? (fun p => decide (¬ (0 ≤ p ∧ p < s))) = some m) : badP s (pre ++ x :: suf) = some m := by
  rw [badP_app, badP_none.mpr h1, badP_cons, hf]
  rfl
theorem okD_row {n : Nat} {x : Rw} (h : OkR x) : okD (n + 2) (rowF x) = true := by
  have h1 := h.len
  unfold rowF
  rw [okD, oksD, oksD, oksD, oksD, okD_ints (by omega), okD_ints (by omega)]
  cases n <;> rfl
/-- the network with more lots -/
def moreN (s : Int) (rows : List Rw) (R : RV → Prop) (X : XD) : Prop := match whyN s rows with
  | none => R (.val (netF s rows))
  | some o => X o.cn o.fs
/-- the rows whose places are not among the numbers -/
def keepR (rows : List Rw) (ns : List Int) : List Rw := ((List.range rows.length).filter fun i : Nat => decide ((i : Int) ∉ ns)).filterMap fun i => rows[i]?

abbrev Stp2 := Int × Int
def stepD (s : Stp2) : D := .tup [.int s.1, .int s.2]
instance fz_stepD : FzK stepD := ⟨fun _ => rfl, fun _ => rfl⟩
instance nw_stepD {r : Stp2} : NoOwn (stepD r) := ⟨rfl⟩
/-- a row of the law: group, menu, price, in no order -/
def rowL (r : Rw) : D := .tup [.lst .frz (r.1.map D.int), .lst .frz (r.2.1.map D.int), .int r.2.2]
instance fz_rowL : FzK rowL := ⟨fun _ => rfl, fun _ => rfl⟩
instance nw_rowL {r : Rw} : NoOwn (rowL r) := ⟨rfl⟩
def srtR (r : Rw) : Rw := (srtI r.1, srtI r.2.1, r.2.2)
/-- a good row of a network of that size -/
structure OkG (s : Int) (r : Rw) : Prop where
  l : 2 ≤ r.1.length
  n : r.1.Nodup
  b : ∀ x ∈ r.1, 0 ≤ x ∧ x < s
  c : okC r.1 r.2.1 = true
  p : okP r.2.2 = true
theorem OkG.len {s : Int} {r : Rw} (h : OkG s r) (hs : s ≤ 12) : r.1.length ≤ 12 ∧ r.2.1.length ≤ 12 ∧ 0 < r.2.1.length := by
  have h1 : okM r.1 = true := okM_iff.mpr ⟨h.l, h.n, fun x hx => ⟨(h.b x hx).1, Int.lt_of_lt_of_le (h.b x hx).2 hs⟩⟩
  exact ⟨okM_len h1, okC_len h1 h.c, (okC_iff.mp h.c).1⟩
theorem OkG.okM {s : Int} {r : Rw} (h : OkG s r) (hs : s ≤ 12) : okM r.1 = true := okM_iff.mpr ⟨h.l, h.n, fun x hx => ⟨(h.b x hx).1, Int.lt_of_lt_of_le (h.b x hx).2 hs⟩⟩
theorem OkG.okR {s : Int} {r : Rw} (h : OkG s r) (hs : s ≤ 12) : OkR (srtR r) := okR_srt (h.okM hs) h.c h.p
theorem OkG.why {s : Int} {r : Rw} (h : OkG s r) (hs : s ≤ 12) : lotWhy r.1 r.2.1 r.2.2 = none := why_n (h.okM hs) h.c h.p
theorem OkG.lot {s : Int} {r : Rw} (h : OkG s r) (hs : s ≤ 12) : lotD .frz r.1 r.2.1 r.2.2 = lotF (srtR r) := rfl
def headsM (m : Fl) (s : Int) (rows : List Rw) (ps : List Int) : D := .obj m "Heads" ["network", "_places"] [netF s rows, .lst m (ps.map D.int)]
theorem fz_headsM {s : Int} {rows : List Rw} {ps : List Int} : fz (headsM .own s rows ps) = headsM .frz s rows ps := by simp only [headsM, netF, netM, fz, fzs, fzs_ig, fzs_ints]
theorem lend_headsM {s : Int} {rows : List Rw} {ps : List Int} : lend (headsM .own s rows ps) = headsM .bor s rows ps := by simp only [headsM, netF, netM, lend, lends, lends_ig, lends_ints]
def pathM (m : Fl) (a : Int) (st : List Stp2) : D := .obj m "Path" ["start", "steps", "_many"] [.int a, .tup (st.map stepD), .int st.length]
theorem fz_pathM {a : Int} {st : List Stp2} : fz (pathM .own a st) = pathM .frz a st := by simp only [pathM, fz, fzs]
def pathF (r : Int × List Stp2) : D := pathM .frz r.1 r.2
instance fz_pathF : FzK pathF := ⟨fun _ => rfl, fun _ => rfl⟩
instance nw_pathF {r : Int × List Stp2} : NoOwn (pathF r) := ⟨rfl⟩
def askD (r : Int × List Stp2) : D := .tup [.int r.1, .lst .frz (r.2.map stepD)]
instance fz_askD : FzK askD := ⟨fun _ => rfl, fun _ => rfl⟩
instance nw_askD {r : Int × List Stp2} : NoOwn (askD r) := ⟨rfl⟩
def gatD : D := .obj .frz "Gather" [] []
def sprD : D := .obj .frz "Spread" [] []
/-- a place of each row's menu -/
def HdOk (rows : List Rw) (hs : List Int) : Prop := Rl2 (fun (r : Rw) (z : Int) => z ∈ r.2.1) rows hs
/-- the lot sends from a to b -/
def sendsB (g : Bool) (ms : List Int) (hd a b : Int) : Bool := decide (a ∈ ms) && decide (b ∈ ms) && !decide (a = b) && (if g = true then decide (b = hd) else decide (a = hd))
/-- the steps from a place -/
def stepsAt (g : Bool) (rows : List Rw) (hs : List Int) (here : Int) (i : Nat) : List Stp2 := match rows[i]?, hs[i]? with
  | some r, some h => ((srtI r.1).filter fun p => sendsB g r.1 h here p).map fun p => ((i : Int), p)
  | _, _ => []
def stepsM (g : Bool) (rows : List Rw) (hs : List Int) (here : Int) : List Stp2 := (List.range rows.length).flatMap (stepsAt g rows hs here)
theorem stepsAt_eq {g : Bool} {rows : List Rw} {hs : List Int} {here : Int} {i : Nat} {r : Rw} {h : Int} (h1 : rows[i]? = some r) (h2 : hs[i]? = some h) : stepsAt g rows hs here i = ((srtI r.1).filter fun p => sendsB g r.1 h here p).map fun p => ((i : Int), p) := by
  unfold stepsAt
  rw [h1, h2]
instance nb_stepD {r : Stp2} : NoBor (stepD r) := ⟨rfl⟩
instance nb_rowL {r : Rw} : NoBor (rowL r) := by unfold rowL; infer_instance
instance nb_lotF {r : Rw} : NoBor (lotF r) := by unfold lotF; infer_instance
instance nb_askD {r : Int × List Stp2} : NoBor (askD r) := by unfold askD; infer_instance
instance nb_pathF {r : Int × List Stp2} : NoBor (pathF r) := by unfold pathF pathM; infer_instance
instance nb_netF {s : Int} {r : List Rw} : NoBor (netF s r) := by unfold netF netM; infer_instance
instance nb_headsO {s : Int} {r : List Rw} {h : List Int} : NoBor (headsM .own s r h) := by unfold headsM; infer_instance
def strG (g : Bool) : D := .str (Str.ofString (match g with
  | true => "gather"
  | false => "spread"))
def modeD : Bool → D
  | true => gatD
  | false => sprD
theorem netOk {s : Int} {rows : List Rw} (hs : s ≤ 12) (hl : rows.length ≤ 40) (h : ∀ r ∈ rows, OkG s r) : whyN s (rows.map srtR) = none := by
  rw [whyN_few (by rw [List.length_map]; omega), Option.map_eq_none_iff, badP_none]
  intro r hr p hp
  obtain ⟨q, hq, rfl⟩ := List.mem_map.mp hr
  exact (h q hq).b p (srt_mem.mp hp)
instance nf_gat : Nf (.str (Str.ofString "gather")) (strG true) := ⟨rfl⟩
instance nf_spr : Nf (.str (Str.ofString "spread")) (strG false) := ⟨rfl⟩
instance nf_gatD : Nf gatD (modeD true) := ⟨rfl⟩
instance nf_sprD : Nf sprD (modeD false) := ⟨rfl⟩
instance nf_lendH {s : Int} {rows : List Rw} {ps : List Int} : Nf (lend (headsM .own s rows ps)) (headsM .bor s rows ps) := ⟨lend_headsM⟩
instance nf_fzH {s : Int} {rows : List Rw} {ps : List Int} : Nf (fz (headsM .own s rows ps)) (headsM .frz s rows ps) := ⟨fz_headsM⟩
instance nf_pathF {r : Int × List Stp2} : Nf (pathF r) (pathM .frz r.1 r.2) := ⟨rfl⟩
/-- why heads are refused -/
def headsWhy (rows : List Rw) (ps : List Int) : Option (Option (Int × Int)) := if ps.length = rows.length then ((List.range rows.length).findSome? fun i => match rows[i]?, ps[i]? with
  | some r, some p => if p ∈ r.2.1 then none else some ((i : Int), p)
  | _, _ => none).map some else some none
theorem headsOk {rows : List Rw} {ps : List Int} (h : HdOk rows ps) : headsWhy rows ps = none := by
  unfold headsWhy
  rw [if_pos h.1, Option.map_eq_none_iff, List.findSome?_eq_none_iff]
  intro i hi
  have hi := List.mem_range.mp hi
  rw [List.getElem?_eq_getElem hi, List.getElem?_eq_getElem (by rw [h.1]; exact hi)]
  dsimp only
  rw [if_pos (h.2 i _ _ (List.getElem?_eq_getElem hi) (List.getElem?_eq_getElem (by rw [h.1]; exact hi)))]
theorem hdOk_srt {rows : List Rw} {ps : List Int} (h : HdOk rows ps) : HdOk (rows.map srtR) ps := ⟨by rw [h.1, List.length_map], fun k x z h1 h2 => by
  rw [List.getElem?_map] at h1
  cases q : rows[k]? with
  | none => rw [q] at h1; cases h1
  | some r =>
    rw [q] at h1
    cases h1
    exact srt_mem.mpr (h.2 k r z q h2)⟩

abbrev Pr := Int × List Stp2
/-- a path that may be made -/
structure OkQ (n : Nat) (r : Pr) : Prop where
  a0 : 0 ≤ r.1
  a1 : r.1 < 12
  l : r.2.length ≤ n
  m : ∀ x ∈ r.2, 0 ≤ x.1 ∧ x.1 < 40 ∧ 0 ≤ x.2 ∧ x.2 < 12
theorem OkQ.le {n m : Nat} {r : Pr} (h : OkQ n r) (k : n ≤ m) : OkQ m r := ⟨h.a0, h.a1, Nat.le_trans h.l k, h.m⟩
def endM (a : Int) (st : List Stp2) : Int := match st with
  | [] => a
  | x :: xs => endM x.2 xs
def backL (a : Int) (st : List Stp2) : List Stp2 := match st with
  | [] => []
  | x :: xs => backL x.2 xs ++ [(x.1, a)]
def stopsM (a : Int) (st : List Stp2) : List Int := a :: st.map (·.2)
def backM (r : Pr) : Pr := (endM r.1 r.2, backL r.1 r.2)
def sumM (r s : Pr) : Pr := (r.1, r.2 ++ s.2)
theorem endM_app : ∀ {s t : List Stp2} {a : Int}, endM a (s ++ t) = endM (endM a s) t
  | [], t, a => rfl
  | x :: s, t, a => by show endM x.2 (s ++ t) = _; rw [endM_app]; rfl
theorem backL_app : ∀ {s t : List Stp2} {a : Int}, backL a (s ++ t) = backL (endM a s) t ++ backL a s
  | [], t, a => by show backL a t = backL a t ++ []; rw [List.append_nil]
  | x :: s, t, a => by
    show backL x.2 (s ++ t) ++ [(x.1, a)] = backL (endM x.2 s) t ++ (backL x.2 s ++ [(x.1, a)])
    rw [backL_app, List.append_assoc]
theorem endM_back : ∀ {s : List Stp2} {a : Int}, endM (endM a s) (backL a s) = a
  | [], a => rfl
  | x :: s, a => by
    show endM (endM x.2 s) (backL x.2 s ++ [(x.1, a)]) = a
    rw [endM_app]
    rfl
theorem backL_back : ∀ {s : List Stp2} {a : Int}, backL (endM a s) (backL a s) = s
  | [], a => rfl
  | x :: s, a => by
    show backL (endM x.2 s) (backL x.2 s ++ [(x.1, a)]) = x :: s
    rw [backL_app, backL_back, endM_back]
    rfl
theorem back_back {r : Pr} : backM (backM r) = r := by
  unfold backM
  dsimp only
  rw [endM_back, backL_back]
theorem backL_len : ∀ {s : List Stp2} {a : Int}, (backL a s).length = s.length
  | [], a => rfl
  | x :: s, a => by
    show (backL x.2 s ++ [(x.1, a)]).length = s.length + 1
    rw [List.length_append, backL_len]
    rfl
theorem endM_ok {P : Int → Prop} : ∀ {s : List Stp2} {a : Int}, P a → (∀ x ∈ s, P x.2) → P (endM a s)
  | [], a, h, _ => h
  | x :: s, a, h, g => endM_ok (s := s) (a := x.2) (g x (by simp)) fun y hy => g y (List.mem_cons_of_mem _ hy)
theorem backL_ok {P Q : Int → Prop} : ∀ {s : List Stp2} {a : Int}, Q a → (∀ x ∈ s, P x.1 ∧ Q x.2) → ∀ x ∈ backL a s, P x.1 ∧ Q x.2
  | [], a, _, _, x, hx => by cases hx
  | y :: s, a, h, g, x, hx => by
    rcases List.mem_append.mp hx with q | q
    · exact backL_ok (s := s) (a := y.2) (g y (by simp)).2 (fun z hz => g z (List.mem_cons_of_mem _ hz)) x q
    · rw [List.mem_singleton.mp q]
      exact ⟨(g y (by simp)).1, h⟩
theorem OkQ.end_ {n : Nat} {r : Pr} (h : OkQ n r) : 0 ≤ endM r.1 r.2 ∧ endM r.1 r.2 < 12 := endM_ok (P := fun a => 0 ≤ a ∧ a < 12) ⟨h.a0, h.a1⟩ fun x hx => by have := h.m x hx; omega
theorem OkQ.back {n : Nat} {r : Pr} (h : OkQ n r) : OkQ n (backM r) := ⟨h.end_.1, h.end_.2, by show (backL r.1 r.2).length ≤ n; rw [backL_len]; exact h.l, fun x hx => by
  have := backL_ok (P := fun i => 0 ≤ i ∧ i < 40) (Q := fun a => 0 ≤ a ∧ a < 12) ⟨h.a0, h.a1⟩ (fun y hy => by have := h.m y hy; omega) x hx
  omega⟩
theorem OkQ.sum {n m : Nat} {r s : Pr} (h : OkQ n r) (k : OkQ m s) : OkQ (n + m) (sumM r s) := ⟨h.a0, h.a1, by show (r.2 ++ s.2).length ≤ n + m; rw [List.length_append]; have := h.l; have := k.l; omega, fun x hx => (List.mem_append.mp hx).elim (h.m x) (k.m x)⟩
theorem stops_len {a : Int} {st : List Stp2} : (stopsM a st).length = st.length + 1 := by unfold stopsM; rw [List.length_cons, List.length_map]
theorem stops_end : ∀ {st : List Stp2} {a : Int}, (stopsM a st)[st.length]? = some (endM a st)
  | [], a => rfl
  | x :: s, a => by
    show (x.2 :: s.map (·.2))[s.length]? = some (endM x.2 s)
    exact stops_end
theorem steps_last : ∀ {st : List Stp2} {a : Int} {x : Stp2}, st[st.length - 1]? = some x → endM a st = x.2
  | [], a, x, h => by cases h
  | [y], a, x, h => by cases h; rfl
  | y :: z :: s, a, x, h => by
    show endM y.2 (z :: s) = x.2
    exact steps_last (st := z :: s) (by simpa using h)
/-- the steps back, place by place -/
theorem back_at : ∀ {st : List Stp2} {a : Int} {i : Nat} {x : Stp2} {z : Int}, st[st.length - 1 - i]? = some x → i < st.length → (stopsM a st)[st.length - 1 - i]? = some z → (backL a st)[i]? = some (x.1, z)
  | [], a, i, x, z, h, hi, k => by cases hi
  | y :: s, a, i, x, z, h, hi, k => by
    show (backL y.2 s ++ [(y.1, a)])[i]? = _
    rw [List.length_cons] at hi
    by_cases e : i = s.length
    · subst e
      rw [List.getElem?_append_right (by rw [backL_len]; exact Nat.le_refl _), backL_len, Nat.sub_self]
      rw [List.length_cons, show s.length + 1 - 1 - s.length = 0 by omega] at h k
      cases h
      cases k
      rfl
    · rw [List.getElem?_append_left (by rw [backL_len]; omega)]
      rw [List.length_cons, show s.length + 1 - 1 - i = (s.length - 1 - i) + 1 by omega] at h k
      exact back_at (by simpa using h) (by omega) (by simpa [stopsM] using k)
theorem getD_list {l : List Stp2} : (List.range l.length).map (fun i => l.getD i (0, 0)) = l := List.ext_getElem (by simp) fun i h1 h2 => by simp [List.getD, h2]
theorem back_list {a : Int} {st : List Stp2} : ((List.range st.length).filter fun _ => true).map (fun i => stepD ((backL a st).getD i (0, 0))) = (backL a st).map stepD := by
  rw [filter_true, ← backL_len (a := a) (s := st)]
  conv => rhs; rw [← getD_list (l := backL a st), List.map_map]
  rfl
theorem rngD_back {n : Nat} {m : Int} (h : m = n) : rngD (m - 1) (-1) = (List.range n).map fun i : Nat => D.int ((n : Int) - 1 - (i : Nat)) := by
  subst h
  unfold rngD
  rw [show ((n : Int) - 1 - -1).toNat = n by omega]
  refine List.map_congr_left fun i _ => ?_
  rw [show (n : Int) - 1 + (i : Nat) * (-1) = (n : Int) - 1 - (i : Nat) by omega]
theorem fzs_app : ∀ xs ys : List D, fzs (xs ++ ys) = fzs xs ++ fzs ys
  | [], ys => rfl
  | x :: xs, ys => by rw [List.cons_append, fzs, fzs_app, fzs]; rfl
theorem plains_steps : ∀ st : List Stp2, plains (st.map stepD) = true
  | [] => rfl
  | x :: xs => by rw [List.map_cons, plains, plains_steps xs]; rfl
theorem deeps_steps : ∀ st : List Stp2, deeps (st.map stepD) ≤ 5
  | [] => by decide
  | x :: xs => by
    rw [List.map_cons, deeps]
    have := deeps_steps xs
    have h : deep (stepD x) ≤ 5 := by simp [stepD, deep, deeps]
    omega
theorem deqs_steps : ∀ st : List Stp2, deqs (st.map stepD) (st.map stepD) = true
  | [] => rfl
  | x :: xs => by
    rw [List.map_cons, deqs, deqs_steps xs]
    simp [stepD, deq, deqs]
/-- what paths are told apart by -/
def pkeyD (a : Int) (st : List Stp2) : D := .tup [.int (st.length : Int), .int a, .tup (st.map stepD)]
theorem key_plain {a : Int} {st : List Stp2} : plain (pkeyD a st) = true := by simp [pkeyD, plain, plains, plains_steps]
theorem key_deep {a : Int} {st : List Stp2} : deep (pkeyD a st) ≤ 60 := by
  have := deeps_steps st
  simp [pkeyD, deep, deeps]
  omega
theorem key_deq {a : Int} {st : List Stp2} : deq (pkeyD a st) (pkeyD a st) = true := by simp [pkeyD, deq, deqs, deqs_steps]
theorem lc2_g {α : Type} {mk : α → D} {xs : List α} {o : Bool} {p p1 : Pat} {t t1 : YB} {vs1 : List Nat} {yi : YI} {e : YP} {ρ : List S} {g : α → List D} : ∀ {Q : List D → Prop},
    (∀ x ∈ xs, ∀ (A : List D → Prop) (B : Prop), A (g x) → Y.bind p (mk x) ρ fun ρ2 => t ρ2 (fun b => Br b (yi ρ2 (fun ds1 => ds1.length ≤ 1000 ∧ LcS o p1 t1 e (wipe ρ2 vs1) ds1 A) X0) B) X0) → Q (xs.flatMap g) → LcS2 o p t vs1 yi p1 t1 e ρ (xs.map mk) Q := by
  induction xs with
  | nil => exact fun h q => ⟨q⟩
  | cons x xs ih =>
    intro Q h q
    refine ⟨h x (by simp) (fun es => lc2W o p t vs1 yi p1 t1 e ρ (xs.map mk) fun fs => Q (es ++ fs)) _ ?_⟩
    exact (ih (Q := fun fs => Q (g x ++ fs)) (fun y hy => h y (List.mem_cons_of_mem _ hy)) q).go
def numsM (rs : List Pr) : List Int := rs.flatMap fun r => r.2.map (·.1)
theorem nums_len {rs : List Pr} {n : Nat} (h : ∀ r ∈ rs, r.2.length ≤ n) : (numsM rs).length ≤ n * rs.length := flat_len fun r hr => by rw [List.length_map]; exact h r hr
theorem nums_map {rs : List Pr} : rs.flatMap (fun r => (r.2.map (·.1)).map D.int) = (numsM rs).map D.int := by
  unfold numsM
  rw [List.map_flatMap]
def oneD (r : Pr) : D := .tup [pathF r, askD r]
instance nw_oneD {r : Pr} : NoOwn (oneD r) := ⟨rfl⟩
def chainF (acc : Pr) (xs : List Pr) : Option Pr := match xs with
  | [] => some acc
  | x :: xs => if endM acc.1 acc.2 = x.1 then chainF (sumM acc x) xs else none
def chainM (rs : List Pr) : Option Pr := match rs with
  | [] => none
  | r :: rs => chainF r rs
theorem ok_steps {n : Nat} {st : List Stp2} (h : st.length ≤ 100000) : okD (n + 3) (.tup (st.map stepD)) = true := okT_map (fun r => by simp [stepD, okD, oksD]) h
theorem cut_tail {d : D} {E : List D} : cutD (d :: E) (some 1) none = E := by
  rw [cut_drop (by omega)]
  rfl
theorem ex_head {d : D} {E : List D} {P : D → Prop} (h : P d) : ∃ e, atD (d :: E) 0 = some e ∧ P e := by
  refine ⟨d, ?_, h⟩
  unfold atD
  rw [place_nn (by omega) (by simp)]
  rfl
def badD (rs : List Pr) : D := .lst .frz (rs.map pathF)
instance nb_pathM {a : Int} {st : List Stp2} : NoBor (pathM .own a st) := by unfold pathM; infer_instance
instance nf_fzP {a : Int} {st : List Stp2} : Nf (fz (pathM .own a st)) (pathF (a, st)) := ⟨fz_pathM⟩
def Y__law_source : YS := (sRet (yP (ySrc (yLst false (aCons (yListScr (yV 0)) (aCons (yC (.int 0)) (aCons (yC (.int 0)) (aCons (yC (.int 0)) (aCons (yC (.int 0)) (aCons (yC (.bl false)) aNil))))))))))
def M__law_source : DSp := defP 1 0 Y__law_source
def S__law_source : DSp := fun ds R _ => match ds with
  | [.scr _] => R (.val .src)
  | _ => False
set_option maxHeartbeats 0 in
theorem mir__law_source : ∀ ds R X, S__law_source ds R X → M__law_source ds R X := by
  intro ds R X h
  unfold S__law_source at h
  split at h
  · rename_i ns
    refine ⟨rfl, ns, 0, 0, 0, 0, false, ?_, by decide, h⟩
    show RV.tmp (D.lst Fl.own [fz (D.lst Fl.own (List.map D.int ns)), D.int 0, D.int 0, D.int 0, D.int 0, D.bl false]) = _
    rw [fz, fzs_ints]
  · exact h.elim
def Y__law_mixed : YS := (sSeq (sAsgF 2 (yP (y2 fMod (y1 fInt (yAdd (yAdd (y2 fMul (yV 0) (yC (.int 48271))) (y2 fMul (yV 1) (yC (.int 69621)))) (yC (.int 11)))) (yC (.int 2147483647))))) (sSeq (sAsgF 3 (yP (y2 fMod (y1 fInt (yAdd (yAdd (y2 fMul (yV 2) (yC (.int 16807))) (y2 fDiv (yV 2) (yC (.int 3)))) (y2 fMul (yV 1) (yC (.int 40692))))) (yC (.int 2147483399))))) (sRet (yP (y2 fMod (y1 fInt (yAdd (y2 fMul (yV 3) (yV 3)) (yV 2))) (yC (.int 2147483629)))))))
def M__law_mixed : DSp := defP 2 2 Y__law_mixed
def S__law_mixed : DSp := fun ds R _ => match ds with
  | [.int _, .int _] => ∀ i : Int, 0 ≤ i → R (.val (.int i))
  | _ => False
set_option maxHeartbeats 0 in
theorem mir__law_mixed : ∀ ds R X, S__law_mixed ds R X → M__law_mixed ds R X := by
  intro ds R X h
  unfold S__law_mixed at h
  split at h
  · rename_i c t
    walk_at "yy"
    refine h _ (Int.emod_nonneg _ ?_)
    decide
  · exact h.elim
def Y__law_draw : YS := (sSeq (sIf (tP (tE (y2 (fEq false) (yIxS (yV 0) (yC (.int 3))) (yC (.int 0))))) (sSeq (sIf (tP (tE (y2 (fLt fun i j => decide (j ≤ i)) (yIxS (yV 0) (yC (.int 1))) (y1 fLenC (yIxS (yV 0) (yC (.int 0))))))) (sRet (yP (yC (.int 0)))) sNext) (sSeq (sSetI false (wV 0) (yC (.int 2)) (y2 fIxC (yIxS (yV 0) (yC (.int 0))) (yIxS (yV 0) (yC (.int 1))))) (sSeq (sSetI false (wV 0) (yC (.int 1)) (yAdd (yIxS (yV 0) (yC (.int 1))) (yC (.int 1)))) (sSeq (sSetI false (wV 0) (yC (.int 5)) (y2 (fLt fun i j => decide (j ≤ i)) (yIxS (yV 0) (yC (.int 2))) (y2 fPow (yC (.int 10)) (yC (.int 18))))) (sSeq (sSetI false (wV 0) (yC (.int 3)) (yC (.int 9))) (sIf (tP (tTru (yIxS (yV 0) (yC (.int 5))))) (sSetI false (wV 0) (yC (.int 3)) (yC (.int 60))) sNext)))))) sNext) (sSeq (sSetI false (wV 0) (yC (.int 3)) (y2 fSub (yIxS (yV 0) (yC (.int 3))) (yC (.int 1)))) (sSeq (sSetI false (wV 0) (yC (.int 4)) (yAdd (yIxS (yV 0) (yC (.int 4))) (yC (.int 1)))) (sSeq (sIf (tP (tNot (tTru (yIxS (yV 0) (yC (.int 5)))))) (sRet (yP (y2 fMod (y1 fInt (yCallN S__law_mixed (aCons (yIxS (yV 0) (yC (.int 2))) (aCons (yIxS (yV 0) (yC (.int 4))) aNil)))) (yV 1)))) sNext) (sSeq (sAsgF 2 (yP (y2 fMod (y1 fInt (yIxS (yV 0) (yC (.int 2)))) (yV 1)))) (sSeq (sSetI false (wV 0) (yC (.int 2)) (y2 fDiv (yIxS (yV 0) (yC (.int 2))) (yV 1))) (sSeq (sIf (tP (tE (y2 (fEq false) (yIxS (yV 0) (yC (.int 2))) (yC (.int 0))))) (sSetI false (wV 0) (yC (.int 3)) (yC (.int 0))) sNext) (sRet (yP (yV 2))))))))))
def O__law_draw : List Int → (D → Prop) → Prop := fun is R => is.length = 1 ∧ defO 1 Y__law_draw is R
def M__law_draw : DSp := drawS O__law_draw
def S__law_draw : DSp := fun ds R _ => match ds with
  | [.src, .int n] => (0 < n ∧ n ≤ 1000000000000000000000000000000) ∧ ∀ j : Int, 0 ≤ j → j < n → R (.val (.int j))
  | _ => False
set_option maxHeartbeats 0 in
theorem mir__law_draw : ∀ ds R X, S__law_draw ds R X → M__law_draw ds R X := by
  intro ds R X h
  unfold S__law_draw at h
  split at h
  · rename_i n
    obtain ⟨⟨n0, n1⟩, hR⟩ := h
    refine ⟨[n], rfl, rfl, fun a b ns i c l t fl hi => ?_⟩
    have n2 : n < 2 ^ 4000 := Int.lt_of_le_of_lt n1 (by decide +kernel)
    have fin : ∀ (i c l t : Int) (fl : Bool) (j : Int), 0 ≤ i → 0 ≤ j → j < n → ∃ (j' i' c' l' t' : Int) (fl' : Bool), RV.val (.int j) = .val (.int j') ∧ 0 ≤ i' ∧ [S.own (some a) (srcD b ns i c l t fl), S.val (.int n), S.no][(0 : Nat)]? = some (.own (some a) (srcD b ns i' c' l' t' fl')) ∧ R (.val (.int j')) :=
      fun i c l t fl j h1 h2 h3 => ⟨j, i, c, l, t, fl, rfl, h1, rfl, hR j h2 h3⟩
    walk_at "yy"
    refine Br.mk (fun hc => ?_) (fun hc => ?_)
    · walk_at "yy"
      refine Br.mk (fun hd => ?_) (fun hd => ?_)
      · walk_at "yy"
        exact fin _ _ _ _ _ _ hi (by decide) n0
      · have hd' : i < ns.length := by simpa using hd
        obtain ⟨z, hz, _⟩ := atD_nn hi hd'
        walk_at "yy"
        refine ⟨z, hz, ?_⟩
        walk_at "yy"
        refine Br.mk (fun he => ?_) (fun he => ?_)
        · walk_at "yy"
          refine Br.mk (fun hf => ?_) (fun hf => ?_)
          · walk_at "yy"
            intro j hj
            walk_at "yy"
            exact fin _ _ _ _ _ _ (by omega) (Int.emod_nonneg _ (by omega)) (Int.emod_lt_of_pos _ n0)
          · walk_at "yy"
            refine Br.mk (fun hg => ?_) (fun hg => ?_)
            · walk_at "yy"
              exact fin _ _ _ _ _ _ (by omega) (Int.emod_nonneg _ (by omega)) (Int.emod_lt_of_pos _ n0)
            · walk_at "yy"
              exact fin _ _ _ _ _ _ (by omega) (Int.emod_nonneg _ (by omega)) (Int.emod_lt_of_pos _ n0)
        · walk_at "yy"
          refine Br.mk (fun hf => ?_) (fun hf => ?_)
          · walk_at "yy"
            intro j hj
            walk_at "yy"
            exact fin _ _ _ _ _ _ (by omega) (Int.emod_nonneg _ (by omega)) (Int.emod_lt_of_pos _ n0)
          · walk_at "yy"
            refine Br.mk (fun hg => ?_) (fun hg => ?_)
            · walk_at "yy"
              exact fin _ _ _ _ _ _ (by omega) (Int.emod_nonneg _ (by omega)) (Int.emod_lt_of_pos _ n0)
            · walk_at "yy"
              exact fin _ _ _ _ _ _ (by omega) (Int.emod_nonneg _ (by omega)) (Int.emod_lt_of_pos _ n0)
    · walk_at "yy"
      refine Br.mk (fun hf => ?_) (fun hf => ?_)
      · walk_at "yy"
        intro j hj
        walk_at "yy"
        exact fin _ _ _ _ _ _ hi (Int.emod_nonneg _ (by omega)) (Int.emod_lt_of_pos _ n0)
      · walk_at "yy"
        refine Br.mk (fun hg => ?_) (fun hg => ?_)
        · walk_at "yy"
          exact fin _ _ _ _ _ _ hi (Int.emod_nonneg _ (by omega)) (Int.emod_lt_of_pos _ n0)
        · walk_at "yy"
          exact fin _ _ _ _ _ _ hi (Int.emod_nonneg _ (by omega)) (Int.emod_lt_of_pos _ n0)
  · exact h.elim
def Y__law_pick : YS := (sRet (yP (yIxS (yV 1) (yCallN S__law_draw (aCons (yV 0) (aCons (y1 fLenS (yV 1)) aNil))))))
def M__law_pick : DSp := defP 2 0 Y__law_pick
def S__law_pick : DSp := fun ds R _ => match ds with
  | [.src, d] => ∃ es, seqD d = some es ∧ (0 < es.length ∧ es.length ≤ 100000) ∧ All es fun e => R (.val e)
  | _ => False
set_option maxHeartbeats 0 in
theorem mir__law_pick : ∀ ds R X, S__law_pick ds R X → M__law_pick ds R X := by
  intro ds R X h
  unfold S__law_pick at h
  split at h
  · rename_i d
    obtain ⟨es, e1, ⟨h0, h1⟩, hR⟩ := h
    cases d with
    | lst m es' =>
      cases e1
      walk_at "yy"
      intro j j0 j1
      obtain ⟨x, x1, _, x3⟩ := atD_nn j0 j1
      exact ⟨x, x1, hR.go _ x3⟩
    | tup es' =>
      cases e1
      walk_at "yy"
      intro j j0 j1
      obtain ⟨x, x1, _, x3⟩ := atD_nn j0 j1
      exact ⟨x, x1, hR.go _ x3⟩
    | _ => cases e1
  · exact h.elim
def Y__law_steps : YS := (sRet (yP (yLc false [4] (iR1 (yV 1)) (.nm 4) tYes (yTup (aCons (yCallN S__law_pick (aCons (yV 0) (aCons (yV 2) aNil))) (aCons (yCallN S__law_draw (aCons (yV 0) (aCons (yV 3) aNil))) aNil))))))
def M__law_steps : DSp := defP 4 1 Y__law_steps
def S__law_steps : DSp := fun ds R _ => match ds with
  | [.src, .int n, .lst _ es, .int b] => ∃ ms, intsD es = some ms ∧ (0 ≤ n ∧ n ≤ 100 ∧ 0 < ms.length ∧ ms.length ≤ 100 ∧ 0 < b ∧ b ≤ 100) ∧ ∀ st : List Stp2, st.length = n.toNat → (∀ x ∈ st, x.1 ∈ ms ∧ 0 ≤ x.2 ∧ x.2 < b) → R (.tmp (.lst .own (st.map stepD)))
  | _ => False
set_option maxHeartbeats 0 in
theorem mir__law_steps : ∀ ds R X, S__law_steps ds R X → M__law_steps ds R X := by
  intro ds R X h
  unfold S__law_steps at h
  split at h
  · rename_i n m es b
    obtain ⟨ms, e, ⟨h0, h1, h2, h3, h4, h5⟩, hR⟩ := h
    have e2 := ints_of e
    subst e2
    have hl : (ms.map D.int).length = ms.length := List.length_map _
    walk_at "yz"
    refine lc_any stepD (fun x => x.1 ∈ ms ∧ 0 ≤ x.2 ∧ x.2 < b) (fun d hd A B hA => ?_) fun xs hx hp => ?_
    · obtain ⟨i, _, rfl⟩ := List.mem_map.mp hd
      walk_at "yz"
      exact hA (_, _) ⟨by assumption, by assumption, by assumption⟩
    · rw [List.length_map, List.length_range] at hx
      exact hR xs (by omega) hp
  · exact h.elim
def Y__law_stops : YS := (sRet (yP (yAdd (yLst false (aCons (yV 0) aNil)) (yLc false [2] (iE (yV 1)) (.nm 2) tYes (yIxS (yV 2) (yC (.int 1)))))))
def M__law_stops : DSp := defP 2 1 Y__law_stops
def S__law_stops : DSp := fun ds R _ => match ds with
  | [.int a, .lst _ es] => ∃ st : List Stp2, IG stepD es st ∧ st.length ≤ 1000 ∧ R (.tmp (.lst .own ((stopsM a st).map D.int)))
  | _ => False
set_option maxHeartbeats 0 in
theorem mir__law_stops : ∀ ds R X, S__law_stops ds R X → M__law_stops ds R X := by
  intro ds R X h
  unfold S__law_stops at h
  split at h
  · rename_i a m es
    obtain ⟨st, ⟨rfl⟩, h0, hR⟩ := h
    have hl : (st.map stepD).length = st.length := List.length_map _
    have e : List.map (fun x : Stp2 => D.int x.2) st = (st.map (·.2)).map D.int := by rw [List.map_map]; rfl
    walk_at "yz"
    rw [e, fzs_ints, show fzs [D.int a] = [D.int a] from rfl]
    exact ⟨by simp; omega, hR⟩
  · exact h.elim
def Y__law_end : YS := (sRet (yP (yIxS (yCall S__law_stops (aCons (yIxS (yV 0) (yC (.int 0))) (aCons (yIxS (yV 0) (yC (.int 1))) aNil))) (y1 fLenS (yIxS (yV 0) (yC (.int 1)))))))
def M__law_end : DSp := defP 1 0 Y__law_end
def S__law_end : DSp := fun ds R _ => match ds with
  | [.tup [.int a, .lst _ es]] => ∃ st : List Stp2, IG stepD es st ∧ st.length ≤ 1000 ∧ R (.val (.int (endM a st)))
  | _ => False
set_option maxHeartbeats 0 in
theorem mir__law_end : ∀ ds R X, S__law_end ds R X → M__law_end ds R X := by
  intro ds R X h
  unfold S__law_end at h
  split at h
  · rename_i a m es
    obtain ⟨st, ⟨rfl⟩, h0, hR⟩ := h
    have hl : (st.map stepD).length = st.length := List.length_map _
    have hl2 := stops_len (a := a) (st := st)
    have hs := stops_end (st := st) (a := a)
    walk_at "yz"
    rename_i x hx
    rw [hl, Int.toNat_natCast, hs] at hx
    cases hx
    exact hR
  · exact h.elim
def Y_check_place : YS := (sIf (tP (tNot (tE (yChain (fLt fun i j => decide (i ≤ j)) (fLt fun i j => decide (i < j)) (yC (.int 0)) (yV 1) (yV 0))))) (sRaise "PlaceOutOfRange" ["place"] (aCons (yV 1) aNil)) sNext)
def M_check_place : DSp := defP 2 0 Y_check_place
def S_check_place : DSp := fun ds R X => match ds with
  | [.int s, .int n] => Br (decide (0 ≤ n ∧ n < s)) (R (.val .non)) (X "PlaceOutOfRange" [("place", .int n)])
  | _ => False
set_option maxHeartbeats 0 in
theorem mir_check_place : ∀ ds R X, S_check_place ds R X → M_check_place ds R X := by
  intro ds R X h
  unfold S_check_place at h
  split at h
  · rename_i s n
    have h1 := fun hp => h.t (decide_eq_true hp)
    have h2 := fun hp => h.f (decide_eq_false hp)
    walk_at "yz"
    all_goals first | exact h2 (by omega) | exact h1 (by omega) | trace_state
  · exact h.elim
def Y_Path_init : YS := (sSeq (sDrop (yP (yCall S_check_place (aCons (yC (.int 12)) (aCons (yV 1) aNil))))) (sSeq (sFor (iS (yV 2)) (.tp [3, 4]) (sSeq (sIf (tP (tNot (tE (yChain (fLt fun i j => decide (i ≤ j)) (fLt fun i j => decide (i < j)) (yC (.int 0)) (yV 3) (yC (.int 40)))))) (sRaise "NoSuchLot" ["lot"] (aCons (yV 3) aNil)) sNext) (sDrop (yP (yCall S_check_place (aCons (yC (.int 12)) (aCons (yV 4) aNil))))))) (sSeq (sSetF false "Path" (wV 0) "start" (yV 1)) (sSeq (sSetF false "Path" (wV 0) "steps" (yTuple (yLc false [3, 4] (iE (yV 2)) (.tp [3, 4]) tYes (yTup (aCons (yV 3) (aCons (yV 4) aNil)))))) (sSetF false "Path" (wV 0) "_many" (y1 fLenS (yFl (yV 0) "steps")))))))
def M_Path_init : SpI := defI "Path" 2 2 Y_Path_init
def S_Path_init : SpI := fun ds R _ => match ds with
  | [.int a, l] => ∃ es, seqD l = some es ∧ ∃ st : List Stp2, IG stepD es st ∧ (0 ≤ a ∧ a < 12 ∧ st.length ≤ 1000 ∧ ∀ x ∈ st, 0 ≤ x.1 ∧ x.1 < 40 ∧ 0 ≤ x.2 ∧ x.2 < 12) ∧ R (pathM .own a st)
  | _ => False
set_option maxHeartbeats 0 in
theorem mir_Path_init : ∀ ds R X, S_Path_init ds R X → M_Path_init ds R X := by
  intro ds R X h
  unfold S_Path_init at h
  split at h
  · rename_i a l
    obtain ⟨es, e1, st, ⟨rfl⟩, ⟨h1, h2, h3, h4⟩, hR⟩ := h
    have hl : (st.map stepD).length = st.length := List.length_map _
    cases l <;> cases e1
    · refine ⟨rfl, fun r => ?_⟩
      walk_at "yz"
      refine for_each stepD st rfl (fun ρ => ∃ s3 s4, ρ = [.own (some r) (.obj .own "Path" [] []), .val (.int a), .val (.tup (st.map stepD)), s3, s4]) (fun _ => True) ⟨_, _, rfl⟩ ?_ ?_
      · rintro x hx ρ N ⟨s3, s4, rfl⟩ hN
        obtain ⟨g1, g2, g3, g4⟩ := h4 x hx
        walk_at "yz"
        exact hN trivial _ ⟨_, _, rfl⟩
      · rintro ρ ⟨s3, s4, rfl⟩ _
        walk_at "yz"
        have e : fzs (List.map (fun x : Stp2 => D.tup [D.int x.fst, D.int x.snd]) st) = st.map stepD := fzs_ig (mk := stepD) st
        rw [e, hl]
        exact hR
    · rename_i m0
      refine ⟨rfl, fun r => ?_⟩
      walk_at "yz"
      refine for_each stepD st rfl (fun ρ => ∃ s3 s4, ρ = [.own (some r) (.obj .own "Path" [] []), .val (.int a), .val (.lst m0 (st.map stepD)), s3, s4]) (fun _ => True) ⟨_, _, rfl⟩ ?_ ?_
      · rintro x hx ρ N ⟨s3, s4, rfl⟩ hN
        obtain ⟨g1, g2, g3, g4⟩ := h4 x hx
        walk_at "yz"
        exact hN trivial _ ⟨_, _, rfl⟩
      · rintro ρ ⟨s3, s4, rfl⟩ _
        walk_at "yz"
        have e : fzs (List.map (fun x : Stp2 => D.tup [D.int x.fst, D.int x.snd]) st) = st.map stepD := fzs_ig (mk := stepD) st
        rw [e, hl]
        exact hR
  · exact h.elim
def Y__law_sum : YS := (sRet (yP (yTup (aCons (yIxS (yV 0) (yC (.int 0))) (aCons (yAdd (yIxS (yV 0) (yC (.int 1))) (yIxS (yV 1) (yC (.int 1)))) aNil)))))
def M__law_sum : DSp := defP 2 0 Y__law_sum
def S__law_sum : DSp := fun ds R _ => match ds with
  | [p, q] => ∃ r s : Pr, p = askD r ∧ q = askD s ∧ (r.2.length ≤ 1000 ∧ s.2.length ≤ 1000) ∧ R (.val (askD (sumM r s)))
  | _ => False
set_option maxHeartbeats 0 in
theorem mir__law_sum : ∀ ds R X, S__law_sum ds R X → M__law_sum ds R X := by
  intro ds R X h
  unfold S__law_sum at h
  split at h
  · rename_i p q
    obtain ⟨r, s, rfl, rfl, ⟨h0, h1⟩, hR⟩ := h
    have hl : (r.2.map stepD).length = r.2.length := List.length_map _
    have hl2 : (s.2.map stepD).length = s.2.length := List.length_map _
    walk_at "yz"
    rw [fz, fzs_app, fzs_ig, fzs_ig, ← List.map_append]
    exact hR
  · exact h.elim
def Y_Path_end : YS := (sRet (yP (yIf (tTru (yFl (yV 0) "steps")) (yIxS (yIxS (yFl (yV 0) "steps") (y1 fNeg (yC (.int 1)))) (yC (.int 1))) (yFl (yV 0) "start"))))
def M_Path_end : DSp := defP 1 0 Y_Path_end
def S_Path_end : DSp := fun ds R _ => match ds with
  | [p] => ∃ m a st, p = pathM m a st ∧ st.length ≤ 1000 ∧ R (.val (.int (endM a st)))
  | _ => False
set_option maxHeartbeats 0 in
theorem mir_Path_end : ∀ ds R X, S_Path_end ds R X → M_Path_end ds R X := by
  intro ds R X h
  unfold S_Path_end at h
  split at h
  · rename_i p
    obtain ⟨m, a, st, rfl, h0, hR⟩ := h
    rcases List.eq_nil_or_concat st with rfl | ⟨l, x, q⟩
    · walk_at "yz"
      exact hR
    · rw [List.concat_eq_append] at q
      subst q
      have e : endM a (l ++ [x]) = x.2 := by rw [endM_app]; rfl
      rw [e] at hR
      unfold pathM
      rw [List.map_append]
      have hl : (l.map stepD ++ [x].map stepD).length = l.length + 1 := by simp
      walk_at "yz"
      refine Br.mk (fun hb => ?_) (fun hb => ?_)
      · simp at hb
      · walk_at "yz"
        exact hR
  · exact h.elim
def Y_Path_add : YS := (sSeq (sIf (tP (tE (y2 (fEq true) (yMethN "Path" "end" S_Path_end (yV 0) aNil) (yFl (yV 1) "start")))) (sRaise "Mismatch" [] aNil) sNext) (sRet (yP (yMake true [] S_Path_init (aCons (yFl (yV 0) "start") (aCons (yAdd (yFl (yV 0) "steps") (yFl (yV 1) "steps")) aNil))))))
def M_Path_add : DSp := defP 2 0 Y_Path_add
def S_Path_add : DSp := fun ds R X => match ds with
  | [p, q] => ∃ m a s, p = pathM m a s ∧ ∃ m2 b t, q = pathM m2 b t ∧ (OkQ 500 (a, s) ∧ OkQ 500 (b, t)) ∧ Br (decide (endM a s = b)) (R (.val (pathF (a, s ++ t)))) (X "Mismatch" [])
  | _ => False
set_option maxHeartbeats 0 in
theorem mir_Path_add : ∀ ds R X, S_Path_add ds R X → M_Path_add ds R X := by
  intro ds R X h
  unfold S_Path_add at h
  split at h
  · rename_i p q
    obtain ⟨m, a, s, rfl, m2, b, t, rfl, ⟨h0, h1⟩, hR⟩ := h
    have hl : (s.map stepD).length = s.length := List.length_map _
    have hl2 : (t.map stepD).length = t.length := List.length_map _
    have l0 : s.length ≤ 500 := h0.l
    have l1 : t.length ≤ 500 := h1.l
    have hs := (h0.sum h1).m
    have a0 : 0 ≤ a := h0.a0
    have a1 : a < 12 := h0.a1
    walk_at "yz"
    · rename_i hc
      rw [fz_pathM]
      exact hR.t (decide_eq_true hc)
    · rename_i hc
      exact hR.f (decide_eq_false hc)
  · exact h.elim
def Y__law_back : YS := (sSeq (sAsgF 1 (yP (yCall S__law_stops (aCons (yIxS (yV 0) (yC (.int 0))) (aCons (yIxS (yV 0) (yC (.int 1))) aNil))))) (sRet (yP (yTup (aCons (yIxS (yV 1) (y1 fLenS (yIxS (yV 0) (yC (.int 1))))) (aCons (yLc false [2] (iR3 (y2 fSub (y1 fLenS (yIxS (yV 0) (yC (.int 1)))) (yC (.int 1))) (y1 fNeg (yC (.int 1))) (y1 fNeg (yC (.int 1)))) (.nm 2) tYes (yTup (aCons (yIxS (yIxS (yIxS (yV 0) (yC (.int 1))) (yV 2)) (yC (.int 0))) (aCons (yIxS (yV 1) (yV 2)) aNil)))) aNil))))))
def M__law_back : DSp := defP 1 2 Y__law_back
def S__law_back : DSp := fun ds R _ => match ds with
  | [.tup [.int a, .lst _ es]] => ∃ st : List Stp2, IG stepD es st ∧ st.length ≤ 1000 ∧ R (.val (askD (backM (a, st))))
  | _ => False
set_option maxHeartbeats 0 in
theorem mir__law_back : ∀ ds R X, S__law_back ds R X → M__law_back ds R X := by
  intro ds R X h
  unfold S__law_back at h
  split at h
  · rename_i a m es
    obtain ⟨st, ⟨rfl⟩, h0, hR⟩ := h
    have hl : (st.map stepD).length = st.length := List.length_map _
    have hl2 := stops_len (a := a) (st := st)
    have hs := stops_end (st := st) (a := a)
    walk_at "yz"
    rename_i x hx
    rw [hl, Int.toNat_natCast, hs] at hx
    cases hx
    rw [rngD_back (n := st.length) (by rw [hl])]
    refine ⟨by simp; omega, lc_g (mk := fun i : Nat => D.int ((st.length : Int) - 1 - (i : Nat))) (xs := List.range st.length) (c := fun _ => true) (g := fun i => stepD ((backL a st).getD i (0, 0))) ⟨rfl⟩ (fun i hi A B hA => ?_) ?_⟩
    · have hi := List.mem_range.mp hi
      have hA := hA.t rfl
      walk_at "yz"
      rename_i x hx z hz
      have hb := back_at (a := a) (i := i) (x := x) (z := z) (st := st) (by rw [← hx]; congr 1; omega) hi (by rw [← hz]; congr 1; omega)
      rw [List.getD, hb] at hA
      exact hA
    · rw [back_list]
      walk_at "yz"
      rw [fz, fzs_ig]
      exact hR
  · exact h.elim
def Y_Path_stops : YS := (sRet (yP (yAdd (yTup (aCons (yFl (yV 0) "start") aNil)) (yTuple (yLc false [1, 2] (iE (yFl (yV 0) "steps")) (.tp [1, 2]) tYes (yV 2))))))
def M_Path_stops : DSp := defP 1 2 Y_Path_stops
def S_Path_stops : DSp := fun ds R _ => match ds with
  | [p] => ∃ m a st, p = pathM m a st ∧ st.length ≤ 1000 ∧ R (.val (.tup ((stopsM a st).map D.int)))
  | _ => False
set_option maxHeartbeats 0 in
theorem mir_Path_stops : ∀ ds R X, S_Path_stops ds R X → M_Path_stops ds R X := by
  intro ds R X h
  unfold S_Path_stops at h
  split at h
  · rename_i p
    obtain ⟨m, a, st, rfl, h0, hR⟩ := h
    have hl : (st.map stepD).length = st.length := List.length_map _
    have e : List.map (fun x : Stp2 => D.int x.2) st = (st.map (·.2)).map D.int := by rw [List.map_map]; rfl
    unfold stopsM at hR
    walk_at "yz"
    rw [e, fzs_ints]
    exact ⟨by simp; omega, hR⟩
  · exact h.elim
def Y_Path_invert : YS := (sSeq (sAsgF 1 (yP (yMethN "Path" "stops" S_Path_stops (yV 0) aNil))) (sSeq (sAsgF 2 (yP (y2 fSub (y1 fLenS (yFl (yV 0) "steps")) (yC (.int 1))))) (sRet (yP (yMake true [] S_Path_init (aCons (yMethN "Path" "end" S_Path_end (yV 0) aNil) (aCons (yLc false [3] (iR3 (yV 2) (y1 fNeg (yC (.int 1))) (y1 fNeg (yC (.int 1)))) (.nm 3) tYes (yTup (aCons (yIxS (yIxS (yFl (yV 0) "steps") (yV 3)) (yC (.int 0))) (aCons (yIxS (yV 1) (yV 3)) aNil)))) aNil)))))))
def M_Path_invert : DSp := defP 1 3 Y_Path_invert
def S_Path_invert : DSp := fun ds R _ => match ds with
  | [p] => ∃ m a s, p = pathM m a s ∧ OkQ 1000 (a, s) ∧ R (.val (pathF (backM (a, s))))
  | _ => False
set_option maxHeartbeats 0 in
theorem mir_Path_invert : ∀ ds R X, S_Path_invert ds R X → M_Path_invert ds R X := by
  intro ds R X h
  unfold S_Path_invert at h
  split at h
  · rename_i p
    obtain ⟨m, a, st, rfl, h0, hR⟩ := h
    have hl : (st.map stepD).length = st.length := List.length_map _
    have hl2 := stops_len (a := a) (st := st)
    have hs := stops_end (st := st) (a := a)
    have l0 : st.length ≤ 1000 := h0.l
    have hb := h0.back
    have hb0 : 0 ≤ endM a st := hb.a0
    have hb1 : endM a st < 12 := hb.a1
    have hb2 := hb.m
    have hb3 : (backL a st).length = st.length := backL_len
    walk_at "yz"
    rw [rngD_back (n := st.length) (by rw [hl])]
    refine ⟨by simp; omega, lc_g (mk := fun i : Nat => D.int ((st.length : Int) - 1 - (i : Nat))) (xs := List.range st.length) (c := fun _ => true) (g := fun i => stepD ((backL a st).getD i (0, 0))) ⟨rfl⟩ (fun i hi A B hA => ?_) ?_⟩
    · have hi := List.mem_range.mp hi
      have hA := hA.t rfl
      walk_at "yz"
      rename_i x hx z hz
      have hb := back_at (a := a) (i := i) (x := x) (z := z) (st := st) (by rw [← hx]; congr 1; omega) hi (by rw [← hz]; congr 1; omega)
      rw [List.getD, hb] at hA
      exact hA
    · rw [back_list]
      walk_at "yz"
      rw [fz_pathM]
      exact hR
  · exact h.elim
def Y_Path_chain : YS := (sSeq (sIf (tP (tE (y2 (fEq false) (y1 fLenS (yV 1)) (yC (.int 0))))) (sRaise "Mismatch" [] aNil) sNext) (sSeq (sAsgF 2 (yP (yMakeL 0 "Path" true [] S_Path_init (aCons (yFl (yIxS (yV 1) (yC (.int 0))) "start") (aCons (yFl (yIxS (yV 1) (yC (.int 0))) "steps") aNil))))) (sSeq (sFor (iS (ySlL (yV 1) (some (yC (.int 1))) none)) (.nm 3) (sAsgF 2 (yP (yBinS "Path" (some "Path") S_Path_add (yV 2) (yV 3))))) (sRet (yP (yV 2))))))
def M_Path_chain : DSp := defP 2 2 Y_Path_chain
def S_Path_chain : DSp := fun ds R X => match ds with
  | [.glb n, .tup es] => n = "Path" ∧ ∃ rs : List Pr, IG pathF es rs ∧ (rs.length ≤ 9 ∧ ∀ r ∈ rs, OkQ 50 r) ∧ match chainM rs with
    | some r => R (.val (pathF r))
    | none => X "Mismatch" []
  | _ => False
set_option maxHeartbeats 0 in
theorem mir_Path_chain : ∀ ds R X, S_Path_chain ds R X → M_Path_chain ds R X := by
  intro ds R X h
  unfold S_Path_chain at h
  split at h
  · rename_i cn es
    obtain ⟨rfl, rs, ⟨rfl⟩, ⟨h0, h1⟩, hR⟩ := h
    cases rs with
    | nil =>
      walk_at "yz"
      exact hR
    | cons r rs =>
      have hr := h1 r (by simp)
      have r0 : 0 ≤ r.1 := hr.a0
      have r1 : r.1 < 12 := hr.a1
      have r2 : r.2.length ≤ 50 := hr.l
      have r3 := hr.m
      have hl : (rs.map pathF).length = rs.length := List.length_map _
      walk_at "yz"
      refine ex_head ?_
      walk_at "yz"
      refine ex_head ?_
      walk_at "yz"
      rw [cut_tail, fz_pathM]
      refine for_suf pathF rs rfl (fun suf ρ => ∃ acc s3, ρ = [.val (.glb "Path"), .val (.tup (pathF r :: rs.map pathF)), .val (pathF acc), s3] ∧ chainF r rs = chainF acc suf ∧ suf.length ≤ 8 ∧ OkQ (50 * (10 - suf.length)) acc) ⟨r, _, rfl, rfl, by simp at h0; omega, hr.le (by simp at h0; omega)⟩ ?_ ?_
      · rintro x suf ρ N hx ⟨acc, s3, rfl, e1, l1, k1⟩ hN
        have kx := h1 x (List.mem_cons_of_mem _ hx)
        have ks := k1.sum kx
        rw [List.length_cons] at l1
        have k5 : OkQ 500 (acc.1, acc.2) := k1.le (by omega)
        have kx5 : OkQ 500 (x.1, x.2) := kx.le (by omega)
        have e2 : chainF acc (x :: suf) = if endM acc.1 acc.2 = x.1 then chainF (sumM acc x) suf else none := rfl
        walk_at "yz"
        · rename_i hc
          rw [if_pos hc] at e2
          refine hN _ ⟨sumM acc x, .val (pathF x), rfl, e1.trans e2, by omega, ks.le ?_⟩
          rw [List.length_cons]
          omega
        · rename_i hc
          rw [if_neg hc] at e2
          have e3 : chainM (r :: rs) = none := e1.trans e2
          rw [e3] at hR
          exact hR
      · rintro ρ ⟨acc, s3, rfl, e1, l1, k1⟩
        have e2 : chainM (r :: rs) = some acc := e1
        rw [e2] at hR
        walk_at "yz"
        exact hR
  · exact h.elim
def Y_Path_still : YS := (sRet (yP (yMake true [] S_Path_init (aCons (yV 0) (aCons (yTup aNil) aNil)))))
def M_Path_still : DSp := defP 1 0 Y_Path_still
def S_Path_still : DSp := fun ds R _ => match ds with
  | [.int a] => (0 ≤ a ∧ a < 12) ∧ R (.val (pathF (a, [])))
  | _ => False
set_option maxHeartbeats 0 in
theorem mir_Path_still : ∀ ds R X, S_Path_still ds R X → M_Path_still ds R X := by
  intro ds R X h
  unfold S_Path_still at h
  split at h
  · rename_i a
    obtain ⟨⟨h0, h1⟩, hR⟩ := h
    walk_at "yz"
    rw [fz_pathM]
    exact hR
  · exact h.elim
def Y__law_number : YS := (sRet (yP (yAnd (y1 (fIsI bs_int []) (yV 0)) (yNot (y1 (fIsI bs_bool []) (yV 0))))))
def M__law_number : DSp := defP 1 0 Y__law_number
def S__law_number : DSp := fun ds R _ => match ds with
  | [d] => (tyD d).isSome = true ∧ R (.val (.bl (isInt d)))
  | _ => False
set_option maxHeartbeats 0 in
theorem mir__law_number : ∀ ds R X, S__law_number ds R X → M__law_number ds R X := by
  intro ds R X h
  unfold S__law_number at h
  split at h
  · rename_i d
    obtain ⟨h0, h⟩ := h
    cases d <;> first | (exact ⟨rfl, ⟨by
      walk_at "yy"
      first
      | exact h
      | (refine Br.mk (fun hc => ?_) (fun hc => ?_) <;> first | (cases hc; done) | (walk_at "yy"; exact h))⟩⟩) | cases h0
  · exact h.elim
def Y__law_same (rec : DSp) : YS := (sSeq (sIf (tP (tTru (y1 (fIsI bs_bool []) (yV 1)))) (sRet (yP (yAnd (y1 (fIsI bs_bool []) (yV 0)) (y2 (fEq false) (yV 0) (yV 1))))) sNext) (sSeq (sIf (tP (tTru (y1 (fIsI bs_int []) (yV 1)))) (sRet (yP (yAnd (yCall S__law_number (aCons (yV 0) aNil)) (y2 (fEq false) (yV 0) (yV 1))))) sNext) (sSeq (sIf (tP (tTru (y1 (fIsI bs_str []) (yV 1)))) (sRet (yP (yAnd (y1 (fIsI bs_str []) (yV 0)) (y2 (fEq false) (yV 0) (yV 1))))) sNext) (sSeq (sIf (tP (tE (y1 (fIsN false) (yV 1)))) (sRet (yP (y1 (fIsN false) (yV 0)))) sNext) (sSeq (sIf (tP (tAnd (tTru (y1 (fIsI bs_tuple []) (yV 1))) (tNot (tTru (y1 (fIsI bs_tuple []) (yV 0)))))) (sRet (yP (yC (.bl false)))) sNext) (sSeq (sIf (tP (tAnd (tTru (y1 (fIsI bs_list []) (yV 1))) (tNot (tTru (y1 (fIsI bs_list []) (yV 0)))))) (sRet (yP (yC (.bl false)))) sNext) (sSeq (sIf (tP (tE (y2 (fEq true) (y1 fLenS (yV 0)) (y1 fLenS (yV 1))))) (sRet (yP (yC (.bl false)))) sNext) (sSeq (sFor (iR1 (y1 fLenS (yV 1))) (.nm 2) (sIf (tP (tNot (tTru (yCall rec (aCons (yIxS (yV 0) (yV 2)) (aCons (yIxS (yV 1) (yV 2)) aNil)))))) (sRet (yP (yC (.bl false)))) sNext)) (sRet (yP (yC (.bl true))))))))))))
def S__law_sameN : Nat → DSp
  | 0 => fun _ _ _ => False
  | n + 1 => defP 2 1 (Y__law_same (S__law_sameN n))
def M__law_same : DSp := S__law_sameN 12
def S__law_same : DSp := fun ds R _ => match ds with
  | [a, e] => (okD 11 a = true ∧ okD 11 e = true) ∧ R (.val (.bl (sameD a e)))
  | _ => False
-- PRE
theorem same_ok : ∀ (n : Nat) (a e : D) (R : RV → Prop) (X : XD), okD n a = true → okD n e = true → R (.val (.bl (sameD a e))) → S__law_sameN (n + 1) [a, e] R X
  | n, a, .bl b, R, X, ha, he, h => by
    cases a <;> first | (simp only [sameD] at h; walk_at "yy"; first | exact h | (simp only [Bool.false_xor]; exact h)) | (cases n <;> cases ha)
  | n, a, .int b, R, X, ha, he, h => by
    cases a <;> first | (simp only [sameD] at h; walk_at "yy"; first | exact h | (simp only [Bool.false_xor]; exact h)) | (cases n <;> cases ha)
  | n, a, .str b, R, X, ha, he, h => by
    cases a <;> first | (simp only [sameD] at h; walk_at "yy"; first | exact h | (simp only [Bool.false_xor]; exact h)) | (cases n <;> cases ha)
  | n, a, .non, R, X, ha, he, h => by
    cases a <;> first | (walk_at "yy"; exact h) | (cases n <;> cases ha)
  | 0, a, .tup es, R, X, ha, he, h => by cases he
  | n + 1, a, .tup es, R, X, ha, he, h => by
    have e2 := okD_tup he
    cases a with
    | tup ds =>
      have a2 := okD_tup ha
      simp only [sameD] at h
      walk_at "yy"
      refine Br.mk (fun hc => ?_) (fun hc => ?_)
      · have hc' : ¬ ((ds.length : Int) = es.length) := by simpa using hc
        rw [sames_len (by omega)] at h
        walk_at "yy"
        exact h
      · have hc' : (ds.length : Int) = es.length := by simpa using hc
        have hl : ds.length = es.length := by omega
        walk_at "yy"
        refine forW_inv (fun i ρ => ∃ s : S, ρ = [.val (.tup ds), .val (.tup es), s] ∧ ∀ (j : Nat) (x y : D), j < i → ds[j]? = some x → es[j]? = some y → sameD x y = true) ?_ ?_ ?_
        · exact ⟨.no, rfl, fun j x y hj => absurd hj (Nat.not_lt_zero _)⟩
        · rintro i d ρ N hd ⟨s, rfl, hs⟩ hN
          obtain ⟨rfl, hi⟩ := rng_get hd
          have hi' : i < es.length := by simpa using hi
          obtain ⟨x, x1, x2, _⟩ := atD_nn (ds := ds) (i := (i : Int)) (by omega) (by omega)
          obtain ⟨y, y1, y2, _⟩ := atD_nn (ds := es) (i := (i : Int)) (by omega) (by omega)
          rw [Int.toNat_natCast] at x2 y2
          walk_at "yw"
          refine Nx.mk ?_
          walk_at "yw"
          refine ⟨x, x1, ?_⟩
          walk_at "yw"
          refine ⟨y, y1, ?_⟩
          refine same_ok n x y _ _ (oksD_get a2.2 x2) (oksD_get e2.2 y2) ?_
          walk_at "yw"
          refine Br.mk (fun hb => ?_) (fun hb => ?_)
          · have : sameD x y = false := by simpa using hb
            rw [sames_not x2 y2 this] at h
            walk_at "yy"
            exact h
          · have : sameD x y = true := by simpa using hb
            refine hN _ ⟨_, rfl, fun j x' y' hj h1 h2 => ?_⟩
            by_cases e : j = i
            · subst e
              rw [x2] at h1
              rw [y2] at h2
              cases h1
              cases h2
              exact this
            · exact hs j x' y' (by omega) h1 h2
        · rintro ρ ⟨s, rfl, hs⟩
          have hz : ((List.range (es.length : Int).toNat).map fun i => D.int (i : Nat)).length = es.length := by simp
          rw [sames_all hl fun j x y h1 h2 => hs j x y (by rw [hz]; exact (List.getElem?_eq_some_iff.mp h2).1) h1 h2] at h
          walk_at "yy"
          exact h
    | _ => first | (simp only [sameD] at h; walk_at "yy"; exact h) | cases ha
  | 0, a, .lst m es, R, X, ha, he, h => by cases he
  | n + 1, a, .lst m es, R, X, ha, he, h => by
    have e2 := okD_lst he
    cases a with
    | lst m2 ds =>
      have a2 := okD_lst ha
      simp only [sameD] at h
      walk_at "yy"
      refine Br.mk (fun hc => ?_) (fun hc => ?_)
      · have hc' : ¬ ((ds.length : Int) = es.length) := by simpa using hc
        rw [sames_len (by omega)] at h
        walk_at "yy"
        exact h
      · have hc' : (ds.length : Int) = es.length := by simpa using hc
        have hl : ds.length = es.length := by omega
        walk_at "yy"
        refine forW_inv (fun i ρ => ∃ s : S, ρ = [.val (.lst m2 ds), .val (.lst m es), s] ∧ ∀ (j : Nat) (x y : D), j < i → ds[j]? = some x → es[j]? = some y → sameD x y = true) ?_ ?_ ?_
        · exact ⟨.no, rfl, fun j x y hj => absurd hj (Nat.not_lt_zero _)⟩
        · rintro i d ρ N hd ⟨s, rfl, hs⟩ hN
          obtain ⟨rfl, hi⟩ := rng_get hd
          have hi' : i < es.length := by simpa using hi
          obtain ⟨x, x1, x2, _⟩ := atD_nn (ds := ds) (i := (i : Int)) (by omega) (by omega)
          obtain ⟨y, y1, y2, _⟩ := atD_nn (ds := es) (i := (i : Int)) (by omega) (by omega)
          rw [Int.toNat_natCast] at x2 y2
          walk_at "yw"
          refine Nx.mk ?_
          walk_at "yw"
          refine ⟨x, x1, ?_⟩
          walk_at "yw"
          refine ⟨y, y1, ?_⟩
          refine same_ok n x y _ _ (oksD_get a2.2 x2) (oksD_get e2.2 y2) ?_
          walk_at "yw"
          refine Br.mk (fun hb => ?_) (fun hb => ?_)
          · have : sameD x y = false := by simpa using hb
            rw [sames_not x2 y2 this] at h
            walk_at "yy"
            exact h
          · have : sameD x y = true := by simpa using hb
            refine hN _ ⟨_, rfl, fun j x' y' hj h1 h2 => ?_⟩
            by_cases e : j = i
            · subst e
              rw [x2] at h1
              rw [y2] at h2
              cases h1
              cases h2
              exact this
            · exact hs j x' y' (by omega) h1 h2
        · rintro ρ ⟨s, rfl, hs⟩
          have hz : ((List.range (es.length : Int).toNat).map fun i => D.int (i : Nat)).length = es.length := by simp
          rw [sames_all hl fun j x y h1 h2 => hs j x y (by rw [hz]; exact (List.getElem?_eq_some_iff.mp h2).1) h1 h2] at h
          walk_at "yy"
          exact h
    | _ => first | (simp only [sameD] at h; walk_at "yy"; exact h) | cases ha
  | n, a, .dct _ _ _, R, X, ha, he, h => by cases n <;> cases he
  | n, a, .obj _ _ _ _, R, X, ha, he, h => by cases n <;> cases he
  | n, a, .src, R, X, ha, he, h => by cases n <;> cases he
  | n, a, .scr _, R, X, ha, he, h => by cases n <;> cases he
  | n, a, .cel _ _, R, X, ha, he, h => by cases n <;> cases he
  | n, a, .glb _, R, X, ha, he, h => by cases n <;> cases he
-- END
set_option maxHeartbeats 0 in
theorem mir__law_same : ∀ ds R X, S__law_same ds R X → M__law_same ds R X := by
  intro ds R X h
  unfold S__law_same at h
  split at h
  · rename_i a e
    obtain ⟨⟨h1, h2⟩, h⟩ := h
    exact same_ok 11 a e R X h1 h2 h
  · exact h.elim
def Y_Path_len : YS := (sRet (yP (y1 fLenS (yFl (yV 0) "steps"))))
def M_Path_len : DSp := defP 1 0 Y_Path_len
def S_Path_len : DSp := fun ds R _ => match ds with
  | [p] => ∃ m a st, p = pathM m a st ∧ R (.val (.int (st.length : Int)))
  | _ => False
set_option maxHeartbeats 0 in
theorem mir_Path_len : ∀ ds R X, S_Path_len ds R X → M_Path_len ds R X := by
  intro ds R X h
  unfold S_Path_len at h
  split at h
  · rename_i p
    obtain ⟨m, a, st, rfl, hR⟩ := h
    have hl : (st.map stepD).length = st.length := List.length_map _
    walk_at "yz"
    rw [hl]
    exact hR
  · exact h.elim
def Y__law_path_is : YS := (sSeq (sIf (tP (tNot (tTru (y1 (fIsI [] [("Path", true)]) (yV 0))))) (sRet (yP (yC (.bl false)))) sNext) (sRet (yP (yCall S__law_same (aCons (yTup (aCons (yFl (yV 0) "start") (aCons (yFl (yV 0) "steps") aNil))) (aCons (yTup (aCons (yV 1) (aCons (yTuple (yV 2)) aNil))) aNil))))))
def M__law_path_is : DSp := defP 3 0 Y__law_path_is
def S__law_path_is : DSp := fun ds R _ => match ds with
  | [p, .int a, .lst _ es] => ∃ m st, p = pathM m a st ∧ IG stepD es st ∧ st.length ≤ 1000 ∧ R (.val (.bl true))
  | _ => False
set_option maxHeartbeats 0 in
theorem mir__law_path_is : ∀ ds R X, S__law_path_is ds R X → M__law_path_is ds R X := by
  intro ds R X h
  unfold S__law_path_is at h
  split at h
  · rename_i p a m2 es
    obtain ⟨m, st, rfl, ⟨rfl⟩, h0, hR⟩ := h
    have hl : (st.map stepD).length = st.length := List.length_map _
    have ok : okD 11 (.tup [.int a, .tup (st.map stepD)]) = true := by
      have := ok_steps (n := 7) (st := st) (by omega)
      simp only [okD, oksD] at this ⊢
      simpa using this
    walk_at "yz"
    rw [show sameD (arg (RV.val (D.tup [D.int a, D.tup (st.map stepD)]))) (arg (RV.val (D.tup [D.int a, D.tup (st.map stepD)]))) = true from sameD_refl 11 ok]
    exact hR
  · exact h.elim
def Y__law_are : YS := (sSeq (sFor (iS (yV 0)) (.nm 1) (sIf (tP (tOr (tNot (tTru (yCall S__law_path_is (aCons (yIxS (yV 1) (yC (.int 0))) (aCons (yIxS (yIxS (yV 1) (yC (.int 1))) (yC (.int 0))) (aCons (yIxS (yIxS (yV 1) (yC (.int 1))) (yC (.int 1))) aNil)))))) (tNot (tTru (yCall S__law_same (aCons (yLenO "Path" S_Path_len (yIxS (yV 1) (yC (.int 0)))) (aCons (y1 fLenS (yIxS (yIxS (yV 1) (yC (.int 1))) (yC (.int 1)))) aNil))))))) (sRet (yP (yC (.bl false)))) sNext)) (sRet (yP (yC (.bl true)))))
def M__law_are : DSp := defP 1 1 Y__law_are
def S__law_are : DSp := fun ds R _ => match ds with
  | [.lst _ es] => ∃ rs : List Pr, IG oneD es rs ∧ (rs.length ≤ 100 ∧ ∀ r ∈ rs, r.2.length ≤ 1000) ∧ R (.val (.bl true))
  | _ => False
set_option maxHeartbeats 0 in
theorem mir__law_are : ∀ ds R X, S__law_are ds R X → M__law_are ds R X := by
  intro ds R X h
  unfold S__law_are at h
  split at h
  · rename_i m es
    obtain ⟨rs, ⟨rfl⟩, ⟨h0, h1⟩, hR⟩ := h
    walk_at "yz"
    refine for_each oneD rs rfl (fun ρ => ∃ s1, ρ = [.val (.lst m (rs.map oneD)), s1]) (fun _ => True) ⟨_, rfl⟩ ?_ ?_
    · rintro r hr ρ N ⟨s1, rfl⟩ hN
      have h2 := h1 r hr
      have hl : (r.2.map stepD).length = r.2.length := List.length_map _
      walk_at "yz"
      exact hN trivial _ ⟨_, rfl⟩
    · rintro ρ ⟨s1, rfl⟩ _
      walk_at "yz"
      exact hR
  · exact h.elim
def Y_Path_eq : YS := (sSeq (sIf (tP (tNot (tTru (y1 (fIsI [] [("Path", true)]) (yV 1))))) sNever sNext) (sRet (yP (y2 (fEq false) (yTup (aCons (yFl (yV 0) "_many") (aCons (yFl (yV 0) "start") (aCons (yFl (yV 0) "steps") aNil)))) (yTup (aCons (yFl (yV 1) "_many") (aCons (yFl (yV 1) "start") (aCons (yFl (yV 1) "steps") aNil))))))))
def M_Path_eq : DSp := defP 2 0 Y_Path_eq
def S_Path_eq : DSp := fun ds R _ => match ds with
  | [p, q] => ∃ m m2 a st, p = pathM m a st ∧ q = pathM m2 a st ∧ st.length ≤ 1000 ∧ R (.val (.bl true))
  | _ => False
set_option maxHeartbeats 0 in
theorem mir_Path_eq : ∀ ds R X, S_Path_eq ds R X → M_Path_eq ds R X := by
  intro ds R X h
  unfold S_Path_eq at h
  split at h
  · rename_i p q
    obtain ⟨m, m2, a, st, rfl, rfl, h0, hR⟩ := h
    have hl : (st.map stepD).length = st.length := List.length_map _
    walk_at "yz"
    have e : RV.d (.val (D.tup [D.int (st.length : Int), D.int a, D.tup (st.map stepD)])) = pkeyD a st := rfl
    rw [e, key_deq]
    exact ⟨⟨key_plain, key_plain, key_deep⟩, hR⟩
  · exact h.elim
def Y_all_different : YS := (sSeq (sFor (iR1 (y1 fLenS (yV 0))) (.nm 1) (sIf (tP (tE (y2 (fInS false) (yIxS (yV 0) (yV 1)) (ySlL (yV 0) none (some (yV 1)))))) (sRet (yP (yC (.bl false)))) sNext)) (sRet (yP (yC (.bl true)))))
def M_all_different : DSp := defP 1 1 Y_all_different
def S_all_different : DSp := fun ds R _ => match ds with
  | [d] => ∃ es, seqD d = some es ∧ ∃ xs, intsD es = some xs ∧ xs.length ≤ 10000 ∧ R (.val (.bl (decide xs.Nodup)))
  | _ => False
theorem nodup_step {xs : List Int} {i : Nat} {x : Int} (h : xs[i]? = some x) : (xs.take (i + 1)).Nodup ↔ (xs.take i).Nodup ∧ x ∉ xs.take i := by
  obtain ⟨hi, e⟩ := List.getElem?_eq_some_iff.mp h
  rw [List.take_succ_eq_append_getElem hi, e, List.nodup_append]
  constructor
  · rintro ⟨h1, _, h3⟩
    exact ⟨h1, fun hx => h3 x hx x (by simp) rfl⟩
  · rintro ⟨h1, h2⟩
    exact ⟨h1, by simp, fun a ha b hb e => by rw [List.mem_singleton.mp hb] at e; subst e; exact h2 ha⟩
set_option maxHeartbeats 0 in
theorem mir_all_different : ∀ ds R X, S_all_different ds R X → M_all_different ds R X := by
  intro ds R X h
  unfold S_all_different at h
  split at h
  · rename_i d
    obtain ⟨es, e1, xs, e, h1, hR⟩ := h
    have e2 := ints_of e
    subst e2
    have hl : (xs.map D.int).length = xs.length := List.length_map _
    cases d <;> cases e1
    · walk_at "yy"
      refine forW_inv (fun i ρ => ∃ s : S, ρ = [.val (.tup (xs.map D.int)), s] ∧ (xs.take i).Nodup) ?_ ?_ ?_
      · exact ⟨.no, rfl, List.nodup_nil⟩
      · rintro i d ρ N hd ⟨s, rfl, hn⟩ hN
        obtain ⟨rfl, hi⟩ := rng_get hd
        have hi' : i < xs.length := by rw [hl] at hi; simpa using hi
        have hx := List.getElem?_eq_getElem hi'
        walk_at "yw"
        refine Nx.mk ?_
        walk_at "yw"
        refine ⟨.int xs[i], ?_, ?_⟩
        · unfold atD
          rw [place_nn (by omega) (by rw [hl]; omega), Int.toNat_natCast]
          show (xs.map D.int)[i]? = _
          rw [List.getElem?_map, hx]
          rfl
        · walk_at "yw"
          rw [cutD_map, cut_take (by omega), Int.toNat_natCast]
          refine ⟨⟨plains_ints _, rfl, Nat.zero_le _⟩, ?_⟩
          walk_at "yw"
          rw [show (RV.val (D.int xs[i])).d = D.int xs[i] from rfl, anyEq_ints, Bool.false_xor]
          refine Br.mk (fun hc => ?_) (fun hc => ?_)
          · have : ¬ xs.Nodup := fun z => ((nodup_step hx).mp (z.sublist (List.take_sublist _ _))).2 (of_decide_eq_true hc)
            rw [decide_eq_false this] at hR
            walk_at "yy"
            exact hR
          · exact hN _ ⟨_, rfl, (nodup_step hx).mpr ⟨hn, of_decide_eq_false hc⟩⟩
      · rintro ρ ⟨s, rfl, hn⟩
        rw [List.length_map, List.length_range, hl, Int.toNat_natCast, List.take_length] at hn
        rw [decide_eq_true hn] at hR
        walk_at "yy"
        exact hR
    · rename_i m0
      walk_at "yy"
      refine forW_inv (fun i ρ => ∃ s : S, ρ = [.val (.lst m0 (xs.map D.int)), s] ∧ (xs.take i).Nodup) ?_ ?_ ?_
      · exact ⟨.no, rfl, List.nodup_nil⟩
      · rintro i d ρ N hd ⟨s, rfl, hn⟩ hN
        obtain ⟨rfl, hi⟩ := rng_get hd
        have hi' : i < xs.length := by rw [hl] at hi; simpa using hi
        have hx := List.getElem?_eq_getElem hi'
        walk_at "yw"
        refine Nx.mk ?_
        walk_at "yw"
        refine ⟨.int xs[i], ?_, ?_⟩
        · unfold atD
          rw [place_nn (by omega) (by rw [hl]; omega), Int.toNat_natCast]
          show (xs.map D.int)[i]? = _
          rw [List.getElem?_map, hx]
          rfl
        · walk_at "yw"
          rw [cutD_map, cut_take (by omega), Int.toNat_natCast]
          refine ⟨⟨plains_ints _, rfl, Nat.zero_le _⟩, ?_⟩
          walk_at "yw"
          rw [show (RV.val (D.int xs[i])).d = D.int xs[i] from rfl, anyEq_ints, Bool.false_xor]
          refine Br.mk (fun hc => ?_) (fun hc => ?_)
          · have : ¬ xs.Nodup := fun z => ((nodup_step hx).mp (z.sublist (List.take_sublist _ _))).2 (of_decide_eq_true hc)
            rw [decide_eq_false this] at hR
            walk_at "yy"
            exact hR
          · exact hN _ ⟨_, rfl, (nodup_step hx).mpr ⟨hn, of_decide_eq_false hc⟩⟩
      · rintro ρ ⟨s, rfl, hn⟩
        rw [List.length_map, List.length_range, hl, Int.toNat_natCast, List.take_length] at hn
        rw [decide_eq_true hn] at hR
        walk_at "yy"
        exact hR
  · exact h.elim
def Y_Path_lot_numbers : YS := (sRet (yP (yTuple (yLc false [1, 2] (iE (yFl (yV 0) "steps")) (.tp [1, 2]) tYes (yV 1)))))
def M_Path_lot_numbers : DSp := defP 1 2 Y_Path_lot_numbers
def S_Path_lot_numbers : DSp := fun ds R _ => match ds with
  | [p] => ∃ m a st, p = pathM m a st ∧ st.length ≤ 1000 ∧ R (.val (.tup ((st.map (·.1)).map D.int)))
  | _ => False
set_option maxHeartbeats 0 in
theorem mir_Path_lot_numbers : ∀ ds R X, S_Path_lot_numbers ds R X → M_Path_lot_numbers ds R X := by
  intro ds R X h
  unfold S_Path_lot_numbers at h
  split at h
  · rename_i p
    obtain ⟨m, a, st, rfl, h0, hR⟩ := h
    have hl : (st.map stepD).length = st.length := List.length_map _
    have e : List.map (fun x : Stp2 => D.int x.1) st = (st.map (·.1)).map D.int := by rw [List.map_map]; rfl
    walk_at "yz"
    rw [e, fzs_ints]
    exact hR
  · exact h.elim
def Y_share_no_lot : YS := (sRet (yP (yCall S_all_different (aCons (yLc2 false [1, 2] [2] (iE (yV 0)) (.nm 1) tYes (iS (yMethN "Path" "lot_numbers" S_Path_lot_numbers (yV 1) aNil)) (.nm 2) tYes (yV 2)) aNil))))
def M_share_no_lot : DSp := defP 1 2 Y_share_no_lot
def S_share_no_lot : DSp := fun ds R _ => match ds with
  | [.tup es] => ∃ rs : List Pr, IG pathF es rs ∧ (rs.length ≤ 10 ∧ ∀ r ∈ rs, r.2.length ≤ 100) ∧ R (.val (.bl (decide (numsM rs).Nodup)))
  | _ => False
set_option maxHeartbeats 0 in
theorem mir_share_no_lot : ∀ ds R X, S_share_no_lot ds R X → M_share_no_lot ds R X := by
  intro ds R X h
  unfold S_share_no_lot at h
  split at h
  · rename_i es
    obtain ⟨rs, ⟨rfl⟩, ⟨h0, h1⟩, hR⟩ := h
    have hl : (rs.map pathF).length = rs.length := List.length_map _
    have hn := nums_len h1
    walk_at "yz"
    refine lc2_g (g := fun r => (r.2.map (·.1)).map D.int) (fun r hr A B hA => ?_) ?_
    · have h2 := h1 r hr
      have hl : (r.2.map (·.1)).length = r.2.length := List.length_map _
      walk_at "yz"
      exact hA
    · rw [nums_map]
      walk_at "yz"
      exact hR
  · exact h.elim
def Y__law_apart_due : YS := (sSeq (sAsgF 1 (yP (yLst false aNil))) (sSeq (sFor (iS (yV 0)) (.nm 2) (sAsgF 1 (yP (yAdd (yV 1) (yLc false [3] (iE (yIxS (yV 2) (yC (.int 1)))) (.nm 3) tYes (yIxS (yV 3) (yC (.int 0)))))))) (sRet (yP (y2 (fEq false) (y1 fLenS (yLc false [4] (iR1 (y1 fLenS (yV 1))) (.nm 4) (tE (y2 (fInS false) (yIxS (yV 1) (yV 4)) (ySlL (yV 1) none (some (yV 4))))) (yV 4))) (yC (.int 0)))))))
def M__law_apart_due : DSp := defP 1 4 Y__law_apart_due
theorem nodup_far {xs : List Int} : ∀ i, i ≤ xs.length → ((xs.take i).Nodup ↔ ∀ j < i, xs.getD j 0 ∉ xs.take j)
  | 0, _ => by simp
  | i + 1, hi => by
    have hx := List.getElem?_eq_getElem (show i < xs.length by omega)
    rw [nodup_step hx, nodup_far i (by omega)]
    constructor
    · rintro ⟨h1, h2⟩ j hj
      by_cases e : j = i
      · subst e
        rw [List.getD, hx]
        exact h2
      · exact h1 j (by omega)
    · intro h
      refine ⟨fun j hj => h j (by omega), ?_⟩
      have := h i (by omega)
      rw [List.getD, hx] at this
      exact this
theorem far_nodup {xs : List Int} : decide (((List.range xs.length).filter fun i => decide (xs.getD i 0 ∈ xs.take i)).length = 0) = decide xs.Nodup := by
  refine decide_eq_decide.mpr ?_
  have := nodup_far (xs := xs) xs.length (Nat.le_refl _)
  rw [List.take_length] at this
  rw [this, List.length_eq_zero_iff, List.filter_eq_nil_iff]
  constructor
  · intro h j hj hm
    exact h j (List.mem_range.mpr hj) (decide_eq_true hm)
  · intro h j hj hm
    exact h j (List.mem_range.mp hj) (of_decide_eq_true hm)
def S__law_apart_due : DSp := fun ds R _ => match ds with
  | [.lst _ es] => ∃ rs : List Pr, IG askD es rs ∧ (rs.length ≤ 10 ∧ ∀ r ∈ rs, r.2.length ≤ 100) ∧ R (.val (.bl (decide (numsM rs).Nodup)))
  | _ => False
set_option maxHeartbeats 0 in
theorem mir__law_apart_due : ∀ ds R X, S__law_apart_due ds R X → M__law_apart_due ds R X := by
  intro ds R X h
  unfold S__law_apart_due at h
  split at h
  · rename_i m es
    obtain ⟨rs, ⟨rfl⟩, ⟨h0, h1⟩, hR⟩ := h
    have hl : (rs.map askD).length = rs.length := List.length_map _
    have hn := nums_len h1
    walk_at "yz"
    refine for_pfold askD rs rfl (fun (acc : List Int) r => acc ++ r.2.map (·.1)) [] (fun acc ρ => ∃ s2 s3, ρ = [.val (.lst m (rs.map askD)), .val (.lst .frz (acc.map D.int)), s2, s3, .no]) ⟨_, _, rfl⟩ ?_ fun ρ h => ?_
    · rintro pre r suf e5 ρ N ⟨s2, s3, rfl⟩ hN
      have hlen : (pre.foldl (fun (acc : List Int) r => acc ++ r.2.map (·.1)) []).length ≤ 100 * pre.length := by
        rw [fold_flat]
        exact flat_len fun x hx => by rw [List.length_map]; exact h1 x (by rw [e5]; simp [hx])
      have hp := mem_split_lt e5
      have h2 := h1 r (by rw [e5]; simp)
      generalize pre.foldl (fun (acc : List Int) r => acc ++ r.2.map (·.1)) [] = acc at hlen hN ⊢
      have hl : (r.2.map stepD).length = r.2.length := List.length_map _
      have e : List.map (fun x : Stp2 => D.int x.1) r.2 = (r.2.map (·.1)).map D.int := by rw [List.map_map]; rfl
      walk_at "yz"
      rw [e, fzs_ints]
      refine ⟨by simp; omega, ?_⟩
      walk_at "yz"
      refine hN _ ⟨.val (askD r), s3, ?_⟩
      rw [fz, fzs_app, fzs_ints, fzs_ints, List.map_append]
      rfl
    · obtain ⟨s2, s3, rfl⟩ := h
      rw [show rs.foldl (fun (acc : List Int) r => acc ++ r.2.map (·.1)) [] = numsM rs by rw [fold_flat]; rfl]
      generalize numsM rs = xs at hn hR ⊢
      have hl2 : (xs.map D.int).length = xs.length := List.length_map _
      rw [← far_nodup] at hR
      walk_at "yz"
      rw [hl2, Int.toNat_natCast]
      refine lc_g (mk := fun i : Nat => D.int i) (xs := List.range xs.length) (c := fun i => decide (xs.getD i 0 ∈ xs.take i)) (g := fun i => D.int i) ⟨rfl⟩ (fun i hi A B hA => ?_) ?_
      · have hi := List.mem_range.mp hi
        have hx := List.getElem?_eq_getElem hi
        rw [List.getD, hx] at hA
        walk_at "yz"
        · rename_i x hx2 hm
          rw [Int.toNat_natCast, hx] at hx2
          cases hx2
          rw [cut_take (by omega), Int.toNat_natCast] at hm
          exact hA.t (decide_eq_true hm)
        · rename_i x hx2 hm
          rw [Int.toNat_natCast, hx] at hx2
          cases hx2
          rw [cut_take (by omega), Int.toNat_natCast] at hm
          exact hA.f (decide_eq_false hm)
      · generalize (List.range xs.length).filter (fun i => decide (xs.getD i 0 ∈ xs.take i)) = ys at hR ⊢
        have hl3 : (ys.map fun i : Nat => D.int i).length = ys.length := List.length_map _
        walk_at "yz"
        rw [hl3, Bool.false_xor, show decide ((ys.length : Int) = 0) = decide (ys.length = 0) from decide_eq_decide.mpr (by omega)]
        exact hR
  · exact h.elim
def Y__law_shared : YS := (sSeq (sAsgF 2 (yP (yLst false (aCons (yCall (starS 0 S_share_no_lot) aNil) (aCons (yCall (starS 0 S_share_no_lot) (aCons (yIxS (yV 0) (yC (.int 0))) aNil)) (aCons (yCall (starS 0 S_share_no_lot) (aCons (yIxS (yV 0) (yC (.int 1))) (aCons (yIxS (yV 0) (yC (.int 2))) aNil))) aNil)))))) (sSeq (sAsgF 2 (yP (yAdd (yV 2) (yLst false (aCons (yCall (starS 0 S_share_no_lot) (aCons (yIxS (yV 0) (yC (.int 0))) (aCons (yIxS (yV 0) (yC (.int 1))) (aCons (yIxS (yV 0) (yC (.int 2))) aNil)))) (aCons (yCall (starS 0 S_share_no_lot) (aCons (yIxS (yV 0) (yC (.int 2))) (aCons (yIxS (yV 0) (yC (.int 2))) aNil))) aNil)))))) (sSeq (sAsgF 2 (yP (yAdd (yV 2) (yLst false (aCons (yCall (starS 0 S_share_no_lot) (aCons (yIxS (yV 0) (yC (.int 2))) (aCons (yIxS (yV 0) (yC (.int 1))) (aCons (yIxS (yV 0) (yC (.int 0))) (aCons (yIxS (yV 0) (yC (.int 0))) (aCons (yIxS (yV 0) (yC (.int 1))) aNil)))))) aNil))))) (sSeq (sAsgF 3 (yP (yLst false (aCons (yC (.bl true)) (aCons (yCall S__law_apart_due (aCons (ySlL (yV 1) none (some (yC (.int 1)))) aNil)) (aCons (yCall S__law_apart_due (aCons (ySlL (yV 1) (some (yC (.int 1))) none) aNil)) (aCons (yCall S__law_apart_due (aCons (yV 1) aNil)) aNil))))))) (sSeq (sAsgF 4 (yP (y2 (fEq false) (yAdd (y1 fLenS (yIxS (yIxS (yV 1) (yC (.int 0))) (yC (.int 1)))) (y1 fLenS (yIxS (yIxS (yV 1) (yC (.int 1))) (yC (.int 1))))) (yC (.int 0))))) (sRet (yP (yCall S__law_same (aCons (yV 2) (aCons (yAdd (yV 3) (yLst false (aCons (y2 (fEq false) (y1 fLenS (yIxS (yIxS (yV 1) (yC (.int 2))) (yC (.int 1)))) (yC (.int 0))) (aCons (yAnd (yV 4) (yCall S__law_apart_due (aCons (ySlL (yV 1) (some (yC (.int 2))) none) aNil))) aNil)))) aNil))))))))))
def M__law_shared : DSp := defP 2 3 Y__law_shared
theorem nodup_twice {n : List Int} : (n ++ n).Nodup ↔ n = [] := by
  cases n with
  | nil => simp
  | cons x n => exact ⟨fun h => ((List.nodup_append.mp h).2.2 x (by simp) x (by simp) rfl).elim, fun h => by cases h⟩
theorem nodup_five {t s r : List Int} : (t ++ (s ++ (r ++ (r ++ s)))).Nodup ↔ (r = [] ∧ s = []) ∧ t.Nodup := by
  constructor
  · intro h
    have h1 := (List.nodup_append.mp h).2.1
    have h2 := (List.nodup_append.mp h1).2.1
    refine ⟨⟨?_, ?_⟩, (List.nodup_append.mp h).1⟩
    · cases r with
      | nil => rfl
      | cons x r => exact ((List.nodup_append.mp h2).2.2 x (by simp) x (by simp) rfl).elim
    · cases s with
      | nil => rfl
      | cons x s => exact ((List.nodup_append.mp h1).2.2 x (by simp) x (by simp) rfl).elim
  · rintro ⟨⟨rfl, rfl⟩, h⟩
    simpa using h
theorem nums_tt {t : Pr} : decide (numsM [t, t]).Nodup = decide ((t.2.length : Int) = 0) := by
  refine decide_eq_decide.mpr ?_
  rw [show numsM [t, t] = t.2.map (·.1) ++ t.2.map (·.1) by simp [numsM], nodup_twice]
  simp
theorem nums_five {t s r : Pr} : (numsM [t, s, r, r, s]).Nodup ↔ (r.2 = [] ∧ s.2 = []) ∧ (numsM [t]).Nodup := by
  rw [show numsM [t, s, r, r, s] = t.2.map (·.1) ++ (s.2.map (·.1) ++ (r.2.map (·.1) ++ (r.2.map (·.1) ++ s.2.map (·.1)))) by simp [numsM], nodup_five]
  simp [numsM]
def S__law_shared : DSp := fun ds R _ => match ds with
  | [.lst _ es, .lst _ fs] => ∃ r s t : Pr, es = [pathF r, pathF s, pathF t] ∧ fs = [askD r, askD s, askD t] ∧ (r.2.length ≤ 50 ∧ s.2.length ≤ 50 ∧ t.2.length ≤ 50) ∧ R (.val (.bl true))
  | _ => False
set_option maxHeartbeats 0 in
theorem mir__law_shared : ∀ ds R X, S__law_shared ds R X → M__law_shared ds R X := by
  intro ds R X h
  unfold S__law_shared at h
  split at h
  · rename_i m es m2 fs
    obtain ⟨r, s, t, rfl, rfl, ⟨h0, h1, h2⟩, hR⟩ := h
    have ok : ∀ rs : List Pr, (∀ q ∈ rs, q = r ∨ q = s ∨ q = t) → ∀ q ∈ rs, q.2.length ≤ 100 := fun rs h q hq => by rcases h q hq with rfl | rfl | rfl <;> omega
    walk_at "yz"
    refine ⟨[], ⟨rfl⟩, ⟨by simp, ok _ (by simp)⟩, ?_⟩
    walk_at "yz"
    refine ⟨[r], ⟨rfl⟩, ⟨by simp, ok _ (by simp)⟩, ?_⟩
    walk_at "yz"
    refine ⟨[s, t], ⟨rfl⟩, ⟨by simp, ok _ (by simp)⟩, ?_⟩
    walk_at "yz"
    refine ⟨[r, s, t], ⟨rfl⟩, ⟨by simp, ok _ (by simp)⟩, ?_⟩
    walk_at "yz"
    refine ⟨[t, t], ⟨rfl⟩, ⟨by simp, ok _ (by simp)⟩, ?_⟩
    walk_at "yz"
    refine ⟨[t, s, r, r, s], ⟨rfl⟩, ⟨by simp, ok _ (by simp)⟩, ?_⟩
    walk_at "yz"
    rw [show cutD [r, s, t] none (some 1) = [r] from rfl]
    refine ⟨⟨by simp, ok _ (by simp)⟩, ?_⟩
    walk_at "yz"
    rw [show cutD [r, s, t] (some 1) none = [s, t] from rfl]
    refine ⟨⟨by simp, ok _ (by simp)⟩, ?_⟩
    walk_at "yz"
    refine ⟨⟨by simp, ok _ (by simp)⟩, ?_⟩
    have key : ∀ b, b = true → R (.val (.bl b)) := fun b e => by rw [e]; exact hR
    walk_at "yz"
    · rename_i hc
      have hc2 : r.2 = [] ∧ s.2 = [] := by
        rw [List.length_map, List.length_map] at hc
        exact ⟨List.length_eq_zero_iff.mp (by omega), List.length_eq_zero_iff.mp (by omega)⟩
      rw [show cutD [r, s, t] (some 2) none = [t] from rfl]
      refine ⟨⟨by simp, ok _ (by simp)⟩, ?_⟩
      walk_at "yz"
      have e5 : (numsM [t, s, r, r, s]).Nodup ↔ (numsM [t]).Nodup := nums_five.trans ⟨fun h => h.2, fun h => ⟨hc2, h⟩⟩
      refine key _ ?_
      simp [arg, sameD, sames, fz, fzs, nums_tt, e5, show (numsM []).Nodup from List.nodup_nil]
    · rename_i hc
      have e5 : ¬ (numsM [t, s, r, r, s]).Nodup := fun h => hc (by
        have := (nums_five.mp h).1
        simp [this.1, this.2])
      refine key _ ?_
      simp [arg, sameD, sames, fz, fzs, nums_tt, e5, show (numsM []).Nodup from List.nodup_nil]
  · exact h.elim
def Y__law_chained : YS := (sSeq (sIf (tP (tE (y2 (fEq false) (y1 fLenS (yV 0)) (yC (.int 0))))) (sRet (yP (yCall (starS 1 S_Path_chain) (aCons (yC (.glb "Path")) aNil)))) sNext) (sSeq (sIf (tP (tE (y2 (fEq false) (y1 fLenS (yV 0)) (yC (.int 1))))) (sRet (yP (yCall (starS 1 S_Path_chain) (aCons (yC (.glb "Path")) (aCons (yIxS (yV 0) (yC (.int 0))) aNil))))) sNext) (sSeq (sIf (tP (tE (y2 (fEq false) (y1 fLenS (yV 0)) (yC (.int 2))))) (sRet (yP (yCall (starS 1 S_Path_chain) (aCons (yC (.glb "Path")) (aCons (yIxS (yV 0) (yC (.int 0))) (aCons (yIxS (yV 0) (yC (.int 1))) aNil)))))) sNext) (sRet (yP (yCall (starS 1 S_Path_chain) (aCons (yC (.glb "Path")) (aCons (yIxS (yV 0) (yC (.int 0))) (aCons (yIxS (yV 0) (yC (.int 1))) (aCons (yIxS (yV 0) (yC (.int 2))) aNil))))))))))
def M__law_chained : DSp := defP 1 0 Y__law_chained
def S__law_chained : DSp := fun ds R X => match ds with
  | [.lst _ es] => ∃ rs : List Pr, IG pathF es rs ∧ (rs.length ≤ 3 ∧ ∀ r ∈ rs, OkQ 50 r) ∧ match chainM rs with
    | some r => R (.val (pathF r))
    | none => X "Mismatch" []
  | _ => False
set_option maxHeartbeats 0 in
theorem mir__law_chained : ∀ ds R X, S__law_chained ds R X → M__law_chained ds R X := by
  intro ds R X h
  unfold S__law_chained at h
  split at h
  · rename_i m es
    obtain ⟨rs, ⟨rfl⟩, ⟨h0, h1⟩, hR⟩ := h
    have go : ∀ l : List Pr, l = rs → ∀ {A : Pr → Prop} {B : Prop}, (∀ r, R (.val (pathF r)) → A r) → (X "Mismatch" [] → B) → ∃ rs : List Pr, IG pathF (l.map pathF) rs ∧ (rs.length ≤ 9 ∧ ∀ r ∈ rs, OkQ 50 r) ∧ match chainM rs with
        | some r => A r
        | none => B := fun l e A B hA hB => by
      subst e
      refine ⟨l, ⟨rfl⟩, ⟨by omega, h1⟩, ?_⟩
      revert hR
      cases chainM l with
      | none => exact hB
      | some r => exact hA r
    match rs, h0, go with
    | [], h0, go => walk_at "yz"; exact go [] rfl (fun r h => by walk_at "yz"; exact h) fun h => by walk_at "yz"; exact h
    | [a], h0, go => walk_at "yz"; exact go [a] rfl (fun r h => by walk_at "yz"; exact h) fun h => by walk_at "yz"; exact h
    | [a, b], h0, go => walk_at "yz"; exact go [a, b] rfl (fun r h => by walk_at "yz"; exact h) fun h => by walk_at "yz"; exact h
    | [a, b, c], h0, go => walk_at "yz"; exact go [a, b, c] rfl (fun r h => by walk_at "yz"; exact h) fun h => by walk_at "yz"; exact h
  · exact h.elim
def Y__law_refused : YS := (sSeq (sTryAs [("Mismatch", true)] 3 (sIf (tP (tTru (yV 1))) (sAsgF 2 (yP (yBinS "Path" (some "Path") S_Path_add (yIxS (yV 0) (yC (.int 0))) (yIxS (yV 0) (yC (.int 1)))))) (sAsgF 2 (yP (yCall S__law_chained (aCons (yV 0) aNil))))) (fun a od cn => (sSeq (sIf (tP (tOr (tTru (yXi [("Mismatch", false)] a od cn 3)) (tTru (yXi [("Mismatch", false)] a od cn 3)))) (sRet (yP (yC (.bl false)))) sNext) (sRet (yP (yAnd (yXi [("Mismatch", true)] a od cn 3) (yXi [("Mismatch", true)] a od cn 3))))))) (sRet (yP (y2 (fLt fun i j => decide (i < j)) (yLenO "Path" S_Path_len (yV 2)) (yC (.int 0))))))
def M__law_refused : DSp := defP 2 2 Y__law_refused
def S__law_refused : DSp := fun ds R _ => match ds with
  | [.lst _ es, .bl b] => ∃ rs : List Pr, IG pathF es rs ∧ (rs.length ≤ 3 ∧ (∀ r ∈ rs, OkQ 50 r) ∧ chainM rs = none ∧ (b = true → ∃ r s, rs = [r, s])) ∧ R (.val (.bl true))
  | _ => False
set_option maxHeartbeats 0 in
theorem mir__law_refused : ∀ ds R X, S__law_refused ds R X → M__law_refused ds R X := by
  intro ds R X h
  unfold S__law_refused at h
  split at h
  · rename_i m es b
    obtain ⟨rs, ⟨rfl⟩, ⟨h0, h1, h2, h3⟩, hR⟩ := h
    have hl : (rs.map pathF).length = rs.length := List.length_map _
    cases b with
    | true =>
      obtain ⟨r, s, rfl⟩ := h3 rfl
      have k1 : OkQ 500 (r.1, r.2) := (h1 r (by simp)).le (by omega)
      have k2 : OkQ 500 (s.1, s.2) := (h1 s (by simp)).le (by omega)
      have h4 : ¬ endM r.1 r.2 = s.1 := fun e => by
        have : chainM [r, s] = if endM r.1 r.2 = s.1 then some (sumM r s) else none := rfl
        rw [if_pos e, h2] at this
        cases this
      walk_at "yz"
      exact hR
    | false =>
      walk_at "yz"
      rw [h2]
      walk_at "yz"
      exact hR
  · exact h.elim
def Y_law_c3 : YS := (sSeq (sAsgF 15 (yP (y2 fMod (y1 fInt (yAdd (yAdd (yCall S__law_end (aCons (yIxS (yV 4) (yC (.int 0))) aNil)) (yC (.int 1))) (yCallN S__law_draw (aCons (yV 1) (aCons (yC (.int 11)) aNil))))) (yC (.int 12))))) (sSeq (sAsgF 16 (yP (yTup (aCons (yV 15) (aCons (yCall S__law_steps (aCons (yV 1) (aCons (yCallN S__law_draw (aCons (yV 1) (aCons (yC (.int 3)) aNil))) (aCons (yV 3) (aCons (yV 2) aNil))))) aNil))))) (sSeq (sAsgF 17 (yP (yMake true [] S_Path_init (aCons (yV 15) (aCons (yListS (yIxS (yV 16) (yC (.int 1)))) aNil))))) (sSeq (sAsgF 18 (yP (yCall S_Path_still (aCons (yCall S__law_end (aCons (yV 16) aNil)) aNil)))) (sSeq (sAsgF 19 (yP (yCall S_Path_still (aCons (y2 fMod (y1 fInt (yAdd (yAdd (yCall S__law_end (aCons (yIxS (yV 4) (yC (.int 1))) aNil)) (yC (.int 1))) (yCallN S__law_draw (aCons (yV 1) (aCons (yC (.int 11)) aNil))))) (yC (.int 12))) aNil)))) (sSeq (sFor (iS (yLst false (aCons (yLst false (aCons (yV 7) (aCons (yV 17) aNil))) (aCons (yLst false (aCons (yV 8) (aCons (yV 19) aNil))) aNil)))) (.nm 20) (sIf (tP (tOr (tNot (tTru (yCall S__law_refused (aCons (yV 20) (aCons (yC (.bl true)) aNil))))) (tNot (tTru (yCall S__law_refused (aCons (yV 20) (aCons (yC (.bl false)) aNil))))))) (sRet (yP (yC (.bl false)))) sNext)) (sSeq (sFor (iS (yLst false (aCons (yLst false aNil) (aCons (yLst false (aCons (yV 7) (aCons (yV 17) (aCons (yV 18) aNil)))) (aCons (yLst false (aCons (yV 7) (aCons (yV 8) (aCons (yV 19) aNil)))) aNil))))) (.nm 20) (sIf (tP (tNot (tTru (yCall S__law_refused (aCons (yV 20) (aCons (yC (.bl false)) aNil)))))) (sRet (yP (yC (.bl false)))) sNext)) (sRet (yP (yCall S__law_are (aCons (yAdd (yLc false [5] (iR1 (yC (.int 3))) (.nm 5) tYes (yTup (aCons (yIxS (yV 6) (yV 5)) (aCons (yIxS (yV 4) (yV 5)) aNil)))) (yLst false (aCons (yTup (aCons (yV 17) (aCons (yV 16) aNil))) (aCons (yTup (aCons (yBinS "Path" (some "Path") S_Path_add (yV 7) (yV 8)) (aCons (yV 10) aNil))) aNil)))) aNil)))))))))))
def Y_law_c1 : YS := (sSeq (sAsgF 7 (yP (yIxS (yV 6) (yC (.int 0))))) (sSeq (sAsgF 8 (yP (yIxS (yV 6) (yC (.int 1))))) (sSeq (sAsgF 9 (yP (yIxS (yV 6) (yC (.int 2))))) (sSeq (sAsgF 10 (yP (yCall S__law_sum (aCons (yIxS (yV 4) (yC (.int 0))) (aCons (yIxS (yV 4) (yC (.int 1))) aNil))))) (sSeq (sAsgF 11 (yP (yCall S__law_sum (aCons (yV 10) (aCons (yIxS (yV 4) (yC (.int 2))) aNil))))) (sSeq (sAsgF 12 (yP (yLst false (aCons (yTup (aCons (yUnS "Path" S_Path_invert (yV 7)) (aCons (yCall S__law_back (aCons (yIxS (yV 4) (yC (.int 0))) aNil)) aNil))) (aCons (yTup (aCons (yUnS "Path" S_Path_invert (yUnS "Path" S_Path_invert (yV 7))) (aCons (yIxS (yV 4) (yC (.int 0))) aNil))) (aCons (yTup (aCons (yUnS "Path" S_Path_invert (yV 9)) (aCons (yCall S__law_back (aCons (yIxS (yV 4) (yC (.int 2))) aNil)) aNil))) (aCons (yTup (aCons (yBinS "Path" (some "Path") S_Path_add (yV 7) (yV 8)) (aCons (yV 10) aNil))) aNil))))))) (sSeq (sAsgF 12 (yP (yAdd (yV 12) (yLst false (aCons (yTup (aCons (yUnS "Path" S_Path_invert (yBinS "Path" (some "Path") S_Path_add (yV 7) (yV 8))) (aCons (yCall S__law_back (aCons (yV 10) aNil)) aNil))) (aCons (yTup (aCons (yBinS "Path" (some "Path") S_Path_add (yUnS "Path" S_Path_invert (yV 8)) (yUnS "Path" S_Path_invert (yV 7))) (aCons (yCall S__law_back (aCons (yV 10) aNil)) aNil))) (aCons (yTup (aCons (yBinS "Path" (some "Path") S_Path_add (yBinS "Path" (some "Path") S_Path_add (yV 7) (yV 8)) (yV 9)) (aCons (yV 11) aNil))) (aCons (yTup (aCons (yBinS "Path" (some "Path") S_Path_add (yV 7) (yBinS "Path" (some "Path") S_Path_add (yV 8) (yV 9))) (aCons (yV 11) aNil))) aNil)))))))) (sSeq (sAsgF 12 (yP (yAdd (yV 12) (yLst false (aCons (yTup (aCons (yCall (starS 1 S_Path_chain) (aCons (yC (.glb "Path")) (aCons (yV 7) (aCons (yV 8) (aCons (yV 9) aNil))))) (aCons (yV 11) aNil))) (aCons (yTup (aCons (yCall (starS 1 S_Path_chain) (aCons (yC (.glb "Path")) (aCons (yV 7) (aCons (yV 8) aNil)))) (aCons (yV 10) aNil))) (aCons (yTup (aCons (yCall (starS 1 S_Path_chain) (aCons (yC (.glb "Path")) (aCons (yV 8) aNil))) (aCons (yIxS (yV 4) (yC (.int 1))) aNil))) aNil))))))) (sSeq (sAsgF 12 (yP (yAdd (yV 12) (yLst false (aCons (yTup (aCons (yBinS "Path" (some "Path") S_Path_add (yCall S_Path_still (aCons (yFl (yV 7) "start") aNil)) (yV 7)) (aCons (yIxS (yV 4) (yC (.int 0))) aNil))) (aCons (yTup (aCons (yBinS "Path" (some "Path") S_Path_add (yV 7) (yCall S_Path_still (aCons (yMethN "Path" "end" S_Path_end (yV 7) aNil) aNil))) (aCons (yIxS (yV 4) (yC (.int 0))) aNil))) aNil)))))) (sSeq (sAsgF 12 (yP (yAdd (yV 12) (yLst false (aCons (yTup (aCons (yCall (starS 1 S_Path_chain) (aCons (yC (.glb "Path")) (aCons (yCall S_Path_still (aCons (yFl (yV 7) "start") aNil)) (aCons (yV 7) (aCons (yCall S_Path_still (aCons (yFl (yV 8) "start") aNil)) aNil))))) (aCons (yIxS (yV 4) (yC (.int 0))) aNil))) aNil))))) (sSeq (sAsgF 12 (yP (yAdd (yV 12) (yLst false (aCons (yTup (aCons (yUnS "Path" S_Path_invert (yCall S_Path_still (aCons (yFl (yV 8) "start") aNil))) (aCons (yTup (aCons (yIxS (yIxS (yV 4) (yC (.int 1))) (yC (.int 0))) (aCons (yLst false aNil) aNil))) aNil))) (aCons (yTup (aCons (yBinS "Path" (some "Path") S_Path_add (yV 7) (yUnS "Path" S_Path_invert (yV 7))) (aCons (yCall S__law_sum (aCons (yIxS (yV 4) (yC (.int 0))) (aCons (yCall S__law_back (aCons (yIxS (yV 4) (yC (.int 0))) aNil)) aNil))) aNil))) aNil)))))) (sSeq (sAsgF 13 (yP (yCall S__law_sum (aCons (yCall S__law_back (aCons (yIxS (yV 4) (yC (.int 2))) aNil)) (aCons (yCall S__law_back (aCons (yIxS (yV 4) (yC (.int 1))) aNil)) aNil))))) (sSeq (sAsgF 12 (yP (yAdd (yV 12) (yLst false (aCons (yTup (aCons (yCall (starS 1 S_Path_chain) (aCons (yC (.glb "Path")) (aCons (yV 7) (aCons (yV 8) (aCons (yV 9) (aCons (yUnS "Path" S_Path_invert (yV 9)) (aCons (yUnS "Path" S_Path_invert (yV 8)) aNil))))))) (aCons (yCall S__law_sum (aCons (yV 11) (aCons (yV 13) aNil))) aNil))) aNil))))) (sSeq (sIf (tP (tNot (tTru (yCall S__law_are (aCons (yV 12) aNil))))) (sRet (yP (yC (.bl false)))) sNext) (sSeq (sAsgF 14 (yP (yTup (aCons (yCmpO "Path" S_Path_eq (yUnS "Path" S_Path_invert (yUnS "Path" S_Path_invert (yV 7))) (yV 7)) (aCons (yCmpO "Path" S_Path_eq (yUnS "Path" S_Path_invert (yBinS "Path" (some "Path") S_Path_add (yV 7) (yV 8))) (yBinS "Path" (some "Path") S_Path_add (yUnS "Path" S_Path_invert (yV 8)) (yUnS "Path" S_Path_invert (yV 7)))) (aCons (yCmpO "Path" S_Path_eq (yBinS "Path" (some "Path") S_Path_add (yBinS "Path" (some "Path") S_Path_add (yV 7) (yV 8)) (yV 9)) (yBinS "Path" (some "Path") S_Path_add (yV 7) (yBinS "Path" (some "Path") S_Path_add (yV 8) (yV 9)))) (aCons (yCmpO "Path" S_Path_eq (yCall (starS 1 S_Path_chain) (aCons (yC (.glb "Path")) (aCons (yV 7) (aCons (yV 8) (aCons (yV 9) aNil))))) (yBinS "Path" (some "Path") S_Path_add (yBinS "Path" (some "Path") S_Path_add (yV 7) (yV 8)) (yV 9))) aNil))))))) (sSeq (sIf (tP (tOr (tNot (tTru (yCall S__law_same (aCons (yV 14) (aCons (yTup (aCons (yC (.bl true)) (aCons (yC (.bl true)) (aCons (yC (.bl true)) (aCons (yC (.bl true)) aNil))))) aNil))))) (tNot (tTru (yCall S__law_shared (aCons (yV 6) (aCons (yV 4) aNil))))))) (sRet (yP (yC (.bl false)))) sNext) (sCut Y_law_c3)))))))))))))))))
def Y_law : YS := (sSeq (sAsgF 1 (yP (yCall S__law_source (aCons (yV 0) aNil)))) (sSeq (sAsgF 2 (yP (yCall S__law_pick (aCons (yV 1) (aCons (yLst false (aCons (yC (.int 3)) (aCons (yC (.int 12)) aNil))) aNil))))) (sSeq (sAsgF 3 (yP (yCall S__law_pick (aCons (yV 1) (aCons (yLst false (aCons (yLst false (aCons (yC (.int 0)) (aCons (yC (.int 7)) (aCons (yC (.int 8)) (aCons (yC (.int 21)) (aCons (yC (.int 39)) aNil)))))) (aCons (yRange (yC (.int 40))) aNil))) aNil))))) (sSeq (sAsg 4 (yP (yLst false (aCons (yTup (aCons (yCallN S__law_draw (aCons (yV 1) (aCons (yV 2) aNil))) (aCons (yCall S__law_steps (aCons (yV 1) (aCons (yCallN S__law_draw (aCons (yV 1) (aCons (yC (.int 5)) aNil))) (aCons (yV 3) (aCons (yV 2) aNil))))) aNil))) aNil)))) (sSeq (sFor (iR1 (yC (.int 2))) (.nm 5) (sApp false (wV 4) (yTup (aCons (yCall S__law_end (aCons (yIxS (yV 4) (yV 5)) aNil)) (aCons (yCall S__law_steps (aCons (yV 1) (aCons (yCallN S__law_draw (aCons (yV 1) (aCons (yC (.int 5)) aNil))) (aCons (yV 3) (aCons (yV 2) aNil))))) aNil))))) (sSeq (sAsgF 6 (yP (yLc false [21] (iE (yV 4)) (.nm 21) tYes (yMakeN true [] S_Path_init (aCons (yIxS (yV 21) (yC (.int 0))) (aCons (yListS (yIxS (yV 21) (yC (.int 1)))) aNil)))))) (sCut Y_law_c1)))))))
def M_law : DSp := defP 1 21 Y_law
def S_law : DSp := fun ds R _ => match ds with
  | [.scr _] => R (.val (.bl true))
  | _ => False
-- PRE
theorem law_c3 {ns ms : List Int} {b z : Int} {r s t : Pr} {x11 x12 x13 x14 x21 : S} {k : Kt} (kr : OkQ 4 r) (ks : OkQ 4 s) (kt : OkQ 4 t) (e1 : endM r.1 r.2 = s.1) (e2 : endM s.1 s.2 = t.1) (hb0 : 0 < b) (hb1 : b ≤ 12) (m0 : 0 < ms.length) (m1 : ms.length ≤ 100) (m2 : ∀ x ∈ ms, 0 ≤ x ∧ x < 40) (hk : ∀ ρ, k.rt (.val (.bl true)) ρ) :
    CutS Y_law_c3 [.val (.scr ns), .val .src, .val (.int b), .val (.lst .frz (ms.map D.int)), .own none (.lst .own [askD r, askD s, askD t]), .val (.int z), .val (.lst .frz [pathF r, pathF s, pathF t]), .val (pathF r), .val (pathF s), .val (pathF t), .val (askD (sumM r s)), x11, x12, x13, x14, .no, .no, .no, .no, .no, .no, x21] k := by
  have g3 : 0 ≤ s.1 := ks.a0
  have g4 : s.1 < 12 := ks.a1
  have g5 : 0 ≤ endM r.1 r.2 := kr.end_.1
  have g6 : endM r.1 r.2 < 12 := kr.end_.2
  have g7 : 0 ≤ endM s.1 s.2 := ks.end_.1
  have g8 : endM s.1 s.2 < 12 := ks.end_.2
  have l1 : r.2.length ≤ 4 := kr.l
  have l2 : s.2.length ≤ 4 := ks.l
  have l3 : t.2.length ≤ 4 := kt.l
  have w1 : (r.2.map stepD).length = r.2.length := List.length_map _
  have w2 : (s.2.map stepD).length = s.2.length := List.length_map _
  have w3 : (t.2.map stepD).length = t.2.length := List.length_map _
  refine ⟨?_⟩
  walk_at "yz"
  rename_i j j0 j1 n n0 n1 st sl sp
  have v0 : 0 ≤ (endM r.1 r.2 + 1 + j) % 12 := by omega
  have v1 : (endM r.1 r.2 + 1 + j) % 12 < 12 := by omega
  have vne : ¬ endM r.1 r.2 = (endM r.1 r.2 + 1 + j) % 12 := by omega
  generalize (endM r.1 r.2 + 1 + j) % 12 = N at v0 v1 vne ⊢
  have l4 : st.length ≤ 4 := by omega
  have sp2 : ∀ x ∈ st, 0 ≤ x.1 ∧ x.1 < 40 ∧ 0 ≤ x.2 ∧ x.2 < 12 := fun x hx => by
    have := sp x hx
    have := m2 _ this.1
    omega
  have kn : OkQ 4 (N, st) := ⟨v0, v1, l4, sp2⟩
  have w4 : (st.map stepD).length = st.length := List.length_map _
  have u0 : 0 ≤ endM N st := kn.end_.1
  have u1 : endM N st < 12 := kn.end_.2
  refine ⟨⟨v0, v1, by omega, sp2⟩, ?_⟩
  walk_at "yz"
  rename_i i i0 i1
  have y0 : 0 ≤ (endM s.1 s.2 + 1 + i) % 12 := by omega
  have y1 : (endM s.1 s.2 + 1 + i) % 12 < 12 := by omega
  have yne : ¬ endM s.1 s.2 = (endM s.1 s.2 + 1 + i) % 12 := by omega
  generalize (endM s.1 s.2 + 1 + i) % 12 = M at y0 y1 yne ⊢
  have f1 : OkQ 50 r := kr.le (by omega)
  have f2 : OkQ 50 s := ks.le (by omega)
  have f3 : OkQ 50 (N, st) := kn.le (by omega)
  have f4 : OkQ 50 (M, []) := ⟨y0, y1, by simp, fun x hx => by cases hx⟩
  have f5 : OkQ 50 (endM N st, []) := ⟨u0, u1, by simp, fun x hx => by cases hx⟩
  have kr5 : OkQ 500 (r.1, r.2) := kr.le (by omega)
  have ks5 : OkQ 500 (s.1, s.2) := ks.le (by omega)
  rw [fz_pathM]
  have c1 : chainM [r, (N, st)] = none := by simp [chainM, chainF, vne]
  have c2 : chainM [s, (M, [])] = none := by simp [chainM, chainF, yne]
  have c3 : chainM [r, (N, st), (endM N st, [])] = none := by simp [chainM, chainF, vne]
  have c4 : chainM [r, s, (M, [])] = none := by
    have : endM (sumM r s).1 (sumM r s).2 = endM s.1 s.2 := by
      show endM r.1 (r.2 ++ s.2) = _
      rw [endM_app, e1]
    simp [chainM, chainF, e1, this, yne]
  refine for_each badD [[r, (N, st)], [s, (M, [])]] rfl (fun ρ => ∃ x20, ρ = [.val (.scr ns), .val .src, .val (.int b), .val (.lst .frz (ms.map D.int)), .own none (.lst .own [askD r, askD s, askD t]), .val (.int z), .val (.lst .frz [pathF r, pathF s, pathF t]), .val (pathF r), .val (pathF s), .val (pathF t), .val (askD (sumM r s)), x11, x12, x13, x14, .val (.int N), .val (askD (N, st)), .val (pathF (N, st)), .val (pathF (endM N st, [])), .val (pathF (M, [])), x20, x21]) (fun _ => True) ⟨_, rfl⟩ ?_ ?_
  · rintro x hx ρ Nn ⟨x20, rfl⟩ hN
    have hb : x.length ≤ 3 ∧ (∀ r ∈ x, OkQ 50 r) ∧ chainM x = none ∧ ∃ r s, x = [r, s] := by
      simp only [List.mem_cons, List.not_mem_nil, or_false] at hx
      rcases hx with rfl | rfl
      · refine ⟨by simp, fun q hq => ?_, c1, _, _, rfl⟩
        simp only [List.mem_cons, List.not_mem_nil, or_false] at hq
        rcases hq with rfl | rfl <;> assumption
      · refine ⟨by simp, fun q hq => ?_, c2, _, _, rfl⟩
        simp only [List.mem_cons, List.not_mem_nil, or_false] at hq
        rcases hq with rfl | rfl <;> assumption
    obtain ⟨b1, b2, b3, b4⟩ := hb
    unfold badD
    walk_at "yz"
    refine ⟨⟨b1, b2, b3, fun _ => b4⟩, ?_⟩
    walk_at "yz"
    exact hN trivial _ ⟨_, rfl⟩
  · rintro ρ ⟨x20, rfl⟩ _
    walk_at "yz"
    refine for_each badD [[], [r, (N, st), (endM N st, [])], [r, s, (M, [])]] rfl (fun ρ => ∃ x20, ρ = [.val (.scr ns), .val .src, .val (.int b), .val (.lst .frz (ms.map D.int)), .own none (.lst .own [askD r, askD s, askD t]), .val (.int z), .val (.lst .frz [pathF r, pathF s, pathF t]), .val (pathF r), .val (pathF s), .val (pathF t), .val (askD (sumM r s)), x11, x12, x13, x14, .val (.int N), .val (askD (N, st)), .val (pathF (N, st)), .val (pathF (endM N st, [])), .val (pathF (M, [])), x20, x21]) (fun _ => True) ⟨_, rfl⟩ ?_ ?_
    · rintro x hx ρ Nn ⟨x20, rfl⟩ hN
      have hb : x.length ≤ 3 ∧ (∀ r ∈ x, OkQ 50 r) ∧ chainM x = none := by
        simp only [List.mem_cons, List.not_mem_nil, or_false] at hx
        rcases hx with rfl | rfl | rfl
        · exact ⟨by simp, fun q hq => (by cases hq), rfl⟩
        · refine ⟨by simp, fun q hq => ?_, c3⟩
          simp only [List.mem_cons, List.not_mem_nil, or_false] at hq
          rcases hq with rfl | rfl | rfl <;> assumption
        · refine ⟨by simp, fun q hq => ?_, c4⟩
          simp only [List.mem_cons, List.not_mem_nil, or_false] at hq
          rcases hq with rfl | rfl | rfl <;> assumption
      obtain ⟨b1, b2, b3⟩ := hb
      unfold badD
      walk_at "yz"
      exact hN trivial _ ⟨_, rfl⟩
    · rintro ρ ⟨x20, rfl⟩ _
      walk_at "yz"
      refine lc_g (mk := fun i : Nat => D.int i) (xs := List.range 3) (c := fun _ => true) (g := fun i => oneD ([r, s, t].getD i r)) ⟨rfl⟩ (fun i hi A B hA => ?_) ?_
      · have hA := hA.t rfl
        have hi := List.mem_range.mp hi
        walk_at "yz"
        refine ex_atg (mk := pathF) (xs := [r, s, t]) (by omega) (by simp; omega) fun x hx => ?_
        walk_at "yz"
        refine ex_atg (mk := askD) (xs := [r, s, t]) (by omega) (by simp; omega) fun y hy => ?_
        walk_at "yz"
        rw [Int.toNat_natCast] at hx hy
        cases hx.symm.trans hy
        rw [List.getD, hx] at hA
        exact hA
      · rw [filter_true, show List.map (fun i => oneD ([r, s, t].getD i r)) (List.range 3) = [oneD r, oneD s, oneD t] from rfl]
        walk_at "yz"
        refine ⟨[r, s, t, (N, st), sumM r s], ⟨rfl⟩, ⟨by simp, fun x hx => ?_⟩, ?_⟩
        · have h1 : (sumM r s).2.length ≤ 1000 := by show (r.2 ++ s.2).length ≤ 1000; rw [List.length_append]; omega
          have h2 : r.2.length ≤ 1000 := by omega
          have h3 : s.2.length ≤ 1000 := by omega
          have h4 : t.2.length ≤ 1000 := by omega
          have h5 : ((N, st) : Pr).2.length ≤ 1000 := by show st.length ≤ 1000; omega
          simp only [List.mem_cons, List.not_mem_nil, or_false] at hx
          rcases hx with rfl | rfl | rfl | rfl | rfl <;> assumption
        walk_at "yz"
        exact hk _
theorem law_c1 {ns ms : List Int} {b z : Int} {r s t : Pr} {k : Kt} (kr : OkQ 4 r) (ks : OkQ 4 s) (kt : OkQ 4 t) (e1 : endM r.1 r.2 = s.1) (e2 : endM s.1 s.2 = t.1) (hb0 : 0 < b) (hb1 : b ≤ 12) (m0 : 0 < ms.length) (m1 : ms.length ≤ 100) (m2 : ∀ x ∈ ms, 0 ≤ x ∧ x < 40) (hk : ∀ ρ, k.rt (.val (.bl true)) ρ) :
    CutS Y_law_c1 [.val (.scr ns), .val .src, .val (.int b), .val (.lst .frz (ms.map D.int)), .own none (.lst .own [askD r, askD s, askD t]), .val (.int z), .val (.lst .frz [pathF r, pathF s, pathF t]), .no, .no, .no, .no, .no, .no, .no, .no, .no, .no, .no, .no, .no, .no, .no] k := by
  have kr5 : OkQ 500 (r.1, r.2) := kr.le (by omega)
  have ks5 : OkQ 500 (s.1, s.2) := ks.le (by omega)
  have kt5 : OkQ 500 (t.1, t.2) := kt.le (by omega)
  have kr1 : OkQ 1000 (r.1, r.2) := kr.le (by omega)
  have ks1 : OkQ 1000 (s.1, s.2) := ks.le (by omega)
  have kt1 : OkQ 1000 (t.1, t.2) := kt.le (by omega)
  have krs5 : OkQ 500 (r.1, r.2 ++ s.2) := (kr.sum ks).le (by omega)
  have krs1 : OkQ 1000 (r.1, r.2 ++ s.2) := (kr.sum ks).le (by omega)
  have kst5 : OkQ 500 (s.1, s.2 ++ t.2) := (ks.sum kt).le (by omega)
  have br5 : OkQ 500 (backM (r.1, r.2)) := kr5.back
  have bs5 : OkQ 500 (backM (s.1, s.2)) := ks5.back
  have bt5 : OkQ 500 (backM (t.1, t.2)) := kt5.back
  have br1 : OkQ 1000 (backM (r.1, r.2)) := kr1.back
  have e3 : endM r.1 (r.2 ++ s.2) = t.1 := by rw [endM_app, e1, e2]
  have e4 : endM (backM (s.1, s.2)).1 (backM (s.1, s.2)).2 = (backM (r.1, r.2)).1 := by
    show endM (endM s.1 s.2) (backL s.1 s.2) = endM r.1 r.2
    rw [endM_back, e1]
  have l1 : r.2.length ≤ 4 := kr.l
  have l2 : s.2.length ≤ 4 := ks.l
  have l3 : t.2.length ≤ 4 := kt.l
  have q1 : (sumM r s).2.length ≤ 1000 := by show (r.2 ++ s.2).length ≤ 1000; rw [List.length_append]; omega
  have q2 : (sumM (sumM r s) t).2.length ≤ 1000 := by show (r.2 ++ s.2 ++ t.2).length ≤ 1000; rw [List.length_append, List.length_append]; omega
  have q3 : (backM (r.1, r.2)).2.length ≤ 1000 := Nat.le_trans br5.l (by omega)
  have q4 : (backM (s.1, s.2)).2.length ≤ 1000 := Nat.le_trans bs5.l (by omega)
  have q5 : (backM (t.1, t.2)).2.length ≤ 1000 := Nat.le_trans bt5.l (by omega)
  have q6 : (sumM (backM (t.1, t.2)) (backM (s.1, s.2))).2.length ≤ 1000 := by
    have h1 : (backM (t.1, t.2)).2.length = t.2.length := backL_len
    have h2 : (backM (s.1, s.2)).2.length = s.2.length := backL_len
    show ((backM (t.1, t.2)).2 ++ (backM (s.1, s.2)).2).length ≤ 1000
    rw [List.length_append]; omega
  have w1 : (r.2.map stepD).length = r.2.length := List.length_map _
  have w2 : (s.2.map stepD).length = s.2.length := List.length_map _
  have w3 : (t.2.map stepD).length = t.2.length := List.length_map _
  have g1 : 0 ≤ r.1 := kr.a0
  have g2 : r.1 < 12 := kr.a1
  have g3 : 0 ≤ s.1 := ks.a0
  have g4 : s.1 < 12 := ks.a1
  have g5 : 0 ≤ endM r.1 r.2 := kr.end_.1
  have g6 : endM r.1 r.2 < 12 := kr.end_.2
  have f1 : OkQ 50 r := kr.le (by omega)
  have f2 : OkQ 50 s := ks.le (by omega)
  have f3 : OkQ 50 t := kt.le (by omega)
  have f4 : OkQ 50 (r.1, []) := ⟨kr.a0, kr.a1, by simp, fun x hx => by cases hx⟩
  have f5 : OkQ 50 (s.1, []) := ⟨ks.a0, ks.a1, by simp, fun x hx => by cases hx⟩
  have f6 : OkQ 50 (backM (t.1, t.2)) := f3.back
  have f7 : OkQ 50 (backM (s.1, s.2)) := f2.back
  have f8 : OkQ 500 (r.1, []) := f4.le (by omega)
  have f9 : OkQ 500 (endM r.1 r.2, []) := ⟨kr.end_.1, kr.end_.2, by simp, fun x hx => by cases hx⟩
  have f10 : OkQ 1000 (s.1, []) := f5.le (by omega)
  have c1 : chainM [r, s, t] = some (sumM (sumM r s) t) := by
    simp [chainM, chainF, e1, show endM (sumM r s).1 (sumM r s).2 = t.1 from e3]
  have c2 : chainM [r, s] = some (sumM r s) := by simp [chainM, chainF, e1]
  have c3 : chainM [s] = some s := rfl
  have c4 : chainM [(r.1, []), r, (s.1, [])] = some r := by simp [chainM, chainF, sumM, endM, e1]
  have e5 : endM (sumM (sumM r s) t).1 (sumM (sumM r s) t).2 = endM t.1 t.2 := by
    show endM r.1 (r.2 ++ s.2 ++ t.2) = _
    rw [endM_app, e3]
  have e6 : endM (sumM (sumM (sumM r s) t) (backM (t.1, t.2))).1 (sumM (sumM (sumM r s) t) (backM (t.1, t.2))).2 = t.1 := by
    show endM r.1 (r.2 ++ s.2 ++ t.2 ++ backL t.1 t.2) = _
    rw [endM_app, show endM r.1 (r.2 ++ s.2 ++ t.2) = endM t.1 t.2 from e5, endM_back]
  have c5 : chainM [r, s, t, backM (t.1, t.2), backM (s.1, s.2)] = some (sumM (sumM (sumM (sumM r s) t) (backM (t.1, t.2))) (backM (s.1, s.2))) := by
    simp [chainM, chainF, e1, show endM (sumM r s).1 (sumM r s).2 = t.1 from e3, show endM (sumM (sumM r s) t).1 (sumM (sumM r s) t).2 = (backM (t.1, t.2)).1 from e5, show endM (sumM (sumM (sumM r s) t) (backM (t.1, t.2))).1 (sumM (sumM (sumM r s) t) (backM (t.1, t.2))).2 = (backM (s.1, s.2)).1 from e6.trans e2.symm]
  refine ⟨?_⟩
  walk_at "yz"
  refine ⟨[r, s, t], ⟨rfl⟩, ⟨by simp, fun x hx => ?_⟩, ?_⟩
  · simp only [List.mem_cons, List.not_mem_nil, or_false] at hx
    rcases hx with rfl | rfl | rfl <;> assumption
  rw [c1]
  walk_at "yz"
  refine ⟨[r, s], ⟨rfl⟩, ⟨by simp, fun x hx => ?_⟩, ?_⟩
  · simp only [List.mem_cons, List.not_mem_nil, or_false] at hx
    rcases hx with rfl | rfl <;> assumption
  rw [c2]
  walk_at "yz"
  refine ⟨[s], ⟨rfl⟩, ⟨by simp, fun x hx => ?_⟩, ?_⟩
  · simp only [List.mem_cons, List.not_mem_nil, or_false] at hx
    rcases hx with rfl <;> assumption
  rw [c3]
  walk_at "yz"
  refine ⟨[(r.1, []), r, (s.1, [])], ⟨rfl⟩, ⟨by simp, fun x hx => ?_⟩, ?_⟩
  · simp only [List.mem_cons, List.not_mem_nil, or_false] at hx
    rcases hx with rfl | rfl | rfl <;> assumption
  rw [c4]
  walk_at "yz"
  refine ⟨[r, s, t, backM (t.1, t.2), backM (s.1, s.2)], ⟨rfl⟩, ⟨by simp, fun x hx => ?_⟩, ?_⟩
  · simp only [List.mem_cons, List.not_mem_nil, or_false] at hx
    rcases hx with rfl | rfl | rfl | rfl | rfl <;> assumption
  rw [c5]
  walk_at "yz"
  have d2 : backM ((backM (r.1, r.2)).1, (backM (r.1, r.2)).2) = r := back_back
  have d6 : ((backM (s.1, s.2)).1, (backM (s.1, s.2)).2 ++ (backM (r.1, r.2)).2) = backM (sumM r s) := by
    show (endM s.1 s.2, backL s.1 s.2 ++ backL r.1 r.2) = (endM r.1 (r.2 ++ s.2), backL r.1 (r.2 ++ s.2))
    rw [endM_app, backL_app, e1]
  have d8 : (r.1, r.2 ++ (s.2 ++ t.2)) = sumM (sumM r s) t := by
    show _ = (r.1, r.2 ++ s.2 ++ t.2)
    rw [List.append_assoc]
  have d9 : sumM (sumM (sumM (sumM r s) t) (backM (t.1, t.2))) (backM (s.1, s.2)) = sumM (sumM (sumM r s) t) (sumM (backM (t.1, t.2)) (backM (s.1, s.2))) := by
    show ((sumM (sumM r s) t).1, (sumM (sumM r s) t).2 ++ (backM (t.1, t.2)).2 ++ (backM (s.1, s.2)).2) = ((sumM (sumM r s) t).1, (sumM (sumM r s) t).2 ++ ((backM (t.1, t.2)).2 ++ (backM (s.1, s.2)).2))
    rw [List.append_assoc]
  have h7 : (backM (sumM r s)).2.length ≤ 1000 := by
    rw [show (backM (sumM r s)).2.length = (sumM r s).2.length from backL_len]
    exact q1
  have h8 : (sumM r (backM (r.1, r.2))).2.length ≤ 1000 := by
    show (r.2 ++ (backM (r.1, r.2)).2).length ≤ 1000
    rw [List.length_append, show (backM (r.1, r.2)).2.length = r.2.length from backL_len]
    omega
  have h9 : (sumM (sumM (sumM r s) t) (sumM (backM (t.1, t.2)) (backM (s.1, s.2)))).2.length ≤ 1000 := by
    show (r.2 ++ s.2 ++ t.2 ++ ((backM (t.1, t.2)).2 ++ (backM (s.1, s.2)).2)).length ≤ 1000
    rw [List.length_append, List.length_append, List.length_append, List.length_append, show (backM (t.1, t.2)).2.length = t.2.length from backL_len, show (backM (s.1, s.2)).2.length = s.2.length from backL_len]
    omega
  have h10 : r.2.length ≤ 1000 := by omega
  have h11 : s.2.length ≤ 1000 := by omega
  have h12 : ((s.1, []) : Pr).2.length ≤ 1000 := by simp
  rw [d2, d6, d8, d9]
  refine ⟨[backM (r.1, r.2), r, backM (t.1, t.2), sumM r s, backM (sumM r s), backM (sumM r s), sumM (sumM r s) t, sumM (sumM r s) t, sumM (sumM r s) t, sumM r s, s, r, r, r, (s.1, []), sumM r (backM (r.1, r.2)), sumM (sumM (sumM r s) t) (sumM (backM (t.1, t.2)) (backM (s.1, s.2)))], ⟨rfl⟩, ⟨by simp, fun x hx => ?_⟩, ?_⟩
  · simp only [List.mem_cons, List.not_mem_nil, or_false] at hx
    rcases hx with rfl | rfl | rfl | rfl | rfl | rfl | rfl | rfl | rfl | rfl | rfl | rfl | rfl | rfl | rfl | rfl | rfl <;> assumption
  walk_at "yz"
  refine ⟨.frz, .frz, r.1, r.2, congrArg pathF d2, rfl, h10, ?_⟩
  walk_at "yz"
  refine ⟨.frz, .frz, (backM (sumM r s)).1, (backM (sumM r s)).2, rfl, congrArg pathF d6, h7, ?_⟩
  walk_at "yz"
  refine ⟨.frz, .frz, r.1, r.2 ++ s.2 ++ t.2, rfl, congrArg pathF d8, q2, ?_⟩
  walk_at "yz"
  refine ⟨[r, s, t], ⟨rfl⟩, ⟨by simp, fun x hx => ?_⟩, ?_⟩
  · simp only [List.mem_cons, List.not_mem_nil, or_false] at hx
    rcases hx with rfl | rfl | rfl <;> assumption
  rw [c1]
  walk_at "yz"
  refine ⟨.frz, .frz, r.1, r.2 ++ s.2 ++ t.2, rfl, rfl, q2, ?_⟩
  walk_at "yz"
  refine ⟨r, s, t, rfl, rfl, ⟨by omega, by omega, by omega⟩, ?_⟩
  walk_at "yz"
  exact law_c3 kr ks kt e1 e2 hb0 hb1 m0 m1 m2 hk
-- END
set_option maxHeartbeats 0 in
theorem mir_law : ∀ ds R X, S_law ds R X → M_law ds R X := by
  intro ds R X h
  unfold S_law at h
  split at h
  · rename_i ns
    walk_at "yz"
    rename_i b hb
    have hb0 : 0 < b ∧ b ≤ 12 := by
      simp at hb
      omega
    refine All.rows (ys := [[0, 7, 8, 21, 39], (List.range 40).map fun i : Nat => (i : Int)]) ⟨by rfl⟩ fun ms hm => ?_
    have hms : (0 < ms.length ∧ ms.length ≤ 100) ∧ ∀ x ∈ ms, 0 ≤ x ∧ x < 40 := by
      rcases List.mem_cons.mp hm with rfl | hm
      · decide
      · rw [List.mem_singleton.mp hm]
        decide
    obtain ⟨⟨m0, m1⟩, m2⟩ := hms
    clear hm hb
    unfold mkL
    walk_at "yz"
    rw [show List.map (fun i : Nat => D.int i) (List.range (Int.toNat 2)) = [D.int 0, D.int 1] from rfl]
    walk_at "yu"
    rename_i j j0 j1 n1 a1 b1 st1 l1 p1 n2 a2 b2 st2 l2 p2 n3 a3 b3 st3 l3 p3
    have ok1 : OkQ 4 (j, st1) := ⟨j0, by show j < 12; omega, by show st1.length ≤ 4; omega, fun x hx => by have := p1 x hx; have := m2 _ this.1; omega⟩
    have ok2 : OkQ 4 (endM j st1, st2) := ⟨ok1.end_.1, ok1.end_.2, by show st2.length ≤ 4; omega, fun x hx => by have := p2 x hx; have := m2 _ this.1; omega⟩
    have ok3 : OkQ 4 (endM (endM j st1) st2, st3) := ⟨ok2.end_.1, ok2.end_.2, by show st3.length ≤ 4; omega, fun x hx => by have := p3 x hx; have := m2 _ this.1; omega⟩
    have hw : ∀ st : List Stp2, (st.map stepD).length = st.length := fun st => List.length_map _
    refine lc_g (mk := askD) (xs := [(j, st1), (endM j st1, st2), (endM (endM j st1) st2, st3)]) (c := fun _ => true) (g := pathF) ⟨rfl⟩ (fun x hx A B hA => ?_) ?_
    · have hA := hA.t rfl
      have okx : OkQ 4 x := by
        simp at hx
        rcases hx with rfl | rfl | rfl
        · exact ok1
        · exact ok2
        · exact ok3
      have x0 : 0 ≤ x.1 := okx.a0
      have x1 : x.1 < 12 := okx.a1
      have x2 : x.2.length ≤ 1000 := (okx.le (by omega : 4 ≤ 1000)).l
      have x3 := okx.m
      have hl : (x.2.map stepD).length = x.2.length := List.length_map _
      walk_at "yz"
      rw [fz_pathM]
      exact hA
    · rw [filter_true]
      walk_at "yz"
      exact law_c1 (r := (j, st1)) (s := (endM j st1, st2)) (t := (endM (endM j st1) st2, st3)) ok1 ok2 ok3 rfl rfl hb0.1 hb0.2 m0 m1 m2 fun ρ => by walk_at "yz"; exact h
  · exact h.elim
end Y
namespace Y
open PySem PySem.Spec PyProof.Rows L2
variable {P : Program} {w : World} {K : PySem.W.Frag} {mg : Str → Option Value} {base : Heap} {T : Tb}
def top (i : Nat) : Stmt := PySem.Challenge.pw_lotsintrees_k21_whole_algebra_of_paths.main.body.getD i (.Pass ⟨0, 0, 0, 0⟩)
abbrev st__law_source : Stmt := (top 16)
theorem sc__law_source : FnScope ["script"] ["script"] (defScope st__law_source) := ⟨rfl, rfl, rfl, by decide +kernel, rfl, by decide +kernel, by decide +kernel⟩
theorem ok__law_source {f : Addr} {fd : FuncData} (F : Fun K "_law_source" "_law_source" st__law_source f fd) (nb_list : mg "list" = none) :
    FnOk P w K mg base (L2N.CX P w) 1 f fd ["script"] (spP K T S__law_source) := by
  refine FnOk.imp ?_ (spP_imp mir__law_source)
  exact fn_P F sc__law_source rfl rfl (fun cdv A outer s H E hr => ⟨_, (pss_one (ps_ret (pe_src (pe_lst (pa_cons (pe_callTy (show CallR _ (.type "list") (rListZ K) from call_listZ) (by rfl) nb_list (by decide +kernel) (pa_cons (pv 0) pa_nil)) (pa_cons pe_int (pa_cons pe_int (pa_cons pe_int (pa_cons pe_int (pa_cons pe_bl pa_nil)))))))))), by
    unfold Y__law_source
    exact (ss_ret (se_p (sp_src (sp_lst (sa_cons (sp_listScr (sp_v (i := 0))) (sa_cons sp_int (sa_cons sp_int (sa_cons sp_int (sa_cons sp_int (sa_cons sp_bl sa_nil)))))) (by decide)))))⟩)
abbrev st__law_mixed : Stmt := (top 17)
theorem sc__law_mixed : FnScope ["cell", "turn", "first", "second"] ["cell", "turn"] (defScope st__law_mixed) := ⟨rfl, rfl, rfl, by decide +kernel, rfl, by decide +kernel, by decide +kernel⟩
theorem ok__law_mixed {f : Addr} {fd : FuncData} (F : Fun K "_law_mixed" "_law_mixed" st__law_mixed f fd) (nb_int : mg "int" = none) :
    FnOk P w K mg base (L2N.CX P w) 1 f fd ["cell", "turn"] (spP K T S__law_mixed) := by
  refine FnOk.imp ?_ (spP_imp mir__law_mixed)
  exact fn_P F sc__law_mixed rfl rfl (fun cdv A outer s H E hr => ⟨_, (pss_cons (ps_set (i := 2) sc__law_mixed.nd rfl (Or.inl rfl) (pe_op (show OpR _ (binaryOp .Mod) rModZ from op_modZ) (pe_callTy (show CallR _ (.type "int") rIntZ from call_intZ) (by rfl) nb_int (by decide +kernel) (pa_cons (pe_op (show OpR _ (binaryOp .Add) (rAddZ K) from op_addZ) (pe_op (show OpR _ (binaryOp .Add) (rAddZ K) from op_addZ) (pe_op (show OpR _ (binaryOp .Mult) rMulZ from op_mulZ) (pv 0) pe_int) (pe_op (show OpR _ (binaryOp .Mult) rMulZ from op_mulZ) (pv 1) pe_int)) pe_int) pa_nil)) pe_int)) (pss_cons (ps_set (i := 3) sc__law_mixed.nd rfl (Or.inl rfl) (pe_op (show OpR _ (binaryOp .Mod) rModZ from op_modZ) (pe_callTy (show CallR _ (.type "int") rIntZ from call_intZ) (by rfl) nb_int (by decide +kernel) (pa_cons (pe_op (show OpR _ (binaryOp .Add) (rAddZ K) from op_addZ) (pe_op (show OpR _ (binaryOp .Add) (rAddZ K) from op_addZ) (pe_op (show OpR _ (binaryOp .Mult) rMulZ from op_mulZ) (pv 2) pe_int) (pe_op (show OpR _ (binaryOp .FloorDiv) rDivZ from op_divZ) (pv 2) pe_int)) (pe_op (show OpR _ (binaryOp .Mult) rMulZ from op_mulZ) (pv 1) pe_int)) pa_nil)) pe_int)) (pss_one (ps_ret (pe_op (show OpR _ (binaryOp .Mod) rModZ from op_modZ) (pe_callTy (show CallR _ (.type "int") rIntZ from call_intZ) (by rfl) nb_int (by decide +kernel) (pa_cons (pe_op (show OpR _ (binaryOp .Add) (rAddZ K) from op_addZ) (pe_op (show OpR _ (binaryOp .Mult) rMulZ from op_mulZ) (pv 3) (pv 3)) (pv 2)) pa_nil)) pe_int))))), by
    unfold Y__law_mixed
    exact (ss_seq (ss_asgF (se_p (sp_2 ops_mod (sp_intc (sp_add (sp_add (sp_2 ops_mul (sp_v (i := 0)) sp_int) (sp_2 ops_mul (sp_v (i := 1)) sp_int)) sp_int)) sp_int))) (ss_seq (ss_asgF (se_p (sp_2 ops_mod (sp_intc (sp_add (sp_add (sp_2 ops_mul (sp_v (i := 2)) sp_int) (sp_2 ops_div (sp_v (i := 2)) sp_int)) (sp_2 ops_mul (sp_v (i := 1)) sp_int))) sp_int))) (ss_ret (se_p (sp_2 ops_mod (sp_intc (sp_add (sp_2 ops_mul (sp_v (i := 3)) (sp_v (i := 3))) (sp_v (i := 2)))) sp_int)))))⟩)
abbrev st__law_draw : Stmt := (top 18)
theorem sc__law_draw : FnScope ["source", "limit", "told"] ["source", "limit"] (defScope st__law_draw) := ⟨rfl, rfl, rfl, by decide +kernel, rfl, by decide +kernel, by decide +kernel⟩
theorem ok__law_draw {f : Addr} {fd : FuncData} (F : Fun K "_law_draw" "_law_draw" st__law_draw f fd) {f__law_mixed : Addr} {fd__law_mixed : FuncData} (C__law_mixed : Cal P w K mg base (L2N.CX P w) 1 "_law_mixed" ["cell", "turn"] (spP K T S__law_mixed) f__law_mixed fd__law_mixed) (nb_int : mg "int" = none) (nb_len : mg "len" = none) :
    FnOk P w K mg base CX0 2 f fd ["source", "limit"] (spP K T S__law_draw) := by
  refine FnOk.imp ?_ (spP_imp mir__law_draw)
  exact fn_O F sc__law_draw rfl rfl (fun is R h => h) (fun cdv A outer s H E hr => ⟨_, (pss_cons (ps_if (pt_cmpR (show OpR _ (compareOp .Eq) (rEqP K) from (op_eqP hr.units)) (pe_ix (show IxR _ (rIx K) from ix_seq) (pv 0) pe_int (fun _ _ => rfl)) pe_int (nomark _)) (pss_cons (ps_if (pt_cmpR (show OpR _ (compareOp .GtE) rGeI from op_geI) (pe_ix (show IxR _ (rIx K) from ix_seq) (pv 0) pe_int (fun _ _ => rfl)) (pe_callB (show CallR _ (.builtin "len") (rLenZ K) from call_lenZ) (by rfl) nb_len (by decide +kernel) (pa_cons (pe_ix (show IxR _ (rIx K) from ix_seq) (pv 0) pe_int (fun _ _ => rfl)) pa_nil)) (nomark _)) (pss_one (ps_ret pe_int)) pss_nil) (pss_cons (ps_asg (pe_ix (show IxR _ (rIx K) from ix_seq) (pe_ix (show IxR _ (rIx K) from ix_seq) (pv 0) pe_int (fun _ _ => rfl)) (pe_ix (show IxR _ (rIx K) from ix_seq) (pv 0) pe_int (fun _ _ => rfl)) (fun _ _ => rfl)) (pg_sub (pv 0) pe_int set_list)) (pss_cons (ps_asg (pe_op (show OpR _ (binaryOp .Add) (rAddZ K) from op_addZ) (pe_ix (show IxR _ (rIx K) from ix_seq) (pv 0) pe_int (fun _ _ => rfl)) pe_int) (pg_sub (pv 0) pe_int set_list)) (pss_cons (ps_asg (pe_cmpR (show OpR _ (compareOp .GtE) rGeI from op_geI) (pe_ix (show IxR _ (rIx K) from ix_seq) (pv 0) pe_int (fun _ _ => rfl)) (pe_op (show OpR _ (binaryOp .Pow) rPowZ from op_powZ) pe_int pe_int) (nomark _)) (pg_sub (pv 0) pe_int set_list)) (pss_cons (ps_asg pe_int (pg_sub (pv 0) pe_int set_list)) (pss_one (ps_if (pt_truK K rfl (pe_ix (show IxR _ (rIx K) from ix_seq) (pv 0) pe_int (fun _ _ => rfl)) (by intro _; rfl)) (pss_one (ps_asg pe_int (pg_sub (pv 0) pe_int set_list))) pss_nil))))))) pss_nil) (pss_cons (ps_asg (pe_op (show OpR _ (binaryOp .Sub) rSubZ from op_subZ) (pe_ix (show IxR _ (rIx K) from ix_seq) (pv 0) pe_int (fun _ _ => rfl)) pe_int) (pg_sub (pv 0) pe_int set_list)) (pss_cons (ps_asg (pe_op (show OpR _ (binaryOp .Add) (rAddZ K) from op_addZ) (pe_ix (show IxR _ (rIx K) from ix_seq) (pv 0) pe_int (fun _ _ => rfl)) pe_int) (pg_sub (pv 0) pe_int set_list)) (pss_cons (ps_if (pt_not (pt_truK K rfl (pe_ix (show IxR _ (rIx K) from ix_seq) (pv 0) pe_int (fun _ _ => rfl)) (by intro _; rfl))) (pss_one (ps_ret (pe_op (show OpR _ (binaryOp .Mod) rModZ from op_modZ) (pe_callTy (show CallR _ (.type "int") rIntZ from call_intZ) (by rfl) nb_int (by decide +kernel) (pa_cons (pe_call C__law_mixed.G (hr.mono (by first | decide | omega)) rfl C__law_mixed.mg C__law_mixed.kp C__law_mixed.b .nil passN (pa_cons (pe_ix (show IxR _ (rIx K) from ix_seq) (pv 0) pe_int (fun _ _ => rfl)) (pa_cons (pe_ix (show IxR _ (rIx K) from ix_seq) (pv 0) pe_int (fun _ _ => rfl)) pa_nil))) pa_nil)) (pv 1)))) pss_nil) (pss_cons (ps_set (i := 2) sc__law_draw.nd rfl (Or.inl rfl) (pe_op (show OpR _ (binaryOp .Mod) rModZ from op_modZ) (pe_callTy (show CallR _ (.type "int") rIntZ from call_intZ) (by rfl) nb_int (by decide +kernel) (pa_cons (pe_ix (show IxR _ (rIx K) from ix_seq) (pv 0) pe_int (fun _ _ => rfl)) pa_nil)) (pv 1))) (pss_cons (ps_asg (pe_op (show OpR _ (binaryOp .FloorDiv) rDivZ from op_divZ) (pe_ix (show IxR _ (rIx K) from ix_seq) (pv 0) pe_int (fun _ _ => rfl)) (pv 1)) (pg_sub (pv 0) pe_int set_list)) (pss_cons (ps_if (pt_cmpR (show OpR _ (compareOp .Eq) (rEqP K) from (op_eqP hr.units)) (pe_ix (show IxR _ (rIx K) from ix_seq) (pv 0) pe_int (fun _ _ => rfl)) pe_int (nomark _)) (pss_one (ps_asg pe_int (pg_sub (pv 0) pe_int set_list))) pss_nil) (pss_one (ps_ret (pv 2)))))))))), by
    unfold Y__law_draw
    exact (ss_seq (ss_if (sbe_p (sb_test (sp_2 ops_eq (sp_ix (sp_v (i := 0)) sp_int) sp_int))) (ss_seq (ss_if (sbe_p (sb_test (sp_2 ops_ge (sp_ix (sp_v (i := 0)) sp_int) (sp_lenC (sp_ix (sp_v (i := 0)) sp_int))))) (ss_ret (se_p sp_int)) ss_next) (ss_seq (ss_setI (sw_V (i := 0)) sp_int (sp_2 ops_ixC (sp_ix (sp_v (i := 0)) sp_int) (sp_ix (sp_v (i := 0)) sp_int))) (ss_seq (ss_setI (sw_V (i := 0)) sp_int (sp_add (sp_ix (sp_v (i := 0)) sp_int) sp_int)) (ss_seq (ss_setI (sw_V (i := 0)) sp_int (sp_2 ops_ge (sp_ix (sp_v (i := 0)) sp_int) (sp_2 ops_pow sp_int sp_int))) (ss_seq (ss_setI (sw_V (i := 0)) sp_int sp_int) (ss_if (sbe_p (sb_tru (sp_ix (sp_v (i := 0)) sp_int))) (ss_setI (sw_V (i := 0)) sp_int sp_int) ss_next)))))) ss_next) (ss_seq (ss_setI (sw_V (i := 0)) sp_int (sp_2 ops_sub (sp_ix (sp_v (i := 0)) sp_int) sp_int)) (ss_seq (ss_setI (sw_V (i := 0)) sp_int (sp_add (sp_ix (sp_v (i := 0)) sp_int) sp_int)) (ss_seq (ss_if (sbe_p (sb_not (sb_tru (sp_ix (sp_v (i := 0)) sp_int)))) (ss_ret (se_p (sp_2 ops_mod (sp_intc (sp_callN (sa_cons (sp_ix (sp_v (i := 0)) sp_int) (sa_cons (sp_ix (sp_v (i := 0)) sp_int) sa_nil)))) (sp_v (i := 1))))) ss_next) (ss_seq (ss_asgF (se_p (sp_2 ops_mod (sp_intc (sp_ix (sp_v (i := 0)) sp_int)) (sp_v (i := 1))))) (ss_seq (ss_setI (sw_V (i := 0)) sp_int (sp_2 ops_div (sp_ix (sp_v (i := 0)) sp_int) (sp_v (i := 1)))) (ss_seq (ss_if (sbe_p (sb_test (sp_2 ops_eq (sp_ix (sp_v (i := 0)) sp_int) sp_int))) (ss_setI (sw_V (i := 0)) sp_int sp_int) ss_next) (ss_ret (se_p (sp_v (i := 2)))))))))))⟩)
abbrev st__law_pick : Stmt := (top 21)
theorem sc__law_pick : FnScope ["source", "row"] ["source", "row"] (defScope st__law_pick) := ⟨rfl, rfl, rfl, by decide +kernel, rfl, by decide +kernel, by decide +kernel⟩
theorem ok__law_pick {f : Addr} {fd : FuncData} (F : Fun K "_law_pick" "_law_pick" st__law_pick f fd) {f__law_draw : Addr} {fd__law_draw : FuncData} (C__law_draw : Cal P w K mg base CX0 2 "_law_draw" ["source", "limit"] (spP K T S__law_draw) f__law_draw fd__law_draw) (nb_len : mg "len" = none) :
    FnOk P w K mg base (L2N.CX P w) 3 f fd ["source", "row"] (spP K T S__law_pick) := by
  refine FnOk.imp ?_ (spP_imp mir__law_pick)
  exact fn_P F sc__law_pick rfl rfl (fun cdv A outer s H E hr => ⟨_, (pss_one (ps_ret (pe_ix (show IxR _ (rIx K) from ix_seq) (pv 1) (pe_call C__law_draw.G (hr.mono (by first | decide | omega)) rfl C__law_draw.mg C__law_draw.kp C__law_draw.b .nil pass0 (pa_cons (pv 0) (pa_cons (pe_callB (show CallR _ (.builtin "len") (rLenZ K) from call_lenZ) (by rfl) nb_len (by decide +kernel) (pa_cons (pv 1) pa_nil)) pa_nil))) (fun _ _ => rfl)))), by
    unfold Y__law_pick
    exact (ss_ret (se_p (sp_ix (sp_v (i := 1)) (sp_callN (sa_cons (sp_v (i := 0)) (sa_cons (sp_len (sp_v (i := 1))) sa_nil))))))⟩)
abbrev st__law_steps : Stmt := (top 22)
theorem sc__law_steps : FnScope ["source", "total", "menu", "bound", "k"] ["source", "total", "menu", "bound"] (defScope st__law_steps) := ⟨rfl, rfl, rfl, by decide +kernel, rfl, by decide +kernel, by decide +kernel⟩
theorem ok__law_steps {f : Addr} {fd : FuncData} (F : Fun K "_law_steps" "_law_steps" st__law_steps f fd) {f__law_draw : Addr} {fd__law_draw : FuncData} (C__law_draw : Cal P w K mg base CX0 2 "_law_draw" ["source", "limit"] (spP K T S__law_draw) f__law_draw fd__law_draw) {f__law_pick : Addr} {fd__law_pick : FuncData} (C__law_pick : Cal P w K mg base (L2N.CX P w) 3 "_law_pick" ["source", "row"] (spP K T S__law_pick) f__law_pick fd__law_pick) (nb_range : mg "range" = none) :
    FnOk P w K mg base (L2N.CX P w) 4 f fd ["source", "total", "menu", "bound"] (spP K T S__law_steps) := by
  refine FnOk.imp ?_ (spP_imp mir__law_steps)
  exact fn_P F sc__law_steps rfl rfl (fun cdv A outer s H E hr => ⟨_, (pss_one (ps_ret (pe_lc (own := [("k", 4)]) (g := gName 4) (tt := L2.tYes) rfl sc__law_steps.nd (pi_range1 (by rfl) nb_range (pa_cons (pv 1) pa_nil)) (blkOk_by (own := [("k", 4)]) (N := ["source", "total", "menu", "bound", "k"]) (sc := defScope st__law_steps) (by decide +kernel)) (fun _ _ _ _ _ => (pg_name (i := 4) sc__law_steps.nd rfl (Or.inl rfl))) (fun _ _ _ _ _ => pts_nil) (fun _ _ _ _ _ => (pe_tup (pa_cons (pe_call C__law_pick.G (hr.mono (by first | decide | omega)) rfl C__law_pick.mg C__law_pick.kp C__law_pick.b .nil passN (pa_cons (pv 0) (pa_cons (pv 2) pa_nil))) (pa_cons (pe_call C__law_draw.G (hr.mono (by first | decide | omega)) rfl C__law_draw.mg C__law_draw.kp C__law_draw.b .nil pass0 (pa_cons (pv 0) (pa_cons (pv 3) pa_nil))) pa_nil))))))), by
    unfold Y__law_steps
    exact (ss_ret (se_p (sp_lc (sic_of (si_R1 (sp_v (i := 1)))) (gok_nm (by decide)) sg_nm sb_yes (sp_tup (sa_cons (sp_callN (sa_cons (sp_v (i := 0)) (sa_cons (sp_v (i := 2)) sa_nil))) (sa_cons (sp_callN (sa_cons (sp_v (i := 0)) (sa_cons (sp_v (i := 3)) sa_nil))) sa_nil)) (by decide)))))⟩)
abbrev st__law_stops : Stmt := (top 23)
theorem sc__law_stops : FnScope ["near", "row", "step"] ["near", "row"] (defScope st__law_stops) := ⟨rfl, rfl, rfl, by decide +kernel, rfl, by decide +kernel, by decide +kernel⟩
theorem ok__law_stops {f : Addr} {fd : FuncData} (F : Fun K "_law_stops" "_law_stops" st__law_stops f fd)  :
    FnOk P w K mg base (L2N.CX P w) 1 f fd ["near", "row"] (spP K T S__law_stops) := by
  refine FnOk.imp ?_ (spP_imp mir__law_stops)
  exact fn_P F sc__law_stops rfl rfl (fun cdv A outer s H E hr => ⟨_, (pss_one (ps_ret (pe_op (show OpR _ (binaryOp .Add) (rAddZ K) from op_addZ) (pe_lst (pa_cons (pv 0) pa_nil)) (pe_lc (own := [("step", 2)]) (g := gName 2) (tt := L2.tYes) rfl sc__law_stops.nd (pi_seqK K rfl (pv 1)) (blkOk_by (own := [("step", 2)]) (N := ["near", "row", "step"]) (sc := defScope st__law_stops) (by decide +kernel)) (fun _ _ _ _ _ => (pg_name (i := 2) sc__law_stops.nd rfl (Or.inl rfl))) (fun _ _ _ _ _ => pts_nil) (fun _ _ _ _ _ => (pe_ix (show IxR _ (rIx K) from ix_seq) (pv 2) pe_int (fun _ _ => rfl))))))), by
    unfold Y__law_stops
    exact (ss_ret (se_p (sp_add (sp_lst (sa_cons (sp_v (i := 0)) sa_nil) (by decide)) (sp_lc (sic_E (sp_v (i := 1))) (gok_nm (by decide)) sg_nm sb_yes (sp_ix (sp_v (i := 2)) sp_int)))))⟩)
abbrev st__law_end : Stmt := (top 26)
theorem sc__law_end : FnScope ["pair"] ["pair"] (defScope st__law_end) := ⟨rfl, rfl, rfl, by decide +kernel, rfl, by decide +kernel, by decide +kernel⟩
theorem ok__law_end {f : Addr} {fd : FuncData} (F : Fun K "_law_end" "_law_end" st__law_end f fd) {f__law_stops : Addr} {fd__law_stops : FuncData} (C__law_stops : Cal P w K mg base (L2N.CX P w) 1 "_law_stops" ["near", "row"] (spP K T S__law_stops) f__law_stops fd__law_stops) (nb_len : mg "len" = none) :
    FnOk P w K mg base (L2N.CX P w) 2 f fd ["pair"] (spP K T S__law_end) := by
  refine FnOk.imp ?_ (spP_imp mir__law_end)
  exact fn_P F sc__law_end rfl rfl (fun cdv A outer s H E hr => ⟨_, (pss_one (ps_ret (pe_ix (show IxR _ (rIx K) from ix_seq) (pe_callSD C__law_stops.G (hr.mono (by first | decide | omega)) rfl C__law_stops.mg C__law_stops.kp C__law_stops.b .nil (fun σ => L2N.passAt (L2N.takes_of rfl rfl rfl rfl) σ) (pa_cons (pe_ix (show IxR _ (rIx K) from ix_seq) (pv 0) pe_int (fun _ _ => rfl)) (pa_cons (pe_ix (show IxR _ (rIx K) from ix_seq) (pv 0) pe_int (fun _ _ => rfl)) pa_nil))) (pe_callB (show CallR _ (.builtin "len") (rLenZ K) from call_lenZ) (by rfl) nb_len (by decide +kernel) (pa_cons (pe_ix (show IxR _ (rIx K) from ix_seq) (pv 0) pe_int (fun _ _ => rfl)) pa_nil)) (fun _ _ => rfl)))), by
    unfold Y__law_end
    exact (ss_ret (se_p (sp_ix (sp_call (sa_cons (sp_ix (sp_v (i := 0)) sp_int) (sa_cons (sp_ix (sp_v (i := 0)) sp_int) sa_nil))) (sp_len (sp_ix (sp_v (i := 0)) sp_int)))))⟩)
abbrev st_PlaceOutOfRange_init : Stmt := (inClass (top 3) 0)
theorem sc_PlaceOutOfRange_init : SScope ["self", "place"] ["self", "place"] (defScope st_PlaceOutOfRange_init) := ⟨rfl, rfl, rfl, by decide +kernel, rfl, by decide +kernel, by decide +kernel, by decide +kernel, rfl, rfl⟩
theorem ok_PlaceOutOfRange_init {C_PlaceOutOfRange f cc cda : Addr} {kV doc pm ct oc ccl cl : Value} {an od cdd cld : Option Addr} {osl ccs csl : Array (Option Value)} {vs0 : Array Value} {file : Str} {tf : Tok} (E_PlaceOutOfRange : ErrC K C_PlaceOutOfRange)
    (lk : K.lookup f = some ⟨oc, od, .func (PySem.W.ksFn "__init__" "PlaceOutOfRange.__init__" (defArgs st_PlaceOutOfRange_init) (defBody st_PlaceOutOfRange_init) (defScope st_PlaceOutOfRange_init) .none kV doc pm an (.ref cda) ct cc), osl⟩) (hcd : PySem.W.codeIn K (.ref cda) "PlaceOutOfRange.__init__" = true)
    (hcode : K.lookup cda = some ⟨ccl, cdd, .fields vs0, ccs⟩) (hvs : vs0[2]? = some (.str file tf)) (hfile : ((P.main.file : Str) == file) = true) (hcell : K.lookup cc = some ⟨cl, cld, .cell (some (.ref C_PlaceOutOfRange)), csl⟩)
    (hmro : PySem.W.mroIn K C_PlaceOutOfRange (.type "ValueError") = some true) (hself : PySem.W.mroIn K C_PlaceOutOfRange (.ref C_PlaceOutOfRange) = some true) (hal : PySem.W.ks_superIn K C_PlaceOutOfRange C_PlaceOutOfRange "__init__" = some (some (.builtin "ValueError.__init__"))) (hany : PySem.W.nsIn K cStatics "thirdparty.any" = some none)
    (hsup : mg "super" = none) (htop : (P.main.scope.names.lookup ("super" : Str)).isSome = false) (hf0 : PySem.W.findIn K (.ref C_PlaceOutOfRange) "place" = some none) :
    FnOk P w K mg base CX0 1 f (PySem.W.ksFn "__init__" "PlaceOutOfRange.__init__" (defArgs st_PlaceOutOfRange_init) (defBody st_PlaceOutOfRange_init) (defScope st_PlaceOutOfRange_init) .none kV doc pm an (.ref cda) ct cc) ["self", "place"] (xSp C_PlaceOutOfRange ["place"]) := by
  refine fn_S (N := ["self", "place"]) lk hcd sc_PlaceOutOfRange_init hcode hvs hfile hcell E_PlaceOutOfRange.ox hmro hself hal hany hsup htop rfl (fun L => ⟨_, rfl⟩) rfl rfl (fun vs H Q E ⟨a, ys, e1, e2, _⟩ => by subst e1; simp [e2]) fun A outer s H vs Q E ⟨a, ys, e1, e2, hea, q⟩ => ?_
  subst e1
  match ys, e2 with
  | [y], _ => exact ⟨a, _, rfl, hea, pss_one (ps_ost (pv 0) (pv 1)), x1_read E_PlaceOutOfRange.ox hf0 hea q⟩
abbrev st_check_place : Stmt := (top 11)
theorem sc_check_place : FnScope ["size", "place"] ["size", "place"] (defScope st_check_place) := ⟨rfl, rfl, rfl, by decide +kernel, rfl, by decide +kernel, by decide +kernel⟩
theorem ok_check_place {f : Addr} {fd : FuncData} (F : Fun K "check_place" "check_place" st_check_place f fd) {f_PlaceOutOfRange_init : Addr} {fd_PlaceOutOfRange_init : FuncData} (EX_PlaceOutOfRange : CalE P w K mg base 1 "PlaceOutOfRange" (T "PlaceOutOfRange") ["self", "place"] ["place"] f_PlaceOutOfRange_init fd_PlaceOutOfRange_init) :
    FnOk P w K mg base (L2N.CX P w) 3 f fd ["size", "place"] (spP K T S_check_place) := by
  refine FnOk.imp ?_ (spP_imp mir_check_place)
  exact fn_P F sc_check_place rfl rfl (fun cdv A outer s H E hr => ⟨_, (pss_one (ps_if (pt_not (pt_chain (show OpR _ (compareOp .LtE) rLeI from op_leI) (show OpR _ (compareOp .Lt) rLtI from op_ltI) pe_int (pv 1) (pv 0))) (pss_one (ps_raiseW rfl (L2N.takes_of rfl rfl rfl rfl) (pmk_oexN EX_PlaceOutOfRange.er.ox EX_PlaceOutOfRange.init EX_PlaceOutOfRange.ty EX_PlaceOutOfRange.G (hr.mono (by first | decide | omega)) EX_PlaceOutOfRange.b .nil pass0 rfl EX_PlaceOutOfRange.mg (pa_cons (pv 1) pa_nil)))) pss_nil)), by
    unfold Y_check_place
    exact (ss_if (sbe_p (sb_not (sb_test (sp_ch ops_le ops_lt sp_int (sp_v (i := 1)) (sp_v (i := 0)))))) (ss_raise rfl rfl (sa_cons (sp_v (i := 1)) sa_nil) rfl (by decide)) ss_next)⟩)
abbrev st_NoSuchLot_init : Stmt := (inClass (top 4) 0)
theorem sc_NoSuchLot_init : SScope ["self", "lot"] ["self", "lot"] (defScope st_NoSuchLot_init) := ⟨rfl, rfl, rfl, by decide +kernel, rfl, by decide +kernel, by decide +kernel, by decide +kernel, rfl, rfl⟩
theorem ok_NoSuchLot_init {C_NoSuchLot f cc cda : Addr} {kV doc pm ct oc ccl cl : Value} {an od cdd cld : Option Addr} {osl ccs csl : Array (Option Value)} {vs0 : Array Value} {file : Str} {tf : Tok} (E_NoSuchLot : ErrC K C_NoSuchLot)
    (lk : K.lookup f = some ⟨oc, od, .func (PySem.W.ksFn "__init__" "NoSuchLot.__init__" (defArgs st_NoSuchLot_init) (defBody st_NoSuchLot_init) (defScope st_NoSuchLot_init) .none kV doc pm an (.ref cda) ct cc), osl⟩) (hcd : PySem.W.codeIn K (.ref cda) "NoSuchLot.__init__" = true)
    (hcode : K.lookup cda = some ⟨ccl, cdd, .fields vs0, ccs⟩) (hvs : vs0[2]? = some (.str file tf)) (hfile : ((P.main.file : Str) == file) = true) (hcell : K.lookup cc = some ⟨cl, cld, .cell (some (.ref C_NoSuchLot)), csl⟩)
    (hmro : PySem.W.mroIn K C_NoSuchLot (.type "ValueError") = some true) (hself : PySem.W.mroIn K C_NoSuchLot (.ref C_NoSuchLot) = some true) (hal : PySem.W.ks_superIn K C_NoSuchLot C_NoSuchLot "__init__" = some (some (.builtin "ValueError.__init__"))) (hany : PySem.W.nsIn K cStatics "thirdparty.any" = some none)
    (hsup : mg "super" = none) (htop : (P.main.scope.names.lookup ("super" : Str)).isSome = false) (hf0 : PySem.W.findIn K (.ref C_NoSuchLot) "lot" = some none) :
    FnOk P w K mg base CX0 1 f (PySem.W.ksFn "__init__" "NoSuchLot.__init__" (defArgs st_NoSuchLot_init) (defBody st_NoSuchLot_init) (defScope st_NoSuchLot_init) .none kV doc pm an (.ref cda) ct cc) ["self", "lot"] (xSp C_NoSuchLot ["lot"]) := by
  refine fn_S (N := ["self", "lot"]) lk hcd sc_NoSuchLot_init hcode hvs hfile hcell E_NoSuchLot.ox hmro hself hal hany hsup htop rfl (fun L => ⟨_, rfl⟩) rfl rfl (fun vs H Q E ⟨a, ys, e1, e2, _⟩ => by subst e1; simp [e2]) fun A outer s H vs Q E ⟨a, ys, e1, e2, hea, q⟩ => ?_
  subst e1
  match ys, e2 with
  | [y], _ => exact ⟨a, _, rfl, hea, pss_one (ps_ost (pv 0) (pv 1)), x1_read E_NoSuchLot.ox hf0 hea q⟩
abbrev st_Path_init : Stmt := (inClass (top 13) 0)
theorem sc_Path_init : FnScope ["self", "start", "steps", "lot", "place"] ["self", "start", "steps"] (defScope st_Path_init) := ⟨rfl, rfl, rfl, by decide +kernel, rfl, by decide +kernel, by decide +kernel⟩
theorem ok_Path_init {f : Addr} {fd : FuncData} (F : Fun K "__init__" "Path.__init__" st_Path_init f fd) {f_check_place : Addr} {fd_check_place : FuncData} (C_check_place : Cal P w K mg base (L2N.CX P w) 3 "check_place" ["size", "place"] (spP K T S_check_place) f_check_place fd_check_place) {f_NoSuchLot_init : Addr} {fd_NoSuchLot_init : FuncData} (EX_NoSuchLot : CalE P w K mg base 1 "NoSuchLot" (T "NoSuchLot") ["self", "lot"] ["lot"] f_NoSuchLot_init fd_NoSuchLot_init) (Gd_Path : Gd K T "Path" []) {t_g_MOST_LOTS : Tok} (g_MOST_LOTS : mg "MOST_LOTS" = some (.int 40 t_g_MOST_LOTS)) {t_g_MOST_PLACES : Tok} (g_MOST_PLACES : mg "MOST_PLACES" = some (.int 12 t_g_MOST_PLACES)) (na_Path__many : NoAttr K (T "Path") "_many") (na_Path_start : NoAttr K (T "Path") "start") (na_Path_steps : NoAttr K (T "Path") "steps") (nb_len : mg "len" = none) (nb_tuple : mg "tuple" = none) :
    FnOk P w K mg base (L2N.CX P w) 4 f fd ["self", "start", "steps"] (spN K T "Path" S_Path_init) := by
  refine FnOk.imp ?_ (spN_imp mir_Path_init)
  exact fn_N F sc_Path_init rfl rfl Gd_Path (fun cdv A outer s H E hr => ⟨_, (pss_cons (ps_expr (pe_callSD C_check_place.G (hr.mono (by first | decide | omega)) rfl C_check_place.mg C_check_place.kp C_check_place.b .nil (fun σ => L2N.passAt (L2N.takes_of rfl rfl rfl rfl) σ) (pa_cons (pe_glob (v := .int 12) rfl g_MOST_PLACES ⟨_, rfl⟩) (pa_cons (pv 1) pa_nil)))) (pss_cons (ps_for (passes_of rfl) rfl (pi_seqK K rfl (pv 2)) (pg_tup rfl (pgs_cons (pg_name (i := 3) sc_Path_init.nd rfl (Or.inl rfl)) (pgs_cons (pg_name (i := 4) sc_Path_init.nd rfl (Or.inl rfl)) pgs_nil))) (pss_cons (ps_if (pt_not (pt_chain (show OpR _ (compareOp .LtE) rLeI from op_leI) (show OpR _ (compareOp .Lt) rLtI from op_ltI) pe_int (pv 3) (pe_glob (v := .int 40) rfl g_MOST_LOTS ⟨_, rfl⟩))) (pss_one (ps_raiseW rfl (L2N.takes_of rfl rfl rfl rfl) (pmk_oexN EX_NoSuchLot.er.ox EX_NoSuchLot.init EX_NoSuchLot.ty EX_NoSuchLot.G (hr.mono (by first | decide | omega)) EX_NoSuchLot.b .nil pass0 rfl EX_NoSuchLot.mg (pa_cons (pv 3) pa_nil)))) pss_nil) (pss_one (ps_expr (pe_callSD C_check_place.G (hr.mono (by first | decide | omega)) rfl C_check_place.mg C_check_place.kp C_check_place.b .nil (fun σ => L2N.passAt (L2N.takes_of rfl rfl rfl rfl) σ) (pa_cons (pe_glob (v := .int 12) rfl g_MOST_PLACES ⟨_, rfl⟩) (pa_cons (pv 4) pa_nil))))))) (pss_cons (ps_fld (pv 0) (pv 1) rfl) (pss_cons (ps_fld (pv 0) (pe_callTy (show CallR _ (.type "tuple") (rTupZ K) from call_tupZ) (by rfl) nb_tuple (by decide +kernel) (pa_cons (pe_lc (own := [("lot", 3), ("place", 4)]) (g := gTup K 2 (gCons (gName 3) (gCons (gName 4) gNil))) (tt := L2.tYes) rfl sc_Path_init.nd (pi_seqK K rfl (pv 2)) (blkOk_by (own := [("lot", 3), ("place", 4)]) (N := ["self", "start", "steps", "lot", "place"]) (sc := defScope st_Path_init) (by decide +kernel)) (fun _ _ _ _ _ => (pg_tup rfl (pgs_cons (pg_name (i := 3) sc_Path_init.nd rfl (Or.inl rfl)) (pgs_cons (pg_name (i := 4) sc_Path_init.nd rfl (Or.inl rfl)) pgs_nil)))) (fun _ _ _ _ _ => pts_nil) (fun _ _ _ _ _ => (pe_tup (pa_cons (pv 3) (pa_cons (pv 4) pa_nil))))) pa_nil)) rfl) (pss_one (ps_fld (pv 0) (pe_callB (show CallR _ (.builtin "len") (rLenZ K) from call_lenZ) (by rfl) nb_len (by decide +kernel) (pa_cons (pe_fldK K rfl (pv 0) rfl) pa_nil)) rfl)))))), by
    unfold Y_Path_init
    exact (ss_seq (ss_drop (se_p (sp_call (sa_cons sp_int (sa_cons (sp_v (i := 1)) sa_nil))))) (ss_seq (ss_for (si_S (sp_v (i := 2))) (sg_tp (is := [3, 4]) rfl rfl) (ss_seq (ss_if (sbe_p (sb_not (sb_test (sp_ch ops_le ops_lt sp_int (sp_v (i := 3)) sp_int)))) (ss_raise rfl rfl (sa_cons (sp_v (i := 3)) sa_nil) rfl (by decide)) ss_next) (ss_drop (se_p (sp_call (sa_cons sp_int (sa_cons (sp_v (i := 4)) sa_nil))))))) (ss_seq (ss_setF rfl na_Path_start (sp_v (i := 1)) (sw_V (i := 0))) (ss_seq (ss_setF rfl na_Path_steps (sp_tuple (sp_lc (sic_E (sp_v (i := 2))) (gok_tp (is := [3, 4]) rfl (by decide)) (sg_tp (is := [3, 4]) rfl rfl) sb_yes (sp_tup (sa_cons (sp_v (i := 3)) (sa_cons (sp_v (i := 4)) sa_nil)) (by decide)))) (sw_V (i := 0))) (ss_setF rfl na_Path__many (sp_len (sp_fl rfl (sp_v (i := 0)))) (sw_V (i := 0)))))))⟩)
abbrev st__law_sum : Stmt := (top 27)
theorem sc__law_sum : FnScope ["first", "second"] ["first", "second"] (defScope st__law_sum) := ⟨rfl, rfl, rfl, by decide +kernel, rfl, by decide +kernel, by decide +kernel⟩
theorem ok__law_sum {f : Addr} {fd : FuncData} (F : Fun K "_law_sum" "_law_sum" st__law_sum f fd)  :
    FnOk P w K mg base (L2N.CX P w) 1 f fd ["first", "second"] (spP K T S__law_sum) := by
  refine FnOk.imp ?_ (spP_imp mir__law_sum)
  exact fn_P F sc__law_sum rfl rfl (fun cdv A outer s H E hr => ⟨_, (pss_one (ps_ret (pe_tup (pa_cons (pe_ix (show IxR _ (rIx K) from ix_seq) (pv 0) pe_int (fun _ _ => rfl)) (pa_cons (pe_op (show OpR _ (binaryOp .Add) (rAddZ K) from op_addZ) (pe_ix (show IxR _ (rIx K) from ix_seq) (pv 0) pe_int (fun _ _ => rfl)) (pe_ix (show IxR _ (rIx K) from ix_seq) (pv 1) pe_int (fun _ _ => rfl))) pa_nil))))), by
    unfold Y__law_sum
    exact (ss_ret (se_p (sp_tup (sa_cons (sp_ix (sp_v (i := 0)) sp_int) (sa_cons (sp_add (sp_ix (sp_v (i := 0)) sp_int) (sp_ix (sp_v (i := 1)) sp_int)) sa_nil)) (by decide))))⟩)
abbrev st_Path_end : Stmt := (inClass (top 13) 3)
theorem sc_Path_end : FnScope ["self"] ["self"] (defScope st_Path_end) := ⟨rfl, rfl, rfl, by decide +kernel, rfl, by decide +kernel, by decide +kernel⟩
theorem ok_Path_end {f : Addr} {fd : FuncData} (F : Fun K "end" "Path.end" st_Path_end f fd)  :
    FnOk P w K mg base (L2N.CX P w) 1 f fd ["self"] (spP K T S_Path_end) := by
  refine FnOk.imp ?_ (spP_imp mir_Path_end)
  exact fn_P F sc_Path_end rfl rfl (fun cdv A outer s H E hr => ⟨_, (pss_one (ps_ret (pe_ifExp (pt_truK K rfl (pe_fldK K rfl (pv 0) rfl) (by intro _; rfl)) (pe_ix (show IxR _ (rIx K) from ix_seq) (pe_ix (show IxR _ (rIx K) from ix_seq) (pe_fldK K rfl (pv 0) rfl) (pe_un un_neg pe_int) (fun _ _ => rfl)) pe_int (fun _ _ => rfl)) (pe_fldK K rfl (pv 0) rfl)))), by
    unfold Y_Path_end
    exact (ss_ret (se_p (sp_if (sb_tru (sp_fl rfl (sp_v (i := 0)))) (sp_ix (sp_ix (sp_fl rfl (sp_v (i := 0))) (sp_neg sp_int)) sp_int) (sp_fl rfl (sp_v (i := 0))))))⟩)
abbrev st_Path_add : Stmt := (inClass (top 13) 7)
theorem sc_Path_add : FnScope ["self", "other"] ["self", "other"] (defScope st_Path_add) := ⟨rfl, rfl, rfl, by decide +kernel, rfl, by decide +kernel, by decide +kernel⟩
theorem ok_Path_add {f : Addr} {fd : FuncData} (F : Fun K "__add__" "Path.__add__" st_Path_add f fd) {p_Path_end f_Path_end : Addr} {fd_Path_end : FuncData} (M_Path_end : CalP P w K mg base (L2N.CX P w) 1 (T "Path") "end" ["self"] (spP K T S_Path_end) p_Path_end f_Path_end fd_Path_end) (EX_Mismatch : CalE0 K mg "Mismatch" (T "Mismatch")) {f_Path_init : Addr} {fd_Path_init : FuncData} (K_Path : CalK P w K mg base (L2N.CX P w) 4 "Path" (T "Path") ["self", "start", "steps"] (spN K T "Path" S_Path_init) f_Path_init fd_Path_init) :
    FnOk P w K mg base (L2N.CX P w) 6 f fd ["self", "other"] (spP K T S_Path_add) := by
  refine FnOk.imp ?_ (spP_imp mir_Path_add)
  exact fn_P F sc_Path_add rfl rfl (fun cdv A outer s H E hr => ⟨_, (pss_cons (ps_if (pt_cmpR (show OpR _ (compareOp .NotEq) (rNeP K) from (op_neP hr.units)) (pe_prop (pv 0) M_Path_end.cl M_Path_end.pr M_Path_end.G (hr.mono (by first | decide | omega)) M_Path_end.b .nil passN rfl) (pe_fldK K rfl (pv 1) rfl) (nomark _)) (pss_one (ps_raiseW rfl (L2N.takes_of rfl rfl rfl rfl) (show L2N.PMk _ _ (tMk0 (T "Mismatch")) from L2N.pmk_own PySem.F.excBase_ValueError EX_Mismatch.xc EX_Mismatch.mg EX_Mismatch.kp (raises_own EX_Mismatch.er.ox.exC EX_Mismatch.er.ox.tyC) rfl))) pss_nil) (pss_one (ps_ret (pe_makeS K_Path.M K_Path.G (hr.mono (by first | decide | omega)) rfl K_Path.mg K_Path.b .nil (fun σ => L2N.passAt (L2N.takes_of rfl rfl rfl rfl) σ) (pa_cons (pe_fldK K rfl (pv 0) rfl) (pa_cons (pe_op (show OpR _ (binaryOp .Add) (rAddZ K) from op_addZ) (pe_fldK K rfl (pv 0) rfl) (pe_fldK K rfl (pv 1) rfl)) pa_nil)))))), by
    unfold Y_Path_add
    exact (ss_seq (ss_if (sbe_p (sb_test (sp_2 ops_ne (sp_propN rfl (sp_v (i := 0))) (sp_fl rfl (sp_v (i := 1)))))) (ss_raise0 rfl) ss_next) (ss_ret (se_p (sp_make rfl (fun _ _ _ => .nil) (sa_cons (sp_fl rfl (sp_v (i := 0))) (sa_cons (sp_add (sp_fl rfl (sp_v (i := 0))) (sp_fl rfl (sp_v (i := 1)))) sa_nil))))))⟩)
abbrev st__law_back : Stmt := (top 25)
theorem sc__law_back : FnScope ["pair", "stops", "k"] ["pair"] (defScope st__law_back) := ⟨rfl, rfl, rfl, by decide +kernel, rfl, by decide +kernel, by decide +kernel⟩
theorem ok__law_back {f : Addr} {fd : FuncData} (F : Fun K "_law_back" "_law_back" st__law_back f fd) {f__law_stops : Addr} {fd__law_stops : FuncData} (C__law_stops : Cal P w K mg base (L2N.CX P w) 1 "_law_stops" ["near", "row"] (spP K T S__law_stops) f__law_stops fd__law_stops) (nb_len : mg "len" = none) (nb_range : mg "range" = none) :
    FnOk P w K mg base (L2N.CX P w) 2 f fd ["pair"] (spP K T S__law_back) := by
  refine FnOk.imp ?_ (spP_imp mir__law_back)
  exact fn_P F sc__law_back rfl rfl (fun cdv A outer s H E hr => ⟨_, (pss_cons (ps_set (i := 1) sc__law_back.nd rfl (Or.inr rfl) (pe_callSD C__law_stops.G (hr.mono (by first | decide | omega)) rfl C__law_stops.mg C__law_stops.kp C__law_stops.b .nil (fun σ => L2N.passAt (L2N.takes_of rfl rfl rfl rfl) σ) (pa_cons (pe_ix (show IxR _ (rIx K) from ix_seq) (pv 0) pe_int (fun _ _ => rfl)) (pa_cons (pe_ix (show IxR _ (rIx K) from ix_seq) (pv 0) pe_int (fun _ _ => rfl)) pa_nil)))) (pss_one (ps_ret (pe_tup (pa_cons (pe_ix (show IxR _ (rIx K) from ix_seq) (pv 1) (pe_callB (show CallR _ (.builtin "len") (rLenZ K) from call_lenZ) (by rfl) nb_len (by decide +kernel) (pa_cons (pe_ix (show IxR _ (rIx K) from ix_seq) (pv 0) pe_int (fun _ _ => rfl)) pa_nil)) (fun _ _ => rfl)) (pa_cons (pe_lc (own := [("k", 2)]) (g := gName 2) (tt := L2.tYes) rfl sc__law_back.nd (pi_range3 (by rfl) nb_range (pa_cons (pe_op (show OpR _ (binaryOp .Sub) rSubZ from op_subZ) (pe_callB (show CallR _ (.builtin "len") (rLenZ K) from call_lenZ) (by rfl) nb_len (by decide +kernel) (pa_cons (pe_ix (show IxR _ (rIx K) from ix_seq) (pv 0) pe_int (fun _ _ => rfl)) pa_nil)) pe_int) (pa_cons (pe_un un_neg pe_int) (pa_cons (pe_un un_neg pe_int) pa_nil)))) (blkOk_by (own := [("k", 2)]) (N := ["pair", "stops", "k"]) (sc := defScope st__law_back) (by decide +kernel)) (fun _ _ _ _ _ => (pg_name (i := 2) sc__law_back.nd rfl (Or.inl rfl))) (fun _ _ _ _ _ => pts_nil) (fun _ _ _ _ _ => (pe_tup (pa_cons (pe_ix (show IxR _ (rIx K) from ix_seq) (pe_ix (show IxR _ (rIx K) from ix_seq) (pe_ix (show IxR _ (rIx K) from ix_seq) (pv 0) pe_int (fun _ _ => rfl)) (pv 2) (fun _ _ => rfl)) pe_int (fun _ _ => rfl)) (pa_cons (pe_ix (show IxR _ (rIx K) from ix_seq) (pv 1) (pv 2) (fun _ _ => rfl)) pa_nil))))) pa_nil)))))), by
    unfold Y__law_back
    exact (ss_seq (ss_asgF (se_p (sp_call (sa_cons (sp_ix (sp_v (i := 0)) sp_int) (sa_cons (sp_ix (sp_v (i := 0)) sp_int) sa_nil))))) (ss_ret (se_p (sp_tup (sa_cons (sp_ix (sp_v (i := 1)) (sp_len (sp_ix (sp_v (i := 0)) sp_int))) (sa_cons (sp_lc (sic_of (si_R3 (sp_2 ops_sub (sp_len (sp_ix (sp_v (i := 0)) sp_int)) sp_int) (sp_neg sp_int) (sp_neg sp_int))) (gok_nm (by decide)) sg_nm sb_yes (sp_tup (sa_cons (sp_ix (sp_ix (sp_ix (sp_v (i := 0)) sp_int) (sp_v (i := 2))) sp_int) (sa_cons (sp_ix (sp_v (i := 1)) (sp_v (i := 2))) sa_nil)) (by decide))) sa_nil)) (by decide)))))⟩)
abbrev st_Path_stops : Stmt := (inClass (top 13) 4)
theorem sc_Path_stops : FnScope ["self", "lot", "place"] ["self"] (defScope st_Path_stops) := ⟨rfl, rfl, rfl, by decide +kernel, rfl, by decide +kernel, by decide +kernel⟩
theorem ok_Path_stops {f : Addr} {fd : FuncData} (F : Fun K "stops" "Path.stops" st_Path_stops f fd) (nb_tuple : mg "tuple" = none) :
    FnOk P w K mg base (L2N.CX P w) 1 f fd ["self"] (spP K T S_Path_stops) := by
  refine FnOk.imp ?_ (spP_imp mir_Path_stops)
  exact fn_P F sc_Path_stops rfl rfl (fun cdv A outer s H E hr => ⟨_, (pss_one (ps_ret (pe_op (show OpR _ (binaryOp .Add) (rAddZ K) from op_addZ) (pe_tup (pa_cons (pe_fldK K rfl (pv 0) rfl) pa_nil)) (pe_callTy (show CallR _ (.type "tuple") (rTupZ K) from call_tupZ) (by rfl) nb_tuple (by decide +kernel) (pa_cons (pe_lc (own := [("lot", 1), ("place", 2)]) (g := gTup K 2 (gCons (gName 1) (gCons (gName 2) gNil))) (tt := L2.tYes) rfl sc_Path_stops.nd (pi_seqK K rfl (pe_fldK K rfl (pv 0) rfl)) (blkOk_by (own := [("lot", 1), ("place", 2)]) (N := ["self", "lot", "place"]) (sc := defScope st_Path_stops) (by decide +kernel)) (fun _ _ _ _ _ => (pg_tup rfl (pgs_cons (pg_name (i := 1) sc_Path_stops.nd rfl (Or.inl rfl)) (pgs_cons (pg_name (i := 2) sc_Path_stops.nd rfl (Or.inl rfl)) pgs_nil)))) (fun _ _ _ _ _ => pts_nil) (fun _ _ _ _ _ => (pv 2))) pa_nil))))), by
    unfold Y_Path_stops
    exact (ss_ret (se_p (sp_add (sp_tup (sa_cons (sp_fl rfl (sp_v (i := 0))) sa_nil) (by decide)) (sp_tuple (sp_lc (sic_E (sp_fl rfl (sp_v (i := 0)))) (gok_tp (is := [1, 2]) rfl (by decide)) (sg_tp (is := [1, 2]) rfl rfl) sb_yes (sp_v (i := 2)))))))⟩)
abbrev st_Path_invert : Stmt := (inClass (top 13) 8)
theorem sc_Path_invert : FnScope ["self", "stops", "last", "index"] ["self"] (defScope st_Path_invert) := ⟨rfl, rfl, rfl, by decide +kernel, rfl, by decide +kernel, by decide +kernel⟩
theorem ok_Path_invert {f : Addr} {fd : FuncData} (F : Fun K "__invert__" "Path.__invert__" st_Path_invert f fd) {p_Path_stops f_Path_stops : Addr} {fd_Path_stops : FuncData} (M_Path_stops : CalP P w K mg base (L2N.CX P w) 1 (T "Path") "stops" ["self"] (spP K T S_Path_stops) p_Path_stops f_Path_stops fd_Path_stops) {f_Path_init : Addr} {fd_Path_init : FuncData} (K_Path : CalK P w K mg base (L2N.CX P w) 4 "Path" (T "Path") ["self", "start", "steps"] (spN K T "Path" S_Path_init) f_Path_init fd_Path_init) {p_Path_end f_Path_end : Addr} {fd_Path_end : FuncData} (M_Path_end : CalP P w K mg base (L2N.CX P w) 1 (T "Path") "end" ["self"] (spP K T S_Path_end) p_Path_end f_Path_end fd_Path_end) (nb_len : mg "len" = none) (nb_range : mg "range" = none) :
    FnOk P w K mg base (L2N.CX P w) 6 f fd ["self"] (spP K T S_Path_invert) := by
  refine FnOk.imp ?_ (spP_imp mir_Path_invert)
  exact fn_P F sc_Path_invert rfl rfl (fun cdv A outer s H E hr => ⟨_, (pss_cons (ps_set (i := 1) sc_Path_invert.nd rfl (Or.inr rfl) (pe_prop (pv 0) M_Path_stops.cl M_Path_stops.pr M_Path_stops.G (hr.mono (by first | decide | omega)) M_Path_stops.b .nil passN rfl)) (pss_cons (ps_set (i := 2) sc_Path_invert.nd rfl (Or.inl rfl) (pe_op (show OpR _ (binaryOp .Sub) rSubZ from op_subZ) (pe_callB (show CallR _ (.builtin "len") (rLenZ K) from call_lenZ) (by rfl) nb_len (by decide +kernel) (pa_cons (pe_fldK K rfl (pv 0) rfl) pa_nil)) pe_int)) (pss_one (ps_ret (pe_makeS K_Path.M K_Path.G (hr.mono (by first | decide | omega)) rfl K_Path.mg K_Path.b .nil (fun σ => L2N.passAt (L2N.takes_of rfl rfl rfl rfl) σ) (pa_cons (pe_prop (pv 0) M_Path_end.cl M_Path_end.pr M_Path_end.G (hr.mono (by first | decide | omega)) M_Path_end.b .nil passN rfl) (pa_cons (pe_lc (own := [("index", 3)]) (g := gName 3) (tt := L2.tYes) rfl sc_Path_invert.nd (pi_range3 (by rfl) nb_range (pa_cons (pv 2) (pa_cons (pe_un un_neg pe_int) (pa_cons (pe_un un_neg pe_int) pa_nil)))) (blkOk_by (own := [("index", 3)]) (N := ["self", "stops", "last", "index"]) (sc := defScope st_Path_invert) (by decide +kernel)) (fun _ _ _ _ _ => (pg_name (i := 3) sc_Path_invert.nd rfl (Or.inl rfl))) (fun _ _ _ _ _ => pts_nil) (fun _ _ _ _ _ => (pe_tup (pa_cons (pe_ix (show IxR _ (rIx K) from ix_seq) (pe_ix (show IxR _ (rIx K) from ix_seq) (pe_fldK K rfl (pv 0) rfl) (pv 3) (fun _ _ => rfl)) pe_int (fun _ _ => rfl)) (pa_cons (pe_ix (show IxR _ (rIx K) from ix_seq) (pv 1) (pv 3) (fun _ _ => rfl)) pa_nil))))) pa_nil))))))), by
    unfold Y_Path_invert
    exact (ss_seq (ss_asgF (se_p (sp_propN rfl (sp_v (i := 0))))) (ss_seq (ss_asgF (se_p (sp_2 ops_sub (sp_len (sp_fl rfl (sp_v (i := 0)))) sp_int))) (ss_ret (se_p (sp_make rfl (fun _ _ _ => .nil) (sa_cons (sp_propN rfl (sp_v (i := 0))) (sa_cons (sp_lc (sic_of (si_R3 (sp_v (i := 2)) (sp_neg sp_int) (sp_neg sp_int))) (gok_nm (by decide)) sg_nm sb_yes (sp_tup (sa_cons (sp_ix (sp_ix (sp_fl rfl (sp_v (i := 0))) (sp_v (i := 3))) sp_int) (sa_cons (sp_ix (sp_v (i := 1)) (sp_v (i := 3))) sa_nil)) (by decide))) sa_nil)))))))⟩)
abbrev st_Path_chain : Stmt := (inClass (top 13) 2)
theorem sc_Path_chain : FnScope ["cls", "paths", "joined", "path"] ((["cls"] : List Str) ++ [("paths" : Str)]) (defScope st_Path_chain) := ⟨rfl, rfl, rfl, by decide +kernel, rfl, by decide +kernel, by decide +kernel⟩
theorem ok_Path_chain {f : Addr} {fd : FuncData} (F : Fun K "chain" "Path.chain" st_Path_chain f fd) (EX_Mismatch : CalE0 K mg "Mismatch" (T "Mismatch")) {f_Path_init : Addr} {fd_Path_init : FuncData} (K_Path : CalK P w K mg base (L2N.CX P w) 4 "Path" (T "Path") ["self", "start", "steps"] (spN K T "Path" S_Path_init) f_Path_init fd_Path_init) {f_Path_add : Addr} {fd_Path_add : FuncData} (M_Path_add : CalM P w K mg base (L2N.CX P w) 6 (T "Path") "__add__" ["self", "other"] (spP K T S_Path_add) f_Path_add fd_Path_add) (nb_len : mg "len" = none) (sf_Path : PySem.W.selfFirst K (T "Path") = true) :
    FnR P w K mg base (L2N.CX P w) 8 f (spP K T (starS 1 S_Path_chain)) := by
  exact fn_PS (ps := ["cls"]) F sc_Path_chain rfl rfl (fun _ _ _ _ _ _ us rest hl => match us, hl with | [_], _ => by (unfold bindArgs; have hv : (defArgs st_Path_chain).vararg.isNone = false := rfl; dsimp only [PySem.W.fnOf]; simp only [hv, Bool.and_false, Bool.false_eq_true, if_false]; rfl)) mir_Path_chain (fun cdv A outer s H E hr => ⟨_, (pss_cons (ps_if (pt_cmpR (show OpR _ (compareOp .Eq) (rEqP K) from (op_eqP hr.units)) (pe_callB (show CallR _ (.builtin "len") (rLenZ K) from call_lenZ) (by rfl) nb_len (by decide +kernel) (pa_cons (pv 1) pa_nil)) pe_int (nomark _)) (pss_one (ps_raiseW rfl (L2N.takes_of rfl rfl rfl rfl) (show L2N.PMk _ _ (tMk0 (T "Mismatch")) from L2N.pmk_own PySem.F.excBase_ValueError EX_Mismatch.xc EX_Mismatch.mg EX_Mismatch.kp (raises_own EX_Mismatch.er.ox.exC EX_Mismatch.er.ox.tyC) rfl))) pss_nil) (pss_cons (ps_set (i := 2) sc_Path_chain.nd rfl (Or.inl rfl) (pe_makeL (i := 0) K_Path.M K_Path.G (hr.mono (by first | decide | omega)) rfl (Or.inl rfl) K_Path.b .nil (fun σ => L2N.passAt (L2N.takes_of rfl rfl rfl rfl) σ) (pa_cons (pe_fldK K rfl (pe_ix (show IxR _ (rIx K) from ix_seq) (pv 1) pe_int (fun _ _ => rfl)) rfl) (pa_cons (pe_fldK K rfl (pe_ix (show IxR _ (rIx K) from ix_seq) (pv 1) pe_int (fun _ _ => rfl)) rfl) pa_nil)))) (pss_cons (ps_for (passes_of rfl) rfl (pi_seqK K rfl (pe_slice (show SlR _ (rSlZ K) from sl_Z) (pv 1) (po_some pe_int) po_none)) (pg_name (i := 3) sc_Path_chain.nd rfl (Or.inl rfl)) (pss_one (ps_set (i := 2) sc_Path_chain.nd rfl (Or.inl rfl) (pe_binS (rt := (Rt.obj (T "Path"))) M_Path_add.G (hr.mono (by first | decide | omega)) M_Path_add.b (fun σ => L2N.passAt (L2N.takes_of rfl rfl rfl rfl) σ) ⟨M_Path_add.me.at_, M_Path_add.me.fn, sf_Path⟩ (show (T "Path") = (T "Path") ∨ BinOth _ _ _ _ from Or.inl rfl) (pv 2) (pv 3))))) (pss_one (ps_ret (pv 2)))))), by
    unfold Y_Path_chain
    exact (ss_seq (ss_if (sbe_p (sb_test (sp_2 ops_eq (sp_len (sp_v (i := 1))) sp_int))) (ss_raise0 rfl) ss_next) (ss_seq (ss_asgF (se_p (sp_makeL rfl (fun _ _ _ => .nil) (sa_cons (sp_fl rfl (sp_ix (sp_v (i := 1)) sp_int)) (sa_cons (sp_fl rfl (sp_ix (sp_v (i := 1)) sp_int)) sa_nil))))) (ss_seq (ss_for (si_S (sp_sl (sp_v (i := 1)) (so_some sp_int) so_none)) sg_nm (ss_asgF (se_p (sp_binS (rt := (some "Path")) rfl rfl (sp_v (i := 2)) (sp_v (i := 3)))))) (ss_ret (se_p (sp_v (i := 2)))))))⟩)
abbrev st_Path_still : Stmt := (inClass (top 13) 1)
theorem sc_Path_still : FnScope ["place"] ["place"] (defScope st_Path_still) := ⟨rfl, rfl, rfl, by decide +kernel, rfl, by decide +kernel, by decide +kernel⟩
theorem ok_Path_still {f : Addr} {fd : FuncData} (F : Fun K "still" "Path.still" st_Path_still f fd) {f_Path_init : Addr} {fd_Path_init : FuncData} (K_Path : CalK P w K mg base (L2N.CX P w) 4 "Path" (T "Path") ["self", "start", "steps"] (spN K T "Path" S_Path_init) f_Path_init fd_Path_init) :
    FnOk P w K mg base (L2N.CX P w) 6 f fd ["place"] (spP K T S_Path_still) := by
  refine FnOk.imp ?_ (spP_imp mir_Path_still)
  exact fn_P F sc_Path_still rfl rfl (fun cdv A outer s H E hr => ⟨_, (pss_one (ps_ret (pe_makeS K_Path.M K_Path.G (hr.mono (by first | decide | omega)) rfl K_Path.mg K_Path.b .nil (fun σ => L2N.passAt (L2N.takes_of rfl rfl rfl rfl) σ) (pa_cons (pv 0) (pa_cons (pe_tup pa_nil) pa_nil))))), by
    unfold Y_Path_still
    exact (ss_ret (se_p (sp_make rfl (fun _ _ _ => .nil) (sa_cons (sp_v (i := 0)) (sa_cons (sp_tup sa_nil (by decide)) sa_nil)))))⟩)
abbrev st__law_number : Stmt := (top 19)
theorem sc__law_number : FnScope ["actual"] ["actual"] (defScope st__law_number) := ⟨rfl, rfl, rfl, by decide +kernel, rfl, by decide +kernel, by decide +kernel⟩
theorem ok__law_number {f : Addr} {fd : FuncData} (F : Fun K "_law_number" "_law_number" st__law_number f fd) (nb_bool : mg "bool" = none) (nb_int : mg "int" = none) (nb_isinstance : mg "isinstance" = none) (xhn : PySem.W.specialIn K (.builtin "object.__class__") "__get__" = some (some (.builtin "getset_descriptor.__get__"))) (xht : PySem.W.takesIn K (.builtin "object.__class__") = some true) :
    FnOk P w K mg base (L2N.CX P w) 1 f fd ["actual"] (spP K T S__law_number) := by
  refine FnOk.imp ?_ (spP_imp mir__law_number)
  exact fn_P F sc__law_number rfl rfl (fun cdv A outer s H E hr => ⟨_, (pss_one (ps_ret (pe_and (pe_callB (show CallR _ (.builtin "isinstance") (rIsi K) from call_isi) (by rfl) nb_isinstance (by decide +kernel) (pa_cons (pv 0) (pa_cons (pe_bltn (v := .ty "int") (by rfl) nb_int (by decide +kernel) rfl) pa_nil))) (pe_one (pe_not (pe_callB (show CallR _ (.builtin "isinstance") (rIsi K) from call_isi) (by rfl) nb_isinstance (by decide +kernel) (pa_cons (pv 0) (pa_cons (pe_bltn (v := .ty "bool") (by rfl) nb_bool (by decide +kernel) rfl) pa_nil)))))))), by
    unfold Y__law_number
    exact (ss_ret (se_p (sp_and (sp_isi (u := V.ty "int") (.ty _) kit_int (by intro p hp; cases hp) xhn xht (sp_v (i := 0))) (sp_not (sp_isi (u := V.ty "bool") (.ty _) kit_bool (by intro p hp; cases hp) xhn xht (sp_v (i := 0)))))))⟩)
abbrev st__law_same : Stmt := (top 20)
theorem sc__law_same : FnScope ["actual", "expected", "k"] ["actual", "expected"] (defScope st__law_same) := ⟨rfl, rfl, rfl, by decide +kernel, rfl, by decide +kernel, by decide +kernel⟩
theorem rec__law_same {f : Addr} {fd : FuncData} (F : Fun K "_law_same" "_law_same" st__law_same f fd) {f__law_number : Addr} {fd__law_number : FuncData} (C__law_number : Cal P w K mg base (L2N.CX P w) 1 "_law_number" ["actual"] (spP K T S__law_number) f__law_number fd__law_number) (sg : mg "_law_same" = some (.ref f)) (sk : PySem.W.keepIn K (.ref f) = true) (sb : Binds K fd ["actual", "expected"] []) (nb_bool : mg "bool" = none) (nb_int : mg "int" = none) (nb_isinstance : mg "isinstance" = none) (nb_len : mg "len" = none) (nb_list : mg "list" = none) (nb_range : mg "range" = none) (nb_str : mg "str" = none) (nb_tuple : mg "tuple" = none) (xhn : PySem.W.specialIn K (.builtin "object.__class__") "__get__" = some (some (.builtin "getset_descriptor.__get__"))) (xht : PySem.W.takesIn K (.builtin "object.__class__") = some true) :
    ∀ n : Nat, FnOk P w K mg base (L2N.CX P w) (n + 2) f fd ["actual", "expected"] (spP K T (S__law_sameN n))
  | 0 => fn_none fun vs H Q E h => by
    obtain ⟨_, _, _, _, _, _, _, _, h, _⟩ := h
    exact h
  | n + 1 => by
    have C__law_same : Cal P w K mg base (L2N.CX P w) (n + 2) "_law_same" ["actual", "expected"] (spP K T (S__law_sameN n)) f fd := ⟨rec__law_same F C__law_number sg sk sb nb_bool nb_int nb_isinstance nb_len nb_list nb_range nb_str nb_tuple xhn xht n, sg, sk, sb⟩
    exact fn_P F sc__law_same rfl rfl (fun cdv A outer s H E hr => ⟨_, (pss_cons (ps_if (pt_truK K rfl (pe_callB (show CallR _ (.builtin "isinstance") (rIsi K) from call_isi) (by rfl) nb_isinstance (by decide +kernel) (pa_cons (pv 1) (pa_cons (pe_bltn (v := .ty "bool") (by rfl) nb_bool (by decide +kernel) rfl) pa_nil))) (by intro _; rfl)) (pss_one (ps_ret (pe_and (pe_callB (show CallR _ (.builtin "isinstance") (rIsi K) from call_isi) (by rfl) nb_isinstance (by decide +kernel) (pa_cons (pv 0) (pa_cons (pe_bltn (v := .ty "bool") (by rfl) nb_bool (by decide +kernel) rfl) pa_nil))) (pe_one (pe_cmpR (show OpR _ (compareOp .Eq) (rEqP K) from (op_eqP hr.units)) (pv 0) (pv 1) (nomark _)))))) pss_nil) (pss_cons (ps_if (pt_truK K rfl (pe_callB (show CallR _ (.builtin "isinstance") (rIsi K) from call_isi) (by rfl) nb_isinstance (by decide +kernel) (pa_cons (pv 1) (pa_cons (pe_bltn (v := .ty "int") (by rfl) nb_int (by decide +kernel) rfl) pa_nil))) (by intro _; rfl)) (pss_one (ps_ret (pe_and (pe_callSD C__law_number.G (hr.mono (by first | decide | omega)) rfl C__law_number.mg C__law_number.kp C__law_number.b .nil (fun σ => L2N.passAt (L2N.takes_of rfl rfl rfl rfl) σ) (pa_cons (pv 0) pa_nil)) (pe_one (pe_cmpR (show OpR _ (compareOp .Eq) (rEqP K) from (op_eqP hr.units)) (pv 0) (pv 1) (nomark _)))))) pss_nil) (pss_cons (ps_if (pt_truK K rfl (pe_callB (show CallR _ (.builtin "isinstance") (rIsi K) from call_isi) (by rfl) nb_isinstance (by decide +kernel) (pa_cons (pv 1) (pa_cons (pe_bltn (v := .ty "str") (by rfl) nb_str (by decide +kernel) rfl) pa_nil))) (by intro _; rfl)) (pss_one (ps_ret (pe_and (pe_callB (show CallR _ (.builtin "isinstance") (rIsi K) from call_isi) (by rfl) nb_isinstance (by decide +kernel) (pa_cons (pv 0) (pa_cons (pe_bltn (v := .ty "str") (by rfl) nb_str (by decide +kernel) rfl) pa_nil))) (pe_one (pe_cmpR (show OpR _ (compareOp .Eq) (rEqP K) from (op_eqP hr.units)) (pv 0) (pv 1) (nomark _)))))) pss_nil) (pss_cons (ps_if (pt_cmp (pc_isN (pv 1)) rfl) (pss_one (ps_ret (pe_cmp (pc_isN (pv 0)) rfl))) pss_nil) (pss_cons (ps_if (PW.pt (pw_and (pt_truK K rfl (pe_callB (show CallR _ (.builtin "isinstance") (rIsi K) from call_isi) (by rfl) nb_isinstance (by decide +kernel) (pa_cons (pv 1) (pa_cons (pe_bltn (v := .ty "tuple") (by rfl) nb_tuple (by decide +kernel) rfl) pa_nil))) (by intro _; rfl)) (pw_and1 (pt_not (pt_truK K rfl (pe_callB (show CallR _ (.builtin "isinstance") (rIsi K) from call_isi) (by rfl) nb_isinstance (by decide +kernel) (pa_cons (pv 0) (pa_cons (pe_bltn (v := .ty "tuple") (by rfl) nb_tuple (by decide +kernel) rfl) pa_nil))) (by intro _; rfl)))))) (pss_one (ps_ret pe_bl)) pss_nil) (pss_cons (ps_if (PW.pt (pw_and (pt_truK K rfl (pe_callB (show CallR _ (.builtin "isinstance") (rIsi K) from call_isi) (by rfl) nb_isinstance (by decide +kernel) (pa_cons (pv 1) (pa_cons (pe_bltn (v := .ty "list") (by rfl) nb_list (by decide +kernel) rfl) pa_nil))) (by intro _; rfl)) (pw_and1 (pt_not (pt_truK K rfl (pe_callB (show CallR _ (.builtin "isinstance") (rIsi K) from call_isi) (by rfl) nb_isinstance (by decide +kernel) (pa_cons (pv 0) (pa_cons (pe_bltn (v := .ty "list") (by rfl) nb_list (by decide +kernel) rfl) pa_nil))) (by intro _; rfl)))))) (pss_one (ps_ret pe_bl)) pss_nil) (pss_cons (ps_if (pt_cmpR (show OpR _ (compareOp .NotEq) (rNeP K) from (op_neP hr.units)) (pe_callB (show CallR _ (.builtin "len") (rLenZ K) from call_lenZ) (by rfl) nb_len (by decide +kernel) (pa_cons (pv 0) pa_nil)) (pe_callB (show CallR _ (.builtin "len") (rLenZ K) from call_lenZ) (by rfl) nb_len (by decide +kernel) (pa_cons (pv 1) pa_nil)) (nomark _)) (pss_one (ps_ret pe_bl)) pss_nil) (pss_cons (ps_for (passes_of rfl) rfl (pi_range1 (by rfl) nb_range (pa_cons (pe_callB (show CallR _ (.builtin "len") (rLenZ K) from call_lenZ) (by rfl) nb_len (by decide +kernel) (pa_cons (pv 1) pa_nil)) pa_nil)) (pg_name (i := 2) sc__law_same.nd rfl (Or.inl rfl)) (pss_one (ps_if (pt_not (pt_truK K rfl (pe_callSD C__law_same.G (hr.mono (by first | decide | omega)) rfl C__law_same.mg C__law_same.kp C__law_same.b .nil (fun σ => L2N.passAt (L2N.takes_of rfl rfl rfl rfl) σ) (pa_cons (pe_ix (show IxR _ (rIx K) from ix_seq) (pv 0) (pv 2) (fun _ _ => rfl)) (pa_cons (pe_ix (show IxR _ (rIx K) from ix_seq) (pv 1) (pv 2) (fun _ _ => rfl)) pa_nil))) (by intro _; rfl))) (pss_one (ps_ret pe_bl)) pss_nil))) (pss_one (ps_ret pe_bl)))))))))), by
    unfold Y__law_same
    exact (ss_seq (ss_if (sbe_p (sb_tru (sp_isi (u := V.ty "bool") (.ty _) kit_bool (by intro p hp; cases hp) xhn xht (sp_v (i := 1))))) (ss_ret (se_p (sp_and (sp_isi (u := V.ty "bool") (.ty _) kit_bool (by intro p hp; cases hp) xhn xht (sp_v (i := 0))) (sp_2 ops_eq (sp_v (i := 0)) (sp_v (i := 1)))))) ss_next) (ss_seq (ss_if (sbe_p (sb_tru (sp_isi (u := V.ty "int") (.ty _) kit_int (by intro p hp; cases hp) xhn xht (sp_v (i := 1))))) (ss_ret (se_p (sp_and (sp_call (sa_cons (sp_v (i := 0)) sa_nil)) (sp_2 ops_eq (sp_v (i := 0)) (sp_v (i := 1)))))) ss_next) (ss_seq (ss_if (sbe_p (sb_tru (sp_isi (u := V.ty "str") (.ty _) kit_str (by intro p hp; cases hp) xhn xht (sp_v (i := 1))))) (ss_ret (se_p (sp_and (sp_isi (u := V.ty "str") (.ty _) kit_str (by intro p hp; cases hp) xhn xht (sp_v (i := 0))) (sp_2 ops_eq (sp_v (i := 0)) (sp_v (i := 1)))))) ss_next) (ss_seq (ss_if (sbe_p (sb_test (sp_isN (sp_v (i := 1))))) (ss_ret (se_p (sp_isN (sp_v (i := 0))))) ss_next) (ss_seq (ss_if (sbe_p (sb_and (sb_tru (sp_isi (u := V.ty "tuple") (.ty _) kit_tuple (by intro p hp; cases hp) xhn xht (sp_v (i := 1)))) (sb_not (sb_tru (sp_isi (u := V.ty "tuple") (.ty _) kit_tuple (by intro p hp; cases hp) xhn xht (sp_v (i := 0))))))) (ss_ret (se_p sp_bl)) ss_next) (ss_seq (ss_if (sbe_p (sb_and (sb_tru (sp_isi (u := V.ty "list") (.ty _) kit_list (by intro p hp; cases hp) xhn xht (sp_v (i := 1)))) (sb_not (sb_tru (sp_isi (u := V.ty "list") (.ty _) kit_list (by intro p hp; cases hp) xhn xht (sp_v (i := 0))))))) (ss_ret (se_p sp_bl)) ss_next) (ss_seq (ss_if (sbe_p (sb_test (sp_2 ops_ne (sp_len (sp_v (i := 0))) (sp_len (sp_v (i := 1)))))) (ss_ret (se_p sp_bl)) ss_next) (ss_seq (ss_for (si_R1 (sp_len (sp_v (i := 1)))) sg_nm (ss_if (sbe_p (sb_not (sb_tru (sp_call (sa_cons (sp_ix (sp_v (i := 0)) (sp_v (i := 2))) (sa_cons (sp_ix (sp_v (i := 1)) (sp_v (i := 2))) sa_nil)))))) (ss_ret (se_p sp_bl)) ss_next)) (ss_ret (se_p sp_bl))))))))))⟩)
theorem ok__law_same {f : Addr} {fd : FuncData} (F : Fun K "_law_same" "_law_same" st__law_same f fd) {f__law_number : Addr} {fd__law_number : FuncData} (C__law_number : Cal P w K mg base (L2N.CX P w) 1 "_law_number" ["actual"] (spP K T S__law_number) f__law_number fd__law_number) (sg : mg "_law_same" = some (.ref f)) (sk : PySem.W.keepIn K (.ref f) = true) (sb : Binds K fd ["actual", "expected"] []) (nb_bool : mg "bool" = none) (nb_int : mg "int" = none) (nb_isinstance : mg "isinstance" = none) (nb_len : mg "len" = none) (nb_list : mg "list" = none) (nb_range : mg "range" = none) (nb_str : mg "str" = none) (nb_tuple : mg "tuple" = none) (xhn : PySem.W.specialIn K (.builtin "object.__class__") "__get__" = some (some (.builtin "getset_descriptor.__get__"))) (xht : PySem.W.takesIn K (.builtin "object.__class__") = some true) :
    FnOk P w K mg base (L2N.CX P w) 14 f fd ["actual", "expected"] (spP K T S__law_same) := by
  refine FnOk.imp ?_ (spP_imp mir__law_same)
  exact rec__law_same F C__law_number sg sk sb nb_bool nb_int nb_isinstance nb_len nb_list nb_range nb_str nb_tuple xhn xht 12
abbrev st_Path_len : Stmt := (inClass (top 13) 13)
theorem sc_Path_len : FnScope ["self"] ["self"] (defScope st_Path_len) := ⟨rfl, rfl, rfl, by decide +kernel, rfl, by decide +kernel, by decide +kernel⟩
theorem ok_Path_len {f : Addr} {fd : FuncData} (F : Fun K "__len__" "Path.__len__" st_Path_len f fd) (nb_len : mg "len" = none) :
    FnOk P w K mg base (L2N.CX P w) 1 f fd ["self"] (spP K T S_Path_len) := by
  refine FnOk.imp ?_ (spP_imp mir_Path_len)
  exact fn_P F sc_Path_len rfl rfl (fun cdv A outer s H E hr => ⟨_, (pss_one (ps_ret (pe_callB (show CallR _ (.builtin "len") (rLenZ K) from call_lenZ) (by rfl) nb_len (by decide +kernel) (pa_cons (pe_fldK K rfl (pv 0) rfl) pa_nil)))), by
    unfold Y_Path_len
    exact (ss_ret (se_p (sp_len (sp_fl rfl (sp_v (i := 0))))))⟩)
abbrev st__law_path_is : Stmt := (top 24)
theorem sc__law_path_is : FnScope ["path", "near", "row"] ["path", "near", "row"] (defScope st__law_path_is) := ⟨rfl, rfl, rfl, by decide +kernel, rfl, by decide +kernel, by decide +kernel⟩
theorem ok__law_path_is {f : Addr} {fd : FuncData} (F : Fun K "_law_path_is" "_law_path_is" st__law_path_is f fd) {f__law_same : Addr} {fd__law_same : FuncData} (C__law_same : Cal P w K mg base (L2N.CX P w) 14 "_law_same" ["actual", "expected"] (spP K T S__law_same) f__law_same fd__law_same) (mC_Path : mg "Path" = some (.ref (T "Path"))) (nb_isinstance : mg "isinstance" = none) (nb_tuple : mg "tuple" = none) (xhn : PySem.W.specialIn K (.builtin "object.__class__") "__get__" = some (some (.builtin "getset_descriptor.__get__"))) (xht : PySem.W.takesIn K (.builtin "object.__class__") = some true) :
    FnOk P w K mg base (L2N.CX P w) 15 f fd ["path", "near", "row"] (spP K T S__law_path_is) := by
  refine FnOk.imp ?_ (spP_imp mir__law_path_is)
  exact fn_P F sc__law_path_is rfl rfl (fun cdv A outer s H E hr => ⟨_, (pss_cons (ps_if (pt_not (pt_truK K rfl (pe_callB (show CallR _ (.builtin "isinstance") (rIsi K) from call_isi) (by rfl) nb_isinstance (by decide +kernel) (pa_cons (pv 0) (pa_cons (pe_glob (v := .ref (T "Path")) rfl mC_Path rfl) pa_nil))) (by intro _; rfl))) (pss_one (ps_ret pe_bl)) pss_nil) (pss_one (ps_ret (pe_callSD C__law_same.G (hr.mono (by first | decide | omega)) rfl C__law_same.mg C__law_same.kp C__law_same.b .nil (fun σ => L2N.passAt (L2N.takes_of rfl rfl rfl rfl) σ) (pa_cons (pe_tup (pa_cons (pe_fldK K rfl (pv 0) rfl) (pa_cons (pe_fldK K rfl (pv 0) rfl) pa_nil))) (pa_cons (pe_tup (pa_cons (pv 1) (pa_cons (pe_callTy (show CallR _ (.type "tuple") (rTupZ K) from call_tupZ) (by rfl) nb_tuple (by decide +kernel) (pa_cons (pv 2) pa_nil)) pa_nil))) pa_nil)))))), by
    unfold Y__law_path_is
    exact (ss_seq (ss_if (sbe_p (sb_not (sb_tru (sp_isi (u := V.ref (T "Path")) (.own _) (by intro p hp; cases hp) (by intro p hp; simp only [List.mem_cons, List.not_mem_nil, or_false] at hp; rcases hp with rfl <;> first | exact kit_self) xhn xht (sp_v (i := 0)))))) (ss_ret (se_p sp_bl)) ss_next) (ss_ret (se_p (sp_call (sa_cons (sp_tup (sa_cons (sp_fl rfl (sp_v (i := 0))) (sa_cons (sp_fl rfl (sp_v (i := 0))) sa_nil)) (by decide)) (sa_cons (sp_tup (sa_cons (sp_v (i := 1)) (sa_cons (sp_tuple (sp_v (i := 2))) sa_nil)) (by decide)) sa_nil))))))⟩)
abbrev st__law_are : Stmt := (top 28)
theorem sc__law_are : FnScope ["told", "one"] ["told"] (defScope st__law_are) := ⟨rfl, rfl, rfl, by decide +kernel, rfl, by decide +kernel, by decide +kernel⟩
theorem ok__law_are {f : Addr} {fd : FuncData} (F : Fun K "_law_are" "_law_are" st__law_are f fd) {f__law_same : Addr} {fd__law_same : FuncData} (C__law_same : Cal P w K mg base (L2N.CX P w) 14 "_law_same" ["actual", "expected"] (spP K T S__law_same) f__law_same fd__law_same) {f_Path_len : Addr} {fd_Path_len : FuncData} (M_Path_len : CalM P w K mg base (L2N.CX P w) 1 (T "Path") "__len__" ["self"] (spP K T S_Path_len) f_Path_len fd_Path_len) {f__law_path_is : Addr} {fd__law_path_is : FuncData} (C__law_path_is : Cal P w K mg base (L2N.CX P w) 15 "_law_path_is" ["path", "near", "row"] (spP K T S__law_path_is) f__law_path_is fd__law_path_is) (nb_len : mg "len" = none) :
    FnOk P w K mg base (L2N.CX P w) 16 f fd ["told"] (spP K T S__law_are) := by
  refine FnOk.imp ?_ (spP_imp mir__law_are)
  exact fn_P F sc__law_are rfl rfl (fun cdv A outer s H E hr => ⟨_, (pss_cons (ps_for (passes_of rfl) rfl (pi_seqK K rfl (pv 0)) (pg_name (i := 1) sc__law_are.nd rfl (Or.inl rfl)) (pss_one (ps_if (PW.pt (pw_or (pt_not (pt_truK K rfl (pe_callSD C__law_path_is.G (hr.mono (by first | decide | omega)) rfl C__law_path_is.mg C__law_path_is.kp C__law_path_is.b .nil (fun σ => L2N.passAt (L2N.takes_of rfl rfl rfl rfl) σ) (pa_cons (pe_ix (show IxR _ (rIx K) from ix_seq) (pv 1) pe_int (fun _ _ => rfl)) (pa_cons (pe_ix (show IxR _ (rIx K) from ix_seq) (pe_ix (show IxR _ (rIx K) from ix_seq) (pv 1) pe_int (fun _ _ => rfl)) pe_int (fun _ _ => rfl)) (pa_cons (pe_ix (show IxR _ (rIx K) from ix_seq) (pe_ix (show IxR _ (rIx K) from ix_seq) (pv 1) pe_int (fun _ _ => rfl)) pe_int (fun _ _ => rfl)) pa_nil)))) (by intro _; rfl))) (pw_or1 (pt_not (pt_truK K rfl (pe_callSD C__law_same.G (hr.mono (by first | decide | omega)) rfl C__law_same.mg C__law_same.kp C__law_same.b .nil (fun σ => L2N.passAt (L2N.takes_of rfl rfl rfl rfl) σ) (pa_cons (pe_callB (show CallR _ (.builtin "len") (rLenO (T "Path") (spP K T S_Path_len)) from call_lenO M_Path_len.G (hr.mono (by first | decide | omega)) M_Path_len.b M_Path_len.me.at_ M_Path_len.me.fn) (by rfl) nb_len (by decide +kernel) (pa_cons (pe_ix (show IxR _ (rIx K) from ix_seq) (pv 1) pe_int (fun _ _ => rfl)) pa_nil)) (pa_cons (pe_callB (show CallR _ (.builtin "len") (rLenZ K) from call_lenZ) (by rfl) nb_len (by decide +kernel) (pa_cons (pe_ix (show IxR _ (rIx K) from ix_seq) (pe_ix (show IxR _ (rIx K) from ix_seq) (pv 1) pe_int (fun _ _ => rfl)) pe_int (fun _ _ => rfl)) pa_nil)) pa_nil))) (by intro _; rfl)))))) (pss_one (ps_ret pe_bl)) pss_nil))) (pss_one (ps_ret pe_bl))), by
    unfold Y__law_are
    exact (ss_seq (ss_for (si_S (sp_v (i := 0))) sg_nm (ss_if (sbe_p (sb_or (sb_not (sb_tru (sp_call (sa_cons (sp_ix (sp_v (i := 1)) sp_int) (sa_cons (sp_ix (sp_ix (sp_v (i := 1)) sp_int) sp_int) (sa_cons (sp_ix (sp_ix (sp_v (i := 1)) sp_int) sp_int) sa_nil)))))) (sb_not (sb_tru (sp_call (sa_cons (sp_lenO rfl (sp_ix (sp_v (i := 1)) sp_int)) (sa_cons (sp_len (sp_ix (sp_ix (sp_v (i := 1)) sp_int) sp_int)) sa_nil))))))) (ss_ret (se_p sp_bl)) ss_next)) (ss_ret (se_p sp_bl)))⟩)
abbrev st_Path_eq : Stmt := (inClass (top 13) 9)
theorem sc_Path_eq : FnScope ["self", "other"] ["self", "other"] (defScope st_Path_eq) := ⟨rfl, rfl, rfl, by decide +kernel, rfl, by decide +kernel, by decide +kernel⟩
theorem ok_Path_eq {f : Addr} {fd : FuncData} (F : Fun K "__eq__" "Path.__eq__" st_Path_eq f fd) (mC_Path : mg "Path" = some (.ref (T "Path"))) (nb_isinstance : mg "isinstance" = none) (xhn : PySem.W.specialIn K (.builtin "object.__class__") "__get__" = some (some (.builtin "getset_descriptor.__get__"))) (xht : PySem.W.takesIn K (.builtin "object.__class__") = some true) :
    FnOk P w K mg base (L2N.CX P w) 1 f fd ["self", "other"] (spP K T S_Path_eq) := by
  refine FnOk.imp ?_ (spP_imp mir_Path_eq)
  exact fn_P F sc_Path_eq rfl rfl (fun cdv A outer s H E hr => ⟨_, (pss_cons (ps_if (pt_not (pt_truK K rfl (pe_callB (show CallR _ (.builtin "isinstance") (rIsi K) from call_isi) (by rfl) nb_isinstance (by decide +kernel) (pa_cons (pv 1) (pa_cons (pe_glob (v := .ref (T "Path")) rfl mC_Path rfl) pa_nil))) (by intro _; rfl))) (pss_one ps_never) pss_nil) (pss_one (ps_ret (pe_cmpR (show OpR _ (compareOp .Eq) (rEqP K) from (op_eqP hr.units)) (pe_tup (pa_cons (pe_fldK K rfl (pv 0) rfl) (pa_cons (pe_fldK K rfl (pv 0) rfl) (pa_cons (pe_fldK K rfl (pv 0) rfl) pa_nil)))) (pe_tup (pa_cons (pe_fldK K rfl (pv 1) rfl) (pa_cons (pe_fldK K rfl (pv 1) rfl) (pa_cons (pe_fldK K rfl (pv 1) rfl) pa_nil)))) (nomark _))))), by
    unfold Y_Path_eq
    exact (ss_seq (ss_if (sbe_p (sb_not (sb_tru (sp_isi (u := V.ref (T "Path")) (.own _) (by intro p hp; cases hp) (by intro p hp; simp only [List.mem_cons, List.not_mem_nil, or_false] at hp; rcases hp with rfl <;> first | exact kit_self) xhn xht (sp_v (i := 1)))))) ss_never ss_next) (ss_ret (se_p (sp_2 ops_eq (sp_tup (sa_cons (sp_fl rfl (sp_v (i := 0))) (sa_cons (sp_fl rfl (sp_v (i := 0))) (sa_cons (sp_fl rfl (sp_v (i := 0))) sa_nil))) (by decide)) (sp_tup (sa_cons (sp_fl rfl (sp_v (i := 1))) (sa_cons (sp_fl rfl (sp_v (i := 1))) (sa_cons (sp_fl rfl (sp_v (i := 1))) sa_nil))) (by decide))))))⟩)
abbrev st_all_different : Stmt := (top 8)
theorem sc_all_different : FnScope ["places", "index"] ["places"] (defScope st_all_different) := ⟨rfl, rfl, rfl, by decide +kernel, rfl, by decide +kernel, by decide +kernel⟩
theorem ok_all_different {f : Addr} {fd : FuncData} (F : Fun K "all_different" "all_different" st_all_different f fd) (nb_len : mg "len" = none) (nb_range : mg "range" = none) :
    FnOk P w K mg base (L2N.CX P w) 1 f fd ["places"] (spP K T S_all_different) := by
  refine FnOk.imp ?_ (spP_imp mir_all_different)
  exact fn_P F sc_all_different rfl rfl (fun cdv A outer s H E hr => ⟨_, (pss_cons (ps_for (passes_of rfl) rfl (pi_range1 (by rfl) nb_range (pa_cons (pe_callB (show CallR _ (.builtin "len") (rLenZ K) from call_lenZ) (by rfl) nb_len (by decide +kernel) (pa_cons (pv 0) pa_nil)) pa_nil)) (pg_name (i := 1) sc_all_different.nd rfl (Or.inl rfl)) (pss_one (ps_if (pt_cmpR (show OpR _ (compareOp .In) (rInP false K) from (op_inP hr.units)) (pe_ix (show IxR _ (rIx K) from ix_seq) (pv 0) (pv 1) (fun _ _ => rfl)) (pe_slice (show SlR _ (rSlZ K) from sl_Z) (pv 0) po_none (po_some (pv 1))) rfl) (pss_one (ps_ret pe_bl)) pss_nil))) (pss_one (ps_ret pe_bl))), by
    unfold Y_all_different
    exact (ss_seq (ss_for (si_R1 (sp_len (sp_v (i := 0)))) sg_nm (ss_if (sbe_p (sb_test (sp_2 ops_in (sp_ix (sp_v (i := 0)) (sp_v (i := 1))) (sp_sl (sp_v (i := 0)) so_none (so_some (sp_v (i := 1))))))) (ss_ret (se_p sp_bl)) ss_next)) (ss_ret (se_p sp_bl)))⟩)
abbrev st_Path_lot_numbers : Stmt := (inClass (top 13) 5)
theorem sc_Path_lot_numbers : FnScope ["self", "lot", "place"] ["self"] (defScope st_Path_lot_numbers) := ⟨rfl, rfl, rfl, by decide +kernel, rfl, by decide +kernel, by decide +kernel⟩
theorem ok_Path_lot_numbers {f : Addr} {fd : FuncData} (F : Fun K "lot_numbers" "Path.lot_numbers" st_Path_lot_numbers f fd) (nb_tuple : mg "tuple" = none) :
    FnOk P w K mg base (L2N.CX P w) 1 f fd ["self"] (spP K T S_Path_lot_numbers) := by
  refine FnOk.imp ?_ (spP_imp mir_Path_lot_numbers)
  exact fn_P F sc_Path_lot_numbers rfl rfl (fun cdv A outer s H E hr => ⟨_, (pss_one (ps_ret (pe_callTy (show CallR _ (.type "tuple") (rTupZ K) from call_tupZ) (by rfl) nb_tuple (by decide +kernel) (pa_cons (pe_lc (own := [("lot", 1), ("place", 2)]) (g := gTup K 2 (gCons (gName 1) (gCons (gName 2) gNil))) (tt := L2.tYes) rfl sc_Path_lot_numbers.nd (pi_seqK K rfl (pe_fldK K rfl (pv 0) rfl)) (blkOk_by (own := [("lot", 1), ("place", 2)]) (N := ["self", "lot", "place"]) (sc := defScope st_Path_lot_numbers) (by decide +kernel)) (fun _ _ _ _ _ => (pg_tup rfl (pgs_cons (pg_name (i := 1) sc_Path_lot_numbers.nd rfl (Or.inl rfl)) (pgs_cons (pg_name (i := 2) sc_Path_lot_numbers.nd rfl (Or.inl rfl)) pgs_nil)))) (fun _ _ _ _ _ => pts_nil) (fun _ _ _ _ _ => (pv 1))) pa_nil)))), by
    unfold Y_Path_lot_numbers
    exact (ss_ret (se_p (sp_tuple (sp_lc (sic_E (sp_fl rfl (sp_v (i := 0)))) (gok_tp (is := [1, 2]) rfl (by decide)) (sg_tp (is := [1, 2]) rfl rfl) sb_yes (sp_v (i := 1))))))⟩)
abbrev st_share_no_lot : Stmt := (top 14)
theorem sc_share_no_lot : FnScope ["paths", "path", "number"] (([] : List Str) ++ [("paths" : Str)]) (defScope st_share_no_lot) := ⟨rfl, rfl, rfl, by decide +kernel, rfl, by decide +kernel, by decide +kernel⟩
theorem ok_share_no_lot {f : Addr} {fd : FuncData} (F : Fun K "share_no_lot" "share_no_lot" st_share_no_lot f fd) {f_all_different : Addr} {fd_all_different : FuncData} (C_all_different : Cal P w K mg base (L2N.CX P w) 1 "all_different" ["places"] (spP K T S_all_different) f_all_different fd_all_different) {p_Path_lot_numbers f_Path_lot_numbers : Addr} {fd_Path_lot_numbers : FuncData} (M_Path_lot_numbers : CalP P w K mg base (L2N.CX P w) 1 (T "Path") "lot_numbers" ["self"] (spP K T S_Path_lot_numbers) p_Path_lot_numbers f_Path_lot_numbers fd_Path_lot_numbers) :
    FnR P w K mg base (L2N.CX P w) 3 f (spP K T (starS 0 S_share_no_lot)) := by
  exact fn_PS (ps := []) F sc_share_no_lot rfl rfl (fun _ _ _ _ _ _ us rest hl => match us, hl with | [], _ => by (unfold bindArgs; have hv : (defArgs st_share_no_lot).vararg.isNone = false := rfl; dsimp only [PySem.W.fnOf]; simp only [hv, Bool.and_false, Bool.false_eq_true, if_false]; rfl)) mir_share_no_lot (fun cdv A outer s H E hr => ⟨_, (pss_one (ps_ret (pe_callSD C_all_different.G (hr.mono (by first | decide | omega)) rfl C_all_different.mg C_all_different.kp C_all_different.b .nil (fun σ => L2N.passAt (L2N.takes_of rfl rfl rfl rfl) σ) (pa_cons (pe_lc2 (own := [("path", 1), ("number", 2)]) (vs1 := [2]) (g := gName 1) (g1 := gName 2) (tt := L2.tYes) (tt1 := L2.tYes) rfl sc_share_no_lot.nd (pi_seqK K rfl (pv 0)) (blkOk_by (own := [("path", 1), ("number", 2)]) (N := ["paths", "path", "number"]) (sc := defScope st_share_no_lot) (by decide +kernel)) (by decide) (fun _ _ _ _ _ => (pg_name (i := 1) sc_share_no_lot.nd rfl (Or.inl rfl))) (fun _ _ _ _ _ => pts_nil) (fun _ _ _ _ _ => (pi_seqK K rfl (pe_prop (pv 1) M_Path_lot_numbers.cl M_Path_lot_numbers.pr M_Path_lot_numbers.G (hr.mono (by first | decide | omega)) M_Path_lot_numbers.b .nil passN rfl))) (fun _ _ _ _ _ => (pg_name (i := 2) sc_share_no_lot.nd rfl (Or.inl rfl))) (fun _ _ _ _ _ => pts_nil) (fun _ _ _ _ _ => (pv 2))) pa_nil)))), by
    unfold Y_share_no_lot
    exact (ss_ret (se_p (sp_call (sa_cons (sp_lc2 (sic_E (sp_v (i := 0))) (gok_nm (by decide)) sg_nm sb_yes (si_S (sp_propN rfl (sp_v (i := 1)))) (gok_nm (by decide)) sg_nm sb_yes (sp_v (i := 2))) sa_nil))))⟩)
abbrev st__law_apart_due : Stmt := (top 31)
theorem sc__law_apart_due : FnScope ["pairs", "numbers", "pair", "step", "k"] ["pairs"] (defScope st__law_apart_due) := ⟨rfl, rfl, rfl, by decide +kernel, rfl, by decide +kernel, by decide +kernel⟩
theorem ok__law_apart_due {f : Addr} {fd : FuncData} (F : Fun K "_law_apart_due" "_law_apart_due" st__law_apart_due f fd) (nb_len : mg "len" = none) (nb_range : mg "range" = none) :
    FnOk P w K mg base (L2N.CX P w) 1 f fd ["pairs"] (spP K T S__law_apart_due) := by
  refine FnOk.imp ?_ (spP_imp mir__law_apart_due)
  exact fn_P F sc__law_apart_due rfl rfl (fun cdv A outer s H E hr => ⟨_, (pss_cons (ps_set (i := 1) sc__law_apart_due.nd rfl (Or.inr rfl) (pe_lst pa_nil)) (pss_cons (ps_for (passes_of rfl) rfl (pi_seqK K rfl (pv 0)) (pg_name (i := 2) sc__law_apart_due.nd rfl (Or.inl rfl)) (pss_one (ps_set (i := 1) sc__law_apart_due.nd rfl (Or.inr rfl) (pe_op (show OpR _ (binaryOp .Add) (rAddZ K) from op_addZ) (pv 1) (pe_lc (own := [("step", 3)]) (g := gName 3) (tt := L2.tYes) rfl sc__law_apart_due.nd (pi_seqK K rfl (pe_ix (show IxR _ (rIx K) from ix_seq) (pv 2) pe_int (fun _ _ => rfl))) (blkOk_by (own := [("step", 3)]) (N := ["pairs", "numbers", "pair", "step", "k"]) (sc := defScope st__law_apart_due) (by decide +kernel)) (fun _ _ _ _ _ => (pg_name (i := 3) sc__law_apart_due.nd rfl (Or.inl rfl))) (fun _ _ _ _ _ => pts_nil) (fun _ _ _ _ _ => (pe_ix (show IxR _ (rIx K) from ix_seq) (pv 3) pe_int (fun _ _ => rfl)))))))) (pss_one (ps_ret (pe_cmpR (show OpR _ (compareOp .Eq) (rEqP K) from (op_eqP hr.units)) (pe_callB (show CallR _ (.builtin "len") (rLenZ K) from call_lenZ) (by rfl) nb_len (by decide +kernel) (pa_cons (pe_lc (own := [("k", 4)]) (g := gName 4) rfl sc__law_apart_due.nd (pi_range1 (by rfl) nb_range (pa_cons (pe_callB (show CallR _ (.builtin "len") (rLenZ K) from call_lenZ) (by rfl) nb_len (by decide +kernel) (pa_cons (pv 1) pa_nil)) pa_nil)) (blkOk_by (own := [("k", 4)]) (N := ["pairs", "numbers", "pair", "step", "k"]) (sc := defScope st__law_apart_due) (by decide +kernel)) (fun _ _ _ _ _ => (pg_name (i := 4) sc__law_apart_due.nd rfl (Or.inl rfl))) (fun _ _ _ _ _ => pts_one (pt_cmpR (show OpR _ (compareOp .In) (rInP false K) from (op_inP hr.units)) (pe_ix (show IxR _ (rIx K) from ix_seq) (pv 1) (pv 4) (fun _ _ => rfl)) (pe_slice (show SlR _ (rSlZ K) from sl_Z) (pv 1) po_none (po_some (pv 4))) rfl)) (fun _ _ _ _ _ => (pv 4))) pa_nil)) pe_int (nomark _)))))), by
    unfold Y__law_apart_due
    exact (ss_seq (ss_asgF (se_p (sp_lst sa_nil (by decide)))) (ss_seq (ss_for (si_S (sp_v (i := 0))) sg_nm (ss_asgF (se_p (sp_add (sp_v (i := 1)) (sp_lc (sic_E (sp_ix (sp_v (i := 2)) sp_int)) (gok_nm (by decide)) sg_nm sb_yes (sp_ix (sp_v (i := 3)) sp_int)))))) (ss_ret (se_p (sp_2 ops_eq (sp_len (sp_lc (sic_of (si_R1 (sp_len (sp_v (i := 1))))) (gok_nm (by decide)) sg_nm (sb_test (sp_2 ops_in (sp_ix (sp_v (i := 1)) (sp_v (i := 4))) (sp_sl (sp_v (i := 1)) so_none (so_some (sp_v (i := 4)))))) (sp_v (i := 4)))) sp_int)))))⟩)
abbrev st__law_shared : Stmt := (top 32)
theorem sc__law_shared : FnScope ["paths", "pairs", "told", "due", "none"] ["paths", "pairs"] (defScope st__law_shared) := ⟨rfl, rfl, rfl, by decide +kernel, rfl, by decide +kernel, by decide +kernel⟩
theorem ok__law_shared {f : Addr} {fd : FuncData} (F : Fun K "_law_shared" "_law_shared" st__law_shared f fd) {f_share_no_lot : Addr} (C_share_no_lot : CalR P w K mg base (L2N.CX P w) 3 "share_no_lot" (spP K T (starS 0 S_share_no_lot)) f_share_no_lot) {f__law_apart_due : Addr} {fd__law_apart_due : FuncData} (C__law_apart_due : Cal P w K mg base (L2N.CX P w) 1 "_law_apart_due" ["pairs"] (spP K T S__law_apart_due) f__law_apart_due fd__law_apart_due) {f__law_same : Addr} {fd__law_same : FuncData} (C__law_same : Cal P w K mg base (L2N.CX P w) 14 "_law_same" ["actual", "expected"] (spP K T S__law_same) f__law_same fd__law_same) (nb_len : mg "len" = none) :
    FnOk P w K mg base (L2N.CX P w) 15 f fd ["paths", "pairs"] (spP K T S__law_shared) := by
  refine FnOk.imp ?_ (spP_imp mir__law_shared)
  exact fn_P F sc__law_shared rfl rfl (fun cdv A outer s H E hr => ⟨_, (pss_cons (ps_set (i := 2) sc__law_shared.nd rfl (Or.inl rfl) (pe_lst (pa_cons (pe_callRS0 C_share_no_lot.G (hr.mono (by first | decide | omega)) rfl C_share_no_lot.mg C_share_no_lot.kp (fun σ => L2N.passAt (L2N.takes_of rfl rfl rfl rfl) σ)) (pa_cons (pe_callRS C_share_no_lot.G (hr.mono (by first | decide | omega)) rfl C_share_no_lot.mg C_share_no_lot.kp (fun σ => L2N.passAt (L2N.takes_of rfl rfl rfl rfl) σ) (pa_cons (pe_ix (show IxR _ (rIx K) from ix_seq) (pv 0) pe_int (fun _ _ => rfl)) pa_nil)) (pa_cons (pe_callRS C_share_no_lot.G (hr.mono (by first | decide | omega)) rfl C_share_no_lot.mg C_share_no_lot.kp (fun σ => L2N.passAt (L2N.takes_of rfl rfl rfl rfl) σ) (pa_cons (pe_ix (show IxR _ (rIx K) from ix_seq) (pv 0) pe_int (fun _ _ => rfl)) (pa_cons (pe_ix (show IxR _ (rIx K) from ix_seq) (pv 0) pe_int (fun _ _ => rfl)) pa_nil))) pa_nil))))) (pss_cons (ps_set (i := 2) sc__law_shared.nd rfl (Or.inl rfl) (pe_op (show OpR _ (binaryOp .Add) (rAddZ K) from op_addZ) (pv 2) (pe_lst (pa_cons (pe_callRS C_share_no_lot.G (hr.mono (by first | decide | omega)) rfl C_share_no_lot.mg C_share_no_lot.kp (fun σ => L2N.passAt (L2N.takes_of rfl rfl rfl rfl) σ) (pa_cons (pe_ix (show IxR _ (rIx K) from ix_seq) (pv 0) pe_int (fun _ _ => rfl)) (pa_cons (pe_ix (show IxR _ (rIx K) from ix_seq) (pv 0) pe_int (fun _ _ => rfl)) (pa_cons (pe_ix (show IxR _ (rIx K) from ix_seq) (pv 0) pe_int (fun _ _ => rfl)) pa_nil)))) (pa_cons (pe_callRS C_share_no_lot.G (hr.mono (by first | decide | omega)) rfl C_share_no_lot.mg C_share_no_lot.kp (fun σ => L2N.passAt (L2N.takes_of rfl rfl rfl rfl) σ) (pa_cons (pe_ix (show IxR _ (rIx K) from ix_seq) (pv 0) pe_int (fun _ _ => rfl)) (pa_cons (pe_ix (show IxR _ (rIx K) from ix_seq) (pv 0) pe_int (fun _ _ => rfl)) pa_nil))) pa_nil))))) (pss_cons (ps_set (i := 2) sc__law_shared.nd rfl (Or.inl rfl) (pe_op (show OpR _ (binaryOp .Add) (rAddZ K) from op_addZ) (pv 2) (pe_lst (pa_cons (pe_callRS C_share_no_lot.G (hr.mono (by first | decide | omega)) rfl C_share_no_lot.mg C_share_no_lot.kp (fun σ => L2N.passAt (L2N.takes_of rfl rfl rfl rfl) σ) (pa_cons (pe_ix (show IxR _ (rIx K) from ix_seq) (pv 0) pe_int (fun _ _ => rfl)) (pa_cons (pe_ix (show IxR _ (rIx K) from ix_seq) (pv 0) pe_int (fun _ _ => rfl)) (pa_cons (pe_ix (show IxR _ (rIx K) from ix_seq) (pv 0) pe_int (fun _ _ => rfl)) (pa_cons (pe_ix (show IxR _ (rIx K) from ix_seq) (pv 0) pe_int (fun _ _ => rfl)) (pa_cons (pe_ix (show IxR _ (rIx K) from ix_seq) (pv 0) pe_int (fun _ _ => rfl)) pa_nil)))))) pa_nil)))) (pss_cons (ps_set (i := 3) sc__law_shared.nd rfl (Or.inl rfl) (pe_lst (pa_cons pe_bl (pa_cons (pe_callSD C__law_apart_due.G (hr.mono (by first | decide | omega)) rfl C__law_apart_due.mg C__law_apart_due.kp C__law_apart_due.b .nil (fun σ => L2N.passAt (L2N.takes_of rfl rfl rfl rfl) σ) (pa_cons (pe_slice (show SlR _ (rSlZ K) from sl_Z) (pv 1) po_none (po_some pe_int)) pa_nil)) (pa_cons (pe_callSD C__law_apart_due.G (hr.mono (by first | decide | omega)) rfl C__law_apart_due.mg C__law_apart_due.kp C__law_apart_due.b .nil (fun σ => L2N.passAt (L2N.takes_of rfl rfl rfl rfl) σ) (pa_cons (pe_slice (show SlR _ (rSlZ K) from sl_Z) (pv 1) (po_some pe_int) po_none) pa_nil)) (pa_cons (pe_callSD C__law_apart_due.G (hr.mono (by first | decide | omega)) rfl C__law_apart_due.mg C__law_apart_due.kp C__law_apart_due.b .nil (fun σ => L2N.passAt (L2N.takes_of rfl rfl rfl rfl) σ) (pa_cons (pv 1) pa_nil)) pa_nil)))))) (pss_cons (ps_set (i := 4) sc__law_shared.nd rfl (Or.inl rfl) (pe_cmpR (show OpR _ (compareOp .Eq) (rEqP K) from (op_eqP hr.units)) (pe_op (show OpR _ (binaryOp .Add) (rAddZ K) from op_addZ) (pe_callB (show CallR _ (.builtin "len") (rLenZ K) from call_lenZ) (by rfl) nb_len (by decide +kernel) (pa_cons (pe_ix (show IxR _ (rIx K) from ix_seq) (pe_ix (show IxR _ (rIx K) from ix_seq) (pv 1) pe_int (fun _ _ => rfl)) pe_int (fun _ _ => rfl)) pa_nil)) (pe_callB (show CallR _ (.builtin "len") (rLenZ K) from call_lenZ) (by rfl) nb_len (by decide +kernel) (pa_cons (pe_ix (show IxR _ (rIx K) from ix_seq) (pe_ix (show IxR _ (rIx K) from ix_seq) (pv 1) pe_int (fun _ _ => rfl)) pe_int (fun _ _ => rfl)) pa_nil))) pe_int (nomark _))) (pss_one (ps_ret (pe_callSD C__law_same.G (hr.mono (by first | decide | omega)) rfl C__law_same.mg C__law_same.kp C__law_same.b .nil (fun σ => L2N.passAt (L2N.takes_of rfl rfl rfl rfl) σ) (pa_cons (pv 2) (pa_cons (pe_op (show OpR _ (binaryOp .Add) (rAddZ K) from op_addZ) (pv 3) (pe_lst (pa_cons (pe_cmpR (show OpR _ (compareOp .Eq) (rEqP K) from (op_eqP hr.units)) (pe_callB (show CallR _ (.builtin "len") (rLenZ K) from call_lenZ) (by rfl) nb_len (by decide +kernel) (pa_cons (pe_ix (show IxR _ (rIx K) from ix_seq) (pe_ix (show IxR _ (rIx K) from ix_seq) (pv 1) pe_int (fun _ _ => rfl)) pe_int (fun _ _ => rfl)) pa_nil)) pe_int (nomark _)) (pa_cons (pe_and (pv 4) (pe_one (pe_callSD C__law_apart_due.G (hr.mono (by first | decide | omega)) rfl C__law_apart_due.mg C__law_apart_due.kp C__law_apart_due.b .nil (fun σ => L2N.passAt (L2N.takes_of rfl rfl rfl rfl) σ) (pa_cons (pe_slice (show SlR _ (rSlZ K) from sl_Z) (pv 1) (po_some pe_int) po_none) pa_nil)))) pa_nil)))) pa_nil)))))))))), by
    unfold Y__law_shared
    exact (ss_seq (ss_asgF (se_p (sp_lst (sa_cons (sp_callRS sa_nil) (sa_cons (sp_callRS (sa_cons (sp_ix (sp_v (i := 0)) sp_int) sa_nil)) (sa_cons (sp_callRS (sa_cons (sp_ix (sp_v (i := 0)) sp_int) (sa_cons (sp_ix (sp_v (i := 0)) sp_int) sa_nil))) sa_nil))) (by decide)))) (ss_seq (ss_asgF (se_p (sp_add (sp_v (i := 2)) (sp_lst (sa_cons (sp_callRS (sa_cons (sp_ix (sp_v (i := 0)) sp_int) (sa_cons (sp_ix (sp_v (i := 0)) sp_int) (sa_cons (sp_ix (sp_v (i := 0)) sp_int) sa_nil)))) (sa_cons (sp_callRS (sa_cons (sp_ix (sp_v (i := 0)) sp_int) (sa_cons (sp_ix (sp_v (i := 0)) sp_int) sa_nil))) sa_nil)) (by decide))))) (ss_seq (ss_asgF (se_p (sp_add (sp_v (i := 2)) (sp_lst (sa_cons (sp_callRS (sa_cons (sp_ix (sp_v (i := 0)) sp_int) (sa_cons (sp_ix (sp_v (i := 0)) sp_int) (sa_cons (sp_ix (sp_v (i := 0)) sp_int) (sa_cons (sp_ix (sp_v (i := 0)) sp_int) (sa_cons (sp_ix (sp_v (i := 0)) sp_int) sa_nil)))))) sa_nil) (by decide))))) (ss_seq (ss_asgF (se_p (sp_lst (sa_cons sp_bl (sa_cons (sp_call (sa_cons (sp_sl (sp_v (i := 1)) so_none (so_some sp_int)) sa_nil)) (sa_cons (sp_call (sa_cons (sp_sl (sp_v (i := 1)) (so_some sp_int) so_none) sa_nil)) (sa_cons (sp_call (sa_cons (sp_v (i := 1)) sa_nil)) sa_nil)))) (by decide)))) (ss_seq (ss_asgF (se_p (sp_2 ops_eq (sp_add (sp_len (sp_ix (sp_ix (sp_v (i := 1)) sp_int) sp_int)) (sp_len (sp_ix (sp_ix (sp_v (i := 1)) sp_int) sp_int))) sp_int))) (ss_ret (se_p (sp_call (sa_cons (sp_v (i := 2)) (sa_cons (sp_add (sp_v (i := 3)) (sp_lst (sa_cons (sp_2 ops_eq (sp_len (sp_ix (sp_ix (sp_v (i := 1)) sp_int) sp_int)) sp_int) (sa_cons (sp_and (sp_v (i := 4)) (sp_call (sa_cons (sp_sl (sp_v (i := 1)) (so_some sp_int) so_none) sa_nil))) sa_nil)) (by decide))) sa_nil))))))))))⟩)
abbrev st__law_chained : Stmt := (top 29)
theorem sc__law_chained : FnScope ["paths"] ["paths"] (defScope st__law_chained) := ⟨rfl, rfl, rfl, by decide +kernel, rfl, by decide +kernel, by decide +kernel⟩
theorem ok__law_chained {f : Addr} {fd : FuncData} (F : Fun K "_law_chained" "_law_chained" st__law_chained f fd) {p_Path_chain f_Path_chain : Addr} (CM_Path_chain : CalC P w K mg base (L2N.CX P w) 8 (T "Path") "chain" (spP K T (starS 1 S_Path_chain)) p_Path_chain f_Path_chain) (mC_Path : mg "Path" = some (.ref (T "Path"))) (nb_len : mg "len" = none) :
    FnOk P w K mg base (L2N.CX P w) 9 f fd ["paths"] (spP K T S__law_chained) := by
  refine FnOk.imp ?_ (spP_imp mir__law_chained)
  exact fn_P F sc__law_chained rfl rfl (fun cdv A outer s H E hr => ⟨_, (pss_cons (ps_if (pt_cmpR (show OpR _ (compareOp .Eq) (rEqP K) from (op_eqP hr.units)) (pe_callB (show CallR _ (.builtin "len") (rLenZ K) from call_lenZ) (by rfl) nb_len (by decide +kernel) (pa_cons (pv 0) pa_nil)) pe_int (nomark _)) (pss_one (ps_ret (pe_cmethS0 (pe_glob (v := .ref (T "Path")) rfl mC_Path rfl) CM_Path_chain.rd CM_Path_chain.cm CM_Path_chain.G (hr.mono (by first | decide | omega)) (fun σ => L2N.passAt (L2N.takes_of rfl rfl rfl rfl) σ)))) pss_nil) (pss_cons (ps_if (pt_cmpR (show OpR _ (compareOp .Eq) (rEqP K) from (op_eqP hr.units)) (pe_callB (show CallR _ (.builtin "len") (rLenZ K) from call_lenZ) (by rfl) nb_len (by decide +kernel) (pa_cons (pv 0) pa_nil)) pe_int (nomark _)) (pss_one (ps_ret (pe_cmethS (pe_glob (v := .ref (T "Path")) rfl mC_Path rfl) CM_Path_chain.rd CM_Path_chain.cm CM_Path_chain.G (hr.mono (by first | decide | omega)) (fun σ => L2N.passAt (L2N.takes_of rfl rfl rfl rfl) σ) (pa_cons (pe_ix (show IxR _ (rIx K) from ix_seq) (pv 0) pe_int (fun _ _ => rfl)) pa_nil)))) pss_nil) (pss_cons (ps_if (pt_cmpR (show OpR _ (compareOp .Eq) (rEqP K) from (op_eqP hr.units)) (pe_callB (show CallR _ (.builtin "len") (rLenZ K) from call_lenZ) (by rfl) nb_len (by decide +kernel) (pa_cons (pv 0) pa_nil)) pe_int (nomark _)) (pss_one (ps_ret (pe_cmethS (pe_glob (v := .ref (T "Path")) rfl mC_Path rfl) CM_Path_chain.rd CM_Path_chain.cm CM_Path_chain.G (hr.mono (by first | decide | omega)) (fun σ => L2N.passAt (L2N.takes_of rfl rfl rfl rfl) σ) (pa_cons (pe_ix (show IxR _ (rIx K) from ix_seq) (pv 0) pe_int (fun _ _ => rfl)) (pa_cons (pe_ix (show IxR _ (rIx K) from ix_seq) (pv 0) pe_int (fun _ _ => rfl)) pa_nil))))) pss_nil) (pss_one (ps_ret (pe_cmethS (pe_glob (v := .ref (T "Path")) rfl mC_Path rfl) CM_Path_chain.rd CM_Path_chain.cm CM_Path_chain.G (hr.mono (by first | decide | omega)) (fun σ => L2N.passAt (L2N.takes_of rfl rfl rfl rfl) σ) (pa_cons (pe_ix (show IxR _ (rIx K) from ix_seq) (pv 0) pe_int (fun _ _ => rfl)) (pa_cons (pe_ix (show IxR _ (rIx K) from ix_seq) (pv 0) pe_int (fun _ _ => rfl)) (pa_cons (pe_ix (show IxR _ (rIx K) from ix_seq) (pv 0) pe_int (fun _ _ => rfl)) pa_nil))))))))), by
    unfold Y__law_chained
    exact (ss_seq (ss_if (sbe_p (sb_test (sp_2 ops_eq (sp_len (sp_v (i := 0))) sp_int))) (ss_ret (se_p (sp_cmeth rfl sa_nil))) ss_next) (ss_seq (ss_if (sbe_p (sb_test (sp_2 ops_eq (sp_len (sp_v (i := 0))) sp_int))) (ss_ret (se_p (sp_cmeth rfl (sa_cons (sp_ix (sp_v (i := 0)) sp_int) sa_nil)))) ss_next) (ss_seq (ss_if (sbe_p (sb_test (sp_2 ops_eq (sp_len (sp_v (i := 0))) sp_int))) (ss_ret (se_p (sp_cmeth rfl (sa_cons (sp_ix (sp_v (i := 0)) sp_int) (sa_cons (sp_ix (sp_v (i := 0)) sp_int) sa_nil))))) ss_next) (ss_ret (se_p (sp_cmeth rfl (sa_cons (sp_ix (sp_v (i := 0)) sp_int) (sa_cons (sp_ix (sp_v (i := 0)) sp_int) (sa_cons (sp_ix (sp_v (i := 0)) sp_int) sa_nil)))))))))⟩)
abbrev st__law_refused : Stmt := (top 30)
theorem sc__law_refused : FnScope ["paths", "plain", "made", "e"] ["paths", "plain"] (defScope st__law_refused) := ⟨rfl, rfl, rfl, by decide +kernel, rfl, by decide +kernel, by decide +kernel⟩
theorem ok__law_refused {f : Addr} {fd : FuncData} (F : Fun K "_law_refused" "_law_refused" st__law_refused f fd) {f_Path_add : Addr} {fd_Path_add : FuncData} (M_Path_add : CalM P w K mg base (L2N.CX P w) 6 (T "Path") "__add__" ["self", "other"] (spP K T S_Path_add) f_Path_add fd_Path_add) {f__law_chained : Addr} {fd__law_chained : FuncData} (C__law_chained : Cal P w K mg base (L2N.CX P w) 9 "_law_chained" ["paths"] (spP K T S__law_chained) f__law_chained fd__law_chained) {f_Path_len : Addr} {fd_Path_len : FuncData} (M_Path_len : CalM P w K mg base (L2N.CX P w) 1 (T "Path") "__len__" ["self"] (spP K T S_Path_len) f_Path_len fd_Path_len) (E_Mismatch : ErrC K (T "Mismatch")) (E_NetworkError : ErrC K (T "NetworkError")) (E_NoSuchLot : ErrC K (T "NoSuchLot")) (E_PlaceOutOfRange : ErrC K (T "PlaceOutOfRange")) (SV_Mismatch : PySem.W.subIn K (.ref (T "Mismatch")) (.type "ValueError") = some true) (S_Mismatch_Mismatch_t : PySem.W.subIn K (.ref (T "Mismatch")) (.ref (T "Mismatch")) = some true) (S_Mismatch_NetworkError_t : PySem.W.subIn K (.ref (T "Mismatch")) (.ref (T "NetworkError")) = some true) (S_Mismatch_NoSuchLot_f : PySem.W.subIn K (.ref (T "Mismatch")) (.ref (T "NoSuchLot")) = some false) (S_Mismatch_PlaceOutOfRange_f : PySem.W.subIn K (.ref (T "Mismatch")) (.ref (T "PlaceOutOfRange")) = some false) (mC_Mismatch : mg "Mismatch" = some (.ref (T "Mismatch"))) (mC_NetworkError : mg "NetworkError" = some (.ref (T "NetworkError"))) (mC_NoSuchLot : mg "NoSuchLot" = some (.ref (T "NoSuchLot"))) (mC_PlaceOutOfRange : mg "PlaceOutOfRange" = some (.ref (T "PlaceOutOfRange"))) (nb_ValueError : mg "ValueError" = none) (nb_isinstance : mg "isinstance" = none) (nb_len : mg "len" = none) (ne_Mismatch_NoSuchLot : (T "Mismatch") ≠ (T "NoSuchLot")) (ne_Mismatch_PlaceOutOfRange : (T "Mismatch") ≠ (T "PlaceOutOfRange")) (sf_Path : PySem.W.selfFirst K (T "Path") = true) :
    FnOk P w K mg base (L2N.CX P w) 10 f fd ["paths", "plain"] (spP K T S__law_refused) := by
  refine FnOk.imp ?_ (spP_imp mir__law_refused)
  exact fn_P F sc__law_refused rfl rfl (fun cdv A outer s H E hr => ⟨_, (pss_cons (show PS _ _ (tTryAs K (.ref (T "NetworkError")) 3 _ (WD E) _) from L2N.ps_try_as (i := 3) rfl rfl sc__law_refused.nd rfl rfl ⟨rfl, by decide, .inl mC_NetworkError⟩ (L2N.takes_of rfl rfl rfl rfl) (fun W pn xe tk po => (pss_one (ps_if (pt_truK K rfl (pv 1) (by intro _; rfl)) (pss_one (ps_set (i := 2) sc__law_refused.nd rfl (Or.inl rfl) (pe_binS (rt := (Rt.obj (T "Path"))) M_Path_add.G (hr.mono (by first | decide | omega)) M_Path_add.b (fun σ => L2N.passAt tk σ) ⟨M_Path_add.me.at_, M_Path_add.me.fn, sf_Path⟩ (show (T "Path") = (T "Path") ∨ BinOth _ _ _ _ from Or.inl rfl) (pe_ix (show IxR _ (rIx K) from ix_seq) (pv 0) pe_int (fun _ _ => rfl)) (pe_ix (show IxR _ (rIx K) from ix_seq) (pv 0) pe_int (fun _ _ => rfl))))) (pss_one (ps_set (i := 2) sc__law_refused.nd rfl (Or.inl rfl) (pe_callSD C__law_chained.G (hr.mono (by first | decide | omega)) rfl C__law_chained.mg C__law_chained.kp C__law_chained.b .nil (fun σ => L2N.passAt tk σ) (pa_cons (pv 0) pa_nil))))))) (fun a oe cls d pn hz hf => (pss_cons (ps_if (PW.pt (pw_or (pt_truK K rfl (pe_callB (show CallR _ (.builtin "isinstance") (rIsX K a cls d) from call_isX hz hf) (by rfl) nb_isinstance (by decide +kernel) (pa_cons (pv 3) (pa_cons (pe_glob (v := .ref (T "NoSuchLot")) rfl mC_NoSuchLot rfl) pa_nil))) (by intro _; rfl)) (pw_or1 (pt_truK K rfl (pe_callB (show CallR _ (.builtin "isinstance") (rIsX K a cls d) from call_isX hz hf) (by rfl) nb_isinstance (by decide +kernel) (pa_cons (pv 3) (pa_cons (pe_glob (v := .ref (T "PlaceOutOfRange")) rfl mC_PlaceOutOfRange rfl) pa_nil))) (by intro _; rfl))))) (pss_one (ps_ret pe_bl)) pss_nil) (pss_one (ps_ret (pe_and (pe_callB (show CallR _ (.builtin "isinstance") (rIsX K a cls d) from call_isX hz hf) (by rfl) nb_isinstance (by decide +kernel) (pa_cons (pv 3) (pa_cons (pe_glob (v := .ref (T "Mismatch")) rfl mC_Mismatch rfl) pa_nil))) (pe_one (pe_callB (show CallR _ (.builtin "isinstance") (rIsX K a cls d) from call_isX hz hf) (by rfl) nb_isinstance (by decide +kernel) (pa_cons (pv 3) (pa_cons (pe_bltn (v := .ty "ValueError") (by rfl) nb_ValueError (by decide +kernel) rfl) pa_nil)))))))))) (pss_one (ps_ret (pe_cmpR (show OpR _ (compareOp .Lt) rLtI from op_ltI) (pe_callB (show CallR _ (.builtin "len") (rLenO (T "Path") (spP K T S_Path_len)) from call_lenO M_Path_len.G (hr.mono (by first | decide | omega)) M_Path_len.b M_Path_len.me.at_ M_Path_len.me.fn) (by rfl) nb_len (by decide +kernel) (pa_cons (pv 2) pa_nil)) pe_int (nomark _))))), by
    unfold Y__law_refused
    exact (ss_seq (ss_tryAs (by intro p hp; simp only [List.mem_cons, List.not_mem_nil, or_false] at hp; rcases hp with rfl <;> first | exact exm_ok E_NetworkError S_Mismatch_NetworkError_t) (fun W => (ss_if (sbe_p (sb_tru (sp_v (i := 1)))) (ss_asgF (se_p (sp_binS (rt := (some "Path")) rfl rfl (sp_ix (sp_v (i := 0)) sp_int) (sp_ix (sp_v (i := 0)) sp_int)))) (ss_asgF (se_p (sp_call (sa_cons (sp_v (i := 0)) sa_nil)))))) (fun a od cn => (ss_seq (ss_if (sbe_p (sb_or (sb_tru (sp_xi (by intro p hp; simp only [List.mem_cons, List.not_mem_nil, or_false] at hp; rcases hp with rfl <;> first | exact ⟨E_Mismatch.ex, kit_ok E_NoSuchLot S_Mismatch_NoSuchLot_f (fun z => absurd z ne_Mismatch_NoSuchLot)⟩) (fun u z => z))) (sb_tru (sp_xi (by intro p hp; simp only [List.mem_cons, List.not_mem_nil, or_false] at hp; rcases hp with rfl <;> first | exact ⟨E_Mismatch.ex, kit_ok E_PlaceOutOfRange S_Mismatch_PlaceOutOfRange_f (fun z => absurd z ne_Mismatch_PlaceOutOfRange)⟩) (fun u z => z))))) (ss_ret (se_p sp_bl)) ss_next) (ss_ret (se_p (sp_and (sp_xi (by intro p hp; simp only [List.mem_cons, List.not_mem_nil, or_false] at hp; rcases hp with rfl <;> first | exact ⟨E_Mismatch.ex, kit_ok E_Mismatch S_Mismatch_Mismatch_t (by first | (intro; rfl) | (intro z; exact absurd z (by assumption)))⟩) (fun u z => z)) (sp_xi (by intro p hp; simp only [List.mem_cons, List.not_mem_nil, or_false] at hp; rcases hp with rfl <;> first | exact ⟨E_Mismatch.ex, kit_b (by decide +kernel) SV_Mismatch⟩) (fun u z => z)))))))) (ss_ret (se_p (sp_2 ops_lt (sp_lenO rfl (sp_v (i := 2))) sp_int))))⟩)
abbrev st_law : Stmt := (top 33)
theorem sc_law : FnScope ["script", "source", "bound", "menu", "pairs", "k", "paths", "p", "q", "r", "two", "three", "told", "back", "signs", "near", "away", "s", "t", "u", "bad", "pair"] ["script"] (defScope st_law) := ⟨rfl, rfl, rfl, by decide +kernel, rfl, by decide +kernel, by decide +kernel⟩
theorem ok_law {f : Addr} {fd : FuncData} (F : Fun K "law" "law" st_law f fd) {f__law_source : Addr} {fd__law_source : FuncData} (C__law_source : Cal P w K mg base (L2N.CX P w) 1 "_law_source" ["script"] (spP K T S__law_source) f__law_source fd__law_source) {f__law_pick : Addr} {fd__law_pick : FuncData} (C__law_pick : Cal P w K mg base (L2N.CX P w) 3 "_law_pick" ["source", "row"] (spP K T S__law_pick) f__law_pick fd__law_pick) {f__law_steps : Addr} {fd__law_steps : FuncData} (C__law_steps : Cal P w K mg base (L2N.CX P w) 4 "_law_steps" ["source", "total", "menu", "bound"] (spP K T S__law_steps) f__law_steps fd__law_steps) {f__law_draw : Addr} {fd__law_draw : FuncData} (C__law_draw : Cal P w K mg base CX0 2 "_law_draw" ["source", "limit"] (spP K T S__law_draw) f__law_draw fd__law_draw) {f__law_end : Addr} {fd__law_end : FuncData} (C__law_end : Cal P w K mg base (L2N.CX P w) 2 "_law_end" ["pair"] (spP K T S__law_end) f__law_end fd__law_end) {f_Path_init : Addr} {fd_Path_init : FuncData} (K_Path : CalK P w K mg base (L2N.CX P w) 4 "Path" (T "Path") ["self", "start", "steps"] (spN K T "Path" S_Path_init) f_Path_init fd_Path_init) {f__law_sum : Addr} {fd__law_sum : FuncData} (C__law_sum : Cal P w K mg base (L2N.CX P w) 1 "_law_sum" ["first", "second"] (spP K T S__law_sum) f__law_sum fd__law_sum) {f_Path_add : Addr} {fd_Path_add : FuncData} (M_Path_add : CalM P w K mg base (L2N.CX P w) 6 (T "Path") "__add__" ["self", "other"] (spP K T S_Path_add) f_Path_add fd_Path_add) {f__law_back : Addr} {fd__law_back : FuncData} (C__law_back : Cal P w K mg base (L2N.CX P w) 2 "_law_back" ["pair"] (spP K T S__law_back) f__law_back fd__law_back) {f_Path_invert : Addr} {fd_Path_invert : FuncData} (M_Path_invert : CalM P w K mg base (L2N.CX P w) 6 (T "Path") "__invert__" ["self"] (spP K T S_Path_invert) f_Path_invert fd_Path_invert) {p_Path_chain f_Path_chain : Addr} (CM_Path_chain : CalC P w K mg base (L2N.CX P w) 8 (T "Path") "chain" (spP K T (starS 1 S_Path_chain)) p_Path_chain f_Path_chain) {p_Path_still f_Path_still : Addr} (SM_Path_still : CalS P w K mg base (L2N.CX P w) 6 (T "Path") "still" (spP K T S_Path_still) p_Path_still f_Path_still) {p_Path_end f_Path_end : Addr} {fd_Path_end : FuncData} (M_Path_end : CalP P w K mg base (L2N.CX P w) 1 (T "Path") "end" ["self"] (spP K T S_Path_end) p_Path_end f_Path_end fd_Path_end) {f__law_are : Addr} {fd__law_are : FuncData} (C__law_are : Cal P w K mg base (L2N.CX P w) 16 "_law_are" ["told"] (spP K T S__law_are) f__law_are fd__law_are) {f_Path_eq : Addr} {fd_Path_eq : FuncData} (M_Path_eq : CalM P w K mg base (L2N.CX P w) 1 (T "Path") "__eq__" ["self", "other"] (spP K T S_Path_eq) f_Path_eq fd_Path_eq) {f__law_shared : Addr} {fd__law_shared : FuncData} (C__law_shared : Cal P w K mg base (L2N.CX P w) 15 "_law_shared" ["paths", "pairs"] (spP K T S__law_shared) f__law_shared fd__law_shared) {f__law_same : Addr} {fd__law_same : FuncData} (C__law_same : Cal P w K mg base (L2N.CX P w) 14 "_law_same" ["actual", "expected"] (spP K T S__law_same) f__law_same fd__law_same) {f__law_refused : Addr} {fd__law_refused : FuncData} (C__law_refused : Cal P w K mg base (L2N.CX P w) 10 "_law_refused" ["paths", "plain"] (spP K T S__law_refused) f__law_refused fd__law_refused) (mC_Path : mg "Path" = some (.ref (T "Path"))) (nb_int : mg "int" = none) (nb_list : mg "list" = none) (nb_range : mg "range" = none) (sf_Path : PySem.W.selfFirst K (T "Path") = true) :
    FnOk P w K mg base (L2N.CX P w) 17 f fd ["script"] (spP K T S_law) := by
  refine FnOk.imp ?_ (spP_imp mir_law)
  exact fn_P F sc_law rfl rfl (fun cdv A outer s H E hr => ⟨_, (pss_cons (ps_set (i := 1) sc_law.nd rfl (Or.inl rfl) (pe_callSD C__law_source.G (hr.mono (by first | decide | omega)) rfl C__law_source.mg C__law_source.kp C__law_source.b .nil (fun σ => L2N.passAt (L2N.takes_of rfl rfl rfl rfl) σ) (pa_cons (pv 0) pa_nil))) (pss_cons (ps_set (i := 2) sc_law.nd rfl (Or.inl rfl) (pe_callSD C__law_pick.G (hr.mono (by first | decide | omega)) rfl C__law_pick.mg C__law_pick.kp C__law_pick.b .nil (fun σ => L2N.passAt (L2N.takes_of rfl rfl rfl rfl) σ) (pa_cons (pv 1) (pa_cons (pe_lst (pa_cons pe_int (pa_cons pe_int pa_nil))) pa_nil)))) (pss_cons (ps_set (i := 3) sc_law.nd rfl (Or.inl rfl) (pe_callSD C__law_pick.G (hr.mono (by first | decide | omega)) rfl C__law_pick.mg C__law_pick.kp C__law_pick.b .nil (fun σ => L2N.passAt (L2N.takes_of rfl rfl rfl rfl) σ) (pa_cons (pv 1) (pa_cons (pe_lst (pa_cons (pe_lst (pa_cons pe_int (pa_cons pe_int (pa_cons pe_int (pa_cons pe_int (pa_cons pe_int pa_nil)))))) (pa_cons (pe_listRg rfl (by rfl) nb_list (prg_1 (by rfl) nb_range pe_int)) pa_nil))) pa_nil)))) (pss_cons (ps_set (i := 4) sc_law.nd rfl (Or.inr rfl) (pe_lst (pa_cons (pe_tup (pa_cons (pe_call C__law_draw.G (hr.mono (by first | decide | omega)) rfl C__law_draw.mg C__law_draw.kp C__law_draw.b .nil pass0 (pa_cons (pv 1) (pa_cons (pv 2) pa_nil))) (pa_cons (pe_callSD C__law_steps.G (hr.mono (by first | decide | omega)) rfl C__law_steps.mg C__law_steps.kp C__law_steps.b .nil (fun σ => L2N.passAt (L2N.takes_of rfl rfl rfl rfl) σ) (pa_cons (pv 1) (pa_cons (pe_call C__law_draw.G (hr.mono (by first | decide | omega)) rfl C__law_draw.mg C__law_draw.kp C__law_draw.b .nil pass0 (pa_cons (pv 1) (pa_cons pe_int pa_nil))) (pa_cons (pv 3) (pa_cons (pv 2) pa_nil))))) pa_nil))) pa_nil))) (pss_cons (ps_for (passes_of rfl) rfl (pi_range1 (by rfl) nb_range (pa_cons pe_int pa_nil)) (pg_name (i := 5) sc_law.nd rfl (Or.inl rfl)) (pss_one (ps_expr (pe_bm PySem.F.plainAttrs_list PySem.F.slot_list_append PySem.F.type_list_append mt_append (pv 4) (pa_cons (pe_tup (pa_cons (pe_callSD C__law_end.G (hr.mono (by first | decide | omega)) rfl C__law_end.mg C__law_end.kp C__law_end.b .nil (fun σ => L2N.passAt (L2N.takes_of rfl rfl rfl rfl) σ) (pa_cons (pe_ix (show IxR _ (rIx K) from ix_seq) (pv 4) (pv 5) (fun _ _ => rfl)) pa_nil)) (pa_cons (pe_callSD C__law_steps.G (hr.mono (by first | decide | omega)) rfl C__law_steps.mg C__law_steps.kp C__law_steps.b .nil (fun σ => L2N.passAt (L2N.takes_of rfl rfl rfl rfl) σ) (pa_cons (pv 1) (pa_cons (pe_call C__law_draw.G (hr.mono (by first | decide | omega)) rfl C__law_draw.mg C__law_draw.kp C__law_draw.b .nil pass0 (pa_cons (pv 1) (pa_cons pe_int pa_nil))) (pa_cons (pv 3) (pa_cons (pv 2) pa_nil))))) pa_nil))) pa_nil))))) (pss_cons (ps_set (i := 6) sc_law.nd rfl (Or.inr rfl) (pe_lc (own := [("pair", 21)]) (g := gName 21) (tt := L2.tYes) rfl sc_law.nd (pi_seqK K rfl (pv 4)) (blkOk_by (own := [("pair", 21)]) (N := ["script", "source", "bound", "menu", "pairs", "k", "paths", "p", "q", "r", "two", "three", "told", "back", "signs", "near", "away", "s", "t", "u", "bad", "pair"]) (sc := defScope st_law) (by decide +kernel)) (fun _ _ _ _ _ => (pg_name (i := 21) sc_law.nd rfl (Or.inl rfl))) (fun _ _ _ _ _ => pts_nil) (fun _ _ _ _ _ => (pe_make K_Path.M K_Path.G (hr.mono (by first | decide | omega)) rfl K_Path.mg K_Path.b .nil passN (pa_cons (pe_ix (show IxR _ (rIx K) from ix_seq) (pv 21) pe_int (fun _ _ => rfl)) (pa_cons (pe_callTy (show CallR _ (.type "list") (rListZ K) from call_listZ) (by rfl) nb_list (by decide +kernel) (pa_cons (pe_ix (show IxR _ (rIx K) from ix_seq) (pv 21) pe_int (fun _ _ => rfl)) pa_nil)) pa_nil)))))) (pss_cons (ps_set (i := 7) sc_law.nd rfl (Or.inl rfl) (pe_ix (show IxR _ (rIx K) from ix_seq) (pv 6) pe_int (fun _ _ => rfl))) (pss_cons (ps_set (i := 8) sc_law.nd rfl (Or.inl rfl) (pe_ix (show IxR _ (rIx K) from ix_seq) (pv 6) pe_int (fun _ _ => rfl))) (pss_cons (ps_set (i := 9) sc_law.nd rfl (Or.inl rfl) (pe_ix (show IxR _ (rIx K) from ix_seq) (pv 6) pe_int (fun _ _ => rfl))) (pss_cons (ps_set (i := 10) sc_law.nd rfl (Or.inl rfl) (pe_callSD C__law_sum.G (hr.mono (by first | decide | omega)) rfl C__law_sum.mg C__law_sum.kp C__law_sum.b .nil (fun σ => L2N.passAt (L2N.takes_of rfl rfl rfl rfl) σ) (pa_cons (pe_ix (show IxR _ (rIx K) from ix_seq) (pv 4) pe_int (fun _ _ => rfl)) (pa_cons (pe_ix (show IxR _ (rIx K) from ix_seq) (pv 4) pe_int (fun _ _ => rfl)) pa_nil)))) (pss_cons (ps_set (i := 11) sc_law.nd rfl (Or.inl rfl) (pe_callSD C__law_sum.G (hr.mono (by first | decide | omega)) rfl C__law_sum.mg C__law_sum.kp C__law_sum.b .nil (fun σ => L2N.passAt (L2N.takes_of rfl rfl rfl rfl) σ) (pa_cons (pv 10) (pa_cons (pe_ix (show IxR _ (rIx K) from ix_seq) (pv 4) pe_int (fun _ _ => rfl)) pa_nil)))) (pss_cons (ps_set (i := 12) sc_law.nd rfl (Or.inl rfl) (pe_lst (pa_cons (pe_tup (pa_cons (pe_unS (Or.inr ⟨rfl, rfl⟩) M_Path_invert.G (hr.mono (by first | decide | omega)) M_Path_invert.b (fun σ => L2N.passAt (L2N.takes_of rfl rfl rfl rfl) σ) M_Path_invert.me.at_ M_Path_invert.me.fn (pv 7)) (pa_cons (pe_callSD C__law_back.G (hr.mono (by first | decide | omega)) rfl C__law_back.mg C__law_back.kp C__law_back.b .nil (fun σ => L2N.passAt (L2N.takes_of rfl rfl rfl rfl) σ) (pa_cons (pe_ix (show IxR _ (rIx K) from ix_seq) (pv 4) pe_int (fun _ _ => rfl)) pa_nil)) pa_nil))) (pa_cons (pe_tup (pa_cons (pe_unS (Or.inr ⟨rfl, rfl⟩) M_Path_invert.G (hr.mono (by first | decide | omega)) M_Path_invert.b (fun σ => L2N.passAt (L2N.takes_of rfl rfl rfl rfl) σ) M_Path_invert.me.at_ M_Path_invert.me.fn (pe_unS (Or.inr ⟨rfl, rfl⟩) M_Path_invert.G (hr.mono (by first | decide | omega)) M_Path_invert.b (fun σ => L2N.passAt (L2N.takes_of rfl rfl rfl rfl) σ) M_Path_invert.me.at_ M_Path_invert.me.fn (pv 7))) (pa_cons (pe_ix (show IxR _ (rIx K) from ix_seq) (pv 4) pe_int (fun _ _ => rfl)) pa_nil))) (pa_cons (pe_tup (pa_cons (pe_unS (Or.inr ⟨rfl, rfl⟩) M_Path_invert.G (hr.mono (by first | decide | omega)) M_Path_invert.b (fun σ => L2N.passAt (L2N.takes_of rfl rfl rfl rfl) σ) M_Path_invert.me.at_ M_Path_invert.me.fn (pv 9)) (pa_cons (pe_callSD C__law_back.G (hr.mono (by first | decide | omega)) rfl C__law_back.mg C__law_back.kp C__law_back.b .nil (fun σ => L2N.passAt (L2N.takes_of rfl rfl rfl rfl) σ) (pa_cons (pe_ix (show IxR _ (rIx K) from ix_seq) (pv 4) pe_int (fun _ _ => rfl)) pa_nil)) pa_nil))) (pa_cons (pe_tup (pa_cons (pe_binS (rt := (Rt.obj (T "Path"))) M_Path_add.G (hr.mono (by first | decide | omega)) M_Path_add.b (fun σ => L2N.passAt (L2N.takes_of rfl rfl rfl rfl) σ) ⟨M_Path_add.me.at_, M_Path_add.me.fn, sf_Path⟩ (show (T "Path") = (T "Path") ∨ BinOth _ _ _ _ from Or.inl rfl) (pv 7) (pv 8)) (pa_cons (pv 10) pa_nil))) pa_nil)))))) (pss_cons (ps_set (i := 12) sc_law.nd rfl (Or.inl rfl) (pe_op (show OpR _ (binaryOp .Add) (rAddZ K) from op_addZ) (pv 12) (pe_lst (pa_cons (pe_tup (pa_cons (pe_unS (Or.inr ⟨rfl, rfl⟩) M_Path_invert.G (hr.mono (by first | decide | omega)) M_Path_invert.b (fun σ => L2N.passAt (L2N.takes_of rfl rfl rfl rfl) σ) M_Path_invert.me.at_ M_Path_invert.me.fn (pe_binS (rt := (Rt.obj (T "Path"))) M_Path_add.G (hr.mono (by first | decide | omega)) M_Path_add.b (fun σ => L2N.passAt (L2N.takes_of rfl rfl rfl rfl) σ) ⟨M_Path_add.me.at_, M_Path_add.me.fn, sf_Path⟩ (show (T "Path") = (T "Path") ∨ BinOth _ _ _ _ from Or.inl rfl) (pv 7) (pv 8))) (pa_cons (pe_callSD C__law_back.G (hr.mono (by first | decide | omega)) rfl C__law_back.mg C__law_back.kp C__law_back.b .nil (fun σ => L2N.passAt (L2N.takes_of rfl rfl rfl rfl) σ) (pa_cons (pv 10) pa_nil)) pa_nil))) (pa_cons (pe_tup (pa_cons (pe_binS (rt := (Rt.obj (T "Path"))) M_Path_add.G (hr.mono (by first | decide | omega)) M_Path_add.b (fun σ => L2N.passAt (L2N.takes_of rfl rfl rfl rfl) σ) ⟨M_Path_add.me.at_, M_Path_add.me.fn, sf_Path⟩ (show (T "Path") = (T "Path") ∨ BinOth _ _ _ _ from Or.inl rfl) (pe_unS (Or.inr ⟨rfl, rfl⟩) M_Path_invert.G (hr.mono (by first | decide | omega)) M_Path_invert.b (fun σ => L2N.passAt (L2N.takes_of rfl rfl rfl rfl) σ) M_Path_invert.me.at_ M_Path_invert.me.fn (pv 8)) (pe_unS (Or.inr ⟨rfl, rfl⟩) M_Path_invert.G (hr.mono (by first | decide | omega)) M_Path_invert.b (fun σ => L2N.passAt (L2N.takes_of rfl rfl rfl rfl) σ) M_Path_invert.me.at_ M_Path_invert.me.fn (pv 7))) (pa_cons (pe_callSD C__law_back.G (hr.mono (by first | decide | omega)) rfl C__law_back.mg C__law_back.kp C__law_back.b .nil (fun σ => L2N.passAt (L2N.takes_of rfl rfl rfl rfl) σ) (pa_cons (pv 10) pa_nil)) pa_nil))) (pa_cons (pe_tup (pa_cons (pe_binS (rt := (Rt.obj (T "Path"))) M_Path_add.G (hr.mono (by first | decide | omega)) M_Path_add.b (fun σ => L2N.passAt (L2N.takes_of rfl rfl rfl rfl) σ) ⟨M_Path_add.me.at_, M_Path_add.me.fn, sf_Path⟩ (show (T "Path") = (T "Path") ∨ BinOth _ _ _ _ from Or.inl rfl) (pe_binS (rt := (Rt.obj (T "Path"))) M_Path_add.G (hr.mono (by first | decide | omega)) M_Path_add.b (fun σ => L2N.passAt (L2N.takes_of rfl rfl rfl rfl) σ) ⟨M_Path_add.me.at_, M_Path_add.me.fn, sf_Path⟩ (show (T "Path") = (T "Path") ∨ BinOth _ _ _ _ from Or.inl rfl) (pv 7) (pv 8)) (pv 9)) (pa_cons (pv 11) pa_nil))) (pa_cons (pe_tup (pa_cons (pe_binS (rt := (Rt.obj (T "Path"))) M_Path_add.G (hr.mono (by first | decide | omega)) M_Path_add.b (fun σ => L2N.passAt (L2N.takes_of rfl rfl rfl rfl) σ) ⟨M_Path_add.me.at_, M_Path_add.me.fn, sf_Path⟩ (show (T "Path") = (T "Path") ∨ BinOth _ _ _ _ from Or.inl rfl) (pv 7) (pe_binS (rt := (Rt.obj (T "Path"))) M_Path_add.G (hr.mono (by first | decide | omega)) M_Path_add.b (fun σ => L2N.passAt (L2N.takes_of rfl rfl rfl rfl) σ) ⟨M_Path_add.me.at_, M_Path_add.me.fn, sf_Path⟩ (show (T "Path") = (T "Path") ∨ BinOth _ _ _ _ from Or.inl rfl) (pv 8) (pv 9))) (pa_cons (pv 11) pa_nil))) pa_nil))))))) (pss_cons (ps_set (i := 12) sc_law.nd rfl (Or.inl rfl) (pe_op (show OpR _ (binaryOp .Add) (rAddZ K) from op_addZ) (pv 12) (pe_lst (pa_cons (pe_tup (pa_cons (pe_cmethS (pe_glob (v := .ref (T "Path")) rfl mC_Path rfl) CM_Path_chain.rd CM_Path_chain.cm CM_Path_chain.G (hr.mono (by first | decide | omega)) (fun σ => L2N.passAt (L2N.takes_of rfl rfl rfl rfl) σ) (pa_cons (pv 7) (pa_cons (pv 8) (pa_cons (pv 9) pa_nil)))) (pa_cons (pv 11) pa_nil))) (pa_cons (pe_tup (pa_cons (pe_cmethS (pe_glob (v := .ref (T "Path")) rfl mC_Path rfl) CM_Path_chain.rd CM_Path_chain.cm CM_Path_chain.G (hr.mono (by first | decide | omega)) (fun σ => L2N.passAt (L2N.takes_of rfl rfl rfl rfl) σ) (pa_cons (pv 7) (pa_cons (pv 8) pa_nil))) (pa_cons (pv 10) pa_nil))) (pa_cons (pe_tup (pa_cons (pe_cmethS (pe_glob (v := .ref (T "Path")) rfl mC_Path rfl) CM_Path_chain.rd CM_Path_chain.cm CM_Path_chain.G (hr.mono (by first | decide | omega)) (fun σ => L2N.passAt (L2N.takes_of rfl rfl rfl rfl) σ) (pa_cons (pv 8) pa_nil)) (pa_cons (pe_ix (show IxR _ (rIx K) from ix_seq) (pv 4) pe_int (fun _ _ => rfl)) pa_nil))) pa_nil)))))) (pss_cons (ps_set (i := 12) sc_law.nd rfl (Or.inl rfl) (pe_op (show OpR _ (binaryOp .Add) (rAddZ K) from op_addZ) (pv 12) (pe_lst (pa_cons (pe_tup (pa_cons (pe_binS (rt := (Rt.obj (T "Path"))) M_Path_add.G (hr.mono (by first | decide | omega)) M_Path_add.b (fun σ => L2N.passAt (L2N.takes_of rfl rfl rfl rfl) σ) ⟨M_Path_add.me.at_, M_Path_add.me.fn, sf_Path⟩ (show (T "Path") = (T "Path") ∨ BinOth _ _ _ _ from Or.inl rfl) (pe_smethS (pe_glob (v := .ref (T "Path")) rfl mC_Path rfl) SM_Path_still.rd SM_Path_still.cm SM_Path_still.G (hr.mono (by first | decide | omega)) (fun σ => L2N.passAt (L2N.takes_of rfl rfl rfl rfl) σ) (pa_cons (pe_fldK K rfl (pv 7) rfl) pa_nil)) (pv 7)) (pa_cons (pe_ix (show IxR _ (rIx K) from ix_seq) (pv 4) pe_int (fun _ _ => rfl)) pa_nil))) (pa_cons (pe_tup (pa_cons (pe_binS (rt := (Rt.obj (T "Path"))) M_Path_add.G (hr.mono (by first | decide | omega)) M_Path_add.b (fun σ => L2N.passAt (L2N.takes_of rfl rfl rfl rfl) σ) ⟨M_Path_add.me.at_, M_Path_add.me.fn, sf_Path⟩ (show (T "Path") = (T "Path") ∨ BinOth _ _ _ _ from Or.inl rfl) (pv 7) (pe_smethS (pe_glob (v := .ref (T "Path")) rfl mC_Path rfl) SM_Path_still.rd SM_Path_still.cm SM_Path_still.G (hr.mono (by first | decide | omega)) (fun σ => L2N.passAt (L2N.takes_of rfl rfl rfl rfl) σ) (pa_cons (pe_prop (pv 7) M_Path_end.cl M_Path_end.pr M_Path_end.G (hr.mono (by first | decide | omega)) M_Path_end.b .nil passN rfl) pa_nil))) (pa_cons (pe_ix (show IxR _ (rIx K) from ix_seq) (pv 4) pe_int (fun _ _ => rfl)) pa_nil))) pa_nil))))) (pss_cons (ps_set (i := 12) sc_law.nd rfl (Or.inl rfl) (pe_op (show OpR _ (binaryOp .Add) (rAddZ K) from op_addZ) (pv 12) (pe_lst (pa_cons (pe_tup (pa_cons (pe_cmethS (pe_glob (v := .ref (T "Path")) rfl mC_Path rfl) CM_Path_chain.rd CM_Path_chain.cm CM_Path_chain.G (hr.mono (by first | decide | omega)) (fun σ => L2N.passAt (L2N.takes_of rfl rfl rfl rfl) σ) (pa_cons (pe_smethS (pe_glob (v := .ref (T "Path")) rfl mC_Path rfl) SM_Path_still.rd SM_Path_still.cm SM_Path_still.G (hr.mono (by first | decide | omega)) (fun σ => L2N.passAt (L2N.takes_of rfl rfl rfl rfl) σ) (pa_cons (pe_fldK K rfl (pv 7) rfl) pa_nil)) (pa_cons (pv 7) (pa_cons (pe_smethS (pe_glob (v := .ref (T "Path")) rfl mC_Path rfl) SM_Path_still.rd SM_Path_still.cm SM_Path_still.G (hr.mono (by first | decide | omega)) (fun σ => L2N.passAt (L2N.takes_of rfl rfl rfl rfl) σ) (pa_cons (pe_fldK K rfl (pv 8) rfl) pa_nil)) pa_nil)))) (pa_cons (pe_ix (show IxR _ (rIx K) from ix_seq) (pv 4) pe_int (fun _ _ => rfl)) pa_nil))) pa_nil)))) (pss_cons (ps_set (i := 12) sc_law.nd rfl (Or.inl rfl) (pe_op (show OpR _ (binaryOp .Add) (rAddZ K) from op_addZ) (pv 12) (pe_lst (pa_cons (pe_tup (pa_cons (pe_unS (Or.inr ⟨rfl, rfl⟩) M_Path_invert.G (hr.mono (by first | decide | omega)) M_Path_invert.b (fun σ => L2N.passAt (L2N.takes_of rfl rfl rfl rfl) σ) M_Path_invert.me.at_ M_Path_invert.me.fn (pe_smethS (pe_glob (v := .ref (T "Path")) rfl mC_Path rfl) SM_Path_still.rd SM_Path_still.cm SM_Path_still.G (hr.mono (by first | decide | omega)) (fun σ => L2N.passAt (L2N.takes_of rfl rfl rfl rfl) σ) (pa_cons (pe_fldK K rfl (pv 8) rfl) pa_nil))) (pa_cons (pe_tup (pa_cons (pe_ix (show IxR _ (rIx K) from ix_seq) (pe_ix (show IxR _ (rIx K) from ix_seq) (pv 4) pe_int (fun _ _ => rfl)) pe_int (fun _ _ => rfl)) (pa_cons (pe_lst pa_nil) pa_nil))) pa_nil))) (pa_cons (pe_tup (pa_cons (pe_binS (rt := (Rt.obj (T "Path"))) M_Path_add.G (hr.mono (by first | decide | omega)) M_Path_add.b (fun σ => L2N.passAt (L2N.takes_of rfl rfl rfl rfl) σ) ⟨M_Path_add.me.at_, M_Path_add.me.fn, sf_Path⟩ (show (T "Path") = (T "Path") ∨ BinOth _ _ _ _ from Or.inl rfl) (pv 7) (pe_unS (Or.inr ⟨rfl, rfl⟩) M_Path_invert.G (hr.mono (by first | decide | omega)) M_Path_invert.b (fun σ => L2N.passAt (L2N.takes_of rfl rfl rfl rfl) σ) M_Path_invert.me.at_ M_Path_invert.me.fn (pv 7))) (pa_cons (pe_callSD C__law_sum.G (hr.mono (by first | decide | omega)) rfl C__law_sum.mg C__law_sum.kp C__law_sum.b .nil (fun σ => L2N.passAt (L2N.takes_of rfl rfl rfl rfl) σ) (pa_cons (pe_ix (show IxR _ (rIx K) from ix_seq) (pv 4) pe_int (fun _ _ => rfl)) (pa_cons (pe_callSD C__law_back.G (hr.mono (by first | decide | omega)) rfl C__law_back.mg C__law_back.kp C__law_back.b .nil (fun σ => L2N.passAt (L2N.takes_of rfl rfl rfl rfl) σ) (pa_cons (pe_ix (show IxR _ (rIx K) from ix_seq) (pv 4) pe_int (fun _ _ => rfl)) pa_nil)) pa_nil))) pa_nil))) pa_nil))))) (pss_cons (ps_set (i := 13) sc_law.nd rfl (Or.inl rfl) (pe_callSD C__law_sum.G (hr.mono (by first | decide | omega)) rfl C__law_sum.mg C__law_sum.kp C__law_sum.b .nil (fun σ => L2N.passAt (L2N.takes_of rfl rfl rfl rfl) σ) (pa_cons (pe_callSD C__law_back.G (hr.mono (by first | decide | omega)) rfl C__law_back.mg C__law_back.kp C__law_back.b .nil (fun σ => L2N.passAt (L2N.takes_of rfl rfl rfl rfl) σ) (pa_cons (pe_ix (show IxR _ (rIx K) from ix_seq) (pv 4) pe_int (fun _ _ => rfl)) pa_nil)) (pa_cons (pe_callSD C__law_back.G (hr.mono (by first | decide | omega)) rfl C__law_back.mg C__law_back.kp C__law_back.b .nil (fun σ => L2N.passAt (L2N.takes_of rfl rfl rfl rfl) σ) (pa_cons (pe_ix (show IxR _ (rIx K) from ix_seq) (pv 4) pe_int (fun _ _ => rfl)) pa_nil)) pa_nil)))) (pss_cons (ps_set (i := 12) sc_law.nd rfl (Or.inl rfl) (pe_op (show OpR _ (binaryOp .Add) (rAddZ K) from op_addZ) (pv 12) (pe_lst (pa_cons (pe_tup (pa_cons (pe_cmethS (pe_glob (v := .ref (T "Path")) rfl mC_Path rfl) CM_Path_chain.rd CM_Path_chain.cm CM_Path_chain.G (hr.mono (by first | decide | omega)) (fun σ => L2N.passAt (L2N.takes_of rfl rfl rfl rfl) σ) (pa_cons (pv 7) (pa_cons (pv 8) (pa_cons (pv 9) (pa_cons (pe_unS (Or.inr ⟨rfl, rfl⟩) M_Path_invert.G (hr.mono (by first | decide | omega)) M_Path_invert.b (fun σ => L2N.passAt (L2N.takes_of rfl rfl rfl rfl) σ) M_Path_invert.me.at_ M_Path_invert.me.fn (pv 9)) (pa_cons (pe_unS (Or.inr ⟨rfl, rfl⟩) M_Path_invert.G (hr.mono (by first | decide | omega)) M_Path_invert.b (fun σ => L2N.passAt (L2N.takes_of rfl rfl rfl rfl) σ) M_Path_invert.me.at_ M_Path_invert.me.fn (pv 8)) pa_nil)))))) (pa_cons (pe_callSD C__law_sum.G (hr.mono (by first | decide | omega)) rfl C__law_sum.mg C__law_sum.kp C__law_sum.b .nil (fun σ => L2N.passAt (L2N.takes_of rfl rfl rfl rfl) σ) (pa_cons (pv 11) (pa_cons (pv 13) pa_nil))) pa_nil))) pa_nil)))) (pss_cons (ps_if (pt_not (pt_truK K rfl (pe_callSD C__law_are.G (hr.mono (by first | decide | omega)) rfl C__law_are.mg C__law_are.kp C__law_are.b .nil (fun σ => L2N.passAt (L2N.takes_of rfl rfl rfl rfl) σ) (pa_cons (pv 12) pa_nil)) (by intro _; rfl))) (pss_one (ps_ret pe_bl)) pss_nil) (pss_cons (ps_set (i := 14) sc_law.nd rfl (Or.inl rfl) (pe_tup (pa_cons (pe_cmpR (show OpR _ (compareOp .Eq) (rCmpO (T "Path") (spP K T S_Path_eq) E0) from fun pins s σ H x y v u Q I rx ry h => rich_cmpO (cop := .Eq) M_Path_eq.G (hr.mono (by first | decide | omega)) M_Path_eq.b passN M_Path_eq.me.at_ M_Path_eq.me.fn pins s σ H x y v u Q I rx ry h) (pe_unS (Or.inr ⟨rfl, rfl⟩) M_Path_invert.G (hr.mono (by first | decide | omega)) M_Path_invert.b (fun σ => L2N.passAt (L2N.takes_of rfl rfl rfl rfl) σ) M_Path_invert.me.at_ M_Path_invert.me.fn (pe_unS (Or.inr ⟨rfl, rfl⟩) M_Path_invert.G (hr.mono (by first | decide | omega)) M_Path_invert.b (fun σ => L2N.passAt (L2N.takes_of rfl rfl rfl rfl) σ) M_Path_invert.me.at_ M_Path_invert.me.fn (pv 7))) (pv 7) (nomark _)) (pa_cons (pe_cmpR (show OpR _ (compareOp .Eq) (rCmpO (T "Path") (spP K T S_Path_eq) E0) from fun pins s σ H x y v u Q I rx ry h => rich_cmpO (cop := .Eq) M_Path_eq.G (hr.mono (by first | decide | omega)) M_Path_eq.b passN M_Path_eq.me.at_ M_Path_eq.me.fn pins s σ H x y v u Q I rx ry h) (pe_unS (Or.inr ⟨rfl, rfl⟩) M_Path_invert.G (hr.mono (by first | decide | omega)) M_Path_invert.b (fun σ => L2N.passAt (L2N.takes_of rfl rfl rfl rfl) σ) M_Path_invert.me.at_ M_Path_invert.me.fn (pe_binS (rt := (Rt.obj (T "Path"))) M_Path_add.G (hr.mono (by first | decide | omega)) M_Path_add.b (fun σ => L2N.passAt (L2N.takes_of rfl rfl rfl rfl) σ) ⟨M_Path_add.me.at_, M_Path_add.me.fn, sf_Path⟩ (show (T "Path") = (T "Path") ∨ BinOth _ _ _ _ from Or.inl rfl) (pv 7) (pv 8))) (pe_binS (rt := (Rt.obj (T "Path"))) M_Path_add.G (hr.mono (by first | decide | omega)) M_Path_add.b (fun σ => L2N.passAt (L2N.takes_of rfl rfl rfl rfl) σ) ⟨M_Path_add.me.at_, M_Path_add.me.fn, sf_Path⟩ (show (T "Path") = (T "Path") ∨ BinOth _ _ _ _ from Or.inl rfl) (pe_unS (Or.inr ⟨rfl, rfl⟩) M_Path_invert.G (hr.mono (by first | decide | omega)) M_Path_invert.b (fun σ => L2N.passAt (L2N.takes_of rfl rfl rfl rfl) σ) M_Path_invert.me.at_ M_Path_invert.me.fn (pv 8)) (pe_unS (Or.inr ⟨rfl, rfl⟩) M_Path_invert.G (hr.mono (by first | decide | omega)) M_Path_invert.b (fun σ => L2N.passAt (L2N.takes_of rfl rfl rfl rfl) σ) M_Path_invert.me.at_ M_Path_invert.me.fn (pv 7))) (nomark _)) (pa_cons (pe_cmpR (show OpR _ (compareOp .Eq) (rCmpO (T "Path") (spP K T S_Path_eq) E0) from fun pins s σ H x y v u Q I rx ry h => rich_cmpO (cop := .Eq) M_Path_eq.G (hr.mono (by first | decide | omega)) M_Path_eq.b passN M_Path_eq.me.at_ M_Path_eq.me.fn pins s σ H x y v u Q I rx ry h) (pe_binS (rt := (Rt.obj (T "Path"))) M_Path_add.G (hr.mono (by first | decide | omega)) M_Path_add.b (fun σ => L2N.passAt (L2N.takes_of rfl rfl rfl rfl) σ) ⟨M_Path_add.me.at_, M_Path_add.me.fn, sf_Path⟩ (show (T "Path") = (T "Path") ∨ BinOth _ _ _ _ from Or.inl rfl) (pe_binS (rt := (Rt.obj (T "Path"))) M_Path_add.G (hr.mono (by first | decide | omega)) M_Path_add.b (fun σ => L2N.passAt (L2N.takes_of rfl rfl rfl rfl) σ) ⟨M_Path_add.me.at_, M_Path_add.me.fn, sf_Path⟩ (show (T "Path") = (T "Path") ∨ BinOth _ _ _ _ from Or.inl rfl) (pv 7) (pv 8)) (pv 9)) (pe_binS (rt := (Rt.obj (T "Path"))) M_Path_add.G (hr.mono (by first | decide | omega)) M_Path_add.b (fun σ => L2N.passAt (L2N.takes_of rfl rfl rfl rfl) σ) ⟨M_Path_add.me.at_, M_Path_add.me.fn, sf_Path⟩ (show (T "Path") = (T "Path") ∨ BinOth _ _ _ _ from Or.inl rfl) (pv 7) (pe_binS (rt := (Rt.obj (T "Path"))) M_Path_add.G (hr.mono (by first | decide | omega)) M_Path_add.b (fun σ => L2N.passAt (L2N.takes_of rfl rfl rfl rfl) σ) ⟨M_Path_add.me.at_, M_Path_add.me.fn, sf_Path⟩ (show (T "Path") = (T "Path") ∨ BinOth _ _ _ _ from Or.inl rfl) (pv 8) (pv 9))) (nomark _)) (pa_cons (pe_cmpR (show OpR _ (compareOp .Eq) (rCmpO (T "Path") (spP K T S_Path_eq) E0) from fun pins s σ H x y v u Q I rx ry h => rich_cmpO (cop := .Eq) M_Path_eq.G (hr.mono (by first | decide | omega)) M_Path_eq.b passN M_Path_eq.me.at_ M_Path_eq.me.fn pins s σ H x y v u Q I rx ry h) (pe_cmethS (pe_glob (v := .ref (T "Path")) rfl mC_Path rfl) CM_Path_chain.rd CM_Path_chain.cm CM_Path_chain.G (hr.mono (by first | decide | omega)) (fun σ => L2N.passAt (L2N.takes_of rfl rfl rfl rfl) σ) (pa_cons (pv 7) (pa_cons (pv 8) (pa_cons (pv 9) pa_nil)))) (pe_binS (rt := (Rt.obj (T "Path"))) M_Path_add.G (hr.mono (by first | decide | omega)) M_Path_add.b (fun σ => L2N.passAt (L2N.takes_of rfl rfl rfl rfl) σ) ⟨M_Path_add.me.at_, M_Path_add.me.fn, sf_Path⟩ (show (T "Path") = (T "Path") ∨ BinOth _ _ _ _ from Or.inl rfl) (pe_binS (rt := (Rt.obj (T "Path"))) M_Path_add.G (hr.mono (by first | decide | omega)) M_Path_add.b (fun σ => L2N.passAt (L2N.takes_of rfl rfl rfl rfl) σ) ⟨M_Path_add.me.at_, M_Path_add.me.fn, sf_Path⟩ (show (T "Path") = (T "Path") ∨ BinOth _ _ _ _ from Or.inl rfl) (pv 7) (pv 8)) (pv 9)) (nomark _)) pa_nil)))))) (pss_cons (ps_if (PW.pt (pw_or (pt_not (pt_truK K rfl (pe_callSD C__law_same.G (hr.mono (by first | decide | omega)) rfl C__law_same.mg C__law_same.kp C__law_same.b .nil (fun σ => L2N.passAt (L2N.takes_of rfl rfl rfl rfl) σ) (pa_cons (pv 14) (pa_cons (pe_tup (pa_cons pe_bl (pa_cons pe_bl (pa_cons pe_bl (pa_cons pe_bl pa_nil))))) pa_nil))) (by intro _; rfl))) (pw_or1 (pt_not (pt_truK K rfl (pe_callSD C__law_shared.G (hr.mono (by first | decide | omega)) rfl C__law_shared.mg C__law_shared.kp C__law_shared.b .nil (fun σ => L2N.passAt (L2N.takes_of rfl rfl rfl rfl) σ) (pa_cons (pv 6) (pa_cons (pv 4) pa_nil))) (by intro _; rfl)))))) (pss_one (ps_ret pe_bl)) pss_nil) (pss_cons (ps_set (i := 15) sc_law.nd rfl (Or.inl rfl) (pe_op (show OpR _ (binaryOp .Mod) rModZ from op_modZ) (pe_callTy (show CallR _ (.type "int") rIntZ from call_intZ) (by rfl) nb_int (by decide +kernel) (pa_cons (pe_op (show OpR _ (binaryOp .Add) (rAddZ K) from op_addZ) (pe_op (show OpR _ (binaryOp .Add) (rAddZ K) from op_addZ) (pe_callSD C__law_end.G (hr.mono (by first | decide | omega)) rfl C__law_end.mg C__law_end.kp C__law_end.b .nil (fun σ => L2N.passAt (L2N.takes_of rfl rfl rfl rfl) σ) (pa_cons (pe_ix (show IxR _ (rIx K) from ix_seq) (pv 4) pe_int (fun _ _ => rfl)) pa_nil)) pe_int) (pe_call C__law_draw.G (hr.mono (by first | decide | omega)) rfl C__law_draw.mg C__law_draw.kp C__law_draw.b .nil pass0 (pa_cons (pv 1) (pa_cons pe_int pa_nil)))) pa_nil)) pe_int)) (pss_cons (ps_set (i := 16) sc_law.nd rfl (Or.inl rfl) (pe_tup (pa_cons (pv 15) (pa_cons (pe_callSD C__law_steps.G (hr.mono (by first | decide | omega)) rfl C__law_steps.mg C__law_steps.kp C__law_steps.b .nil (fun σ => L2N.passAt (L2N.takes_of rfl rfl rfl rfl) σ) (pa_cons (pv 1) (pa_cons (pe_call C__law_draw.G (hr.mono (by first | decide | omega)) rfl C__law_draw.mg C__law_draw.kp C__law_draw.b .nil pass0 (pa_cons (pv 1) (pa_cons pe_int pa_nil))) (pa_cons (pv 3) (pa_cons (pv 2) pa_nil))))) pa_nil)))) (pss_cons (ps_set (i := 17) sc_law.nd rfl (Or.inl rfl) (pe_makeS K_Path.M K_Path.G (hr.mono (by first | decide | omega)) rfl K_Path.mg K_Path.b .nil (fun σ => L2N.passAt (L2N.takes_of rfl rfl rfl rfl) σ) (pa_cons (pv 15) (pa_cons (pe_callTy (show CallR _ (.type "list") (rListZ K) from call_listZ) (by rfl) nb_list (by decide +kernel) (pa_cons (pe_ix (show IxR _ (rIx K) from ix_seq) (pv 16) pe_int (fun _ _ => rfl)) pa_nil)) pa_nil)))) (pss_cons (ps_set (i := 18) sc_law.nd rfl (Or.inl rfl) (pe_smethS (pe_glob (v := .ref (T "Path")) rfl mC_Path rfl) SM_Path_still.rd SM_Path_still.cm SM_Path_still.G (hr.mono (by first | decide | omega)) (fun σ => L2N.passAt (L2N.takes_of rfl rfl rfl rfl) σ) (pa_cons (pe_callSD C__law_end.G (hr.mono (by first | decide | omega)) rfl C__law_end.mg C__law_end.kp C__law_end.b .nil (fun σ => L2N.passAt (L2N.takes_of rfl rfl rfl rfl) σ) (pa_cons (pv 16) pa_nil)) pa_nil))) (pss_cons (ps_set (i := 19) sc_law.nd rfl (Or.inl rfl) (pe_smethS (pe_glob (v := .ref (T "Path")) rfl mC_Path rfl) SM_Path_still.rd SM_Path_still.cm SM_Path_still.G (hr.mono (by first | decide | omega)) (fun σ => L2N.passAt (L2N.takes_of rfl rfl rfl rfl) σ) (pa_cons (pe_op (show OpR _ (binaryOp .Mod) rModZ from op_modZ) (pe_callTy (show CallR _ (.type "int") rIntZ from call_intZ) (by rfl) nb_int (by decide +kernel) (pa_cons (pe_op (show OpR _ (binaryOp .Add) (rAddZ K) from op_addZ) (pe_op (show OpR _ (binaryOp .Add) (rAddZ K) from op_addZ) (pe_callSD C__law_end.G (hr.mono (by first | decide | omega)) rfl C__law_end.mg C__law_end.kp C__law_end.b .nil (fun σ => L2N.passAt (L2N.takes_of rfl rfl rfl rfl) σ) (pa_cons (pe_ix (show IxR _ (rIx K) from ix_seq) (pv 4) pe_int (fun _ _ => rfl)) pa_nil)) pe_int) (pe_call C__law_draw.G (hr.mono (by first | decide | omega)) rfl C__law_draw.mg C__law_draw.kp C__law_draw.b .nil pass0 (pa_cons (pv 1) (pa_cons pe_int pa_nil)))) pa_nil)) pe_int) pa_nil))) (pss_cons (ps_for (passes_of rfl) rfl (pi_seqK K rfl (pe_lst (pa_cons (pe_lst (pa_cons (pv 7) (pa_cons (pv 17) pa_nil))) (pa_cons (pe_lst (pa_cons (pv 8) (pa_cons (pv 19) pa_nil))) pa_nil)))) (pg_name (i := 20) sc_law.nd rfl (Or.inl rfl)) (pss_one (ps_if (PW.pt (pw_or (pt_not (pt_truK K rfl (pe_callSD C__law_refused.G (hr.mono (by first | decide | omega)) rfl C__law_refused.mg C__law_refused.kp C__law_refused.b .nil (fun σ => L2N.passAt (L2N.takes_of rfl rfl rfl rfl) σ) (pa_cons (pv 20) (pa_cons pe_bl pa_nil))) (by intro _; rfl))) (pw_or1 (pt_not (pt_truK K rfl (pe_callSD C__law_refused.G (hr.mono (by first | decide | omega)) rfl C__law_refused.mg C__law_refused.kp C__law_refused.b .nil (fun σ => L2N.passAt (L2N.takes_of rfl rfl rfl rfl) σ) (pa_cons (pv 20) (pa_cons pe_bl pa_nil))) (by intro _; rfl)))))) (pss_one (ps_ret pe_bl)) pss_nil))) (pss_cons (ps_for (passes_of rfl) rfl (pi_seqK K rfl (pe_lst (pa_cons (pe_lst pa_nil) (pa_cons (pe_lst (pa_cons (pv 7) (pa_cons (pv 17) (pa_cons (pv 18) pa_nil)))) (pa_cons (pe_lst (pa_cons (pv 7) (pa_cons (pv 8) (pa_cons (pv 19) pa_nil)))) pa_nil))))) (pg_name (i := 20) sc_law.nd rfl (Or.inl rfl)) (pss_one (ps_if (pt_not (pt_truK K rfl (pe_callSD C__law_refused.G (hr.mono (by first | decide | omega)) rfl C__law_refused.mg C__law_refused.kp C__law_refused.b .nil (fun σ => L2N.passAt (L2N.takes_of rfl rfl rfl rfl) σ) (pa_cons (pv 20) (pa_cons pe_bl pa_nil))) (by intro _; rfl))) (pss_one (ps_ret pe_bl)) pss_nil))) (pss_one (ps_ret (pe_callSD C__law_are.G (hr.mono (by first | decide | omega)) rfl C__law_are.mg C__law_are.kp C__law_are.b .nil (fun σ => L2N.passAt (L2N.takes_of rfl rfl rfl rfl) σ) (pa_cons (pe_op (show OpR _ (binaryOp .Add) (rAddZ K) from op_addZ) (pe_lc (own := [("k", 5)]) (g := gName 5) (tt := L2.tYes) rfl sc_law.nd (pi_range1 (by rfl) nb_range (pa_cons pe_int pa_nil)) (blkOk_by (own := [("k", 5)]) (N := ["script", "source", "bound", "menu", "pairs", "k", "paths", "p", "q", "r", "two", "three", "told", "back", "signs", "near", "away", "s", "t", "u", "bad", "pair"]) (sc := defScope st_law) (by decide +kernel)) (fun _ _ _ _ _ => (pg_name (i := 5) sc_law.nd rfl (Or.inl rfl))) (fun _ _ _ _ _ => pts_nil) (fun _ _ _ _ _ => (pe_tup (pa_cons (pe_ix (show IxR _ (rIx K) from ix_seq) (pv 6) (pv 5) (fun _ _ => rfl)) (pa_cons (pe_ix (show IxR _ (rIx K) from ix_seq) (pv 4) (pv 5) (fun _ _ => rfl)) pa_nil))))) (pe_lst (pa_cons (pe_tup (pa_cons (pv 17) (pa_cons (pv 16) pa_nil))) (pa_cons (pe_tup (pa_cons (pe_binS (rt := (Rt.obj (T "Path"))) M_Path_add.G (hr.mono (by first | decide | omega)) M_Path_add.b (fun σ => L2N.passAt (L2N.takes_of rfl rfl rfl rfl) σ) ⟨M_Path_add.me.at_, M_Path_add.me.fn, sf_Path⟩ (show (T "Path") = (T "Path") ∨ BinOth _ _ _ _ from Or.inl rfl) (pv 7) (pv 8)) (pa_cons (pv 10) pa_nil))) pa_nil)))) pa_nil))))))))))))))))))))))))))))))))), by
    unfold Y_law
    exact (ss_seq (ss_asgF (se_p (sp_call (sa_cons (sp_v (i := 0)) sa_nil)))) (ss_seq (ss_asgF (se_p (sp_call (sa_cons (sp_v (i := 1)) (sa_cons (sp_lst (sa_cons sp_int (sa_cons sp_int sa_nil)) (by decide)) sa_nil))))) (ss_seq (ss_asgF (se_p (sp_call (sa_cons (sp_v (i := 1)) (sa_cons (sp_lst (sa_cons (sp_lst (sa_cons sp_int (sa_cons sp_int (sa_cons sp_int (sa_cons sp_int (sa_cons sp_int sa_nil))))) (by decide)) (sa_cons (sp_range sp_int) sa_nil)) (by decide)) sa_nil))))) (ss_seq (ss_asg (se_p (sp_lst (sa_cons (sp_tup (sa_cons (sp_callN (sa_cons (sp_v (i := 1)) (sa_cons (sp_v (i := 2)) sa_nil))) (sa_cons (sp_call (sa_cons (sp_v (i := 1)) (sa_cons (sp_callN (sa_cons (sp_v (i := 1)) (sa_cons sp_int sa_nil))) (sa_cons (sp_v (i := 3)) (sa_cons (sp_v (i := 2)) sa_nil))))) sa_nil)) (by decide)) sa_nil) (by decide)))) (ss_seq (ss_for (si_R1 sp_int) sg_nm (ss_app (sw_V (i := 4)) (sp_tup (sa_cons (sp_call (sa_cons (sp_ix (sp_v (i := 4)) (sp_v (i := 5))) sa_nil)) (sa_cons (sp_call (sa_cons (sp_v (i := 1)) (sa_cons (sp_callN (sa_cons (sp_v (i := 1)) (sa_cons sp_int sa_nil))) (sa_cons (sp_v (i := 3)) (sa_cons (sp_v (i := 2)) sa_nil))))) sa_nil)) (by decide)))) (ss_seq (ss_asgF (se_p (sp_lc (sic_E (sp_v (i := 4))) (gok_nm (by decide)) sg_nm sb_yes (sp_makeN rfl (fun _ _ _ => .nil) (sa_cons (sp_ix (sp_v (i := 21)) sp_int) (sa_cons (sp_list (sp_ix (sp_v (i := 21)) sp_int)) sa_nil)))))) (ss_cut (show SS _ _ _ _ Y_law_c1 from (ss_seq (ss_asgF (se_p (sp_ix (sp_v (i := 6)) sp_int))) (ss_seq (ss_asgF (se_p (sp_ix (sp_v (i := 6)) sp_int))) (ss_seq (ss_asgF (se_p (sp_ix (sp_v (i := 6)) sp_int))) (ss_seq (ss_asgF (se_p (sp_call (sa_cons (sp_ix (sp_v (i := 4)) sp_int) (sa_cons (sp_ix (sp_v (i := 4)) sp_int) sa_nil))))) (ss_seq (ss_asgF (se_p (sp_call (sa_cons (sp_v (i := 10)) (sa_cons (sp_ix (sp_v (i := 4)) sp_int) sa_nil))))) (ss_seq (ss_asgF (se_p (sp_lst (sa_cons (sp_tup (sa_cons (sp_unS rfl (sp_v (i := 7))) (sa_cons (sp_call (sa_cons (sp_ix (sp_v (i := 4)) sp_int) sa_nil)) sa_nil)) (by decide)) (sa_cons (sp_tup (sa_cons (sp_unS rfl (sp_unS rfl (sp_v (i := 7)))) (sa_cons (sp_ix (sp_v (i := 4)) sp_int) sa_nil)) (by decide)) (sa_cons (sp_tup (sa_cons (sp_unS rfl (sp_v (i := 9))) (sa_cons (sp_call (sa_cons (sp_ix (sp_v (i := 4)) sp_int) sa_nil)) sa_nil)) (by decide)) (sa_cons (sp_tup (sa_cons (sp_binS (rt := (some "Path")) rfl rfl (sp_v (i := 7)) (sp_v (i := 8))) (sa_cons (sp_v (i := 10)) sa_nil)) (by decide)) sa_nil)))) (by decide)))) (ss_seq (ss_asgF (se_p (sp_add (sp_v (i := 12)) (sp_lst (sa_cons (sp_tup (sa_cons (sp_unS rfl (sp_binS (rt := (some "Path")) rfl rfl (sp_v (i := 7)) (sp_v (i := 8)))) (sa_cons (sp_call (sa_cons (sp_v (i := 10)) sa_nil)) sa_nil)) (by decide)) (sa_cons (sp_tup (sa_cons (sp_binS (rt := (some "Path")) rfl rfl (sp_unS rfl (sp_v (i := 8))) (sp_unS rfl (sp_v (i := 7)))) (sa_cons (sp_call (sa_cons (sp_v (i := 10)) sa_nil)) sa_nil)) (by decide)) (sa_cons (sp_tup (sa_cons (sp_binS (rt := (some "Path")) rfl rfl (sp_binS (rt := (some "Path")) rfl rfl (sp_v (i := 7)) (sp_v (i := 8))) (sp_v (i := 9))) (sa_cons (sp_v (i := 11)) sa_nil)) (by decide)) (sa_cons (sp_tup (sa_cons (sp_binS (rt := (some "Path")) rfl rfl (sp_v (i := 7)) (sp_binS (rt := (some "Path")) rfl rfl (sp_v (i := 8)) (sp_v (i := 9)))) (sa_cons (sp_v (i := 11)) sa_nil)) (by decide)) sa_nil)))) (by decide))))) (ss_seq (ss_asgF (se_p (sp_add (sp_v (i := 12)) (sp_lst (sa_cons (sp_tup (sa_cons (sp_cmeth rfl (sa_cons (sp_v (i := 7)) (sa_cons (sp_v (i := 8)) (sa_cons (sp_v (i := 9)) sa_nil)))) (sa_cons (sp_v (i := 11)) sa_nil)) (by decide)) (sa_cons (sp_tup (sa_cons (sp_cmeth rfl (sa_cons (sp_v (i := 7)) (sa_cons (sp_v (i := 8)) sa_nil))) (sa_cons (sp_v (i := 10)) sa_nil)) (by decide)) (sa_cons (sp_tup (sa_cons (sp_cmeth rfl (sa_cons (sp_v (i := 8)) sa_nil)) (sa_cons (sp_ix (sp_v (i := 4)) sp_int) sa_nil)) (by decide)) sa_nil))) (by decide))))) (ss_seq (ss_asgF (se_p (sp_add (sp_v (i := 12)) (sp_lst (sa_cons (sp_tup (sa_cons (sp_binS (rt := (some "Path")) rfl rfl (sp_smeth rfl (sa_cons (sp_fl rfl (sp_v (i := 7))) sa_nil)) (sp_v (i := 7))) (sa_cons (sp_ix (sp_v (i := 4)) sp_int) sa_nil)) (by decide)) (sa_cons (sp_tup (sa_cons (sp_binS (rt := (some "Path")) rfl rfl (sp_v (i := 7)) (sp_smeth rfl (sa_cons (sp_propN rfl (sp_v (i := 7))) sa_nil))) (sa_cons (sp_ix (sp_v (i := 4)) sp_int) sa_nil)) (by decide)) sa_nil)) (by decide))))) (ss_seq (ss_asgF (se_p (sp_add (sp_v (i := 12)) (sp_lst (sa_cons (sp_tup (sa_cons (sp_cmeth rfl (sa_cons (sp_smeth rfl (sa_cons (sp_fl rfl (sp_v (i := 7))) sa_nil)) (sa_cons (sp_v (i := 7)) (sa_cons (sp_smeth rfl (sa_cons (sp_fl rfl (sp_v (i := 8))) sa_nil)) sa_nil)))) (sa_cons (sp_ix (sp_v (i := 4)) sp_int) sa_nil)) (by decide)) sa_nil) (by decide))))) (ss_seq (ss_asgF (se_p (sp_add (sp_v (i := 12)) (sp_lst (sa_cons (sp_tup (sa_cons (sp_unS rfl (sp_smeth rfl (sa_cons (sp_fl rfl (sp_v (i := 8))) sa_nil))) (sa_cons (sp_tup (sa_cons (sp_ix (sp_ix (sp_v (i := 4)) sp_int) sp_int) (sa_cons (sp_lst sa_nil (by decide)) sa_nil)) (by decide)) sa_nil)) (by decide)) (sa_cons (sp_tup (sa_cons (sp_binS (rt := (some "Path")) rfl rfl (sp_v (i := 7)) (sp_unS rfl (sp_v (i := 7)))) (sa_cons (sp_call (sa_cons (sp_ix (sp_v (i := 4)) sp_int) (sa_cons (sp_call (sa_cons (sp_ix (sp_v (i := 4)) sp_int) sa_nil)) sa_nil))) sa_nil)) (by decide)) sa_nil)) (by decide))))) (ss_seq (ss_asgF (se_p (sp_call (sa_cons (sp_call (sa_cons (sp_ix (sp_v (i := 4)) sp_int) sa_nil)) (sa_cons (sp_call (sa_cons (sp_ix (sp_v (i := 4)) sp_int) sa_nil)) sa_nil))))) (ss_seq (ss_asgF (se_p (sp_add (sp_v (i := 12)) (sp_lst (sa_cons (sp_tup (sa_cons (sp_cmeth rfl (sa_cons (sp_v (i := 7)) (sa_cons (sp_v (i := 8)) (sa_cons (sp_v (i := 9)) (sa_cons (sp_unS rfl (sp_v (i := 9))) (sa_cons (sp_unS rfl (sp_v (i := 8))) sa_nil)))))) (sa_cons (sp_call (sa_cons (sp_v (i := 11)) (sa_cons (sp_v (i := 13)) sa_nil))) sa_nil)) (by decide)) sa_nil) (by decide))))) (ss_seq (ss_if (sbe_p (sb_not (sb_tru (sp_call (sa_cons (sp_v (i := 12)) sa_nil))))) (ss_ret (se_p sp_bl)) ss_next) (ss_seq (ss_asgF (se_p (sp_tup (sa_cons (sp_cmpO rfl (sp_unS rfl (sp_unS rfl (sp_v (i := 7)))) (sp_v (i := 7))) (sa_cons (sp_cmpO rfl (sp_unS rfl (sp_binS (rt := (some "Path")) rfl rfl (sp_v (i := 7)) (sp_v (i := 8)))) (sp_binS (rt := (some "Path")) rfl rfl (sp_unS rfl (sp_v (i := 8))) (sp_unS rfl (sp_v (i := 7))))) (sa_cons (sp_cmpO rfl (sp_binS (rt := (some "Path")) rfl rfl (sp_binS (rt := (some "Path")) rfl rfl (sp_v (i := 7)) (sp_v (i := 8))) (sp_v (i := 9))) (sp_binS (rt := (some "Path")) rfl rfl (sp_v (i := 7)) (sp_binS (rt := (some "Path")) rfl rfl (sp_v (i := 8)) (sp_v (i := 9))))) (sa_cons (sp_cmpO rfl (sp_cmeth rfl (sa_cons (sp_v (i := 7)) (sa_cons (sp_v (i := 8)) (sa_cons (sp_v (i := 9)) sa_nil)))) (sp_binS (rt := (some "Path")) rfl rfl (sp_binS (rt := (some "Path")) rfl rfl (sp_v (i := 7)) (sp_v (i := 8))) (sp_v (i := 9)))) sa_nil)))) (by decide)))) (ss_seq (ss_if (sbe_p (sb_or (sb_not (sb_tru (sp_call (sa_cons (sp_v (i := 14)) (sa_cons (sp_tup (sa_cons sp_bl (sa_cons sp_bl (sa_cons sp_bl (sa_cons sp_bl sa_nil)))) (by decide)) sa_nil))))) (sb_not (sb_tru (sp_call (sa_cons (sp_v (i := 6)) (sa_cons (sp_v (i := 4)) sa_nil))))))) (ss_ret (se_p sp_bl)) ss_next) (ss_cut (show SS _ _ _ _ Y_law_c3 from (ss_seq (ss_asgF (se_p (sp_2 ops_mod (sp_intc (sp_add (sp_add (sp_call (sa_cons (sp_ix (sp_v (i := 4)) sp_int) sa_nil)) sp_int) (sp_callN (sa_cons (sp_v (i := 1)) (sa_cons sp_int sa_nil))))) sp_int))) (ss_seq (ss_asgF (se_p (sp_tup (sa_cons (sp_v (i := 15)) (sa_cons (sp_call (sa_cons (sp_v (i := 1)) (sa_cons (sp_callN (sa_cons (sp_v (i := 1)) (sa_cons sp_int sa_nil))) (sa_cons (sp_v (i := 3)) (sa_cons (sp_v (i := 2)) sa_nil))))) sa_nil)) (by decide)))) (ss_seq (ss_asgF (se_p (sp_make rfl (fun _ _ _ => .nil) (sa_cons (sp_v (i := 15)) (sa_cons (sp_list (sp_ix (sp_v (i := 16)) sp_int)) sa_nil))))) (ss_seq (ss_asgF (se_p (sp_smeth rfl (sa_cons (sp_call (sa_cons (sp_v (i := 16)) sa_nil)) sa_nil)))) (ss_seq (ss_asgF (se_p (sp_smeth rfl (sa_cons (sp_2 ops_mod (sp_intc (sp_add (sp_add (sp_call (sa_cons (sp_ix (sp_v (i := 4)) sp_int) sa_nil)) sp_int) (sp_callN (sa_cons (sp_v (i := 1)) (sa_cons sp_int sa_nil))))) sp_int) sa_nil)))) (ss_seq (ss_for (si_S (sp_lst (sa_cons (sp_lst (sa_cons (sp_v (i := 7)) (sa_cons (sp_v (i := 17)) sa_nil)) (by decide)) (sa_cons (sp_lst (sa_cons (sp_v (i := 8)) (sa_cons (sp_v (i := 19)) sa_nil)) (by decide)) sa_nil)) (by decide))) sg_nm (ss_if (sbe_p (sb_or (sb_not (sb_tru (sp_call (sa_cons (sp_v (i := 20)) (sa_cons sp_bl sa_nil))))) (sb_not (sb_tru (sp_call (sa_cons (sp_v (i := 20)) (sa_cons sp_bl sa_nil))))))) (ss_ret (se_p sp_bl)) ss_next)) (ss_seq (ss_for (si_S (sp_lst (sa_cons (sp_lst sa_nil (by decide)) (sa_cons (sp_lst (sa_cons (sp_v (i := 7)) (sa_cons (sp_v (i := 17)) (sa_cons (sp_v (i := 18)) sa_nil))) (by decide)) (sa_cons (sp_lst (sa_cons (sp_v (i := 7)) (sa_cons (sp_v (i := 8)) (sa_cons (sp_v (i := 19)) sa_nil))) (by decide)) sa_nil))) (by decide))) sg_nm (ss_if (sbe_p (sb_not (sb_tru (sp_call (sa_cons (sp_v (i := 20)) (sa_cons sp_bl sa_nil)))))) (ss_ret (se_p sp_bl)) ss_next)) (ss_ret (se_p (sp_call (sa_cons (sp_add (sp_lc (sic_of (si_R1 sp_int)) (gok_nm (by decide)) sg_nm sb_yes (sp_tup (sa_cons (sp_ix (sp_v (i := 6)) (sp_v (i := 5))) (sa_cons (sp_ix (sp_v (i := 4)) (sp_v (i := 5))) sa_nil)) (by decide))) (sp_lst (sa_cons (sp_tup (sa_cons (sp_v (i := 17)) (sa_cons (sp_v (i := 16)) sa_nil)) (by decide)) (sa_cons (sp_tup (sa_cons (sp_binS (rt := (some "Path")) rfl rfl (sp_v (i := 7)) (sp_v (i := 8))) (sa_cons (sp_v (i := 10)) sa_nil)) (by decide)) sa_nil)) (by decide))) sa_nil)))))))))))))))))))))))))))))))))))))⟩)
theorem all_mk {l : PySem.W.OpenLaw} {w : World} {K : PySem.W.Frag} {h : Heap} {mg : Str → Option Value} {fa : Addr} (X : K.In h) (G : h.Ns mainGlobals mg) (hfa : mg "law" = some (.ref fa))
    {f__law_source : Addr} {od__law_source an__law_source : Option Addr} {sl__law_source : Array (Option Value)} {oc__law_source kV__law_source dc__law_source pm__law_source cd__law_source ct__law_source : Value}
    {f__law_mixed : Addr} {od__law_mixed an__law_mixed : Option Addr} {sl__law_mixed : Array (Option Value)} {oc__law_mixed kV__law_mixed dc__law_mixed pm__law_mixed cd__law_mixed ct__law_mixed : Value}
    {f__law_draw : Addr} {od__law_draw an__law_draw : Option Addr} {sl__law_draw : Array (Option Value)} {oc__law_draw kV__law_draw dc__law_draw pm__law_draw cd__law_draw ct__law_draw : Value}
    {f__law_pick : Addr} {od__law_pick an__law_pick : Option Addr} {sl__law_pick : Array (Option Value)} {oc__law_pick kV__law_pick dc__law_pick pm__law_pick cd__law_pick ct__law_pick : Value}
    {f__law_steps : Addr} {od__law_steps an__law_steps : Option Addr} {sl__law_steps : Array (Option Value)} {oc__law_steps kV__law_steps dc__law_steps pm__law_steps cd__law_steps ct__law_steps : Value}
    {f__law_stops : Addr} {od__law_stops an__law_stops : Option Addr} {sl__law_stops : Array (Option Value)} {oc__law_stops kV__law_stops dc__law_stops pm__law_stops cd__law_stops ct__law_stops : Value}
    {f__law_end : Addr} {od__law_end an__law_end : Option Addr} {sl__law_end : Array (Option Value)} {oc__law_end kV__law_end dc__law_end pm__law_end cd__law_end ct__law_end : Value}
    {C_PlaceOutOfRange : Addr}
    {C_NetworkError : Addr}
    {nm_PlaceOutOfRange q_PlaceOutOfRange : Str} {N_PlaceOutOfRange : Addr} {bs_PlaceOutOfRange : List Value} {sn_PlaceOutOfRange : List Str} {sub_PlaceOutOfRange : List Value} {ab_PlaceOutOfRange : Bool} {col_PlaceOutOfRange : Option Bool} {dd_PlaceOutOfRange : Option Addr} {k0_PlaceOutOfRange k1_PlaceOutOfRange k2_PlaceOutOfRange k3_PlaceOutOfRange k5_PlaceOutOfRange : Option Value}
    {f_PlaceOutOfRange_init cc_PlaceOutOfRange_init cda_PlaceOutOfRange_init : Addr} {kV_PlaceOutOfRange_init dc_PlaceOutOfRange_init pm_PlaceOutOfRange_init ct_PlaceOutOfRange_init oc_PlaceOutOfRange_init ccl_PlaceOutOfRange_init cl_PlaceOutOfRange_init : Value} {an_PlaceOutOfRange_init od_PlaceOutOfRange_init cdd_PlaceOutOfRange_init cld_PlaceOutOfRange_init : Option Addr} {sl_PlaceOutOfRange_init ccs_PlaceOutOfRange_init csl_PlaceOutOfRange_init : Array (Option Value)} {vs_PlaceOutOfRange_init : Array Value} {file_PlaceOutOfRange_init : Str} {tf_PlaceOutOfRange_init : Tok}
    {f_check_place : Addr} {od_check_place an_check_place : Option Addr} {sl_check_place : Array (Option Value)} {oc_check_place kV_check_place dc_check_place pm_check_place cd_check_place ct_check_place : Value}
    {C_NoSuchLot : Addr}
    {nm_NoSuchLot q_NoSuchLot : Str} {N_NoSuchLot : Addr} {bs_NoSuchLot : List Value} {sn_NoSuchLot : List Str} {sub_NoSuchLot : List Value} {ab_NoSuchLot : Bool} {col_NoSuchLot : Option Bool} {dd_NoSuchLot : Option Addr} {k0_NoSuchLot k1_NoSuchLot k2_NoSuchLot k3_NoSuchLot k5_NoSuchLot : Option Value}
    {f_NoSuchLot_init cc_NoSuchLot_init cda_NoSuchLot_init : Addr} {kV_NoSuchLot_init dc_NoSuchLot_init pm_NoSuchLot_init ct_NoSuchLot_init oc_NoSuchLot_init ccl_NoSuchLot_init cl_NoSuchLot_init : Value} {an_NoSuchLot_init od_NoSuchLot_init cdd_NoSuchLot_init cld_NoSuchLot_init : Option Addr} {sl_NoSuchLot_init ccs_NoSuchLot_init csl_NoSuchLot_init : Array (Option Value)} {vs_NoSuchLot_init : Array Value} {file_NoSuchLot_init : Str} {tf_NoSuchLot_init : Tok}
    {f_Path_init : Addr} {od_Path_init an_Path_init : Option Addr} {sl_Path_init : Array (Option Value)} {oc_Path_init kV_Path_init dc_Path_init pm_Path_init cd_Path_init ct_Path_init : Value}
    {C_Path : Addr}
    {t_MOST_LOTS : Tok}
    {t_MOST_PLACES : Tok}
    {f__law_sum : Addr} {od__law_sum an__law_sum : Option Addr} {sl__law_sum : Array (Option Value)} {oc__law_sum kV__law_sum dc__law_sum pm__law_sum cd__law_sum ct__law_sum : Value}
    {f_Path_end : Addr} {od_Path_end an_Path_end : Option Addr} {sl_Path_end : Array (Option Value)} {oc_Path_end kV_Path_end dc_Path_end pm_Path_end cd_Path_end ct_Path_end : Value}
    {p_Path_end : Addr} {r_Path_end : List Value}
    {f_Path_add : Addr} {od_Path_add an_Path_add : Option Addr} {sl_Path_add : Array (Option Value)} {oc_Path_add kV_Path_add dc_Path_add pm_Path_add cd_Path_add ct_Path_add : Value}
    {C_Mismatch : Addr}
    {nm_Mismatch q_Mismatch : Str} {N_Mismatch : Addr} {bs_Mismatch : List Value} {sn_Mismatch : List Str} {sub_Mismatch : List Value} {ab_Mismatch : Bool} {col_Mismatch : Option Bool} {dd_Mismatch : Option Addr} {k0_Mismatch k1_Mismatch k2_Mismatch k3_Mismatch k5_Mismatch : Option Value}
    {f__law_back : Addr} {od__law_back an__law_back : Option Addr} {sl__law_back : Array (Option Value)} {oc__law_back kV__law_back dc__law_back pm__law_back cd__law_back ct__law_back : Value}
    {f_Path_stops : Addr} {od_Path_stops an_Path_stops : Option Addr} {sl_Path_stops : Array (Option Value)} {oc_Path_stops kV_Path_stops dc_Path_stops pm_Path_stops cd_Path_stops ct_Path_stops : Value}
    {p_Path_stops : Addr} {r_Path_stops : List Value}
    {f_Path_invert : Addr} {od_Path_invert an_Path_invert : Option Addr} {sl_Path_invert : Array (Option Value)} {oc_Path_invert kV_Path_invert dc_Path_invert pm_Path_invert cd_Path_invert ct_Path_invert : Value}
    {f_Path_chain : Addr} {od_Path_chain an_Path_chain : Option Addr} {sl_Path_chain : Array (Option Value)} {oc_Path_chain kV_Path_chain dc_Path_chain pm_Path_chain cd_Path_chain ct_Path_chain : Value}
    {p_Path_chain : Addr} {r_Path_chain : List Value}
    {f_Path_still : Addr} {od_Path_still an_Path_still : Option Addr} {sl_Path_still : Array (Option Value)} {oc_Path_still kV_Path_still dc_Path_still pm_Path_still cd_Path_still ct_Path_still : Value}
    {p_Path_still : Addr} {r_Path_still : List Value}
    {f__law_number : Addr} {od__law_number an__law_number : Option Addr} {sl__law_number : Array (Option Value)} {oc__law_number kV__law_number dc__law_number pm__law_number cd__law_number ct__law_number : Value}
    {f__law_same : Addr} {od__law_same an__law_same : Option Addr} {sl__law_same : Array (Option Value)} {oc__law_same kV__law_same dc__law_same pm__law_same cd__law_same ct__law_same : Value}
    {f_Path_len : Addr} {od_Path_len an_Path_len : Option Addr} {sl_Path_len : Array (Option Value)} {oc_Path_len kV_Path_len dc_Path_len pm_Path_len cd_Path_len ct_Path_len : Value}
    {f__law_path_is : Addr} {od__law_path_is an__law_path_is : Option Addr} {sl__law_path_is : Array (Option Value)} {oc__law_path_is kV__law_path_is dc__law_path_is pm__law_path_is cd__law_path_is ct__law_path_is : Value}
    {f__law_are : Addr} {od__law_are an__law_are : Option Addr} {sl__law_are : Array (Option Value)} {oc__law_are kV__law_are dc__law_are pm__law_are cd__law_are ct__law_are : Value}
    {f_Path_eq : Addr} {od_Path_eq an_Path_eq : Option Addr} {sl_Path_eq : Array (Option Value)} {oc_Path_eq kV_Path_eq dc_Path_eq pm_Path_eq cd_Path_eq ct_Path_eq : Value}
    {f_all_different : Addr} {od_all_different an_all_different : Option Addr} {sl_all_different : Array (Option Value)} {oc_all_different kV_all_different dc_all_different pm_all_different cd_all_different ct_all_different : Value}
    {f_Path_lot_numbers : Addr} {od_Path_lot_numbers an_Path_lot_numbers : Option Addr} {sl_Path_lot_numbers : Array (Option Value)} {oc_Path_lot_numbers kV_Path_lot_numbers dc_Path_lot_numbers pm_Path_lot_numbers cd_Path_lot_numbers ct_Path_lot_numbers : Value}
    {p_Path_lot_numbers : Addr} {r_Path_lot_numbers : List Value}
    {f_share_no_lot : Addr} {od_share_no_lot an_share_no_lot : Option Addr} {sl_share_no_lot : Array (Option Value)} {oc_share_no_lot kV_share_no_lot dc_share_no_lot pm_share_no_lot cd_share_no_lot ct_share_no_lot : Value}
    {f__law_apart_due : Addr} {od__law_apart_due an__law_apart_due : Option Addr} {sl__law_apart_due : Array (Option Value)} {oc__law_apart_due kV__law_apart_due dc__law_apart_due pm__law_apart_due cd__law_apart_due ct__law_apart_due : Value}
    {f__law_shared : Addr} {od__law_shared an__law_shared : Option Addr} {sl__law_shared : Array (Option Value)} {oc__law_shared kV__law_shared dc__law_shared pm__law_shared cd__law_shared ct__law_shared : Value}
    {f__law_chained : Addr} {od__law_chained an__law_chained : Option Addr} {sl__law_chained : Array (Option Value)} {oc__law_chained kV__law_chained dc__law_chained pm__law_chained cd__law_chained ct__law_chained : Value}
    {f__law_refused : Addr} {od__law_refused an__law_refused : Option Addr} {sl__law_refused : Array (Option Value)} {oc__law_refused kV__law_refused dc__law_refused pm__law_refused cd__law_refused ct__law_refused : Value}
    {nm_NetworkError q_NetworkError : Str} {N_NetworkError : Addr} {bs_NetworkError : List Value} {sn_NetworkError : List Str} {sub_NetworkError : List Value} {ab_NetworkError : Bool} {col_NetworkError : Option Bool} {dd_NetworkError : Option Addr} {k0_NetworkError k1_NetworkError k2_NetworkError k3_NetworkError k5_NetworkError : Option Value}
    {f_law : Addr} {od_law an_law : Option Addr} {sl_law : Array (Option Value)} {oc_law kV_law dc_law pm_law cd_law ct_law : Value}
    (a__law_source : PySem.W.nsIn K mainGlobals "_law_source" = some (some (.ref f__law_source)))
    (l__law_source : K.lookup f__law_source = some ⟨oc__law_source, od__law_source, .func (PySem.W.fnOf "_law_source" "_law_source" (defArgs st__law_source) (defBody st__law_source) (defScope st__law_source) .none kV__law_source dc__law_source pm__law_source an__law_source cd__law_source ct__law_source), sl__law_source⟩)
    (c__law_source : PySem.W.codeIn K cd__law_source "_law_source" = true)
    (k__law_source : PySem.W.keepIn K (.ref f__law_source) = true)
    (z_list : PySem.W.nsIn K mainGlobals "list" = some none)
    (a__law_mixed : PySem.W.nsIn K mainGlobals "_law_mixed" = some (some (.ref f__law_mixed)))
    (l__law_mixed : K.lookup f__law_mixed = some ⟨oc__law_mixed, od__law_mixed, .func (PySem.W.fnOf "_law_mixed" "_law_mixed" (defArgs st__law_mixed) (defBody st__law_mixed) (defScope st__law_mixed) .none kV__law_mixed dc__law_mixed pm__law_mixed an__law_mixed cd__law_mixed ct__law_mixed), sl__law_mixed⟩)
    (c__law_mixed : PySem.W.codeIn K cd__law_mixed "_law_mixed" = true)
    (k__law_mixed : PySem.W.keepIn K (.ref f__law_mixed) = true)
    (z_int : PySem.W.nsIn K mainGlobals "int" = some none)
    (a__law_draw : PySem.W.nsIn K mainGlobals "_law_draw" = some (some (.ref f__law_draw)))
    (l__law_draw : K.lookup f__law_draw = some ⟨oc__law_draw, od__law_draw, .func (PySem.W.fnOf "_law_draw" "_law_draw" (defArgs st__law_draw) (defBody st__law_draw) (defScope st__law_draw) .none kV__law_draw dc__law_draw pm__law_draw an__law_draw cd__law_draw ct__law_draw), sl__law_draw⟩)
    (c__law_draw : PySem.W.codeIn K cd__law_draw "_law_draw" = true)
    (k__law_draw : PySem.W.keepIn K (.ref f__law_draw) = true)
    (z_len : PySem.W.nsIn K mainGlobals "len" = some none)
    (a__law_pick : PySem.W.nsIn K mainGlobals "_law_pick" = some (some (.ref f__law_pick)))
    (l__law_pick : K.lookup f__law_pick = some ⟨oc__law_pick, od__law_pick, .func (PySem.W.fnOf "_law_pick" "_law_pick" (defArgs st__law_pick) (defBody st__law_pick) (defScope st__law_pick) .none kV__law_pick dc__law_pick pm__law_pick an__law_pick cd__law_pick ct__law_pick), sl__law_pick⟩)
    (c__law_pick : PySem.W.codeIn K cd__law_pick "_law_pick" = true)
    (k__law_pick : PySem.W.keepIn K (.ref f__law_pick) = true)
    (a__law_steps : PySem.W.nsIn K mainGlobals "_law_steps" = some (some (.ref f__law_steps)))
    (l__law_steps : K.lookup f__law_steps = some ⟨oc__law_steps, od__law_steps, .func (PySem.W.fnOf "_law_steps" "_law_steps" (defArgs st__law_steps) (defBody st__law_steps) (defScope st__law_steps) .none kV__law_steps dc__law_steps pm__law_steps an__law_steps cd__law_steps ct__law_steps), sl__law_steps⟩)
    (c__law_steps : PySem.W.codeIn K cd__law_steps "_law_steps" = true)
    (k__law_steps : PySem.W.keepIn K (.ref f__law_steps) = true)
    (z_range : PySem.W.nsIn K mainGlobals "range" = some none)
    (a__law_stops : PySem.W.nsIn K mainGlobals "_law_stops" = some (some (.ref f__law_stops)))
    (l__law_stops : K.lookup f__law_stops = some ⟨oc__law_stops, od__law_stops, .func (PySem.W.fnOf "_law_stops" "_law_stops" (defArgs st__law_stops) (defBody st__law_stops) (defScope st__law_stops) .none kV__law_stops dc__law_stops pm__law_stops an__law_stops cd__law_stops ct__law_stops), sl__law_stops⟩)
    (c__law_stops : PySem.W.codeIn K cd__law_stops "_law_stops" = true)
    (k__law_stops : PySem.W.keepIn K (.ref f__law_stops) = true)
    (a__law_end : PySem.W.nsIn K mainGlobals "_law_end" = some (some (.ref f__law_end)))
    (l__law_end : K.lookup f__law_end = some ⟨oc__law_end, od__law_end, .func (PySem.W.fnOf "_law_end" "_law_end" (defArgs st__law_end) (defBody st__law_end) (defScope st__law_end) .none kV__law_end dc__law_end pm__law_end an__law_end cd__law_end ct__law_end), sl__law_end⟩)
    (c__law_end : PySem.W.codeIn K cd__law_end "_law_end" = true)
    (k__law_end : PySem.W.keepIn K (.ref f__law_end) = true)
    (xC_PlaceOutOfRange : PySem.W.nsIn K mainGlobals "PlaceOutOfRange" = some (some (.ref C_PlaceOutOfRange)))
    (xC_NetworkError : PySem.W.nsIn K mainGlobals "NetworkError" = some (some (.ref C_NetworkError)))
    (xL_PlaceOutOfRange : K.lookup C_PlaceOutOfRange = some (excClassObj nm_PlaceOutOfRange q_PlaceOutOfRange C_PlaceOutOfRange N_PlaceOutOfRange bs_PlaceOutOfRange [.ref C_NetworkError, .type "ValueError", .type "Exception", .type "BaseException", .type "object"] true sn_PlaceOutOfRange sub_PlaceOutOfRange ab_PlaceOutOfRange col_PlaceOutOfRange dd_PlaceOutOfRange k0_PlaceOutOfRange k1_PlaceOutOfRange k2_PlaceOutOfRange k3_PlaceOutOfRange k5_PlaceOutOfRange "ValueError.__new__"))
    (xsa_PlaceOutOfRange : PySem.W.findIn K (.ref C_PlaceOutOfRange) "__setattr__" = some (some (.builtin "object.__setattr__")))
    (xex_PlaceOutOfRange : PySem.W.subIn K (.ref C_PlaceOutOfRange) (.type "BaseException") = some true)
    (xty_PlaceOutOfRange : PySem.W.typeIn K (.ref C_PlaceOutOfRange) = some (.type "type"))
    (xga_PlaceOutOfRange : PySem.W.findIn K (.ref C_PlaceOutOfRange) "__getattribute__" = some (some (.builtin "BaseException.__getattribute__")))
    (xgg_PlaceOutOfRange : PySem.W.findIn K (.ref C_PlaceOutOfRange) "__getattr__" = some none)
    (xhd_PlaceOutOfRange : PySem.W.hasDictIn K C_PlaceOutOfRange = true)
    (xha_PlaceOutOfRange : PySem.W.findIn K (.ref C_PlaceOutOfRange) "__class__" = some (some (.builtin "object.__class__")))
    (xhm_PlaceOutOfRange : PySem.W.mroIn K C_PlaceOutOfRange (.type "object") = some true)
    (xhn : PySem.W.specialIn K (.builtin "object.__class__") "__get__" = some (some (.builtin "getset_descriptor.__get__")))
    (xht : PySem.W.takesIn K (.builtin "object.__class__") = some true)
    (xkp_PlaceOutOfRange : PySem.W.keepIn K (.ref C_PlaceOutOfRange) = true)
    (a_PlaceOutOfRange_init : PySem.W.findIn K (.ref C_PlaceOutOfRange) "__init__" = some (some (.ref f_PlaceOutOfRange_init)))
    (ty_PlaceOutOfRange_init : PySem.W.typeIn K (.ref f_PlaceOutOfRange_init) = some (.type "function"))
    (l_PlaceOutOfRange_init : K.lookup f_PlaceOutOfRange_init = some ⟨oc_PlaceOutOfRange_init, od_PlaceOutOfRange_init, .func (PySem.W.ksFn "__init__" "PlaceOutOfRange.__init__" (defArgs st_PlaceOutOfRange_init) (defBody st_PlaceOutOfRange_init) (defScope st_PlaceOutOfRange_init) .none kV_PlaceOutOfRange_init dc_PlaceOutOfRange_init pm_PlaceOutOfRange_init an_PlaceOutOfRange_init (.ref cda_PlaceOutOfRange_init) ct_PlaceOutOfRange_init cc_PlaceOutOfRange_init), sl_PlaceOutOfRange_init⟩)
    (c_PlaceOutOfRange_init : PySem.W.codeIn K (.ref cda_PlaceOutOfRange_init) "PlaceOutOfRange.__init__" = true)
    (co_PlaceOutOfRange_init : K.lookup cda_PlaceOutOfRange_init = some ⟨ccl_PlaceOutOfRange_init, cdd_PlaceOutOfRange_init, .fields vs_PlaceOutOfRange_init, ccs_PlaceOutOfRange_init⟩)
    (vv_PlaceOutOfRange_init : vs_PlaceOutOfRange_init[2]? = some (.str file_PlaceOutOfRange_init tf_PlaceOutOfRange_init))
    (fi_PlaceOutOfRange_init : ((l.prog.main.file : Str) == file_PlaceOutOfRange_init) = true)
    (ce_PlaceOutOfRange_init : K.lookup cc_PlaceOutOfRange_init = some ⟨cl_PlaceOutOfRange_init, cld_PlaceOutOfRange_init, .cell (some (.ref C_PlaceOutOfRange)), csl_PlaceOutOfRange_init⟩)
    (mv_PlaceOutOfRange_init : PySem.W.mroIn K C_PlaceOutOfRange (.type "ValueError") = some true)
    (ms_PlaceOutOfRange_init : PySem.W.mroIn K C_PlaceOutOfRange (.ref C_PlaceOutOfRange) = some true)
    (al_PlaceOutOfRange_init : PySem.W.ks_superIn K C_PlaceOutOfRange C_PlaceOutOfRange "__init__" = some (some (.builtin "ValueError.__init__")))
    (xany : PySem.W.nsIn K cStatics "thirdparty.any" = some none)
    (xsup : PySem.W.nsIn K mainGlobals "super" = some none)
    (xtop : (l.prog.main.scope.names.lookup ("super" : Str)).isSome = false)
    (xna_PlaceOutOfRange_place : PySem.W.findIn K (.ref C_PlaceOutOfRange) "place" = some none)
    (a_check_place : PySem.W.nsIn K mainGlobals "check_place" = some (some (.ref f_check_place)))
    (l_check_place : K.lookup f_check_place = some ⟨oc_check_place, od_check_place, .func (PySem.W.fnOf "check_place" "check_place" (defArgs st_check_place) (defBody st_check_place) (defScope st_check_place) .none kV_check_place dc_check_place pm_check_place an_check_place cd_check_place ct_check_place), sl_check_place⟩)
    (c_check_place : PySem.W.codeIn K cd_check_place "check_place" = true)
    (k_check_place : PySem.W.keepIn K (.ref f_check_place) = true)
    (xC_NoSuchLot : PySem.W.nsIn K mainGlobals "NoSuchLot" = some (some (.ref C_NoSuchLot)))
    (xL_NoSuchLot : K.lookup C_NoSuchLot = some (excClassObj nm_NoSuchLot q_NoSuchLot C_NoSuchLot N_NoSuchLot bs_NoSuchLot [.ref C_NetworkError, .type "ValueError", .type "Exception", .type "BaseException", .type "object"] true sn_NoSuchLot sub_NoSuchLot ab_NoSuchLot col_NoSuchLot dd_NoSuchLot k0_NoSuchLot k1_NoSuchLot k2_NoSuchLot k3_NoSuchLot k5_NoSuchLot "ValueError.__new__"))
    (xsa_NoSuchLot : PySem.W.findIn K (.ref C_NoSuchLot) "__setattr__" = some (some (.builtin "object.__setattr__")))
    (xex_NoSuchLot : PySem.W.subIn K (.ref C_NoSuchLot) (.type "BaseException") = some true)
    (xty_NoSuchLot : PySem.W.typeIn K (.ref C_NoSuchLot) = some (.type "type"))
    (xga_NoSuchLot : PySem.W.findIn K (.ref C_NoSuchLot) "__getattribute__" = some (some (.builtin "BaseException.__getattribute__")))
    (xgg_NoSuchLot : PySem.W.findIn K (.ref C_NoSuchLot) "__getattr__" = some none)
    (xhd_NoSuchLot : PySem.W.hasDictIn K C_NoSuchLot = true)
    (xha_NoSuchLot : PySem.W.findIn K (.ref C_NoSuchLot) "__class__" = some (some (.builtin "object.__class__")))
    (xhm_NoSuchLot : PySem.W.mroIn K C_NoSuchLot (.type "object") = some true)
    (xkp_NoSuchLot : PySem.W.keepIn K (.ref C_NoSuchLot) = true)
    (a_NoSuchLot_init : PySem.W.findIn K (.ref C_NoSuchLot) "__init__" = some (some (.ref f_NoSuchLot_init)))
    (ty_NoSuchLot_init : PySem.W.typeIn K (.ref f_NoSuchLot_init) = some (.type "function"))
    (l_NoSuchLot_init : K.lookup f_NoSuchLot_init = some ⟨oc_NoSuchLot_init, od_NoSuchLot_init, .func (PySem.W.ksFn "__init__" "NoSuchLot.__init__" (defArgs st_NoSuchLot_init) (defBody st_NoSuchLot_init) (defScope st_NoSuchLot_init) .none kV_NoSuchLot_init dc_NoSuchLot_init pm_NoSuchLot_init an_NoSuchLot_init (.ref cda_NoSuchLot_init) ct_NoSuchLot_init cc_NoSuchLot_init), sl_NoSuchLot_init⟩)
    (c_NoSuchLot_init : PySem.W.codeIn K (.ref cda_NoSuchLot_init) "NoSuchLot.__init__" = true)
    (co_NoSuchLot_init : K.lookup cda_NoSuchLot_init = some ⟨ccl_NoSuchLot_init, cdd_NoSuchLot_init, .fields vs_NoSuchLot_init, ccs_NoSuchLot_init⟩)
    (vv_NoSuchLot_init : vs_NoSuchLot_init[2]? = some (.str file_NoSuchLot_init tf_NoSuchLot_init))
    (fi_NoSuchLot_init : ((l.prog.main.file : Str) == file_NoSuchLot_init) = true)
    (ce_NoSuchLot_init : K.lookup cc_NoSuchLot_init = some ⟨cl_NoSuchLot_init, cld_NoSuchLot_init, .cell (some (.ref C_NoSuchLot)), csl_NoSuchLot_init⟩)
    (mv_NoSuchLot_init : PySem.W.mroIn K C_NoSuchLot (.type "ValueError") = some true)
    (ms_NoSuchLot_init : PySem.W.mroIn K C_NoSuchLot (.ref C_NoSuchLot) = some true)
    (al_NoSuchLot_init : PySem.W.ks_superIn K C_NoSuchLot C_NoSuchLot "__init__" = some (some (.builtin "ValueError.__init__")))
    (xna_NoSuchLot_lot : PySem.W.findIn K (.ref C_NoSuchLot) "lot" = some none)
    (xC_Path : PySem.W.nsIn K mainGlobals "Path" = some (some (.ref C_Path)))
    (xpg_Path : PySem.W.plainGet K C_Path Str.empty = true)
    (xhd_Path : PySem.W.hasDictIn K C_Path = true)
    (xpo_Path : PySem.W.plainOver K C_Path = true)
    (xsa_Path : PySem.W.findIn K (.ref C_Path) "__setattr__" = some (some (.builtin "object.__setattr__")))
    (a_Path_init : PySem.W.findIn K (.ref C_Path) "__init__" = some (some (.ref f_Path_init)))
    (i_Path_init : PySem.W.isFn K (.ref f_Path_init) = true)
    (l_Path_init : K.lookup f_Path_init = some ⟨oc_Path_init, od_Path_init, .func (PySem.W.fnOf "__init__" "Path.__init__" (defArgs st_Path_init) (defBody st_Path_init) (defScope st_Path_init) .none kV_Path_init dc_Path_init pm_Path_init an_Path_init cd_Path_init ct_Path_init), sl_Path_init⟩)
    (c_Path_init : PySem.W.codeIn K cd_Path_init "Path.__init__" = true)
    (k_Path_init : PySem.W.keepIn K (.ref f_Path_init) = true)
    (xha_Path : PySem.W.findIn K (.ref C_Path) "__class__" = some (some (.builtin "object.__class__")))
    (xhm_Path : PySem.W.mroIn K C_Path (.type "object") = some true)
    (v_MOST_LOTS : PySem.W.nsIn K mainGlobals "MOST_LOTS" = some (some (.int 40 t_MOST_LOTS)))
    (v_MOST_PLACES : PySem.W.nsIn K mainGlobals "MOST_PLACES" = some (some (.int 12 t_MOST_PLACES)))
    (xna_Path__many : PySem.W.findIn K (.ref C_Path) "_many" = some none)
    (xna_Path_start : PySem.W.findIn K (.ref C_Path) "start" = some none)
    (xna_Path_steps : PySem.W.findIn K (.ref C_Path) "steps" = some none)
    (z_tuple : PySem.W.nsIn K mainGlobals "tuple" = some none)
    (a__law_sum : PySem.W.nsIn K mainGlobals "_law_sum" = some (some (.ref f__law_sum)))
    (l__law_sum : K.lookup f__law_sum = some ⟨oc__law_sum, od__law_sum, .func (PySem.W.fnOf "_law_sum" "_law_sum" (defArgs st__law_sum) (defBody st__law_sum) (defScope st__law_sum) .none kV__law_sum dc__law_sum pm__law_sum an__law_sum cd__law_sum ct__law_sum), sl__law_sum⟩)
    (c__law_sum : PySem.W.codeIn K cd__law_sum "_law_sum" = true)
    (k__law_sum : PySem.W.keepIn K (.ref f__law_sum) = true)
    (a_Path_end : PySem.W.findIn K (.ref C_Path) "end" = some (some (.ref p_Path_end)))
    (g_Path_end : PySem.W.specialIn K (.ref p_Path_end) "__get__" = some (some (.builtin "property.__get__")))
    (t_Path_end : PySem.W.takesIn K (.ref p_Path_end) = some true)
    (r_Path_end : PySem.W.recIn K p_Path_end "property" = some (.ref f_Path_end :: r_Path_end))
    (l_Path_end : K.lookup f_Path_end = some ⟨oc_Path_end, od_Path_end, .func (PySem.W.fnOf "end" "Path.end" (defArgs st_Path_end) (defBody st_Path_end) (defScope st_Path_end) .none kV_Path_end dc_Path_end pm_Path_end an_Path_end cd_Path_end ct_Path_end), sl_Path_end⟩)
    (c_Path_end : PySem.W.codeIn K cd_Path_end "Path.end" = true)
    (k_Path_end : PySem.W.keepIn K (.ref f_Path_end) = true)
    (a_Path_add : PySem.W.findIn K (.ref C_Path) "__add__" = some (some (.ref f_Path_add)))
    (i_Path_add : PySem.W.isFn K (.ref f_Path_add) = true)
    (l_Path_add : K.lookup f_Path_add = some ⟨oc_Path_add, od_Path_add, .func (PySem.W.fnOf "__add__" "Path.__add__" (defArgs st_Path_add) (defBody st_Path_add) (defScope st_Path_add) .none kV_Path_add dc_Path_add pm_Path_add an_Path_add cd_Path_add ct_Path_add), sl_Path_add⟩)
    (c_Path_add : PySem.W.codeIn K cd_Path_add "Path.__add__" = true)
    (k_Path_add : PySem.W.keepIn K (.ref f_Path_add) = true)
    (xC_Mismatch : PySem.W.nsIn K mainGlobals "Mismatch" = some (some (.ref C_Mismatch)))
    (xL_Mismatch : K.lookup C_Mismatch = some (excClassObj nm_Mismatch q_Mismatch C_Mismatch N_Mismatch bs_Mismatch [.ref C_NetworkError, .type "ValueError", .type "Exception", .type "BaseException", .type "object"] true sn_Mismatch sub_Mismatch ab_Mismatch col_Mismatch dd_Mismatch k0_Mismatch k1_Mismatch k2_Mismatch k3_Mismatch k5_Mismatch "ValueError.__new__"))
    (xsa_Mismatch : PySem.W.findIn K (.ref C_Mismatch) "__setattr__" = some (some (.builtin "object.__setattr__")))
    (xex_Mismatch : PySem.W.subIn K (.ref C_Mismatch) (.type "BaseException") = some true)
    (xty_Mismatch : PySem.W.typeIn K (.ref C_Mismatch) = some (.type "type"))
    (xga_Mismatch : PySem.W.findIn K (.ref C_Mismatch) "__getattribute__" = some (some (.builtin "BaseException.__getattribute__")))
    (xgg_Mismatch : PySem.W.findIn K (.ref C_Mismatch) "__getattr__" = some none)
    (xhd_Mismatch : PySem.W.hasDictIn K C_Mismatch = true)
    (xha_Mismatch : PySem.W.findIn K (.ref C_Mismatch) "__class__" = some (some (.builtin "object.__class__")))
    (xhm_Mismatch : PySem.W.mroIn K C_Mismatch (.type "object") = some true)
    (xkp_Mismatch : PySem.W.keepIn K (.ref C_Mismatch) = true)
    (xc_Mismatch : PySem.W.excIn K C_Mismatch [.type "ValueError", .type "Exception", .type "BaseException", .type "object"] "ValueError.__new__" = true)
    (xmk_Path : PySem.W.makesIn K C_Path = true)
    (xkc_Path : PySem.W.keepIn K (.ref C_Path) = true)
    (a__law_back : PySem.W.nsIn K mainGlobals "_law_back" = some (some (.ref f__law_back)))
    (l__law_back : K.lookup f__law_back = some ⟨oc__law_back, od__law_back, .func (PySem.W.fnOf "_law_back" "_law_back" (defArgs st__law_back) (defBody st__law_back) (defScope st__law_back) .none kV__law_back dc__law_back pm__law_back an__law_back cd__law_back ct__law_back), sl__law_back⟩)
    (c__law_back : PySem.W.codeIn K cd__law_back "_law_back" = true)
    (k__law_back : PySem.W.keepIn K (.ref f__law_back) = true)
    (a_Path_stops : PySem.W.findIn K (.ref C_Path) "stops" = some (some (.ref p_Path_stops)))
    (g_Path_stops : PySem.W.specialIn K (.ref p_Path_stops) "__get__" = some (some (.builtin "property.__get__")))
    (t_Path_stops : PySem.W.takesIn K (.ref p_Path_stops) = some true)
    (r_Path_stops : PySem.W.recIn K p_Path_stops "property" = some (.ref f_Path_stops :: r_Path_stops))
    (l_Path_stops : K.lookup f_Path_stops = some ⟨oc_Path_stops, od_Path_stops, .func (PySem.W.fnOf "stops" "Path.stops" (defArgs st_Path_stops) (defBody st_Path_stops) (defScope st_Path_stops) .none kV_Path_stops dc_Path_stops pm_Path_stops an_Path_stops cd_Path_stops ct_Path_stops), sl_Path_stops⟩)
    (c_Path_stops : PySem.W.codeIn K cd_Path_stops "Path.stops" = true)
    (k_Path_stops : PySem.W.keepIn K (.ref f_Path_stops) = true)
    (a_Path_invert : PySem.W.findIn K (.ref C_Path) "__invert__" = some (some (.ref f_Path_invert)))
    (i_Path_invert : PySem.W.isFn K (.ref f_Path_invert) = true)
    (l_Path_invert : K.lookup f_Path_invert = some ⟨oc_Path_invert, od_Path_invert, .func (PySem.W.fnOf "__invert__" "Path.__invert__" (defArgs st_Path_invert) (defBody st_Path_invert) (defScope st_Path_invert) .none kV_Path_invert dc_Path_invert pm_Path_invert an_Path_invert cd_Path_invert ct_Path_invert), sl_Path_invert⟩)
    (c_Path_invert : PySem.W.codeIn K cd_Path_invert "Path.__invert__" = true)
    (k_Path_invert : PySem.W.keepIn K (.ref f_Path_invert) = true)
    (rd_Path : PySem.W.readsIn K C_Path (.type "type") = true)
    (ga_Path : PySem.W.specialIn K (.ref C_Path) "__getattribute__" = some (some (.builtin "type.__getattribute__")))
    (a_Path_chain : PySem.W.findCls K (.ref C_Path) (.type "type") "chain" = some (.get (.builtin "classmethod.__get__") (.ref p_Path_chain) .none (.ref C_Path)))
    (r_Path_chain : PySem.W.recIn K p_Path_chain "classmethod" = some (.ref f_Path_chain :: r_Path_chain))
    (fi_Path_chain : PySem.W.fnIn K f_Path_chain = true)
    (l_Path_chain : K.lookup f_Path_chain = some ⟨oc_Path_chain, od_Path_chain, .func (PySem.W.fnOf "chain" "Path.chain" (defArgs st_Path_chain) (defBody st_Path_chain) (defScope st_Path_chain) .none kV_Path_chain dc_Path_chain pm_Path_chain an_Path_chain cd_Path_chain ct_Path_chain), sl_Path_chain⟩)
    (c_Path_chain : PySem.W.codeIn K cd_Path_chain "Path.chain" = true)
    (k_Path_chain : PySem.W.keepIn K (.ref f_Path_chain) = true)
    (sf_Path : PySem.W.selfFirst K C_Path = true)
    (a_Path_still : PySem.W.findCls K (.ref C_Path) (.type "type") "still" = some (.get (.builtin "staticmethod.__get__") (.ref p_Path_still) .none (.ref C_Path)))
    (r_Path_still : PySem.W.recIn K p_Path_still "staticmethod" = some (.ref f_Path_still :: r_Path_still))
    (l_Path_still : K.lookup f_Path_still = some ⟨oc_Path_still, od_Path_still, .func (PySem.W.fnOf "still" "Path.still" (defArgs st_Path_still) (defBody st_Path_still) (defScope st_Path_still) .none kV_Path_still dc_Path_still pm_Path_still an_Path_still cd_Path_still ct_Path_still), sl_Path_still⟩)
    (c_Path_still : PySem.W.codeIn K cd_Path_still "Path.still" = true)
    (k_Path_still : PySem.W.keepIn K (.ref f_Path_still) = true)
    (a__law_number : PySem.W.nsIn K mainGlobals "_law_number" = some (some (.ref f__law_number)))
    (l__law_number : K.lookup f__law_number = some ⟨oc__law_number, od__law_number, .func (PySem.W.fnOf "_law_number" "_law_number" (defArgs st__law_number) (defBody st__law_number) (defScope st__law_number) .none kV__law_number dc__law_number pm__law_number an__law_number cd__law_number ct__law_number), sl__law_number⟩)
    (c__law_number : PySem.W.codeIn K cd__law_number "_law_number" = true)
    (k__law_number : PySem.W.keepIn K (.ref f__law_number) = true)
    (z_bool : PySem.W.nsIn K mainGlobals "bool" = some none)
    (z_isinstance : PySem.W.nsIn K mainGlobals "isinstance" = some none)
    (a__law_same : PySem.W.nsIn K mainGlobals "_law_same" = some (some (.ref f__law_same)))
    (l__law_same : K.lookup f__law_same = some ⟨oc__law_same, od__law_same, .func (PySem.W.fnOf "_law_same" "_law_same" (defArgs st__law_same) (defBody st__law_same) (defScope st__law_same) .none kV__law_same dc__law_same pm__law_same an__law_same cd__law_same ct__law_same), sl__law_same⟩)
    (c__law_same : PySem.W.codeIn K cd__law_same "_law_same" = true)
    (k__law_same : PySem.W.keepIn K (.ref f__law_same) = true)
    (z_str : PySem.W.nsIn K mainGlobals "str" = some none)
    (a_Path_len : PySem.W.findIn K (.ref C_Path) "__len__" = some (some (.ref f_Path_len)))
    (i_Path_len : PySem.W.isFn K (.ref f_Path_len) = true)
    (l_Path_len : K.lookup f_Path_len = some ⟨oc_Path_len, od_Path_len, .func (PySem.W.fnOf "__len__" "Path.__len__" (defArgs st_Path_len) (defBody st_Path_len) (defScope st_Path_len) .none kV_Path_len dc_Path_len pm_Path_len an_Path_len cd_Path_len ct_Path_len), sl_Path_len⟩)
    (c_Path_len : PySem.W.codeIn K cd_Path_len "Path.__len__" = true)
    (k_Path_len : PySem.W.keepIn K (.ref f_Path_len) = true)
    (a__law_path_is : PySem.W.nsIn K mainGlobals "_law_path_is" = some (some (.ref f__law_path_is)))
    (l__law_path_is : K.lookup f__law_path_is = some ⟨oc__law_path_is, od__law_path_is, .func (PySem.W.fnOf "_law_path_is" "_law_path_is" (defArgs st__law_path_is) (defBody st__law_path_is) (defScope st__law_path_is) .none kV__law_path_is dc__law_path_is pm__law_path_is an__law_path_is cd__law_path_is ct__law_path_is), sl__law_path_is⟩)
    (c__law_path_is : PySem.W.codeIn K cd__law_path_is "_law_path_is" = true)
    (k__law_path_is : PySem.W.keepIn K (.ref f__law_path_is) = true)
    (a__law_are : PySem.W.nsIn K mainGlobals "_law_are" = some (some (.ref f__law_are)))
    (l__law_are : K.lookup f__law_are = some ⟨oc__law_are, od__law_are, .func (PySem.W.fnOf "_law_are" "_law_are" (defArgs st__law_are) (defBody st__law_are) (defScope st__law_are) .none kV__law_are dc__law_are pm__law_are an__law_are cd__law_are ct__law_are), sl__law_are⟩)
    (c__law_are : PySem.W.codeIn K cd__law_are "_law_are" = true)
    (k__law_are : PySem.W.keepIn K (.ref f__law_are) = true)
    (a_Path_eq : PySem.W.findIn K (.ref C_Path) "__eq__" = some (some (.ref f_Path_eq)))
    (i_Path_eq : PySem.W.isFn K (.ref f_Path_eq) = true)
    (l_Path_eq : K.lookup f_Path_eq = some ⟨oc_Path_eq, od_Path_eq, .func (PySem.W.fnOf "__eq__" "Path.__eq__" (defArgs st_Path_eq) (defBody st_Path_eq) (defScope st_Path_eq) .none kV_Path_eq dc_Path_eq pm_Path_eq an_Path_eq cd_Path_eq ct_Path_eq), sl_Path_eq⟩)
    (c_Path_eq : PySem.W.codeIn K cd_Path_eq "Path.__eq__" = true)
    (k_Path_eq : PySem.W.keepIn K (.ref f_Path_eq) = true)
    (a_all_different : PySem.W.nsIn K mainGlobals "all_different" = some (some (.ref f_all_different)))
    (l_all_different : K.lookup f_all_different = some ⟨oc_all_different, od_all_different, .func (PySem.W.fnOf "all_different" "all_different" (defArgs st_all_different) (defBody st_all_different) (defScope st_all_different) .none kV_all_different dc_all_different pm_all_different an_all_different cd_all_different ct_all_different), sl_all_different⟩)
    (c_all_different : PySem.W.codeIn K cd_all_different "all_different" = true)
    (k_all_different : PySem.W.keepIn K (.ref f_all_different) = true)
    (a_Path_lot_numbers : PySem.W.findIn K (.ref C_Path) "lot_numbers" = some (some (.ref p_Path_lot_numbers)))
    (g_Path_lot_numbers : PySem.W.specialIn K (.ref p_Path_lot_numbers) "__get__" = some (some (.builtin "property.__get__")))
    (t_Path_lot_numbers : PySem.W.takesIn K (.ref p_Path_lot_numbers) = some true)
    (r_Path_lot_numbers : PySem.W.recIn K p_Path_lot_numbers "property" = some (.ref f_Path_lot_numbers :: r_Path_lot_numbers))
    (l_Path_lot_numbers : K.lookup f_Path_lot_numbers = some ⟨oc_Path_lot_numbers, od_Path_lot_numbers, .func (PySem.W.fnOf "lot_numbers" "Path.lot_numbers" (defArgs st_Path_lot_numbers) (defBody st_Path_lot_numbers) (defScope st_Path_lot_numbers) .none kV_Path_lot_numbers dc_Path_lot_numbers pm_Path_lot_numbers an_Path_lot_numbers cd_Path_lot_numbers ct_Path_lot_numbers), sl_Path_lot_numbers⟩)
    (c_Path_lot_numbers : PySem.W.codeIn K cd_Path_lot_numbers "Path.lot_numbers" = true)
    (k_Path_lot_numbers : PySem.W.keepIn K (.ref f_Path_lot_numbers) = true)
    (a_share_no_lot : PySem.W.nsIn K mainGlobals "share_no_lot" = some (some (.ref f_share_no_lot)))
    (l_share_no_lot : K.lookup f_share_no_lot = some ⟨oc_share_no_lot, od_share_no_lot, .func (PySem.W.fnOf "share_no_lot" "share_no_lot" (defArgs st_share_no_lot) (defBody st_share_no_lot) (defScope st_share_no_lot) .none kV_share_no_lot dc_share_no_lot pm_share_no_lot an_share_no_lot cd_share_no_lot ct_share_no_lot), sl_share_no_lot⟩)
    (c_share_no_lot : PySem.W.codeIn K cd_share_no_lot "share_no_lot" = true)
    (k_share_no_lot : PySem.W.keepIn K (.ref f_share_no_lot) = true)
    (a__law_apart_due : PySem.W.nsIn K mainGlobals "_law_apart_due" = some (some (.ref f__law_apart_due)))
    (l__law_apart_due : K.lookup f__law_apart_due = some ⟨oc__law_apart_due, od__law_apart_due, .func (PySem.W.fnOf "_law_apart_due" "_law_apart_due" (defArgs st__law_apart_due) (defBody st__law_apart_due) (defScope st__law_apart_due) .none kV__law_apart_due dc__law_apart_due pm__law_apart_due an__law_apart_due cd__law_apart_due ct__law_apart_due), sl__law_apart_due⟩)
    (c__law_apart_due : PySem.W.codeIn K cd__law_apart_due "_law_apart_due" = true)
    (k__law_apart_due : PySem.W.keepIn K (.ref f__law_apart_due) = true)
    (a__law_shared : PySem.W.nsIn K mainGlobals "_law_shared" = some (some (.ref f__law_shared)))
    (l__law_shared : K.lookup f__law_shared = some ⟨oc__law_shared, od__law_shared, .func (PySem.W.fnOf "_law_shared" "_law_shared" (defArgs st__law_shared) (defBody st__law_shared) (defScope st__law_shared) .none kV__law_shared dc__law_shared pm__law_shared an__law_shared cd__law_shared ct__law_shared), sl__law_shared⟩)
    (c__law_shared : PySem.W.codeIn K cd__law_shared "_law_shared" = true)
    (k__law_shared : PySem.W.keepIn K (.ref f__law_shared) = true)
    (a__law_chained : PySem.W.nsIn K mainGlobals "_law_chained" = some (some (.ref f__law_chained)))
    (l__law_chained : K.lookup f__law_chained = some ⟨oc__law_chained, od__law_chained, .func (PySem.W.fnOf "_law_chained" "_law_chained" (defArgs st__law_chained) (defBody st__law_chained) (defScope st__law_chained) .none kV__law_chained dc__law_chained pm__law_chained an__law_chained cd__law_chained ct__law_chained), sl__law_chained⟩)
    (c__law_chained : PySem.W.codeIn K cd__law_chained "_law_chained" = true)
    (k__law_chained : PySem.W.keepIn K (.ref f__law_chained) = true)
    (a__law_refused : PySem.W.nsIn K mainGlobals "_law_refused" = some (some (.ref f__law_refused)))
    (l__law_refused : K.lookup f__law_refused = some ⟨oc__law_refused, od__law_refused, .func (PySem.W.fnOf "_law_refused" "_law_refused" (defArgs st__law_refused) (defBody st__law_refused) (defScope st__law_refused) .none kV__law_refused dc__law_refused pm__law_refused an__law_refused cd__law_refused ct__law_refused), sl__law_refused⟩)
    (c__law_refused : PySem.W.codeIn K cd__law_refused "_law_refused" = true)
    (k__law_refused : PySem.W.keepIn K (.ref f__law_refused) = true)
    (xL_NetworkError : K.lookup C_NetworkError = some (excClassObj nm_NetworkError q_NetworkError C_NetworkError N_NetworkError bs_NetworkError [.type "ValueError", .type "Exception", .type "BaseException", .type "object"] true sn_NetworkError sub_NetworkError ab_NetworkError col_NetworkError dd_NetworkError k0_NetworkError k1_NetworkError k2_NetworkError k3_NetworkError k5_NetworkError "ValueError.__new__"))
    (xsa_NetworkError : PySem.W.findIn K (.ref C_NetworkError) "__setattr__" = some (some (.builtin "object.__setattr__")))
    (xex_NetworkError : PySem.W.subIn K (.ref C_NetworkError) (.type "BaseException") = some true)
    (xty_NetworkError : PySem.W.typeIn K (.ref C_NetworkError) = some (.type "type"))
    (xga_NetworkError : PySem.W.findIn K (.ref C_NetworkError) "__getattribute__" = some (some (.builtin "BaseException.__getattribute__")))
    (xgg_NetworkError : PySem.W.findIn K (.ref C_NetworkError) "__getattr__" = some none)
    (xhd_NetworkError : PySem.W.hasDictIn K C_NetworkError = true)
    (xha_NetworkError : PySem.W.findIn K (.ref C_NetworkError) "__class__" = some (some (.builtin "object.__class__")))
    (xhm_NetworkError : PySem.W.mroIn K C_NetworkError (.type "object") = some true)
    (xkp_NetworkError : PySem.W.keepIn K (.ref C_NetworkError) = true)
    (SV_Mismatch : PySem.W.subIn K (.ref C_Mismatch) (.type "ValueError") = some true)
    (S_Mismatch_Mismatch_t : PySem.W.subIn K (.ref C_Mismatch) (.ref C_Mismatch) = some true)
    (S_Mismatch_NetworkError_t : PySem.W.subIn K (.ref C_Mismatch) (.ref C_NetworkError) = some true)
    (S_Mismatch_NoSuchLot_f : PySem.W.subIn K (.ref C_Mismatch) (.ref C_NoSuchLot) = some false)
    (S_Mismatch_PlaceOutOfRange_f : PySem.W.subIn K (.ref C_Mismatch) (.ref C_PlaceOutOfRange) = some false)
    (z_ValueError : PySem.W.nsIn K mainGlobals "ValueError" = some none)
    (ne_Mismatch_NoSuchLot : C_Mismatch ≠ C_NoSuchLot)
    (ne_Mismatch_PlaceOutOfRange : C_Mismatch ≠ C_PlaceOutOfRange)
    (a_law : PySem.W.nsIn K mainGlobals "law" = some (some (.ref f_law)))
    (l_law : K.lookup f_law = some ⟨oc_law, od_law, .func (PySem.W.fnOf "law" "law" (defArgs st_law) (defBody st_law) (defScope st_law) .none kV_law dc_law pm_law an_law cd_law ct_law), sl_law⟩)
    (c_law : PySem.W.codeIn K cd_law "law" = true)
    (k_law : PySem.W.keepIn K (.ref f_law) = true) :
    ∃ fd : FuncData, (∀ (s : Shared) (v : Value), BindsTo s fd ⟨[v], []⟩ [("script", v)]) ∧ ∀ base : Heap, K.In base → base.Ns mainGlobals mg → FnOk l.prog w K mg base (L2N.CX l.prog w) 17 fa fd ["script"] (spZ K) := by
  have e := hfa.symm.trans (PySem.W.mg_of X G a_law)
  cases e
  obtain ⟨T, t_PlaceOutOfRange, t_NetworkError, t_NoSuchLot, t_Path, t_Mismatch⟩ : ∃ T : Tb, T "PlaceOutOfRange" = C_PlaceOutOfRange ∧ T "NetworkError" = C_NetworkError ∧ T "NoSuchLot" = C_NoSuchLot ∧ T "Path" = C_Path ∧ T "Mismatch" = C_Mismatch := ⟨fun n => if n = "PlaceOutOfRange" then C_PlaceOutOfRange else if n = "NetworkError" then C_NetworkError else if n = "NoSuchLot" then C_NoSuchLot else if n = "Path" then C_Path else if n = "Mismatch" then C_Mismatch else 0, by simp, by simp, by simp, by simp, by simp⟩
  subst t_PlaceOutOfRange t_NetworkError t_NoSuchLot t_Path t_Mismatch
  have F__law_source := fun_mk (st := st__law_source) l__law_source c__law_source k__law_source
  have b__law_source := F__law_source.binds (ps := ["script"]) fun _ _ _ _ _ _ us hl => match us, hl with | [_], _ => rfl
  have mg__law_source : mg "_law_source" = some (.ref f__law_source) := PySem.W.mg_of X G a__law_source
  have nb_list : mg "list" = none := PySem.W.mg_none_of X G z_list
  have F__law_mixed := fun_mk (st := st__law_mixed) l__law_mixed c__law_mixed k__law_mixed
  have b__law_mixed := F__law_mixed.binds (ps := ["cell", "turn"]) fun _ _ _ _ _ _ us hl => match us, hl with | [_, _], _ => rfl
  have mg__law_mixed : mg "_law_mixed" = some (.ref f__law_mixed) := PySem.W.mg_of X G a__law_mixed
  have nb_int : mg "int" = none := PySem.W.mg_none_of X G z_int
  have F__law_draw := fun_mk (st := st__law_draw) l__law_draw c__law_draw k__law_draw
  have b__law_draw := F__law_draw.binds (ps := ["source", "limit"]) fun _ _ _ _ _ _ us hl => match us, hl with | [_, _], _ => rfl
  have mg__law_draw : mg "_law_draw" = some (.ref f__law_draw) := PySem.W.mg_of X G a__law_draw
  have nb_len : mg "len" = none := PySem.W.mg_none_of X G z_len
  have F__law_pick := fun_mk (st := st__law_pick) l__law_pick c__law_pick k__law_pick
  have b__law_pick := F__law_pick.binds (ps := ["source", "row"]) fun _ _ _ _ _ _ us hl => match us, hl with | [_, _], _ => rfl
  have mg__law_pick : mg "_law_pick" = some (.ref f__law_pick) := PySem.W.mg_of X G a__law_pick
  have F__law_steps := fun_mk (st := st__law_steps) l__law_steps c__law_steps k__law_steps
  have b__law_steps := F__law_steps.binds (ps := ["source", "total", "menu", "bound"]) fun _ _ _ _ _ _ us hl => match us, hl with | [_, _, _, _], _ => rfl
  have mg__law_steps : mg "_law_steps" = some (.ref f__law_steps) := PySem.W.mg_of X G a__law_steps
  have nb_range : mg "range" = none := PySem.W.mg_none_of X G z_range
  have F__law_stops := fun_mk (st := st__law_stops) l__law_stops c__law_stops k__law_stops
  have b__law_stops := F__law_stops.binds (ps := ["near", "row"]) fun _ _ _ _ _ _ us hl => match us, hl with | [_, _], _ => rfl
  have mg__law_stops : mg "_law_stops" = some (.ref f__law_stops) := PySem.W.mg_of X G a__law_stops
  have F__law_end := fun_mk (st := st__law_end) l__law_end c__law_end k__law_end
  have b__law_end := F__law_end.binds (ps := ["pair"]) fun _ _ _ _ _ _ us hl => match us, hl with | [_], _ => rfl
  have mg__law_end : mg "_law_end" = some (.ref f__law_end) := PySem.W.mg_of X G a__law_end
  have mC_PlaceOutOfRange : mg "PlaceOutOfRange" = some (.ref (T "PlaceOutOfRange")) := PySem.W.mg_of X G xC_PlaceOutOfRange
  have mC_NetworkError : mg "NetworkError" = some (.ref (T "NetworkError")) := PySem.W.mg_of X G xC_NetworkError
  have E_PlaceOutOfRange : ErrC K (T "PlaceOutOfRange") := ⟨⟨⟨nm_PlaceOutOfRange, q_PlaceOutOfRange, N_PlaceOutOfRange, bs_PlaceOutOfRange, _, sn_PlaceOutOfRange, sub_PlaceOutOfRange, ab_PlaceOutOfRange, col_PlaceOutOfRange, dd_PlaceOutOfRange, k0_PlaceOutOfRange, k1_PlaceOutOfRange, k2_PlaceOutOfRange, k3_PlaceOutOfRange, k5_PlaceOutOfRange, xL_PlaceOutOfRange, by rfl⟩, xsa_PlaceOutOfRange, xex_PlaceOutOfRange, xty_PlaceOutOfRange, xkp_PlaceOutOfRange⟩, ⟨xga_PlaceOutOfRange, xgg_PlaceOutOfRange, xex_PlaceOutOfRange, xhd_PlaceOutOfRange, xha_PlaceOutOfRange, xhn, xht, xhm_PlaceOutOfRange⟩⟩
  have na_PlaceOutOfRange_place : PySem.W.findIn K (.ref (T "PlaceOutOfRange")) "place" = some none := xna_PlaceOutOfRange_place
  have b_PlaceOutOfRange_init : Binds K (PySem.W.ksFn "__init__" "PlaceOutOfRange.__init__" (defArgs st_PlaceOutOfRange_init) (defBody st_PlaceOutOfRange_init) (defScope st_PlaceOutOfRange_init) .none kV_PlaceOutOfRange_init dc_PlaceOutOfRange_init pm_PlaceOutOfRange_init an_PlaceOutOfRange_init (.ref cda_PlaceOutOfRange_init) ct_PlaceOutOfRange_init cc_PlaceOutOfRange_init) ["self", "place"] [] := .all fun us hl => match us, hl with | [_, _], _ => rfl
  have F_check_place := fun_mk (st := st_check_place) l_check_place c_check_place k_check_place
  have b_check_place := F_check_place.binds (ps := ["size", "place"]) fun _ _ _ _ _ _ us hl => match us, hl with | [_, _], _ => rfl
  have mg_check_place : mg "check_place" = some (.ref f_check_place) := PySem.W.mg_of X G a_check_place
  have mC_NoSuchLot : mg "NoSuchLot" = some (.ref (T "NoSuchLot")) := PySem.W.mg_of X G xC_NoSuchLot
  have E_NoSuchLot : ErrC K (T "NoSuchLot") := ⟨⟨⟨nm_NoSuchLot, q_NoSuchLot, N_NoSuchLot, bs_NoSuchLot, _, sn_NoSuchLot, sub_NoSuchLot, ab_NoSuchLot, col_NoSuchLot, dd_NoSuchLot, k0_NoSuchLot, k1_NoSuchLot, k2_NoSuchLot, k3_NoSuchLot, k5_NoSuchLot, xL_NoSuchLot, by rfl⟩, xsa_NoSuchLot, xex_NoSuchLot, xty_NoSuchLot, xkp_NoSuchLot⟩, ⟨xga_NoSuchLot, xgg_NoSuchLot, xex_NoSuchLot, xhd_NoSuchLot, xha_NoSuchLot, xhn, xht, xhm_NoSuchLot⟩⟩
  have na_NoSuchLot_lot : PySem.W.findIn K (.ref (T "NoSuchLot")) "lot" = some none := xna_NoSuchLot_lot
  have b_NoSuchLot_init : Binds K (PySem.W.ksFn "__init__" "NoSuchLot.__init__" (defArgs st_NoSuchLot_init) (defBody st_NoSuchLot_init) (defScope st_NoSuchLot_init) .none kV_NoSuchLot_init dc_NoSuchLot_init pm_NoSuchLot_init an_NoSuchLot_init (.ref cda_NoSuchLot_init) ct_NoSuchLot_init cc_NoSuchLot_init) ["self", "lot"] [] := .all fun us hl => match us, hl with | [_, _], _ => rfl
  have cl_Path : Cls K (T "Path") := ⟨xpg_Path, xhd_Path, xpo_Path, xsa_Path⟩
  have mC_Path : mg "Path" = some (.ref (T "Path")) := PySem.W.mg_of X G xC_Path
  have F_Path_init := fun_mk (st := st_Path_init) l_Path_init c_Path_init k_Path_init
  have b_Path_init := F_Path_init.binds (ps := ["self", "start", "steps"]) fun _ _ _ _ _ _ us hl => match us, hl with | [_, _, _], _ => rfl
  have Gd_Path : Gd K T "Path" [] := ⟨cl_Path, xha_Path, xhm_Path, fun f z => by cases z⟩
  have g_MOST_LOTS : mg "MOST_LOTS" = some (.int 40 t_MOST_LOTS) := PySem.W.mg_of X G v_MOST_LOTS
  have g_MOST_PLACES : mg "MOST_PLACES" = some (.int 12 t_MOST_PLACES) := PySem.W.mg_of X G v_MOST_PLACES
  have na_Path__many : NoAttr K (T "Path") "_many" := xna_Path__many
  have na_Path_start : NoAttr K (T "Path") "start" := xna_Path_start
  have na_Path_steps : NoAttr K (T "Path") "steps" := xna_Path_steps
  have nb_tuple : mg "tuple" = none := PySem.W.mg_none_of X G z_tuple
  have F__law_sum := fun_mk (st := st__law_sum) l__law_sum c__law_sum k__law_sum
  have b__law_sum := F__law_sum.binds (ps := ["first", "second"]) fun _ _ _ _ _ _ us hl => match us, hl with | [_, _], _ => rfl
  have mg__law_sum : mg "_law_sum" = some (.ref f__law_sum) := PySem.W.mg_of X G a__law_sum
  have F_Path_end := fun_mk (st := st_Path_end) l_Path_end c_Path_end k_Path_end
  have b_Path_end := F_Path_end.binds (ps := ["self"]) fun _ _ _ _ _ _ us hl => match us, hl with | [_], _ => rfl
  have F_Path_add := fun_mk (st := st_Path_add) l_Path_add c_Path_add k_Path_add
  have b_Path_add := F_Path_add.binds (ps := ["self", "other"]) fun _ _ _ _ _ _ us hl => match us, hl with | [_, _], _ => rfl
  have mC_Mismatch : mg "Mismatch" = some (.ref (T "Mismatch")) := PySem.W.mg_of X G xC_Mismatch
  have E_Mismatch : ErrC K (T "Mismatch") := ⟨⟨⟨nm_Mismatch, q_Mismatch, N_Mismatch, bs_Mismatch, _, sn_Mismatch, sub_Mismatch, ab_Mismatch, col_Mismatch, dd_Mismatch, k0_Mismatch, k1_Mismatch, k2_Mismatch, k3_Mismatch, k5_Mismatch, xL_Mismatch, by rfl⟩, xsa_Mismatch, xex_Mismatch, xty_Mismatch, xkp_Mismatch⟩, ⟨xga_Mismatch, xgg_Mismatch, xex_Mismatch, xhd_Mismatch, xha_Mismatch, xhn, xht, xhm_Mismatch⟩⟩
  have F__law_back := fun_mk (st := st__law_back) l__law_back c__law_back k__law_back
  have b__law_back := F__law_back.binds (ps := ["pair"]) fun _ _ _ _ _ _ us hl => match us, hl with | [_], _ => rfl
  have mg__law_back : mg "_law_back" = some (.ref f__law_back) := PySem.W.mg_of X G a__law_back
  have F_Path_stops := fun_mk (st := st_Path_stops) l_Path_stops c_Path_stops k_Path_stops
  have b_Path_stops := F_Path_stops.binds (ps := ["self"]) fun _ _ _ _ _ _ us hl => match us, hl with | [_], _ => rfl
  have F_Path_invert := fun_mk (st := st_Path_invert) l_Path_invert c_Path_invert k_Path_invert
  have b_Path_invert := F_Path_invert.binds (ps := ["self"]) fun _ _ _ _ _ _ us hl => match us, hl with | [_], _ => rfl
  have F_Path_chain := fun_mk (st := st_Path_chain) l_Path_chain c_Path_chain k_Path_chain
  have F_Path_still := fun_mk (st := st_Path_still) l_Path_still c_Path_still k_Path_still
  have b_Path_still := F_Path_still.binds (ps := ["place"]) fun _ _ _ _ _ _ us hl => match us, hl with | [_], _ => rfl
  have F__law_number := fun_mk (st := st__law_number) l__law_number c__law_number k__law_number
  have b__law_number := F__law_number.binds (ps := ["actual"]) fun _ _ _ _ _ _ us hl => match us, hl with | [_], _ => rfl
  have mg__law_number : mg "_law_number" = some (.ref f__law_number) := PySem.W.mg_of X G a__law_number
  have nb_bool : mg "bool" = none := PySem.W.mg_none_of X G z_bool
  have nb_isinstance : mg "isinstance" = none := PySem.W.mg_none_of X G z_isinstance
  have F__law_same := fun_mk (st := st__law_same) l__law_same c__law_same k__law_same
  have b__law_same := F__law_same.binds (ps := ["actual", "expected"]) fun _ _ _ _ _ _ us hl => match us, hl with | [_, _], _ => rfl
  have mg__law_same : mg "_law_same" = some (.ref f__law_same) := PySem.W.mg_of X G a__law_same
  have nb_str : mg "str" = none := PySem.W.mg_none_of X G z_str
  have F_Path_len := fun_mk (st := st_Path_len) l_Path_len c_Path_len k_Path_len
  have b_Path_len := F_Path_len.binds (ps := ["self"]) fun _ _ _ _ _ _ us hl => match us, hl with | [_], _ => rfl
  have F__law_path_is := fun_mk (st := st__law_path_is) l__law_path_is c__law_path_is k__law_path_is
  have b__law_path_is := F__law_path_is.binds (ps := ["path", "near", "row"]) fun _ _ _ _ _ _ us hl => match us, hl with | [_, _, _], _ => rfl
  have mg__law_path_is : mg "_law_path_is" = some (.ref f__law_path_is) := PySem.W.mg_of X G a__law_path_is
  have F__law_are := fun_mk (st := st__law_are) l__law_are c__law_are k__law_are
  have b__law_are := F__law_are.binds (ps := ["told"]) fun _ _ _ _ _ _ us hl => match us, hl with | [_], _ => rfl
  have mg__law_are : mg "_law_are" = some (.ref f__law_are) := PySem.W.mg_of X G a__law_are
  have F_Path_eq := fun_mk (st := st_Path_eq) l_Path_eq c_Path_eq k_Path_eq
  have b_Path_eq := F_Path_eq.binds (ps := ["self", "other"]) fun _ _ _ _ _ _ us hl => match us, hl with | [_, _], _ => rfl
  have F_all_different := fun_mk (st := st_all_different) l_all_different c_all_different k_all_different
  have b_all_different := F_all_different.binds (ps := ["places"]) fun _ _ _ _ _ _ us hl => match us, hl with | [_], _ => rfl
  have mg_all_different : mg "all_different" = some (.ref f_all_different) := PySem.W.mg_of X G a_all_different
  have F_Path_lot_numbers := fun_mk (st := st_Path_lot_numbers) l_Path_lot_numbers c_Path_lot_numbers k_Path_lot_numbers
  have b_Path_lot_numbers := F_Path_lot_numbers.binds (ps := ["self"]) fun _ _ _ _ _ _ us hl => match us, hl with | [_], _ => rfl
  have F_share_no_lot := fun_mk (st := st_share_no_lot) l_share_no_lot c_share_no_lot k_share_no_lot
  have mg_share_no_lot : mg "share_no_lot" = some (.ref f_share_no_lot) := PySem.W.mg_of X G a_share_no_lot
  have F__law_apart_due := fun_mk (st := st__law_apart_due) l__law_apart_due c__law_apart_due k__law_apart_due
  have b__law_apart_due := F__law_apart_due.binds (ps := ["pairs"]) fun _ _ _ _ _ _ us hl => match us, hl with | [_], _ => rfl
  have mg__law_apart_due : mg "_law_apart_due" = some (.ref f__law_apart_due) := PySem.W.mg_of X G a__law_apart_due
  have F__law_shared := fun_mk (st := st__law_shared) l__law_shared c__law_shared k__law_shared
  have b__law_shared := F__law_shared.binds (ps := ["paths", "pairs"]) fun _ _ _ _ _ _ us hl => match us, hl with | [_, _], _ => rfl
  have mg__law_shared : mg "_law_shared" = some (.ref f__law_shared) := PySem.W.mg_of X G a__law_shared
  have F__law_chained := fun_mk (st := st__law_chained) l__law_chained c__law_chained k__law_chained
  have b__law_chained := F__law_chained.binds (ps := ["paths"]) fun _ _ _ _ _ _ us hl => match us, hl with | [_], _ => rfl
  have mg__law_chained : mg "_law_chained" = some (.ref f__law_chained) := PySem.W.mg_of X G a__law_chained
  have F__law_refused := fun_mk (st := st__law_refused) l__law_refused c__law_refused k__law_refused
  have b__law_refused := F__law_refused.binds (ps := ["paths", "plain"]) fun _ _ _ _ _ _ us hl => match us, hl with | [_, _], _ => rfl
  have mg__law_refused : mg "_law_refused" = some (.ref f__law_refused) := PySem.W.mg_of X G a__law_refused
  have E_NetworkError : ErrC K (T "NetworkError") := ⟨⟨⟨nm_NetworkError, q_NetworkError, N_NetworkError, bs_NetworkError, _, sn_NetworkError, sub_NetworkError, ab_NetworkError, col_NetworkError, dd_NetworkError, k0_NetworkError, k1_NetworkError, k2_NetworkError, k3_NetworkError, k5_NetworkError, xL_NetworkError, by rfl⟩, xsa_NetworkError, xex_NetworkError, xty_NetworkError, xkp_NetworkError⟩, ⟨xga_NetworkError, xgg_NetworkError, xex_NetworkError, xhd_NetworkError, xha_NetworkError, xhn, xht, xhm_NetworkError⟩⟩
  have nb_ValueError : mg "ValueError" = none := PySem.W.mg_none_of X G z_ValueError
  have F_law := fun_mk (st := st_law) l_law c_law k_law
  have b_law := F_law.binds (ps := ["script"]) fun _ _ _ _ _ _ us hl => match us, hl with | [_], _ => rfl
  refine ⟨PySem.W.fnOf "law" "law" (defArgs st_law) (defBody st_law) (defScope st_law) .none kV_law dc_law pm_law an_law cd_law ct_law, fun s v => .of_eq rfl, fun base _ _ => ?_⟩
  have K__law_source := ok__law_source (P := l.prog) (w := w) (mg := mg) (base := base) (T := T) F__law_source nb_list
  have K__law_mixed := ok__law_mixed (P := l.prog) (w := w) (mg := mg) (base := base) (T := T) F__law_mixed nb_int
  have K__law_draw := ok__law_draw (P := l.prog) (w := w) (mg := mg) (base := base) (T := T) F__law_draw ⟨K__law_mixed, mg__law_mixed, k__law_mixed, b__law_mixed⟩ nb_int nb_len
  have K__law_pick := ok__law_pick (P := l.prog) (w := w) (mg := mg) (base := base) (T := T) F__law_pick ⟨K__law_draw, mg__law_draw, k__law_draw, b__law_draw⟩ nb_len
  have K__law_steps := ok__law_steps (P := l.prog) (w := w) (mg := mg) (base := base) (T := T) F__law_steps ⟨K__law_draw, mg__law_draw, k__law_draw, b__law_draw⟩ ⟨K__law_pick, mg__law_pick, k__law_pick, b__law_pick⟩ nb_range
  have K__law_stops := ok__law_stops (P := l.prog) (w := w) (mg := mg) (base := base) (T := T) F__law_stops 
  have K__law_end := ok__law_end (P := l.prog) (w := w) (mg := mg) (base := base) (T := T) F__law_end ⟨K__law_stops, mg__law_stops, k__law_stops, b__law_stops⟩ nb_len
  have K_PlaceOutOfRange_init := ok_PlaceOutOfRange_init (P := l.prog) (w := w) (mg := mg) (base := base) E_PlaceOutOfRange l_PlaceOutOfRange_init c_PlaceOutOfRange_init co_PlaceOutOfRange_init vv_PlaceOutOfRange_init fi_PlaceOutOfRange_init ce_PlaceOutOfRange_init mv_PlaceOutOfRange_init ms_PlaceOutOfRange_init al_PlaceOutOfRange_init xany (PySem.W.mg_none_of X G xsup) xtop na_PlaceOutOfRange_place
  have K_check_place := ok_check_place (P := l.prog) (w := w) (mg := mg) (base := base) (T := T) F_check_place ⟨E_PlaceOutOfRange, K_PlaceOutOfRange_init, a_PlaceOutOfRange_init, ty_PlaceOutOfRange_init, mC_PlaceOutOfRange, b_PlaceOutOfRange_init⟩
  have K_NoSuchLot_init := ok_NoSuchLot_init (P := l.prog) (w := w) (mg := mg) (base := base) E_NoSuchLot l_NoSuchLot_init c_NoSuchLot_init co_NoSuchLot_init vv_NoSuchLot_init fi_NoSuchLot_init ce_NoSuchLot_init mv_NoSuchLot_init ms_NoSuchLot_init al_NoSuchLot_init xany (PySem.W.mg_none_of X G xsup) xtop na_NoSuchLot_lot
  have K_Path_init := ok_Path_init (P := l.prog) (w := w) (mg := mg) (base := base) (T := T) F_Path_init ⟨K_check_place, mg_check_place, k_check_place, b_check_place⟩ ⟨E_NoSuchLot, K_NoSuchLot_init, a_NoSuchLot_init, ty_NoSuchLot_init, mC_NoSuchLot, b_NoSuchLot_init⟩ Gd_Path g_MOST_LOTS g_MOST_PLACES na_Path__many na_Path_start na_Path_steps nb_len nb_tuple
  have K__law_sum := ok__law_sum (P := l.prog) (w := w) (mg := mg) (base := base) (T := T) F__law_sum 
  have K_Path_end := ok_Path_end (P := l.prog) (w := w) (mg := mg) (base := base) (T := T) F_Path_end 
  have K_Path_add := ok_Path_add (P := l.prog) (w := w) (mg := mg) (base := base) (T := T) F_Path_add ⟨K_Path_end, ⟨a_Path_end, g_Path_end, t_Path_end, ⟨_, r_Path_end⟩⟩, cl_Path, b_Path_end⟩ ⟨E_Mismatch, xc_Mismatch, mC_Mismatch, xkp_Mismatch⟩ ⟨K_Path_init, ⟨xmk_Path, a_Path_init, i_Path_init, xkc_Path⟩, mC_Path, b_Path_init⟩
  have K__law_back := ok__law_back (P := l.prog) (w := w) (mg := mg) (base := base) (T := T) F__law_back ⟨K__law_stops, mg__law_stops, k__law_stops, b__law_stops⟩ nb_len nb_range
  have K_Path_stops := ok_Path_stops (P := l.prog) (w := w) (mg := mg) (base := base) (T := T) F_Path_stops nb_tuple
  have K_Path_invert := ok_Path_invert (P := l.prog) (w := w) (mg := mg) (base := base) (T := T) F_Path_invert ⟨K_Path_stops, ⟨a_Path_stops, g_Path_stops, t_Path_stops, ⟨_, r_Path_stops⟩⟩, cl_Path, b_Path_stops⟩ ⟨K_Path_init, ⟨xmk_Path, a_Path_init, i_Path_init, xkc_Path⟩, mC_Path, b_Path_init⟩ ⟨K_Path_end, ⟨a_Path_end, g_Path_end, t_Path_end, ⟨_, r_Path_end⟩⟩, cl_Path, b_Path_end⟩ nb_len nb_range
  have K_Path_chain := ok_Path_chain (P := l.prog) (w := w) (mg := mg) (base := base) (T := T) F_Path_chain ⟨E_Mismatch, xc_Mismatch, mC_Mismatch, xkp_Mismatch⟩ ⟨K_Path_init, ⟨xmk_Path, a_Path_init, i_Path_init, xkc_Path⟩, mC_Path, b_Path_init⟩ ⟨K_Path_add, ⟨a_Path_add, i_Path_add, k_Path_add⟩, cl_Path, b_Path_add⟩ nb_len sf_Path
  have K_Path_still := ok_Path_still (P := l.prog) (w := w) (mg := mg) (base := base) (T := T) F_Path_still ⟨K_Path_init, ⟨xmk_Path, a_Path_init, i_Path_init, xkc_Path⟩, mC_Path, b_Path_init⟩
  have K__law_number := ok__law_number (P := l.prog) (w := w) (mg := mg) (base := base) (T := T) F__law_number nb_bool nb_int nb_isinstance xhn xht
  have K__law_same := ok__law_same (P := l.prog) (w := w) (mg := mg) (base := base) (T := T) F__law_same ⟨K__law_number, mg__law_number, k__law_number, b__law_number⟩ mg__law_same k__law_same b__law_same nb_bool nb_int nb_isinstance nb_len nb_list nb_range nb_str nb_tuple xhn xht
  have K_Path_len := ok_Path_len (P := l.prog) (w := w) (mg := mg) (base := base) (T := T) F_Path_len nb_len
  have K__law_path_is := ok__law_path_is (P := l.prog) (w := w) (mg := mg) (base := base) (T := T) F__law_path_is ⟨K__law_same, mg__law_same, k__law_same, b__law_same⟩ mC_Path nb_isinstance nb_tuple xhn xht
  have K__law_are := ok__law_are (P := l.prog) (w := w) (mg := mg) (base := base) (T := T) F__law_are ⟨K__law_same, mg__law_same, k__law_same, b__law_same⟩ ⟨K_Path_len, ⟨a_Path_len, i_Path_len, k_Path_len⟩, cl_Path, b_Path_len⟩ ⟨K__law_path_is, mg__law_path_is, k__law_path_is, b__law_path_is⟩ nb_len
  have K_Path_eq := ok_Path_eq (P := l.prog) (w := w) (mg := mg) (base := base) (T := T) F_Path_eq mC_Path nb_isinstance xhn xht
  have K_all_different := ok_all_different (P := l.prog) (w := w) (mg := mg) (base := base) (T := T) F_all_different nb_len nb_range
  have K_Path_lot_numbers := ok_Path_lot_numbers (P := l.prog) (w := w) (mg := mg) (base := base) (T := T) F_Path_lot_numbers nb_tuple
  have K_share_no_lot := ok_share_no_lot (P := l.prog) (w := w) (mg := mg) (base := base) (T := T) F_share_no_lot ⟨K_all_different, mg_all_different, k_all_different, b_all_different⟩ ⟨K_Path_lot_numbers, ⟨a_Path_lot_numbers, g_Path_lot_numbers, t_Path_lot_numbers, ⟨_, r_Path_lot_numbers⟩⟩, cl_Path, b_Path_lot_numbers⟩
  have K__law_apart_due := ok__law_apart_due (P := l.prog) (w := w) (mg := mg) (base := base) (T := T) F__law_apart_due nb_len nb_range
  have K__law_shared := ok__law_shared (P := l.prog) (w := w) (mg := mg) (base := base) (T := T) F__law_shared ⟨K_share_no_lot, mg_share_no_lot, k_share_no_lot⟩ ⟨K__law_apart_due, mg__law_apart_due, k__law_apart_due, b__law_apart_due⟩ ⟨K__law_same, mg__law_same, k__law_same, b__law_same⟩ nb_len
  have K__law_chained := ok__law_chained (P := l.prog) (w := w) (mg := mg) (base := base) (T := T) F__law_chained ⟨K_Path_chain, ⟨rd_Path, ga_Path⟩, ⟨a_Path_chain, ⟨_, r_Path_chain⟩, fi_Path_chain⟩⟩ mC_Path nb_len
  have K__law_refused := ok__law_refused (P := l.prog) (w := w) (mg := mg) (base := base) (T := T) F__law_refused ⟨K_Path_add, ⟨a_Path_add, i_Path_add, k_Path_add⟩, cl_Path, b_Path_add⟩ ⟨K__law_chained, mg__law_chained, k__law_chained, b__law_chained⟩ ⟨K_Path_len, ⟨a_Path_len, i_Path_len, k_Path_len⟩, cl_Path, b_Path_len⟩ E_Mismatch E_NetworkError E_NoSuchLot E_PlaceOutOfRange SV_Mismatch S_Mismatch_Mismatch_t S_Mismatch_NetworkError_t S_Mismatch_NoSuchLot_f S_Mismatch_PlaceOutOfRange_f mC_Mismatch mC_NetworkError mC_NoSuchLot mC_PlaceOutOfRange nb_ValueError nb_isinstance nb_len ne_Mismatch_NoSuchLot ne_Mismatch_PlaceOutOfRange sf_Path
  exact fn_law (ok_law F_law ⟨K__law_source, mg__law_source, k__law_source, b__law_source⟩ ⟨K__law_pick, mg__law_pick, k__law_pick, b__law_pick⟩ ⟨K__law_steps, mg__law_steps, k__law_steps, b__law_steps⟩ ⟨K__law_draw, mg__law_draw, k__law_draw, b__law_draw⟩ ⟨K__law_end, mg__law_end, k__law_end, b__law_end⟩ ⟨K_Path_init, ⟨xmk_Path, a_Path_init, i_Path_init, xkc_Path⟩, mC_Path, b_Path_init⟩ ⟨K__law_sum, mg__law_sum, k__law_sum, b__law_sum⟩ ⟨K_Path_add, ⟨a_Path_add, i_Path_add, k_Path_add⟩, cl_Path, b_Path_add⟩ ⟨K__law_back, mg__law_back, k__law_back, b__law_back⟩ ⟨K_Path_invert, ⟨a_Path_invert, i_Path_invert, k_Path_invert⟩, cl_Path, b_Path_invert⟩ ⟨K_Path_chain, ⟨rd_Path, ga_Path⟩, ⟨a_Path_chain, ⟨_, r_Path_chain⟩, fi_Path_chain⟩⟩ ⟨(FnOk.rawP K_Path_still b_Path_still), ⟨rd_Path, ga_Path⟩, ⟨a_Path_still, ⟨_, r_Path_still⟩, k_Path_still⟩⟩ ⟨K_Path_end, ⟨a_Path_end, g_Path_end, t_Path_end, ⟨_, r_Path_end⟩⟩, cl_Path, b_Path_end⟩ ⟨K__law_are, mg__law_are, k__law_are, b__law_are⟩ ⟨K_Path_eq, ⟨a_Path_eq, i_Path_eq, k_Path_eq⟩, cl_Path, b_Path_eq⟩ ⟨K__law_shared, mg__law_shared, k__law_shared, b__law_shared⟩ ⟨K__law_same, mg__law_same, k__law_same, b__law_same⟩ ⟨K__law_refused, mg__law_refused, k__law_refused, b__law_refused⟩ mC_Path nb_int nb_list nb_range sf_Path) (fun ns R h => h)
end Y
open PySem PySem.W PyProof.Rows
set_option maxRecDepth 100000 in
set_option maxHeartbeats 0 in
theorem PySem.Challenge.cw_lotsintrees_k21_whole_algebra_of_paths_holds : PySem.Challenge.rw_lotsintrees_k21_whole_algebra_of_paths.Holds := by
  w_on; o_law; k_headL; (case hw => w_witness2)
  k_fill
  refine Y.walkY (l := PySem.Challenge.rw_lotsintrees_k21_whole_algebra_of_paths) 17 ⟨rfl, by decide, by decide⟩ rfl rfl (fun w h Y => PySem.W.kIn_of Y) ?F
  case F =>
    intro w mg fa h KX G hmg
    refine' Y.all_mk KX G hmg ?a__law_source ?l__law_source ?c__law_source ?k__law_source ?z_list ?a__law_mixed ?l__law_mixed ?c__law_mixed ?k__law_mixed ?z_int ?a__law_draw ?l__law_draw ?c__law_draw ?k__law_draw ?z_len ?a__law_pick ?l__law_pick ?c__law_pick ?k__law_pick ?a__law_steps ?l__law_steps ?c__law_steps ?k__law_steps ?z_range ?a__law_stops ?l__law_stops ?c__law_stops ?k__law_stops ?a__law_end ?l__law_end ?c__law_end ?k__law_end ?xC_PlaceOutOfRange ?xC_NetworkError ?xL_PlaceOutOfRange ?xsa_PlaceOutOfRange ?xex_PlaceOutOfRange ?xty_PlaceOutOfRange ?xga_PlaceOutOfRange ?xgg_PlaceOutOfRange ?xhd_PlaceOutOfRange ?xha_PlaceOutOfRange ?xhm_PlaceOutOfRange ?xhn ?xht ?xkp_PlaceOutOfRange ?a_PlaceOutOfRange_init ?ty_PlaceOutOfRange_init ?l_PlaceOutOfRange_init ?c_PlaceOutOfRange_init ?co_PlaceOutOfRange_init ?vv_PlaceOutOfRange_init ?fi_PlaceOutOfRange_init ?ce_PlaceOutOfRange_init ?mv_PlaceOutOfRange_init ?ms_PlaceOutOfRange_init ?al_PlaceOutOfRange_init ?xany ?xsup ?xtop ?xna_PlaceOutOfRange_place ?a_check_place ?l_check_place ?c_check_place ?k_check_place ?xC_NoSuchLot ?xL_NoSuchLot ?xsa_NoSuchLot ?xex_NoSuchLot ?xty_NoSuchLot ?xga_NoSuchLot ?xgg_NoSuchLot ?xhd_NoSuchLot ?xha_NoSuchLot ?xhm_NoSuchLot ?xkp_NoSuchLot ?a_NoSuchLot_init ?ty_NoSuchLot_init ?l_NoSuchLot_init ?c_NoSuchLot_init ?co_NoSuchLot_init ?vv_NoSuchLot_init ?fi_NoSuchLot_init ?ce_NoSuchLot_init ?mv_NoSuchLot_init ?ms_NoSuchLot_init ?al_NoSuchLot_init ?xna_NoSuchLot_lot ?xC_Path ?xpg_Path ?xhd_Path ?xpo_Path ?xsa_Path ?a_Path_init ?i_Path_init ?l_Path_init ?c_Path_init ?k_Path_init ?xha_Path ?xhm_Path ?v_MOST_LOTS ?v_MOST_PLACES ?xna_Path__many ?xna_Path_start ?xna_Path_steps ?z_tuple ?a__law_sum ?l__law_sum ?c__law_sum ?k__law_sum ?a_Path_end ?g_Path_end ?t_Path_end ?r_Path_end ?l_Path_end ?c_Path_end ?k_Path_end ?a_Path_add ?i_Path_add ?l_Path_add ?c_Path_add ?k_Path_add ?xC_Mismatch ?xL_Mismatch ?xsa_Mismatch ?xex_Mismatch ?xty_Mismatch ?xga_Mismatch ?xgg_Mismatch ?xhd_Mismatch ?xha_Mismatch ?xhm_Mismatch ?xkp_Mismatch ?xc_Mismatch ?xmk_Path ?xkc_Path ?a__law_back ?l__law_back ?c__law_back ?k__law_back ?a_Path_stops ?g_Path_stops ?t_Path_stops ?r_Path_stops ?l_Path_stops ?c_Path_stops ?k_Path_stops ?a_Path_invert ?i_Path_invert ?l_Path_invert ?c_Path_invert ?k_Path_invert ?rd_Path ?ga_Path ?a_Path_chain ?r_Path_chain ?fi_Path_chain ?l_Path_chain ?c_Path_chain ?k_Path_chain ?sf_Path ?a_Path_still ?r_Path_still ?l_Path_still ?c_Path_still ?k_Path_still ?a__law_number ?l__law_number ?c__law_number ?k__law_number ?z_bool ?z_isinstance ?a__law_same ?l__law_same ?c__law_same ?k__law_same ?z_str ?a_Path_len ?i_Path_len ?l_Path_len ?c_Path_len ?k_Path_len ?a__law_path_is ?l__law_path_is ?c__law_path_is ?k__law_path_is ?a__law_are ?l__law_are ?c__law_are ?k__law_are ?a_Path_eq ?i_Path_eq ?l_Path_eq ?c_Path_eq ?k_Path_eq ?a_all_different ?l_all_different ?c_all_different ?k_all_different ?a_Path_lot_numbers ?g_Path_lot_numbers ?t_Path_lot_numbers ?r_Path_lot_numbers ?l_Path_lot_numbers ?c_Path_lot_numbers ?k_Path_lot_numbers ?a_share_no_lot ?l_share_no_lot ?c_share_no_lot ?k_share_no_lot ?a__law_apart_due ?l__law_apart_due ?c__law_apart_due ?k__law_apart_due ?a__law_shared ?l__law_shared ?c__law_shared ?k__law_shared ?a__law_chained ?l__law_chained ?c__law_chained ?k__law_chained ?a__law_refused ?l__law_refused ?c__law_refused ?k__law_refused ?xL_NetworkError ?xsa_NetworkError ?xex_NetworkError ?xty_NetworkError ?xga_NetworkError ?xgg_NetworkError ?xhd_NetworkError ?xha_NetworkError ?xhm_NetworkError ?xkp_NetworkError ?SV_Mismatch ?S_Mismatch_Mismatch_t ?S_Mismatch_NetworkError_t ?S_Mismatch_NoSuchLot_f ?S_Mismatch_PlaceOutOfRange_f ?z_ValueError ?ne_Mismatch_NoSuchLot ?ne_Mismatch_PlaceOutOfRange ?a_law ?l_law ?c_law ?k_law
    (case a__law_source => first | k_is | ks_is | k_exc | rfl | decide +kernel)
    (case l__law_source => k_is)
    (case c__law_source => k_is)
    (case k__law_source => k_is)
    (case z_list => k_is)
    (case a__law_mixed => first | k_is | ks_is | k_exc | rfl | decide +kernel)
    (case l__law_mixed => k_is)
    (case c__law_mixed => k_is)
    (case k__law_mixed => k_is)
    (case z_int => k_is)
    (case a__law_draw => first | k_is | ks_is | k_exc | rfl | decide +kernel)
    (case l__law_draw => k_is)
    (case c__law_draw => k_is)
    (case k__law_draw => k_is)
    (case z_len => k_is)
    (case a__law_pick => first | k_is | ks_is | k_exc | rfl | decide +kernel)
    (case l__law_pick => k_is)
    (case c__law_pick => k_is)
    (case k__law_pick => k_is)
    (case a__law_steps => first | k_is | ks_is | k_exc | rfl | decide +kernel)
    (case l__law_steps => k_is)
    (case c__law_steps => k_is)
    (case k__law_steps => k_is)
    (case z_range => k_is)
    (case a__law_stops => first | k_is | ks_is | k_exc | rfl | decide +kernel)
    (case l__law_stops => k_is)
    (case c__law_stops => k_is)
    (case k__law_stops => k_is)
    (case a__law_end => first | k_is | ks_is | k_exc | rfl | decide +kernel)
    (case l__law_end => k_is)
    (case c__law_end => k_is)
    (case k__law_end => k_is)
    (case xC_PlaceOutOfRange => k_is)
    (case xC_NetworkError => k_is)
    (case xL_PlaceOutOfRange => k_is)
    (case xsa_PlaceOutOfRange => k_is)
    (case xex_PlaceOutOfRange => k_is)
    (case xty_PlaceOutOfRange => k_is)
    (case xga_PlaceOutOfRange => k_is)
    (case xgg_PlaceOutOfRange => k_is)
    (case xhd_PlaceOutOfRange => k_is)
    (case xha_PlaceOutOfRange => k_is)
    (case xhm_PlaceOutOfRange => k_is)
    (case xhn => k_is)
    (case xht => k_is)
    (case xkp_PlaceOutOfRange => k_is)
    (case a_PlaceOutOfRange_init => first | k_is | ks_is | k_exc | rfl | decide +kernel)
    (case ty_PlaceOutOfRange_init => k_is)
    (case l_PlaceOutOfRange_init => k_is)
    (case c_PlaceOutOfRange_init => k_is)
    (case co_PlaceOutOfRange_init => k_is)
    (case vv_PlaceOutOfRange_init => first | k_is | ks_is | k_exc | rfl | decide +kernel)
    (case fi_PlaceOutOfRange_init => first | k_is | ks_is | k_exc | rfl | decide +kernel)
    (case ce_PlaceOutOfRange_init => k_is)
    (case mv_PlaceOutOfRange_init => k_is)
    (case ms_PlaceOutOfRange_init => k_is)
    (case al_PlaceOutOfRange_init => first | k_is | ks_is | k_exc | rfl | decide +kernel)
    (case xany => k_is)
    (case xsup => k_is)
    (case xtop => first | k_is | ks_is | k_exc | rfl | decide +kernel)
    (case xna_PlaceOutOfRange_place => k_is)
    (case a_check_place => first | k_is | ks_is | k_exc | rfl | decide +kernel)
    (case l_check_place => k_is)
    (case c_check_place => k_is)
    (case k_check_place => k_is)
    (case xC_NoSuchLot => k_is)
    (case xL_NoSuchLot => k_is)
    (case xsa_NoSuchLot => k_is)
    (case xex_NoSuchLot => k_is)
    (case xty_NoSuchLot => k_is)
    (case xga_NoSuchLot => k_is)
    (case xgg_NoSuchLot => k_is)
    (case xhd_NoSuchLot => k_is)
    (case xha_NoSuchLot => k_is)
    (case xhm_NoSuchLot => k_is)
    (case xkp_NoSuchLot => k_is)
    (case a_NoSuchLot_init => first | k_is | ks_is | k_exc | rfl | decide +kernel)
    (case ty_NoSuchLot_init => k_is)
    (case l_NoSuchLot_init => k_is)
    (case c_NoSuchLot_init => k_is)
    (case co_NoSuchLot_init => k_is)
    (case vv_NoSuchLot_init => first | k_is | ks_is | k_exc | rfl | decide +kernel)
    (case fi_NoSuchLot_init => first | k_is | ks_is | k_exc | rfl | decide +kernel)
    (case ce_NoSuchLot_init => k_is)
    (case mv_NoSuchLot_init => k_is)
    (case ms_NoSuchLot_init => k_is)
    (case al_NoSuchLot_init => first | k_is | ks_is | k_exc | rfl | decide +kernel)
    (case xna_NoSuchLot_lot => k_is)
    (case xC_Path => k_is)
    (case xpg_Path => k_is)
    (case xhd_Path => k_is)
    (case xpo_Path => k_is)
    (case xsa_Path => k_is)
    (case a_Path_init => first | k_is | ks_is | k_exc | rfl | decide +kernel)
    (case i_Path_init => k_is)
    (case l_Path_init => k_is)
    (case c_Path_init => k_is)
    (case k_Path_init => k_is)
    (case xha_Path => k_is)
    (case xhm_Path => k_is)
    (case v_MOST_LOTS => k_is)
    (case v_MOST_PLACES => k_is)
    (case xna_Path__many => k_is)
    (case xna_Path_start => k_is)
    (case xna_Path_steps => k_is)
    (case z_tuple => k_is)
    (case a__law_sum => first | k_is | ks_is | k_exc | rfl | decide +kernel)
    (case l__law_sum => k_is)
    (case c__law_sum => k_is)
    (case k__law_sum => k_is)
    (case a_Path_end => first | k_is | ks_is | k_exc | rfl | decide +kernel)
    (case g_Path_end => k_is)
    (case t_Path_end => k_is)
    (case r_Path_end => first | k_is | ks_is | k_exc | rfl | decide +kernel)
    (case l_Path_end => k_is)
    (case c_Path_end => k_is)
    (case k_Path_end => k_is)
    (case a_Path_add => first | k_is | ks_is | k_exc | rfl | decide +kernel)
    (case i_Path_add => k_is)
    (case l_Path_add => k_is)
    (case c_Path_add => k_is)
    (case k_Path_add => k_is)
    (case xC_Mismatch => k_is)
    (case xL_Mismatch => k_is)
    (case xsa_Mismatch => k_is)
    (case xex_Mismatch => k_is)
    (case xty_Mismatch => k_is)
    (case xga_Mismatch => k_is)
    (case xgg_Mismatch => k_is)
    (case xhd_Mismatch => k_is)
    (case xha_Mismatch => k_is)
    (case xhm_Mismatch => k_is)
    (case xkp_Mismatch => k_is)
    (case xc_Mismatch => first | k_is | ks_is | k_exc | rfl | decide +kernel)
    (case xmk_Path => k_is)
    (case xkc_Path => k_is)
    (case a__law_back => first | k_is | ks_is | k_exc | rfl | decide +kernel)
    (case l__law_back => k_is)
    (case c__law_back => k_is)
    (case k__law_back => k_is)
    (case a_Path_stops => first | k_is | ks_is | k_exc | rfl | decide +kernel)
    (case g_Path_stops => k_is)
    (case t_Path_stops => k_is)
    (case r_Path_stops => first | k_is | ks_is | k_exc | rfl | decide +kernel)
    (case l_Path_stops => k_is)
    (case c_Path_stops => k_is)
    (case k_Path_stops => k_is)
    (case a_Path_invert => first | k_is | ks_is | k_exc | rfl | decide +kernel)
    (case i_Path_invert => k_is)
    (case l_Path_invert => k_is)
    (case c_Path_invert => k_is)
    (case k_Path_invert => k_is)
    (case rd_Path => first | k_is | ks_is | k_exc | rfl | decide +kernel)
    (case ga_Path => first | k_is | ks_is | k_exc | rfl | decide +kernel)
    (case a_Path_chain => first | k_is | ks_is | k_exc | rfl | decide +kernel)
    (case r_Path_chain => first | k_is | ks_is | k_exc | rfl | decide +kernel)
    (case fi_Path_chain => first | k_is | ks_is | k_exc | rfl | decide +kernel)
    (case l_Path_chain => k_is)
    (case c_Path_chain => k_is)
    (case k_Path_chain => k_is)
    (case sf_Path => k_is)
    (case a_Path_still => first | k_is | ks_is | k_exc | rfl | decide +kernel)
    (case r_Path_still => first | k_is | ks_is | k_exc | rfl | decide +kernel)
    (case l_Path_still => k_is)
    (case c_Path_still => k_is)
    (case k_Path_still => k_is)
    (case a__law_number => first | k_is | ks_is | k_exc | rfl | decide +kernel)
    (case l__law_number => k_is)
    (case c__law_number => k_is)
    (case k__law_number => k_is)
    (case z_bool => k_is)
    (case z_isinstance => k_is)
    (case a__law_same => first | k_is | ks_is | k_exc | rfl | decide +kernel)
    (case l__law_same => k_is)
    (case c__law_same => k_is)
    (case k__law_same => k_is)
    (case z_str => k_is)
    (case a_Path_len => first | k_is | ks_is | k_exc | rfl | decide +kernel)
    (case i_Path_len => k_is)
    (case l_Path_len => k_is)
    (case c_Path_len => k_is)
    (case k_Path_len => k_is)
    (case a__law_path_is => first | k_is | ks_is | k_exc | rfl | decide +kernel)
    (case l__law_path_is => k_is)
    (case c__law_path_is => k_is)
    (case k__law_path_is => k_is)
    (case a__law_are => first | k_is | ks_is | k_exc | rfl | decide +kernel)
    (case l__law_are => k_is)
    (case c__law_are => k_is)
    (case k__law_are => k_is)
    (case a_Path_eq => first | k_is | ks_is | k_exc | rfl | decide +kernel)
    (case i_Path_eq => k_is)
    (case l_Path_eq => k_is)
    (case c_Path_eq => k_is)
    (case k_Path_eq => k_is)
    (case a_all_different => first | k_is | ks_is | k_exc | rfl | decide +kernel)
    (case l_all_different => k_is)
    (case c_all_different => k_is)
    (case k_all_different => k_is)
    (case a_Path_lot_numbers => first | k_is | ks_is | k_exc | rfl | decide +kernel)
    (case g_Path_lot_numbers => k_is)
    (case t_Path_lot_numbers => k_is)
    (case r_Path_lot_numbers => first | k_is | ks_is | k_exc | rfl | decide +kernel)
    (case l_Path_lot_numbers => k_is)
    (case c_Path_lot_numbers => k_is)
    (case k_Path_lot_numbers => k_is)
    (case a_share_no_lot => first | k_is | ks_is | k_exc | rfl | decide +kernel)
    (case l_share_no_lot => k_is)
    (case c_share_no_lot => k_is)
    (case k_share_no_lot => k_is)
    (case a__law_apart_due => first | k_is | ks_is | k_exc | rfl | decide +kernel)
    (case l__law_apart_due => k_is)
    (case c__law_apart_due => k_is)
    (case k__law_apart_due => k_is)
    (case a__law_shared => first | k_is | ks_is | k_exc | rfl | decide +kernel)
    (case l__law_shared => k_is)
    (case c__law_shared => k_is)
    (case k__law_shared => k_is)
    (case a__law_chained => first | k_is | ks_is | k_exc | rfl | decide +kernel)
    (case l__law_chained => k_is)
    (case c__law_chained => k_is)
    (case k__law_chained => k_is)
    (case a__law_refused => first | k_is | ks_is | k_exc | rfl | decide +kernel)
    (case l__law_refused => k_is)
    (case c__law_refused => k_is)
    (case k__law_refused => k_is)
    (case xL_NetworkError => k_is)
    (case xsa_NetworkError => k_is)
    (case xex_NetworkError => k_is)
    (case xty_NetworkError => k_is)
    (case xga_NetworkError => k_is)
    (case xgg_NetworkError => k_is)
    (case xhd_NetworkError => k_is)
    (case xha_NetworkError => k_is)
    (case xhm_NetworkError => k_is)
    (case xkp_NetworkError => k_is)
    (case SV_Mismatch => k_is)
    (case S_Mismatch_Mismatch_t => k_is)
    (case S_Mismatch_NetworkError_t => k_is)
    (case S_Mismatch_NoSuchLot_f => k_is)
    (case S_Mismatch_PlaceOutOfRange_f => k_is)
    (case z_ValueError => k_is)
    (case ne_Mismatch_NoSuchLot => decide)
    (case ne_Mismatch_PlaceOutOfRange => decide)
    (case a_law => first | k_is | ks_is | k_exc | rfl | decide +kernel)
    (case l_law => k_is)
    (case c_law => k_is)
    (case k_law => k_is)
#print axioms PySem.Challenge.cw_lotsintrees_k21_whole_algebra_of_paths_holds
