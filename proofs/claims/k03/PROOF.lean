import PyProof.Rows.All
import Wide.All
import OpenK.AllK
import Wide.FinOn
import HandS.ForMost
import HandS.ForExc
import HandS.TupAny
import HandS.TupLe
import HandS.IsInst
import HandS.Wide
import HandS.Property
import HandS.ClsMeth
import HandS.Defaults
import HandS.EndBits
import HandS.Conv
import HandS.Flow
import KE.DataEq
import KE.DataCmp
import HandS.Steps
import HandS.OwnEq
import KE.KSuper
import KE.RegKSuper
import HandS.ExcInit
import HandS.ExcSuper
import HandS.Nested
import HandS.CallSlots
import HandS.TryMany
import HandS.ExcField
import HandS.ExcIs
import HandS.WordsExc
import PySem.Challenge.RW_lotsintrees_k03_lot_plus_and_minus_a_pla
set_option Elab.async false
set_option linter.all false
set_option autoImplicit false
set_option maxRecDepth 100000
set_option maxHeartbeats 4000000
/-! ZA: a layer over the hand layer in which a proof speaks of plain data (D) and never of the heap. -/
namespace Z
open PySem PySem.Spec PyProof.Rows L2

/-! ### data -/
inductive D where
  | non
  | bl (b : Bool)
  | int (i : Int)
  | str (x : Str)
  | tup (ds : List D)
  | lst (ds : List D)
  | obj (C : Addr) (ds : List D)
  | src
  | scr (ns : List Int)

/-- the attributes of a class whose instances stand still once they are made, in their order -/
abbrev Tb := Addr → List Str

/-- a list that nobody changes any more -/
def StL (K : PySem.W.Frag) (H : Hp) (a : Addr) (xs : List V) : Prop := (∃ o, H a = some (.frz o (.lst xs))) ∨ ∀ H', SqL K H' a xs

/-- the source of a law's draws, at a, over the list at b -/
def srcP (a b : Addr) : Heap → Prop := fun h => ∃ (its : List Value) (n : Nat) (i c l t : Int) (fl : Bool),
  Vals [.ref b, .int i, .int c, .int l, .int t, .bl fl] its ∧ h.get? a = some { cls := .type "list", data := .seq its.toArray n } ∧ 0 ≤ i

mutual
inductive At (K : PySem.W.Frag) (T : Tb) (H : Hp) : V → D → Prop
  | non : At K T H .non .non
  | bl (b : Bool) : At K T H (.bl b) (.bl b)
  | int (i : Int) : At K T H (.int i) (.int i)
  | str (x : Str) : At K T H (.str x) (.str x)
  | tup {a : Addr} {xs : List V} {ds : List D} : H a = some (.tup xs) → AtAll K T H xs ds → At K T H (.ref a) (.tup ds)
  | lst {a : Addr} {o : Obj} {xs : List V} {ds : List D} : H a = some (.frz o (.lst xs)) → AtAll K T H xs ds → At K T H (.ref a) (.lst ds)
  | obj {a C dx : Addr} {fs : List (Str × V)} {ds : List D} : H a = some (.ins C dx fs) → fs.map (·.1) = T C → T C ≠ [] → AtAll K T H (fs.map (·.2)) ds → At K T H (.ref a) (.obj C ds)
  | src {a b : Addr} {o : Obj} {ns : List Int} : H a = some (.ext (srcP a b)) → H b = some (.frz o (.lst (ns.map V.int))) → At K T H (.ref a) .src
  | scr {a : Addr} {ns : List Int} : StL K H a (ns.map V.int) → At K T H (.ref a) (.scr ns)
inductive AtAll (K : PySem.W.Frag) (T : Tb) (H : Hp) : List V → List D → Prop
  | nil : AtAll K T H [] []
  | cons {v : V} {vs : List V} {d : D} {ds : List D} : At K T H v d → AtAll K T H vs ds → AtAll K T H (v :: vs) (d :: ds)
end

def stab : HO → Bool
  | .tup _ => true
  | .frz _ _ => true
  | .ins _ _ _ => true
  | .ext _ => true
  | .xd _ => true
  | _ => false
/-- what data lean on stands still -/
def Sta (H H' : Hp) : Prop := ∀ a o, H a = some o → stab o = true → H' a = some o
theorem Sta.of {H H' : Hp} (h : Same H H') : Sta H H' := fun a o e _ => h a o e
theorem Sta.refl (H : Hp) : Sta H H := fun _ _ e _ => e
theorem Sta.trans {H H1 H2 : Hp} (a : Sta H H1) (b : Sta H1 H2) : Sta H H2 := fun x o e s => b x o (a x o e s) s
theorem Sta.upd {H : Hp} {l : Addr} {xs : List V} {o : HO} (h : H l = some (.lst xs)) : Sta H (L2.upd H l o) := fun a u e s => by
  have : a ≠ l := fun q => by
    subst q
    rw [h] at e
    cases e
    cases s
  rw [upd_ne this]
  exact e
theorem Same.new {H : Hp} {p : Addr} {o : HO} (h : H p = none) : Same H (upd H p o) := fun a u e => by
  rw [upd_ne (ne_of_none e h)]
  exact e
theorem StL.sta {K : PySem.W.Frag} {H H' : Hp} {a : Addr} {xs : List V} (e : Sta H H') (h : StL K H a xs) : StL K H' a xs := by
  rcases h with ⟨o, h⟩ | h
  · exact .inl ⟨o, e _ _ h rfl⟩
  · exact .inr h
theorem StL.sq {K : PySem.W.Frag} {H : Hp} {a : Addr} {xs : List V} (h : StL K H a xs) : SqL K H a xs := by
  rcases h with ⟨o, h⟩ | h
  · exact .inl (.inr ⟨o, h⟩)
  · exact h H
section
variable {K : PySem.W.Frag} {T : Tb} {H H' : Hp}
mutual
theorem At.sta (e : Sta H H') : ∀ (d : D) (v : V), At K T H v d → At K T H' v d
  | .non, _, h => by cases h; exact .non
  | .bl b, _, h => by cases h; exact .bl b
  | .int i, _, h => by cases h; exact .int i
  | .str x, _, h => by cases h; exact .str x
  | .tup ds, _, h => by
    cases h with
    | tup h1 h2 => exact .tup (e _ _ h1 rfl) (AtAll.sta e ds _ h2)
  | .lst ds, _, h => by
    cases h with
    | lst h1 h2 => exact .lst (e _ _ h1 rfl) (AtAll.sta e ds _ h2)
  | .obj C ds, _, h => by
    cases h with
    | obj h1 h2 h3 h4 => exact .obj (e _ _ h1 rfl) h2 h3 (AtAll.sta e ds _ h4)
  | .src, _, h => by
    cases h with
    | src h1 h2 => exact .src (e _ _ h1 rfl) (e _ _ h2 rfl)
  | .scr ns, _, h => by
    cases h with
    | scr h1 => exact .scr (h1.sta e)
theorem AtAll.sta (e : Sta H H') : ∀ (ds : List D) (vs : List V), AtAll K T H vs ds → AtAll K T H' vs ds
  | [], _, h => by cases h; exact .nil
  | d :: ds, _, h => by
    cases h with
    | cons h1 h2 => exact .cons (At.sta e d _ h1) (AtAll.sta e ds _ h2)
end
theorem At.same {d : D} {v : V} (h : At K T H v d) (e : Same H H') : At K T H' v d := At.sta (.of e) d v h
theorem AtAll.same {ds : List D} {vs : List V} (h : AtAll K T H vs ds) (e : Same H H') : AtAll K T H' vs ds := AtAll.sta (.of e) ds vs h
theorem AtAll.length : ∀ {ds : List D} {vs : List V}, AtAll K T H vs ds → vs.length = ds.length
  | _, _, .nil => rfl
  | _, _, .cons _ t => by rw [List.length_cons, List.length_cons, AtAll.length t]
theorem AtAll.get : ∀ {ds : List D} {vs : List V} {i : Nat} {d : D}, AtAll K T H vs ds → ds[i]? = some d → ∃ v, vs[i]? = some v ∧ At K T H v d
  | _, _, _, _, .nil, e => by simp at e
  | _, _, 0, _, .cons h _, e => by simp at e; subst e; exact ⟨_, rfl, h⟩
  | _, _, i + 1, d, .cons _ t, e => by
    obtain ⟨v, h1, h2⟩ := AtAll.get (i := i) (d := d) t (by simpa using e)
    exact ⟨v, by simpa using h1, h2⟩
theorem AtAll.getV : ∀ {ds : List D} {vs : List V} {i : Nat} {v : V}, AtAll K T H vs ds → vs[i]? = some v → ∃ d, ds[i]? = some d ∧ At K T H v d
  | _, _, _, _, .nil, e => by simp at e
  | _, _, 0, _, .cons h _, e => by simp at e; subst e; exact ⟨_, rfl, h⟩
  | _, _, i + 1, d, .cons _ t, e => by
    obtain ⟨v, h1, h2⟩ := AtAll.getV (i := i) (v := d) t (by simpa using e)
    exact ⟨v, by simpa using h1, h2⟩
theorem AtAll.append : ∀ {ds es : List D} {vs ws : List V}, AtAll K T H vs ds → AtAll K T H ws es → AtAll K T H (vs ++ ws) (ds ++ es)
  | _, _, _, _, .nil, s => s
  | _, _, _, _, .cons r t, s => .cons r (AtAll.append t s)
theorem AtAll.take : ∀ {ds : List D} {vs : List V} (n : Nat), AtAll K T H vs ds → AtAll K T H (vs.take n) (ds.take n)
  | _, _, 0, _ => .nil
  | _, _, _ + 1, .nil => .nil
  | _, _, n + 1, .cons r t => .cons r (AtAll.take n t)
theorem AtAll.drop : ∀ {ds : List D} {vs : List V} (n : Nat), AtAll K T H vs ds → AtAll K T H (vs.drop n) (ds.drop n)
  | _, _, 0, r => r
  | _, _, _ + 1, .nil => .nil
  | _, _, n + 1, .cons _ t => AtAll.drop n t
theorem AtAll.set {d : D} {v : V} (r : At K T H v d) : ∀ {ds : List D} {vs : List V} (i : Nat), AtAll K T H vs ds → AtAll K T H (vs.set i v) (ds.set i d)
  | _, _, _, .nil => .nil
  | _, _, 0, .cons _ t => .cons r t
  | _, _, i + 1, .cons q t => .cons q (AtAll.set r i t)
theorem AtAll.eraseIdx : ∀ {ds : List D} {vs : List V} (i : Nat), AtAll K T H vs ds → AtAll K T H (vs.eraseIdx i) (ds.eraseIdx i)
  | _, _, _, .nil => .nil
  | _, _, 0, .cons _ t => t
  | _, _, i + 1, .cons q t => .cons q (AtAll.eraseIdx i t)
theorem AtAll.reverse : ∀ {ds : List D} {vs : List V}, AtAll K T H vs ds → AtAll K T H vs.reverse ds.reverse
  | _, _, .nil => .nil
  | _, _, .cons r t => by
    rw [List.reverse_cons, List.reverse_cons]
    exact (AtAll.reverse t).append (.cons r .nil)
theorem AtAll.ints : ∀ {is : List Int} {vs : List V}, AtAll K T H vs (is.map D.int) → vs = is.map V.int
  | [], _, h => by cases h; rfl
  | i :: is, _, h => by
    cases h with
    | cons h1 h2 =>
      cases h1
      rw [AtAll.ints h2]
      rfl
theorem AtAll.of_ints : ∀ (is : List Int), AtAll K T H (is.map V.int) (is.map D.int)
  | [] => .nil
  | i :: is => .cons (.int i) (AtAll.of_ints is)
theorem AtAll.bls : ∀ {is : List Bool} {vs : List V}, AtAll K T H vs (is.map D.bl) → vs = is.map V.bl
  | [], _, h => by cases h; rfl
  | i :: is, _, h => by
    cases h with
    | cons h1 h2 =>
      cases h1
      rw [AtAll.bls h2]
      rfl
end

/-- a value that may be read as the data now: data that stand still, or a list that stands there now -/
inductive RAt (K : PySem.W.Frag) (T : Tb) (H : Hp) : V → D → Prop
  | at {v : V} {d : D} : At K T H v d → RAt K T H v d
  | lst {a : Addr} {xs : List V} {ds : List D} : H a = some (.lst xs) → AtAll K T H xs ds → RAt K T H (.ref a) (.lst ds)
section
variable {K : PySem.W.Frag} {T : Tb} {H H' : Hp}
theorem RAt.same {d : D} {v : V} (h : RAt K T H v d) (e : Same H H') : RAt K T H' v d := by
  cases h with
  | «at» h => exact .at (h.same e)
  | lst h1 h2 => exact .lst (e _ _ h1) (h2.same e)
theorem RAt.sq {v : V} {ds : List D} (h : RAt K T H v (.lst ds)) : ∃ a xs, v = .ref a ∧ SqL K H a xs ∧ AtAll K T H xs ds := by
  cases h with
  | «at» h =>
    cases h with
    | lst h1 h2 => exact ⟨_, _, rfl, .inl (.inr ⟨_, h1⟩), h2⟩
  | lst h1 h2 => exact ⟨_, _, rfl, SqL.of h1, h2⟩
theorem RAt.rd {v : V} {ds : List D} (h : RAt K T H v (.lst ds)) : ∃ a xs, v = .ref a ∧ Rd H a (.lst xs) ∧ AtAll K T H xs ds := by
  cases h with
  | «at» h =>
    cases h with
    | lst h1 h2 => exact ⟨_, _, rfl, .inr ⟨_, h1⟩, h2⟩
  | lst h1 h2 => exact ⟨_, _, rfl, .inl h1, h2⟩
theorem RAt.tup {v : V} {ds : List D} (h : RAt K T H v (.tup ds)) : ∃ a xs, v = .ref a ∧ H a = some (.tup xs) ∧ AtAll K T H xs ds := by
  cases h with
  | «at» h =>
    cases h with
    | tup h1 h2 => exact ⟨_, _, rfl, h1, h2⟩
theorem RAt.obj {v : V} {C : Addr} {ds : List D} (h : RAt K T H v (.obj C ds)) : ∃ a dx fs, v = .ref a ∧ H a = some (.ins C dx fs) ∧ fs.map (·.1) = T C ∧ T C ≠ [] ∧ AtAll K T H (fs.map (·.2)) ds := by
  cases h with
  | «at» h =>
    cases h with
    | obj h1 h2 h3 h4 => exact ⟨_, _, _, rfl, h1, h2, h3, h4⟩
theorem RAt.int {v : V} {i : Int} (h : RAt K T H v (.int i)) : v = .int i := by
  cases h with
  | «at» h => cases h; rfl
theorem RAt.bl {v : V} {i : Bool} (h : RAt K T H v (.bl i)) : v = .bl i := by
  cases h with
  | «at» h => cases h; rfl
theorem RAt.str {v : V} {i : Str} (h : RAt K T H v (.str i)) : v = .str i := by
  cases h with
  | «at» h => cases h; rfl
theorem RAt.non {v : V} (h : RAt K T H v .non) : v = .non := by
  cases h with
  | «at» h => cases h; rfl
theorem At.int_iff {v : V} {i : Int} (h : At K T H v (.int i)) : v = .int i := by cases h; rfl
theorem At.bl_iff {v : V} {i : Bool} (h : At K T H v (.bl i)) : v = .bl i := by cases h; rfl
end

/-! ### the environment: what each name holds, as data -/
inductive S where
  | no
  | val (d : D)
  | own (ds : List D)
  | self (C : Addr) (fs : List (Str × D))
  /-- an opened source: its address, its list's, the list's ints, what else it holds -/
  | opn (a b : Addr) (ns : List Int) (ds : List D)
  /-- a caught exception: where it is, its class, its dict, its attributes -/
  | exc (a C : Addr) (od : Option Addr) (fs : List (Str × D))

/-- the context of a body: the written part, the classes' attributes, what it may change, the heap at its entry -/
structure Cz where
  K : PySem.W.Frag
  T : Tb
  W : Addr → Prop
  H0 : Hp

/-- an exception has come: its own dict -/
def ExAt (K : PySem.W.Frag) (T : Tb) (H : Hp) (od : Option Addr) (fs : List (Str × D)) : Prop :=
  match od with
  | none => fs = []
  | some dx => ∃ gs : List (Str × V), H dx = some (.xd gs) ∧ gs.map (·.1) = fs.map (·.1) ∧ AtAll K T H (gs.map (·.2)) (fs.map (·.2))
theorem ExAt.sta {K : PySem.W.Frag} {T : Tb} {H H' : Hp} {od : Option Addr} {fs : List (Str × D)} (e : Sta H H') (h : ExAt K T H od fs) : ExAt K T H' od fs := by
  cases od with
  | none => exact h
  | some dx =>
    obtain ⟨gs, h1, h2, h3⟩ := h
    exact ⟨gs, e _ _ h1 rfl, h2, AtAll.sta e _ _ h3⟩
def SlotOk (c : Cz) (H : Hp) (o : Option V) : S → Prop
  | .no => True
  | .val d => ∃ v, o = some v ∧ At c.K c.T H v d
  | .own ds => ∃ l xs, o = some (.ref l) ∧ H l = some (.lst xs) ∧ AtAll c.K c.T H xs ds ∧ c.H0 l = none
  | .self C fs => ∃ p dx gs, o = some (.ref p) ∧ H p = some (.ins C dx gs) ∧ gs.map (·.1) = fs.map (·.1) ∧ AtAll c.K c.T H (gs.map (·.2)) (fs.map (·.2)) ∧ c.W p
  | .opn a b ns ds => o = some (.ref a) ∧ (∃ vs, H a = some (.lst (.ref b :: vs)) ∧ AtAll c.K c.T H vs ds) ∧ (∃ ob, H b = some (.frz ob (.lst (ns.map V.int)))) ∧ c.W a ∧ c.H0 a ≠ none
  | .exc a C od fs => o = some (.ref a) ∧ ExAt c.K c.T H od fs

structure EnvOk (c : Cz) (H : Hp) (σ : L2.St) (ρ : List S) : Prop where
  sm : ∀ b o, c.H0 b = some o → ¬ c.W b → H b = some o
  tr : ∀ b, H b = none → c.H0 b = none
  len : σ.length = ρ.length
  slot : ∀ (i : Nat) (o : Option V) (s : S), σ[i]? = some o → ρ[i]? = some s → SlotOk c H o s
  dis : ∀ (i j : Nat) (l : Addr) (ds es : List D), σ[i]? = some (some (.ref l)) → σ[j]? = some (some (.ref l)) → ρ[i]? = some (.own ds) → ρ[j]? = some (.own es) → i = j

section
variable {c : Cz} {H H' : Hp} {σ : L2.St} {ρ : List S}
theorem SlotOk.same {o : Option V} {s : S} (h : SlotOk c H o s) (e : Same H H') : SlotOk c H' o s := by
  cases s with
  | no => trivial
  | val d =>
    obtain ⟨v, h1, h2⟩ := h
    exact ⟨v, h1, h2.same e⟩
  | own ds =>
    obtain ⟨l, xs, h1, h2, h3, h4⟩ := h
    exact ⟨l, xs, h1, e _ _ h2, h3.same e, h4⟩
  | self C fs =>
    obtain ⟨p, dx, gs, h1, h2, h3, h4, h5⟩ := h
    exact ⟨p, dx, gs, h1, e _ _ h2, h3, h4.same e, h5⟩
  | opn a b ns ds =>
    obtain ⟨h1, ⟨vs, h2, h3⟩, ⟨ob, h4⟩, h5, h6⟩ := h
    exact ⟨h1, ⟨vs, e _ _ h2, h3.same e⟩, ⟨ob, e _ _ h4⟩, h5, h6⟩
  | exc a C od fs => exact ⟨h.1, ExAt.sta (.of e) h.2⟩
theorem EnvOk.same (h : EnvOk c H σ ρ) (e : Same H H') : EnvOk c H' σ ρ :=
  ⟨fun b o q n => e b o (h.sm b o q n), fun b q => h.tr b (e.free q), h.len, fun i o s h1 h2 => (h.slot i o s h1 h2).same e, h.dis⟩
theorem EnvOk.get (h : EnvOk c H σ ρ) {i : Nat} {s : S} (e : ρ[i]? = some s) : ∃ o, σ[i]? = some o ∧ SlotOk c H o s := by
  have hl : i < σ.length := by rw [h.len]; exact (List.getElem?_eq_some_iff.mp e).1
  exact ⟨σ[i], List.getElem?_eq_getElem hl, h.slot i _ s (List.getElem?_eq_getElem hl) e⟩
theorem EnvOk.val (h : EnvOk c H σ ρ) {i : Nat} {d : D} (e : ρ[i]? = some (.val d)) : ∃ v, σ[i]? = some (some v) ∧ At c.K c.T H v d := by
  obtain ⟨o, h1, v, rfl, h2⟩ := h.get e
  exact ⟨v, h1, h2⟩
theorem EnvOk.own (h : EnvOk c H σ ρ) {i : Nat} {ds : List D} (e : ρ[i]? = some (.own ds)) :
    ∃ l xs, σ[i]? = some (some (.ref l)) ∧ H l = some (.lst xs) ∧ AtAll c.K c.T H xs ds ∧ c.H0 l = none := by
  obtain ⟨o, h1, l, xs, rfl, h2⟩ := h.get e
  exact ⟨l, xs, h1, h2⟩
theorem EnvOk.selfs (h : EnvOk c H σ ρ) {i : Nat} {C : Addr} {fs : List (Str × D)} (e : ρ[i]? = some (.self C fs)) :
    ∃ p dx gs, σ[i]? = some (some (.ref p)) ∧ H p = some (.ins C dx gs) ∧ gs.map (·.1) = fs.map (·.1) ∧ AtAll c.K c.T H (gs.map (·.2)) (fs.map (·.2)) ∧ c.W p := by
  obtain ⟨o, h1, p, dx, gs, rfl, h2⟩ := h.get e
  exact ⟨p, dx, gs, h1, h2⟩
theorem set_cases {α : Type} {l : List α} {i j : Nat} {x y : α} (h : (l.set i x)[j]? = some y) : (i = j ∧ i < l.length ∧ y = x) ∨ (i ≠ j ∧ l[j]? = some y) := by
  by_cases e : i = j
  · subst e
    have hl : i < l.length := by
      have := (List.getElem?_eq_some_iff.mp h).1
      simpa using this
    rw [List.getElem?_set_self hl] at h
    exact .inl ⟨rfl, hl, (Option.some.inj h).symm⟩
  · rw [List.getElem?_set_ne e] at h
    exact .inr ⟨e, h⟩
/-- a name is given a value that stands still (or forgotten) -/
theorem EnvOk.setS (h : EnvOk c H σ ρ) {i : Nat} {o : Option V} {s : S} (hs : SlotOk c H o s) (hm : ∀ ds, s ≠ .own ds) : EnvOk c H (σ.set i o) (ρ.set i s) := by
  refine ⟨h.sm, h.tr, by rw [List.length_set, List.length_set, h.len], fun j p t h1 h2 => ?_, fun j k l ds es h1 h2 h3 h4 => ?_⟩
  · rcases set_cases h1 with ⟨e1, _, rfl⟩ | ⟨e1, h1⟩
    · rcases set_cases h2 with ⟨_, _, rfl⟩ | ⟨e2, _⟩
      · exact hs
      · exact absurd e1 e2
    · rcases set_cases h2 with ⟨e2, _, _⟩ | ⟨_, h2⟩
      · exact absurd e2 e1
      · exact h.slot j p t h1 h2
  · rcases set_cases h3 with ⟨_, _, e3⟩ | ⟨n3, h3⟩
    · exact absurd e3.symm (hm ds)
    · rcases set_cases h4 with ⟨_, _, e4⟩ | ⟨n4, h4⟩
      · exact absurd e4.symm (hm es)
      · rcases set_cases h1 with ⟨q, _, _⟩ | ⟨_, h1⟩
        · exact absurd q n3
        · rcases set_cases h2 with ⟨q, _, _⟩ | ⟨_, h2⟩
          · exact absurd q n4
          · exact h.dis j k l ds es h1 h2 h3 h4
theorem EnvOk.setV (h : EnvOk c H σ ρ) {i : Nat} {v : V} {d : D} (a : At c.K c.T H v d) : EnvOk c H (σ.set i (some v)) (ρ.set i (.val d)) :=
  h.setS ⟨v, rfl, a⟩ fun _ e => nomatch e
theorem EnvOk.setN (h : EnvOk c H σ ρ) {i : Nat} {o : Option V} : EnvOk c H (σ.set i o) (ρ.set i .no) := h.setS trivial fun _ e => nomatch e
/-- a name is given a list of its own -/
theorem EnvOk.setM (h : EnvOk c H σ ρ) {i : Nat} {l : Addr} {xs : List V} {ds : List D} (hl : H l = some (.lst xs)) (a : AtAll c.K c.T H xs ds) (h0 : c.H0 l = none)
    (hn : ∀ (j : Nat) (es : List D), σ[j]? = some (some (.ref l)) → ρ[j]? = some (.own es) → j = i) : EnvOk c H (σ.set i (some (.ref l))) (ρ.set i (.own ds)) := by
  refine ⟨h.sm, h.tr, by rw [List.length_set, List.length_set, h.len], fun j p t h1 h2 => ?_, fun j k m es fs h1 h2 h3 h4 => ?_⟩
  · rcases set_cases h1 with ⟨e1, _, rfl⟩ | ⟨e1, h1⟩
    · rcases set_cases h2 with ⟨_, _, rfl⟩ | ⟨e2, _⟩
      · exact ⟨l, xs, rfl, hl, a, h0⟩
      · exact absurd e1 e2
    · rcases set_cases h2 with ⟨e2, _, _⟩ | ⟨_, h2⟩
      · exact absurd e2 e1
      · exact h.slot j p t h1 h2
  · rcases set_cases h1 with ⟨q1, _, z1⟩ | ⟨n1, h1⟩
    · rcases set_cases h2 with ⟨q2, _, z2⟩ | ⟨n2, h2⟩
      · exact q1.symm.trans q2
      · rcases set_cases h4 with ⟨q4, _, _⟩ | ⟨_, h4⟩
        · exact absurd q4 n2
        · cases z1
          exact absurd (hn k fs h2 h4).symm n2
    · rcases set_cases h2 with ⟨q2, _, z2⟩ | ⟨n2, h2⟩
      · rcases set_cases h3 with ⟨q3, _, _⟩ | ⟨_, h3⟩
        · exact absurd q3 n1
        · cases z2
          exact absurd (hn j es h1 h3).symm n1
      · rcases set_cases h3 with ⟨q3, _, _⟩ | ⟨_, h3⟩
        · exact absurd q3 n1
        · rcases set_cases h4 with ⟨q4, _, _⟩ | ⟨_, h4⟩
          · exact absurd q4 n2
          · exact h.dis j k m es fs h1 h2 h3 h4
/-- a list of a name's own is changed -/
theorem EnvOk.updM (h : EnvOk c H σ ρ) {i : Nat} {l : Addr} {xs ys : List V} {ds es : List D} (hi : σ[i]? = some (some (.ref l))) (hr : ρ[i]? = some (.own ds)) (hl : H l = some (.lst xs))
    (a : AtAll c.K c.T H ys es) (h0 : c.H0 l = none) : EnvOk c (upd H l (.lst ys)) σ (ρ.set i (.own es)) := by
  have st : Sta H (upd H l (.lst ys)) := Sta.upd hl
  refine ⟨fun b o q n => ?_, fun b q => ?_, by rw [List.length_set, h.len], fun j p t h1 h2 => ?_, fun j k m fs gs h1 h2 h3 h4 => ?_⟩
  · have : b ≠ l := fun z => by
      subst z
      rw [h0] at q
      cases q
    rw [upd_ne this]
    exact h.sm b o q n
  · by_cases hb : b = l
    · rw [hb]
      exact h0
    · rw [upd_ne hb] at q
      exact h.tr b q
  · rcases set_cases h2 with ⟨e2, _, rfl⟩ | ⟨e2, h2⟩
    · subst e2
      rw [hi] at h1
      cases h1
      exact ⟨l, ys, rfl, upd_same, AtAll.sta st _ _ a, h0⟩
    · have q := h.slot j p t h1 h2
      cases t with
      | no => trivial
      | val d =>
        obtain ⟨v, q1, q2⟩ := q
        exact ⟨v, q1, At.sta st _ _ q2⟩
      | own fs =>
        obtain ⟨m, zs, rfl, q2, q3, q4⟩ := q
        have : m ≠ l := fun z => by
          subst z
          exact e2 (h.dis i j m ds fs hi h1 hr h2)
        exact ⟨m, zs, rfl, by rw [upd_ne this]; exact q2, AtAll.sta st _ _ q3, q4⟩
      | self C fs =>
        obtain ⟨p, dx, gs, rfl, q2, q3, q4, q5⟩ := q
        have : p ≠ l := ne_of q2 hl (fun z => nomatch z)
        exact ⟨p, dx, gs, rfl, by rw [upd_ne this]; exact q2, q3, AtAll.sta st _ _ q4, q5⟩
      | opn a b ns gs =>
        obtain ⟨q1, ⟨vs, q2, q3⟩, ⟨ob, q4⟩, q5, q6⟩ := q
        have n1 : a ≠ l := fun z => q6 (by rw [z]; exact h0)
        exact ⟨q1, ⟨vs, by rw [upd_ne n1]; exact q2, AtAll.sta st _ _ q3⟩, ⟨ob, by rw [upd_ne (ne_of q4 hl (fun z => nomatch z))]; exact q4⟩, q5, q6⟩
      | exc a C od fs => exact ⟨q.1, ExAt.sta st q.2⟩
  · have h3' : ∃ fs', ρ[j]? = some (.own fs') := by
      rcases set_cases h3 with ⟨e, _, _⟩ | ⟨_, h3⟩
      · exact ⟨ds, by rw [← e]; exact hr⟩
      · exact ⟨fs, h3⟩
    have h4' : ∃ fs', ρ[k]? = some (.own fs') := by
      rcases set_cases h4 with ⟨e, _, _⟩ | ⟨_, h4⟩
      · exact ⟨ds, by rw [← e]; exact hr⟩
      · exact ⟨gs, h4⟩
    obtain ⟨_, h3'⟩ := h3'
    obtain ⟨_, h4'⟩ := h4'
    exact h.dis j k m _ _ h1 h2 h3' h4'
/-- a name's own list stands still from now on -/
theorem EnvOk.frzM (h : EnvOk c H σ ρ) {i : Nat} {l : Addr} {xs : List V} {ds : List D} {o : Obj} (hi : σ[i]? = some (some (.ref l))) (hr : ρ[i]? = some (.own ds)) (hl : H l = some (.lst xs))
    (a : AtAll c.K c.T H xs ds) (h0 : c.H0 l = none) : EnvOk c (upd H l (.frz o (.lst xs))) σ (ρ.set i (.val (.lst ds))) := by
  have st : Sta H (upd H l (.frz o (.lst xs))) := Sta.upd hl
  refine ⟨fun b o q n => ?_, fun b q => ?_, by rw [List.length_set, h.len], fun j p t h1 h2 => ?_, fun j k m fs gs h1 h2 h3 h4 => ?_⟩
  · have : b ≠ l := fun z => by
      subst z
      rw [h0] at q
      cases q
    rw [upd_ne this]
    exact h.sm b o q n
  · by_cases hb : b = l
    · rw [hb]
      exact h0
    · rw [upd_ne hb] at q
      exact h.tr b q
  · rcases set_cases h2 with ⟨e2, _, rfl⟩ | ⟨e2, h2⟩
    · subst e2
      rw [hi] at h1
      cases h1
      exact ⟨_, rfl, .lst upd_same (AtAll.sta st _ _ a)⟩
    · have q := h.slot j p t h1 h2
      cases t with
      | no => trivial
      | val d =>
        obtain ⟨v, q1, q2⟩ := q
        exact ⟨v, q1, At.sta st _ _ q2⟩
      | own fs =>
        obtain ⟨m, zs, rfl, q2, q3, q4⟩ := q
        have : m ≠ l := fun z => by
          subst z
          exact e2 (h.dis i j m ds fs hi h1 hr h2)
        exact ⟨m, zs, rfl, by rw [upd_ne this]; exact q2, AtAll.sta st _ _ q3, q4⟩
      | self C fs =>
        obtain ⟨p, dx, gs, rfl, q2, q3, q4, q5⟩ := q
        have : p ≠ l := ne_of q2 hl (fun z => nomatch z)
        exact ⟨p, dx, gs, rfl, by rw [upd_ne this]; exact q2, q3, AtAll.sta st _ _ q4, q5⟩
      | opn a b ns gs =>
        obtain ⟨q1, ⟨vs, q2, q3⟩, ⟨ob, q4⟩, q5, q6⟩ := q
        have n1 : a ≠ l := fun z => q6 (by rw [z]; exact h0)
        exact ⟨q1, ⟨vs, by rw [upd_ne n1]; exact q2, AtAll.sta st _ _ q3⟩, ⟨ob, by rw [upd_ne (ne_of q4 hl (fun z => nomatch z))]; exact q4⟩, q5, q6⟩
      | exc a C od fs => exact ⟨q.1, ExAt.sta st q.2⟩
  · rcases set_cases h3 with ⟨_, _, e⟩ | ⟨_, h3⟩
    · cases e
    · rcases set_cases h4 with ⟨_, _, e⟩ | ⟨_, h4⟩
      · cases e
      · exact h.dis j k m _ _ h1 h2 h3 h4
theorem EnvOk.opn (h : EnvOk c H σ ρ) {i : Nat} {a b : Addr} {ns : List Int} {ds : List D} (e : ρ[i]? = some (.opn a b ns ds)) :
    σ[i]? = some (some (.ref a)) ∧ (∃ vs, H a = some (.lst (.ref b :: vs)) ∧ AtAll c.K c.T H vs ds) ∧ (∃ ob, H b = some (.frz ob (.lst (ns.map V.int)))) ∧ c.W a ∧ c.H0 a ≠ none := by
  obtain ⟨o, h1, rfl, h2⟩ := h.get e
  exact ⟨h1, h2⟩
/-- the opened source is changed -/
theorem EnvOk.updO (h : EnvOk c H σ ρ) {i : Nat} {a b : Addr} {ns : List Int} {ds es : List D} {vs ws : List V} (hr : ρ[i]? = some (.opn a b ns ds)) (hl : H a = some (.lst (.ref b :: vs)))
    (m : AtAll c.K c.T H ws es) (hd : ∀ j a' b' ns' ds', ρ[j]? = some (.opn a' b' ns' ds') → j = i) : EnvOk c (upd H a (.lst (.ref b :: ws))) σ (ρ.set i (.opn a b ns es)) := by
  have st : Sta H (upd H a (.lst (.ref b :: ws))) := Sta.upd hl
  obtain ⟨g1, ⟨vs', g2, g3⟩, ⟨ob, g4⟩, g5, g6⟩ := h.opn hr
  refine ⟨fun b' o q n => ?_, fun b' q => ?_, by rw [List.length_set, h.len], fun j p t h1 h2 => ?_, fun j k m' fs gs h1 h2 h3 h4 => ?_⟩
  · have : b' ≠ a := fun z => n (by rw [z]; exact g5)
    rw [upd_ne this]
    exact h.sm b' o q n
  · by_cases hb : b' = a
    · subst hb
      rw [upd_same] at q
      cases q
    · rw [upd_ne hb] at q
      exact h.tr b' q
  · rcases set_cases h2 with ⟨e2, _, rfl⟩ | ⟨e2, h2⟩
    · subst e2
      rw [g1] at h1
      cases h1
      exact ⟨rfl, ⟨ws, upd_same, AtAll.sta st _ _ m⟩, ⟨ob, by rw [upd_ne (ne_of g4 hl (fun z => nomatch z))]; exact g4⟩, g5, g6⟩
    · have q := h.slot j p t h1 h2
      cases t with
      | no => trivial
      | val d =>
        obtain ⟨v, q1, q2⟩ := q
        exact ⟨v, q1, At.sta st _ _ q2⟩
      | own fs =>
        obtain ⟨l, zs, rfl, q2, q3, q4⟩ := q
        have : l ≠ a := fun z => g6 (by rw [← z]; exact q4)
        exact ⟨l, zs, rfl, by rw [upd_ne this]; exact q2, AtAll.sta st _ _ q3, q4⟩
      | self C fs =>
        obtain ⟨p, dx, gs, rfl, q2, q3, q4, q5⟩ := q
        exact ⟨p, dx, gs, rfl, by rw [upd_ne (ne_of q2 hl (fun z => nomatch z))]; exact q2, q3, AtAll.sta st _ _ q4, q5⟩
      | opn a' b' ns' gs => exact absurd (hd j a' b' ns' gs h2).symm e2
      | exc a C od fs => exact ⟨q.1, ExAt.sta st q.2⟩
  · rcases set_cases h3 with ⟨_, _, z⟩ | ⟨_, h3⟩
    · cases z
    · rcases set_cases h4 with ⟨_, _, z⟩ | ⟨_, h4⟩
      · cases z
      · exact h.dis j k m' fs gs h1 h2 h3 h4
end
end Z

/-! ZB: ghost steps (a list stands still from now on), the judgements over data, their rules. -/
namespace Z
open PySem PySem.Spec PyProof.Rows L2

/-! ### ghost steps -/
section
variable {X : Cx} {pins : List (Addr × Obj)} {σ : L2.St} {H : Hp} {s : Shared}
/-- a tracked list is told otherwise; the heap is as it is -/
theorem Inv.retag (I : Inv X pins σ H s) {p : Addr} {xs : List V} {o : HO} (e : H p = some (.lst xs)) (new : ObjOk X.prog X.w (upd H p o) s.heap p o) : Inv X pins σ (upd H p o) s := by
  have nt : ∀ b ys, H b = some (.tup ys) → b ≠ p := fun b ys q => ne_of q e (fun z => nomatch z)
  have nf : ∀ b ob u, H b = some (.frz ob u) → b ≠ p := fun b ob u q => ne_of q e (fun z => nomatch z)
  have no : ∀ b y, H b = some (.own y) → b ≠ p := fun b y q => ne_of q e (fun z => nomatch z)
  have nb : ∀ b ps, H b = some (.tbl ps) → b ≠ p := fun b ps q => ne_of q e (fun z => nomatch z)
  have nn : ∀ b, H b = none → b ≠ p := fun b q z => by rw [z, e] at q; cases q
  refine L2.Inv.un (h' := s.heap) (t' := s.toks) I ⟨fun b u q _ _ _ => q, fun b u q _ _ _ => ⟨u.slots, q⟩, fun b u q n _ => by rw [upd_ne (nn b n)]; exact n, fun b u q _ => ⟨u, q⟩,
    fun b ys q => by rw [upd_ne (nt b ys q)]; exact q, fun b ob u q => by rw [upd_ne (nf b ob u q)]; exact q, fun b ps q => ⟨#[], by rw [upd_ne (nb b ps q), q]; simp⟩⟩ fun b u q => ?_
  by_cases hb : b = p
  · subst hb
    rw [upd_same] at q
    cases q
    exact new
  · rw [upd_ne hb] at q
    exact (I.hok b u q).stay (fun c v _ q => q) (fun c q => by rw [upd_ne (no c b q)]; exact q) fun c ys q => by rw [upd_ne (nt c ys q)]; exact q
theorem lst_stay {P : Program} {w : World} {H H' : Hp} {h : Heap} {p : Addr} {xs : List V} (x : ObjOk P w H h p (.lst xs)) : ObjOk P w H' h p (.lst xs) := x
theorem Inv.frz (I : Inv X pins σ H s) {p : Addr} {xs : List V} (e : H p = some (.lst xs)) : ∃ o, Inv X pins σ (upd H p (.frz o (.lst xs))) s := by
  have x := I.hok p _ e
  obtain ⟨z, its, n, r, q⟩ := id x
  exact ⟨_, Inv.retag I e ⟨q, lst_stay x⟩⟩
end
/-- what e gives stands still from now on, if it is a new list -/
def tFz (te : TE) : TE := fun σ H Q => te σ H fun v H' =>
  (∀ p xs, v = .ref p → H p = none → H' p = some (.lst xs) → ∀ o, Q v (upd H' p (.frz o (.lst xs)))) ∧ ((∀ p xs, v = .ref p → H p = none → H' p ≠ some (.lst xs)) → Q v H')
/-- the list of a name stands still from now on -/
def tFzS (i : Nat) (t : TS) : TS := fun D σ H => ∃ p xs, σ[i]? = some (some (.ref p)) ∧ H p = some (.lst xs) ∧ ∀ o, t D σ (upd H p (.frz o (.lst xs)))
/-- a new list becomes a source of draws -/
def tSrc (te : TE) : TE := fun σ H Q => te σ H fun v H' => ∃ p b i c l t fl, v = .ref p ∧ H' p = some (.lst [.ref b, .int i, .int c, .int l, .int t, .bl fl]) ∧ 0 ≤ i ∧ Q v (upd H' p (.ext (srcP p b)))
section
variable {X : Cx} {e : Expr} {te : TE} {st : Stmt} {sts : List Stmt} {t : TS}
theorem pe_fz (he : PE X e te) : PE X e (tFz te) := by
  refine ⟨fun pins s σ H Q I h => thn (he.run pins s σ H _ I h) fun u s1 ⟨v, H1, I1, r, q1, q2⟩ => ?_⟩
  by_cases z : ∃ p xs, v = .ref p ∧ H p = none ∧ H1 p = some (.lst xs)
  · obtain ⟨p, xs, e1, e0, e2⟩ := z
    obtain ⟨o, J⟩ := Inv.frz I1 e2
    exact ⟨v, _, J, r, q1 p xs e1 e0 e2 o⟩
  · exact ⟨v, H1, I1, r, q2 fun p xs e1 e0 e2 => z ⟨p, xs, e1, e0, e2⟩⟩
theorem pe_src (he : PE X e te) : PE X e (tSrc te) := by
  refine ⟨fun pins s σ H Q I h => thn (he.run pins s σ H _ I h) fun u s1 ⟨v, H1, I1, r, p, b, i, c, l, t, fl, ev, e2, hi, q⟩ => ?_⟩
  subst ev
  have x := I1.hok p _ e2
  obtain ⟨z, its, n, rv, g⟩ := id x
  have new : ObjOk X.prog X.w (upd H1 p (.ext (srcP p b))) s1.heap p (.ext (srcP p b)) := by
    refine ⟨⟨its, n, i, c, l, t, fl, rv, g, hi⟩, ⟨_, g⟩, fun h1 h2 => ?_⟩
    rintro ⟨its, n, i, c, l, t, fl, rv, g, hi⟩ k
    exact ⟨its, n, i, c, l, t, fl, rv, k _ g, hi⟩
  exact ⟨.ref p, _, Inv.retag I1 e2 new, r, q⟩
theorem ps_fzs {i : Nat} (h : PS X st t) : PS X st (tFzS i t) := by
  refine ⟨fun pins s σ H D I ⟨p, xs, e1, e2, q⟩ => ?_⟩
  obtain ⟨o, J⟩ := Inv.frz I e2
  exact h.run pins s σ _ D J (q o)
theorem pss_fzs {i : Nat} (h : PSs X sts t) : PSs X sts (tFzS i t) := by
  refine ⟨fun pins s σ H D I ⟨p, xs, e1, e2, q⟩ => ?_⟩
  obtain ⟨o, J⟩ := Inv.frz I e2
  exact h.run pins s σ _ D J (q o)
end

/-! ### the judgements -/
/-- e gives data that stand still | something to be read now | a new list of its own -/
def DE (c : Cz) (ρ : List S) (te : TE) (Q : D → Prop) : Prop := ∀ σ H, EnvOk c H σ ρ → ∀ R : VK, (∀ v H' d, Same H H' → At c.K c.T H' v d → Q d → R v H') → te σ H R
def DR (c : Cz) (ρ : List S) (te : TE) (Q : D → Prop) : Prop := ∀ σ H, EnvOk c H σ ρ → ∀ R : VK, (∀ v H' d, Same H H' → RAt c.K c.T H' v d → Q d → R v H') → te σ H R
def DL (c : Cz) (ρ : List S) (te : TE) (Q : List D → Prop) : Prop :=
  ∀ σ H, EnvOk c H σ ρ → ∀ R : VK, (∀ p H' xs ds, H p = none → Same H H' → H' p = some (.lst xs) → AtAll c.K c.T H' xs ds → Q ds → R (.ref p) H') → te σ H R
def DT (c : Cz) (ρ : List S) (tt : TT) (Q : Bool → Prop) : Prop := ∀ σ H, EnvOk c H σ ρ → ∀ R : Bool → Hp → Prop, (∀ b H', Same H H' → Q b → R b H') → tt σ H R
def DA (c : Cz) (ρ : List S) (ta : TA) (Q : List D → Prop) : Prop := ∀ σ H, EnvOk c H σ ρ → ∀ R : List V → Hp → Prop, (∀ vs H' ds, Same H H' → AtAll c.K c.T H' vs ds → Q ds → R vs H') → ta σ H R
def fz : HO → Bool
  | .tup _ => true
  | .frz _ _ => true
  | _ => false
/-- what stands still is as it was -/
structure Fz (c : Cz) (H H' : Hp) : Prop where
  fz : ∀ a o, H a = some o → fz o = true → H' a = some o
  ak : ∀ v d, At c.K c.T H v d → At c.K c.T H' v d
section
variable {c : Cz} {H H' H1 H2 : Hp}
theorem Fz.of (h : Same H H') : Fz c H H' := ⟨fun a o e _ => h a o e, fun _ _ m => m.same h⟩
theorem Fz.refl (H : Hp) : Fz c H H := ⟨fun _ _ e _ => e, fun _ _ m => m⟩
theorem Fz.trans (a : Fz c H H1) (b : Fz c H1 H2) : Fz c H H2 := ⟨fun x o e s => b.fz x o (a.fz x o e s) s, fun v d m => b.ak v d (a.ak v d m)⟩
theorem Fz.upd {l : Addr} {xs : List V} {o : HO} (h : H l = some (.lst xs)) : Fz c H (L2.upd H l o) := ⟨fun a u e s => by
  have : a ≠ l := fun q => by
    subst q
    rw [h] at e
    cases e
    cases s
  rw [upd_ne this]
  exact e, fun v d m => At.sta (Sta.upd h) d v m⟩
end
/-! an object that is being made gets an attribute: no data lean on it yet -/
section
variable {K : PySem.W.Frag} {T : Tb} {H : Hp} {p C dx : Addr} {gs gs' : List (Str × V)}
mutual
theorem At.updI (h : H p = some (.ins C dx gs)) (n : gs.map (·.1) ≠ T C) : ∀ (d : D) (v : V), At K T H v d → At K T (upd H p (.ins C dx gs')) v d
  | .non, _, q => by cases q; exact .non
  | .bl b, _, q => by cases q; exact .bl b
  | .int i, _, q => by cases q; exact .int i
  | .str x, _, q => by cases q; exact .str x
  | .tup ds, _, q => by
    cases q with
    | tup h1 h2 => exact .tup (by rw [upd_ne (ne_of h1 h (fun z => nomatch z))]; exact h1) (AtAll.updI h n ds _ h2)
  | .lst ds, _, q => by
    cases q with
    | lst h1 h2 => exact .lst (by rw [upd_ne (ne_of h1 h (fun z => nomatch z))]; exact h1) (AtAll.updI h n ds _ h2)
  | .obj C' ds, _, q => by
    cases q with
    | @obj a _ dx' fs _ h1 h2 h3 h4 =>
      have : a ≠ p := fun z => by
        subst z
        rw [h] at h1
        cases h1
        exact n h2
      exact .obj (by rw [upd_ne this]; exact h1) h2 h3 (AtAll.updI h n ds _ h4)
  | .src, _, q => by
    cases q with
    | src h1 h2 => exact .src (by rw [upd_ne (ne_of h1 h (fun z => nomatch z))]; exact h1) (by rw [upd_ne (ne_of h2 h (fun z => nomatch z))]; exact h2)
  | .scr ns, _, q => by
    cases q with
    | scr h1 =>
      rcases h1 with ⟨o, h1⟩ | h1
      · exact .scr (.inl ⟨o, by rw [upd_ne (ne_of h1 h (fun z => nomatch z))]; exact h1⟩)
      · exact .scr (.inr h1)
theorem AtAll.updI (h : H p = some (.ins C dx gs)) (n : gs.map (·.1) ≠ T C) : ∀ (ds : List D) (vs : List V), AtAll K T H vs ds → AtAll K T (upd H p (.ins C dx gs')) vs ds
  | [], _, q => by cases q; exact .nil
  | d :: ds, _, q => by
    cases q with
    | cons h1 h2 => exact .cons (At.updI h n d _ h1) (AtAll.updI h n ds _ h2)
end
end
theorem Fz.updI {c : Cz} {H : Hp} {p C dx : Addr} {gs gs' : List (Str × V)} (h : H p = some (.ins C dx gs)) (n : gs.map (·.1) ≠ c.T C) : Fz c H (L2.upd H p (.ins C dx gs')) :=
  ⟨fun a u e s => by
    have : a ≠ p := fun q => by
      subst q
      rw [h] at e
      cases e
      cases s
    rw [upd_ne this]
    exact e, fun v d m => At.updI h n d v m⟩
/-- a statement: N behind it, Rt at a return, B at a break, C at a continue -/
def DS (c : Cz) (ρ : List S) (ts : TS) (N : List S → Prop) (Rt : D → List S → Prop) (B C : List S → Prop) : Prop :=
  ∀ σ H, EnvOk c H σ ρ → ∀ E : Ends, (∀ σ' H' ρ', Fz c H H' → EnvOk c H' σ' ρ' → N ρ' → E.nx σ' H') → (∀ v σ' H' d ρ', EnvOk c H' σ' ρ' → At c.K c.T H' v d → Rt d ρ' → E.rt v H') →
    (∀ σ' H' ρ', Fz c H H' → EnvOk c H' σ' ρ' → B ρ' → E.bk σ' H') → (∀ σ' H' ρ', Fz c H H' → EnvOk c H' σ' ρ' → C ρ' → E.ct σ' H') → ts E σ H

section
variable {c : Cz} {ρ : List S} {ta tb te tv : TE} {Q Q' : D → Prop}
theorem SameR (H : Hp) : Same H H := fun _ _ h => h
theorem sz_of {n : Nat} (h : n ≤ 100000) : n ≤ sizeLine := Nat.le_trans h (by decide)
theorem sz_lt {n : Nat} (h : n < 100000) : n < sizeLine := Nat.lt_of_lt_of_le h (by decide)
theorem de_mono (h : DE c ρ te Q) (k : ∀ d, Q d → Q' d) : DE c ρ te Q' := fun σ H I R r => h σ H I R fun v H' d e a q => r v H' d e a (k d q)
theorem dr_mono (h : DR c ρ te Q) (k : ∀ d, Q d → Q' d) : DR c ρ te Q' := fun σ H I R r => h σ H I R fun v H' d e a q => r v H' d e a (k d q)
theorem dr_de (h : DE c ρ te Q) : DR c ρ te Q := fun σ H I R r => h σ H I R fun v H' d e a q => r v H' d e (.at a) q
theorem dr_dl (h : DL c ρ te fun ds => Q (.lst ds)) : DR c ρ te Q := fun σ H I R r => h σ H I R fun p H' xs ds _ e e2 a q => r _ H' _ e (.lst e2 a) q

/-! names, constants -/
theorem de_var {i : Nat} {d : D} (e : ρ[i]? = some (.val d)) (q : Q d) : DE c ρ (tVar i) Q := fun σ H I R r => by
  obtain ⟨v, h1, h2⟩ := I.val e
  exact ⟨v, h1, r v H d (SameR H) h2 q⟩
theorem dr_var {i : Nat} {d : D} (e : ρ[i]? = some (.val d)) (q : Q d) : DR c ρ (tVar i) Q := dr_de (de_var e q)
theorem dr_own {i : Nat} {ds : List D} (e : ρ[i]? = some (.own ds)) (q : Q (.lst ds)) : DR c ρ (tVar i) Q := fun σ H I R r => by
  obtain ⟨l, xs, h1, h2, h3, _⟩ := I.own e
  exact ⟨_, h1, r _ H _ (SameR H) (.lst h2 h3) q⟩
theorem de_int {i : Int} (q : Q (.int i)) : DE c ρ (tC (.int i)) Q := fun σ H I R r => r _ H _ (SameR H) (.int i) q
theorem de_bl {i : Bool} (q : Q (.bl i)) : DE c ρ (tC (.bl i)) Q := fun σ H I R r => r _ H _ (SameR H) (.bl i) q
theorem de_str {i : Str} (q : Q (.str i)) : DE c ρ (tC (.str i)) Q := fun σ H I R r => r _ H _ (SameR H) (.str i) q
theorem de_non (q : Q .non) : DE c ρ (tC .non) Q := fun σ H I R r => r _ H _ (SameR H) .non q

/-! lists that stand still -/
theorem fz_dl (h : DL c ρ te fun ds => Q (.lst ds)) : DE c ρ (tFz te) Q := fun σ H I R r => h σ H I _ fun p H' xs ds hp e e2 a q => by
  refine ⟨fun p' xs' e3 _ e4 o => ?_, fun n => absurd e2 (n p xs rfl hp)⟩
  cases e3
  rw [e2] at e4
  cases e4
  have st : Sta H' (upd H' p (.frz o (.lst xs))) := Sta.upd e2
  refine r _ _ (.lst ds) (fun b u hb => ?_) (.lst upd_same (AtAll.sta st _ _ a)) q
  rw [upd_ne (ne_of_none hb hp)]
  exact e b u hb
theorem fz_de (h : DE c ρ te Q) : DE c ρ (tFz te) Q := fun σ H I R r => h σ H I _ fun v H' d e a q => by
  refine ⟨fun p xs e1 e0 e2 o => ?_, fun _ => r v H' d e a q⟩
  have st : Sta H' (upd H' p (.frz o (.lst xs))) := Sta.upd e2
  refine r v _ d (fun b u hb => ?_) (At.sta st _ _ a) q
  rw [upd_ne (ne_of_none hb e0)]
  exact e b u hb
end
end Z

/-! ZC: operators, comparisons, subscripts, slices, calls of built-ins over data. -/
namespace Z
open PySem PySem.Spec PyProof.Rows L2

/-! ### data without objects -/
mutual
def py : D → PyData
  | .non => .none
  | .bl b => .bool b
  | .int i => .int i
  | .str x => .str x
  | .tup ds => .tuple (pys ds)
  | .lst ds => .list (pys ds)
  | .obj _ _ => .none
  | .src => .none
  | .scr _ => .none
def pys : List D → List PyData
  | [] => []
  | d :: ds => py d :: pys ds
end
mutual
/-- no object within -/
def pu : D → Bool
  | .tup ds => pus ds
  | .lst ds => pus ds
  | .obj _ _ => false
  | .src => false
  | .scr _ => false
  | _ => true
def pus : List D → Bool
  | [] => true
  | d :: ds => pu d && pus ds
end
mutual
def dp : D → Nat
  | .tup ds => 1 + dps ds
  | .lst ds => 1 + dps ds
  | _ => 0
def dps : List D → Nat
  | [] => 0
  | d :: ds => max (dp d) (dps ds)
end
mutual
theorem py_plain : ∀ d : D, (py d).plain = true
  | .non => rfl
  | .bl b => rfl
  | .int i => rfl
  | .str x => rfl
  | .tup ds => by rw [py, PyData.plain]; exact pys_plain ds
  | .lst ds => by rw [py, PyData.plain]; exact pys_plain ds
  | .obj _ _ => rfl
  | .src => rfl
  | .scr _ => rfl
theorem pys_plain : ∀ ds : List D, PyData.plainAll (pys ds) = true
  | [] => rfl
  | d :: ds => by rw [pys, PyData.plainAll, py_plain d, pys_plain ds]; rfl
end
mutual
theorem py_depth : ∀ d : D, (py d).depth ≤ dp d + 1
  | .non => by simp [py, PyData.depth]
  | .bl b => by simp [py, PyData.depth]
  | .int i => by simp [py, PyData.depth]
  | .str x => by simp [py, PyData.depth]
  | .tup ds => by
    have := pys_depth ds
    simp only [py, PyData.depth, dp]
    omega
  | .lst ds => by
    have := pys_depth ds
    simp only [py, PyData.depth, dp]
    omega
  | .obj _ _ => by simp [py, PyData.depth]
  | .src => by simp [py, PyData.depth]
  | .scr _ => by simp [py, PyData.depth]
theorem pys_depth : ∀ ds : List D, PyData.depthAll (pys ds) ≤ dps ds + 1
  | [] => by simp [pys, PyData.depthAll]
  | d :: ds => by
    have := pys_depth ds
    have := py_depth d
    simp only [pys, PyData.depthAll, dps]
    omega
end
section
variable {K : PySem.W.Frag} {T : Tb} {H : Hp}
mutual
theorem At.dp : ∀ (d : D) (v : V), At K T H v d → pu d = true → Dp K H v (py d)
  | .non, _, h, _ => by cases h; exact .non
  | .bl b, _, h, _ => by cases h; exact .bl b
  | .int i, _, h, _ => by cases h; exact .int i
  | .str x, _, h, _ => by cases h; exact .str x
  | .tup ds, _, h, p => by
    cases h with
    | tup h1 h2 =>
      rw [pu] at p
      rw [py]
      exact .tup (SqT.of h1) (AtAll.dp ds _ h2 p)
  | .lst ds, _, h, p => by
    cases h with
    | lst h1 h2 =>
      rw [pu] at p
      rw [py]
      exact .lst (.inl (.inr ⟨_, h1⟩)) (AtAll.dp ds _ h2 p)
  | .obj _ _, _, _, p => by rw [pu] at p; cases p
  | .src, _, _, p => by rw [pu] at p; cases p
  | .scr _, _, _, p => by rw [pu] at p; cases p
theorem AtAll.dp : ∀ (ds : List D) (vs : List V), AtAll K T H vs ds → pus ds = true → DpAll K H vs (pys ds)
  | [], _, h, _ => by cases h; exact .nil
  | d :: ds, _, h, p => by
    cases h with
    | cons h1 h2 =>
      rw [pus, Bool.and_eq_true] at p
      exact .cons (At.dp d _ h1 p.1) (AtAll.dp ds _ h2 p.2)
end
theorem RAt.dp {d : D} {v : V} (h : RAt K T H v d) (p : pu d = true) : Dp K H v (py d) := by
  cases h with
  | «at» h => exact At.dp _ _ h p
  | lst h1 h2 =>
    rw [pu] at p
    rw [py]
    exact .lst (SqL.of h1) (AtAll.dp _ _ h2 p)
end

/-! ### operators by values -/
/-- ==, !=, <, <=, >, >= of data of any depth below 60 -/
def rP (f : PyData → PyData → Bool) (c : PyData → PyData → Prop) (K : PySem.W.Frag) : R2 := fun x y H Q => ∃ d e, Dp K H x d ∧ Dp K H y e ∧ d.plain = true ∧ e.plain = true ∧ min d.depth e.depth ≤ 64 ∧ c d e ∧ Q (.bl (f d e)) H
def rEqP : PySem.W.Frag → R2 := rP (fun d e => PyData.eqv d e) fun _ _ => True
def rNeP : PySem.W.Frag → R2 := rP (fun d e => !PyData.eqv d e) fun _ _ => True
def cLt (d e : PyData) : Prop := PySem.W.alike d e = true ∧ d ≠ .none
def rLtP : PySem.W.Frag → R2 := rP (fun d e => PySem.W.dataLt d e) cLt
def rLeP : PySem.W.Frag → R2 := rP (fun d e => !PySem.W.dataLt e d) cLt
def rGtP : PySem.W.Frag → R2 := rP (fun d e => PySem.W.dataLt e d) cLt
def rGeP : PySem.W.Frag → R2 := rP (fun d e => !PySem.W.dataLt d e) cLt
section
variable {X : Cx}
theorem opP {op : CmpOp} {f : PyData → PyData → Bool} {c : PyData → PyData → Prop} (hu : X.A.units + 64 < cLine)
    (rule : ∀ (s : Shared) (a b : Value) (d e : PyData) (as bs : List Addr) (Q : Value → Shared → Prop), Reads s.heap a d as → Reads s.heap b e bs → d.plain = true → e.plain = true → X.A.units + min d.depth e.depth < cLine → c d e → Q (.bool (f d e)) s →
      wpAny (model X.prog X.w) X.A (compareOp op a b) Q X.xe s) : OpR X (compareOp op) (rP f c X.K) := by
  intro pins s σ H x y v u Q I rx ry h
  obtain ⟨d, e, hd, he, pd, pe, hm, hc, q⟩ := h
  obtain ⟨as, r1⟩ := Dp.reads I d x v hd rx
  obtain ⟨bs, r2⟩ := Dp.reads I e y u he ry
  exact rule s v u d e as bs _ r1 r2 pd pe (by omega) hc ⟨.bl _, H, I, rfl, q⟩
theorem op_eqP (hu : X.A.units + 64 < cLine) : OpR X (compareOp .Eq) (rEqP X.K) := opP hu fun _ _ _ _ _ _ _ _ r1 r2 p1 p2 h _ q => SeqAt.eq_plain r1 r2 p1 p2 h q
theorem op_neP (hu : X.A.units + 64 < cLine) : OpR X (compareOp .NotEq) (rNeP X.K) := opP hu fun _ _ _ _ _ _ _ _ r1 r2 p1 p2 h _ q => SeqAt.ne_plain r1 r2 p1 p2 h q
theorem op_ltP (hu : X.A.units + 64 < cLine) : OpR X (compareOp .Lt) (rLtP X.K) := opP hu fun _ _ _ _ _ _ _ _ r1 r2 _ _ h c q => PySem.W.lt_data r1 r2 c.1 c.2 h q
theorem op_leP (hu : X.A.units + 64 < cLine) : OpR X (compareOp .LtE) (rLeP X.K) := opP hu fun _ _ _ _ _ _ _ _ r1 r2 _ _ h c q => PySem.W.le_data r1 r2 c.1 c.2 h q
theorem op_gtP (hu : X.A.units + 64 < cLine) : OpR X (compareOp .Gt) (rGtP X.K) := opP hu fun _ _ _ _ _ _ _ _ r1 r2 _ _ h c q => PySem.W.gt_data r1 r2 c.1 c.2 h q
theorem op_geP (hu : X.A.units + 64 < cLine) : OpR X (compareOp .GtE) (rGeP X.K) := opP hu fun _ _ _ _ _ _ _ _ r1 r2 _ _ h c q => PySem.W.ge_data r1 r2 c.1 c.2 h q
theorem OpR.or {f : Value → Value → Sem Value} {r r' : R2} (h : OpR X f r) (h' : OpR X f r') : OpR X f (fun x y H Q => r x y H Q ∨ r' x y H Q) :=
  fun pins s σ H x y v u Q I rx ry q => q.elim (h pins s σ H x y v u Q I rx ry) (h' pins s σ H x y v u Q I rx ry)
/-- ints, or any data -/
def rI0B (g : Int → Int → Bool) : R2 := rI0 fun i j => .bl (g i j)
def rOr (r r' : R2) : R2 := fun x y H Q => r x y H Q ∨ r' x y H Q
def rLtZ (K : PySem.W.Frag) : R2 := rOr (rI0B fun i j => decide (i < j)) (rLtP K)
def rLeZ (K : PySem.W.Frag) : R2 := rOr (rI0B fun i j => decide (i ≤ j)) (rLeP K)
def rGtZ (K : PySem.W.Frag) : R2 := rOr (rI0B fun i j => decide (j < i)) (rGtP K)
def rGeZ (K : PySem.W.Frag) : R2 := rOr (rI0B fun i j => decide (j ≤ i)) (rGeP K)
theorem op_ltZ (hu : X.A.units + 64 < cLine) : OpR X (compareOp .Lt) (rLtZ X.K) := OpR.or op_lt (op_ltP hu)
theorem op_leZ (hu : X.A.units + 64 < cLine) : OpR X (compareOp .LtE) (rLeZ X.K) := OpR.or op_le (op_leP hu)
theorem op_gtZ (hu : X.A.units + 64 < cLine) : OpR X (compareOp .Gt) (rGtZ X.K) := OpR.or op_gt (op_gtP hu)
theorem op_geZ (hu : X.A.units + 64 < cLine) : OpR X (compareOp .GtE) (rGeZ X.K) := OpR.or op_ge (op_geP hu)
/-- in, not in -/
def rInP (neg : Bool) (K : PySem.W.Frag) : R2 := fun x y H Q => ∃ d es, Dp K H x d ∧ (Dp K H y (.list es) ∨ Dp K H y (.tuple es)) ∧ d.plain = true ∧ PyData.plainAll es = true ∧ d.depth ≤ 63 ∧
  Q (.bl (if neg then !(es.any fun y => PyData.eqv y d) else es.any fun y => PyData.eqv y d)) H
theorem op_inP (hu : X.A.units + 64 < cLine) : OpR X (compareOp .In) (rInP false X.K) := by
  intro pins s σ H x y v u Q I rx ry h
  obtain ⟨d, es, hd, he, pd, pe, hm, q⟩ := h
  obtain ⟨as, r1⟩ := Dp.reads I d x v hd rx
  rcases he with he | he
  · obtain ⟨bs, r2⟩ := Dp.reads I _ y u he ry
    exact SeqAt.in_list_data r2 r1 pe pd (by omega) ⟨.bl _, H, I, rfl, q⟩
  · obtain ⟨bs, r2⟩ := Dp.reads I _ y u he ry
    exact SeqAt.in_tuple_data r2 r1 pe pd (by omega) ⟨.bl _, H, I, rfl, q⟩
theorem op_niP (hu : X.A.units + 64 < cLine) : OpR X (compareOp .NotIn) (rInP true X.K) := by
  intro pins s σ H x y v u Q I rx ry h
  obtain ⟨d, es, hd, he, pd, pe, hm, q⟩ := h
  obtain ⟨as, r1⟩ := Dp.reads I d x v hd rx
  rcases he with he | he
  · obtain ⟨bs, r2⟩ := Dp.reads I _ y u he ry
    exact SeqAt.notIn_list_data r2 r1 pe pd (by omega) ⟨.bl _, H, I, rfl, q⟩
  · obtain ⟨bs, r2⟩ := Dp.reads I _ y u he ry
    exact SeqAt.notIn_tuple_data r2 r1 pe pd (by omega) ⟨.bl _, H, I, rfl, q⟩
/-- list + list, two lists that may be read -/
def rCatR : R2 := fun x y H Q => ∃ l b xs zs, x = .ref l ∧ y = .ref b ∧ Rd H l (.lst xs) ∧ Rd H b (.lst zs) ∧ xs.length + zs.length ≤ sizeLine ∧ ∀ p, H p = none → Q (.ref p) (upd H p (.lst (xs ++ zs)))
theorem op_catR : OpR X (binaryOp .Add) rCatR := by
  intro pins s σ H x y v u Q I rx ry h
  obtain ⟨l, b, xs, zs, rfl, rfl, hH, hB, hz, q⟩ := h
  cases rx
  cases ry
  obtain ⟨z, its, n, r, e⟩ := hH.ok I.hok
  obtain ⟨z2, its2, n2, r2, e2⟩ := hB.ok I.hok
  have hl := r.length
  have hl2 := r2.length
  refine PySem.P.add_list e e2 ?_ (by rw [List.size_toArray, List.size_toArray]; omega)
  have ea : its.toArray ++ its2.toArray = (its ++ its2).toArray := by simp
  rw [ea]
  exact ⟨.ref _, _, I.lnew (t' := s.toks) (r.append r2) (by rw [List.length_append]; omega), rfl, q _ I.fresh⟩
def rAddS0 : R2 := fun x y H Q => ∃ i j, x = .str i ∧ y = .str j ∧ i.length + j.length ≤ sizeLine ∧ Q (.str (i ++ j)) H
def rAddI : R2 := rI0 fun i j => .int (i + j)
def rAddZ (K : PySem.W.Frag) : R2 := rOr rAddI (rOr (rCatA K) (rOr rAddS0 rCatR))
theorem op_addZ : OpR X (binaryOp .Add) (rAddZ X.K) := OpR.or op_add (OpR.or op_catA (OpR.or op_add_str op_catR))
def rSubZ : R2 := rI0 fun i j => .int (i - j)
theorem op_subZ : OpR X (binaryOp .Sub) rSubZ := op_sub
def rMulI : R2 := rI CMul fun i j => .int (i * j)
def rMulW : R2 := rI CMulW fun i j => .int (i * j)
def rMulZ : R2 := rOr rMulI (rOr rMulW rRep)
theorem op_mulZ : OpR X (binaryOp .Mult) rMulZ := OpR.or op_mul (OpR.or op_mulW op_rep)
def rDivZ : R2 := rI CDivW fun i j => .int (i / j)
theorem op_divZ : OpR X (binaryOp .FloorDiv) rDivZ := op_fdivW
def rModZ : R2 := rI (fun _ j => 0 < j) fun i j => .int (i % j)
theorem op_modZ : OpR X (binaryOp .Mod) rModZ := op_mod
def rPowZ : R2 := rI CPow fun i j => .int (i ^ j.toNat)
theorem op_powZ : OpR X (binaryOp .Pow) rPowZ := op_pow
end

/-! ### what they give on data -/
section
variable {c : Cz} {ρ : List S} {ta tb te tv tc : TE} {Q Q' : D → Prop}
/-- by values: r on readable data gives data -/
theorem de_op {r : R2} {F : D → D → (D → Prop) → Prop} (hr : ∀ H x y a b (P : D → Prop) (R : VK), RAt c.K c.T H x a → RAt c.K c.T H y b → F a b P → (∀ v H' d, Same H H' → At c.K c.T H' v d → P d → R v H') → r x y H R)
    (h : DR c ρ ta fun a => DR c ρ tb fun b => F a b Q) : DE c ρ (tOp r ta tb) Q := fun σ H I R k => h σ H I _ fun x H1 a e1 r1 q1 => q1 σ H1 (I.same e1) _ fun y H2 b e2 r2 q2 =>
  hr H2 x y a b Q R (r1.same e2) r2 q2 fun v H' d e3 m p => k v H' d ((e1.trans e2).trans e3) m p
theorem dl_op {r : R2} {F : D → D → (List D → Prop) → Prop} {QL : List D → Prop}
    (hr : ∀ H x y a b (P : List D → Prop) (R : VK), RAt c.K c.T H x a → RAt c.K c.T H y b → F a b P → (∀ p H' xs ds, H p = none → Same H H' → H' p = some (.lst xs) → AtAll c.K c.T H' xs ds → P ds → R (.ref p) H') → r x y H R)
    (h : DR c ρ ta fun a => DR c ρ tb fun b => F a b QL) : DL c ρ (tOp r ta tb) QL := fun σ H I R k => h σ H I _ fun x H1 a e1 r1 q1 => q1 σ H1 (I.same e1) _ fun y H2 b e2 r2 q2 =>
  hr H2 x y a b QL R (r1.same e2) r2 q2 fun p H' xs ds hp e3 m at' q => k p H' xs ds ((e1.trans e2).free hp) ((e1.trans e2).trans e3) m at' q
def FI (C : Int → Int → Prop) (g : Int → Int → Int) (a b : D) (Q : D → Prop) : Prop := ∃ i j, a = .int i ∧ b = .int j ∧ C i j ∧ Q (.int (g i j))
theorem opI_D {C : Int → Int → Prop} {g : Int → Int → Int} (H : Hp) (x y : V) (a b : D) (P : D → Prop) (R : VK) (hx : RAt c.K c.T H x a) (hy : RAt c.K c.T H y b) (h : FI C g a b P) (k : ∀ v H' d, Same H H' → At c.K c.T H' v d → P d → R v H') :
    rI C (fun i j => .int (g i j)) x y H R := by
  obtain ⟨i, j, rfl, rfl, hc, q⟩ := h
  exact ⟨i, j, hx.int, hy.int, hc, k _ H _ (SameR H) (.int _) q⟩
theorem de_sub (h : DR c ρ ta fun a => DR c ρ tb fun b => ∃ i j, a = .int i ∧ b = .int j ∧ Q (.int (i - j))) : DE c ρ (tOp rSubZ ta tb) Q :=
  de_op (F := fun a b Q => ∃ i j, a = .int i ∧ b = .int j ∧ Q (.int (i - j))) (fun H x y a b P R hx hy ⟨i, j, h1, h2, q⟩ k => by subst h1 h2; exact ⟨i, j, hx.int, hy.int, k _ H _ (SameR H) (.int _) q⟩) h
theorem de_mul (h : DR c ρ ta fun a => DR c ρ tb fun b => ∃ i j, a = .int i ∧ b = .int j ∧ (CMul i j ∨ CMulW i j) ∧ Q (.int (i * j))) : DE c ρ (tOp rMulZ ta tb) Q :=
  de_op (F := fun a b Q => ∃ i j, a = .int i ∧ b = .int j ∧ (CMul i j ∨ CMulW i j) ∧ Q (.int (i * j))) (fun H x y a b P R hx hy ⟨i, j, h1, h2, hc, q⟩ k => by
    subst h1 h2
    rcases hc with hc | hc
    · exact .inl ⟨i, j, hx.int, hy.int, hc, k _ H _ (SameR H) (.int _) q⟩
    · exact .inr (.inl ⟨i, j, hx.int, hy.int, hc, k _ H _ (SameR H) (.int _) q⟩)) h
theorem de_div (h : DR c ρ ta fun a => DR c ρ tb fun b => FI CDivW (· / ·) a b Q) : DE c ρ (tOp rDivZ ta tb) Q := de_op opI_D h
theorem de_mod (h : DR c ρ ta fun a => DR c ρ tb fun b => FI (fun _ j => 0 < j) (· % ·) a b Q) : DE c ρ (tOp rModZ ta tb) Q := de_op opI_D h
theorem de_pow (h : DR c ρ ta fun a => DR c ρ tb fun b => FI CPow (fun i j => i ^ j.toNat) a b Q) : DE c ρ (tOp rPowZ ta tb) Q := de_op opI_D h
/-- +: ints, tuples, texts -/
def FAdd : D → D → (D → Prop) → Prop
  | .int i, .int j, Q => Q (.int (i + j))
  | .tup a, .tup b, Q => a.length + b.length ≤ 100000 ∧ Q (.tup (a ++ b))
  | .str a, .str b, Q => a.length + b.length ≤ 100000 ∧ Q (.str (a ++ b))
  | _, _, _ => False
theorem de_add (h : DR c ρ ta fun a => DR c ρ tb fun b => FAdd a b Q) : DE c ρ (tOp (rAddZ c.K) ta tb) Q :=
  de_op (F := FAdd) (fun H x y a b P R hx hy h k => by
    unfold FAdd at h
    split at h
    · exact .inl ⟨_, _, hx.int, hy.int, k _ H _ (SameR H) (.int _) h⟩
    · obtain ⟨hz, q⟩ := h
      obtain ⟨p, xs, rfl, h1, h2⟩ := hx.tup
      obtain ⟨p', ys, rfl, h3, h4⟩ := hy.tup
      have l1 := h2.length
      have l2 := h4.length
      refine .inr (.inl ⟨p, p', xs, ys, rfl, rfl, SqT.of h1, SqT.of h3, by rw [l1, l2]; exact sz_of hz, fun e => ?_, fun _ e => ?_, fun _ _ z hz => ?_⟩)
      · subst e
        cases h2
        exact k _ H _ (SameR H) (.tup h3 h4) q
      · subst e
        cases h4
        rw [List.append_nil] at q
        exact k _ H _ (SameR H) (.tup h1 h2) q
      · have sm := Same.new (H := H) (o := .tup (xs ++ ys)) hz
        exact k _ _ _ sm (.tup upd_same ((h2.same sm).append (h4.same sm))) q
    · obtain ⟨hz, q⟩ := h
      exact .inr (.inr (.inl ⟨_, _, hx.str, hy.str, sz_of hz, k _ H _ (SameR H) (.str _) q⟩))
    · exact h.elim) h
/-- list + list -/
theorem dl_add {QL : List D → Prop} (h : DR c ρ ta fun a => DR c ρ tb fun b => ∃ xs ys, a = .lst xs ∧ b = .lst ys ∧ xs.length + ys.length ≤ 100000 ∧ QL (xs ++ ys)) : DL c ρ (tOp (rAddZ c.K) ta tb) QL :=
  dl_op (F := fun a b Q => ∃ xs ys, a = .lst xs ∧ b = .lst ys ∧ xs.length + ys.length ≤ 100000 ∧ Q (xs ++ ys)) (fun H x y a b P R hx hy ⟨as, bs, h1, h2, hz, q⟩ k => by
    subst h1 h2
    obtain ⟨p, xs, rfl, h1, h2⟩ := hx.rd
    obtain ⟨p', ys, rfl, h3, h4⟩ := hy.rd
    have l1 := h2.length
    have l2 := h4.length
    refine .inr (.inr (.inr ⟨p, p', xs, ys, rfl, rfl, h1, h3, by rw [l1, l2]; exact sz_of hz, fun z hz => ?_⟩))
    have sm := Same.new (H := H) (o := .lst (xs ++ ys)) hz
    exact k _ _ _ _ hz sm upd_same ((h2.same sm).append (h4.same sm)) q) h
/-- [x] * n -/
theorem flat_at {H : Hp} {x : V} {d : D} (h : At c.K c.T H x d) : ∀ n : Nat, AtAll c.K c.T H (List.replicate n [x]).flatten (List.replicate n d)
  | 0 => .nil
  | n + 1 => by
    rw [List.replicate_succ, List.replicate_succ, List.flatten_cons]
    exact .cons h (flat_at h n)
theorem dl_rep {ta' : TA} {QL : List D → Prop} (h : DE c ρ ta fun a => DR c ρ tb fun b => ∃ n, b = .int n ∧ 0 ≤ n ∧ n ≤ 100000 ∧ QL (List.replicate n.toNat a)) : DL c ρ (tOp rMulZ (tLst (tCons ta tNil)) tb) QL := fun σ H I R k =>
  h σ H I _ fun x H1 a e1 m1 q1 => ⟨(by show 1 ≤ sizeLine; decide), fun p hp => by
    have sm := Same.new (H := H1) (o := .lst [x]) hp
    refine q1 σ _ (I.same (e1.trans sm)) _ fun y H2 b e2 r2 q2 => ?_
    obtain ⟨n, rfl, h0, h1, q⟩ := q2
    refine .inr (.inr ⟨p, n, [x], rfl, r2.int, e2 _ _ upd_same, by omega, by omega, ?_, fun p' hp' => ?_⟩)
    · show 1 * n.toNat ≤ sizeLine
      rw [Nat.one_mul]
      exact sz_of (by omega)
    · have sm' := Same.new (H := H2) (o := .lst (List.replicate n.toNat [x]).flatten) hp'
      have ee : Same H (upd H2 p' (.lst (List.replicate n.toNat [x]).flatten)) := ((e1.trans sm).trans e2).trans sm'
      exact k p' _ _ _ (((e1.trans sm).trans e2).free hp') ee upd_same (flat_at (((m1.same sm).same e2).same sm') _) q⟩

/-! comparisons -/
def FEq (f : Bool → Bool) : D → D → (D → Prop) → Prop
  | .int i, .int j, Q => Q (.bl (f (decide (i = j))))
  | .bl i, .bl j, Q => Q (.bl (f (decide (i = j))))
  | .str i, .str j, Q => Q (.bl (f (decide (i = j))))
  | a, b, Q => pu a = true ∧ pu b = true ∧ dp a ≤ 60 ∧ Q (.bl (f (PyData.eqv (py a) (py b))))
theorem FEq_py {f : Bool → Bool} {a b : D} (h : FEq f a b Q) : pu a = true ∧ pu b = true ∧ dp a ≤ 60 ∧ Q (.bl (f (PyData.eqv (py a) (py b)))) := by
  unfold FEq at h
  split at h
  · refine ⟨rfl, rfl, (by simp [dp]), ?_⟩
    have e : ∀ i j : Int, PyData.eqv (py (.int i)) (py (.int j)) = decide (i = j) := fun i j => by rw [py, py, PyData.eqv, Bool.beq_eq_decide_eq]
    rw [e]
    exact h
  · refine ⟨rfl, rfl, (by simp [dp]), ?_⟩
    have e : ∀ i j : Bool, PyData.eqv (py (.bl i)) (py (.bl j)) = decide (i = j) := fun i j => by rw [py, py, PyData.eqv, Bool.beq_eq_decide_eq]
    rw [e]
    exact h
  · refine ⟨rfl, rfl, (by simp [dp]), ?_⟩
    have e : ∀ i j : Str, PyData.eqv (py (.str i)) (py (.str j)) = decide (i = j) := fun i j => by rw [py, py, PyData.eqv, Bool.beq_eq_decide_eq]
    rw [e]
    exact h
  · exact h
theorem dpt (d : D) (h : dp d ≤ 60) (e : PyData) : min (py d).depth e.depth ≤ 64 := by
  have := py_depth d
  omega
theorem de_eq (h : DR c ρ ta fun a => DR c ρ tb fun b => FEq id a b Q) : DE c ρ (tOp (rEqP c.K) ta tb) Q :=
  de_op (F := FEq id) (fun H x y a b P R hx hy h k => by
    obtain ⟨h1, h2, h3, q⟩ := FEq_py h
    exact ⟨_, _, hx.dp h1, hy.dp h2, py_plain _, py_plain _, dpt _ h3 _, trivial, k _ H _ (SameR H) (.bl _) q⟩) h
theorem de_ne (h : DR c ρ ta fun a => DR c ρ tb fun b => FEq not a b Q) : DE c ρ (tOp (rNeP c.K) ta tb) Q :=
  de_op (F := FEq not) (fun H x y a b P R hx hy h k => by
    obtain ⟨h1, h2, h3, q⟩ := FEq_py h
    exact ⟨_, _, hx.dp h1, hy.dp h2, py_plain _, py_plain _, dpt _ h3 _, trivial, k _ H _ (SameR H) (.bl _) q⟩) h
def FCmp (g : Int → Int → Bool) (f : PyData → PyData → Bool) : D → D → (D → Prop) → Prop
  | .int i, .int j, Q => Q (.bl (g i j))
  | a, b, Q => pu a = true ∧ pu b = true ∧ dp a ≤ 60 ∧ cLt (py a) (py b) ∧ Q (.bl (f (py a) (py b)))
theorem cmp_D {g : Int → Int → Bool} {f : PyData → PyData → Bool} (H : Hp) (x y : V) (a b : D) (P : D → Prop) (R : VK) (hx : RAt c.K c.T H x a) (hy : RAt c.K c.T H y b) (h : FCmp g f a b P) (k : ∀ v H' d, Same H H' → At c.K c.T H' v d → P d → R v H') :
    rOr (rI0B g) (rP f cLt c.K) x y H R := by
  unfold FCmp at h
  split at h
  · exact .inl ⟨_, _, hx.int, hy.int, k _ H _ (SameR H) (.bl _) h⟩
  · obtain ⟨h1, h2, h3, h4, q⟩ := h
    exact .inr ⟨_, _, hx.dp h1, hy.dp h2, py_plain _, py_plain _, dpt _ h3 _, h4, k _ H _ (SameR H) (.bl _) q⟩
abbrev FLt : D → D → (D → Prop) → Prop := FCmp (fun i j => decide (i < j)) fun d e => PySem.W.dataLt d e
abbrev FLe : D → D → (D → Prop) → Prop := FCmp (fun i j => decide (i ≤ j)) fun d e => !PySem.W.dataLt e d
abbrev FGt : D → D → (D → Prop) → Prop := FCmp (fun i j => decide (j < i)) fun d e => PySem.W.dataLt e d
abbrev FGe : D → D → (D → Prop) → Prop := FCmp (fun i j => decide (j ≤ i)) fun d e => !PySem.W.dataLt d e
theorem de_lt (h : DR c ρ ta fun a => DR c ρ tb fun b => FLt a b Q) : DE c ρ (tOp (rLtZ c.K) ta tb) Q := de_op cmp_D h
theorem de_le (h : DR c ρ ta fun a => DR c ρ tb fun b => FLe a b Q) : DE c ρ (tOp (rLeZ c.K) ta tb) Q := de_op cmp_D h
theorem de_gt (h : DR c ρ ta fun a => DR c ρ tb fun b => FGt a b Q) : DE c ρ (tOp (rGtZ c.K) ta tb) Q := de_op cmp_D h
theorem de_ge (h : DR c ρ ta fun a => DR c ρ tb fun b => FGe a b Q) : DE c ρ (tOp (rGeZ c.K) ta tb) Q := de_op cmp_D h
theorem eqv_int (i j : Int) : PyData.eqv (.int i) (.int j) = decide (i = j) := by rw [PyData.eqv, Bool.beq_eq_decide_eq]
theorem pys_ints : ∀ is : List Int, pys (is.map D.int) = is.map PyData.int
  | [] => rfl
  | i :: is => by rw [List.map_cons, pys, pys_ints is]; rfl
theorem pus_ints : ∀ is : List Int, pus (is.map D.int) = true
  | [] => rfl
  | i :: is => by rw [List.map_cons, pus, pus_ints is]; rfl
theorem any_ints (i : Int) : ∀ is : List Int, ((is.map PyData.int).any fun y => PyData.eqv y (.int i)) = decide (i ∈ is)
  | [] => rfl
  | j :: is => by
    rw [List.map_cons, List.any_cons, any_ints i is, eqv_int]
    by_cases h : j = i
    · subst h
      simp
    · have h' : ¬ i = j := fun e => h e.symm
      simp [h, h']
/-- an int in a list or tuple of ints -/
theorem de_in {neg : Bool} (h : DR c ρ ta fun a => DR c ρ tb fun b => ∃ (i : Int) (is : List Int), a = .int i ∧ (b = .lst (is.map D.int) ∨ b = .tup (is.map D.int)) ∧ Q (.bl (if neg then !decide (i ∈ is) else decide (i ∈ is)))) : DE c ρ (tOp (rInP neg c.K) ta tb) Q :=
  de_op (F := fun a b Q => ∃ (i : Int) (is : List Int), a = .int i ∧ (b = .lst (is.map D.int) ∨ b = .tup (is.map D.int)) ∧ Q (.bl (if neg then !decide (i ∈ is) else decide (i ∈ is)))) (fun H x y a b P R hx hy ⟨i, is, h1, h2, q⟩ k => by
    subst h1
    refine ⟨.int i, is.map PyData.int, hx.dp rfl, ?_, rfl, by rw [← pys_ints]; exact pys_plain _, by simp [PyData.depth], ?_⟩
    · rcases h2 with rfl | rfl
      · have z := hy.dp (by rw [pu]; exact pus_ints is)
        rw [py, pys_ints] at z
        exact .inl z
      · have z := hy.dp (by rw [pu]; exact pus_ints is)
        rw [py, pys_ints] at z
        exact .inr z
    · rw [any_ints]
      exact k _ H _ (SameR H) (.bl _) q) h
end
end Z

/-! ZD: places, slices, calls of built-ins, tests, displays, fields, calls of defs. -/
namespace Z
open PySem PySem.Spec PyProof.Rows L2

/-! ### rules by name -/
section
variable {X : Cx}
def rLenZ (K : PySem.W.Frag) : List V → Hp → VK → Prop := fun xs H Q => ∃ p ys, xs = [.ref p] ∧ (SqL K H p ys ∨ SqT K H p ys) ∧ Q (.int ys.length) H
theorem call_lenZ : CallR X (.builtin "len") (rLenZ X.K) := call_len_seq
def rListZ (K : PySem.W.Frag) : List V → Hp → VK → Prop := fun xs H Q => ∃ p ys, xs = [.ref p] ∧ (SqL K H p ys ∨ SqT K H p ys) ∧ ∀ l, H l = none → Q (.ref l) (upd H l (.lst ys))
theorem call_listZ : CallR X (.type "list") (rListZ X.K) := call_list_of
def rTupZ (K : PySem.W.Frag) : List V → Hp → VK → Prop := fun xs H Q => ∃ p ys, xs = [.ref p] ∧ ((SqL K H p ys ∧ ∀ l, H l = none → Q (.ref l) (upd H l (.tup ys))) ∨ (SqT K H p ys ∧ Q (.ref p) H))
theorem call_tupZ : CallR X (.type "tuple") (rTupZ X.K) := call_tuple_of
def rIntZ : List V → Hp → VK → Prop := fun xs H Q => (∃ i, xs = [.int i] ∧ Q (.int i) H) ∨ ∃ k, xs = [.bl k] ∧ Q (.int (if k then 1 else 0)) H
theorem call_intZ : CallR X (.type "int") rIntZ := call_int1
def rBoolZ : List V → Hp → VK → Prop := fun xs H Q => (∃ i, xs = [.int i] ∧ Q (.bl (i != 0)) H) ∨ ∃ k, xs = [.bl k] ∧ Q (.bl k) H
theorem call_boolZ : CallR X (.type "bool") rBoolZ := call_bool1
def rSlZ (K : PySem.W.Frag) : V → Option Int → Option Int → Hp → VK → Prop := fun x lo hi H Q => rSlL K x lo hi H Q ∨ rSlA K x lo hi H Q
theorem sl_Z : SlR X (rSlZ X.K) := fun pins s σ H x v vl vu lo hi sl Q I rx hs pl pu h => h.elim (sl_list pins s σ H x v vl vu lo hi sl Q I rx hs pl pu) (sl_tupA pins s σ H x v vl vu lo hi sl Q I rx hs pl pu)
theorem ix_Z : IxR X (rIx X.K) := ix_seq
theorem pt_truZ {a : Expr} {ta : TE} (ha : PE X a ta) (he : ∀ whole, isTrue a X.env whole = (do let v ← whole; standAt a.pos; holding [v] (truthy v))) : PT X a (tTru X.K ta) := pt_truth ha he
def rInsert : V → List V → Hp → VK → Prop := fun x vs H Q => ∃ (l : Addr) (xs : List V) (i : Int) (y : V), x = .ref l ∧ vs = [.int i, y] ∧ H l = some (.lst xs) ∧ xs.length < sizeLine ∧ 0 ≤ i ∧ i < 2 ^ 63 ∧
    Q .non (upd H l (.lst (xs.take i.toNat ++ [y] ++ xs.drop i.toNat)))
end

/-! ### on data -/
section
variable {c : Cz} {ρ : List S} {ta tb te tv tc : TE} {tr : TA} {tt uu : TT} {Q : D → Prop} {QL : List D → Prop} {QB : Bool → Prop}
theorem da_nil (q : QL []) : DA c ρ tNil QL := fun σ H I R k => k [] H [] (SameR H) .nil q
theorem da_cons (h : DE c ρ ta fun d => DA c ρ tr fun ds => QL (d :: ds)) : DA c ρ (tCons ta tr) QL := fun σ H I R k => h σ H I _ fun v H1 d e1 a1 q1 => q1 σ H1 (I.same e1) _ fun vs H2 ds e2 a2 q2 =>
  k (v :: vs) H2 (d :: ds) (e1.trans e2) (.cons (a1.same e2) a2) q2
theorem de_tup (h : DA c ρ tr fun ds => ds.length ≤ 100000 ∧ Q (.tup ds)) : DE c ρ (tTup tr) Q := fun σ H I R k => h σ H I _ fun vs H1 ds e1 a1 ⟨hz, q⟩ => ⟨by rw [a1.length]; exact sz_of hz, fun p hp => by
  have sm := Same.new (H := H1) (o := .tup vs) hp
  exact k _ _ _ (e1.trans sm) (.tup upd_same (a1.same sm)) q⟩
theorem dl_lst (h : DA c ρ tr fun ds => ds.length ≤ 100000 ∧ QL ds) : DL c ρ (tLst tr) QL := fun σ H I R k => h σ H I _ fun vs H1 ds e1 a1 ⟨hz, q⟩ => ⟨by rw [a1.length]; exact sz_of hz, fun p hp => by
  have sm := Same.new (H := H1) (o := .lst vs) hp
  exact k p _ vs ds (e1.free hp) (e1.trans sm) upd_same (a1.same sm) q⟩
/-! a place -/
theorem atI_rel {K : PySem.W.Frag} {T : Tb} {H : Hp} {vs : List V} {ds : List D} {i : Int} {d : D} (a : AtAll K T H vs ds) (h : atI ds i = some d) : ∃ v, atI vs i = some v ∧ At K T H v d := by
  unfold atI at h ⊢
  rw [a.length]
  cases e : ixN ds.length i with
  | none => rw [e] at h; cases h
  | some j =>
    rw [e] at h
    exact a.get h
def FIx : D → D → (D → Prop) → Prop
  | .lst ds, .int i, Q => ∃ d, atI ds i = some d ∧ Q d
  | .tup ds, .int i, Q => ∃ d, atI ds i = some d ∧ Q d
  | _, _, _ => False
theorem de_ix (h : DR c ρ ta fun a => DR c ρ tb fun b => FIx a b Q) : DE c ρ (tOp (rIx c.K) ta tb) Q :=
  de_op (F := FIx) (fun H x y a b P R hx hy h k => by
    unfold FIx at h
    split at h
    · obtain ⟨d, h1, q⟩ := h
      obtain ⟨p, xs, rfl, h2, h3⟩ := hx.sq
      obtain ⟨v, h4, h5⟩ := atI_rel h3 h1
      exact .inl ⟨p, xs, _, v, rfl, hy.int, h2, h4, k v H d (SameR H) h5 q⟩
    · obtain ⟨d, h1, q⟩ := h
      obtain ⟨p, xs, rfl, h2, h3⟩ := hx.tup
      obtain ⟨v, h4, h5⟩ := atI_rel h3 h1
      exact .inr (.inl ⟨p, xs, _, v, rfl, hy.int, SqT.of h2, h4, k v H d (SameR H) h5 q⟩)
    · exact h.elim) h
/-! slices -/
def DO (c : Cz) (ρ : List S) (to : TO) (Q : Option Int → Prop) : Prop := ∀ σ H, EnvOk c H σ ρ → ∀ R : Option Int → Hp → Prop, (∀ o H', Same H H' → Q o → R o H') → to σ H R
theorem do_none {Q : Option Int → Prop} (q : Q none) : DO c ρ tNoPart Q := fun σ H I R k => k none H (SameR H) q
theorem do_some {Q : Option Int → Prop} (h : DR c ρ te fun d => ∃ i, d = .int i ∧ Q (some i)) : DO c ρ (tPart te) Q := fun σ H I R k => h σ H I _ fun v H1 d e a ⟨i, e1, q⟩ => by
  subst e1
  exact ⟨i, a.int, k _ H1 e q⟩
def cutD {α : Type} (xs : List α) (lo hi : Option Int) : List α := (xs.drop (HT.sIx xs.length 0 lo)).take (HT.sIx xs.length xs.length hi - HT.sIx xs.length 0 lo)
theorem cut_at {K : PySem.W.Frag} {T : Tb} {H : Hp} {vs : List V} {ds : List D} {lo hi : Option Int} (a : AtAll K T H vs ds) : AtAll K T H (cutV vs lo hi) (cutD ds lo hi) := by
  unfold cutV cutD
  rw [a.length]
  exact (a.drop _).take _
theorem dl_slice {tl th : TO} (h : DR c ρ te fun d => ∃ ds, d = .lst ds ∧ DO c ρ tl fun lo => DO c ρ th fun hi => QL (cutD ds lo hi)) : DL c ρ (tSl (rSlZ c.K) te tl th) QL := fun σ H I R k =>
  h σ H I _ fun v H1 d e1 a1 ⟨ds, ed, q1⟩ => q1 σ H1 (I.same e1) _ fun lo H2 e2 q2 => q2 σ H2 (I.same (e1.trans e2)) _ fun hi H3 e3 q3 => by
    subst ed
    obtain ⟨p, xs, rfl, h2, h3⟩ := (a1.same (e2.trans e3)).sq
    refine .inl ⟨p, xs, rfl, h2, fun z hz => ?_⟩
    have sm := Same.new (H := H3) (o := .lst (cutV xs lo hi)) hz
    exact k z _ _ _ ((e1.trans (e2.trans e3)).free hz) ((e1.trans (e2.trans e3)).trans sm) upd_same (cut_at (h3.same sm)) q3
theorem cut_whole {α : Type} {xs : List α} {lo hi : Option Int} (h : HT.sIx xs.length 0 lo = 0 ∧ HT.sIx xs.length xs.length hi = xs.length) : cutD xs lo hi = xs := by
  unfold cutD
  rw [h.1, h.2]
  simp
theorem de_slice {tl th : TO} (h : DR c ρ te fun d => ∃ ds, d = .tup ds ∧ DO c ρ tl fun lo => DO c ρ th fun hi => Q (.tup (cutD ds lo hi))) : DE c ρ (tSl (rSlZ c.K) te tl th) Q := fun σ H I R k =>
  h σ H I _ fun v H1 d e1 a1 ⟨ds, ed, q1⟩ => q1 σ H1 (I.same e1) _ fun lo H2 e2 q2 => q2 σ H2 (I.same (e1.trans e2)) _ fun hi H3 e3 q3 => by
    subst ed
    obtain ⟨p, xs, rfl, h2, h3⟩ := (a1.same (e2.trans e3)).tup
    have hl := h3.length
    refine .inr ⟨p, xs, rfl, SqT.of h2, fun w => ?_, fun _ z hz => ?_⟩
    · rw [hl] at w
      have q3 : Q (.tup (cutD ds lo hi)) := q3
      rw [cut_whole w] at q3
      exact k _ H3 _ (e1.trans (e2.trans e3)) (.tup h2 h3) q3
    · have sm := Same.new (H := H3) (o := .tup (cutV xs lo hi)) hz
      exact k _ _ _ ((e1.trans (e2.trans e3)).trans sm) (.tup upd_same (cut_at (h3.same sm))) q3
/-! calls of built-ins -/
theorem de_len (h : DR c ρ ta fun d => ∃ ds, (d = .lst ds ∨ d = .tup ds) ∧ Q (.int ds.length)) : DE c ρ (tCB (rLenZ c.K) (tCons ta tNil)) Q := fun σ H I R k => h σ H I _ fun v H1 d e a ⟨ds, ed, q⟩ => by
  rcases ed with rfl | rfl
  · obtain ⟨p, xs, rfl, h2, h3⟩ := a.sq
    exact ⟨p, xs, rfl, .inl h2, k _ H1 _ e (by rw [h3.length]; exact .int _) q⟩
  · obtain ⟨p, xs, rfl, h2, h3⟩ := a.tup
    exact ⟨p, xs, rfl, .inr (SqT.of h2), k _ H1 _ e (by rw [h3.length]; exact .int _) q⟩
theorem dl_list (h : DR c ρ ta fun d => ∃ ds, (d = .lst ds ∨ d = .tup ds) ∧ QL ds) : DL c ρ (tCB (rListZ c.K) (tCons ta tNil)) QL := fun σ H I R k => h σ H I _ fun v H1 d e a ⟨ds, ed, q⟩ => by
  rcases ed with rfl | rfl
  · obtain ⟨p, xs, rfl, h2, h3⟩ := a.sq
    refine ⟨p, xs, rfl, .inl h2, fun z hz => ?_⟩
    have sm := Same.new (H := H1) (o := .lst xs) hz
    exact k z _ _ _ (e.free hz) (e.trans sm) upd_same (h3.same sm) q
  · obtain ⟨p, xs, rfl, h2, h3⟩ := a.tup
    refine ⟨p, xs, rfl, .inr (SqT.of h2), fun z hz => ?_⟩
    have sm := Same.new (H := H1) (o := .lst xs) hz
    exact k z _ _ _ (e.free hz) (e.trans sm) upd_same (h3.same sm) q
/-- list(script) -/
theorem dl_listScr (h : DR c ρ ta fun d => ∃ ns, d = .scr ns ∧ QL (ns.map D.int)) : DL c ρ (tCB (rListZ c.K) (tCons ta tNil)) QL := fun σ H I R k => h σ H I _ fun v H1 d e a ⟨ns, ed, q⟩ => by
  subst ed
  cases a with
  | «at» a =>
    cases a with
    | scr h1 =>
      refine ⟨_, _, rfl, .inl h1.sq, fun z hz => ?_⟩
      have sm := Same.new (H := H1) (o := .lst (ns.map V.int)) hz
      exact k z _ _ _ (e.free hz) (e.trans sm) upd_same (AtAll.of_ints ns) q
theorem de_tuple (h : DR c ρ ta fun d => ∃ ds, (d = .lst ds ∨ d = .tup ds) ∧ Q (.tup ds)) : DE c ρ (tCB (rTupZ c.K) (tCons ta tNil)) Q := fun σ H I R k => h σ H I _ fun v H1 d e a ⟨ds, ed, q⟩ => by
  rcases ed with rfl | rfl
  · obtain ⟨p, xs, rfl, h2, h3⟩ := a.sq
    refine ⟨p, xs, rfl, .inl ⟨h2, fun z hz => ?_⟩⟩
    have sm := Same.new (H := H1) (o := .tup xs) hz
    exact k _ _ _ (e.trans sm) (.tup upd_same (h3.same sm)) q
  · obtain ⟨p, xs, rfl, h2, h3⟩ := a.tup
    exact ⟨p, xs, rfl, .inr ⟨SqT.of h2, k _ H1 _ e (.tup h2 h3) q⟩⟩
theorem de_intc (h : DR c ρ ta fun d => (∃ i, d = .int i ∧ Q (.int i)) ∨ ∃ b, d = .bl b ∧ Q (.int (if b then 1 else 0))) : DE c ρ (tCB rIntZ (tCons ta tNil)) Q := fun σ H I R k => h σ H I _ fun v H1 d e a q => by
  rcases q with ⟨i, rfl, q⟩ | ⟨b, rfl, q⟩
  · exact .inl ⟨i, by rw [a.int], k _ H1 _ e (.int i) q⟩
  · exact .inr ⟨b, by rw [a.bl], k _ H1 _ e (.int _) q⟩
theorem de_boolc (h : DR c ρ ta fun d => (∃ i, d = .int i ∧ Q (.bl (i != 0))) ∨ ∃ b, d = .bl b ∧ Q (.bl b)) : DE c ρ (tCB rBoolZ (tCons ta tNil)) Q := fun σ H I R k => h σ H I _ fun v H1 d e a q => by
  rcases q with ⟨i, rfl, q⟩ | ⟨b, rfl, q⟩
  · exact .inl ⟨i, by rw [a.int], k _ H1 _ e (.bl _) q⟩
  · exact .inr ⟨b, by rw [a.bl], k _ H1 _ e (.bl _) q⟩
theorem dl_sorted (h : DR c ρ ta fun d => ∃ is : List Int, d = .lst (is.map D.int) ∧ is.length < 64 ∧ ∀ js : List Int, js.Perm is → js.Pairwise (· ≤ ·) → QL (js.map D.int)) : DL c ρ (tCB (rSorted c.K) (tCons ta tNil)) QL := fun σ H I R k =>
  h σ H I _ fun v H1 d e a ⟨is, ed, hz, q⟩ => by
    subst ed
    obtain ⟨p, xs, rfl, h2, h3⟩ := a.sq
    have ex := h3.ints
    subst ex
    exact ⟨p, is, rfl, h2, hz, fun js z h4 h5 hz => k z _ _ _ (e.free hz) (e.trans (Same.new hz)) upd_same (AtAll.of_ints js) (q js h4 h5)⟩
theorem de_sum (h : DR c ρ ta fun d => ∃ is : List Int, d = .lst (is.map D.int) ∧ Q (.int is.sum)) : DE c ρ (tCB (rSum c.K) (tCons ta tNil)) Q := fun σ H I R k => h σ H I _ fun v H1 d e a ⟨is, ed, q⟩ => by
  subst ed
  obtain ⟨p, xs, rfl, h2, h3⟩ := a.sq
  have ex := h3.ints
  subst ex
  exact ⟨p, is, rfl, h2, k _ H1 _ e (.int _) q⟩
theorem de_any (h : DR c ρ ta fun d => ∃ bs : List Bool, d = .lst (bs.map D.bl) ∧ Q (.bl (bs.any id))) : DE c ρ (tCB (rAny c.K) (tCons ta tNil)) Q := fun σ H I R k => h σ H I _ fun v H1 d e a ⟨is, ed, q⟩ => by
  subst ed
  obtain ⟨p, xs, rfl, h2, h3⟩ := a.sq
  have ex := h3.bls
  subst ex
  exact ⟨p, is, rfl, h2, k _ H1 _ e (.bl _) q⟩
theorem de_all (h : DR c ρ ta fun d => ∃ bs : List Bool, d = .lst (bs.map D.bl) ∧ Q (.bl (bs.all id))) : DE c ρ (tCB (rAll c.K) (tCons ta tNil)) Q := fun σ H I R k => h σ H I _ fun v H1 d e a ⟨is, ed, q⟩ => by
  subst ed
  obtain ⟨p, xs, rfl, h2, h3⟩ := a.sq
  have ex := h3.bls
  subst ex
  exact ⟨p, is, rfl, h2, k _ H1 _ e (.bl _) q⟩
/-! isinstance with a built-in class -/
def tyN : D → Option String
  | .non => some "NoneType"
  | .bl _ => some "bool"
  | .int _ => some "int"
  | .str _ => some "str"
  | .tup _ => some "tuple"
  | .lst _ => some "list"
  | _ => none
theorem ty_of {K : PySem.W.Frag} {T : Tb} {H : Hp} {v : V} {d : D} {n : String} (a : RAt K T H v d) (h : tyN d = some n) : TyX K H v (.type n) := by
  cases a with
  | «at» a =>
    cases a with
    | non => cases h; exact .base .non
    | bl b => cases h; exact .base (.bl b)
    | int i => cases h; exact .base (.int i)
    | str x => cases h; exact .base (.str x)
    | tup h1 h2 => cases h; exact .base (.tup h1)
    | lst h1 h2 => cases h; exact .base (.frz h1)
    | obj _ _ _ _ => cases h
    | src _ _ => cases h
    | scr _ => cases h
  | lst h1 h2 => cases h; exact .base (.lst h1)
theorem de_isi {n : String} (h : DR c ρ ta fun d => ∃ m b, tyN d = some m ∧ PySem.W.kitOne c.K (.type m) (.type n) = some b ∧ Q (.bl b)) : DE c ρ (tCB (rIsi c.K) (tCons ta (tCons (tC (.ty n)) tNil))) Q := fun σ H I R k =>
  h σ H I _ fun v H1 d e a ⟨m, b, h1, h2, q⟩ => ⟨v, .ty n, .type m, .type n, b, rfl, by constructor, ty_of a h1, h2, k _ H1 _ e (.bl b) q⟩
/-! tests -/
theorem dt_test (h : DE c ρ te fun d => ∃ b, d = .bl b ∧ QB b) : DT c ρ (tTest te) QB := fun σ H I R k => h σ H I _ fun v H1 d e a ⟨b, ed, q⟩ => by
  subst ed
  cases a
  exact ⟨b, rfl, k b H1 e q⟩
theorem dt_B (h : DE c ρ te fun d => ∃ b, d = .bl b ∧ QB b) : DT c ρ (tB te) QB := dt_test h
theorem dt_and (h : DT c ρ tt fun a => if a = true then DT c ρ uu QB else QB false) : DT c ρ (tAnd tt uu) QB := fun σ H I R k => h σ H I _ fun b H1 e q => by
  cases b with
  | true => exact q σ H1 (I.same e) _ fun b' H2 e2 q2 => k b' H2 (e.trans e2) q2
  | false => exact k false H1 e q
theorem dt_or (h : DT c ρ tt fun a => if a = true then QB true else DT c ρ uu QB) : DT c ρ (tOr tt uu) QB := fun σ H I R k => h σ H I _ fun b H1 e q => by
  cases b with
  | true => exact k true H1 e q
  | false => exact q σ H1 (I.same e) _ fun b' H2 e2 q2 => k b' H2 (e.trans e2) q2
theorem dt_not (h : DT c ρ tt fun a => QB (!a)) : DT c ρ (tNot tt) QB := fun σ H I R k => h σ H I _ fun b H1 e q => k _ H1 e q
theorem dt_yes (q : QB true) : DT c ρ tYes QB := fun σ H I R k => k true H (SameR H) q
def truD : D → Option Bool
  | .non => some false
  | .bl b => some b
  | .int i => some (i != 0)
  | .tup ds => some (!ds.isEmpty)
  | .lst ds => some (!ds.isEmpty)
  | _ => none
theorem isEmpty_at {K : PySem.W.Frag} {T : Tb} {H : Hp} {vs : List V} {ds : List D} (a : AtAll K T H vs ds) : (!ds.isEmpty) = !vs.isEmpty := by cases a <;> rfl
theorem tru_of {K : PySem.W.Frag} {T : Tb} {H : Hp} {v : V} {d : D} {k : Bool} (a : RAt K T H v d) (h : truD d = some k) : TruV K v H k := by
  cases a with
  | «at» a =>
    cases a with
    | non => cases h; rfl
    | bl b => cases h; rfl
    | int i => cases h; rfl
    | str x => cases h
    | tup h1 h2 => cases h; exact .inr (.inl ⟨_, SqT.of h1, isEmpty_at h2⟩)
    | lst h1 h2 => cases h; exact .inl ⟨_, .inl (.inr ⟨_, h1⟩), isEmpty_at h2⟩
    | obj _ _ _ _ => cases h
    | src _ _ => cases h
    | scr _ => cases h
  | lst h1 h2 => cases h; exact .inl ⟨_, SqL.of h1, isEmpty_at h2⟩
theorem dt_tru (h : DR c ρ ta fun d => ∃ k, truD d = some k ∧ QB k) : DT c ρ (tTru c.K ta) QB := fun σ H I R k => h σ H I _ fun v H1 d e a ⟨b, hb, q⟩ => ⟨b, tru_of a hb, k b H1 e q⟩
/-! and, or, not as values of True and False -/
theorem de_andV (h : DE c ρ ta fun d => ∃ b, d = .bl b ∧ if b = true then DE c ρ tb Q else Q (.bl false)) : DE c ρ (tAndV ta tb) Q := fun σ H I R k => h σ H I _ fun v H1 d e a ⟨b, ed, q⟩ => by
  subst ed
  cases a
  refine ⟨b, rfl, ?_⟩
  cases b with
  | true => exact q σ H1 (I.same e) _ fun v' H2 d' e2 a2 q2 => k v' H2 d' (e.trans e2) a2 q2
  | false => exact k _ H1 _ e (.bl false) q
theorem de_orV (h : DE c ρ ta fun d => ∃ b, d = .bl b ∧ if b = true then Q (.bl true) else DE c ρ tb Q) : DE c ρ (tOrV ta tb) Q := fun σ H I R k => h σ H I _ fun v H1 d e a ⟨b, ed, q⟩ => by
  subst ed
  cases a
  refine ⟨b, rfl, ?_⟩
  cases b with
  | true => exact k _ H1 _ e (.bl true) q
  | false => exact q σ H1 (I.same e) _ fun v' H2 d' e2 a2 q2 => k v' H2 d' (e.trans e2) a2 q2
theorem de_notV (h : DE c ρ ta fun d => ∃ b, d = .bl b ∧ Q (.bl (!b))) : DE c ρ (tNotV ta) Q := fun σ H I R k => h σ H I _ fun v H1 d e a ⟨b, ed, q⟩ => by
  subst ed
  cases a
  exact ⟨b, rfl, k _ H1 _ e (.bl _) q⟩
theorem de_if (h : DT c ρ tt fun b => if b = true then DE c ρ ta Q else DE c ρ tb Q) : DE c ρ (tIf tt ta tb) Q := fun σ H I R k => h σ H I _ fun b H1 e q => by
  cases b with
  | true => exact q σ H1 (I.same e) _ fun v' H2 d' e2 a2 q2 => k v' H2 d' (e.trans e2) a2 q2
  | false => exact q σ H1 (I.same e) _ fun v' H2 d' e2 a2 q2 => k v' H2 d' (e.trans e2) a2 q2
theorem de_isN (h : DE c ρ ta fun d => Q (.bl (match d with | .non => true | _ => false))) : DE c ρ (tIsN ta) Q := fun σ H I R k => h σ H I _ fun v H1 d e a q => by
  cases a <;> exact k _ H1 _ e (.bl _) q
theorem de_notN (h : DE c ρ ta fun d => Q (.bl (match d with | .non => false | _ => true))) : DE c ρ (tNotN ta) Q := fun σ H I R k => h σ H I _ fun v H1 d e a q => by
  cases a <;> exact k _ H1 _ e (.bl _) q
/-- a < b < c -/
theorem de_chain {r r' : R2} {F F' : D → D → (D → Prop) → Prop}
    (hr : ∀ H x y a b (P : D → Prop) (R : VK), RAt c.K c.T H x a → RAt c.K c.T H y b → F a b P → (∀ v H' d, Same H H' → At c.K c.T H' v d → P d → R v H') → r x y H R)
    (hr' : ∀ H x y a b (P : D → Prop) (R : VK), RAt c.K c.T H x a → RAt c.K c.T H y b → F' a b P → (∀ v H' d, Same H H' → At c.K c.T H' v d → P d → R v H') → r' x y H R)
    (h : DR c ρ ta fun a => DR c ρ tb fun b => F a b fun d => ∃ k, d = .bl k ∧ if k = true then DR c ρ tc fun e => F' b e Q else Q (.bl false)) : DE c ρ (tChain r r' ta tb tc) Q := fun σ H I R k =>
  h σ H I _ fun x H1 a e1 r1 q1 => q1 σ H1 (I.same e1) _ fun y H2 b e2 r2 q2 => hr H2 x y a b _ _ (r1.same e2) r2 q2 fun v H3 d e3 m ⟨z, ed, q⟩ => by
    subst ed
    cases m
    refine ⟨z, rfl, ?_⟩
    cases z with
    | true => exact q σ H3 (I.same ((e1.trans e2).trans e3)) _ fun w H4 e e4 r4 q4 => hr' H4 y w b e Q R ((r2.same e3).same e4) r4 q4 fun v' H5 d' e5 m5 p5 => k v' H5 d' ((((e1.trans e2).trans e3).trans e4).trans e5) m5 p5
    | false => exact k _ H3 _ ((e1.trans e2).trans e3) (.bl false) q
theorem de_chLeLt (h : DR c ρ ta fun a => DR c ρ tb fun b => FLe a b fun d => ∃ k, d = .bl k ∧ if k = true then DR c ρ tc fun e => FLt b e Q else Q (.bl false)) : DE c ρ (tChain (rLeZ c.K) (rLtZ c.K) ta tb tc) Q := de_chain cmp_D cmp_D h
theorem de_chLeLe (h : DR c ρ ta fun a => DR c ρ tb fun b => FLe a b fun d => ∃ k, d = .bl k ∧ if k = true then DR c ρ tc fun e => FLe b e Q else Q (.bl false)) : DE c ρ (tChain (rLeZ c.K) (rLeZ c.K) ta tb tc) Q := de_chain cmp_D cmp_D h
end
end Z

/-! ZE: fields, calls of defs, statements, loops, comprehensions, the promise of a def over data. -/
namespace Z
open PySem PySem.Spec PyProof.Rows L2

/-! ### promises over data -/
/-- what a call asks of its arguments, of the wanted end (and of an exception: its class, its attributes) -/
abbrev XD := Addr → List (Str × D) → Prop
abbrev DSp := List D → (D → Prop) → XD → Prop
def spD (K : PySem.W.Frag) (T : Tb) (S : DSp) : Sp := fun vs H Q E => ∃ ds R X, AtAll K T H vs ds ∧ S ds R X ∧ (∀ d v H', R d → Same H H' → At K T H' v d → Q v H') ∧ (∀ C fs od H', X C fs → Same H H' → ExAt K T H' od fs → E (.ref C) od H')
/-- __init__: the new object's attributes -/
abbrev ISp := List D → (List D → Prop) → XD → Prop
def spI (K : PySem.W.Frag) (T : Tb) (C : Addr) (S : ISp) : Sp := fun vs H Q E => ∃ p dx ws ds F X, vs = .ref p :: ws ∧ H p = some (.ins C dx []) ∧ AtAll K T H ws ds ∧ S ds F X ∧
  (∀ fs H', F fs → (∀ b o, H b = some o → b ≠ p → H' b = some o) → At K T H' (.ref p) (.obj C fs) → Q .non H') ∧ (∀ C' fs od H', X C' fs → (∀ b o, H b = some o → b ≠ p → H' b = some o) → ExAt K T H' od fs → E (.ref C') od H')
def X0 : XD := fun _ _ => False

section
variable {c : Cz} {ρ : List S} {ta tb te tv : TE} {tr : TA} {Q : D → Prop} {S : DSp} {X : XD} {E : XK}
/-- f(..), no exception leaves -/
theorem de_call (h : DA c ρ tr fun ds => S ds Q X0) : DE c ρ (tCall (spD c.K c.T S) [] E tr) Q := fun σ H I R k => h σ H I _ fun vs H1 ds e a q =>
  ⟨ds, Q, X0, by rw [List.append_nil]; exact a, q, fun d v H2 p e2 m => k v H2 d (e.trans e2) m p, fun _ _ _ _ z => z.elim⟩
theorem de_callD {dvs : List V} {dd : List D} (hd : ∀ H, AtAll c.K c.T H dvs dd) (h : DA c ρ tr fun ds => S (ds ++ dd) Q X0) : DE c ρ (tCall (spD c.K c.T S) dvs E tr) Q := fun σ H I R k => h σ H I _ fun vs H1 ds e a q =>
  ⟨ds ++ dd, Q, X0, a.append (hd H1), q, fun d v H2 p e2 m => k v H2 d (e.trans e2) m p, fun _ _ _ _ z => z.elim⟩
/-- C(..) -/
theorem de_make {C : Addr} {S : ISp} (h : DA c ρ tr fun ds => S ds (fun fs => Q (.obj C fs)) X0) : DE c ρ (tMake C (spI c.K c.T C S) [] E tr) Q := fun σ H I R k => h σ H I _ fun vs H1 ds e a q x dx nx nd ne => by
  have s1 : Same H1 (upd (upd H1 dx (.own x)) x (.ins C dx [])) := fun b o hb => by
    rw [upd_ne (ne_of_none hb nx), upd_ne (ne_of_none hb nd)]
    exact hb
  refine ⟨x, dx, vs, ds, _, X0, by rw [List.append_nil], upd_same, a.same s1, q, fun fs H2 p e2 m => ⟨rfl, k _ H2 _ (e.trans fun b o hb => e2 b o (s1 b o hb) (ne_of_none hb nx)) m p⟩, fun _ _ _ _ z => z.elim⟩
theorem de_makeD {C : Addr} {S : ISp} {dvs : List V} {dd : List D} (hd : ∀ H, AtAll c.K c.T H dvs dd) (h : DA c ρ tr fun ds => S (ds ++ dd) (fun fs => Q (.obj C fs)) X0) : DE c ρ (tMake C (spI c.K c.T C S) dvs E tr) Q := fun σ H I R k =>
  h σ H I _ fun vs H1 ds e a q x dx nx nd ne => by
  have s1 : Same H1 (upd (upd H1 dx (.own x)) x (.ins C dx [])) := fun b o hb => by
    rw [upd_ne (ne_of_none hb nx), upd_ne (ne_of_none hb nd)]
    exact hb
  refine ⟨x, dx, vs ++ dvs, ds ++ dd, _, X0, rfl, upd_same, (a.same s1).append (hd _), q, fun fs H2 p e2 m => ⟨rfl, k _ H2 _ (e.trans fun b o hb => e2 b o (s1 b o hb) (ne_of_none hb nx)) m p⟩, fun _ _ _ _ z => z.elim⟩
/-- o.p, a property -/
theorem de_prop {C : Addr} (h : DR c ρ ta fun d => ∃ fs, d = .obj C fs ∧ S [d] Q X0) : DE c ρ (tProp C (spD c.K c.T S) [] E ta) Q := fun σ H I R k => h σ H I _ fun v H1 d e a ⟨fs, ed, q⟩ => by
  have a0 := a
  subst ed
  obtain ⟨p, dx, gs, rfl, h1, h2, h3, h4⟩ := a.obj
  exact ⟨p, dx, gs, rfl, h1, [.obj C fs], Q, X0, .cons (.obj h1 h2 h3 h4) .nil, q, fun d v H2 p e2 m => k v H2 d (e.trans e2) m p, fun _ _ _ _ z => z.elim⟩
theorem lookup_no {fs : List (Str × V)} {m : Str} (h : m ∉ fs.map (·.1)) : fs.lookup m = none := by
  induction fs with
  | nil => rfl
  | cons q r ih =>
    rw [List.map_cons, List.mem_cons, not_or] at h
    rw [List.lookup_cons, show (m == q.1) = false from beq_eq_false_iff_ne.mpr h.1]
    exact ih h.2
/-- o.m(..) -/
theorem de_meth {C : Addr} {m : Str} (hm : m ∉ c.T C) (h : DR c ρ ta fun d => ∃ fs, d = .obj C fs ∧ DA c ρ tr fun ds => S (d :: ds) Q X0) : DE c ρ (tMeth C m (spD c.K c.T S) [] E ta tr) Q := fun σ H I R k => h σ H I _ fun v H1 d e a ⟨fs, ed, q⟩ => by
  subst ed
  obtain ⟨p, dx, gs, rfl, h1, h2, h3, h4⟩ := a.obj
  refine ⟨p, dx, gs, rfl, h1, lookup_no (by rw [h2]; exact hm), q σ H1 (I.same e) _ fun vs H2 ds e2 a2 q2 => ?_⟩
  exact ⟨.obj C fs :: ds, Q, X0, by rw [List.append_nil]; exact .cons ((At.obj h1 h2 h3 h4).same e2) a2, q2, fun d v H3 p e3 m => k v H3 d ((e.trans e2).trans e3) m p, fun _ _ _ _ z => z.elim⟩

/-! ### attributes -/
structure Fld (K : PySem.W.Frag) (T : Tb) (C : Addr) (f : Str) (k : Nat) : Prop where
  cl : Cls K C
  na : NoAttr K C f
  ix : (T C)[k]? = some f
  nd : (T C).Nodup
theorem lookup_ix : ∀ {fs : List (Str × V)} {f : Str} {k : Nat} {v : V}, (fs.map (·.1)).Nodup → (fs.map (·.1))[k]? = some f → (fs.map (·.2))[k]? = some v → fs.lookup f = some v
  | [], f, k, v, _, h, _ => by simp at h
  | (g, w) :: r, f, 0, v, _, h1, h2 => by
    have e1 : g = f := by simpa using h1
    have e2 : w = v := by simpa using h2
    subst e1 e2
    rw [List.lookup_cons, show (g == g) = true from beq_self_eq_true g]
  | (g, w) :: r, f, k + 1, v, nd, h1, h2 => by
    rw [List.map_cons, List.nodup_cons] at nd
    have h1' : (r.map (·.1))[k]? = some f := by simpa using h1
    have h2' : (r.map (·.2))[k]? = some v := by simpa using h2
    have hne : f ≠ g := fun e => nd.1 (by rw [← e]; exact List.mem_of_getElem? h1')
    rw [List.lookup_cons, show (f == g) = false from beq_eq_false_iff_ne.mpr hne]
    exact lookup_ix nd.2 h1' h2'
theorem de_fld {C : Addr} {f : Str} {k : Nat} (F : Fld c.K c.T C f k) (h : DR c ρ ta fun d => ∃ fs x, d = .obj C fs ∧ fs[k]? = some x ∧ Q x) : DE c ρ (tFld c.K ta f) Q := fun σ H I R kk => h σ H I _ fun v H1 d e a ⟨fs, x, ed, hx, q⟩ => by
  subst ed
  obtain ⟨p, dx, gs, rfl, h1, h2, h3, h4⟩ := a.obj
  obtain ⟨w, hw, mw⟩ := h4.get hx
  exact ⟨p, C, dx, gs, w, rfl, h1, F.cl, F.na, lookup_ix (by rw [h2]; exact F.nd) (by rw [h2]; exact F.ix) hw, kk w H1 x e mw q⟩
/-- self.f, while self is being made -/
theorem lookup_two : ∀ {gs : List (Str × V)} {fs : List (Str × D)} {f : Str} {d : D} {K : PySem.W.Frag} {T : Tb} {H : Hp}, gs.map (·.1) = fs.map (·.1) → AtAll K T H (gs.map (·.2)) (fs.map (·.2)) → fs.lookup f = some d → ∃ v, gs.lookup f = some v ∧ At K T H v d
  | [], [], f, d, _, _, _, _, _, h => by cases h
  | [], _ :: _, _, _, _, _, _, h, _, _ => by simp at h
  | _ :: _, [], _, _, _, _, _, h, _, _ => by simp at h
  | (g, w) :: gs, (g', d') :: fs, f, d, K, T, H, h1, h2, h3 => by
    rw [List.map_cons, List.map_cons] at h1 h2
    have e1 : g = g' := (List.cons.inj h1).1
    cases h2 with
    | cons m1 m2 =>
      rw [List.lookup_cons] at h3 ⊢
      subst e1
      cases q : f == g with
      | true =>
        rw [q] at h3
        cases h3
        exact ⟨w, rfl, m1⟩
      | false =>
        rw [q] at h3
        exact lookup_two (List.cons.inj h1).2 m2 h3
theorem de_fldS {i : Nat} {C : Addr} {f : Str} {fs : List (Str × D)} {d : D} (cl : Cls c.K C) (na : NoAttr c.K C f) (e : ρ[i]? = some (.self C fs)) (hf : fs.lookup f = some d) (q : Q d) : DE c ρ (tFld c.K (tVar i) f) Q := fun σ H I R k => by
  obtain ⟨p, dx, gs, h1, h2, h3, h4, _⟩ := I.selfs e
  obtain ⟨v, hv, m⟩ := lookup_two h3 h4 hf
  exact ⟨_, h1, p, C, dx, gs, v, rfl, h2, cl, na, hv, k v H d (SameR H) m q⟩
end

/-! ### statements -/
section
variable {c : Cz} {ρ : List S} {ta tb te tv : TE} {tr : TA} {tt : TT} {t u : TS} {N B C : List S → Prop} {Rt : D → List S → Prop}
theorem ds_mono {N' : List S → Prop} (h : DS c ρ t N' Rt B C) (k : ∀ ρ', N' ρ' → N ρ') : DS c ρ t N Rt B C := fun σ H I E n r b cc => h σ H I E (fun σ' H' ρ' f J q => n σ' H' ρ' f J (k ρ' q)) r b cc
theorem ds_next (q : N ρ) : DS c ρ tNext N Rt B C := fun σ H I E n _ _ _ => n σ H ρ (Fz.refl H) I q
theorem ds_brk (q : B ρ) : DS c ρ tBreak N Rt B C := fun σ H I E _ _ b _ => b σ H ρ (Fz.refl H) I q
theorem ds_cont (q : C ρ) : DS c ρ tCont N Rt B C := fun σ H I E _ _ _ cc => cc σ H ρ (Fz.refl H) I q
theorem ds_seq (h : DS c ρ t (fun ρ' => DS c ρ' u N Rt B C) Rt B C) : DS c ρ (tSeq t u) N Rt B C := fun σ H I E n r b cc =>
  h σ H I { E with nx := u E } (fun σ' H' ρ' f J q => q σ' H' J E (fun s2 H2 r2 f2 => n s2 H2 r2 (f.trans f2)) r (fun s2 H2 r2 f2 => b s2 H2 r2 (f.trans f2)) fun s2 H2 r2 f2 => cc s2 H2 r2 (f.trans f2)) r b cc
theorem ds_ret (h : DE c ρ te fun d => Rt d ρ) : DS c ρ (tRet te) N Rt B C := fun σ H I E _ r _ _ => h σ H I _ fun v H' d e a q => r v σ H' d ρ (I.same e) a q
theorem ds_retN (q : Rt .non ρ) : DS c ρ tRetN N Rt B C := fun σ H I E _ r _ _ => r .non σ H .non ρ I .non q
theorem ds_asg {i : Nat} (h : DE c ρ te fun d => N (ρ.set i (.val d))) : DS c ρ (tAsg te (gName i)) N Rt B C := fun σ H I E n _ _ _ => h σ H I _ fun v H' d e a q => n _ H' _ (.of e) ((I.same e).setV a) q
theorem ds_asgL {i : Nat} (h : DL c ρ te fun ds => N (ρ.set i (.own ds))) : DS c ρ (tAsg te (gName i)) N Rt B C := fun σ H I E n _ _ _ => h σ H I _ fun p H' xs ds hp e e2 a q => by
  refine n _ H' _ (.of e) ((I.same e).setM e2 a ?_ fun j es h1 h2 => ?_) q
  · exact I.tr p hp
  · obtain ⟨l, xs', h3, h4, _⟩ := I.own h2
    rw [h1] at h3
    cases h3
    rw [hp] at h4
    cases h4
theorem ds_if (h : DT c ρ tt fun b => if b = true then DS c ρ t N Rt B C else DS c ρ u N Rt B C) : DS c ρ (tIfS tt t u) N Rt B C := fun σ H I E n r b cc => h σ H I _ fun k H' e q => by
  cases k with
  | true => exact q σ H' (I.same e) E (fun s2 H2 r2 f2 => n s2 H2 r2 ((Fz.of e).trans f2)) r (fun s2 H2 r2 f2 => b s2 H2 r2 ((Fz.of e).trans f2)) fun s2 H2 r2 f2 => cc s2 H2 r2 ((Fz.of e).trans f2)
  | false => exact q σ H' (I.same e) E (fun s2 H2 r2 f2 => n s2 H2 r2 ((Fz.of e).trans f2)) r (fun s2 H2 r2 f2 => b s2 H2 r2 ((Fz.of e).trans f2)) fun s2 H2 r2 f2 => cc s2 H2 r2 ((Fz.of e).trans f2)
theorem ds_drop (h : DE c ρ te fun _ => N ρ) : DS c ρ (tDrop te) N Rt B C := fun σ H I E n _ _ _ => h σ H I _ fun v H' d e a q => n σ H' ρ (.of e) (I.same e) q
/-- a name's list stands still from here -/
theorem ds_fzs {i : Nat} {ds : List D} (e : ρ[i]? = some (.own ds)) (h : DS c (ρ.set i (.val (.lst ds))) t N Rt B C) : DS c ρ (tFzS i t) N Rt B C := fun σ H I E n r b cc => by
  obtain ⟨l, xs, h1, h2, h3, h4⟩ := I.own e
  exact ⟨l, xs, h1, h2, fun o => h σ _ (I.frzM h1 e h2 h3 h4) E (fun s2 H' r2 f2 => n s2 H' r2 ((Fz.upd h2).trans f2)) r (fun s2 H' r2 f2 => b s2 H' r2 ((Fz.upd h2).trans f2)) fun s2 H' r2 f2 => cc s2 H' r2 ((Fz.upd h2).trans f2)⟩
/-- xs.append(e), xs.insert(i, e), x = xs.pop(i), xs[i] = e of a name's own list -/
theorem ds_app {i : Nat} {ds : List D} (e : ρ[i]? = some (.own ds)) (h : DE c ρ te fun d => ds.length < 100000 ∧ N (ρ.set i (.own (ds ++ [d])))) :
    DS c ρ (tDrop (tBM c.K "list" rAppend (tVar i) (tCons te tNil))) N Rt B C := fun σ H I E n _ _ _ => by
  obtain ⟨l, xs, h1, h2, h3, h4⟩ := I.own e
  refine ⟨_, h1, .inl ⟨rfl, xs, .inl (.inl h2)⟩, h σ H I _ fun v H' d e' a q => ?_⟩
  exact ⟨l, xs, v, rfl, rfl, e' _ _ h2, by rw [h3.length]; exact sz_lt q.1, n σ _ _ ((Fz.of e').trans (Fz.upd (e' _ _ h2))) ((I.same e').updM h1 e (e' _ _ h2) ((h3.same e').append (.cons a .nil)) h4) q.2⟩
theorem ds_ins {i : Nat} {ds : List D} (e : ρ[i]? = some (.own ds)) (h : DE c ρ ta fun a => DE c ρ te fun d => ∃ k, a = .int k ∧ 0 ≤ k ∧ k ≤ 100000 ∧ ds.length < 100000 ∧ N (ρ.set i (.own (ds.take k.toNat ++ [d] ++ ds.drop k.toNat)))) :
    DS c ρ (tDrop (tBM c.K "list" rInsert (tVar i) (tCons ta (tCons te tNil)))) N Rt B C := fun σ H I E n _ _ _ => by
  obtain ⟨l, xs, h1, h2, h3, h4⟩ := I.own e
  refine ⟨_, h1, .inl ⟨rfl, xs, .inl (.inl h2)⟩, h σ H I _ fun w H1 a e1 a1 q1 => q1 σ H1 (I.same e1) _ fun v H2 d e2 a2 ⟨k, ea, k0, k1, kz, q⟩ => ?_⟩
  subst ea
  cases a1
  have e' := e1.trans e2
  exact ⟨l, xs, k, v, rfl, rfl, e' _ _ h2, by rw [h3.length]; exact sz_lt kz, k0, by omega, n σ _ _ ((Fz.of e').trans (Fz.upd (e' _ _ h2))) ((I.same e').updM h1 e (e' _ _ h2) ((((h3.same e').take _).append (.cons a2 .nil)).append ((h3.same e').drop _)) h4) q⟩
theorem ds_setI {i : Nat} {ds : List D} (e : ρ[i]? = some (.own ds)) (h : DE c ρ te fun d => DR c ρ tb fun k => ∃ j : Nat, k = .int j ∧ j < ds.length ∧ N (ρ.set i (.own (ds.set j d)))) :
    DS c ρ (tAsg te (gSub (tVar i) tb rSetL)) N Rt B C := fun σ H I E n _ _ _ => h σ H I _ fun v H1 d e1 a1 q1 => by
  obtain ⟨l, xs, h1, h2, h3, h4⟩ := (I.same e1).own e
  refine ⟨_, h1, q1 σ H1 (I.same e1) _ fun w H2 k e2 a2 ⟨j, ek, hj, q⟩ => ?_⟩
  subst ek
  have hl := h3.length
  refine ⟨l, xs, (j : Int), j, rfl, a2.int, e2 _ _ h2, ?_, n σ _ _ ((Fz.of (e1.trans e2)).trans (Fz.upd (e2 _ _ h2))) ((I.same (e1.trans e2)).updM h1 e (e2 _ _ h2) (AtAll.set (a1.same e2) j (h3.same e2)) h4) q⟩
  unfold ixN
  rw [if_pos (by omega), if_pos (by omega)]
  simp
theorem seqIndex_nat {j n : Nat} (h : j < n) : seqIndex? (j : Int) n = some j := by
  have := seqIndex_of (k := (j : Int)) (n := n) (by omega) (by omega)
  simpa using this
end

/-! ### expressions that change a name's own list -/
def DM (c : Cz) (ρ : List S) (te : TE) (Q : D → List S → Prop) : Prop := ∀ σ H, EnvOk c H σ ρ → ∀ R : VK, (∀ v H' d ρ', Fz c H H' → EnvOk c H' σ ρ' → At c.K c.T H' v d → Q d ρ' → R v H') → te σ H R
section
variable {c : Cz} {ρ : List S} {ta tb te tv : TE} {tr : TA} {tt : TT} {t u : TS} {N B C : List S → Prop} {Rt : D → List S → Prop} {QM : D → List S → Prop}
theorem dm_de (h : DE c ρ te fun d => QM d ρ) : DM c ρ te QM := fun σ H I R k => h σ H I R fun v H' d e a q => k v H' d ρ (.of e) (I.same e) a q
theorem dm_popA {i : Nat} {ds : List D} (e : ρ[i]? = some (.own ds)) (h : DR c ρ tb fun a => ∃ (j : Nat) (d : D), a = .int j ∧ j < 100000 ∧ ds[j]? = some d ∧ QM d (ρ.set i (.own (ds.eraseIdx j)))) :
    DM c ρ (tBM c.K "list" rPopAt (tVar i) (tCons tb tNil)) QM := fun σ H I R k => by
  obtain ⟨l, xs, h1, h2, h3, h4⟩ := I.own e
  refine ⟨_, h1, .inl ⟨rfl, xs, .inl (.inl h2)⟩, h σ H I _ fun w H1 a e1 a1 ⟨j, d, ea, hz, hj, q⟩ => ?_⟩
  subst ea
  obtain ⟨v, hv, mv⟩ := (h3.same e1).get hj
  have hl : j < xs.length := (List.getElem?_eq_some_iff.mp hv).1
  have J := (I.same e1).updM h1 e (e1 _ _ h2) ((h3.same e1).eraseIdx j) h4
  exact ⟨l, xs, (j : Int), j, v, rfl, by rw [a1.int], e1 _ _ h2, by omega, by omega, seqIndex_nat hl, hv, k v _ d _ ((Fz.of e1).trans (Fz.upd (e1 _ _ h2))) J (At.sta (Sta.upd (e1 _ _ h2)) _ _ mv) q⟩
theorem dropLast_at {K : PySem.W.Frag} {T : Tb} {H : Hp} {vs : List V} {ds : List D} (a : AtAll K T H vs ds) : AtAll K T H vs.dropLast ds.dropLast := by
  rw [List.dropLast_eq_take, List.dropLast_eq_take, a.length]
  exact a.take _
theorem dm_pop {i : Nat} {ds : List D} {d : D} (e : ρ[i]? = some (.own ds)) (hd : ds[ds.length - 1]? = some d) (h : QM d (ρ.set i (.own ds.dropLast))) :
    DM c ρ (tBM0 c.K "list" rPop (tVar i)) QM := fun σ H I R k => by
  obtain ⟨l, xs, h1, h2, h3, h4⟩ := I.own e
  obtain ⟨v, hv, mv⟩ := h3.get hd
  rw [← h3.length] at hv
  exact ⟨_, h1, .inl ⟨rfl, xs, .inl (.inl h2)⟩, l, xs, v, rfl, rfl, h2, hv, k v _ d _ (Fz.upd h2) (I.updM h1 e h2 (dropLast_at h3) h4) (At.sta (Sta.upd h2) _ _ mv) h⟩
theorem ds_asgM {i : Nat} (h : DM c ρ te fun d ρ' => N (ρ'.set i (.val d))) : DS c ρ (tAsg te (gName i)) N Rt B C := fun σ H I E n _ _ _ => h σ H I _ fun v H' d ρ' f J a q => n _ H' _ f (J.setV a) q
theorem ds_retM (h : DM c ρ te fun d ρ' => Rt d ρ') : DS c ρ (tRet te) N Rt B C := fun σ H I E _ r _ _ => h σ H I _ fun v H' d ρ' f J a q => r v σ H' d ρ' J a q
theorem ds_dropM (h : DM c ρ te fun _ ρ' => N ρ') : DS c ρ (tDrop te) N Rt B C := fun σ H I E n _ _ _ => h σ H I _ fun v H' d ρ' f J a q => n σ H' ρ' f J q
theorem ds_appM {i : Nat} {ds0 : List D} (e0 : ρ[i]? = some (.own ds0)) (h : DM c ρ te fun d ρ' => ∃ ds, ρ'[i]? = some (.own ds) ∧ ds.length < 100000 ∧ N (ρ'.set i (.own (ds ++ [d])))) :
    DS c ρ (tDrop (tBM c.K "list" rAppend (tVar i) (tCons te tNil))) N Rt B C := fun σ H I E n _ _ _ => by
  obtain ⟨l, xs, h1, h2, h3, h4⟩ := I.own e0
  refine ⟨_, h1, .inl ⟨rfl, xs, .inl (.inl h2)⟩, h σ H I _ fun v H' d ρ' f J a ⟨ds, e, hz, q⟩ => ?_⟩
  obtain ⟨l', ys, h1', h2', h3', h4'⟩ := J.own e
  rw [h1] at h1'
  cases h1'
  exact ⟨l, ys, v, rfl, rfl, h2', by rw [h3'.length]; exact sz_lt hz, n σ _ _ (f.trans (Fz.upd h2')) (J.updM h1 e h2' (h3'.append (.cons a .nil)) h4') q⟩
end

/-! ### targets -/
/-- a target takes data that stand still -/
def DG (c : Cz) (ρ : List S) (g : TG) (d : D) (Q : List S → Prop) : Prop := ∀ σ H v, EnvOk c H σ ρ → At c.K c.T H v d → ∀ R : L2.St → Hp → Prop, (∀ σ' ρ', EnvOk c H σ' ρ' → Q ρ' → R σ' H) → g v σ H R
def DGs (c : Cz) (ρ : List S) (g : TGs) (ds : List D) (Q : List S → Prop) : Prop := ∀ σ H vs, EnvOk c H σ ρ → AtAll c.K c.T H vs ds → ∀ R : L2.St → Hp → Prop, (∀ σ' ρ', EnvOk c H σ' ρ' → Q ρ' → R σ' H) → g vs σ H R
section
variable {c : Cz} {ρ : List S} {ta tb te tv tl : TE} {tr : TA} {tt : TT} {t u tb' : TS} {N B C : List S → Prop} {Rt : D → List S → Prop} {Q : List S → Prop} {g : TG} {gs : TGs}
theorem dg_name {i : Nat} {d : D} (q : Q (ρ.set i (.val d))) : DG c ρ (gName i) d Q := fun σ H v I a R k => k _ _ (I.setV a) q
theorem dgs_nil (q : Q ρ) : DGs c ρ gNil [] Q := fun σ H vs I a R k => by
  cases a
  exact ⟨rfl, k σ ρ I q⟩
theorem dgs_cons {d : D} {ds : List D} (h : DG c ρ g d fun ρ' => DGs c ρ' gs ds Q) : DGs c ρ (gCons g gs) (d :: ds) Q := fun σ H vs I a R k => by
  cases a with
  | cons a1 a2 => exact ⟨_, _, rfl, h σ H _ I a1 _ fun σ' ρ' J q => q σ' H _ J a2 R k⟩
theorem dg_tup {n : Nat} {ds : List D} (hn : ds.length = n) (h : DGs c ρ gs ds Q) : DG c ρ (gTup c.K n gs) (.tup ds) Q := fun σ H v I a R k => by
  cases a with
  | tup h1 h2 => exact ⟨_, _, rfl, SqT.of h1, by rw [h2.length]; exact hn, h σ H _ I h2 R k⟩
theorem dg_tup2 {i j : Nat} {a b : D} (q : Q ((ρ.set i (.val a)).set j (.val b))) : DG c ρ (gTup c.K 2 (gCons (gName i) (gCons (gName j) gNil))) (.tup [a, b]) Q :=
  dg_tup rfl (dgs_cons (dg_name (dgs_cons (dg_name (dgs_nil q)))))
theorem dg_tup2n {n i j : Nat} {a b : D} (hn : n = 2) (q : Q ((ρ.set i (.val a)).set j (.val b))) : DG c ρ (gTup c.K n (gCons (gName i) (gCons (gName j) gNil))) (.tup [a, b]) Q := by
  subst hn
  exact dg_tup2 q
theorem ds_asgG (h : DE c ρ te fun d => DG c ρ g d N) : DS c ρ (tAsg te g) N Rt B C := fun σ H I E n _ _ _ => h σ H I _ fun v H' d e a q => q σ H' v (I.same e) a _ fun σ' ρ' J q => n σ' H' ρ' (.of e) J q
/-- x += e on ints -/
theorem ds_aug {i : Nat} {x : Int} {f : Int → Int → Int} (e : ρ[i]? = some (.val (.int x))) (h : DE c ρ te fun d => ∃ y, d = .int y ∧ N (ρ.set i (.val (.int (f x y))))) : DS c ρ (tAug i te (ipI f)) N Rt B C := fun σ H I E n _ _ _ => by
  obtain ⟨v, h1, m⟩ := I.val e
  cases m
  refine ⟨_, h1, h σ H I _ fun w H' d e' a ⟨y, ed, q⟩ => ?_⟩
  subst ed
  cases a
  exact ⟨x, y, rfl, rfl, n _ H' _ (.of e') ((I.same e').setV (.int _)) q⟩

/-! ### loops -/
/-- over a list or a tuple -/
def iSeq (K : PySem.W.Frag) (tl : TE) : TI := fun σ H R => tl σ H fun x H1 => ∃ a, x = .ref a ∧ (((∃ xs, SqL K H1 a xs) ∧ R (Itl K a) H1) ∨ ((∃ xs, SqT K H1 a xs) ∧ R (Itt K a) H1))
theorem pi_seq {X : Cx} {tg l : Expr} {tl : TE} (hl : PE X l tl) : PI X tg l (iSeq X.K tl) := by
  refine ⟨fun pins s σ H R I h => thn (hl.run pins s σ H _ I h) fun v s1 ⟨x, H1, I1, r1, a, e, q1⟩ => ?_⟩
  subst e
  cases r1
  rcases q1 with ⟨⟨xs, hq⟩, q⟩ | ⟨⟨xs, hq⟩, q⟩
  · obtain ⟨its, rv, p, hz⟩ := I1.list hq
    refine wpAny_pyIter_list p.isList ?_
    refine ⟨s1.heap.objs.size, [s1.heap.objs.size], _, _, H1, rfl, L2.Inv.kept (t' := s1.toks) I1 fun b o e => Heap.get?_push_of_some _ e, turn_list a _, ⟨_, Heap.get?_push_size _ rfl, rfl, rfl⟩, fun b hb => ?_, q⟩
    have e : b = s1.heap.objs.size := by simpa using hb
    subst e
    exact I1.fpOk (Nat.le_refl _) (I1.hok.fresh (Nat.le_refl _))
  · obtain ⟨its, rv, p, hz⟩ := I1.tuple hq
    refine wpAny_pyIter_tuple (show s1.heap.IsTuple a its.toArray from p) ?_
    refine ⟨s1.heap.objs.size, [s1.heap.objs.size], _, _, H1, rfl, L2.Inv.kept (t' := s1.toks) I1 fun b o e => Heap.get?_push_of_some _ e, turn_tuple a _, ⟨_, Heap.get?_push_size _ rfl, rfl, rfl⟩, fun b hb => ?_, q⟩
    have e : b = s1.heap.objs.size := by simpa using hb
    subst e
    exact I1.fpOk (Nat.le_refl _) (I1.hok.fresh (Nat.le_refl _))
/-- .. over data that stand still -/
theorem ds_for (h : DE c ρ tl fun d => ∃ ds, (d = .lst ds ∨ d = .tup ds) ∧ ∃ P : Nat → List S → Prop, P 0 ρ ∧
      (∀ i x ρ', ds[i]? = some x → P i ρ' → DG c ρ' g x fun ρ2 => DS c ρ2 tb' (P (i + 1)) Rt N (P (i + 1))) ∧ (∀ ρ', P ds.length ρ' → N ρ')) : DS c ρ (tFor (iSeq c.K tl) g tb') N Rt B C := fun σ H I E n r b cc =>
  h σ H I _ fun v H1 d e a ⟨ds, ed, P, p0, ps, pe⟩ => by
    have turn : ∀ (i : Nat) (x : V) (y : D) (σ' : L2.St) (H' : Hp), At c.K c.T H1 x y → ds[i]? = some y → (Fz c H1 H' ∧ ∃ ρ', EnvOk c H' σ' ρ' ∧ P i ρ') →
        g x σ' H' fun σ2 H2 => tb' { E with nx := fun σ H => Fz c H1 H ∧ ∃ ρ', EnvOk c H σ ρ' ∧ P (i + 1) ρ', ct := fun σ H => Fz c H1 H ∧ ∃ ρ', EnvOk c H σ ρ' ∧ P (i + 1) ρ', bk := E.nx } σ2 H2 := by
      rintro i x y σ' H' m hy ⟨f1, ρ', J, p⟩
      refine ps i y ρ' hy p σ' H' x J (f1.ak _ _ m) _ fun σ2 ρ2 J2 q2 => ?_
      refine q2 σ2 H' J2 _ (fun s3 H3 r3 f3 J3 p3 => ⟨f1.trans f3, r3, J3, p3⟩) r (fun s3 H3 r3 f3 J3 p3 => n s3 H3 r3 ((Fz.of e).trans (f1.trans f3)) J3 p3) fun s3 H3 r3 f3 J3 p3 => ⟨f1.trans f3, r3, J3, p3⟩
    rcases ed with rfl | rfl
    · cases a with
      | lst h1 h2 =>
        have hl := h2.length
        refine ⟨_, rfl, .inl ⟨⟨_, .inl (.inr ⟨_, h1⟩)⟩, for_list (K := c.K) (fun i σ H => Fz c H1 H ∧ ∃ ρ', EnvOk c H σ ρ' ∧ P i ρ') ⟨Fz.refl H1, ρ, I.same e, p0⟩ (fun i σ' H' _ q => .inl (.inr ⟨_, q.1.fz _ _ h1 rfl⟩)) (fun i x σ' H' hx q => ?_) fun σ' H' q => ?_⟩⟩
        · obtain ⟨y, hy, m⟩ := h2.getV hx
          exact turn i x y σ' H' m hy q
        · obtain ⟨f1, ρ', J, p⟩ := q
          rw [hl] at p
          exact n σ' H' ρ' ((Fz.of e).trans f1) J (pe ρ' p)
    · cases a with
      | tup h1 h2 =>
        have hl := h2.length
        refine ⟨_, rfl, .inr ⟨⟨_, SqT.of h1⟩, for_tup (K := c.K) (fun i σ H => Fz c H1 H ∧ ∃ ρ', EnvOk c H σ ρ' ∧ P i ρ') ⟨Fz.refl H1, ρ, I.same e, p0⟩ (fun i σ' H' _ q => SqT.of (q.1.fz _ _ h1 rfl)) (fun i x σ' H' hx q => ?_) fun σ' H' q => ?_⟩⟩
        · obtain ⟨y, hy, m⟩ := h2.getV hx
          exact turn i x y σ' H' m hy q
        · obtain ⟨f1, ρ', J, p⟩ := q
          rw [hl] at p
          exact n σ' H' ρ' ((Fz.of e).trans f1) J (pe ρ' p)
/-- over range(n) -/
theorem ds_forR {j : Nat} (h : DE c ρ te fun d => ∃ k : Int, d = .int k ∧ k ≤ 100000 ∧ -100000 ≤ k ∧ ∃ P : Nat → List S → Prop, P 0 ρ ∧
      (∀ (i : Nat) ρ', (i : Int) < k → P i ρ' → DS c (ρ'.set j (.val (.int i))) tb' (P (i + 1)) Rt N (P (i + 1))) ∧ (∀ ρ', P k.toNat ρ' → N ρ')) : DS c ρ (tFor (iRng1 (tCons te tNil)) (gName j) tb') N Rt B C := fun σ H I E n r b cc =>
  h σ H I _ fun v H1 d e a ⟨k, ed, k1, k2, P, p0, ps, pe⟩ => by
    subst ed
    cases a
    refine ⟨k, rfl, by omega, by omega, for_range (lo := 0) (n := k.toNat) (fun i σ H => Fz c H1 H ∧ ∃ ρ', EnvOk c H σ ρ' ∧ P i ρ') ⟨Fz.refl H1, ρ, I.same e, p0⟩ (fun i σ' H' hi q => ?_) fun σ' H' q => ?_⟩
    · obtain ⟨f1, ρ', J, p⟩ := q
      have e0 : (0 : Int) + (i : Int) = (i : Int) := Int.zero_add _
      rw [e0]
      exact ps i ρ' (by omega) p (σ'.set j (some (.int i))) H' (J.setV (.int _)) _ (fun s3 H3 r3 f3 J3 p3 => ⟨f1.trans f3, r3, J3, p3⟩) r (fun s3 H3 r3 f3 J3 p3 => n s3 H3 r3 ((Fz.of e).trans (f1.trans f3)) J3 p3) fun s3 H3 r3 f3 J3 p3 => ⟨f1.trans f3, r3, J3, p3⟩
    · obtain ⟨f1, ρ', J, p⟩ := q
      exact n σ' H' ρ' ((Fz.of e).trans f1) J (pe ρ' p)
/-- while -/
theorem ds_while (P : Nat → List S → Prop) (m0 : Nat) (p0 : P m0 ρ) (ps : ∀ m ρ', P m ρ' → DT c ρ' tt fun b => if b = true then DS c ρ' tb' (fun ρ2 => ∃ m', m' < m ∧ P m' ρ2) Rt N (fun ρ2 => ∃ m', m' < m ∧ P m' ρ2) else N ρ') : DS c ρ (tWhile tt tb') N Rt B C := fun σ H I E n r b cc => by
  refine ⟨fun m σ' H' => Fz c H H' ∧ ∃ ρ', EnvOk c H' σ' ρ' ∧ P m ρ', ⟨m0, Fz.refl H, ρ, I, p0⟩, fun m σ' H' ⟨f1, ρ', J, p⟩ => ps m ρ' p σ' H' J _ fun k H2 e2 q => ?_⟩
  cases k with
  | true =>
    show ∃ N : L2.St → Hp → Prop, _
    refine ⟨fun σ2 H3 => Fz c H H3 ∧ ∃ ρ2, EnvOk c H3 σ2 ρ2 ∧ ∃ m', m' < m ∧ P m' ρ2, fun σ2 H3 ⟨f3, ρ2, J2, m', hm, p2⟩ => ⟨m', hm, f3, ρ2, J2, p2⟩, ?_⟩
    exact q σ' H2 (J.same e2) _ (fun s3 H3 r3 f3 J3 p3 => ⟨f1.trans ((Fz.of e2).trans f3), r3, J3, p3⟩) r (fun s3 H3 r3 f3 J3 p3 => n s3 H3 r3 (f1.trans ((Fz.of e2).trans f3)) J3 p3) fun s3 H3 r3 f3 J3 p3 => ⟨f1.trans ((Fz.of e2).trans f3), r3, J3, p3⟩
  | false => exact n σ' H2 ρ' (f1.trans (.of e2)) (J.same e2) q
/-- self.f = e while self is being made -/
theorem ds_fldS {i : Nat} {Cl : Addr} {f : Str} {fs : List (Str × D)} (cl : Cls c.K Cl) (na : NoAttr c.K Cl f) (e0 : ρ[i]? = some (.self Cl fs)) (hf : f ∉ fs.map (·.1)) (hn : fs.map (·.1) ≠ c.T Cl) (hz : fs.length < 1000)
    (hd : ∀ j C' gs, ρ[j]? = some (.self C' gs) → j = i) (h : DE c ρ te fun d => N (ρ.set i (.self Cl (fs ++ [(f, d)])))) : DS c ρ (sFld c.K (tVar i) te f) N Rt B C := fun σ H I E n _ _ _ => h σ H I _ fun v H1 d e a q => by
  obtain ⟨p, dx, gs, h1, h2, h3, h4, h5⟩ := (I.same e).selfs e0
  have hfg : f ∉ gs.map (·.1) := by rw [h3]; exact hf
  have hng : gs.map (·.1) ≠ c.T Cl := by rw [h3]; exact hn
  have ep : putF f v gs = gs ++ [(f, v)] := by
    clear h2 h3 h4 hng
    induction gs with
    | nil => rfl
    | cons g r ih =>
      obtain ⟨g, x⟩ := g
      rw [List.map_cons, List.mem_cons, not_or] at hfg
      show (if g = f then (g, v) :: r else (g, x) :: putF f v r) = (g, x) :: (r ++ [(f, v)])
      rw [if_neg (fun z => hfg.1 z.symm), ih hfg.2]
  refine ⟨_, h1, p, Cl, dx, gs, rfl, h2, cl, na, ?_, ?_⟩
  · have := congrArg List.length h3
    rw [List.length_map, List.length_map] at this
    omega
  · rw [ep]
    have F := Fz.updI (c := c) (gs' := gs ++ [(f, v)]) h2 hng
    refine n σ _ _ ((Fz.of e).trans F) ⟨fun b o hb hw => ?_, fun b hb => ?_, by rw [List.length_set, I.len], fun j o s e1 e2 => ?_, fun j k l ds es e1 e2 e3 e4 => ?_⟩ q
    · have : b ≠ p := fun z => hw (by rw [z]; exact h5)
      rw [upd_ne this]
      exact (I.same e).sm b o hb hw
    · by_cases hbp : b = p
      · subst hbp
        rw [upd_same] at hb
        cases hb
      · rw [upd_ne hbp] at hb
        exact (I.same e).tr b hb
    · rcases set_cases e2 with ⟨rfl, _, rfl⟩ | ⟨ne, e2⟩
      · rw [h1] at e1
        cases e1
        refine ⟨p, dx, gs ++ [(f, v)], rfl, upd_same, by rw [List.map_append, List.map_append, h3]; rfl, ?_, h5⟩
        rw [List.map_append, List.map_append]
        exact (AtAll.updI h2 hng _ _ h4).append (.cons (F.ak _ _ a) .nil)
      · have s0 := (I.same e).slot j o s e1 e2
        cases s with
        | no => trivial
        | val d' =>
          obtain ⟨w, q1, q2⟩ := s0
          exact ⟨w, q1, F.ak _ _ q2⟩
        | own ds =>
          obtain ⟨l, xs, q1, q2, q3, q4⟩ := s0
          exact ⟨l, xs, q1, by rw [upd_ne (ne_of q2 h2 (fun z => nomatch z))]; exact q2, AtAll.updI h2 hng _ _ q3, q4⟩
        | self C' gs' => exact absurd (hd j C' gs' e2).symm ne
        | opn a' b' ns' es =>
          obtain ⟨q1, ⟨vs, q2, q3⟩, ⟨ob, q4⟩, q5, q6⟩ := s0
          exact ⟨q1, ⟨vs, by rw [upd_ne (ne_of q2 h2 (fun z => nomatch z))]; exact q2, AtAll.updI h2 hng _ _ q3⟩, ⟨ob, by rw [upd_ne (ne_of q4 h2 (fun z => nomatch z))]; exact q4⟩, q5, q6⟩
        | exc a' C' od' fs' =>
          refine ⟨s0.1, ?_⟩
          cases od' with
          | none => exact s0.2
          | some dx' =>
            obtain ⟨gs2, g1, g2, g3⟩ := s0.2
            exact ⟨gs2, by rw [upd_ne (ne_of g1 h2 (fun z => nomatch z))]; exact g1, g2, AtAll.updI h2 hng _ _ g3⟩
    · rcases set_cases e3 with ⟨_, _, z⟩ | ⟨_, e3⟩
      · cases z
      · rcases set_cases e4 with ⟨_, _, z⟩ | ⟨_, e4⟩
        · cases z
        · exact I.dis j k l ds es e1 e2 e3 e4
end
end Z

/-! ZF: comprehensions, the promise of a def over data, the end. -/
namespace Z
open PySem PySem.Spec PyProof.Rows L2

def wipeS (ρ : List S) : List Nat → List S
  | [] => ρ
  | v :: vs => (wipeS ρ vs).set v .no
section
variable {c : Cz} {ρ : List S} {ta tb te tv tl : TE} {tr : TA} {tt : TT} {g : TG} {gs : TGs} {QL : List D → Prop} {H : Hp} {σ : L2.St}
theorem EnvOk.wipe (I : EnvOk c H σ ρ) : ∀ vs : List Nat, EnvOk c H (L2.wipe σ vs) (wipeS ρ vs)
  | [] => I
  | v :: vs => (EnvOk.wipe I vs).setN
/-- a target of names that the block forgets -/
def GOk (g : TG) (vs : List Nat) : Prop := ∀ v σ H (R : L2.St → Hp → Prop), g v σ H (fun σ' H' => wipe σ' vs = wipe σ vs → R σ' H') → g v σ H R
theorem wipe_set {σ : L2.St} {i : Nat} {o : Option V} : ∀ {vs : List Nat}, i ∈ vs → wipe (σ.set i o) vs = wipe σ vs
  | [], h => by cases h
  | v :: vs, h => by
    unfold L2.wipe
    by_cases e : v = i
    · subst e
      have key : ∀ ws : List Nat, (wipe (σ.set v o) ws).set v none = (wipe σ ws).set v none := by
        intro ws
        induction ws with
        | nil => show (σ.set v o).set v none = σ.set v none; rw [List.set_set]
        | cons w ws ih =>
          show ((wipe (σ.set v o) ws).set w none).set v none = ((wipe σ ws).set w none).set v none
          by_cases q : w = v
          · subst q
            rw [List.set_set, List.set_set, ih]
          · rw [List.set_comm _ _ q, List.set_comm _ _ q, ih]
      exact key vs
    · rw [wipe_set (by rcases List.mem_cons.mp h with h | h; exact absurd h.symm e; exact h)]
theorem gok_name {i : Nat} {vs : List Nat} (h : i ∈ vs) : GOk (gName i) vs := fun v σ H R q => q (wipe_set h)
theorem gok_tup2 {K : PySem.W.Frag} {i j : Nat} {vs : List Nat} (hi : i ∈ vs) (hj : j ∈ vs) : GOk (gTup K 2 (gCons (gName i) (gCons (gName j) gNil))) vs := fun v σ H R q => by
  obtain ⟨a, xs, e, h1, h2, x, r, h3, y, r', h4, h5, h6⟩ := q
  exact ⟨a, xs, e, h1, h2, x, r, h3, y, r', h4, h5, h6 (by rw [wipe_set hj, wipe_set hi])⟩
/-- what the list under way holds -/
def Pl (c : Cz) (P : Nat → List D → Prop) (H1 : Hp) (D0 : Addr) (i : Nat) (H : Hp) : Prop := ∃ xs acc, H1 D0 = none ∧ Same H1 H ∧ H D0 = some (.lst xs) ∧ AtAll c.K c.T H xs acc ∧ acc.length ≤ i ∧ P i acc
theorem pl_turn {P : Nat → List D → Prop} {H1 H' : Hp} {D0 : Addr} {i : Nat} {vs : List Nat} {x : V} {y : D} (I : EnvOk c H1 σ ρ) (hg : GOk g vs) (hz : i < 100000) (p : Pl c P H1 D0 i H') (m : At c.K c.T H' x y)
    (h : ∀ acc, P i acc → DG c (wipeS ρ vs) g y fun ρ2 => DT c ρ2 tt fun b => if b = true then DE c ρ2 te fun z => P (i + 1) (acc ++ [z]) else P (i + 1) acc) :
    g x (wipe σ vs) H' fun σ2 H2 => wipe σ2 vs = wipe σ vs ∧ tt σ2 H2 fun b H3 => if b = true then te σ2 H3 fun z H4 => ∃ acc, H4 D0 = some (.lst acc) ∧ acc.length < sizeLine ∧ Pl c P H1 D0 (i + 1) (upd H4 D0 (.lst (acc ++ [z]))) else Pl c P H1 D0 (i + 1) H3 := by
  obtain ⟨xs, acc, d0, e1, h1, h2, h3, p1⟩ := p
  refine hg _ _ _ _ (h acc p1 (wipe σ vs) H' x ((I.same e1).wipe vs) m _ fun σ2 ρ2 J q hw => ⟨?_, ?_⟩)
  · have key : ∀ ws : List Nat, ∀ s : L2.St, wipe (wipe s ws) ws = wipe s ws := by
      intro ws
      induction ws with
      | nil => intro s; rfl
      | cons w ws ih =>
        intro s
        show (wipe ((wipe s ws).set w none) ws).set w none = (wipe s ws).set w none
        have k2 : ∀ us : List Nat, ∀ t : L2.St, (wipe (t.set w none) us).set w none = (wipe t us).set w none := by
          intro us
          induction us with
          | nil => intro t; show (t.set w none).set w none = t.set w none; rw [List.set_set]
          | cons u us ih2 =>
            intro t
            show ((wipe (t.set w none) us).set u none).set w none = ((wipe t us).set u none).set w none
            by_cases q : u = w
            · subst q
              rw [List.set_set, List.set_set, ih2]
            · rw [List.set_comm _ _ q, List.set_comm _ _ q, ih2]
        rw [k2, ih]
    rw [hw, key]
  · refine q σ2 H' J _ fun b H3 e3 q3 => ?_
    cases b with
    | true =>
      refine q3 σ2 H3 (J.same e3) _ fun z H4 d e4 mz pz => ?_
      have e34 := e3.trans e4
      refine ⟨xs, e34 _ _ h1, ?_, xs ++ [z], acc ++ [d], d0, fun b o hb => ?_, upd_same, ?_, ?_, pz⟩
      · have := h2.length
        exact sz_lt (by omega)
      · rw [upd_ne (ne_of_none hb d0)]
        exact e34 _ _ (e1 _ _ hb)
      · exact AtAll.sta (Sta.upd (e34 _ _ h1)) _ _ ((h2.same e34).append (.cons mz .nil))
      · rw [List.length_append, List.length_singleton]
        omega
    | false => exact ⟨xs, acc, d0, e1.trans e3, e3 _ _ h1, h2.same e3, by omega, q3⟩
/-- [e for g in xs if t] -/
theorem dl_lc {vs : List Nat} (hg : GOk g vs) (h : DE c ρ tl fun d => ∃ ds, (d = .lst ds ∨ d = .tup ds) ∧ ds.length ≤ 100000 ∧ ∃ P : Nat → List D → Prop, P 0 [] ∧
      (∀ i y acc, ds[i]? = some y → P i acc → DG c (wipeS ρ vs) g y fun ρ2 => DT c ρ2 tt fun b => if b = true then DE c ρ2 te fun z => P (i + 1) (acc ++ [z]) else P (i + 1) acc) ∧ (∀ acc, P ds.length acc → QL acc)) :
    DL c ρ (tLc (iSeq c.K tl) g tt te vs) QL := fun σ H I R k => h σ H I _ fun v H1 d e a ⟨ds, ed, hz, P, p0, ps, pe⟩ => by
  have I1 := I.same e
  have fin : ∀ (D0 : Addr) (n : Nat) H', n = ds.length → Pl c P H1 D0 n H' → R (.ref D0) H' := by
    rintro D0 n H' rfl ⟨xs, acc, d0, e1, h1, h2, _, p⟩
    exact k D0 H' xs acc (e.free d0) (e.trans e1) h1 h2 (pe acc p)
  have st : ∀ D0, H1 D0 = none → Pl c P H1 D0 0 (upd H1 D0 (.lst [])) := fun D0 hD => ⟨[], [], hD, Same.new hD, upd_same, .nil, Nat.le_refl _, p0⟩
  rcases ed with rfl | rfl
  · cases a with
    | lst h1 h2 =>
      have hl := h2.length
      refine ⟨_, rfl, .inl ⟨⟨_, .inl (.inr ⟨_, h1⟩)⟩, fun D0 hD => lc_list (K := c.K) (Pl c P H1 D0) (st D0 hD) (fun i H' _ q => ?_) (fun i x H' hx q => ?_) fun H' q => fin D0 _ H' hl q⟩⟩
      · obtain ⟨_, _, _, e1, _⟩ := q
        exact .inl (.inr ⟨_, e1 _ _ h1⟩)
      · obtain ⟨y, hy, m⟩ := h2.getV hx
        have hi : i < ds.length := (List.getElem?_eq_some_iff.mp hy).1
        have q' := q
        obtain ⟨_, _, _, e1, _⟩ := q'
        exact pl_turn I1 hg (by omega) q (m.same e1) fun acc p => ps i y acc hy p
  · cases a with
    | tup h1 h2 =>
      have hl := h2.length
      refine ⟨_, rfl, .inr ⟨⟨_, SqT.of h1⟩, fun D0 hD => lc_tup (K := c.K) (Pl c P H1 D0) (st D0 hD) (fun i H' _ q => ?_) (fun i x H' hx q => ?_) fun H' q => fin D0 _ H' hl q⟩⟩
      · obtain ⟨_, _, _, e1, _⟩ := q
        exact SqT.of (e1 _ _ h1)
      · obtain ⟨y, hy, m⟩ := h2.getV hx
        have hi : i < ds.length := (List.getElem?_eq_some_iff.mp hy).1
        have q' := q
        obtain ⟨_, _, _, e1, _⟩ := q'
        exact pl_turn I1 hg (by omega) q (m.same e1) fun acc p => ps i y acc hy p
/-- [e for i in range(n) if t] -/
theorem dl_lcR {j : Nat} {vs : List Nat} (hj : j ∈ vs) (h : DE c ρ ta fun d => ∃ n : Int, d = .int n ∧ -100000 ≤ n ∧ n ≤ 100000 ∧ ∃ P : Nat → List D → Prop, P 0 [] ∧
      (∀ (i : Nat) acc, (i : Int) < n → P i acc → DT c ((wipeS ρ vs).set j (.val (.int i))) tt fun b => if b = true then DE c ((wipeS ρ vs).set j (.val (.int i))) te fun z => P (i + 1) (acc ++ [z]) else P (i + 1) acc) ∧ (∀ acc, P n.toNat acc → QL acc)) :
    DL c ρ (tLc (iRng1 (tCons ta tNil)) (gName j) tt te vs) QL := fun σ H I R k => h σ H I _ fun v H1 d e a ⟨n, ed, n0, n1, P, p0, ps, pe⟩ => by
  subst ed
  cases a
  have I1 := I.same e
  refine ⟨n, rfl, by omega, by omega, fun D0 hD => lc_range (lo := 0) (n := n.toNat) (Pl c P H1 D0) ⟨[], [], hD, Same.new hD, upd_same, .nil, Nat.le_refl _, p0⟩ (fun i H' hi q => ?_) fun H' q => ?_⟩
  · have e0 : (0 : Int) + (i : Int) = (i : Int) := Int.zero_add _
    rw [e0]
    exact pl_turn (y := .int i) I1 (gok_name hj) (by omega) q (.int _) fun acc p => dg_name (ps i acc (by omega) p)
  · obtain ⟨xs, acc, d0, e1, h1, h2, _, p⟩ := q
    exact k D0 H' xs acc (e.free d0) (e.trans e1) h1 h2 (pe acc p)
/-- list(range(n)) -/
theorem dl_listRg (h : DR c ρ te fun d => ∃ n : Int, d = .int n ∧ 0 ≤ n ∧ n ≤ 100000 ∧ QL ((List.range n.toNat).map fun i => D.int (i : Nat))) : DL c ρ (tLstRg (tRg1 te)) QL := fun σ H I R k => h σ H I _ fun v H1 d e a ⟨n, ed, h0, h1, q⟩ => by
  subst ed
  refine ⟨n, a.int, RgOk.of_le (by omega) (by omega) (by omega) (by omega), fun p hp => ?_⟩
  have sm := Same.new (H := H1) (o := .lst (rgV 0 n)) hp
  refine k p _ _ _ (e.free hp) (e.trans sm) upd_same ?_ q
  unfold rgV
  have hn : (n - 0).toNat = n.toNat := by omega
  rw [hn]
  have : ∀ (l : List Nat) H', AtAll c.K c.T H' (l.map fun i => V.int ((0 : Int) + (i : Nat))) (l.map fun i => D.int (i : Nat)) := by
    intro l H'
    induction l with
    | nil => exact .nil
    | cons x l ih =>
      rw [List.map_cons, List.map_cons]
      refine .cons ?_ ih
      rw [Int.zero_add]
      exact .int _
  exact this _ _
end

/-! ### the promise of a def -/
theorem start_at {K : PySem.W.Frag} {T : Tb} {H : Hp} {W : Addr → Prop} {N : List Str} {vs : List V} {ds : List D} (a : AtAll K T H vs ds) : EnvOk ⟨K, T, W, H⟩ H (L2.start N vs) (ds.map S.val ++ List.replicate (N.length - ds.length) S.no) := by
  have hl := a.length
  have cases2 : ∀ {i : Nat} {s : S}, (ds.map S.val ++ List.replicate (N.length - ds.length) S.no)[i]? = some s → s = .no ∨ ∃ d, ds[i]? = some d ∧ s = .val d := by
    intro i s h
    by_cases hi : i < ds.length
    · rw [List.getElem?_append_left (by simpa using hi), List.getElem?_map] at h
      cases q : ds[i]? with
      | none => rw [q] at h; cases h
      | some d =>
        rw [q] at h
        exact .inr ⟨d, rfl, (Option.some.inj h).symm⟩
    · rw [List.getElem?_append_right (by simpa using hi)] at h
      exact .inl (List.eq_of_mem_replicate (List.mem_of_getElem? h))
  refine ⟨fun b o h _ => h, fun b h => h, ?_, fun i o s h1 h2 => ?_, fun i j l ds' es h1 h2 h3 h4 => ?_⟩
  · unfold L2.start
    rw [List.length_append, List.length_append, List.length_map, List.length_map, List.length_replicate, List.length_replicate, hl]
  · rcases cases2 h2 with rfl | ⟨d, hd, rfl⟩
    · trivial
    · obtain ⟨v, hv, m⟩ := a.get hd
      have hi : i < vs.length := (List.getElem?_eq_some_iff.mp hv).1
      unfold L2.start at h1
      rw [List.getElem?_append_left (by simpa using hi), List.getElem?_map, hv] at h1
      exact ⟨v, (Option.some.inj h1).symm, m⟩
  · rcases cases2 h3 with z | ⟨_, _, z⟩ <;> cases z
section
variable {P : Program} {w : World} {K : PySem.W.Frag} {mg : Str → Option Value} {base : Heap}
/-- a def that lets no exception out -/
theorem fn_D {T : Tb} {x qual : Str} {st : Stmt} {f : Addr} {fd : FuncData} {N ps : List Str} {k : Nat} {sp : DSp} (F : Fun K x qual st f fd) (Sc : FnScope N ps (defScope st)) (len : ∀ ds R X, sp ds R X → ds.length = ps.length)
    (body : ∀ (cdv : Value) (A : Around) (outer : List Env) (s : Shared) (H : Hp) (E : XK), Room k (A.deeper (envOfC qual (defScope st) s.heap.objs.size f cdv)) →
      ∃ t, PSs (cxOf CX0 P w K mg base N qual (defScope st) f cdv A outer s H E).nox (defBody st) t ∧
        ∀ ds R, sp ds R X0 → DS ⟨K, T, fun _ => False, H⟩ (ds.map S.val ++ List.replicate (N.length - ds.length) S.no) t (fun _ => R .non) (fun d _ => R d) (fun _ => False) fun _ => False)
    (x0 : ∀ ds R X, sp ds R X → sp ds R X0) :
    FnOk P w K mg base CX0 (k + 1) f fd ps (spD K T sp) := by
  refine F.ok Sc (fun vs H Q E h => ?_) fun cdv A outer s H vs Q E hr h => ?_
  · obtain ⟨ds, R, X, a, hs, _⟩ := h
    rw [a.length]
    exact len ds R X hs
  · obtain ⟨t, ht, q⟩ := body cdv A outer s H E hr
    obtain ⟨ds, R, X, a, hs, kr, _⟩ := h
    refine ⟨t, ht, q ds R (x0 _ _ _ hs) _ H (start_at a) _ (fun σ' H' ρ' _ J r => ?_) (fun v σ' H' d ρ' J m r => ?_) (fun _ _ _ _ _ z => z.elim) fun _ _ _ _ _ z => z.elim⟩
    · exact kr .non .non H' r (fun b o hb => J.sm b o hb (fun z => z)) .non
    · exact kr d v H' r (fun b o hb => J.sm b o hb (fun z => z)) m
/-- an __init__ that lets no exception out -/
theorem fn_I {T : Tb} {C : Addr} {x qual : Str} {st : Stmt} {f : Addr} {fd : FuncData} {N ps : List Str} {k : Nat} {sp : ISp} (F : Fun K x qual st f fd) (Sc : FnScope N ps (defScope st)) (len : ∀ ds R X, sp ds R X → ds.length + 1 = ps.length)
    (body : ∀ (cdv : Value) (A : Around) (outer : List Env) (s : Shared) (H : Hp) (E : XK), Room k (A.deeper (envOfC qual (defScope st) s.heap.objs.size f cdv)) →
      ∃ t, PSs (cxOf CX0 P w K mg base N qual (defScope st) f cdv A outer s H E).nox (defBody st) t ∧
        ∀ p ds F, sp ds F X0 → DS ⟨K, T, fun b => b = p, H⟩ (.self C [] :: (ds.map S.val ++ List.replicate (N.length - (ds.length + 1)) S.no)) t
          (fun ρ' => ∃ fs r, ρ' = .self C fs :: r ∧ fs.map (·.1) = T C ∧ T C ≠ [] ∧ F (fs.map (·.2))) (fun _ _ => False) (fun _ => False) fun _ => False)
    (x0 : ∀ ds R X, sp ds R X → sp ds R X0) :
    FnOk P w K mg base CX0 (k + 1) f fd ps (spI K T C sp) := by
  refine F.ok Sc (fun vs H Q E h => ?_) fun cdv A outer s H vs Q E hr h => ?_
  · obtain ⟨p, dx, ws, ds, F, X, rfl, _, a, hs, _⟩ := h
    rw [List.length_cons, a.length]
    exact len ds F X hs
  · obtain ⟨t, ht, q⟩ := body cdv A outer s H E hr
    obtain ⟨p, dx, ws, ds, F, X, rfl, hp, a, hs, kr, _⟩ := h
    have E0 := start_at (W := fun b => b = p) (N := N.drop 1) a
    have hl := a.length
    refine ⟨t, ht, q p ds F (x0 _ _ _ hs) _ H ?_ _ (fun σ' H' ρ' _ J r => ?_) (fun v σ' H' d ρ' J m r => r.elim) (fun _ _ _ _ _ z => z.elim) fun _ _ _ _ _ z => z.elim⟩
    · have e1 : L2.start N (V.ref p :: ws) = some (V.ref p) :: L2.start (N.drop 1) ws := by
        unfold L2.start
        rw [List.map_cons, List.cons_append, List.length_cons, List.length_drop]
        congr 3
        omega
      have e2 : (ds.map S.val ++ List.replicate (N.length - (ds.length + 1)) S.no) = (ds.map S.val ++ List.replicate ((N.drop 1).length - ds.length) S.no) := by
        rw [List.length_drop]
        congr 2
        omega
      rw [e1, e2]
      refine ⟨E0.sm, E0.tr, by rw [List.length_cons, List.length_cons, E0.len], fun i o s h1 h2 => ?_, fun i j l es fs h1 h2 h3 h4 => ?_⟩
      · cases i with
        | zero =>
          cases h1
          cases h2
          exact ⟨p, dx, [], rfl, hp, rfl, .nil, rfl⟩
        | succ i => exact E0.slot i o s h1 h2
      · cases i with
        | zero => cases h3
        | succ i =>
          cases j with
          | zero => cases h4
          | succ j => rw [E0.dis i j l es fs h1 h2 h3 h4]
    · obtain ⟨fs, r', e, hf, hT, hF⟩ := r
      subst e
      have s0 := J.slot 0
      have hσ : 0 < σ'.length := by rw [J.len]; exact Nat.succ_pos _
      obtain ⟨p', dx', gs, h1, h2, h3, h4, h5⟩ := J.slot 0 _ _ (List.getElem?_eq_getElem hσ) rfl
      have : p' = p := h5
      subst this
      exact kr (fs.map (·.2)) H' hF (fun b o hb hbp => J.sm b o hb hbp) (.obj h2 (by rw [h3]; exact hf) hT h4)
end
end Z

/-! ZG: operators that an own class defines, isinstance with an own class. -/
namespace Z
open PySem PySem.Spec PyProof.Rows L2

/-- what stands behind an operator of an own class: its def -/
structure OpDef (K : PySem.W.Frag) (C : Addr) (m : Str) (f : Addr) : Prop where
  find : PySem.W.findIn K (.ref C) m = some (some (.ref f))
  fn : PySem.W.isFn K (.ref f) = true
/-- x op y, both instances of the class at C, the answer True or False -/
def rCmpO (C : Addr) (sp : Sp) (E : XK) : R2 := fun x y H Q => ∃ a b dx dy fs gs, x = .ref a ∧ y = .ref b ∧ H a = some (.ins C dx fs) ∧ H b = some (.ins C dy gs) ∧ sp [x, y] H (fun v H' => ∃ k, v = .bl k ∧ Q (.bl k) H') E
/-- x op y, both instances of C -/
def rBinO (C : Addr) (sp : Sp) (E : XK) : R2 := fun x y H Q => ∃ a b dx dy fs gs, x = .ref a ∧ y = .ref b ∧ H a = some (.ins C dx fs) ∧ H b = some (.ins C dy gs) ∧ sp [x, y] H Q E
section
variable {X : Cx} {CX : CXT} {n : Nat} {C f : Addr} {fd : FuncData} {ps : List Str} {sp : Sp} {E : XK}
theorem run_two {pins : List (Addr × Obj)} {σ : L2.St} {H : Hp} {s : Shared} {Q : VK} {a b : Addr} (F : FnOk X.prog X.w X.K X.mg X.base CX n f fd ps sp) (hr : Room n X.A) (hb : Binds X.K fd ps []) (hx : Passes CX X E) (I : Inv X pins σ H s)
    (h : sp [.ref a, .ref b] H Q E) : wpAny (model X.prog X.w) X.A (call (.ref f) [.ref a, .ref b]) (EP X pins σ Q) X.xe s :=
  run_fn (us := [.ref a, .ref b]) (vs := [.ref a, .ref b]) F hr hb .nil hx I (.cons rfl (.cons rfl .nil)) h
theorem rich_cmpO {op : CmpOp} (F : FnOk X.prog X.w X.K X.mg X.base CX n f fd ps sp) (hr : Room n X.A) (hb : Binds X.K fd ps []) (hx : Passes CX X E) (O : OpDef X.K C (cmpInfo op).2.1 f)
    (pins : List (Addr × Obj)) (s : Shared) (σ : L2.St) (H : Hp) (x y : V) (v u : Value) (Q : VK) (I : Inv X pins σ H s) (rx : RelV x v) (ry : RelV y u) (h : rCmpO C sp E x y H Q) :
    wpAny (model X.prog X.w) X.A (richCompare op v u) (EP X pins σ Q) X.xe s := by
  obtain ⟨a, b, dx, dy, fs, gs, rfl, rfl, ha, hb', q⟩ := h
  cases rx
  cases ry
  obtain ⟨mA, J, _⟩ := ins_get I.hok ha
  obtain ⟨mB, J', _⟩ := ins_get I.hok hb'
  obtain ⟨od, J, _⟩ := J.look
  obtain ⟨od', J', _⟩ := J'.look
  obtain ⟨m, hF⟩ := I.fr
  refine PySem.W.cmp_K (op := op) (tb := .ref C) hr.units0 hF I.ok.mod.kin J J'.type (by simp [PySem.W.notFirst]) O.find O.fn ?_
  refine thn (run_two F hr hb hx I q) fun w s' ⟨z, H', I', rz, k, ez, q'⟩ => ?_
  subst ez
  cases rz
  exact ⟨.bl k, H', I', rfl, q'⟩
theorem op_ltO (F : FnOk X.prog X.w X.K X.mg X.base CX n f fd ps sp) (hr : Room n X.A) (hb : Binds X.K fd ps []) (hx : Passes CX X E) (O : OpDef X.K C (cmpInfo .Lt).2.1 f) : OpR X (compareOp .Lt) (rCmpO C sp E) := rich_cmpO F hr hb hx O
theorem op_leO (F : FnOk X.prog X.w X.K X.mg X.base CX n f fd ps sp) (hr : Room n X.A) (hb : Binds X.K fd ps []) (hx : Passes CX X E) (O : OpDef X.K C (cmpInfo .LtE).2.1 f) : OpR X (compareOp .LtE) (rCmpO C sp E) := rich_cmpO F hr hb hx O
theorem op_eqO (F : FnOk X.prog X.w X.K X.mg X.base CX n f fd ps sp) (hr : Room n X.A) (hb : Binds X.K fd ps []) (hx : Passes CX X E) (O : OpDef X.K C (cmpInfo .Eq).2.1 f) : OpR X (compareOp .Eq) (rCmpO C sp E) := rich_cmpO F hr hb hx O
end
section
variable {c : Cz} {ρ : List S} {ta tb : TE} {Q : D → Prop} {C : Addr} {S : DSp} {E : XK}
theorem de_cmpO (h : DR c ρ ta fun a => DR c ρ tb fun b => ∃ fs gs, a = .obj C fs ∧ b = .obj C gs ∧ S [a, b] (fun d => ∃ k, d = .bl k ∧ Q (.bl k)) X0) : DE c ρ (tOp (rCmpO C (spD c.K c.T S) E) ta tb) Q :=
  de_op (F := fun a b Q => ∃ fs gs, a = .obj C fs ∧ b = .obj C gs ∧ S [a, b] (fun d => ∃ k, d = .bl k ∧ Q (.bl k)) X0) (fun H x y a b P R hx hy ⟨fs, gs, ea, eb, q⟩ k => by
    subst ea eb
    obtain ⟨p, dx, xs, rfl, h1, h2, h3, h4⟩ := hx.obj
    obtain ⟨p', dx', ys, rfl, h1', h2', h3', h4'⟩ := hy.obj
    refine ⟨p, p', dx, dx', xs, ys, rfl, rfl, h1, h1', _, _, X0, .cons (.obj h1 h2 h3 h4) (.cons (.obj h1' h2' h3' h4') .nil), q, fun d v H' hp e m => ?_, fun _ _ _ _ z => z.elim⟩
    obtain ⟨b, ed, q'⟩ := hp
    subst ed
    cases m
    exact ⟨b, rfl, k _ H' _ e (.bl b) q'⟩) h
/-- isinstance(x, C) of an instance of C1 -/
structure ClsI (K : PySem.W.Frag) (C1 C : Addr) (b : Bool) : Prop where
  cl : Cls K C1
  ha : PySem.W.findIn K (.ref C1) "__class__" = some (some (.builtin "object.__class__"))
  hn : PySem.W.specialIn K (.builtin "object.__class__") "__get__" = some (some (.builtin "getset_descriptor.__get__"))
  htk : PySem.W.takesIn K (.builtin "object.__class__") = some true
  hm : PySem.W.mroIn K C1 (.type "object") = some true
  kit : PySem.W.kitOne K (.ref C1) (.ref C) = some b
theorem de_isiO (h : DR c ρ ta fun d => ∃ C1 fs b, d = .obj C1 fs ∧ ClsI c.K C1 C b ∧ Q (.bl b)) : DE c ρ (tCB (rIsi c.K) (tCons ta (tCons (tC (.ref C)) tNil))) Q := fun σ H I R k =>
  h σ H I _ fun v H1 d e a ⟨C1, fs, b, ed, F, q⟩ => by
    subst ed
    obtain ⟨p, dx, xs, rfl, h1, h2, h3, h4⟩ := a.obj
    exact ⟨_, .ref C, .ref C1, .ref C, b, rfl, by constructor, .base (.ins h1 F.cl F.ha F.hn F.htk F.hm), F.kit, k _ H1 _ e (.bl b) q⟩
end
end Z

/-! ZH: the source of a law's draws. -/
namespace Z
open PySem PySem.Spec PyProof.Rows L2

section
variable {c : Cz} {ρ : List S} {te : TE} {Q : D → Prop}
theorem src_items {K : PySem.W.Frag} {T : Tb} {H : Hp} {xs : List V} {ns : List Int} {i c0 l t : Int} {fl : Bool} (a : AtAll K T H xs [.lst (ns.map D.int), .int i, .int c0, .int l, .int t, .bl fl]) :
    ∃ b o, xs = [.ref b, .int i, .int c0, .int l, .int t, .bl fl] ∧ H b = some (.frz o (.lst (ns.map V.int))) := by
  cases a with
  | cons a1 a =>
    cases a with
    | cons a2 a =>
      cases a with
      | cons a3 a =>
        cases a with
        | cons a4 a =>
          cases a with
          | cons a5 a =>
            cases a with
            | cons a6 a =>
              cases a
              cases a2
              cases a3
              cases a4
              cases a5
              cases a6
              cases a1 with
              | lst h1 h2 =>
                have e := h2.ints
                subst e
                exact ⟨_, _, rfl, h1⟩
theorem de_src (h : DL c ρ te fun ds => ∃ (ns : List Int) (i c0 l t : Int) (fl : Bool), ds = [.lst (ns.map D.int), .int i, .int c0, .int l, .int t, .bl fl] ∧ 0 ≤ i ∧ Q .src) : DE c ρ (tSrc te) Q := fun σ H I R k => h σ H I _ fun p H' xs ds hp e e2 a ⟨ns, i, c0, l, t, fl, ed, hi, q⟩ => by
  subst ed
  obtain ⟨b, o, rfl, hb⟩ := src_items a
  refine ⟨p, b, i, c0, l, t, fl, rfl, e2, hi, k _ _ .src (fun b' u hb' => ?_) (.src upd_same (by rw [upd_ne (ne_of hb e2 (fun z => nomatch z))]; exact hb)) q⟩
  rw [upd_ne (ne_of_none hb' hp)]
  exact e b' u hb'
end

/-- the promise of a def that draws by itself: its first argument is the source, opened; the others are ints -/
def spO (K : PySem.W.Frag) (T : Tb) (S : DSp) : Sp := fun vs H Q _ => ∃ (l b : Addr) (o : Obj) (ns : List Int) (i c0 l0 t0 : Int) (fl : Bool) (is : List Int) (R : D → Prop), vs = .ref l :: is.map V.int ∧
  H l = some (.lst [.ref b, .int i, .int c0, .int l0, .int t0, .bl fl]) ∧ H b = some (.frz o (.lst (ns.map V.int))) ∧ 0 ≤ i ∧
  S (.src :: is.map D.int) R X0 ∧ ∀ (j : Int) (H' : Hp) (i' c' l' t' : Int) (fl' : Bool), R (.int j) → (∀ a u, H a = some u → a ≠ l → H' a = some u) → H' l = some (.lst [.ref b, .int i', .int c', .int l', .int t', .bl fl']) → 0 ≤ i' → Q (.int j) H'
section
variable {P : Program} {w : World} {K : PySem.W.Frag} {mg : Str → Option Value} {base : Heap}
theorem hok_upd {H : Hp} {h : Heap} {a : Addr} {o : HO} (x : HOk P w H h) (n1 : ∀ y, H a ≠ some (.own y)) (n2 : ∀ xs, H a ≠ some (.tup xs)) (new : ObjOk P w (upd H a o) h a o) : HOk P w (upd H a o) h := fun b u q => by
  by_cases hb : b = a
  · subst hb
    rw [upd_same] at q
    cases q
    exact new
  · rw [upd_ne hb] at q
    exact (x b u q).stay (fun c v _ q => q) (fun c q => by rw [upd_ne (fun z => n1 b (by rw [← z]; exact q))]; exact q) fun c ys q => by rw [upd_ne (fun z => n2 ys (by rw [← z]; exact q))]; exact q
theorem fn_open {T : Tb} {f : Addr} {fd : FuncData} {ps : List Str} {k : Nat} {sp : DSp} (F : FnOk P w K mg base CX0 k f fd ps (spO K T sp)) (hs : ∀ ds R X, sp ds R X → ds.length = ps.length ∧ sp ds R X0 ∧ ∃ is : List Int, ds = .src :: is.map D.int) : FnOk P w K mg base CX0 k f fd ps (spD K T sp) := by
  refine ⟨fun vs H Q E h => ?_, fun A outer s H args us vs Q E hr he hb hv h => ?_⟩
  · obtain ⟨ds, R, X, a, q, _⟩ := h
    rw [a.length]
    exact (hs ds R X q).1
  · obtain ⟨ds, R, X, a, q, kr, _⟩ := h
    obtain ⟨_, q0, is, rfl⟩ := hs ds R X q
    cases a with
    | @cons v ws _ _ a1 a2 =>
      have ew := a2.ints
      subst ew
      cases a1 with
      | @src a b o ns h1 h2 =>
        obtain ⟨⟨its, n, i, c0, l0, t0, fl, rv, g, hi⟩, ⟨ob, g2⟩, st⟩ := he.hok a _ h1
        have nn : ∀ {b}, H b = none → b ≠ a := fun {b} z y => by rw [y, h1] at z; cases z
        have nx : ∀ {b u}, H b = some u → (∀ φ, u ≠ .ext φ) → b ≠ a := fun {b u} z y w => by
          rw [w, h1] at z
          cases z
          exact y _ rfl
        have hab : b ≠ a := nx h2 fun φ z => nomatch z
        have e1 : Env0 P w K mg base A outer s (upd H a (.lst [.ref b, .int i, .int c0, .int l0, .int t0, .bl fl])) := by
          refine ⟨he.frames, he.mod, fun b' o' z => ⟨(he.bs b' o' z).1, ?_⟩, he.bsz, he.funs, fun b' z => ?_, ?_, he.bare⟩
          · rw [upd_ne (nn (he.bs b' o' z).2)]
            exact (he.bs b' o' z).2
          · rw [upd_ne (nn (he.frf b' z))]
            exact he.frf b' z
          · refine hok_upd he.hok (fun y z => by rw [h1] at z; cases z) (fun y z => by rw [h1] at z; cases z) ?_
            exact ⟨(by show 6 ≤ sizeLine; decide), its, n, rv, g⟩
        have sp1 : spO K T sp (.ref a :: is.map V.int) (upd H a (.lst [.ref b, .int i, .int c0, .int l0, .int t0, .bl fl])) (fun v H2 => ∃ (j : Int) (i' c' l' t' : Int) (fl' : Bool), v = .int j ∧ R (.int j) ∧ (∀ a' u, H a' = some u → a' ≠ a → H2 a' = some u) ∧
            H2 a = some (.lst [.ref b, .int i', .int c', .int l', .int t', .bl fl']) ∧ 0 ≤ i') E := by
          refine ⟨a, b, o, ns, i, c0, l0, t0, fl, is, R, rfl, upd_same, by rw [upd_ne hab]; exact h2, hi, q0, fun j H' i' c' l' t' fl' hr' hk hl h0 => ⟨j, i', c', l', t', fl', rfl, hr', fun a' u z y => hk a' u (by rw [upd_ne y]; exact z) y, hl, h0⟩⟩
        refine codeAny_mono (F.run A outer s _ args us _ _ E hr e1 hb hv sp1) fun r s' z => ?_
        cases r with
        | error e => exact False.elim z
        | ok fl1 =>
          cases fl1 with
          | next => exact False.elim z
          | brk => exact False.elim z
          | cont => exact False.elim z
          | ret u =>
            obtain ⟨v, H2, os, bare, un, hok, r', j, i', c', l', t', fl', ev, hrj, hk, hl, h0⟩ := z
            subst ev
            have n2 : ∀ {b u}, H b = some u → b ≠ a → upd H2 a (.ext (srcP a b)) b = some u := fun {b u} z y => by rw [upd_ne y]; exact hk b u z y
            have up : ∀ {c u}, H c = some u → c ≠ a → upd H a (.lst [.ref b, .int i, .int c0, .int l0, .int t0, .bl fl]) c = some u := fun {c u} z y => by rw [upd_ne y]; exact z
            have upn : ∀ {c}, H c = none → upd H a (.lst [.ref b, .int i, .int c0, .int l0, .int t0, .bl fl]) c = none := fun {c} z => by rw [upd_ne (nn z)]; exact z
            have na : a < s.heap.objs.size := (he.hok a _ h1).lt
            refine ⟨.int j, upd H2 a (.ext (srcP a b)), os, bare, ⟨fun c ob q n hf hx => un.keep c ob q (upn n) hf hx, fun c ob q n hf hx => un.slot c ob q (upn n) hf hx, fun c ob q n hx => ?_, un.there, fun c xs z => ?_, fun c ob u z => ?_, fun c ps z => ?_⟩, ?_, r', ?_⟩
            · rw [upd_ne (nn n)]
              exact un.free c ob q (upn n) hx
            · have y := nx z fun φ z => nomatch z
              rw [upd_ne y]
              exact un.tups c xs (up z y)
            · have y := nx z fun φ z => nomatch z
              rw [upd_ne y]
              exact un.frzs c ob u (up z y)
            · have y := nx z fun φ z => nomatch z
              rw [upd_ne y]
              exact un.tbls c ps (up z y)
            · refine hok_upd hok (fun y z => by rw [hl] at z; cases z) (fun y z => by rw [hl] at z; cases z) ?_
              obtain ⟨z1, its', n', rv', g'⟩ := hok a _ hl
              refine ⟨⟨its', n', i', c', l', t', fl', rv', g', h0⟩, ⟨_, g'⟩, fun x1 x2 => ?_⟩
              rintro ⟨its, n, i, c, l, t, fl, rv, g, hi⟩ k
              exact ⟨its, n, i, c, l, t, fl, rv, k _ g, hi⟩
            · refine kr (.int j) _ _ hrj (fun c u z => ?_) (.int j)
              by_cases y : c = a
              · subst y
                rw [h1] at z
                cases z
                exact upd_same
              · rw [upd_ne y]
                exact hk c u z y
/-- its body -/
theorem fn_O {T : Tb} {x qual : Str} {st : Stmt} {f : Addr} {fd : FuncData} {N ps : List Str} {k : Nat} {sp : DSp} (F : Fun K x qual st f fd) (Sc : FnScope N ps (defScope st))
    (hs : ∀ ds R X, sp ds R X → ds.length = ps.length ∧ sp ds R X0 ∧ ∃ is : List Int, ds = .src :: is.map D.int)
    (body : ∀ (cdv : Value) (A : Around) (outer : List Env) (s : Shared) (H : Hp) (E : XK), Room k (A.deeper (envOfC qual (defScope st) s.heap.objs.size f cdv)) →
      ∃ t, PSs (cxOf CX0 P w K mg base N qual (defScope st) f cdv A outer s H E).nox (defBody st) t ∧
        ∀ l b (ns : List Int) (i c0 l0 t0 : Int) fl (is : List Int) R, 0 ≤ i → sp (.src :: is.map D.int) R X0 → DS ⟨K, T, fun a => a = l, H⟩ (.opn l b ns [.int i, .int c0, .int l0, .int t0, .bl fl] :: ((is.map fun z => S.val (.int z)) ++ List.replicate (N.length - (is.length + 1)) S.no)) t
          (fun _ => False) (fun d ρ' => ∃ j i' c' l' t' fl' r, d = .int j ∧ 0 ≤ i' ∧ ρ' = .opn l b ns [.int i', .int c', .int l', .int t', .bl fl'] :: r ∧ R d) (fun _ => False) fun _ => False) :
    FnOk P w K mg base CX0 (k + 1) f fd ps (spD K T sp) := by
  refine fn_open (F.ok Sc (fun vs H Q E h => ?_) fun cdv A outer s H vs Q E hr h => ?_) hs
  · obtain ⟨l, b, o, ns, i, c0, l0, t0, fl, is, R, rfl, _, _, _, q, _⟩ := h
    have := (hs _ _ _ q).1
    rw [List.length_cons, List.length_map] at this ⊢
    exact this
  · obtain ⟨t, ht, q⟩ := body cdv A outer s H E hr
    obtain ⟨l, b, o, ns, i, c0, l0, t0, fl, is, R, rfl, hl, hb, hi, hS, kr⟩ := h
    have E0 := start_at (K := K) (T := T) (H := H) (W := fun a => a = l) (N := N.drop 1) (AtAll.of_ints is)
    refine ⟨t, ht, q l b ns i c0 l0 t0 fl is R hi hS _ H ?_ _ (fun σ' H' ρ' _ J z => z.elim) (fun v σ' H' d ρ' J m r => ?_) (fun _ _ _ _ _ z => z.elim) fun _ _ _ _ _ z => z.elim⟩
    · have e1 : L2.start N (V.ref l :: is.map V.int) = some (V.ref l) :: L2.start (N.drop 1) (is.map V.int) := by
        unfold L2.start
        rw [List.map_cons, List.cons_append, List.length_cons, List.length_drop]
        congr 3
        omega
      have e2 : ((is.map fun z => S.val (.int z)) ++ List.replicate (N.length - (is.length + 1)) S.no) = ((is.map D.int).map S.val ++ List.replicate ((N.drop 1).length - (is.map D.int).length) S.no) := by
        rw [List.length_drop, List.length_map, List.map_map]
        congr 2
        omega
      rw [e1, e2]
      refine ⟨E0.sm, E0.tr, by rw [List.length_cons, List.length_cons, E0.len], fun i o s h1 h2 => ?_, fun i j l es fs h1 h2 h3 h4 => ?_⟩
      · cases i with
        | zero =>
          cases h1
          cases h2
          refine ⟨rfl, ⟨_, hl, .cons (.int _) (.cons (.int _) (.cons (.int _) (.cons (.int _) (.cons (.bl _) .nil))))⟩, ⟨o, hb⟩, rfl, ?_⟩
          show H l ≠ none
          rw [hl]
          exact fun z => nomatch z
        | succ i => exact E0.slot i o s h1 h2
      · cases i with
        | zero => cases h3
        | succ i =>
          cases j with
          | zero => cases h4
          | succ j => rw [E0.dis i j l es fs h1 h2 h3 h4]
    · obtain ⟨j, i', c', l', t', fl', r', ed, h0, er, hR⟩ := r
      subst ed
      cases m
      subst er
      obtain ⟨_, ⟨vs, h2, h3⟩, _, _, _⟩ := J.opn (i := 0) rfl
      cases h3 with
      | cons a1 h3 =>
        cases h3 with
        | cons a2 h3 =>
          cases h3 with
          | cons a3 h3 =>
            cases h3 with
            | cons a4 h3 =>
              cases h3 with
              | cons a5 h3 =>
                cases h3
                cases a1
                cases a2
                cases a3
                cases a4
                cases a5
                exact kr j H' i' c' l' t' fl' hR (fun a u hu ha => J.sm a u hu ha) h2 h0
end
/-! ### the opened source read and written -/
section
variable {c : Cz} {ρ : List S} {tb te : TE} {Q : D → Prop} {N B C : List S → Prop} {Rt : D → List S → Prop}
theorem de_ixO0 {i : Nat} {a b : Addr} {ns : List Int} {ds : List D} (e : ρ[i]? = some (.opn a b ns ds)) (q : Q (.lst (ns.map D.int))) : DE c ρ (tOp (rIx c.K) (tVar i) (tC (.int 0))) Q := fun σ H I R k => by
  obtain ⟨h1, ⟨vs, h2, h3⟩, ⟨ob, h4⟩, _⟩ := I.opn e
  exact ⟨_, h1, .inl ⟨a, _, 0, .ref b, rfl, rfl, SqL.of h2, atI_nat (j := 0) rfl, k _ H _ (SameR H) (.lst h4 (AtAll.of_ints ns)) q⟩⟩
theorem de_ixO {i j : Nat} {a b : Addr} {ns : List Int} {ds : List D} {d : D} (e : ρ[i]? = some (.opn a b ns ds)) (hd : ds[j]? = some d) (q : Q d) : DE c ρ (tOp (rIx c.K) (tVar i) (tC (.int ((j + 1 : Nat) : Int)))) Q := fun σ H I R k => by
  obtain ⟨h1, ⟨vs, h2, h3⟩, ⟨ob, h4⟩, _⟩ := I.opn e
  obtain ⟨v, hv, m⟩ := h3.get hd
  exact ⟨_, h1, .inl ⟨a, _, _, v, rfl, rfl, SqL.of h2, atI_nat (by simpa using hv), k v H d (SameR H) m q⟩⟩
theorem ds_setO {i j : Nat} {a b : Addr} {ns : List Int} {ds : List D} (e : ρ[i]? = some (.opn a b ns ds)) (hj : j < ds.length) (hd : ∀ j a' b' ns' ds', ρ[j]? = some (.opn a' b' ns' ds') → j = i)
    (h : DE c ρ te fun d => N (ρ.set i (.opn a b ns (ds.set j d)))) : DS c ρ (tAsg te (gSub (tVar i) (tC (.int ((j + 1 : Nat) : Int))) rSetL)) N Rt B C := fun σ H I E n _ _ _ => h σ H I _ fun v H1 d e1 a1 q => by
  obtain ⟨h1, ⟨vs, h2, h3⟩, _⟩ := (I.same e1).opn e
  have hl := h3.length
  refine ⟨_, h1, a, _, ((j + 1 : Nat) : Int), j + 1, rfl, rfl, h2, ?_, n σ _ _ ((Fz.of e1).trans (Fz.upd h2)) ((I.same e1).updO e h2 (AtAll.set a1 j h3) hd) q⟩
  unfold ixN
  rw [if_pos (by omega), if_pos (by rw [List.length_cons]; omega)]
  simp
end
end Z

/-! ZI: what a def asks of its callees, small steps. -/
namespace Z
open PySem PySem.Spec PyProof.Rows L2

section
variable (P : Program) (w : World) (K : PySem.W.Frag) (mg : Str → Option Value) (base : Heap)
/-- a def of the top, with its promise -/
structure Cal (CX : CXT) (k : Nat) (x : Str) (ps : List Str) (sp : Sp) (f : Addr) (fd : FuncData) : Prop where
  G : FnOk P w K mg base CX k f fd ps sp
  mg : mg x = some (.ref f)
  kp : PySem.W.keepIn K (.ref f) = true
  b : Binds K fd ps []
/-- a method -/
structure CalM (CX : CXT) (k : Nat) (C : Addr) (m : Str) (ps : List Str) (sp : Sp) (f : Addr) (fd : FuncData) : Prop where
  G : FnOk P w K mg base CX k f fd ps sp
  me : Meth K C m f
  cl : Cls K C
  b : Binds K fd ps []
theorem CalM.find {P : Program} {w : World} {K : PySem.W.Frag} {mg : Str → Option Value} {base : Heap} {CX : CXT} {k : Nat} {C : Addr} {m : Str} {ps : List Str} {sp : Sp} {f : Addr} {fd : FuncData} (c : CalM P w K mg base CX k C m ps sp f fd) : PySem.W.findIn K (.ref C) m = some (some (.ref f)) := c.me.at_
theorem CalM.fn {P : Program} {w : World} {K : PySem.W.Frag} {mg : Str → Option Value} {base : Heap} {CX : CXT} {k : Nat} {C : Addr} {m : Str} {ps : List Str} {sp : Sp} {f : Addr} {fd : FuncData} (c : CalM P w K mg base CX k C m ps sp f fd) : PySem.W.isFn K (.ref f) = true := c.me.fn
/-- a property -/
structure CalP (CX : CXT) (k : Nat) (C : Addr) (m : Str) (ps : List Str) (sp : Sp) (p f : Addr) (fd : FuncData) : Prop where
  G : FnOk P w K mg base CX k f fd ps sp
  pr : PropOf K C m p f
  cl : Cls K C
  b : Binds K fd ps []
/-- a class that is called -/
structure CalK (CX : CXT) (k : Nat) (x : Str) (C : Addr) (ps : List Str) (sp : Sp) (f : Addr) (fd : FuncData) : Prop where
  G : FnOk P w K mg base CX k f fd ps sp
  M : Mk K C f
  mg : mg x = some (.ref C)
  b : Binds K fd ps []
end

section
variable {c : Cz} {ρ : List S} {te : TE} {Q : D → Prop} {A B : Prop}
theorem FAdd_int {i j : Int} (h : Q (.int (i + j))) : FAdd (.int i) (.int j) Q := h
theorem FAdd_tup {a b : List D} (hz : a.length + b.length ≤ 100000) (h : Q (.tup (a ++ b))) : FAdd (.tup a) (.tup b) Q := ⟨hz, h⟩
theorem FI_int {C : Int → Int → Prop} {g : Int → Int → Int} {i j : Int} (hc : C i j) (h : Q (.int (g i j))) : FI C g (.int i) (.int j) Q := ⟨i, j, rfl, rfl, hc, h⟩
theorem cmulR {i j : Int} (h : -18446744073709551616 < j) (h' : j < 18446744073709551616) : CMul i j ∨ CMulW i j := by
  have e : (2 : Int) ^ 64 = 18446744073709551616 := by decide
  exact .inl (.inr ⟨by rw [e]; exact h, by rw [e]; exact h'⟩)
theorem cmulL {i j : Int} (h : -18446744073709551616 < i) (h' : i < 18446744073709551616) : CMul i j ∨ CMulW i j := by
  have e : (2 : Int) ^ 64 = 18446744073709551616 := by decide
  exact .inl (.inl ⟨by rw [e]; exact h, by rw [e]; exact h'⟩)
theorem cdiv {i j : Int} (h : 0 < j) (h' : j.natAbs.log2 < 9000) : CDivW i j := ⟨h, h'⟩
theorem cdivS {i j : Int} (h : 0 < j) (h' : j < 1000000) : CDivW i j := ⟨h, by
  have : j.natAbs < 2 ^ 20 := by omega
  exact Nat.lt_of_le_of_lt (Nat.le_of_lt (PySem.Flt.log2_lt_of (by decide) this)) (by decide)⟩
theorem drawn_small {n : Int} (h : n.natAbs ≤ 1000000000000000000) : n.natAbs.log2 < 9000 := by
  have : n.natAbs < 2 ^ 60 := Nat.lt_of_le_of_lt h (by decide)
  exact Nat.lt_trans (PySem.Flt.log2_lt_of (by decide) this) (by decide)
theorem cpow {i j : Int} (h : 0 ≤ j) (h' : j ≤ 1000000) (h2 : i.natAbs < 18446744073709551616) : CPow i j := ⟨h, h', by
  have e : 2 ^ 64 = 18446744073709551616 := by decide
  rw [e]; exact h2⟩
theorem ex_sub {i j : Int} {Q : Int → Int → Prop} (h : Q i j) : ∃ i' j', D.int i = .int i' ∧ D.int j = .int j' ∧ Q i' j' := ⟨i, j, rfl, rfl, h⟩
theorem ex_mul {i j : Int} {Q : Int → Int → Prop} (c : CMul i j ∨ CMulW i j) (h : Q i j) : ∃ i' j', D.int i = .int i' ∧ D.int j = .int j' ∧ (CMul i' j' ∨ CMulW i' j') ∧ Q i' j' := ⟨i, j, rfl, rfl, c, h⟩
theorem ex_int {i : Int} {Q : Int → Prop} {B : Prop} (h : Q i) : (∃ i', D.int i = .int i' ∧ Q i') ∨ B := .inl ⟨i, rfl, h⟩
theorem ex_bl {b : Bool} {Q : Bool → Prop} (h : Q b) : ∃ b', D.bl b = .bl b' ∧ Q b' := ⟨b, rfl, h⟩
theorem ex_lenL {ds : List D} {Q : List D → Prop} (h : Q ds) : ∃ ds', (D.lst ds = .lst ds' ∨ D.lst ds = .tup ds') ∧ Q ds' := ⟨ds, .inl rfl, h⟩
theorem ex_lenT {ds : List D} {Q : List D → Prop} (h : Q ds) : ∃ ds', (D.tup ds = .lst ds' ∨ D.tup ds = .tup ds') ∧ Q ds' := ⟨ds, .inr rfl, h⟩
theorem ex_truI {i : Int} {Q : Bool → Prop} (h : Q (i != 0)) : ∃ k, truD (.int i) = some k ∧ Q k := ⟨_, rfl, h⟩
theorem ex_truB {b : Bool} {Q : Bool → Prop} (h : Q b) : ∃ k, truD (.bl b) = some k ∧ Q k := ⟨_, rfl, h⟩
theorem FEq_int {f : Bool → Bool} {i j : Int} (h : Q (.bl (f (decide (i = j))))) : FEq f (.int i) (.int j) Q := h
theorem FEq_id {i j : Int} (h : Q (.bl (decide (i = j)))) : FEq id (.int i) (.int j) Q := h
theorem FEq_not {i j : Int} (h : Q (.bl (!decide (i = j)))) : FEq not (.int i) (.int j) Q := h
theorem FCmp_int {g : Int → Int → Bool} {f : PyData → PyData → Bool} {i j : Int} (h : Q (.bl (g i j))) : FCmp g f (.int i) (.int j) Q := h
theorem FIx_lst {ds : List D} {i : Int} {d : D} (h : atI ds i = some d) (q : Q d) : FIx (.lst ds) (.int i) Q := ⟨d, h, q⟩
theorem FIx_tup {ds : List D} {i : Int} {d : D} (h : atI ds i = some d) (q : Q d) : FIx (.tup ds) (.int i) Q := ⟨d, h, q⟩
theorem ite_dec {p : Prop} [Decidable p] (h : p → A) (h' : ¬ p → B) : if decide p = true then A else B := by
  by_cases e : p
  · rw [if_pos (decide_eq_true e)]
    exact h e
  · rw [if_neg (by simpa using e)]
    exact h' e
theorem ite_decT {p : Prop} [Decidable p] (e : p) (h : A) : if decide p = true then A else B := by
  rw [if_pos (decide_eq_true e)]
  exact h
theorem ite_decF {p : Prop} [Decidable p] (e : ¬ p) (h : B) : if decide p = true then A else B := by
  rw [if_neg (by simpa using e)]
  exact h
theorem iteNT {B : Prop} (h : B) : if (!true) = true then A else B := by
  rw [if_neg (by decide)]
  exact h
theorem iteNF {B : Prop} (h : A) : if (!false) = true then A else B := by
  rw [if_pos (by decide)]
  exact h
theorem ite_ndecT {p : Prop} [Decidable p] (e : ¬ p) (h : A) : if (!decide p) = true then A else B := by
  rw [if_pos (by simpa using e)]
  exact h
theorem ite_ndecF {p : Prop} [Decidable p] (e : p) (h : B) : if (!decide p) = true then A else B := by
  rw [if_neg (by simpa using e)]
  exact h
theorem ite_ndec {p : Prop} [Decidable p] (h : ¬ p → A) (h' : p → B) : if (!decide p) = true then A else B := by
  by_cases e : p
  · rw [if_neg (by simpa using e)]
    exact h' e
  · rw [if_pos (by simpa using e)]
    exact h e
theorem ite_bl {b : Bool} (h : b = true → A) (h' : b = false → B) : if b = true then A else B := by
  cases b with
  | true => exact h rfl
  | false => exact h' rfl
theorem ite_nbl {b : Bool} (h : b = false → A) (h' : b = true → B) : if (!b) = true then A else B := by
  cases b with
  | true => exact h' rfl
  | false => exact h rfl
/-- with a word between -/
theorem ds_seqC {t u : TS} {N B C : List S → Prop} {Rt : D → List S → Prop} (M : List S → Prop) (h : DS c ρ t M Rt B C) (k : ∀ ρ', M ρ' → DS c ρ' u N Rt B C) : DS c ρ (tSeq t u) N Rt B C := ds_seq (ds_mono h k)
theorem ds_asgC {i : Nat} {N B C : List S → Prop} {Rt : D → List S → Prop} (M : D → Prop) (h : DE c ρ te M) (k : ∀ d, M d → N (ρ.set i (.val d))) : DS c ρ (tAsg te (gName i)) N Rt B C := ds_asg (de_mono h k)
theorem de_cut (M : D → Prop) (h : DE c ρ te M) (k : ∀ d, M d → Q d) : DE c ρ te Q := de_mono h k
theorem dl_mono {QL QL' : List D → Prop} (h : DL c ρ te QL) (k : ∀ d, QL d → QL' d) : DL c ρ te QL' := fun σ H I R r => h σ H I R fun p H' xs ds h1 e e2 a q => r p H' xs ds h1 e e2 a (k ds q)
theorem ds_never {N B C : List S → Prop} {Rt : D → List S → Prop} (h : False) : DS c ρ tNever N Rt B C := h.elim
def notO : S → Bool
  | .opn _ _ _ _ => false
  | _ => true
theorem ds_setO0 {j : Nat} {a b : Addr} {ns : List Int} {ds : List D} {r : List S} {N B C : List S → Prop} {Rt : D → List S → Prop} (hr : r.all notO = true) (hj : j < ds.length)
    (h : DE c (.opn a b ns ds :: r) te fun d => N (.opn a b ns (ds.set j d) :: r)) : DS c (.opn a b ns ds :: r) (tAsg te (gSub (tVar 0) (tC (.int ((j + 1 : Nat) : Int))) rSetL)) N Rt B C :=
  ds_setO (i := 0) rfl hj (fun k a' b' ns' ds' e => by
    cases k with
    | zero => rfl
    | succ k =>
      have := List.all_eq_true.mp hr _ (List.mem_of_getElem? e)
      cases this) h

mutual
/-- no object within, below the depth n, no list too long -/
def ok : Nat → D → Bool
  | _, .non => true
  | _, .bl _ => true
  | _, .int _ => true
  | _, .str _ => true
  | n + 1, .tup ds => decide (ds.length ≤ 100000) && oks n ds
  | n + 1, .lst ds => decide (ds.length ≤ 100000) && oks n ds
  | _, _ => false
def oks : Nat → List D → Bool
  | _, [] => true
  | n, d :: ds => ok n d && oks n ds
end
theorem oks_get : ∀ {n : Nat} {ds : List D} {i : Nat} {d : D}, oks n ds = true → ds[i]? = some d → ok n d = true
  | n, [], i, d, _, e => by simp at e
  | n, a :: ds, 0, d, h, e => by
    rw [oks, Bool.and_eq_true] at h
    simp at e
    subst e
    exact h.1
  | n, a :: ds, i + 1, d, h, e => by
    rw [oks, Bool.and_eq_true] at h
    exact oks_get h.2 (by simpa using e)
theorem oks_of : ∀ {n : Nat} {ds : List D}, (∀ d ∈ ds, ok n d = true) → oks n ds = true
  | n, [], _ => by rw [oks]
  | n, a :: ds, h => by
    rw [oks, h a List.mem_cons_self, oks_of fun d hd => h d (List.mem_cons_of_mem _ hd)]
    rfl
theorem oks_iff {n : Nat} {ds : List D} : oks n ds = true ↔ ∀ d ∈ ds, ok n d = true := ⟨fun h d hd => by
  obtain ⟨i, hi⟩ := List.mem_iff_getElem?.mp hd
  exact oks_get h hi, oks_of⟩
theorem ok_tup {n : Nat} {ds : List D} (h : ok (n + 1) (.tup ds) = true) : ds.length ≤ 100000 ∧ oks n ds = true := by
  rw [ok, Bool.and_eq_true] at h
  exact ⟨of_decide_eq_true h.1, h.2⟩
theorem ok_lst {n : Nat} {ds : List D} (h : ok (n + 1) (.lst ds) = true) : ds.length ≤ 100000 ∧ oks n ds = true := by
  rw [ok, Bool.and_eq_true] at h
  exact ⟨of_decide_eq_true h.1, h.2⟩
theorem ok_tup_of {n : Nat} {ds : List D} (h : ds.length ≤ 100000) (h2 : oks n ds = true) : ok (n + 1) (.tup ds) = true := by
  rw [ok, decide_eq_true h, h2]
  rfl
theorem ok_lst_of {n : Nat} {ds : List D} (h : ds.length ≤ 100000) (h2 : oks n ds = true) : ok (n + 1) (.lst ds) = true := by
  rw [ok, decide_eq_true h, h2]
  rfl
/-! isinstance with bool, int, str, tuple, list -/
def is_bool : D → Option Bool
  | .non => some false
  | .bl _ => some true
  | .int _ => some false
  | .str _ => some false
  | .tup _ => some false
  | .lst _ => some false
  | _ => none
theorem de_isi_bool {ta : TE} (h : DR c ρ ta fun d => ∃ b, is_bool d = some b ∧ Q (.bl b)) : DE c ρ (tCB (rIsi c.K) (tCons ta (tCons (tC (.ty "bool")) tNil))) Q := de_isi (dr_mono h fun d ⟨b, e, q⟩ => by
  cases d with
  | non => cases e; exact ⟨_, false, rfl, kit_ty (by decide +kernel), q⟩
  | bl b => cases e; exact ⟨_, true, rfl, kit_ty (by decide +kernel), q⟩
  | int i => cases e; exact ⟨_, false, rfl, kit_ty (by decide +kernel), q⟩
  | str x => cases e; exact ⟨_, false, rfl, kit_ty (by decide +kernel), q⟩
  | tup ds => cases e; exact ⟨_, false, rfl, kit_ty (by decide +kernel), q⟩
  | lst ds => cases e; exact ⟨_, false, rfl, kit_ty (by decide +kernel), q⟩
  | _ => cases e)
def is_int : D → Option Bool
  | .non => some false
  | .bl _ => some true
  | .int _ => some true
  | .str _ => some false
  | .tup _ => some false
  | .lst _ => some false
  | _ => none
theorem de_isi_int {ta : TE} (h : DR c ρ ta fun d => ∃ b, is_int d = some b ∧ Q (.bl b)) : DE c ρ (tCB (rIsi c.K) (tCons ta (tCons (tC (.ty "int")) tNil))) Q := de_isi (dr_mono h fun d ⟨b, e, q⟩ => by
  cases d with
  | non => cases e; exact ⟨_, false, rfl, kit_ty (by decide +kernel), q⟩
  | bl b => cases e; exact ⟨_, true, rfl, kit_ty (by decide +kernel), q⟩
  | int i => cases e; exact ⟨_, true, rfl, kit_ty (by decide +kernel), q⟩
  | str x => cases e; exact ⟨_, false, rfl, kit_ty (by decide +kernel), q⟩
  | tup ds => cases e; exact ⟨_, false, rfl, kit_ty (by decide +kernel), q⟩
  | lst ds => cases e; exact ⟨_, false, rfl, kit_ty (by decide +kernel), q⟩
  | _ => cases e)
def is_str : D → Option Bool
  | .non => some false
  | .bl _ => some false
  | .int _ => some false
  | .str _ => some true
  | .tup _ => some false
  | .lst _ => some false
  | _ => none
theorem de_isi_str {ta : TE} (h : DR c ρ ta fun d => ∃ b, is_str d = some b ∧ Q (.bl b)) : DE c ρ (tCB (rIsi c.K) (tCons ta (tCons (tC (.ty "str")) tNil))) Q := de_isi (dr_mono h fun d ⟨b, e, q⟩ => by
  cases d with
  | non => cases e; exact ⟨_, false, rfl, kit_ty (by decide +kernel), q⟩
  | bl b => cases e; exact ⟨_, false, rfl, kit_ty (by decide +kernel), q⟩
  | int i => cases e; exact ⟨_, false, rfl, kit_ty (by decide +kernel), q⟩
  | str x => cases e; exact ⟨_, true, rfl, kit_ty (by decide +kernel), q⟩
  | tup ds => cases e; exact ⟨_, false, rfl, kit_ty (by decide +kernel), q⟩
  | lst ds => cases e; exact ⟨_, false, rfl, kit_ty (by decide +kernel), q⟩
  | _ => cases e)
def is_tuple : D → Option Bool
  | .non => some false
  | .bl _ => some false
  | .int _ => some false
  | .str _ => some false
  | .tup _ => some true
  | .lst _ => some false
  | _ => none
theorem de_isi_tuple {ta : TE} (h : DR c ρ ta fun d => ∃ b, is_tuple d = some b ∧ Q (.bl b)) : DE c ρ (tCB (rIsi c.K) (tCons ta (tCons (tC (.ty "tuple")) tNil))) Q := de_isi (dr_mono h fun d ⟨b, e, q⟩ => by
  cases d with
  | non => cases e; exact ⟨_, false, rfl, kit_ty (by decide +kernel), q⟩
  | bl b => cases e; exact ⟨_, false, rfl, kit_ty (by decide +kernel), q⟩
  | int i => cases e; exact ⟨_, false, rfl, kit_ty (by decide +kernel), q⟩
  | str x => cases e; exact ⟨_, false, rfl, kit_ty (by decide +kernel), q⟩
  | tup ds => cases e; exact ⟨_, true, rfl, kit_ty (by decide +kernel), q⟩
  | lst ds => cases e; exact ⟨_, false, rfl, kit_ty (by decide +kernel), q⟩
  | _ => cases e)
def is_list : D → Option Bool
  | .non => some false
  | .bl _ => some false
  | .int _ => some false
  | .str _ => some false
  | .tup _ => some false
  | .lst _ => some true
  | _ => none
theorem de_isi_list {ta : TE} (h : DR c ρ ta fun d => ∃ b, is_list d = some b ∧ Q (.bl b)) : DE c ρ (tCB (rIsi c.K) (tCons ta (tCons (tC (.ty "list")) tNil))) Q := de_isi (dr_mono h fun d ⟨b, e, q⟩ => by
  cases d with
  | non => cases e; exact ⟨_, false, rfl, kit_ty (by decide +kernel), q⟩
  | bl b => cases e; exact ⟨_, false, rfl, kit_ty (by decide +kernel), q⟩
  | int i => cases e; exact ⟨_, false, rfl, kit_ty (by decide +kernel), q⟩
  | str x => cases e; exact ⟨_, false, rfl, kit_ty (by decide +kernel), q⟩
  | tup ds => cases e; exact ⟨_, false, rfl, kit_ty (by decide +kernel), q⟩
  | lst ds => cases e; exact ⟨_, true, rfl, kit_ty (by decide +kernel), q⟩
  | _ => cases e)
theorem ex_is {d : D} {f : D → Option Bool} {b : Bool} {Q : Bool → Prop} (e : f d = some b) (q : Q b) : ∃ b, f d = some b ∧ Q b := ⟨b, e, q⟩
theorem FEq_bl {i j : Bool} (h : Q (.bl (decide (i = j)))) : FEq id (.bl i) (.bl j) Q := h
theorem FEq_str {i j : Str} (h : Q (.bl (decide (i = j)))) : FEq id (.str i) (.str j) Q := h
/-- .. of ints -/
theorem at_ints {is : List Int} {i : Int} (h0 : 0 ≤ i) (h1 : i < is.length) : ∃ j ∈ is, atI (is.map D.int) i = some (.int j) := by
  have hl : i.toNat < is.length := by omega
  refine ⟨is[i.toNat], List.getElem_mem hl, ?_⟩
  have e : (is.map D.int)[i.toNat]? = some (.int is[i.toNat]) := by simp [hl]
  have := atI_nat e
  rwa [Int.toNat_of_nonneg h0] at this
def notSelf : S → Bool
  | .self _ _ => false
  | _ => true
theorem all_c {p : S → Bool} {a : S} {r : List S} (h : p a = true) (hr : r.all p = true) : (a :: r).all p = true := by
  rw [List.all_cons, h, hr]
  rfl
theorem ds_fldS0 {Cl : Addr} {f : Str} {fs : List (Str × D)} {r : List S} {l ns : List Str} {N B C : List S → Prop} {Rt : D → List S → Prop} (cl : Cls c.K Cl) (na : NoAttr c.K Cl f) (L : c.T Cl = l) (hm : fs.map (·.1) = ns) (hf : decide (f ∈ ns) = false) (hn : decide (ns = l) = false) (hz : fs.length < 1000) (hr : r.all notSelf = true)
    (h : DE c (.self Cl fs :: r) te fun d => N (.self Cl (fs ++ [(f, d)]) :: r)) : DS c (.self Cl fs :: r) (sFld c.K (tVar 0) te f) N Rt B C :=
  ds_fldS cl na rfl (by rw [hm]; exact of_decide_eq_false hf) (by rw [L, hm]; exact of_decide_eq_false hn) hz (fun k C' gs e => by
    cases k with
    | zero => rfl
    | succ k =>
      have := List.all_eq_true.mp hr _ (List.mem_of_getElem? e)
      cases this) h
theorem lookup_ixD : ∀ {fs : List (Str × D)} {f : Str} {k : Nat} {v : D}, (fs.map (·.1)).Nodup → (fs.map (·.1))[k]? = some f → (fs.map (·.2))[k]? = some v → fs.lookup f = some v
  | [], f, k, v, _, h, _ => by simp at h
  | (g, w) :: r, f, 0, v, _, h1, h2 => by
    have e1 : g = f := by simpa using h1
    have e2 : w = v := by simpa using h2
    subst e1 e2
    rw [List.lookup_cons, show (g == g) = true from beq_self_eq_true g]
  | (g, w) :: r, f, k + 1, v, nd, h1, h2 => by
    rw [List.map_cons, List.nodup_cons] at nd
    have h1' : (r.map (·.1))[k]? = some f := by simpa using h1
    have h2' : (r.map (·.2))[k]? = some v := by simpa using h2
    have hne : f ≠ g := fun e => nd.1 (by rw [← e]; exact List.mem_of_getElem? h1')
    rw [List.lookup_cons, show (f == g) = false from beq_eq_false_iff_ne.mpr hne]
    exact lookup_ixD nd.2 h1' h2'
/-- self.f, the k-th attribute so far -/
theorem de_fldSI {Cl : Addr} {f : Str} {fs : List (Str × D)} {r : List S} {ns : List Str} (k : Nat) {d : D} (cl : Cls c.K Cl) (na : NoAttr c.K Cl f) (hm : fs.map (·.1) = ns) (nd : decide ns.Nodup = true) (h1 : ns[k]? = some f) (h2 : (fs.map (·.2))[k]? = some d) (q : Q d) :
    DE c (.self Cl fs :: r) (tFld c.K (tVar 0) f) Q := de_fldS cl na (i := 0) rfl (lookup_ixD (by rw [hm]; exact of_decide_eq_true nd) (by rw [hm]; exact h1) h2) q
/-- an index that lies in the list -/
theorem at_in {ds : List D} {i : Int} (h0 : 0 ≤ i) (h1 : i < ds.length) : ∃ d, atI ds i = some d ∧ ds[i.toNat]? = some d := by
  have hl : i.toNat < ds.length := by omega
  have e : ds[i.toNat]? = some ds[i.toNat] := List.getElem?_eq_getElem hl
  refine ⟨_, ?_, e⟩
  have := atI_nat e
  rwa [Int.toNat_of_nonneg h0] at this
end
section
variable {P : Program} {w : World} {K : PySem.W.Frag} {mg : Str → Option Value} {base : Heap}
theorem take_more' {α : Type} {l : List α} {i : Nat} {x : α} (h : l[i]? = some x) : l.take (i + 1) = l.take i ++ [x] := by
  obtain ⟨hi, e⟩ := List.getElem?_eq_some_iff.mp h
  rw [List.take_succ, h]
  rfl
/-- a promise that asks what never is -/
theorem fn_none {CX : CXT} {k : Nat} {f : Addr} {fd : FuncData} {ps : List Str} {sp : Sp} (h : ∀ vs H Q E, ¬ sp vs H Q E) : FnOk P w K mg base CX k f fd ps sp :=
  ⟨fun vs H Q E q => (h vs H Q E q).elim, fun _ _ _ H _ _ vs Q E _ _ _ _ q => (h vs H Q E q).elim⟩
end
end Z

/-! ZJ: < on plain data or on objects of an own class. -/
namespace Z
open PySem PySem.Spec PyProof.Rows L2
section
variable {X : Cx} {CX : CXT} {n : Nat} {C f : Addr} {fd : FuncData} {ps : List Str} {sp : Sp} {E : XK}
theorem op_ltPO (F : FnOk X.prog X.w X.K X.mg X.base CX n f fd ps sp) (hr : Room n X.A) (hb : Binds X.K fd ps []) (hx : Passes CX X E) (O : OpDef X.K C (cmpInfo .Lt).2.1 f) : OpR X (compareOp .Lt) (rOr (rLtZ X.K) (rCmpO C sp E)) := OpR.or (op_ltZ hr.units) (op_ltO F hr hb hx O)
end
section
variable {c : Cz} {ρ : List S} {ta tb : TE} {Q : D → Prop} {C : Addr} {S : DSp} {E : XK}
theorem de_ltPL (h : DR c ρ ta fun a => DR c ρ tb fun b => FLt a b Q) : DE c ρ (tOp (rOr (rLtZ c.K) (rCmpO C (spD c.K c.T S) E)) ta tb) Q :=
  de_op (F := FLt) (fun H x y a b P R hx hy h k => .inl (cmp_D H x y a b P R hx hy h k)) h
theorem cmpO_D (H : Hp) (x y : V) (a b : D) (P : D → Prop) (R : VK) (hx : RAt c.K c.T H x a) (hy : RAt c.K c.T H y b) (h : ∃ fs gs, a = .obj C fs ∧ b = .obj C gs ∧ S [a, b] (fun d => ∃ k, d = .bl k ∧ P (.bl k)) X0) (k : ∀ v H' d, Same H H' → At c.K c.T H' v d → P d → R v H') :
    rCmpO C (spD c.K c.T S) E x y H R := by
  obtain ⟨fs, gs, ea, eb, q⟩ := h
  subst ea eb
  obtain ⟨p, dx, xs, rfl, h1, h2, h3, h4⟩ := hx.obj
  obtain ⟨p', dx', ys, rfl, h1', h2', h3', h4'⟩ := hy.obj
  refine ⟨p, p', dx, dx', xs, ys, rfl, rfl, h1, h1', _, _, X0, .cons (.obj h1 h2 h3 h4) (.cons (.obj h1' h2' h3' h4') .nil), q, fun d v H' hp e m => ?_, fun _ _ _ _ z => z.elim⟩
  obtain ⟨b, ed, q'⟩ := hp
  subst ed
  cases m
  exact ⟨b, rfl, k _ H' _ e (.bl b) q'⟩
theorem de_ltPR (h : DR c ρ ta fun a => DR c ρ tb fun b => ∃ fs gs, a = .obj C fs ∧ b = .obj C gs ∧ S [a, b] (fun d => ∃ k, d = .bl k ∧ Q (.bl k)) X0) : DE c ρ (tOp (rOr (rLtZ c.K) (rCmpO C (spD c.K c.T S) E)) ta tb) Q :=
  de_op (F := fun a b Q => ∃ fs gs, a = .obj C fs ∧ b = .obj C gs ∧ S [a, b] (fun d => ∃ k, d = .bl k ∧ Q (.bl k)) X0) (fun H x y a b P R hx hy h k => .inr (cmpO_D H x y a b P R hx hy h k)) h
theorem and_len0 {A : Prop} (h : A) : ([] : List D).length ≤ 100000 ∧ A := ⟨by simp, h⟩
theorem and_len1 {a : D} {A : Prop} (h : A) : [a].length ≤ 100000 ∧ A := ⟨by simp, h⟩
theorem and_len2 {a b : D} {A : Prop} (h : A) : [a, b].length ≤ 100000 ∧ A := ⟨by simp, h⟩
theorem and_len3 {a b c : D} {A : Prop} (h : A) : [a, b, c].length ≤ 100000 ∧ A := ⟨by simp, h⟩
theorem and_len4 {a b c d : D} {A : Prop} (h : A) : [a, b, c, d].length ≤ 100000 ∧ A := ⟨by simp, h⟩
theorem and_len5 {a b c d e : D} {A : Prop} (h : A) : [a, b, c, d, e].length ≤ 100000 ∧ A := ⟨by simp, h⟩
end
section
variable {X : Cx} {e a : Expr} {ta : TE} {K : PySem.W.Frag} {f : Str} {pos : Pos}
theorem pe_fldK (K : PySem.W.Frag) (hK : X.K = K) (he : PE X e ta) (hb : attributeBase e f X.env (eval e X.env) = eval e X.env) : PE X (.Attribute e f pos) (tFld K ta f) := by
  subst hK
  exact pe_fld he hb
theorem pt_truK (K : PySem.W.Frag) (hK : X.K = K) (ha : PE X a ta) (he : ∀ whole, isTrue a X.env whole = (do let v ← whole; standAt a.pos; holding [v] (truthy v))) : PT X a (tTru K ta) := by
  subst hK
  exact pt_truZ ha he
theorem pi_seqK {tg l : Expr} {tl : TE} (K : PySem.W.Frag) (hK : X.K = K) (hl : PE X l tl) : PI X tg l (iSeq K tl) := by
  subst hK
  exact pi_seq hl
end
/-! [e for x in xs], each turn's value known -/
section
variable {c : Cz} {ρ : List S} {tl te : TE} {g : TG} {QL : List D → Prop}
theorem dl_lcM {α : Type} (xs : List α) (a f : α → D) {vs : List Nat} (hg : GOk g vs) (h : DE c ρ tl fun d => (d = .lst (xs.map a) ∨ d = .tup (xs.map a)) ∧ xs.length ≤ 100000 ∧
      (∀ x ∈ xs, DG c (wipeS ρ vs) g (a x) fun ρ2 => DE c ρ2 te fun z => z = f x) ∧ QL (xs.map f)) : DL c ρ (tLc (iSeq c.K tl) g tYes te vs) QL :=
  dl_lc hg (de_mono h fun d ⟨ed, hz, ht, q⟩ => ⟨xs.map a, ed, by rw [List.length_map]; exact hz, fun i acc => acc = (xs.take i).map f, rfl, fun i y acc hy e => by
    rw [List.getElem?_map] at hy
    cases ex : xs[i]? with
    | none => rw [ex] at hy; cases hy
    | some x =>
      rw [ex] at hy
      cases Option.some.inj hy
      have := ht x (List.mem_of_getElem? ex)
      intro σ H v I at' R k
      refine this σ H v I at' R fun σ' ρ' J q => k σ' ρ' J (dt_yes ?_)
      rw [if_pos rfl]
      refine de_mono q fun z ez => ?_
      subst ez e
      rw [take_more' ex, List.map_append]
      rfl, fun acc e => by
    subst e
    rw [List.length_map, List.take_of_length_le (Nat.le_refl _)]
    exact q⟩)
end
/-! the row put in order by < alone -/
section
variable {α : Type}
/-- the last place behind a thing that is not greater -/
def lastIx (lt : α → α → Bool) (x : α) (out : List α) (n : Nat) : Nat := (List.range n).foldl (fun at' k => match out[k]? with | some y => if lt x y then at' else k + 1 | none => at') 0
theorem lastIx_succ (lt : α → α → Bool) (x : α) (out : List α) (n : Nat) : lastIx lt x out (n + 1) = match out[n]? with | some y => if lt x y then lastIx lt x out n else n + 1 | none => lastIx lt x out n := by
  unfold lastIx
  rw [List.range_succ, List.foldl_append]
  rfl
theorem lastIx_le (lt : α → α → Bool) (x : α) (out : List α) (n : Nat) : lastIx lt x out n ≤ n := by
  induction n with
  | zero => exact Nat.le_refl _
  | succ n ih =>
    rw [lastIx_succ]
    split
    · split
      · exact Nat.le_succ_of_le ih
      · exact Nat.le_refl _
    · exact Nat.le_succ_of_le ih
def insL (lt : α → α → Bool) (out : List α) (x : α) : List α := out.take (lastIx lt x out out.length) ++ [x] ++ out.drop (lastIx lt x out out.length)
def ordL (lt : α → α → Bool) (xs : List α) : List α := xs.foldl (insL lt) []
theorem insL_mem {lt : α → α → Bool} {out : List α} {x y : α} : y ∈ insL lt out x ↔ y = x ∨ y ∈ out := by
  unfold insL
  constructor
  · intro h
    rw [List.mem_append, List.mem_append] at h
    rcases h with (h | h) | h
    · exact .inr (List.mem_of_mem_take h)
    · exact .inl (by simpa using h)
    · exact .inr (List.mem_of_mem_drop h)
  · intro h
    rw [List.mem_append, List.mem_append]
    rcases h with h | h
    · exact .inl (.inr (by simp [h]))
    · rw [← List.take_append_drop (lastIx lt x out out.length) out, List.mem_append] at h
      rcases h with h | h
      · exact .inl (.inl h)
      · exact .inr h
theorem insL_length {lt : α → α → Bool} {out : List α} {x : α} : (insL lt out x).length = out.length + 1 := by
  unfold insL
  have := lastIx_le lt x out out.length
  simp
  omega
theorem ordL_take {lt : α → α → Bool} {xs : List α} {i : Nat} {x : α} (h : xs[i]? = some x) : ordL lt (xs.take (i + 1)) = insL lt (ordL lt (xs.take i)) x := by
  unfold ordL
  rw [take_more' h, List.foldl_append]
  rfl
theorem ordL_length {lt : α → α → Bool} (xs : List α) : (ordL lt xs).length = xs.length := by
  have : ∀ (xs acc : List α), (xs.foldl (insL lt) acc).length = acc.length + xs.length := by
    intro xs
    induction xs with
    | nil => intro acc; rfl
    | cons x xs ih =>
      intro acc
      rw [List.foldl_cons, ih, insL_length]
      simp
      omega
  unfold ordL
  rw [this]
  simp
theorem ordL_mem {lt : α → α → Bool} {y : α} (xs : List α) : y ∈ ordL lt xs → y ∈ xs := by
  have : ∀ (xs acc : List α), y ∈ xs.foldl (insL lt) acc → y ∈ acc ∨ y ∈ xs := by
    intro xs
    induction xs with
    | nil => intro acc h; exact .inl h
    | cons x xs ih =>
      intro acc h
      rw [List.foldl_cons] at h
      rcases ih _ h with h | h
      · rcases insL_mem.mp h with h | h
        · exact .inr (by simp [h])
        · exact .inl h
      · exact .inr (List.mem_cons_of_mem _ h)
  unfold ordL
  intro h
  rcases this xs [] h with h | h
  · cases h
  · exact h
theorem ins_map {β : Type} (g : α → β) (out : List α) (x : α) (k : Nat) : (out.map g).take k ++ [g x] ++ (out.map g).drop k = (out.take k ++ [x] ++ out.drop k).map g := by
  simp
end
theorem kit_self {K : PySem.W.Frag} {C : Addr} : PySem.W.kitOne K (.ref C) (.ref C) = some true := by
  unfold PySem.W.kitOne
  rw [if_pos (beq_self_eq_true _)]
/-! the script at the start -/
theorem scr_at {K : PySem.W.Frag} {T : Tb} {H : Hp} {a : Addr} {ns : List Int} (o : Only H) (h : SqL K H a (ns.map V.int)) : At K T H (.ref a) (.scr ns) := by
  refine .scr ?_
  rcases h with h | h
  · rcases o a with e | ⟨ob, xs, e⟩
    · rcases h with h | ⟨_, h⟩ <;> (rw [e] at h; cases h)
    · rcases h with h | ⟨o2, h⟩
      · rw [e] at h
        cases h
      · exact .inl ⟨o2, h⟩
  · exact .inr fun H' => .inr h
/-- the law's promise, its script alone told -/
def spZ (K : PySem.W.Frag) : Sp := fun vs H Q _ => ∃ (a : Addr) (ns : List Int), vs = [.ref a] ∧ Only H ∧ SqL K H a (ns.map V.int) ∧ ∀ H', Q (.bl true) H'
theorem fn_law {P : Program} {w : World} {K : PySem.W.Frag} {T : Tb} {S : DSp} {mg : Str → Option Value} {base : Heap} {CX : CXT} {k : Nat} {f : Addr} {fd : FuncData} {ps : List Str} (F : FnOk P w K mg base CX k f fd ps (spD K T S)) (hS : ∀ ns (R : D → Prop), R (.bl true) → S [.scr ns] R X0) : FnOk P w K mg base CX k f fd ps (spZ K) :=
  F.imp fun vs H Q E ⟨a, ns, ev, o, h, q⟩ => by
    subst ev
    exact ⟨[.scr ns], fun d => d = .bl true, X0, .cons (scr_at o h) .nil, hS ns _ rfl, fun d v H' e _ m => by
      subst e
      rw [m.bl_iff]
      exact q H', fun _ _ _ _ z => z.elim⟩
theorem walkZ {l : PySem.W.OpenLaw} {q : Program} {loose : List Str} {XP : (Str → Option Value) → Heap → Prop} {YP : World → Heap → Prop} {d : DefRec} {K : Params → PySem.W.Frag} (k : Nat) (hk : Room k callerA) (hn : l.most = some 63) (hdf : d.params.defaults = [])
    (hY : ∀ (w : World) (h : Heap), YP w h → (K w.params).In h)
    (F : ∀ (w : World) (mg : Str → Option Value) (fa : Addr) (h : Heap), (K w.params).In h → h.Ns mainGlobals mg → mg d.name = some (.ref fa) →
      ∃ fd : FuncData, (∀ (s : Shared) (u : Value), BindsTo s fd ⟨[u], []⟩ [("script", u)]) ∧ ∀ base : Heap, (K w.params).In base → base.Ns mainGlobals mg → FnOk l.prog w (K w.params) mg base CX0 k fa fd ["script"] (spZ (K w.params))) :
    PySem.W.WalkO q loose XP YP l.row.toRowW d [] (fun f vs => PySem.call f vs) :=
  L2.walk_of (n := 63) (k := k) (x := "script") (CX := fun _ => CX0) (sp := fun w => spZ (K w.params)) hn (by decide) hdf hk hY F (fun _ _ a ns _ hO hS => ⟨a, ns, rfl, hO, hS, fun _ => rfl⟩) fun _ _ _ _ _ z => z
end Z

/-! ZF2: the same for defs with defaults -/
namespace Z
open PySem PySem.Spec PyProof.Rows L2
section
variable {P : Program} {w : World} {K : PySem.W.Frag} {mg : Str → Option Value} {base : Heap}
theorem fund_ok {x qual : Str} {st : Stmt} {dvs : List V} {f : Addr} {fd : FuncData} {N ps : List Str} {k : Nat} {sp : Sp} (F : FunD K x qual (defArgs st) (defBody st) (defScope st) dvs [] f fd) (S : FnScope N ps (defScope st)) (len : ∀ vs H Q E, sp vs H Q E → vs.length = ps.length)
    (hbody : ∀ (cdv : Value) (A : Around) (outer : List Env) (s : Shared) (H : Hp) (vs : List V) (Q : VK) (E : XK), Room k (A.deeper (envOfC qual (defScope st) s.heap.objs.size f cdv)) → sp vs H Q E →
      ∃ t, PSs (cxOf CX0 P w K mg base N qual (defScope st) f cdv A outer s H E).nox (defBody st) t ∧ t { nx := fun _ H' => Q .non H', rt := Q } (start N vs) H) : FnOk P w K mg base CX0 (k + 1) f fd ps sp :=
  F.ok S len fun cdv A outer s H vs Q E hr hs => by
    obtain ⟨t, h, q⟩ := hbody cdv A outer s H vs Q E hr hs
    exact ⟨t, h.nox, q⟩
/-- how its arguments bind where all are written -/
theorem fund_binds {x qual : Str} {st : Stmt} {dvs : List V} {f : Addr} {fd : FuncData} {ps : List Str} (F : FunD K x qual (defArgs st) (defBody st) (defScope st) dvs [] f fd) (n j : Nat) (hd : dvs ≠ []) (hn : n + (dvs.length - j) = ps.length)
    (h : ∀ (T : Addr) (kV doc pm : Value) (an : Option Addr) (cdv ct : Value) (us its : List Value), us.length = n → its.length = dvs.length →
      ∃ k, bindArgs (PySem.W.fnOf x qual (defArgs st) (defBody st) (defScope st) (.ref T) kV doc pm an cdv ct) ⟨us, []⟩ = seqItems? (.ref T) >>= k ∧ k (some its.toArray) = pure (ps.zip (us ++ its.drop j))) : ∃ ds, Vals (dvs.drop j) ds ∧ Binds K fd ps ds := F.binds1 n j hd hn h
theorem binds_all {fd : FuncData} {ps : List Str} {ds : List Value} {vs : List V} (h : Vals vs ds) (e : vs = []) (b : Binds K fd ps ds) : Binds K fd ps [] := by
  subst e
  cases h
  exact b
/-- a def that lets no exception out -/
theorem fn_DD {dvs : List V} {T : Tb} {x qual : Str} {st : Stmt} {f : Addr} {fd : FuncData} {N ps : List Str} {k : Nat} {sp : DSp} (F : FunD K x qual (defArgs st) (defBody st) (defScope st) dvs [] f fd) (Sc : FnScope N ps (defScope st)) (len : ∀ ds R X, sp ds R X → ds.length = ps.length)
    (body : ∀ (cdv : Value) (A : Around) (outer : List Env) (s : Shared) (H : Hp) (E : XK), Room k (A.deeper (envOfC qual (defScope st) s.heap.objs.size f cdv)) →
      ∃ t, PSs (cxOf CX0 P w K mg base N qual (defScope st) f cdv A outer s H E).nox (defBody st) t ∧
        ∀ ds R, sp ds R X0 → DS ⟨K, T, fun _ => False, H⟩ (ds.map S.val ++ List.replicate (N.length - ds.length) S.no) t (fun _ => R .non) (fun d _ => R d) (fun _ => False) fun _ => False)
    (x0 : ∀ ds R X, sp ds R X → sp ds R X0) :
    FnOk P w K mg base CX0 (k + 1) f fd ps (spD K T sp) := by
  refine fund_ok F Sc (fun vs H Q E h => ?_) fun cdv A outer s H vs Q E hr h => ?_
  · obtain ⟨ds, R, X, a, hs, _⟩ := h
    rw [a.length]
    exact len ds R X hs
  · obtain ⟨t, ht, q⟩ := body cdv A outer s H E hr
    obtain ⟨ds, R, X, a, hs, kr, _⟩ := h
    refine ⟨t, ht, q ds R (x0 _ _ _ hs) _ H (start_at a) _ (fun σ' H' ρ' _ J r => ?_) (fun v σ' H' d ρ' J m r => ?_) (fun _ _ _ _ _ z => z.elim) fun _ _ _ _ _ z => z.elim⟩
    · exact kr .non .non H' r (fun b o hb => J.sm b o hb (fun z => z)) .non
    · exact kr d v H' r (fun b o hb => J.sm b o hb (fun z => z)) m
/-- an __init__ that lets no exception out -/
theorem fn_ID {dvs : List V} {T : Tb} {C : Addr} {x qual : Str} {st : Stmt} {f : Addr} {fd : FuncData} {N ps : List Str} {k : Nat} {sp : ISp} (F : FunD K x qual (defArgs st) (defBody st) (defScope st) dvs [] f fd) (Sc : FnScope N ps (defScope st)) (len : ∀ ds R X, sp ds R X → ds.length + 1 = ps.length)
    (body : ∀ (cdv : Value) (A : Around) (outer : List Env) (s : Shared) (H : Hp) (E : XK), Room k (A.deeper (envOfC qual (defScope st) s.heap.objs.size f cdv)) →
      ∃ t, PSs (cxOf CX0 P w K mg base N qual (defScope st) f cdv A outer s H E).nox (defBody st) t ∧
        ∀ p ds F, sp ds F X0 → DS ⟨K, T, fun b => b = p, H⟩ (.self C [] :: (ds.map S.val ++ List.replicate (N.length - (ds.length + 1)) S.no)) t
          (fun ρ' => ∃ fs r, ρ' = .self C fs :: r ∧ fs.map (·.1) = T C ∧ T C ≠ [] ∧ F (fs.map (·.2))) (fun _ _ => False) (fun _ => False) fun _ => False)
    (x0 : ∀ ds R X, sp ds R X → sp ds R X0) :
    FnOk P w K mg base CX0 (k + 1) f fd ps (spI K T C sp) := by
  refine fund_ok F Sc (fun vs H Q E h => ?_) fun cdv A outer s H vs Q E hr h => ?_
  · obtain ⟨p, dx, ws, ds, F, X, rfl, _, a, hs, _⟩ := h
    rw [List.length_cons, a.length]
    exact len ds F X hs
  · obtain ⟨t, ht, q⟩ := body cdv A outer s H E hr
    obtain ⟨p, dx, ws, ds, F, X, rfl, hp, a, hs, kr, _⟩ := h
    have E0 := start_at (W := fun b => b = p) (N := N.drop 1) a
    have hl := a.length
    refine ⟨t, ht, q p ds F (x0 _ _ _ hs) _ H ?_ _ (fun σ' H' ρ' _ J r => ?_) (fun v σ' H' d ρ' J m r => r.elim) (fun _ _ _ _ _ z => z.elim) fun _ _ _ _ _ z => z.elim⟩
    · have e1 : L2.start N (V.ref p :: ws) = some (V.ref p) :: L2.start (N.drop 1) ws := by
        unfold L2.start
        rw [List.map_cons, List.cons_append, List.length_cons, List.length_drop]
        congr 3
        omega
      have e2 : (ds.map S.val ++ List.replicate (N.length - (ds.length + 1)) S.no) = (ds.map S.val ++ List.replicate ((N.drop 1).length - ds.length) S.no) := by
        rw [List.length_drop]
        congr 2
        omega
      rw [e1, e2]
      refine ⟨E0.sm, E0.tr, by rw [List.length_cons, List.length_cons, E0.len], fun i o s h1 h2 => ?_, fun i j l es fs h1 h2 h3 h4 => ?_⟩
      · cases i with
        | zero =>
          cases h1
          cases h2
          exact ⟨p, dx, [], rfl, hp, rfl, .nil, rfl⟩
        | succ i => exact E0.slot i o s h1 h2
      · cases i with
        | zero => cases h3
        | succ i =>
          cases j with
          | zero => cases h4
          | succ j => rw [E0.dis i j l es fs h1 h2 h3 h4]
    · obtain ⟨fs, r', e, hf, hT, hF⟩ := r
      subst e
      have s0 := J.slot 0
      have hσ : 0 < σ'.length := by rw [J.len]; exact Nat.succ_pos _
      obtain ⟨p', dx', gs, h1, h2, h3, h4, h5⟩ := J.slot 0 _ _ (List.getElem?_eq_getElem hσ) rfl
      have : p' = p := h5
      subst this
      exact kr (fs.map (·.2)) H' hF (fun b o hb hbp => J.sm b o hb hbp) (.obj h2 (by rw [h3]; exact hf) hT h4)
end
section
variable {c : Cz} {ρ : List S} {ta tb : TE} {Q : D → Prop}
theorem de_inT (h : DR c ρ ta fun a => DR c ρ tb fun b => ∃ (i : Int) (is : List Int), a = .int i ∧ (b = .lst (is.map D.int) ∨ b = .tup (is.map D.int)) ∧ Q (.bl (decide (i ∈ is)))) : DE c ρ (tOp (rInP false c.K) ta tb) Q :=
  de_in (neg := false) (dr_mono h fun a h => dr_mono h fun b ⟨i, is, e1, e2, q⟩ => ⟨i, is, e1, e2, q⟩)
theorem de_niT (h : DR c ρ ta fun a => DR c ρ tb fun b => ∃ (i : Int) (is : List Int), a = .int i ∧ (b = .lst (is.map D.int) ∨ b = .tup (is.map D.int)) ∧ Q (.bl (!decide (i ∈ is)))) : DE c ρ (tOp (rInP true c.K) ta tb) Q :=
  de_in (neg := true) (dr_mono h fun a h => dr_mono h fun b ⟨i, is, e1, e2, q⟩ => ⟨i, is, e1, e2, q⟩)
end
/-! comprehensions with a test, each turn's value known -/
section
variable {c : Cz} {ρ : List S} {tl ta te : TE} {tt : TT} {g : TG} {QL : List D → Prop}
theorem take_filter {α β : Type} (p : α → Bool) (f : α → β) {xs : List α} {i : Nat} {x : α} (h : xs[i]? = some x) : ((xs.take (i + 1)).filter p).map f = if p x = true then ((xs.take i).filter p).map f ++ [f x] else ((xs.take i).filter p).map f := by
  rw [take_more' h, List.filter_append, List.map_append]
  cases e : p x <;> simp [e]
theorem dl_lcF {α : Type} (xs : List α) (a f : α → D) (p : α → Bool) {vs : List Nat} (hg : GOk g vs) (h : DE c ρ tl fun d => (d = .lst (xs.map a) ∨ d = .tup (xs.map a)) ∧ xs.length ≤ 100000 ∧
      (∀ x ∈ xs, DG c (wipeS ρ vs) g (a x) fun ρ2 => DT c ρ2 tt fun b => b = p x ∧ (b = true → DE c ρ2 te fun z => z = f x)) ∧ QL ((xs.filter p).map f)) : DL c ρ (tLc (iSeq c.K tl) g tt te vs) QL :=
  dl_lc hg (de_mono h fun d ⟨ed, hz, ht, q⟩ => ⟨xs.map a, ed, by rw [List.length_map]; exact hz, fun i acc => acc = ((xs.take i).filter p).map f, rfl, fun i y acc hy e => by
    rw [List.getElem?_map] at hy
    cases ex : xs[i]? with
    | none => rw [ex] at hy; cases hy
    | some x =>
      rw [ex] at hy
      cases Option.some.inj hy
      have := ht x (List.mem_of_getElem? ex)
      intro σ H v I at' R k
      refine this σ H v I at' R fun σ' ρ' J q => k σ' ρ' J fun σ2 H2 I2 R2 k2 => q σ2 H2 I2 R2 fun b H3 e3 ⟨eb, q2⟩ => k2 b H3 e3 ?_
      subst e
      have tf := take_filter p f ex
      split
      · rename_i hb
        rw [← eb, if_pos hb] at tf
        refine de_mono (q2 hb) fun z ez => ?_
        subst ez
        exact tf.symm
      · rename_i hb
        rw [← eb, if_neg hb] at tf
        exact tf.symm, fun acc e => by
    subst e
    rw [List.length_map, List.take_of_length_le (Nat.le_refl _)]
    exact q⟩)
theorem dl_lcRF {j : Nat} (n : Nat) (f : Nat → D) (p : Nat → Bool) {vs : List Nat} (hj : j ∈ vs) (h : DE c ρ ta fun d => d = .int (n : Int) ∧ n ≤ 100000 ∧
      (∀ i : Nat, i < n → DT c ((wipeS ρ vs).set j (.val (.int i))) tt fun b => b = p i ∧ (b = true → DE c ((wipeS ρ vs).set j (.val (.int i))) te fun z => z = f i)) ∧ QL (((List.range n).filter p).map f)) : DL c ρ (tLc (iRng1 (tCons ta tNil)) (gName j) tt te vs) QL :=
  dl_lcR hj (de_mono h fun d ⟨ed, hz, ht, q⟩ => ⟨n, ed, by omega, by omega, fun i acc => acc = ((List.range i).filter p).map f, rfl, fun i acc hi e => by
    intro σ2 H2 I2 R2 k2
    refine ht i (by omega) σ2 H2 I2 R2 fun b H3 e3 ⟨eb, q2⟩ => k2 b H3 e3 ?_
    subst e
    have tf : ((List.range (i + 1)).filter p).map f = if p i = true then ((List.range i).filter p).map f ++ [f i] else ((List.range i).filter p).map f := by
      rw [List.range_succ, List.filter_append, List.map_append]
      cases e : p i <;> simp [e]
    split
    · rename_i hb
      rw [← eb, if_pos hb] at tf
      refine de_mono (q2 hb) fun z ez => ?_
      subst ez
      exact tf.symm
    · rename_i hb
      rw [← eb, if_neg hb] at tf
      exact tf.symm, fun acc e => by
    subst e
    rw [Int.toNat_natCast]
    exact q⟩)
end
end Z

/-! ZL: an own exception over a base of one's own over ValueError: super().__init__(text); self.f = f. -/
namespace Z
open PySem PySem.Spec PyProof.Rows L2
/-- ValueError.__init__, bound to x -/
abbrev viW (x : Addr) : Obj := { cls := .type "method-wrapper", dict := none, data := .fields #[.builtin "ValueError.__init__", .ref x], slots := #[] }
theorem vi_type : typeOf (.builtin "ValueError.__init__") = pure (.type "wrapper_descriptor") := (show builtinType _ = _ by rw [builtinType_eq_fast]; kernel_rfl)
theorem vi_name : (kfb_private% "nameAndClass") (Value.builtin "ValueError.__init__") = (pure (Str.ofString "__init__", Value.type "ValueError") : Sem (Str × Value)) := by kernel_rfl
section
open PySem.W
variable {prog : Program} {w : World} {M : Model} {A : Around} {E : Value → Shared → Prop} {h : Heap} {g : Array GenState} {d : Drawn} {t : Nat} {os : OsState}
theorem vi_get {x C : Addr} {P : Fin → Shared → Prop} (hin : Looks M h (isInstance (.ref x) (.type "ValueError")) true) (hq : P (.done (.ret (.ref h.objs.size))) ⟨h.push (viW x), g, d, t, os⟩) :
    wpAny M A (Builtin.«wrapper_descriptor.__get__» ⟨[.builtin "ValueError.__init__", .ref x, .ref C], []⟩) P E ⟨h, g, d, t, os⟩ := by
  unfold Builtin.«wrapper_descriptor.__get__»; refine wpAny_bind (wpAny_of_eq (a := (.builtin "ValueError.__init__", some (.ref x), some (.ref C))) (by first | rfl | kernel_rfl) ?_)
  show wpAny M A ((kfb_private% "checkInstance") (.builtin "ValueError.__init__") (.ref x) >>= fun _ => newFields "method-wrapper" [.builtin "ValueError.__init__", .ref x] >>= fun r => ret r) P E _
  refine wpAny_bind (show wpAny M A ((kfb_private% "nameAndClass") (.builtin "ValueError.__init__") >>= _) _ E _ from wpAny_bind (wpAny_of_eq vi_name ?_))
  exact (show wpAny M A (isInstance (.ref x) (.type "ValueError") >>= _) _ E _ from wpAny_bind (hin.at (KFB.if_not rfl (wpAny_pure (wpAny_bind (wpAny_newObj_type (wpAny_pure hq)))))))
theorem vi_ga {so D x C : Addr} {l₀ l : List Value} {K : Frag} {name : Str} {tk : Tok} {Q : Fin → Shared → Prop}
    (hso : h.get? so = some (ks_superObj D x C)) (hno : Looks (model prog w) h (opaqueClassAbove (.ref C)) none) (hC : Looks (model prog w) h (mroOf (.ref C)) l₀) (hl : (l₀.dropWhile (· != .ref D)).drop 1 = l) (X : K.In h)
    (hf : alongIn K name l = some (some (.builtin "ValueError.__init__"))) (hxC : x ≠ C) (hn : (name == ("__class__" : Str)) = false) (hin : Looks (model prog w) h (isInstance (.ref x) (.type "ValueError")) true)
    (hq : Q (.done (.ret (.ref h.objs.size))) ⟨h.push (viW x), g, d, t, os⟩) : wpAny (model prog w) A (Builtin.«super.__getattribute__» ⟨[.ref so, .str name tk], []⟩) Q E ⟨h, g, d, t, os⟩ := by
  have hlk := ESX.slot_wd.lookup; have hne : (Value.ref x == Value.ref C) = false := by simp [hxC]
  have ht : Shared.TypeIs ⟨h, g, d, t, os⟩ (.builtin "ValueError.__init__") "wrapper_descriptor" := vi_type
  have hdt : (ks_superObj D x C).data = .fields #[.ref D, .ref x, .ref C] := rfl
  have q0 : (#[.ref D, .ref x, .ref C] : Array Value)[0]? = some (.ref D) := rfl; have q1 : (#[.ref D, .ref x, .ref C] : Array Value)[1]? = some (.ref x) := rfl; have q2 : (#[.ref D, .ref x, .ref C] : Array Value)[2]? = some (.ref C) := rfl
  unfold Builtin.«super.__getattribute__»; repeat (first | (with_reducible refine wpAny_field hso hdt q0 ?_) | (with_reducible refine wpAny_field hso hdt q1 ?_) | (with_reducible refine wpAny_field hso hdt q2 ?_) | (with_reducible refine ks_wpAny_notOpaque hno ?_) | (with_reducible refine Looks.at hC ?_; rw [hl]) | (refine ks_forIn_along X (fun _ _ => rfl) rfl ?_ hf) | (with_reducible refine wpAny_call_entry ESX.slot_wd ht ESX.entry_wd ?_ (ESX.args_wd _ _ _)) | (with_reducible refine vi_get hin ?_) | (with_reducible refine ⟨_, rfl, ?_⟩) | (simp only [hn, hne, Bool.or_false, Bool.false_eq_true, if_false]) | wp_step | dsimp only)
  all_goals exact hq
theorem vi_method {so D x C : Addr} {l₀ l : List Value} {K : Frag} {name : Str} {pl : Sem Bool} {Q : Value × List Value → Shared → Prop}
    (hso : h.get? so = some (ks_superObj D x C)) (hno : Looks (model prog w) h (opaqueClassAbove (.ref C)) none) (hC : Looks (model prog w) h (mroOf (.ref C)) l₀) (hl : (l₀.dropWhile (· != .ref D)).drop 1 = l) (X : K.In h)
    (hf : alongIn K name l = some (some (.builtin "ValueError.__init__"))) (hxC : x ≠ C) (hn : (name == ("__class__" : Str)) = false) (hin : Looks (model prog w) h (isInstance (.ref x) (.type "ValueError")) true)
    (hq : Q (.ref h.objs.size, []) ⟨h.push (viW x), g, d, t + 1, os⟩) : wpAny (model prog w) A (getMethod (.ref so) name pl) Q E ⟨h, g, d, t, os⟩ := by
  have hlk := F.ks_slot_super_ga.lookup; have hcan := F.ks_canon_super_ga
  have hT : ∀ t', (⟨h, g, d, t', os⟩ : Shared).TypeIs (.ref so) "super" := fun _ => ⟨_, hso, rfl⟩
  unfold getMethod; refine wpAny_bind (wpAny_specialOf (hT _) hlk (show wpAny _ _ (if (Manifest.canonical "super.__getattribute__" != "object.__getattribute__") = true then _ else _) _ _ _ from ?_))
  rw [if_pos hcan]; unfold getAttr getAttrBy
  refine wpAny_bind (wpAny_bind (wpAny_mkText (wpAny_holding (wpAny_bind (wpAny_typeOf (hT _) (wpAny_bind (wpAny_of_eq hlk (show wpAny _ _ (getAttrByItsOwn (.ref so) (.str name t) (.type "super") (.builtin "super.__getattribute__") true false) _ _ _ from ?_))))))))
  unfold getAttrByItsOwn hookBefore callGetattribute boundAndCalled; refine wpAny_bind (wpAny_of_eq (show (if onTheHeap (.type "super") then typeLookup (.type "super") "__getattr__" else pure none) = pure none from rfl) (wpAny_bind (wpAny_attempt (wpAny_holding (show wpAny _ _ (bindSpecial (.builtin "super.__getattribute__") (.ref so) >>= _) _ _ _ from wpAny_bind (wpAny_of_eq (F.ks_slot_super_ga.bind _) ?_))))))
  refine wpAny_mono (Q := fun v s' => v = .ref h.objs.size ∧ s' = ⟨h.push (viW x), g, d, t + 1, os⟩) (E := fun _ _ => False) (wpAny_call_entry F.ks_slot_super_ga (hT _) F.ks_entry_super_ga (vi_ga hso hno hC hl X hf hxC hn hin ⟨_, rfl, rfl, rfl⟩) (F.ks_gaArgs_super _ _)) (fun v s' hv => ?_) fun _ _ z => z.elim
  obtain ⟨rfl, rfl⟩ := hv; exact wpAny_pure (wpAny_pure hq)
end
/-! ### the bound one called -/
section
open PySem.W PySem.Calls PyProof.Rows
variable {prog : Program} {w : World} {M : Model} {A : Around} {E : Value → Shared → Prop} {s : Shared}
theorem vi_with {pos : Pos} {u x : Addr} {first : List Value} {args : List (Bool × Sem Value)} {Q : Value → Shared → Prop} (hpl : args.any (·.1) = false)
    (h : wpAny M A (evalArgs (.ref u) true args []) (fun a s₁ => s₁.heap.get? u = some (viW x) ∧ wpAny M A (call (.ref u) (first ++ a.pos) a.kw) Q E s₁) E s) : wpAny M A (callWith pos (.ref u) first args []) Q E s := by
  unfold callWith; refine wpAny_bind (wpAny_holding (wpAny_mono h (fun a s₁ h₁ => wpAny_bind (wpAny_standAt ?_)) fun _ _ x => x))
  obtain ⟨ho, hc⟩ := h₁; simp only [hpl, List.any_nil, Bool.or_false]
  refine wpAny_bind (m := keeperOf (.ref u)) ?_; unfold keeperOf; refine wpAny_bind (wpAny_load ho ?_)
  simp only [viW, show (Value.type "method-wrapper" != Value.type "method") = true by decide, show (Value.type "method-wrapper" == Value.type "builtin_function_or_method" || Value.type "method-wrapper" == Value.type "method-wrapper") = true by decide, if_true]
  exact wpAny_pure (wpAny_bind (wpAny_mono hc (fun r s₂ hr => wpAny_bind (wpAny_holding (wpAny_point (wpAny_pure hr)))) fun _ _ x => x))
theorem vi_bound {pos : Pos} {u x : Addr} {first : List Value} {env : Env} {e : Expr} {rest : List Expr} {Q : Value → Shared → Prop}
    (h : wpAny M A (spliced (backTo pos (starEach (e :: rest) env))) (fun vs s₁ => s₁.heap.get? u = some (viW x) ∧ wpAny M A (call (.ref u) (first ++ vs)) Q E s₁) E s)
    (he : starEach (e :: rest) env = (false, eval e env) :: starEach rest env := by rfl) (hpl : (backTo pos (starEach rest env)).any (·.1) = false := by rfl) : wpAny M A (callWith pos (.ref u) first (backTo pos (starEach (e :: rest) env)) []) Q E s := by
  rw [he] at h ⊢; exact vi_with (x := x) (show (false || (backTo pos (starEach rest env)).any (·.1)) = false by rw [hpl]; rfl) (evalArgs_plain h)
end
section
variable {prog : Program} {w : World} {A : Around} {E : Value → Shared → Prop} {h : Heap} {g : Array GenState} {d : Drawn} {t : Nat} {os : OsState}
variable {nm q : Str} {C N : Addr} {bs bm : List Value} {hdct : Bool} {sn : List Str} {sub : List Value} {ab : Bool} {col : Option Bool} {dd : Option Addr} {k0 k1 k2 k3 k5 : Option Value}
theorem vi_call {u e t0 : Addr} {rest : List Value} {Q : Value → Shared → Prop} (hC : h.get? C = some (excClassObj nm q C N bs bm hdct sn sub ab col dd k0 k1 k2 k3 k5 "ValueError.__new__")) (he : h.get? e = some (HandSPX.excO C t0)) (hu : h.get? u = some (viW e)) (hr : rest.length ≤ sizeLine)
    (hq : ∀ h' t1, (∀ b o, b ≠ e → h.get? b = some o → h'.get? b = some o) → h'.get? e = some (HandSPX.excO C t1) → Q .none ⟨h', g, d, t, os⟩) : wpAny (model prog w) A (call (.ref u) rest) Q E ⟨h, g, d, t, os⟩ := by
  refine wpAny_call (codeAny_of_tree (show wpAny _ A.in1 (callAny (.ref u) ⟨rest, []⟩) _ _ _ from ?_)); simp only [callAny]
  refine wpAny_bind (wpAny_load hu ?_); simp only [viW, show (Value.type "method-wrapper" == Value.type "method" || Value.type "method-wrapper" == Value.type "builtin_function_or_method" || Value.type "method-wrapper" == Value.type "method-wrapper") = true by decide, if_true]
  refine W.KFB.if_so (by decide) (wpAny_bind (ESX.check_bound F.excBase_ValueError hC he rfl (wpAny_bind (wpAny_pure (wpAny_pure ⟨Code.quiet_builtin _ (by decide +kernel), codeAny_builtin F.excBase_ValueError.initEntry ?_⟩)))))
  rw [Around.under_plainId F.excBase_ValueError.init.plain _]; wp_walk
  refine hq _ h.objs.size (fun b o hb ho => (Heap.get?_update_other _ _ (Ne.symm hb)).trans (Heap.get?_push_of_some _ ho)) ?_
  rw [Heap.get?_update_self _ (Heap.get?_push_of_some _ he) rfl]; rfl
end
end Z

/-! ZM: the __init__ of such an exception, as a whole. -/
namespace Z
open PySem PySem.Spec PyProof.Rows L2
/-- the context of a def that names super() -/
def cxS (P : Program) (w : World) (K : PySem.W.Frag) (mg : Str → Option Value) (base : Heap) (N : List Str) (qual : Str) (scope : Scope) (f cc : Addr) (cd : Value) (A : Around) (outer : List Env) (s : Shared) (H : Hp) : Cx where
  prog := P
  w := w
  K := K
  mg := mg
  base := base
  A := A.deeper (PySem.W.ksEnv qual scope s.heap.objs.size f cd cc)
  N := N
  s_0 := s
  H_0 := H
  env := PySem.W.ksEnv qual scope s.heap.objs.size f cd cc
  outer := outer
  stack := PySem.W.ksEnv qual scope s.heap.objs.size f cd cc :: outer
  ex := []
  calm := true
  fn := fun _ => false
  pn := []
  xe := fun _ _ => False
structure SScope (N ps : List Str) (sc : Scope) : Prop where
  kind : sc.kind = .function
  co : sc.isCoroutine = false
  gen : sc.isGenerator = false
  nd : N.Nodup
  pre : N.take ps.length = ps
  par : ∀ p ∈ ps, sc.names.lookup p = some .local
  nocell : ∀ x ∈ sc.names, x.2 ≠ .cell
  free : ∀ y ∈ sc.names, y.2 = .free → y.1 = "__class__"
  sup : sc.names.lookup ("super" : Str) = some .globalImplicit
  cls : sc.names.lookup ("__class__" : Str) = some .free
theorem inv_S {P : Program} {w : World} {K : PySem.W.Frag} {mg : Str → Option Value} {base : Heap} {N ps : List Str} {qual : Str} {scope : Scope} {f cc : Addr} {cd : Value} {A : Around} {outer : List Env} {s : Shared} {H : Hp} {us : List Value} {vs : List V} {h₀ : Heap} {tk : Nat} {oc : Obj} {vc : Value}
    (S : SScope N ps scope) (hd : A.handled = none) (e0 : Env0 P w K mg base A outer s H) (hl : vs.length = ps.length) (r : Vals vs us) (hns : h₀.Ns s.heap.objs.size fun x => (ps.zip us).reverse.lookup x) (hk : ∀ b o, s.heap.get? b = some o → h₀.get? b = some o)
    (hcc : base.get? cc = some oc) (hco : oc.data = .cell (some vc)) : Inv (cxS P w K mg base N qual scope f cc cd A outer s H) [] (L2.start N vs) H { s with heap := h₀, toks := tk } := by
  have hpl : ps.length ≤ N.length := by have := congrArg List.length S.pre; rw [List.length_take] at this; omega
  have noA : ∀ b : Addr, b ∉ (cxS P w K mg base N qual scope f cc cd A outer s H).ex := fun b z => absurd (show b ∈ ([] : List Addr) from z) (by simp)
  have cel : ∀ (x : Str) (c : Addr), (cxS P w K mg base N qual scope f cc cd A outer s H).env.cells.lookup x = some c → x = "__class__" ∧ c = cc := fun x c e => by
    have e' : List.lookup x [(("__class__" : Str), cc)] = some c := e
    rw [List.lookup_cons] at e'
    split at e'
    · rename_i hx
      exact ⟨by simpa using hx, (Option.some.inj e').symm⟩
    · cases e'
  have hccs := e0.bs cc oc hcc
  refine ⟨⟨e0.mod, S.kind, rfl, rfl, Nat.le_refl _, fun y z c h1 h2 => (cel y c h1).1.trans (cel z c h2).1.symm, fun y hy => ?_, fun y c h _ => (Bool.noConfusion h), fun _ => hd, Around.frames_deeper e0.frames, .inr ⟨rfl, rfl⟩, fun b z => absurd z (noA b), e0.bs, e0.bsz, fun b _ _ => noA b, fun b z => absurd z (noA b), e0.funs, e0.frf⟩,
    rfl, e0.bare, Un.kept hk, ⟨_, hns, fun i y v h1 h2 h3 => ?_⟩, fun y c h => ?_, e0.hok.fresh (Nat.le_refl _), fun y c h => ?_, fun p hp => absurd (show p ∈ ([] : List (Addr × Obj)) from hp) (by simp), e0.hok.kept hk, ?_⟩
  · have hy : scope.names.lookup y = some .cell ∨ scope.names.lookup y = some .free := hy
    rcases hy with hy | hy
    · exact absurd rfl (S.nocell _ (PySem.mem_of_lookup hy))
    · have := S.free _ (PySem.mem_of_lookup hy) rfl
      exact ⟨cc, by rw [show y = ("__class__" : Str) from this]; rfl⟩
  · have hi : i < vs.length := by
      unfold L2.start at h2
      by_cases hi : i < vs.length
      · exact hi
      · rw [List.getElem?_append_right (by simpa using hi), List.getElem?_replicate] at h2
        split at h2 <;> cases h2
    have ha : vs[i]? = some v := by
      unfold L2.start at h2
      rw [List.getElem?_append_left (by simpa using hi), List.getElem?_map] at h2
      cases e : vs[i]? with
      | none => rw [e] at h2; cases h2
      | some a => rw [e] at h2; cases h2; rfl
    obtain ⟨u, hu, rv⟩ := r.get ha
    have hp : ps[i]? = some y := by
      rw [← S.pre, List.getElem?_take_of_lt (by omega)]; exact h1
    have ndP : ps.Nodup := by rw [← S.pre]; exact S.nd.sublist (List.take_sublist _ _)
    exact ⟨u, rv, .inl ⟨S.par y (List.mem_of_getElem? hp), NdefX.zip_look ndP hp hu⟩⟩
  · obtain ⟨rfl, rfl⟩ := cel y c h
    exact ⟨_, _, hk _ _ hccs.1, hco⟩
  · obtain ⟨rfl, rfl⟩ := cel y c h
    exact hccs.2
  · unfold L2.start
    show _ = N.length
    rw [List.length_append, List.length_map, List.length_replicate]
    omega
theorem veq_ref {l : List Value} {C : Addr} : ((Value.ref C :: l).dropWhile (· != .ref C)).drop 1 = l := by simp [List.dropWhile_cons]
/-- a def whose first statement is super().__init__(text), of an exception class over ValueError -/
theorem fn_S {P : Program} {w : World} {K : PySem.W.Frag} {mg : Str → Option Value} {base : Heap} {x qual : Str} {st : Stmt} {rest : List Stmt} {f cc cda C : Addr} {N ps : List Str} {k : Nat} {sp : Sp} {kV doc pm ct oc ccl cl : Value} {an od cdd cld : Option Addr} {osl ccs csl : Array (Option Value)} {vs0 : Array Value} {file text : Str} {tf : Tok} {ar : Arg} {p0 p1 p2 p3 p4 p5 : Pos} {j : Nat}
    (lk : K.lookup f = some ⟨oc, od, .func (PySem.W.ksFn x qual (defArgs st) (defBody st) (defScope st) .none kV doc pm an (.ref cda) ct cc), osl⟩) (hcd : PySem.W.codeIn K (.ref cda) qual = true) (S : SScope N ps (defScope st))
    (hcode : K.lookup cda = some ⟨ccl, cdd, .fields vs0, ccs⟩) (hvs : vs0[2]? = some (.str file tf)) (hfile : ((P.main.file : Str) == file) = true) (hcell : K.lookup cc = some ⟨cl, cld, .cell (some (.ref C)), csl⟩) (T : OexC K C)
    (hmro : PySem.W.mroIn K C (.type "ValueError") = some true) (hself : PySem.W.mroIn K C (.ref C) = some true) (hal : PySem.W.ks_superIn K C C "__init__" = some (some (.builtin "ValueError.__init__"))) (hany : PySem.W.nsIn K cStatics "thirdparty.any" = some none)
    (hsup : mg "super" = none) (htop : (P.main.scope.names.lookup ("super" : Str)).isSome = false) (hbody : defBody st = .Expr (.Call (.Attribute (.Call (.Name "super" p0) [] [] p1) "__init__" p2) [.Constant (.str text) j p3] [] p4) p5 :: rest)
    (hcall : ∀ L : Addr, ∃ pl : Sem Bool, eval (.Call (.Attribute (.Call (.Name "super" p0) [] [] p1) "__init__" p2) [.Constant (.str text) j p3] [] p4) (PySem.W.ksEnv qual (defScope st) L f (.ref cda) cc) = (do
      let ov ← attributeBase (.Call (.Name "super" p0) [] [] p1) "__init__" (PySem.W.ksEnv qual (defScope st) L f (.ref cda) cc) (eval (.Call (.Name "super" p0) [] [] p1) (PySem.W.ksEnv qual (defScope st) L f (.ref cda) cc))
      standAt p2.atName
      let (fn, first) ← holding [ov] (getMethod ov "__init__" pl)
      callWith p4 fn first (backTo p4 (starEach [.Constant (.str text) j p3] (PySem.W.ksEnv qual (defScope st) L f (.ref cda) cc))) []))
    (hps : ((defArgs st).posonlyargs ++ (defArgs st).args).head? = some ar) (hp0 : ps[0]? = some ar.arg) (len : ∀ vs H Q E, sp vs H Q E → vs.length = ps.length)
    (body : ∀ (A : Around) (outer : List Env) (s : Shared) (H : Hp) (vs : List V) (Q : VK) (E : XK), sp vs H Q E → ∃ a t, vs[0]? = some (.ref a) ∧ H a = some (exo a C none) ∧
      PSs (cxS P w K mg base N qual (defScope st) f cc (.ref cda) A outer s H) rest t ∧ t { nx := fun _ H' => Q .non H', rt := Q } (L2.start N vs) H) :
    FnOk P w K mg base CX0 (k + 1) f (PySem.W.ksFn x qual (defArgs st) (defBody st) (defScope st) .none kV doc pm an (.ref cda) ct cc) ps sp := by
  refine ⟨len, fun A outer s H args us vs Q E hr e0 hb r hsp => ?_⟩
  have hl := len _ _ _ _ hsp
  have KX : K.In s.heap := e0.mod.kin.keeps fun b o e => (e0.bs b o e).1
  have lim : s.heap.NoLimit := e0.mod.nolimit.keeps fun b o e => (e0.bs b o e).1
  refine PySem.ks_codeAny_call_defAt (fd := PySem.W.ksFn x qual (defArgs st) (defBody st) (defScope st) .none kV doc pm an (.ref cda) ct cc) (body := defBody st) hr.depth (KX _ _ lk) rfl lim (PySem.W.codeRec_of KX hcd) rfl hb S.nocell (fun y hy => S.par y.1 (List.of_mem_zip (show (y.1, y.2) ∈ ps.zip us from hy)).1) (fun h₀ hns hk => ?_) S.co S.gen S.kind
  obtain ⟨a, t, ha, hea, ht, hq⟩ := body A outer s H vs Q E hsp
  have hcc := e0.mod.kin _ _ hcell
  have I0 : Inv (cxS P w K mg base N qual (defScope st) f cc (.ref cda) A outer s H) [] (L2.start N vs) H { s with heap := h₀, toks := s.toks + (ps.zip us).length } := inv_S S hr.hd e0 hl r hns hk hcc rfl
  obtain ⟨uself, hus, rus⟩ := r.get ha
  obtain rfl : uself = Value.ref a := rus
  have hv : (ps.zip us).reverse.lookup ar.arg = some (.ref a) := NdefX.zip_look (by rw [← S.pre]; exact S.nd.sublist (List.take_sublist _ _)) hp0 hus
  obtain ⟨nm, q, N', bs, bm, sn, sub, ab, col, dd, k0, k1, k2, k3, k5, hC, hbm⟩ := T.cls
  have hcl : PySem.W.clsIn K C = some { name := nm, bases := bs, mro := .ref C :: bm, ns := N', qualname := q, hasDict := true, slotNames := sn, subclasses := sub, abstract := ab, collection := col, hasDel := false } := by unfold PySem.W.clsIn; rw [hC] <;> rfl
  have KI := I0.kIn
  obtain ⟨t1, ho⟩ := exo_at I0.hok hea
  obtain ⟨mb, b1, b2⟩ := I0.mod.blt
  obtain ⟨pl, hca⟩ := hcall s.heap.objs.size
  show PySem.wpAt _ _ _ (execs (defBody st) (PySem.W.ksEnv qual (defScope st) s.heap.objs.size f (.ref cda) cc)) _ _ _
  rw [show execs (defBody st) = execs (.Expr (.Call (.Attribute (.Call (.Name "super" p0) [] [] p1) "__init__" p2) [.Constant (.str text) j p3] [] p4) p5 :: rest) by rw [hbody]]
  refine PySem.ks_wpAt_execs_cons (PySem.ks_wpAt_Expr_any (PySem.ks_wpAt_MethodCall ?_ hca) (by show (((defScope st).kind == .module) && _) = false; rw [S.kind]; rfl) rfl)
  refine PySem.ks_wpAt_super_base (env := PySem.W.ksEnv qual (defScope st) s.heap.objs.size f (.ref cda) cc) S.sup S.cls rfl rfl (KI _ _ lk) rfl hps rfl (KI _ _ hcode) rfl hvs hfile htop ?_
  refine PySem.W.ks_loadName_global S.kind S.sup (Calls.loadGlobal_builtin (env := PySem.W.ksEnv qual (defScope st) s.heap.objs.size f (.ref cda) cc) (I0.mod.glob.keeps I0.bk) hsup (b1.keeps I0.bk) ((b2 _ (by decide +kernel)).trans PyProof.Rows.Boot.«super») ⟨rfl, ?_⟩)
  refine wpAny_loadName_free S.kind S.cls rfl ⟨_, KI _ _ hcell, rfl⟩ (wpAny_loadName_local S.kind (S.par _ (List.mem_of_getElem? hp0)) hns hv ?_)
  have naC : a ≠ C := fun z => by
    subst z
    have := KI _ _ hC
    rw [ho] at this
    cases Option.some.inj this
  refine PySem.ks_wpAny_isType_cls (KI _ _ hC) rfl ⟨rfl, PySem.ks_wpAny_call_super (KI _ _ hC) rfl ho rfl (fun c e => by cases e) (PySem.W.looks_mroIn KI hself) fun h1 e1 k1' => ?_⟩
  have I1 := I0.kept (t' := s.toks + (ps.zip us).length) k1'
  have KI1 := I1.kIn
  have ho1 := k1' _ _ ho
  have hal' : PySem.W.alongIn K "__init__" bm = some (some (.builtin "ValueError.__init__")) := by
    unfold PySem.W.ks_superIn at hal
    rw [hcl] at hal
    have hal : PySem.W.alongIn K "__init__" (((Value.ref C :: bm).dropWhile (· != .ref C)).drop 1) = some (some (.builtin "ValueError.__init__")) := hal
    rw [veq_ref] at hal
    exact hal
  have IA : PySem.W.InstAt h1 a _ C none := ⟨ho1, rfl, rfl, trivial⟩
  refine vi_method (x := a) (C := C) (D := C) (l₀ := .ref C :: bm) (l := bm) e1 (PySem.W.looks_opaque KI1 hany) (fun A Q E s k q => wpAny_bind ((PySem.W.looks_clsIn KI1 hcl) A _ E s k (wpAny_pure q))) veq_ref KI1 hal' naC rfl (IA.type.andThen (PySem.W.looks_mroIn KI1 hmro)) ?_
  have I2 := (I1.kept (h' := h1.push (viW a)) (t' := s.toks + (ps.zip us).length + 1) fun b o e => Heap.get?_push_of_some _ e).pins_of (pins' := [(h1.objs.size, viW a)]) fun p hp => by
    have hp : p ∈ [(h1.objs.size, viW a)] := hp
    cases List.mem_singleton.mp hp
    exact ⟨Heap.get?_push_at rfl rfl, I1.hok.fresh (Nat.le_refl _), Nat.ne_of_gt I1.lt, I1.nofs (Nat.le_refl _), fun v z => by cases z⟩
  refine vi_bound (x := a) (thn ((pa_cons pe_str pa_nil : PA (cxS P w K mg base N qual (defScope st) f cc (.ref cda) A outer s H) [.Constant (.str text) j p3] _).run p4 _ _ _ H (fun vs2 H2 => vs2 = [V.str text] ∧ H2 = H) I2 ⟨rfl, rfl⟩) fun us2 s3 ⟨vs2, H2, I3, r2, e2, e3⟩ => ?_) rfl rfl
  subst e2 e3
  have hu := (I3.pin (h1.objs.size, viW a) (List.mem_append_right _ (List.mem_singleton.mpr rfl))).1
  obtain ⟨t3, ho3⟩ := exo_at I3.hok hea
  have hlen : us2.length ≤ sizeLine := by
    rw [← r2.length, sizeLine_eq]
    exact (show 1 ≤ 16777216 by decide)
  obtain ⟨hp, g, d, tk, os⟩ := s3
  refine ⟨hu, vi_call (I3.kIn _ _ hC) ho3 hu hlen fun h4 t4 k4 hx4 => ?_⟩
  have J := I3.write (t' := tk) (x := a) (e := a) (o := exo a C none) (by rw [hea]; exact True.intro) (.inl rfl) k4 ⟨_, hx4⟩ (exo_ok hx4)
  have eu : upd H2 a (exo a C none) = H2 := by
    funext b
    by_cases hb : b = a
    · rw [hb, upd_same, hea]
    · rw [upd_ne hb]
  rw [eu] at J
  refine wpAt_of_wpAny (wpAny_mono (ht.run _ _ _ _ _ J hq) (fun fl s' hs => ?_) fun e s' hs => hs.elim)
  have fin : ∀ {σ' : L2.St} {H' : Hp} {v : V} {u : Value}, Inv (cxS P w K mg base N qual (defScope st) f cc (.ref cda) A outer s H2) [(h1.objs.size, viW a)] σ' H' s' → RelV v u → Q v H' → CE outer P w H2 s Q u s' :=
    fun {σ' H' v u} J rv q => ⟨v, H', J.os, J.bare, J.base, J.hok, rv, q⟩
  cases fl with
  | ret u => obtain ⟨v, σ', H', J, rv, q⟩ := hs; exact fin J rv q
  | next => obtain ⟨σ', H', J, q⟩ := hs; exact fin (v := V.non) (u := Value.none) J rfl q
  | brk => obtain ⟨_, _, _, q⟩ := hs; exact False.elim q
  | cont => obtain ⟨_, _, _, q⟩ := hs; exact False.elim q
end Z

/-! ZN: calls that may raise: what they let out is a wish at the slots; data for it. -/
namespace Z
open PySem PySem.Spec PyProof.Rows L2
section
variable {X : Cx} {CX : CXT} {k : Nat} {f C : Addr} {fd : FuncData} {ps : List Str} {sp : Sp} {E : L2.St → XK} {x m : Str} {p pos apos : Pos} {e o : Expr} {es : List Expr} {ta : TE} {t : TA} {dvs : List V} {ds : List Value}
/-- C(..), __init__ may raise -/
def tMakeS (C : Addr) (sp : Sp) (dvs : List V) (E : L2.St → XK) (t : TA) : TE := fun σ H Q => t σ H fun vs H1 => ∀ x dx, H1 x = none → H1 dx = none → dx ≠ x → sp (.ref x :: (vs ++ dvs)) (upd (upd H1 dx (.own x)) x (.ins C dx [])) (fun v H2 => v = .non ∧ Q (.ref x) H2) (E σ)
theorem run_makeS {pins : List (Addr × Obj)} {σ : L2.St} {H : Hp} {s : Shared} {Q : VK} {us : List Value} {vs : List V} (M : Mk X.K C f) (F : FnOk X.prog X.w X.K X.mg X.base CX k f fd ps sp) (hr : Room (k + 1) X.A) (hb : Binds X.K fd ps ds) (hd : Vals dvs ds) (hx : PassesAt CX X σ (E σ)) (I : Inv X pins σ H s) (r : Vals vs us)
    (h : ∀ x dx, H x = none → H dx = none → dx ≠ x → sp (.ref x :: (vs ++ dvs)) (upd (upd H dx (.own x)) x (.ins C dx [])) (fun v H2 => v = .non ∧ Q (.ref x) H2) (E σ)) : wpAny (model X.prog X.w) X.A (call (.ref C) us) (EP X pins σ Q) X.xe s := by
  have hq := h _ _ (I.hok.fresh (Nat.le_succ s.heap.objs.size)) (I.hok.fresh (Nat.le_refl s.heap.objs.size)) (Nat.ne_of_lt (Nat.lt_succ_self _)); have I2 := Inv.made (C := C) I
  have r2 : Vals (V.ref (s.heap.objs.size + 1) :: (vs ++ dvs)) (Value.ref (s.heap.objs.size + 1) :: (us ++ ds)) := .cons rfl (r.append hd); have hl : (Value.ref (s.heap.objs.size + 1) :: us ++ ds).length = ps.length := (r2.length.symm.trans (F.len _ _ _ _ hq))
  refine wpAny_call (make_map (f := f) I.kIn M.makes M.init (beq_iff_eq.mp M.fn) (codeAny_mono (F.run _ X.stack _ _ ⟨_ :: us, []⟩ _ _ _ (E σ) (hr.make C us []) (I2.env0.make C us []) (hb _ (_ :: us) I2.kIn hl) r2 hq) fun r s' hq' => ?_))
  rcases r with er | fl
  · exact hx pins _ _ er s' I2 hq'
  · cases fl with
    | ret u => obtain ⟨v, H', I3, rv, ev, q3⟩ := I2.after hq'; subst ev; exact ⟨rv, ⟨V.ref (s.heap.objs.size + 1), H', I3, rfl, q3⟩⟩
    | next => exact hq'.elim
    | brk => exact hq'.elim
    | cont => exact hq'.elim
theorem pe_makeS (M : Mk X.K C f) (F : FnOk X.prog X.w X.K X.mg X.base CX k f fd ps sp) (hr : Room (k + 1) X.A) (hg : Gl X x) (hm : X.mg x = some (.ref C)) (hb : Binds X.K fd ps ds) (hd : Vals dvs ds) (hx : ∀ σ, PassesAt CX X σ (E σ)) (ha : PA X (e :: es) t) (hdb : (x == ("__debug__" : Str)) = false := by decide)
    (he : starEach (e :: es) X.env = (false, eval e X.env) :: starEach es X.env := by rfl) (hpl : (backTo pos (starEach es X.env)).any (·.1) = false := by rfl) : PE X (.Call (.Name x p) (e :: es) [] pos) (tMakeS C sp dvs E t) :=
  ⟨fun pins s σ H Q I h => wpAny_Call_Name_kw (ld_glob I hg hm (PySem.W.callWith_K (h₀ := X.base) I.ok.mod.kin M.kp (thn (ha.run pos pins s σ H _ I h) fun us s1 ⟨vs, H1, I1, r, q⟩ => ⟨I1.kIn, run_makeS M F hr hb hd (hx σ) I1 r q⟩) he hpl) hdb)⟩
/-- o.m(..), it may raise -/
def tMethS (C : Addr) (m : Str) (sp : Sp) (dvs : List V) (E : L2.St → XK) (ta : TE) (t : TA) : TE := fun σ H Q => ta σ H fun x H1 => ∃ a dx fs, x = .ref a ∧ H1 a = some (.ins C dx fs) ∧ fs.lookup m = none ∧ t σ H1 fun vs H2 => sp (x :: (vs ++ dvs)) H2 Q (E σ)
theorem pe_methS {pl : Sem Bool} (he : PE X o ta) (c : Cls X.K C) (hm : Meth X.K C m f) (F : FnOk X.prog X.w X.K X.mg X.base CX k f fd ps sp) (hr : Room k X.A) (hb : Binds X.K fd ps ds) (hd : Vals dvs ds) (hx : ∀ σ, PassesAt CX X σ (E σ)) (ha : PA X (e :: es) t)
    (hst : starEach (e :: es) X.env = (false, eval e X.env) :: starEach es X.env := by rfl) (hpl : (backTo pos (starEach es X.env)).any (·.1) = false := by rfl)
    (ht : eval (.Call (.Attribute o m apos) (e :: es) [] pos) X.env = (do let ov ← eval o X.env; standAt apos.atName; let (f, first) ← holding [ov] (getMethod ov m pl); callWith pos f first (backTo pos (starEach (e :: es) X.env)) (backToKw pos (keywordEach [] X.env))) := by rfl) :
    PE X (.Call (.Attribute o m apos) (e :: es) [] pos) (tMethS C m sp dvs E ta t) := by
  refine ⟨fun pins s σ H Q I h => PySem.W.methodCall_KW (pl := pl) (thn (he.run pins s σ H _ I h) fun u s1 ⟨x, H1, I1, rx, a, dx, fs, ex, ea, l, q⟩ => ?_) ht⟩
  subst ex; obtain rfl : u = Value.ref a := rx
  exact getmeth_ok I1 ea c hm l (PySem.W.callWith_K (first := [.ref a]) (h₀ := X.base) I.ok.mod.kin hm.kp (thn (ha.run pos pins s1 σ H1 _ I1 q) fun us s2 ⟨vs, H2, I2, r, q2⟩ => ⟨I2.kIn, run_fnSD (us := .ref a :: us) (vs := .ref a :: vs) F hr hb hd (hx σ) I2 (.cons rfl r) q2⟩) hst hpl)
end
/-! ### on data -/
section
variable {c : Cz} {ρ : List S} {ta tb te tv : TE} {tr : TA} {Q : D → Prop} {S : DSp} {XW : XD} {W : WX}
/-- the wish W takes what XW tells, at the slots ρ -/
def WOk (c : Cz) (ρ : List Z.S) (W : WX) (XW : XD) : Prop := ∀ σ H' C fs od, EnvOk c H' σ ρ → ExAt c.K c.T H' od fs → XW C fs → W (.ref C) od σ H'
theorem de_callS (hW : WOk c ρ W XW) (h : DA c ρ tr fun ds => S ds Q XW) : DE c ρ (tCallSD (spD c.K c.T S) [] (WE W) tr) Q := fun σ H I R k => h σ H I _ fun vs H1 ds e a q =>
  ⟨ds, Q, XW, by rw [List.append_nil]; exact a, q, fun d v H2 p e2 m => k v H2 d (e.trans e2) m p, fun C fs od H' x e2 ex => hW σ H' C fs od (I.same (e.trans e2)) ex x⟩
theorem de_callSD {dvs : List V} {dd : List D} (hW : WOk c ρ W XW) (hd : ∀ H, AtAll c.K c.T H dvs dd) (h : DA c ρ tr fun ds => S (ds ++ dd) Q XW) : DE c ρ (tCallSD (spD c.K c.T S) dvs (WE W) tr) Q := fun σ H I R k => h σ H I _ fun vs H1 ds e a q =>
  ⟨ds ++ dd, Q, XW, a.append (hd H1), q, fun d v H2 p e2 m => k v H2 d (e.trans e2) m p, fun C fs od H' x e2 ex => hW σ H' C fs od (I.same (e.trans e2)) ex x⟩
theorem de_makeS {C : Addr} {S : ISp} {dvs : List V} {dd : List D} (hW : WOk c ρ W XW) (hd : ∀ H, AtAll c.K c.T H dvs dd) (h : DA c ρ tr fun ds => S (ds ++ dd) (fun fs => Q (.obj C fs)) XW) : DE c ρ (tMakeS C (spI c.K c.T C S) dvs (WE W) tr) Q := fun σ H I R k =>
  h σ H I _ fun vs H1 ds e a q x dx nx nd ne => by
  have s1 : Same H1 (upd (upd H1 dx (.own x)) x (.ins C dx [])) := fun b o hb => by
    rw [upd_ne (ne_of_none hb nx), upd_ne (ne_of_none hb nd)]
    exact hb
  refine ⟨x, dx, vs ++ dvs, ds ++ dd, _, XW, rfl, upd_same, (a.same s1).append (hd _), q, fun fs H2 p e2 m => ⟨rfl, k _ H2 _ (e.trans fun b o hb => e2 b o (s1 b o hb) (ne_of_none hb nx)) m p⟩, fun C' fs od H' xx e2 ex => hW σ H' C' fs od (I.same (e.trans fun b o hb => e2 b o (s1 b o hb) (ne_of_none hb nx))) ex xx⟩
theorem de_methS {C : Addr} {m : Str} (hW : WOk c ρ W XW) (hm : m ∉ c.T C) (h : DR c ρ ta fun d => ∃ fs, d = .obj C fs ∧ DA c ρ tr fun ds => S (d :: ds) Q XW) : DE c ρ (tMethS C m (spD c.K c.T S) [] (WE W) ta tr) Q := fun σ H I R k => h σ H I _ fun v H1 d e a ⟨fs, ed, q⟩ => by
  subst ed
  obtain ⟨p, dx, gs, rfl, h1, h2, h3, h4⟩ := a.obj
  refine ⟨p, dx, gs, rfl, h1, lookup_no (by rw [h2]; exact hm), q σ H1 (I.same e) _ fun vs H2 ds e2 a2 q2 => ?_⟩
  exact ⟨.obj C fs :: ds, Q, XW, by rw [List.append_nil]; exact .cons ((At.obj h1 h2 h3 h4).same e2) a2, q2, fun d v H3 p e3 m => k v H3 d ((e.trans e2).trans e3) m p, fun C' gs od H' xx e3 ex => hW σ H' C' gs od (I.same ((e.trans e2).trans e3)) ex xx⟩
end
end Z

/-! ZO: raise, try .. except, what is caught. -/
namespace Z
open PySem PySem.Spec PyProof.Rows L2
/-! ### isinstance of what is caught, its dict whatever -/
section
open PySem.W
variable {prog : Program} {w : World} {A : Around} {E : Value → Shared → Prop} {s : Shared} {K : Frag} {x D : Addr} {ox : Obj} {od : Option Obj}
theorem cls_find {K : Frag} {C : Addr} (c : ExcC K C) : findObj K C od "__class__" = some (.bind (.builtin "getset_descriptor.__get__") (.builtin "object.__class__")) := by
  obtain ⟨cd, hc, _⟩ := any_some c.hd
  unfold findObj; rw [hc, Option.bind_some, c.ha, Option.bind_some]; simp [c.hn, c.ht]
theorem cls_get {Q : Option Value → Shared → Prop} (c : ExcC K D) (X : K.In s.heap) (I : InstAt s.heap x ox D od) (h : Q (some (.ref D)) { s with toks := s.toks + 1 }) : wpAny (model prog w) A (getAttr? (.ref x) "__class__") Q E s := by
  have hf := cls_find (od := od) c
  obtain ⟨hp, g, d, t, os⟩ := s
  have l0 := I.type (M := model prog w); have l1 := looks_findIn (M := model prog w) X c.hg; have l2 := looks_findIn (M := model prog w) X c.hk; have l3 := looks_find (M := model prog w) X I hf
  have sub : Looks (model prog w) hp (isInstance (.ref x) (.type "BaseException")) true := l0.andThen (looks_subIn X c.hs)
  have z0 : (Value.builtin "BaseException.__getattribute__" == Value.builtin "object.__getattribute__") = false := by decide +kernel
  have z1 : (onTheHeap (Value.ref D) && Value.builtin "BaseException.__getattribute__" == Value.builtin "object.__getattribute__") = false := by rw [z0]; rfl
  unfold getAttr? getAttrBy? getAttrBy
  refine wpAny_bind (wpAny_mkText (wpAny_bind (wpAny_attempt (wpAny_holding (wpAny_bind (l0.at (wpAny_bind (l1.at (show wpAny _ _ (if (onTheHeap (Value.ref D) && Value.builtin "BaseException.__getattribute__" == Value.builtin "object.__getattribute__") = true then _ else _) _ _ _ from ?_)))))))))
  rw [z1, if_neg Bool.false_ne_true]; unfold getAttrByItsOwn hookBefore
  refine wpAny_bind ?_; rw [if_pos (show onTheHeap (Value.ref D) = true from rfl)]
  refine l2.at (wpAny_bind (wpAny_attempt (wpAny_holding ?_))); unfold callGetattribute
  rw [show (false && onTheHeap (Value.builtin "BaseException.__getattribute__")) = false from rfl, if_neg Bool.false_ne_true]; unfold boundAndCalled
  rw [PySem.F.excAttr_ValueError.ga.bind (.ref x)]
  refine wpAny_bind (wpAny_pure (show wpAny _ _ (call (.builtin "BaseException.__getattribute__") [.ref x, .str "__class__" t]) _ _ _ from wpAny_call (codeAny_call_builtin PySem.F.excAttr_ValueError.ga.plain PySem.F.entry_bexc_ga ?_)))
  refine @check_slot (model prog w) _ _ ⟨hp, g, d, t + 1, os⟩ "BaseException.__getattribute__" "BaseException" "__getattribute__" (.ref x) [.str "__class__" t] [] _ (by decide +kernel) (by decide +kernel) sub (PySem.F.args_bexc_ga (.ref x) (.str "__class__" t)) ?_
  unfold Builtin.«object.__getattribute__»; refine wpAny_bind (wpAny_of_eq (a := ((Value.ref x : Value), [Value.str "__class__" t])) (by first | rfl | (simp only [slotArgs]; rfl)) (wpAny_bind (wpAny_pure (wpAny_bind (l0.at (wpAny_bind (l3.at ?_)))))))
  show wpAny _ _ (holding [Value.builtin "object.__class__"] (call (.builtin "getset_descriptor.__get__") [.builtin "object.__class__", .ref x, .ref D]) >>= ret) _ _ _
  refine wpAny_bind (wpAny_holding (wpAny_call (class_get (s := ⟨hp, g, d, t + 1, os⟩) (ox := ox) (od := od) X I c.hm (wpAny_pure (show wpAny _ _ (handedOut (.ref D)) _ _ _ from ?_)))))
  rw [handedOut_of (v := .ref D) rfl]
  first
    | exact wpAny_pure (wpAny_pure h)
    | exact wpAny_pure h
    | exact wpAny_pure (wpAny_bind (wpAny_pure (wpAny_pure h)))
theorem cls_kit (c : ExcC K D) : KitX K (.ref x) (.ref D) (fun h => InstAt h x ox D od) where
  ty := fun _ _ _ I => I.type
  it := fun _ _ X _ => by
    obtain ⟨cdD, hcD, _⟩ := any_some c.hd
    unfold clsIn at hcD; split at hcD
    · rename_i c' d' cd' sl' ho; intro A' Q' E' s' k q; unfold isType loadHead
      exact wpAny_bind (wpAny_loadPart (k _ _ (X _ _ ho)) (wpAny_pure q))
    · cases hcD
  ne := fun h tp dd its n sl X htp => by
    obtain ⟨cdD, hcD, _⟩ := any_some c.hd
    refine Bool.eq_false_iff.mpr fun q => ?_; have e : D = tp := Value.ref.inj (beq_iff_eq.mp q)
    subst e; unfold clsIn at hcD; split at hcD
    · rename_i c' d' cd' sl' ho; have z := (X _ _ ho).symm.trans htp; cases z
    · cases hcD
  ca := fun X I k => cls_get c X I k
end
/-- isinstance(e, c), e what the suite holds -/
def rIsX (K : PySem.W.Frag) (a : Addr) (cls : Value) (d : Option Addr) : List V → Hp → VK → Prop := fun xs H Q => ∃ (D : Addr) (c : V) (cv : Value) (b : Bool), cls = .ref D ∧ ExcC K D ∧ (∀ dx, d = some dx → ∃ gs, H dx = some (.xd gs)) ∧ xs = [.ref a, c] ∧ (∀ u, RelV c u → u = cv) ∧ PySem.W.kitOne K (.ref D) cv = some b ∧ Q (.bl b) H
theorem xd_obj {P : Program} {w : World} {H : Hp} {h : Heap} {dx : Addr} {gs : List (Str × V)} (hok : HOk P w H h) (e : H dx = some (.xd gs)) : ∃ o, h.get? dx = some o := by
  obtain ⟨_, ⟨o, _, _, ho, _⟩, _⟩ := hok dx _ e
  exact ⟨o, ho⟩
theorem call_isX {X : Cx} {a : Addr} {cls : Value} {d : Option Addr} {oe : Obj} {pn : List (Addr × Obj)} (hz : Zc cls d oe) (hf : ∃ vs, oe.data = .fields vs) : CallR (X.suite a ((a, oe) :: pn)) (.builtin "isinstance") (rIsX X.K a cls d) := by
  intro pins s σ H xs us Q I r h
  obtain ⟨D, c, cv, b, rfl, C, hd, rfl, hcv, e, q⟩ := h
  cases r with
  | cons rx rr =>
    cases rr with
    | cons rt rr =>
      cases rr
      cases rx
      have ec := hcv _ rt
      subst ec
      obtain ⟨hget, _⟩ := I.pin (a, oe) (List.mem_append.mpr (.inl List.mem_cons_self))
      obtain ⟨vs, hv⟩ := hf
      obtain ⟨oc, od, oda, osl⟩ := oe
      obtain ⟨h1, h2⟩ := hz
      dsimp only at h1 h2 hv
      subst h1 h2 hv
      obtain ⟨oo, J⟩ : ∃ oo, PySem.W.InstAt s.heap a ⟨.ref D, od, .fields vs, osl⟩ D oo := by
        cases od with
        | none => exact ⟨none, hget, rfl, rfl, trivial⟩
        | some dx =>
          obtain ⟨gs, hg⟩ := hd dx rfl
          obtain ⟨o, ho⟩ := xd_obj I.hok hg
          exact ⟨some o, hget, rfl, rfl, ho⟩
      exact PySem.W.kia_one (cls_kit C) I.kIn J e (fun z => nomatch z) fun tk => ⟨.bl b, H, I.kept (t' := tk) fun _ _ z => z, rfl, q⟩
end Z

/-! ZP: raise and try on data. -/
namespace Z
open PySem PySem.Spec PyProof.Rows L2
/-- an error class of the program, over ValueError -/
structure ErrC (K : PySem.W.Frag) (C : Addr) : Prop where
  ox : OexC K C
  ex : ExcC K C
section
variable {K : PySem.W.Frag} {C D : Addr} {b : Bool}
theorem ErrC.xf (e : ErrC K C) : XfC K C := ⟨e.ex.hg, e.ex.hk, e.ex.hs, e.ex.hd⟩
theorem exm_ok (c : ErrC K C) (h : PySem.W.subIn K (.ref D) (.ref C) = some b) : PySem.W.exmOne K (.ref D) (.ref C) = some b := PySem.W.exm_ref c.ex.hs c.ex.hd c.ox.tyC h
theorem kit_ok (c : ErrC K C) (h : PySem.W.subIn K (.ref D) (.ref C) = some b) (ne : D = C → b = true) : PySem.W.kitOne K (.ref D) (.ref C) = some b := by
  unfold PySem.W.kitOne
  split
  · rename_i e
    have : D = C := Value.ref.inj (beq_iff_eq.mp e)
    rw [ne this]
  · obtain ⟨cd, hc, _⟩ := PySem.W.any_some c.ex.hd
    show (if ((PySem.W.clsIn K C).isSome && PySem.W.typeIn K (.ref C) == some (.type "type")) = true then PySem.W.subIn K (.ref D) (.ref C) else none) = some b
    rw [hc, c.ox.tyC, if_pos (by rfl), h]
theorem kit_b {T : String} (hm : PySem.W.kitMeta T = true) (h : PySem.W.subIn K (.ref D) (.type T) = some b) : PySem.W.kitOne K (.ref D) (.type T) = some b := by
  unfold PySem.W.kitOne
  split
  · rename_i e
    cases (beq_iff_eq.mp e : Value.ref D = Value.type T)
  · show (if PySem.W.kitMeta T = true then PySem.W.subIn K (.ref D) (.type T) else none) = some b
    rw [if_pos hm, h]
end
/-! ### what an error's __init__ does -/
def xSp (C : Addr) (fs : List Str) : Sp := fun vs H Q _ => ∃ a ys, vs = .ref a :: ys ∧ ys.length = fs.length ∧ H a = some (exo a C none) ∧ ∀ dx, H dx = none → dx ≠ a → Q .non (upd (upd H dx (exd dx ((fs.zip ys).reverse))) a (exo a C (some dx)))
section
variable {K : PySem.W.Frag} {C a : Addr} {f g : Str} {y z : V} {H : Hp} {Q : VK}
theorem x1_read (T : OexC K C) (hf : PySem.W.findIn K (.ref C) f = some none) (hea : H a = some (exo a C none)) (q : ∀ dx, H dx = none → dx ≠ a → Q .non (upd (upd H dx (exd dx [(f, y)])) a (exo a C (some dx)))) :
    tOst K f (tVar 0) (tVar 1) { nx := fun _ H' => Q .non H', rt := Q } [some (.ref a), some y] H := ⟨y, rfl, .ref a, rfl, a, C, rfl, T, hf, .inl ⟨hea, q⟩⟩
theorem x2_read (T : OexC K C) (hf : PySem.W.findIn K (.ref C) f = some none) (hg : PySem.W.findIn K (.ref C) g = some none) (hea : H a = some (exo a C none)) (q : ∀ dx, H dx = none → dx ≠ a → Q .non (upd (upd H dx (exd dx [(g, z), (f, y)])) a (exo a C (some dx)))) :
    tSeq (tOst K f (tVar 0) (tVar 1)) (tOst K g (tVar 0) (tVar 2)) { nx := fun _ H' => Q .non H', rt := Q } [some (.ref a), some y, some z] H :=
  ⟨y, rfl, .ref a, rfl, a, C, rfl, T, hf, .inl ⟨hea, fun dx h1 h2 => ⟨z, rfl, .ref a, rfl, a, C, rfl, T, hg, .inr ⟨dx, [(f, y)], upd_same, by rw [upd_ne h2]; exact upd_same, (show 1 ≤ 900 by decide), by
    have e : upd (upd (upd H dx (exd dx [(f, y)])) a (exo a C (some dx))) dx (exd dx [(g, z), (f, y)]) = upd (upd H dx (exd dx [(g, z), (f, y)])) a (exo a C (some dx)) := by
      funext b
      by_cases e1 : b = dx
      · subst e1
        rw [upd_same, upd_ne h2, upd_same]
      · rw [upd_ne e1]
        by_cases e2 : b = a
        · rw [e2, upd_same, upd_same]
        · rw [upd_ne e2, upd_ne e2, upd_ne e1, upd_ne e1]
    show Q .non _
    rw [e]
    exact q dx h1 h2⟩⟩⟩⟩
end
/-! ### statements -/
def tRaise (W : WX) (t : L2.St → Hp → XK → Prop) : TS := fun _ σ H => t σ H fun cls d H' => W cls d σ H'
def tMk0 (C : Addr) : L2.St → Hp → XK → Prop := fun _ H Q => Q (.ref C) none H
theorem ps_raiseW {X : Cx} {W : WX} {e : Expr} {t : L2.St → Hp → XK → Prop} {pos : Pos} (hc : X.calm = true) (tk : Takes X W) (he : PMk X e t) : PS X (.Raise (some e) none pos) (tRaise W t) := ps_raise hc tk he
section
variable {c : Cz} {ρ : List S} {ta tb te : TE} {tr : TA} {N B C Rt' : List S → Prop} {Rt : D → List S → Prop} {XW : XD} {W : WX} {t u : TS}
theorem zip_fst : ∀ {α β : Type} {fs : List α} {ys : List β}, ys.length = fs.length → (fs.zip ys).map (·.1) = fs
  | _, _, [], [], _ => rfl
  | _, _, [], _ :: _, h => by simp at h
  | _, _, _ :: _, [], h => by simp at h
  | _, _, f :: fs, y :: ys, h => by rw [List.zip_cons_cons, List.map_cons, zip_fst (by simpa using h)]
theorem zip_snd : ∀ {α β : Type} {fs : List α} {ys : List β}, ys.length = fs.length → (fs.zip ys).map (·.2) = ys
  | _, _, [], [], _ => rfl
  | _, _, [], _ :: _, h => by simp at h
  | _, _, _ :: _, [], h => by simp at h
  | _, _, f :: fs, y :: ys, h => by rw [List.zip_cons_cons, List.map_cons, zip_snd (by simpa using h)]
theorem ds_raiseO {Cl : Addr} {fs : List Str} (hW : WOk c ρ W XW) (h : DA c ρ tr fun ds => ds.length = fs.length ∧ ds.length ≤ 1000 ∧ XW Cl ((fs.zip ds).reverse)) : DS c ρ (tRaise W (tMkO Cl (xSp Cl fs) [] tr)) N Rt B C := fun σ H I E n r b cc => h σ H I _ fun vs H1 ds e a ⟨hl, hz, xw⟩ => by
  have hlv := a.length
  refine ⟨by omega, fun x hx => ⟨x, vs, by rw [List.append_nil], by omega, upd_same, fun dx hd hne => ⟨rfl, dx, (fs.zip vs).reverse, upd_same, by rw [upd_ne hne]; exact upd_same, by rw [upd_ne hne] at hd; exact hd, ?_⟩⟩⟩
  rw [upd_ne hne] at hd
  have e2 : upd (del (upd (upd (upd H1 x (exo x Cl none)) dx (exd dx (fs.zip vs).reverse)) x (exo x Cl (some dx))) x) dx (.xd (fs.zip vs).reverse) = upd H1 dx (.xd (fs.zip vs).reverse) := by
    funext b
    by_cases e1 : b = dx
    · rw [e1, upd_same, upd_same]
    · rw [upd_ne e1, upd_ne e1]
      by_cases e2 : b = x
      · rw [e2, del_same, hx]
      · rw [del_ne e2, upd_ne e2, upd_ne e1, upd_ne e2]
  show W (.ref Cl) (some dx) σ _
  rw [e2]
  have sm := Same.new (H := H1) (o := .xd (fs.zip vs).reverse) hd
  refine hW σ _ Cl _ (some dx) (I.same (e.trans sm)) ⟨_, upd_same, ?_, ?_⟩ xw
  · rw [List.map_reverse, List.map_reverse, zip_fst (by omega), zip_fst hl]
  · rw [List.map_reverse, List.map_reverse, zip_snd (by omega), zip_snd hl]
    exact (a.same sm).reverse
theorem ds_raise0 {Cl : Addr} (hW : WOk c ρ W XW) (h : XW Cl []) : DS c ρ (tRaise W (tMk0 Cl)) N Rt B C := fun σ H I E n r b cc => hW σ H Cl [] none I rfl h
/-! without the heap's own steps told: try .. except at the top of a def -/
def DSn (c : Cz) (ρ : List S) (ts : TS) (N : List S → Prop) (Rt : D → List S → Prop) (B C : List S → Prop) : Prop :=
  ∀ σ H, EnvOk c H σ ρ → ∀ E : Ends, (∀ σ' H' ρ', EnvOk c H' σ' ρ' → N ρ' → E.nx σ' H') → (∀ v σ' H' d ρ', EnvOk c H' σ' ρ' → At c.K c.T H' v d → Rt d ρ' → E.rt v H') → (∀ σ' H' ρ', EnvOk c H' σ' ρ' → B ρ' → E.bk σ' H') → (∀ σ' H' ρ', EnvOk c H' σ' ρ' → C ρ' → E.ct σ' H') → ts E σ H
theorem dsn_of (h : DS c ρ t N Rt B C) : DSn c ρ t N Rt B C := fun σ H I E n r b cc => h σ H I E (fun σ' H' ρ' _ J q => n σ' H' ρ' J q) r (fun σ' H' ρ' _ J q => b σ' H' ρ' J q) (fun σ' H' ρ' _ J q => cc σ' H' ρ' J q)
theorem dsn_mono {N' : List S → Prop} (h : DSn c ρ t N' Rt B C) (k : ∀ ρ', N' ρ' → N ρ') : DSn c ρ t N Rt B C := fun σ H I E n r b cc => h σ H I E (fun σ' H' ρ' J q => n σ' H' ρ' J (k ρ' q)) r b cc
theorem dsn_seq (h : DSn c ρ t (fun ρ' => DSn c ρ' u N Rt B C) Rt B C) : DSn c ρ (tSeq t u) N Rt B C := fun σ H I E n r b cc =>
  h σ H I _ (fun σ' H' ρ' J q => q σ' H' J E n r b cc) r b cc
theorem dsn_seqD (h : DS c ρ t (fun ρ' => DSn c ρ' u N Rt B C) Rt B C) : DSn c ρ (tSeq t u) N Rt B C := dsn_seq (dsn_of h)
/-- try: .. except c as n: .. (n in slot i) -/
def tTryAs (K : PySem.W.Frag) (cv : Value) (i : Nat) (ts : Addr → Value → Option Addr → TS) (Wout : WX) (tb : WX → TS) : TS := fun D σ H => tb (wAs K cv i ts Wout D) D σ H
theorem dsn_tryAs {cv : Value} {i : Nat} {ts : Addr → Value → Option Addr → TS} {Wout : WX} {tb : WX → TS} (P : List S → Prop) (XW : XD) (hb : ∀ W, (∀ ρ1, P ρ1 → WOk c ρ1 W XW) → DSn c ρ (tb W) N Rt B C)
    (hs : ∀ ρ1 Cx fs a od, P ρ1 → XW Cx fs → PySem.W.exmOne c.K (.ref Cx) cv = some true ∧ DSn c (ρ1.set i (.exc a Cx od fs)) (ts a (.ref Cx) od) (fun ρ' => N (ρ'.set i .no)) Rt (fun ρ' => B (ρ'.set i .no)) (fun ρ' => C (ρ'.set i .no))) :
    DSn c ρ (tTryAs c.K cv i ts Wout tb) N Rt B C := fun σ H I E n r b cc => by
  refine hb (wAs c.K cv i ts Wout E) (fun ρ1 p1 σ1 H1 Cx fs od J xa xw => ?_) σ H I E n r b cc
  obtain ⟨hx, hd⟩ := hs ρ1 Cx fs 0 od p1 xw
  refine ⟨true, hx, fun _ a _ => ?_, fun z => nomatch z⟩
  obtain ⟨_, hd⟩ := hs ρ1 Cx fs a od p1 xw
  exact hd _ H1 (J.setS ⟨rfl, xa⟩ fun _ z => nomatch z) _ (fun σ' H' ρ' J' q => n _ H' _ J'.setN q) r (fun σ' H' ρ' J' q => b _ H' _ J'.setN q) (fun σ' H' ρ' J' q => cc _ H' _ J'.setN q)
/-- e.f of what is caught -/
theorem de_xf {i : Nat} {a Cl : Addr} {od : Option Addr} {fs : List (Str × D)} {f : Str} {d : D} {Q : D → Prop} (e : ρ[i]? = some (.exc a Cl od fs)) (hl : fs.lookup f = some d) (q : Q d) : DE c ρ (tXf a (.ref Cl) od Cl f (tVar i)) Q := fun σ H I R k => by
  obtain ⟨o, h1, rfl, h2⟩ := I.get e
  cases od with
  | none =>
    have : fs = [] := h2
    rw [this] at hl
    cases hl
  | some dx =>
    obtain ⟨gs, g1, g2, g3⟩ := h2
    obtain ⟨v, hv, av⟩ := lookup_two g2 g3 hl
    exact ⟨.ref a, h1, rfl, rfl, dx, gs, v, rfl, g1, hv, k v H d (SameR H) av q⟩
/-- isinstance(e, c) of what is caught -/
theorem de_isX {i : Nat} {a Cl : Addr} {od : Option Addr} {fs : List (Str × D)} {v : V} {cv : Value} {b : Bool} {Q : D → Prop} (e : ρ[i]? = some (.exc a Cl od fs)) (C : ExcC c.K Cl) (hv : ∀ u, RelV v u → u = cv) (hk : PySem.W.kitOne c.K (.ref Cl) cv = some b) (q : Q (.bl b)) :
    DE c ρ (tCB (rIsX c.K a (.ref Cl) od) (tCons (tVar i) (tCons (tC v) tNil))) Q := fun σ H I R k => by
  obtain ⟨o, h1, rfl, h2⟩ := I.get e
  refine ⟨.ref a, h1, Cl, v, cv, b, rfl, C, fun dx hd => ?_, rfl, hv, hk, k _ H _ (SameR H) (.bl b) q⟩
  subst hd
  obtain ⟨gs, g1, _⟩ := h2
  exact ⟨gs, g1⟩
end
/-! ### defs -/
section
variable {P : Program} {w : World} {K : PySem.W.Frag} {mg : Str → Option Value} {base : Heap}
theorem fn_Dn {T : Tb} {x qual : Str} {st : Stmt} {f : Addr} {fd : FuncData} {N ps : List Str} {k : Nat} {sp : DSp} (F : Fun K x qual st f fd) (Sc : FnScope N ps (defScope st)) (len : ∀ ds R X, sp ds R X → ds.length = ps.length)
    (body : ∀ (cdv : Value) (A : Around) (outer : List Env) (s : Shared) (H : Hp) (E : XK), Room k (A.deeper (envOfC qual (defScope st) s.heap.objs.size f cdv)) →
      ∃ t, PSs (cxOf CX0 P w K mg base N qual (defScope st) f cdv A outer s H E).nox (defBody st) t ∧
        ∀ ds R, sp ds R X0 → DSn ⟨K, T, fun _ => False, H⟩ (ds.map S.val ++ List.replicate (N.length - ds.length) S.no) t (fun _ => R .non) (fun d _ => R d) (fun _ => False) fun _ => False)
    (x0 : ∀ ds R X, sp ds R X → sp ds R X0) :
    FnOk P w K mg base CX0 (k + 1) f fd ps (spD K T sp) := by
  refine F.ok Sc (fun vs H Q E h => ?_) fun cdv A outer s H vs Q E hr h => ?_
  · obtain ⟨ds, R, X, a, hs, _⟩ := h
    rw [a.length]
    exact len ds R X hs
  · obtain ⟨t, ht, q⟩ := body cdv A outer s H E hr
    obtain ⟨ds, R, X, a, hs, kr, _⟩ := h
    refine ⟨t, ht, q ds R (x0 _ _ _ hs) _ H (start_at a) _ (fun σ' H' ρ' J r => ?_) (fun v σ' H' d ρ' J m r => ?_) (fun _ _ _ _ z => z.elim) fun _ _ _ _ z => z.elim⟩
    · exact kr .non .non H' r (fun b o hb => J.sm b o hb (fun z => z)) .non
    · exact kr d v H' r (fun b o hb => J.sm b o hb (fun z => z)) m
theorem fn_DX {T : Tb} {x qual : Str} {st : Stmt} {f : Addr} {fd : FuncData} {N ps : List Str} {k : Nat} {sp : DSp} (F : Fun K x qual st f fd) (Sc : FnScope N ps (defScope st)) (len : ∀ ds R X, sp ds R X → ds.length = ps.length)
    (body : ∀ (cdv : Value) (A : Around) (outer : List Env) (s : Shared) (H : Hp) (E : XK), Room k (A.deeper (envOfC qual (defScope st) s.heap.objs.size f cdv)) →
      ∃ t, PSs (cxOf (L2.CX P w) P w K mg base N qual (defScope st) f cdv A outer s H E) (defBody st) t ∧
        ∀ ds R X, sp ds R X → (∀ ρ, WOk ⟨K, T, fun _ => False, H⟩ ρ (fun cls d _ H' => E cls d H') X) → DSn ⟨K, T, fun _ => False, H⟩ (ds.map S.val ++ List.replicate (N.length - ds.length) S.no) t (fun _ => R .non) (fun d _ => R d) (fun _ => False) fun _ => False)
     :
    FnOk P w K mg base (L2.CX P w) (k + 1) f fd ps (spD K T sp) := by
  refine F.okX Sc (fun vs H Q E h => ?_) fun cdv A outer s H vs Q E hr h => ?_
  · obtain ⟨ds, R, X, a, hs, _⟩ := h
    rw [a.length]
    exact len ds R X hs
  · obtain ⟨t, ht, q⟩ := body cdv A outer s H E hr
    obtain ⟨ds, R, X, a, hs, kr, kx⟩ := h
    refine ⟨t, ht, q ds R X hs (fun ρ σ' H' C fs od J ex xx => kx C fs od H' xx (fun b o hb => J.sm b o hb (fun z => z)) ex) _ H (start_at a) _ (fun σ' H' ρ' J r => ?_) (fun v σ' H' d ρ' J m r => ?_) (fun _ _ _ _ z => z.elim) fun _ _ _ _ z => z.elim⟩
    · exact kr .non .non H' r (fun b o hb => J.sm b o hb (fun z => z)) .non
    · exact kr d v H' r (fun b o hb => J.sm b o hb (fun z => z)) m
theorem fn_IX {T : Tb} {C : Addr} {x qual : Str} {st : Stmt} {f : Addr} {fd : FuncData} {N ps : List Str} {k : Nat} {sp : ISp} (F : Fun K x qual st f fd) (Sc : FnScope N ps (defScope st)) (len : ∀ ds R X, sp ds R X → ds.length + 1 = ps.length)
    (body : ∀ (cdv : Value) (A : Around) (outer : List Env) (s : Shared) (H : Hp) (E : XK), Room k (A.deeper (envOfC qual (defScope st) s.heap.objs.size f cdv)) →
      ∃ t, PSs (cxOf (L2.CX P w) P w K mg base N qual (defScope st) f cdv A outer s H E) (defBody st) t ∧
        ∀ p ds F X, sp ds F X → (∀ ρ, WOk ⟨K, T, fun b => b = p, H⟩ ρ (fun cls d _ H' => E cls d H') X) → DSn ⟨K, T, fun b => b = p, H⟩ (.self C [] :: (ds.map S.val ++ List.replicate (N.length - (ds.length + 1)) S.no)) t
          (fun ρ' => ∃ fs r, ρ' = .self C fs :: r ∧ fs.map (·.1) = T C ∧ T C ≠ [] ∧ F (fs.map (·.2))) (fun _ _ => False) (fun _ => False) fun _ => False)
     :
    FnOk P w K mg base (L2.CX P w) (k + 1) f fd ps (spI K T C sp) := by
  refine F.okX Sc (fun vs H Q E h => ?_) fun cdv A outer s H vs Q E hr h => ?_
  · obtain ⟨p, dx, ws, ds, F, X, rfl, _, a, hs, _⟩ := h
    rw [List.length_cons, a.length]
    exact len ds F X hs
  · obtain ⟨t, ht, q⟩ := body cdv A outer s H E hr
    obtain ⟨p, dx, ws, ds, F, X, rfl, hp, a, hs, kr, kx⟩ := h
    have E0 := start_at (W := fun b => b = p) (N := N.drop 1) a
    have hl := a.length
    refine ⟨t, ht, q p ds F X hs (fun ρ σ' H' C fs od J ex xx => kx C fs od H' xx (fun b o hb hbp => J.sm b o hb hbp) ex) _ H ?_ _ (fun σ' H' ρ' J r => ?_) (fun v σ' H' d ρ' J m r => r.elim) (fun _ _ _ _ z => z.elim) fun _ _ _ _ z => z.elim⟩
    · have e1 : L2.start N (V.ref p :: ws) = some (V.ref p) :: L2.start (N.drop 1) ws := by
        unfold L2.start
        rw [List.map_cons, List.cons_append, List.length_cons, List.length_drop]
        congr 3
        omega
      have e2 : (ds.map S.val ++ List.replicate (N.length - (ds.length + 1)) S.no) = (ds.map S.val ++ List.replicate ((N.drop 1).length - ds.length) S.no) := by
        rw [List.length_drop]
        congr 2
        omega
      rw [e1, e2]
      refine ⟨E0.sm, E0.tr, by rw [List.length_cons, List.length_cons, E0.len], fun i o s h1 h2 => ?_, fun i j l es fs h1 h2 h3 h4 => ?_⟩
      · cases i with
        | zero =>
          cases h1
          cases h2
          exact ⟨p, dx, [], rfl, hp, rfl, .nil, rfl⟩
        | succ i => exact E0.slot i o s h1 h2
      · cases i with
        | zero => cases h3
        | succ i =>
          cases j with
          | zero => cases h4
          | succ j => rw [E0.dis i j l es fs h1 h2 h3 h4]
    · obtain ⟨fs, r', e, hf, hT, hF⟩ := r
      subst e
      have s0 := J.slot 0
      have hσ : 0 < σ'.length := by rw [J.len]; exact Nat.succ_pos _
      obtain ⟨p', dx', gs, h1, h2, h3, h4, h5⟩ := J.slot 0 _ _ (List.getElem?_eq_getElem hσ) rfl
      have : p' = p := h5
      subst this
      exact kr (fs.map (·.2)) H' hF (fun b o hb hbp => J.sm b o hb hbp) (.obj h2 (by rw [h3]; exact hf) hT h4)
theorem fn_IXD {dvs : List V} {T : Tb} {C : Addr} {x qual : Str} {st : Stmt} {f : Addr} {fd : FuncData} {N ps : List Str} {k : Nat} {sp : ISp} (F : FunD K x qual (defArgs st) (defBody st) (defScope st) dvs [] f fd) (Sc : FnScope N ps (defScope st)) (len : ∀ ds R X, sp ds R X → ds.length + 1 = ps.length)
    (body : ∀ (cdv : Value) (A : Around) (outer : List Env) (s : Shared) (H : Hp) (E : XK), Room k (A.deeper (envOfC qual (defScope st) s.heap.objs.size f cdv)) →
      ∃ t, PSs (cxOf (L2.CX P w) P w K mg base N qual (defScope st) f cdv A outer s H E) (defBody st) t ∧
        ∀ p ds F X, sp ds F X → (∀ ρ, WOk ⟨K, T, fun b => b = p, H⟩ ρ (fun cls d _ H' => E cls d H') X) → DSn ⟨K, T, fun b => b = p, H⟩ (.self C [] :: (ds.map S.val ++ List.replicate (N.length - (ds.length + 1)) S.no)) t
          (fun ρ' => ∃ fs r, ρ' = .self C fs :: r ∧ fs.map (·.1) = T C ∧ T C ≠ [] ∧ F (fs.map (·.2))) (fun _ _ => False) (fun _ => False) fun _ => False)
     :
    FnOk P w K mg base (L2.CX P w) (k + 1) f fd ps (spI K T C sp) := by
  refine F.ok (CX := L2.CX P w) Sc (fun vs H Q E h => ?_) fun cdv A outer s H vs Q E hr h => ?_
  · obtain ⟨p, dx, ws, ds, F, X, rfl, _, a, hs, _⟩ := h
    rw [List.length_cons, a.length]
    exact len ds F X hs
  · obtain ⟨t, ht, q⟩ := body cdv A outer s H E hr
    obtain ⟨p, dx, ws, ds, F, X, rfl, hp, a, hs, kr, kx⟩ := h
    have E0 := start_at (W := fun b => b = p) (N := N.drop 1) a
    have hl := a.length
    refine ⟨t, ht, q p ds F X hs (fun ρ σ' H' C fs od J ex xx => kx C fs od H' xx (fun b o hb hbp => J.sm b o hb hbp) ex) _ H ?_ _ (fun σ' H' ρ' J r => ?_) (fun v σ' H' d ρ' J m r => r.elim) (fun _ _ _ _ z => z.elim) fun _ _ _ _ z => z.elim⟩
    · have e1 : L2.start N (V.ref p :: ws) = some (V.ref p) :: L2.start (N.drop 1) ws := by
        unfold L2.start
        rw [List.map_cons, List.cons_append, List.length_cons, List.length_drop]
        congr 3
        omega
      have e2 : (ds.map S.val ++ List.replicate (N.length - (ds.length + 1)) S.no) = (ds.map S.val ++ List.replicate ((N.drop 1).length - ds.length) S.no) := by
        rw [List.length_drop]
        congr 2
        omega
      rw [e1, e2]
      refine ⟨E0.sm, E0.tr, by rw [List.length_cons, List.length_cons, E0.len], fun i o s h1 h2 => ?_, fun i j l es fs h1 h2 h3 h4 => ?_⟩
      · cases i with
        | zero =>
          cases h1
          cases h2
          exact ⟨p, dx, [], rfl, hp, rfl, .nil, rfl⟩
        | succ i => exact E0.slot i o s h1 h2
      · cases i with
        | zero => cases h3
        | succ i =>
          cases j with
          | zero => cases h4
          | succ j => rw [E0.dis i j l es fs h1 h2 h3 h4]
    · obtain ⟨fs, r', e, hf, hT, hF⟩ := r
      subst e
      have s0 := J.slot 0
      have hσ : 0 < σ'.length := by rw [J.len]; exact Nat.succ_pos _
      obtain ⟨p', dx', gs, h1, h2, h3, h4, h5⟩ := J.slot 0 _ _ (List.getElem?_eq_getElem hσ) rfl
      have : p' = p := h5
      subst this
      exact kr (fs.map (·.2)) H' hF (fun b o hb hbp => J.sm b o hb hbp) (.obj h2 (by rw [h3]; exact hf) hT h4)
end
/-- an error class with attributes, raised -/
structure CalE (P : Program) (w : World) (K : PySem.W.Frag) (mg : Str → Option Value) (base : Heap) (k : Nat) (x : Str) (C : Addr) (ps fs : List Str) (f : Addr) (fd : FuncData) : Prop where
  er : ErrC K C
  G : FnOk P w K mg base CX0 k f fd ps (xSp C fs)
  init : PySem.W.findIn K (.ref C) "__init__" = some (some (.ref f))
  ty : PySem.W.typeIn K (.ref f) = some (.type "function")
  mg : mg x = some (.ref C)
  b : Binds K fd ps []
/-- one without -/
structure CalE0 (K : PySem.W.Frag) (mg : Str → Option Value) (x : Str) (C : Addr) : Prop where
  er : ErrC K C
  xc : PySem.W.excIn K C [.type "ValueError", .type "Exception", .type "BaseException", .type "object"] "ValueError.__new__" = true
  mg : mg x = some (.ref C)
  kp : PySem.W.keepIn K (.ref C) = true
end Z

/-! ZQ: sorted of a tuple of ints; binary operators of an own class; len of an own object. -/
namespace Z
open PySem PySem.Spec PyProof.Rows L2
section
variable {prog : Program} {w : World} {A : Around} {E : Value → Shared → Prop} {s : Shared}
theorem collect_tup {l : Addr} {vs : List Value} {Q : List Value → Shared → Prop} (hl : IsTup s.heap l vs.toArray) (h : Q vs { s with heap := (s.heap.push (seqObj "list" #[] 0)).update s.heap.objs.size (Obj.mapSeq (· ++ vs.toArray)) }) (hsz : vs.length ≤ sizeLine) :
    wpAny (model prog w) A (collect (.ref l)) Q E s := by
  obtain ⟨o, ho, hc, n, hd⟩ := id hl
  unfold collect; refine wpAny_bind (wpAny_runValue (codeAny_builtin entry_proto_collect' (show wpAny _ _ (do again (.builtin "list.__iadd__" ⟨[← newList [], .ref l], []⟩)) _ _ s from ?_)))
  refine wpAny_bind (wpAny_newList (wpAny_pure ⟨Code.quiet_builtin _ (by decide +kernel), codeAny_builtin entry_list_iadd' (show wpAny _ _ (Builtin.List.listExtendWith (.ref s.heap.objs.size) (.ref l) (.ref s.heap.objs.size)) _ _ { s with heap := s.heap.push (seqObj "list" #[] 0) } from ?_)⟩))
  unfold Builtin.List.listExtendWith; have ho' : (s.heap.push (seqObj "list" #[] 0)).get? l = some o := Heap.get?_push_of_some _ ho
  refine wpAny_bind (wpAny_typeOf (T := "tuple") ⟨o, ho', hc⟩ ?_)
  rw [if_pos (by rw [show (Value.type "tuple" == Value.type "tuple") = true from rfl]; simp)]
  refine wpAny_bind (listItems_at ho' hd (wpAny_bind (listItems_at (xs := #[]) (n := 0) (Heap.get?_push_size _ rfl) rfl ?_)))
  rw [if_neg (by simp)]
  refine wpAny_bind (listUpdate_at (xs := #[]) (n := 0) (Heap.get?_push_size _ rfl) rfl ?_ (Nat.zero_le _) (by show (#[] ++ vs.toArray).size ≤ sizeLine + 1; simp only [Array.size_append, List.size_toArray, List.length_nil]; omega))
  refine wpAny_pure (show wpAny (model prog w) A (do
      let o ← load s.heap.objs.size; match o.data with | .seq xs _ => pure xs.toList | _ => unsupported "internal:collect") Q E { s with heap := (s.heap.push (seqObj "list" #[] 0)).update s.heap.objs.size (Obj.mapSeq (· ++ vs.toArray)) } from ?_)
  refine wpAny_bind (wpAny_load (get?_update_seq (Heap.get?_push_size _ rfl) _) (show wpAny _ _ (pure ((#[] : Array Value) ++ vs.toArray).toList) Q E _ from ?_))
  rw [show ((#[] : Array Value) ++ vs.toArray).toList = vs by simp]; exact wpAny_pure h
theorem sorted_tup {l : Addr} {vs : List Value} {ns : List Int} {Q : Value → Shared → Prop} (hl : IsTup s.heap l vs.toArray) (hI : IntsAre vs ns) (h64 : vs.length < 64)
    (h : ∀ (out : Array Value) (ns' : List Int), IntsAre out.toList ns' → ns'.Perm ns → ns'.Pairwise (· ≤ ·) → Q (.ref (s.heap.objs.size + 1)) { s with heap := sortedAll s.heap vs out }) : wpAny (model prog w) A (call (.builtin "sorted") [.ref l]) Q E s := by
  refine Calls.call_function_entry kind_sorted plain_sorted entry_sorted (args_sorted1 _) ?_; unfold Builtin.«sorted»
  refine wpAny_bind (m := checkCount "sorted" 1 1 _) (wpAny_pure (wpAny_bind (collect_tup hl (wpAny_bind (wpAny_newList ?_)) (small64 h64))))
  have hsz : ((s.heap.push (seqObj "list" #[] 0)).update s.heap.objs.size (Obj.mapSeq (· ++ vs.toArray))).objs.size = s.heap.objs.size + 1 := (Heap.size_update ..).trans (size_push' ..)
  have hoL : (((s.heap.push (seqObj "list" #[] 0)).update s.heap.objs.size (Obj.mapSeq (· ++ vs.toArray))).push (seqObj "list" vs.toArray 0)).get? (s.heap.objs.size + 1) = some (seqObj "list" vs.toArray 0) := by rw [← hsz]; exact Heap.get?_push_size _ rfl
  show wpAny _ _ _ _ _ { s with heap := ((s.heap.push (seqObj "list" #[] 0)).update s.heap.objs.size (Obj.mapSeq (· ++ vs.toArray))).push (seqObj "list" vs.toArray 0) }
  rw [hsz]; exact wpAny_bind (wpAny_holding (wpAny_call_entry slot_list_sort ⟨_, hoL, rfl⟩ entry_list_sort (list_sort_tree hoL hI h64 fun out ns' a1 a2 a3 => ⟨_, rfl, wpAny_pure ⟨_, rfl, h out ns' a1 a2 a3⟩⟩) (args_list_sort _)))
end
section
variable {X : Cx}
def rSortedU (K : PySem.W.Frag) : List V → Hp → VK → Prop := fun vs H Q => ∃ (a : Addr) (ns : List Int), vs = [V.ref a] ∧ SqT K H a (ns.map V.int) ∧ ns.length < 64 ∧ ∀ (ns' : List Int) (p : Addr), ns'.Perm ns → ns'.Pairwise (· ≤ ·) → H p = none → Q (.ref p) (upd H p (.lst (ns'.map V.int)))
theorem cr_sortedU : CallR X (.builtin "sorted") (rSortedU X.K) := by
  intro pins s σ H vs us Q I r h
  obtain ⟨a, ns, rfl, hs, h64, q⟩ := h
  obtain ⟨its, rv, hl, _⟩ := I.tuple hs
  rw [Vals.ref1 r]; have hi := rv.ints
  refine sorted_tup hl hi (by rw [hi.length]; exact h64) fun out ns' h1 h2 h3 => ?_
  obtain ⟨ep, he'⟩ := PyProof.Rows.sortedAll_at s.heap its out; have hlen : (ns'.map V.int).length ≤ sizeLine := by rw [List.length_map, h2.length_eq]; exact small64 h64
  exact ⟨.ref _, upd H _ (.lst (ns'.map V.int)), I.laid (t' := s.toks) (fun _ _ => PyProof.Rows.sortedAll_old) (Nat.le_succ _) ⟨hlen, out.toList, ep, vals_of_ints h1, he'⟩, rfl, q ns' _ h2 h3 (I.hok.fresh (Nat.le_succ _))⟩
def rSortedZ (K : PySem.W.Frag) : List V → Hp → VK → Prop := fun vs H Q => rSorted K vs H Q ∨ rSortedU K vs H Q
theorem cr_sortedZ : CallR X (.builtin "sorted") (rSortedZ X.K) := fun pins s σ H xs us Q I r h => h.elim (cr_sorted pins s σ H xs us Q I r) (cr_sortedU pins s σ H xs us Q I r)
end
section
variable {c : Cz} {ρ : List S} {ta : TE} {QL : List D → Prop}
theorem At.tup_iff {K : PySem.W.Frag} {T : Tb} {H : Hp} {v : V} {ds : List D} (h : RAt K T H v (.tup ds)) : ∃ a xs, v = .ref a ∧ SqT K H a xs ∧ AtAll K T H xs ds := by
  obtain ⟨a, xs, e, h1, h2⟩ := h.tup
  exact ⟨a, xs, e, .inl (.inl h1), h2⟩
theorem dl_sortedZ (h : DR c ρ ta fun d => ∃ is : List Int, (d = .lst (is.map D.int) ∨ d = .tup (is.map D.int)) ∧ is.length < 64 ∧ ∀ js : List Int, js.Perm is → js.Pairwise (· ≤ ·) → QL (js.map D.int)) : DL c ρ (tCB (rSortedZ c.K) (tCons ta tNil)) QL := fun σ H I R k =>
  h σ H I _ fun v H1 d e a ⟨is, ed, h64, q⟩ => by
  rcases ed with rfl | rfl
  · obtain ⟨p, xs, rfl, hs, ax⟩ := a.sq
    rw [ax.ints] at hs
    refine .inl ⟨p, is, rfl, hs, h64, fun js l hp hs' hl => ?_⟩
    have sm := Same.new (H := H1) (o := .lst (js.map V.int)) hl
    exact k l _ _ _ (e.free hl) (e.trans sm) upd_same (AtAll.of_ints js) (q js hp hs')
  · obtain ⟨p, xs, rfl, hs, ax⟩ := At.tup_iff a
    rw [ax.ints] at hs
    refine .inr ⟨p, is, rfl, hs, h64, fun js l hp hs' hl => ?_⟩
    have sm := Same.new (H := H1) (o := .lst (js.map V.int)) hl
    exact k l _ _ _ (e.free hl) (e.trans sm) upd_same (AtAll.of_ints js) (q js hp hs')
end
end Z

/-! ZR: binary operators of an own class; len of an own object. -/
namespace Z
open PySem PySem.Spec PyProof.Rows L2
section
open PySem.W
variable {prog : Program} {w : World} {A : Around} {E : Value → Shared → Prop} {s : Shared} {K : Frag} {x C L f : Addr} {h₀ : Heap} {m : Str → Option Value} {ox : Obj} {od : Option Obj}
/-- an own object op an int -/
theorem binop1_int {nm : String} {i : Int} {tk : Tok} {rr : Value} {Q : Option Value → Shared → Prop} (F : Fr h₀ L s.heap m) (X₀ : K.In h₀) (I : InstAt s.heap x ox C od) (hc : selfFirst K C = true) (hs : findIn K (.ref C) (PySem.dunder nm) = some (some (.ref f))) (hr : findIn K (.ref C) (dunderR nm) = some none)
    (hsub : subIn K (.type "int") (.ref C) = some false) (hfi : fillsNumberSlot (.type "int") nm = pure true) (hti : PySem.typeLookup (.type "int") (dunderR nm) = pure (some rr)) (hf : isFn K (.ref f) = true)
    (h : wpAny (model prog w) A (call (.ref f) [.ref x, .int i tk]) (PySem.W.CmpBack fun v => Q (some v)) E s) : wpAny (model prog w) A (binaryOp1 nm (.ref x) (.int i tk)) Q E s := by
  have X := X₀.keeps F.keep
  obtain ⟨cd, hcd, hm⟩ := any_some hc
  obtain ⟨rest, hm⟩ : ∃ rest, cd.mro = .ref C :: rest := by
    cases q : cd.mro with
    | nil => rw [q] at hm; cases hm
    | cons a r => rw [q] at hm; exact ⟨r, by rw [List.head?_cons] at hm; cases (beq_iff_eq.mp hm); rfl⟩
  have ne : (Value.ref C == Value.type "int") = false := by simp
  have hnp : Looks (model prog w) s.heap (numberSlotInPython (.ref C) nm) true := by
    intro A' Q' E' s' k q
    unfold numberSlotInPython
    refine wpAny_bind (looks_findIn X hs A' _ E' s' k ?_)
    refine wpAny_bind (wpAny_pure (wpAny_bind (looks_findIn X hr A' _ E' s' k (wpAny_bind (wpAny_pure ?_)))))
    exact wpAny_pure q
  have hni : numberSlotInPython (.type "int") nm = pure false := rfl
  unfold binaryOp1
  refine wpAny_bind (I.type.here (wpAny_bind (wpAny_of_eq (show typeOf (.int i tk) = pure (.type "int") from rfl) (wpAny_bind ((fills_K X hcd hm hs).here ?_)))))
  simp only [ne, Bool.false_eq_true, if_false]
  refine wpAny_bind (wpAny_of_eq hfi ?_)
  simp only [Bool.and_true, Bool.true_and, if_true]
  refine wpAny_bind ((looks_subIn X hsub).here ?_)
  simp only [Bool.false_eq_true, if_false, Bool.not_false, if_true]
  refine wpAny_bind (hnp.here ?_)
  simp only [if_true]
  refine wpAny_bind (wpAny_of_eq hni ?_)
  simp only [Bool.not_false, if_true]
  refine wpAny_bind (wpAny_of_eq hti ?_)
  refine wpAny_bind (m := tryMethod (.ref x) _ _) ?_
  unfold tryMethod
  refine wpAny_bind (special_fn X I hs (beq_iff_eq.mp hf) (wpAny_mono h (fun v s' hv => ?_) fun _ _ e => e))
  cases v <;> first | exact hv.elim | exact wpAny_pure (wpAny_pure hv)
theorem binop_int {op : Operator} {i : Int} {tk : Tok} {rr : Value} {Q : Value → Shared → Prop} (F : Fr h₀ L s.heap m) (X₀ : K.In h₀) (I : InstAt s.heap x ox C od) (hc : selfFirst K C = true) (hs : findIn K (.ref C) (PySem.dunder op.info.2) = some (some (.ref f))) (hr : findIn K (.ref C) (dunderR op.info.2) = some none)
    (hsub : subIn K (.type "int") (.ref C) = some false) (hfi : fillsNumberSlot (.type "int") op.info.2 = pure true) (hti : PySem.typeLookup (.type "int") (dunderR op.info.2) = pure (some rr)) (hf : isFn K (.ref f) = true)
    (h : wpAny (model prog w) A (call (.ref f) [.ref x, .int i tk]) (PySem.W.CmpBack Q) E s) : wpAny (model prog w) A (binaryOp op (.ref x) (.int i tk)) Q E s := by
  unfold binaryOp
  refine wpAny_holding (wpAny_bind (binop1_int F X₀ I hc hs hr hsub hfi hti hf (wpAny_mono h (fun v s' hv => ?_) fun _ _ e => e)))
  cases v <;> first | exact hv.elim | exact wpAny_pure hv
end
/-! ### as rules: the operator's def may raise -/
/-- what stands behind a binary operator of an own class -/
structure BinDef (K : PySem.W.Frag) (C : Addr) (m : Str) (f : Addr) : Prop where
  find : PySem.W.findIn K (.ref C) m = some (some (.ref f))
  fn : PySem.W.isFn K (.ref f) = true
  first : PySem.W.selfFirst K C = true
/-- .. with an int at its right -/
structure BinInt (K : PySem.W.Frag) (C : Addr) (op : Operator) : Prop where
  no : PySem.W.findIn K (.ref C) (dunderR op.info.2) = some none
  sub : PySem.W.subIn K (.type "int") (.ref C) = some false
  fill : fillsNumberSlot (.type "int") op.info.2 = pure true
  look : ∃ rr, PySem.typeLookup (.type "int") (dunderR op.info.2) = pure (some rr)
theorem int_add : fillsNumberSlot (.type "int") (Operator.info .Add).2 = pure true ∧ ∃ rr, PySem.typeLookup (.type "int") (dunderR (Operator.info .Add).2) = pure (some rr) :=
  ⟨by kernel_rfl, .builtin "int.__radd__", by rw [typeLookup_type, builtinLookup_eq_fast]; kernel_rfl⟩
theorem int_sub : fillsNumberSlot (.type "int") (Operator.info .Sub).2 = pure true ∧ ∃ rr, PySem.typeLookup (.type "int") (dunderR (Operator.info .Sub).2) = pure (some rr) :=
  ⟨by kernel_rfl, .builtin "int.__rsub__", by rw [typeLookup_type, builtinLookup_eq_fast]; kernel_rfl⟩
/-- a op b, a of the class C; b of C too, or an int -/
def tBinS (C : Addr) (int : Bool) (sp : Sp) (E : L2.St → XK) (ta tb : TE) : TE := fun σ H Q => ta σ H fun x H1 => tb σ H1 fun y H2 => ∃ a dx fs, x = .ref a ∧ H2 a = some (.ins C dx fs) ∧ (if int = true then ∃ i, y = .int i else ∃ b dy gs, y = .ref b ∧ H2 b = some (.ins C dy gs)) ∧ sp [x, y] H2 Q (E σ)
section
variable {X : Cx} {CX : CXT} {k : Nat} {f C : Addr} {fd : FuncData} {ps : List Str} {sp : Sp} {E : L2.St → XK} {op : Operator} {pos : Pos} {a b : Expr} {ta tb : TE}
theorem relV_back {Q : VK} {pins : List (Addr × Obj)} {σ : L2.St} {v : Value} {s : Shared} (h : EP X pins σ Q v s) : PySem.W.CmpBack (EP X pins σ Q) v s := by
  cases v with
  | notImplemented =>
    obtain ⟨u, H', I, r, q⟩ := h
    cases u <;> first | (cases r; done) | (obtain ⟨_, r⟩ := r; cases r)
  | _ => exact h
theorem pe_binS {int : Bool} (F : FnOk X.prog X.w X.K X.mg X.base CX k f fd ps sp) (hr : Room k X.A) (hb : Binds X.K fd ps []) (hx : ∀ σ, PassesAt CX X σ (E σ)) (B : BinDef X.K C (PySem.dunder op.info.2) f) (BI : int = true → BinInt X.K C op) (ha : PE X a ta) (hb' : PE X b tb) :
    PE X (.BinOp a op b pos) (tBinS C int sp E ta tb) := by
  refine ⟨fun pins s σ H Q I h => wpAny_BinOp (binT ha hb' I h fun v u s2 x y H2 I2 rx ry q => ?_)⟩
  obtain ⟨p, dx, fs, rfl, hp, hy, q⟩ := q
  cases rx
  obtain ⟨mA, J, _⟩ := ins_get I2.hok hp
  obtain ⟨od, J, _⟩ := J.look
  obtain ⟨m, hF⟩ := I2.fr
  cases int with
  | true =>
    obtain ⟨i, rfl⟩ := hy
    obtain ⟨tk, rfl⟩ := ry
    have B2 := BI rfl
    obtain ⟨rr, hl⟩ := B2.look
    exact binop_int (op := op) hF I2.ok.mod.kin J B.first B.find B2.no B2.sub B2.fill hl B.fn (wpAny_mono (run_fnSD (us := [.ref p, .int i tk]) (vs := [.ref p, .int i]) F hr hb .nil (hx σ) I2 (.cons rfl (.cons ⟨_, rfl⟩ .nil)) q) (fun _ _ h => relV_back h) fun _ _ e => e)
  | false =>
    obtain ⟨b', dy, gs, rfl, hb2⟩ := hy
    cases ry
    obtain ⟨mB, J', _⟩ := ins_get I2.hok hb2
    obtain ⟨od', J', _⟩ := J'.look
    exact PySem.W.binop_K (op := op) hF I2.ok.mod.kin J J'.type B.first B.find B.fn (wpAny_mono (run_fnSD (us := [.ref p, .ref b']) (vs := [.ref p, .ref b']) F hr hb .nil (hx σ) I2 (.cons rfl (.cons rfl .nil)) q) (fun _ _ h => relV_back h) fun _ _ e => e)
end
section
variable {c : Cz} {ρ : List S} {ta tb : TE} {Q : D → Prop} {S : DSp} {XW : XD} {W : WX} {C : Addr}
theorem de_binI (hW : WOk c ρ W XW) (h : DR c ρ ta fun a => DR c ρ tb fun b => ∃ fs i, a = .obj C fs ∧ b = .int i ∧ S [a, b] Q XW) : DE c ρ (tBinS C true (spD c.K c.T S) (WE W) ta tb) Q := fun σ H I R k =>
  h σ H I _ fun x H1 a e1 r1 q1 => q1 σ H1 (I.same e1) _ fun y H2 b e2 r2 ⟨fs, i, ea, eb, q⟩ => by
  subst ea eb
  obtain ⟨p, dx, xs, rfl, h1, h2, h3, h4⟩ := (r1.same e2).obj
  obtain rfl := r2.int
  exact ⟨p, dx, xs, rfl, h1, ⟨i, rfl⟩, _, Q, XW, .cons (.obj h1 h2 h3 h4) (.cons (.int i) .nil), q, fun d v H3 z e3 m => k v H3 d ((e1.trans e2).trans e3) m z, fun C' gs od H' xx e3 ex => hW σ H' C' gs od (I.same ((e1.trans e2).trans e3)) ex xx⟩
theorem de_binO (hW : WOk c ρ W XW) (h : DR c ρ ta fun a => DR c ρ tb fun b => ∃ fs gs, a = .obj C fs ∧ b = .obj C gs ∧ S [a, b] Q XW) : DE c ρ (tBinS C false (spD c.K c.T S) (WE W) ta tb) Q := fun σ H I R k =>
  h σ H I _ fun x H1 a e1 r1 q1 => q1 σ H1 (I.same e1) _ fun y H2 b e2 r2 ⟨fs, gs, ea, eb, q⟩ => by
  subst ea eb
  obtain ⟨p, dx, xs, rfl, h1, h2, h3, h4⟩ := (r1.same e2).obj
  obtain ⟨p', dx', ys, rfl, h1', h2', h3', h4'⟩ := r2.obj
  exact ⟨p, dx, xs, rfl, h1, ⟨p', dx', ys, rfl, h1'⟩, _, Q, XW, .cons (.obj h1 h2 h3 h4) (.cons (.obj h1' h2' h3' h4') .nil), q, fun d v H3 z e3 m => k v H3 d ((e1.trans e2).trans e3) m z, fun C' gs od H' xx e3 ex => hW σ H' C' gs od (I.same ((e1.trans e2).trans e3)) ex xx⟩
theorem wok_none : WOk c ρ (fun _ _ _ _ => False) (fun _ _ => False) := fun _ _ _ _ _ _ _ z => z.elim
end
end Z

/-! ZS: len of an own object. -/
namespace Z
open PySem PySem.Spec PyProof.Rows L2
/-- len(a), a of the class C, whose own __len__ raises nothing -/
def rLenO (C : Addr) (sp : Sp) : List V → Hp → VK → Prop := fun xs H Q => ∃ a dx fs, xs = [.ref a] ∧ H a = some (.ins C dx fs) ∧ sp [.ref a] H (fun v H' => ∃ n : Int, v = .int n ∧ 0 ≤ n ∧ n < 2 ^ 63 ∧ Q (.int n) H') fun _ _ _ => False
section
variable {X : Cx} {k : Nat} {f C : Addr} {fd : FuncData} {ps : List Str} {sp : Sp}
theorem call_lenO (F : FnOk X.prog X.w X.K X.mg X.base CX0 k f fd ps sp) (hr : Room (k + 1) X.A) (hb : Binds X.K fd ps []) (hs : PySem.W.findIn X.K (.ref C) "__len__" = some (some (.ref f))) (hf : PySem.W.isFn X.K (.ref f) = true) : CallR X (.builtin "len") (rLenO C sp) := by
  intro pins s σ H xs us Q I r h
  obtain ⟨a, dx, fs, rfl, ha, h⟩ := h
  rw [Vals.ref1 r]
  obtain ⟨mA, J, _⟩ := ins_get I.hok ha
  obtain ⟨od, J, _⟩ := J.look
  obtain ⟨m, hF⟩ := I.fr
  have hl : ([Value.ref a] ++ ([] : List Value)).length = ps.length := (F.len _ _ _ _ h)
  refine PySem.W.len_K hF I.ok.mod.kin J hs hf (wpAny_call (codeAny_mono (F.run X.A.in1 X.stack s H ⟨[.ref a], []⟩ [.ref a] [.ref a] _ _ hr.in1 I.env0.in1 (by have b := hb s [.ref a] I.kIn hl; rw [List.append_nil] at b; exact b) (.cons rfl .nil) h) fun r s' hq => ?_))
  cases r with
  | error e => exact False.elim hq
  | ok fl =>
    cases fl with
    | ret u =>
      obtain ⟨v, H', I3, rv, n, ev, n0, n1, q⟩ := I.after hq
      subst ev
      obtain ⟨t, rfl⟩ := rv
      exact ⟨⟨n0, n1⟩, .int n, H', I3.tok _, ⟨_, rfl⟩, q⟩
    | next => exact False.elim hq
    | brk => exact False.elim hq
    | cont => exact False.elim hq
/-- .. or of a list, a tuple -/
def rLenP (K : PySem.W.Frag) (C : Addr) (sp : Sp) : List V → Hp → VK → Prop := fun xs H Q => rLenZ K xs H Q ∨ rLenO C sp xs H Q
theorem call_lenP (F : FnOk X.prog X.w X.K X.mg X.base CX0 k f fd ps sp) (hr : Room (k + 1) X.A) (hb : Binds X.K fd ps []) (hs : PySem.W.findIn X.K (.ref C) "__len__" = some (some (.ref f))) (hf : PySem.W.isFn X.K (.ref f) = true) : CallR X (.builtin "len") (rLenP X.K C sp) :=
  fun pins s σ H xs us Q I r h => h.elim (call_lenZ pins s σ H xs us Q I r) (call_lenO F hr hb hs hf pins s σ H xs us Q I r)
end
section
variable {c : Cz} {ρ : List S} {ta : TE} {Q : D → Prop} {S : DSp} {C : Addr}
theorem de_lenO (h : DR c ρ ta fun d => ∃ fs, d = .obj C fs ∧ S [d] (fun e => ∃ n : Int, e = .int n ∧ 0 ≤ n ∧ n < 2 ^ 63 ∧ Q (.int n)) X0) : DE c ρ (tCB (rLenO C (spD c.K c.T S)) (tCons ta tNil)) Q := fun σ H I R k => h σ H I _ fun v H1 d e a ⟨fs, ed, q⟩ => by
  subst ed
  obtain ⟨p, dx, xs, rfl, h1, h2, h3, h4⟩ := a.obj
  refine ⟨p, dx, xs, rfl, h1, [.obj C fs], _, X0, .cons (.obj h1 h2 h3 h4) .nil, q, fun d v H' ⟨n, ed, n0, n1, q'⟩ e2 m => ?_, fun _ _ _ _ z => z.elim⟩
  subst ed
  obtain rfl := m.int_iff
  exact ⟨n, rfl, n0, n1, k _ H' _ (e.trans e2) (.int n) q'⟩
end
section
variable {c : Cz} {ρ : List S} {ta tb : TE} {tb' : TS} {N B C : List S → Prop} {Rt : D → List S → Prop}
/-- for x in range(a, b) -/
theorem ds_forR2 {j : Nat} (h : DE c ρ ta fun d => DE c ρ tb fun e => ∃ lo hi : Int, d = .int lo ∧ e = .int hi ∧ -100000 ≤ lo ∧ lo ≤ 100000 ∧ -100000 ≤ hi ∧ hi ≤ 100000 ∧ ∃ P : Nat → List S → Prop, P 0 ρ ∧
      (∀ (i : Nat) ρ', lo + i < hi → P i ρ' → DS c (ρ'.set j (.val (.int (lo + i)))) tb' (P (i + 1)) Rt N (P (i + 1))) ∧ (∀ ρ', P (hi - lo).toNat ρ' → N ρ')) : DS c ρ (tFor (iRng2 (tCons ta (tCons tb tNil))) (gName j) tb') N Rt B C := fun σ H I E n r b cc =>
  h σ H I _ fun v H0 d e0 a0 q => q σ H0 (I.same e0) _ fun u H1 d2 e1 a1 ⟨lo, hi, ed, ed2, l1, l2, k1, k2, P, p0, ps, pe⟩ => by
    subst ed ed2
    cases a0
    cases a1
    have e := e0.trans e1
    refine ⟨lo, hi, rfl, ⟨by omega, by omega, by omega, by omega⟩, for_range (lo := lo) (n := (hi - lo).toNat) (fun i σ H => Fz c H1 H ∧ ∃ ρ', EnvOk c H σ ρ' ∧ P i ρ') ⟨Fz.refl H1, ρ, I.same e, p0⟩ (fun i σ' H' hi q => ?_) fun σ' H' q => ?_⟩
    · obtain ⟨f1, ρ', J, p⟩ := q
      exact ps i ρ' (by omega) p (σ'.set j (some (.int (lo + i)))) H' (J.setV (.int _)) _ (fun s3 H3 r3 f3 J3 p3 => ⟨f1.trans f3, r3, J3, p3⟩) r (fun s3 H3 r3 f3 J3 p3 => n s3 H3 r3 ((Fz.of e).trans (f1.trans f3)) J3 p3) fun s3 H3 r3 f3 J3 p3 => ⟨f1.trans f3, r3, J3, p3⟩
    · obtain ⟨f1, ρ', J, p⟩ := q
      exact n σ' H' ρ' ((Fz.of e).trans f1) J (pe ρ' p)
theorem de_neg {Q : D → Prop} (h : DR c ρ ta fun a => ∃ i, a = .int i ∧ Q (.int (-i))) : DE c ρ (tUn (rU fun i => .int (-i)) ta) Q := fun σ H I R k => h σ H I _ fun x H1 a e r ⟨i, ea, q⟩ => by
  subst ea
  obtain rfl := r.int
  exact ⟨i, rfl, k _ H1 _ e (.int (-i)) q⟩
theorem and_len6 {a b c d e f : D} {A : Prop} (h : A) : [a, b, c, d, e, f].length ≤ 100000 ∧ A := ⟨by simp, h⟩
end
end Z

namespace Z
open PySem PySem.Spec PyProof.Rows L2
variable {P : Program} {w : World} {K : PySem.W.Frag} {mg : Str → Option Value} {base : Heap} {T : Tb}
local macro_rules | `(tactic| walk_at "zo") => `(tactic| (first | omega | decide | assumption | exact cdivS (by omega) (by omega) | exact cdiv (by assumption) (by assumption) | exact cpow (by decide) (by decide) (by decide)))
local macro_rules | `(tactic| walk_at "zm") => `(tactic| (first | exact cmulR (by omega) (by omega) | exact cmulL (by omega) (by omega)))
local macro_rules | `(tactic| walk_at "zz") => `(tactic| (first
  | (with_reducible refine ds_seq ?_)
  | (with_reducible refine ds_asgL (dl_lst ?_))
  | (with_reducible refine ds_asgL (dl_list ?_))
  | (with_reducible refine ds_asgL (dl_rep ?_))
  | (with_reducible refine ds_asg ?_)
  | (with_reducible refine ds_if ?_)
  | (with_reducible refine ds_ret ?_)
  | (with_reducible refine ds_next ?_)
  | (with_reducible refine ds_brk ?_)
  | (with_reducible refine ds_cont ?_)
  | (with_reducible refine ds_app rfl ?_)
  | (with_reducible refine ds_ins rfl ?_)
  | (with_reducible refine ds_setI rfl ?_)
  | (with_reducible refine ds_fzs rfl ?_)
  | (refine ds_setO0 (j := 0) rfl (by simp) ?_)
  | (refine ds_setO0 (j := 1) rfl (by simp) ?_)
  | (refine ds_setO0 (j := 2) rfl (by simp) ?_)
  | (refine ds_setO0 (j := 3) rfl (by simp) ?_)
  | (refine ds_setO0 (j := 4) rfl (by simp) ?_)
  | (with_reducible refine ds_drop ?_)
  | (with_reducible refine de_int ?_)
  | (with_reducible refine de_bl ?_)
  | (with_reducible refine de_str ?_)
  | (with_reducible refine de_non ?_)
  | (refine dr_var rfl ?_)
  | (refine dr_own rfl ?_)
  | (refine de_var rfl ?_)
  | (with_reducible refine dr_dl (dl_lst ?_))
  | (with_reducible refine dr_de ?_)
  | (with_reducible refine fz_dl (dl_lst ?_))
  | (with_reducible refine fz_dl (dl_list ?_))
  | (with_reducible refine fz_dl (dl_rep ?_))
  | (with_reducible refine fz_dl (dl_listRg ?_))
  | (with_reducible refine de_call ?_)
  | (with_reducible refine de_make ?_)
  | (with_reducible refine da_cons ?_)
  | (with_reducible refine da_nil ?_)
  | (with_reducible refine de_tup ?_)
  | (with_reducible refine and_len2 ?_)
  | (with_reducible refine and_len1 ?_)
  | (with_reducible refine and_len0 ?_)
  | (with_reducible refine and_len3 ?_)
  | (with_reducible refine and_len4 ?_)
  | (with_reducible refine and_len5 ?_)
  | (with_reducible refine and_len6 ?_)
  | (with_reducible refine de_add ?_)
  | (with_reducible refine de_sub ?_)
  | (with_reducible refine de_neg ?_)
  | (with_reducible refine de_mul ?_)
  | (with_reducible refine de_div ?_)
  | (with_reducible refine de_mod ?_)
  | (with_reducible refine de_pow ?_)
  | (with_reducible refine de_eq ?_)
  | (with_reducible refine de_ne ?_)
  | (with_reducible refine de_lt ?_)
  | (with_reducible refine de_le ?_)
  | (with_reducible refine de_gt ?_)
  | (with_reducible refine de_ge ?_)
  | (with_reducible refine de_inT ?_)
  | (with_reducible refine de_niT ?_)
  | (with_reducible refine de_chLeLt ?_)
  | (with_reducible refine de_chLeLe ?_)
  | (refine de_ixO0 rfl ?_)
  | (refine de_ixO (j := 0) rfl rfl ?_)
  | (refine de_ixO (j := 1) rfl rfl ?_)
  | (refine de_ixO (j := 2) rfl rfl ?_)
  | (refine de_ixO (j := 3) rfl rfl ?_)
  | (refine de_ixO (j := 4) rfl rfl ?_)
  | (with_reducible refine de_ix ?_)
  | (with_reducible refine de_len ?_)
  | (with_reducible refine de_tuple ?_)
  | (with_reducible refine de_intc ?_)
  | (with_reducible refine de_andV ?_)
  | (with_reducible refine de_orV ?_)
  | (with_reducible refine de_notV ?_)
  | (with_reducible refine de_if ?_)
  | (with_reducible refine dt_test ?_)
  | (with_reducible refine dt_B ?_)
  | (with_reducible refine dt_and ?_)
  | (with_reducible refine dt_or ?_)
  | (with_reducible refine dt_not ?_)
  | (with_reducible refine dt_yes ?_)
  | (with_reducible refine dt_tru ?_)
  | (with_reducible refine FAdd_int ?_)
  | (with_reducible refine FI_int ?_ ?_; · walk_at "zo")
  | (with_reducible refine ex_mul ?_ ?_; · walk_at "zm")
  | (with_reducible refine ex_sub ?_)
  | (with_reducible refine ex_int ?_)
  | (with_reducible refine ex_bl ?_)
  | (with_reducible refine ex_lenL ?_)
  | (with_reducible refine ex_lenT ?_)
  | (with_reducible refine ex_truI ?_)
  | (refine ex_is rfl ?_)
  | (with_reducible refine de_isi_bool ?_)
  | (with_reducible refine de_isi_int ?_)
  | (with_reducible refine de_isi_str ?_)
  | (with_reducible refine de_isi_tuple ?_)
  | (with_reducible refine de_isi_list ?_)
  | (with_reducible refine de_isN ?_)
  | (with_reducible refine de_notN ?_)
  | (with_reducible refine FEq_bl ?_)
  | (with_reducible refine FEq_str ?_)
  | (with_reducible refine ex_truB ?_)
  | (with_reducible refine FEq_id ?_)
  | (with_reducible refine FEq_not ?_)
  | (with_reducible refine FCmp_int ?_)
  | (with_reducible refine iteT ?_)
  | (with_reducible refine iteF ?_)
  | (with_reducible refine iteNT ?_)
  | (with_reducible refine iteNF ?_)
  | (with_reducible refine ite_decT ?_ ?_; · omega)
  | (with_reducible refine ite_decF ?_ ?_; · omega)
  | (with_reducible refine ite_ndecT ?_ ?_; · omega)
  | (with_reducible refine ite_ndecF ?_ ?_; · omega)
  | (with_reducible refine ite_dec (fun hyp => ?_) (fun hyp => ?_))
  | (with_reducible refine ite_ndec (fun hyp => ?_) (fun hyp => ?_))
  | (with_reducible refine ite_bl (fun hyp => ?_) (fun hyp => ?_))
  | (with_reducible refine ite_nbl (fun hyp => ?_) (fun hyp => ?_))))
local macro_rules | `(tactic| walk_at "zs") => `(tactic| repeat' walk_at "zz")
local macro_rules | `(tactic| walk_at "z0") => `(tactic| try dsimp only [cxOf, Cx.nox, Cx.wish, Cx.blk])
def top (i : Nat) : Stmt := PySem.Challenge.pw_lotsintrees_k03_lot_plus_and_minus_a_pla.main.body.getD i (.Pass ⟨0, 0, 0, 0⟩)

def numsD (ns : List Int) : List D := ns.map D.int
theorem nums_get {ns : List Int} {i : Nat} {d : D} (h : (numsD ns)[i]? = some d) : ∃ n, d = .int n ∧ ns[i]? = some n ∧ n ∈ ns := by
  unfold numsD at h
  rw [List.getElem?_map] at h
  cases e : ns[i]? with
  | none => rw [e] at h; cases h
  | some q =>
    rw [e] at h
    exact ⟨q, (Option.some.inj h).symm, rfl, List.mem_of_getElem? e⟩
theorem nums_len (ns : List Int) : (numsD ns).length = ns.length := by unfold numsD; rw [List.length_map]
theorem cutD_take {α : Type} (xs : List α) {n : Int} (h : 0 ≤ n) : cutD xs none (some n) = xs.take n.toNat := by
  unfold cutD
  have e : HT.sIx xs.length 0 none = 0 := rfl
  have e2 : HT.sIx xs.length xs.length (some n) = min n.toNat xs.length := by
    unfold HT.sIx
    simp
    omega
  rw [e, e2, List.drop_zero, Nat.sub_zero]
  rcases Nat.le_total n.toNat xs.length with h1 | h1
  · rw [Nat.min_eq_left h1]
  · rw [Nat.min_eq_right h1, List.take_of_length_le (Nat.le_refl _), List.take_of_length_le h1]
theorem erase_len {α : Type} {l : List α} {i : Nat} {x : α} (h : l[i]? = some x) : (l.eraseIdx i).length + 1 = l.length := by
  obtain ⟨hi, e⟩ := List.getElem?_eq_some_iff.mp h
  rw [List.length_eraseIdx]
  split <;> omega
theorem erase_map {α β : Type} (f : α → β) : ∀ (l : List α) (i : Nat), (l.map f).eraseIdx i = (l.eraseIdx i).map f
  | [], _ => rfl
  | _ :: _, 0 => rfl
  | a :: l, i + 1 => by
    show f a :: (l.map f).eraseIdx i = f a :: (l.eraseIdx i).map f
    rw [erase_map f l i]
theorem erase_perm {α : Type} : ∀ {l : List α} {i : Nat} {x : α}, l[i]? = some x → (x :: l.eraseIdx i).Perm l
  | [], i, x, h => by simp at h
  | a :: l, 0, x, h => by
    have : a = x := by simpa using h
    subst this
    exact .refl _
  | a :: l, i + 1, x, h => by
    have h' : l[i]? = some x := by simpa using h
    exact ((List.Perm.swap a x (l.eraseIdx i))).trans (.cons a (erase_perm h'))
/-- a row of different numbers of which each lies below b -/
def RowOk (b : Int) (ns : List Int) : Prop := ns.Nodup ∧ (∀ x ∈ ns, 0 ≤ x ∧ x < b) ∧ ns.length ≤ 1000
def MenuOk (gs ms : List Int) : Prop := ms.Nodup ∧ (∀ x ∈ ms, x ∈ gs) ∧ 0 < ms.length ∧ ms.length ≤ 1000
theorem RowOk.perm {b : Int} {ns ms : List Int} (h : RowOk b ns) (p : ms.Perm ns) : RowOk b ms := ⟨p.nodup_iff.mpr h.1, fun x hx => h.2.1 x (p.mem_iff.mp hx), by rw [p.length_eq]; exact h.2.2⟩
theorem range_ints (n : Nat) : ((List.range n).map fun i => D.int (i : Nat)) = numsD ((List.range n).map fun i => ((i : Nat) : Int)) := by
  unfold numsD
  rw [List.map_map]
  rfl
theorem range_row (n : Nat) (h : n ≤ 1000) : RowOk n ((List.range n).map fun i => ((i : Nat) : Int)) := by
  refine ⟨?_, fun x hx => ?_, by simp; exact h⟩
  · unfold List.Nodup
    rw [List.pairwise_map]
    exact List.Pairwise.imp (fun {a b} hab e => hab (by omega)) List.nodup_range
  · obtain ⟨i, hi, rfl⟩ := List.mem_map.mp hx
    have := List.mem_range.mp hi
    omega

/-- the steps of a path -/
def stp (q : Int × Int) : D := .tup [.int q.1, .int q.2]
def stps (ps : List (Int × Int)) : List D := ps.map stp
def StOk (ps : List (Int × Int)) : Prop := ps.length ≤ 100000 ∧ ∀ q ∈ ps, 0 ≤ q.1 ∧ q.1 < 40 ∧ 0 ≤ q.2 ∧ q.2 < 12
/-- the attributes of a path -/
def pathD (s : Int) (ps : List (Int × Int)) : List D := [.int s, .tup (stps ps), .int ps.length]
theorem stps_get {ps : List (Int × Int)} {i : Nat} {d : D} (h : (stps ps)[i]? = some d) : ∃ a b, d = .tup [.int a, .int b] ∧ (a, b) ∈ ps ∧ ps[i]? = some (a, b) := by
  unfold stps at h
  rw [List.getElem?_map] at h
  cases e : ps[i]? with
  | none => rw [e] at h; cases h
  | some q =>
    rw [e] at h
    exact ⟨q.1, q.2, (Option.some.inj h).symm, List.mem_of_getElem? e, rfl⟩
theorem stps_len (ps : List (Int × Int)) : (stps ps).length = ps.length := by unfold stps; rw [List.length_map]

/-- the numbers in their order -/
def isSrt (ns : List Int) : Prop := ns.Pairwise (· ≤ ·)
def srt (ns : List Int) : List Int := ns.mergeSort (fun a b => decide (a ≤ b))
theorem srt_perm (ns : List Int) : (srt ns).Perm ns := List.mergeSort_perm ns _
theorem srt_srt (ns : List Int) : isSrt (srt ns) := by
  unfold isSrt srt
  have := List.pairwise_mergeSort (le := fun a b : Int => decide (a ≤ b)) (fun a b c h1 h2 => by simp at *; omega) (fun a b => by simp; omega) ns
  exact this.imp fun h => by simpa using h
theorem srt_of {js ns : List Int} (p : js.Perm ns) (h : js.Pairwise (· ≤ ·)) : js = srt ns := by
  have e : js.Perm (srt ns) := p.trans (srt_perm ns).symm
  refine List.Perm.eq_of_pairwise (le := (· ≤ ·)) (fun a b _ _ h1 h2 => by omega) h (srt_srt ns) e
theorem srt_len (ns : List Int) : (srt ns).length = ns.length := (srt_perm ns).length_eq
theorem srt_eq {a b : List Int} (p : a.Perm b) : srt a = srt b := srt_of ((srt_perm a).trans p) (srt_srt a)
/-- a lot's data: members, candidates, price -/
structure LotT where
  ms : List Int
  cs : List Int
  pr : Int
def LotOk (b : Int) (l : LotT) : Prop := RowOk b l.ms ∧ 2 ≤ l.ms.length ∧ MenuOk l.ms l.cs ∧ 0 ≤ l.pr ∧ l.pr ≤ 1000000000
/-- the attributes of a lot -/
def lotD (l : LotT) : List D := [.tup (numsD (srt l.ms)), .tup (numsD (srt l.cs)), .int l.pr]
def lobj (C : Addr) (l : LotT) : D := .obj C (lotD l)
def lkey (l : LotT) : D := .tup [.int l.pr, .tup (numsD (srt l.ms)), .tup (numsD (srt l.cs))]
theorem RowOk.short {b : Int} {ns : List Int} (h : RowOk b ns) (hb : b ≤ 60) : ns.length ≤ 60 := by
  have hn : (ns.map Int.toNat).Nodup := by
    have := h.1
    unfold List.Nodup at *
    rw [List.pairwise_map]
    exact List.Pairwise.imp_of_mem (fun {x y} hx hy hxy e => hxy (by have := h.2.1 x hx; have := h.2.1 y hy; omega)) this
  have hs : (ns.map Int.toNat) ⊆ List.range 60 := fun x hx => by
    obtain ⟨y, hy, rfl⟩ := List.mem_map.mp hx
    have := h.2.1 y hy
    exact List.mem_range.mpr (by omega)
  have := List.Nodup.length_le_of_subset hn hs
  simpa using this

def okM (ms : List Int) : Bool := decide (2 ≤ ms.length) && decide ms.Nodup && ms.all fun x => decide (0 ≤ x ∧ x < 12)
def okC (ms cs : List Int) : Bool := decide (0 < cs.length) && decide cs.Nodup && cs.all fun x => decide (x ∈ ms)
def okP (p : Int) : Bool := decide (0 ≤ p ∧ p ≤ 1000000000)
/-- why a lot is refused -/
def lotWhy (ms cs : List Int) (p : Int) : Option Str := if okM ms = false then some "members" else if okC ms cs = false then some "candidates" else if okP p = false then some "price" else none
def isSeq (d : D) (ns : List Int) : Prop := d = .lst (numsD ns) ∨ d = .tup (numsD ns)
theorem okM_iff {ms : List Int} : okM ms = true ↔ 2 ≤ ms.length ∧ ms.Nodup ∧ ∀ x ∈ ms, 0 ≤ x ∧ x < 12 := by
  unfold okM
  simp [and_assoc]
theorem okC_iff {ms cs : List Int} : okC ms cs = true ↔ 0 < cs.length ∧ cs.Nodup ∧ ∀ x ∈ cs, x ∈ ms := by
  unfold okC
  simp [and_assoc]
theorem okP_iff {p : Int} : okP p = true ↔ 0 ≤ p ∧ p ≤ 1000000000 := by
  unfold okP
  simp
theorem why_ok {ms cs : List Int} {p : Int} : lotWhy ms cs p = none ↔ okM ms = true ∧ okC ms cs = true ∧ okP p = true := by
  unfold lotWhy
  cases okM ms <;> cases okC ms cs <;> cases okP p <;> simp
/-- what comes of a lot: its attributes, or the refusal -/
def lotEnd (Ce : Addr) (ms cs : List Int) (p : Int) (R : List D → Prop) (X : XD) : Prop := match lotWhy ms cs p with
  | none => R (lotD ⟨ms, cs, p⟩)
  | some y => X Ce [("reason", .str y)]
theorem end_m {Ce : Addr} {ms cs : List Int} {p : Int} {R : List D → Prop} {X : XD} (h : lotEnd Ce ms cs p R X) (hm : okM ms = false) : X Ce [("reason", .str "members")] := by
  unfold lotEnd lotWhy at h
  rw [if_pos hm] at h
  exact h
theorem end_c {Ce : Addr} {ms cs : List Int} {p : Int} {R : List D → Prop} {X : XD} (h : lotEnd Ce ms cs p R X) (hm : okM ms = true) (hc : okC ms cs = false) : X Ce [("reason", .str "candidates")] := by
  unfold lotEnd lotWhy at h
  rw [if_neg (by rw [hm]; decide), if_pos hc] at h
  exact h
theorem end_p {Ce : Addr} {ms cs : List Int} {p : Int} {R : List D → Prop} {X : XD} (h : lotEnd Ce ms cs p R X) (hm : okM ms = true) (hc : okC ms cs = true) (hp : okP p = false) : X Ce [("reason", .str "price")] := by
  unfold lotEnd lotWhy at h
  rw [if_neg (by rw [hm]; decide), if_neg (by rw [hc]; decide), if_pos hp] at h
  exact h
theorem end_ok {Ce : Addr} {ms cs : List Int} {p : Int} {R : List D → Prop} {X : XD} (h : lotEnd Ce ms cs p R X) (hm : okM ms = true) (hc : okC ms cs = true) (hp : okP p = true) : R (lotD ⟨ms, cs, p⟩) := by
  unfold lotEnd lotWhy at h
  rw [if_neg (by rw [hm]; decide), if_neg (by rw [hc]; decide), if_neg (by rw [hp]; decide)] at h
  exact h
theorem bool_no {b : Bool} {P : Prop} (h : b = true → P) (n : ¬ P) : b = false := by
  cases b with
  | true => exact absurd (h rfl) n
  | false => rfl

theorem eqv_nums : ∀ a b : List Int, PyData.eqvAll (pys (numsD a)) (pys (numsD b)) = decide (a = b)
  | [], [] => by rw [numsD, List.map_nil, pys, PyData.eqvAll]; rfl
  | [], _ :: _ => rfl
  | _ :: _, [] => rfl
  | a :: as, b :: bs => by
    have e := eqv_nums as bs
    unfold numsD at e
    rw [numsD, List.map_cons, numsD, List.map_cons, pys, pys, PyData.eqvAll, e, py, py, eqv_int]
    by_cases h1 : a = b <;> by_cases h2 : as = bs <;> simp [h1, h2]
theorem eqv_tups (a b : List Int) : PyData.eqv (py (.tup (numsD a))) (py (.tup (numsD b))) = decide (a = b) := by
  rw [py, py, PyData.eqv]
  exact eqv_nums a b
/-- each member is a candidate -/
def freeL (l : LotT) : Bool := decide (l.ms.length = l.cs.length)
theorem menu_perm {ms cs : List Int} (hm : ms.Nodup) (h : MenuOk ms cs) (hl : ms.length = cs.length) : cs.Perm ms := by
  refine (List.perm_ext_iff_of_nodup h.1 hm).mpr fun x => ⟨h.2.1 x, fun hx => ?_⟩
  by_cases hc : x ∈ cs
  · exact hc
  · have hn : (x :: cs).Nodup := List.nodup_cons.mpr ⟨hc, h.1⟩
    have := List.Nodup.length_le_of_subset hn (fun y hy => by
      rcases List.mem_cons.mp hy with e | e
      · rw [e]; exact hx
      · exact h.2.1 y e)
    simp at this
    omega
theorem free_eq {ms cs : List Int} {p : Int} (hm : ms.Nodup) (h : MenuOk ms cs) : decide (srt ms = srt cs) = freeL ⟨ms, cs, p⟩ := by
  unfold freeL
  by_cases hl : ms.length = cs.length
  · rw [decide_eq_true hl, decide_eq_true (srt_eq (menu_perm hm h hl).symm)]
  · rw [decide_eq_false hl, decide_eq_false fun e => hl (by rw [← srt_len ms, e, srt_len])]
/-- what lot + place, lot - place are to give: why they are refused, or the lot -/
def planL (l : LotT) (s p : Int) : Str ⊕ LotT :=
  if s = 0 then
    (if p ∈ l.ms ∨ p < 0 ∨ 11 < p then .inl "members" else .inr ⟨l.ms ++ [p], if freeL l then l.cs ++ [p] else l.cs, l.pr⟩)
  else if p ∉ l.ms ∨ l.ms.length = 2 then .inl "members"
  else if (l.cs.filter fun x => !decide (x = p)) = [] then .inl "candidates"
  else .inr ⟨l.ms.filter fun x => !decide (x = p), l.cs.filter fun x => !decide (x = p), l.pr⟩
def endL (Ce C : Addr) (r : Str ⊕ LotT) (R : D → Prop) (X : XD) : Prop := match r with
  | .inl y => X Ce [("reason", .str y)]
  | .inr l => R (lobj C l)
theorem lobj_eq {C : Addr} {l m : LotT} (h1 : l.ms.Perm m.ms) (h2 : l.cs.Perm m.cs) (h3 : l.pr = m.pr) : lobj C l = lobj C m := by
  unfold lobj lotD
  rw [srt_eq h1, srt_eq h2, h3]
theorem mem_srt {ns : List Int} {x : Int} : x ∈ srt ns ↔ x ∈ ns := (srt_perm ns).mem_iff
/-- lotWhy at lists in another order -/
theorem okM_perm {a b : List Int} (h : a.Perm b) : okM a = okM b := by
  rw [Bool.eq_iff_iff, okM_iff, okM_iff, h.length_eq, h.nodup_iff]
  constructor
  · exact fun ⟨h1, h2, h3⟩ => ⟨h1, h2, fun x hx => h3 x (h.mem_iff.mpr hx)⟩
  · exact fun ⟨h1, h2, h3⟩ => ⟨h1, h2, fun x hx => h3 x (h.mem_iff.mp hx)⟩
theorem okC_perm {a b c d : List Int} (h : a.Perm b) (h2 : c.Perm d) : okC a c = okC b d := by
  rw [Bool.eq_iff_iff, okC_iff, okC_iff, h2.length_eq, h2.nodup_iff]
  constructor
  · exact fun ⟨q1, q2, q3⟩ => ⟨q1, q2, fun x hx => h.mem_iff.mp (q3 x (h2.mem_iff.mpr hx))⟩
  · exact fun ⟨q1, q2, q3⟩ => ⟨q1, q2, fun x hx => h.mem_iff.mpr (q3 x (h2.mem_iff.mp hx))⟩
theorem end_perm {Ce : Addr} {a b c d : List Int} {p : Int} {R : List D → Prop} {X : XD} (h : a.Perm b) (h2 : c.Perm d) (e : lotEnd Ce b d p R X) : lotEnd Ce a c p R X := by
  unfold lotEnd lotWhy at *
  rw [okM_perm h, okC_perm h h2]
  have e1 : lotD ⟨a, c, p⟩ = lotD ⟨b, d, p⟩ := by unfold lotD; rw [srt_eq h, srt_eq h2]
  rw [e1]
  exact e
theorem lot_ok {l : LotT} (h : LotOk 12 l) : okM l.ms = true ∧ okC l.ms l.cs = true ∧ okP l.pr = true :=
  ⟨okM_iff.mpr ⟨h.2.1, h.1.1, h.1.2.1⟩, okC_iff.mpr ⟨h.2.2.1.2.2.1, h.2.2.1.1, h.2.2.1.2.1⟩, okP_iff.mpr h.2.2.2⟩

theorem dps_zero : ∀ ns : List Int, dps (numsD ns) = 0
  | [] => rfl
  | n :: ns => by
    have := dps_zero ns
    unfold numsD at *
    rw [List.map_cons, dps, this]
    rfl

def rowD (l : LotT) : D := .tup [.lst (numsD l.ms), .lst (numsD l.cs), .int l.pr]
theorem nums_app (a : List Int) (x : Int) : numsD a ++ [.int x] = numsD (a ++ [x]) := by unfold numsD; rw [List.map_append]; rfl
def fieldsD (l : LotT) : D := .tup [.str "made", .tup (numsD (srt l.ms)), .tup (numsD (srt l.cs)), .int l.pr, .bl (freeL l), .int l.ms.length]
def toldD (l : LotT) : Str ⊕ LotT → D
  | .inl y => .tup [.str "refused", .str y]
  | .inr l' => fieldsD l'
def nextL (l : LotT) : Str ⊕ LotT → LotT
  | .inl _ => l
  | .inr l' => l'
theorem ok_nums (n : Nat) : ∀ ns : List Int, oks n (numsD ns) = true
  | [] => by rw [numsD, List.map_nil, oks]
  | a :: ns => by
    have := ok_nums n ns
    unfold numsD at this
    rw [numsD, List.map_cons, oks, this]
    cases n <;> rfl
theorem ok_fields {n : Nat} {q : LotT} (h1 : q.ms.length ≤ 1000) (h2 : q.cs.length ≤ 1000) : ok (n + 2) (fieldsD q) = true := by
  unfold fieldsD
  have e1 : ok (n + 1) (.tup (numsD (srt q.ms))) = true := ok_tup_of (by rw [nums_len, srt_len]; omega) (ok_nums n _)
  have e2 : ok (n + 1) (.tup (numsD (srt q.cs))) = true := ok_tup_of (by rw [nums_len, srt_len]; omega) (ok_nums n _)
  exact ok_tup_of (by simp) (by rw [oks, oks, oks, oks, oks, oks, oks, e1, e2]; rfl)
theorem filter_len : ∀ {ns : List Int} {x : Int}, ns.Nodup → x ∈ ns → (ns.filter fun y => !decide (y = x)).length + 1 = ns.length
  | a :: ns, x, hn, hx => by
    rw [List.nodup_cons] at hn
    by_cases e : a = x
    · subst e
      have : (ns.filter fun y => !decide (y = a)) = ns := List.filter_eq_self.mpr fun y hy => by
        have : y ≠ a := fun e => hn.1 (by rw [← e]; exact hy)
        simp [this]
      simp [this]
    · have hx' : x ∈ ns := by
        rcases List.mem_cons.mp hx with e2 | e2
        · exact absurd e2.symm e
        · exact e2
      have := filter_len hn.2 hx'
      simp [e]
      simpa using this
theorem row_le {ns : List Int} (h : RowOk 12 ns) : ns.length ≤ 12 := by
  have hn : (ns.map Int.toNat).Nodup := by
    have := h.1
    unfold List.Nodup at *
    rw [List.pairwise_map]
    exact List.Pairwise.imp_of_mem (fun {x y} hx hy hxy e => hxy (by have := h.2.1 x hx; have := h.2.1 y hy; omega)) this
  have hs : (ns.map Int.toNat) ⊆ List.range 12 := fun x hx => by
    obtain ⟨y, hy, rfl⟩ := List.mem_map.mp hx
    have := h.2.1 y hy
    exact List.mem_range.mpr (by omega)
  have := List.Nodup.length_le_of_subset hn hs
  simpa using this
theorem row_app {ms : List Int} {p : Int} (h : RowOk 12 ms) (h1 : p ∉ ms) (h2 : 0 ≤ p ∧ p < 12) : RowOk 12 (ms ++ [p]) := by
  have hs := h.short (by decide)
  refine ⟨List.nodup_append.mpr ⟨h.1, by simp, fun a ha b hb e => ?_⟩, fun x hx => ?_, by simp; omega⟩
  · cases List.mem_singleton.mp hb
    subst e
    exact h1 ha
  · rcases List.mem_append.mp hx with q | q
    · exact h.2.1 x q
    · cases List.mem_singleton.mp q
      exact h2
theorem plan_ok {l l' : LotT} {s p : Int} (h : LotOk 12 l) (e : planL l s p = .inr l') : LotOk 12 l' := by
  obtain ⟨ms, cs, pr⟩ := l
  obtain ⟨hr, h2, hc, hp⟩ := h
  simp only at hr h2 hc hp
  have hs := hr.short (by decide)
  unfold planL at e
  simp only at e
  split at e
  · split at e
    · cases e
    · rename_i hb
      cases e
      have h1 : p ∉ ms := fun z => hb (.inl z)
      have hp2 : 0 ≤ p ∧ p < 12 := ⟨by omega, by omega⟩
      have ra := row_app hr h1 hp2
      refine ⟨ra, by simp; omega, ?_, hp⟩
      show MenuOk (ms ++ [p]) (if freeL ⟨ms, cs, pr⟩ = true then cs ++ [p] else cs)
      split
      · refine ⟨List.nodup_append.mpr ⟨hc.1, by simp, fun a ha b hb e => ?_⟩, fun x hx => ?_, by simp, ?_⟩
        · cases List.mem_singleton.mp hb
          subst e
          exact h1 (hc.2.1 a ha)
        · rcases List.mem_append.mp hx with q | q
          · exact List.mem_append_left _ (hc.2.1 x q)
          · exact List.mem_append_right _ q
        · have := List.Nodup.length_le_of_subset hc.1 hc.2.1
          simp
          omega
      · exact ⟨hc.1, fun x hx => List.mem_append_left _ (hc.2.1 x hx), hc.2.2⟩
  · split at e
    · cases e
    · rename_i hb
      split at e
      · cases e
      · rename_i hne
        cases e
        have hm : p ∈ ms := Classical.byContradiction fun z => hb (.inl z)
        have h3 : ms.length ≠ 2 := fun z => hb (.inr z)
        have hl := filter_len hr.1 hm
        refine ⟨⟨hr.1.filter _, fun x hx => hr.2.1 x (List.mem_filter.mp hx).1, ?_⟩, ?_, ⟨hc.1.filter _, fun x hx => ?_, List.length_pos_iff.mpr hne, ?_⟩, hp⟩
        · show (ms.filter _).length ≤ 1000
          omega
        · show 2 ≤ (ms.filter _).length
          omega
        · have := List.mem_filter.mp hx
          exact List.mem_filter.mpr ⟨hc.2.1 x this.1, this.2⟩
        · exact Nat.le_trans (List.length_filter_le _ _) hc.2.2.2
def S_law_source : DSp := fun ds R _ => match ds with
  | [.scr _] => R .src
  | _ => False
def S_law_mixed : DSp := fun ds R _ => match ds with
  | [.int _, .int _] => ∀ i : Int, 0 ≤ i → i < 2147483629 → R (.int i)
  | _ => False
def S_law_draw : DSp := fun ds R _ => match ds with
  | [.src, .int n] => 0 < n ∧ n.natAbs.log2 < 9000 ∧ ∀ i : Int, 0 ≤ i → i < n → R (.int i)
  | _ => False
def S_law_some : DSp := fun ds R _ => match ds with
  | [.src, .int b, .int m] => 0 ≤ m ∧ m ≤ b ∧ b ≤ 1000 ∧ ∀ ns : List Int, RowOk b ns → (ns.length : Int) = m → R (.lst (numsD ns))
  | _ => False
def S_law_pick : DSp := fun ds R _ => match ds with
  | [.src, .lst xs] => 0 < xs.length ∧ xs.length ≤ 100000 ∧ ∀ (i : Nat) (d : D), xs[i]? = some d → R d
  | [.src, .tup xs] => 0 < xs.length ∧ xs.length ≤ 100000 ∧ ∀ (i : Nat) (d : D), xs[i]? = some d → R d
  | _ => False
def S_law_shuffled : DSp := fun ds R _ => match ds with
  | [.src, .lst xs] => xs.length ≤ 100000 ∧ ∀ ys : List D, ys.Perm xs → R (.lst ys)
  | [.src, .tup xs] => xs.length ≤ 100000 ∧ ∀ ys : List D, ys.Perm xs → R (.lst ys)
  | _ => False
def S_law_menu : DSp := fun ds R _ => match ds with
  | [.src, .lst xs, .int k] => ∃ gs : List Int, xs = numsD gs ∧ gs.Nodup ∧ 0 < gs.length ∧ gs.length ≤ 1000 ∧ ∀ ms : List Int, MenuOk gs ms → R (.lst (numsD ms))
  | [.src, .tup xs, .int k] => ∃ gs : List Int, xs = numsD gs ∧ gs.Nodup ∧ 0 < gs.length ∧ gs.length ≤ 1000 ∧ ∀ ms : List Int, MenuOk gs ms → R (.lst (numsD ms))
  | _ => False
theorem perm_ints {gs : List Int} {ys : List D} (p : ys.Perm (numsD gs)) : ∃ ms : List Int, ys = numsD ms ∧ ms.Perm gs := by
  induction ys generalizing gs with
  | nil =>
    have := p.length_eq
    rw [nums_len] at this
    refine ⟨[], rfl, ?_⟩
    rw [List.length_eq_zero_iff.mp (show gs.length = 0 by simpa using this.symm)]
  | cons y ys ih =>
    have hm : y ∈ numsD gs := p.mem_iff.mp List.mem_cons_self
    obtain ⟨n, hn, rfl⟩ := List.mem_map.mp hm
    obtain ⟨l1, l2, rfl⟩ := List.append_of_mem hn
    have p2 : ys.Perm (numsD (l1 ++ l2)) := by
      have e : numsD (l1 ++ n :: l2) = numsD l1 ++ D.int n :: numsD l2 := by unfold numsD; rw [List.map_append]; rfl
      rw [e] at p
      have := (p.trans List.perm_middle).cons_inv
      unfold numsD at *
      rw [List.map_append]
      exact this
    obtain ⟨ms, rfl, pm⟩ := ih p2
    exact ⟨n :: ms, rfl, (pm.cons n).trans List.perm_middle.symm⟩
def CostOk (c : Int) : Prop := 0 ≤ c ∧ c ≤ 1000000000
def S_law_cost : DSp := fun ds R _ => match ds with
  | [.src] => ∀ c : Int, CostOk c → R (.int c)
  | _ => False
def S_law_wide : DSp := fun ds R _ => match ds with
  | [.src, .int b] => 2 ≤ b ∧ b ≤ 60 ∧ ∀ l : LotT, LotOk b l → R (rowD l)
  | _ => False
def Sall_different : DSp := fun ds R _ => match ds with
  | [d] => ∃ ns : List Int, (d = .lst (numsD ns) ∨ d = .tup (numsD ns)) ∧ ns.length ≤ 1000 ∧ R (.bl (decide ns.Nodup))
  | _ => False
theorem nodup_take {ns : List Int} {i : Nat} {x : Int} (h : ns[i]? = some x) : (ns.take (i + 1)).Nodup ↔ (ns.take i).Nodup ∧ x ∉ ns.take i := by
  rw [take_more' h, List.nodup_append]
  constructor
  · rintro ⟨h1, _, h3⟩
    exact ⟨h1, fun hm => h3 x hm x (by simp) rfl⟩
  · rintro ⟨h1, h2⟩
    exact ⟨h1, by simp, fun a ha b hb e => by
      cases List.mem_singleton.mp hb
      subst e
      exact h2 ha⟩
def SLot_init (Ce : Addr) : ISp := fun ds R X => match ds with
  | [a, b, .int p] => ∃ ms cs, isSeq a ms ∧ (isSeq b cs ∨ (b = .non ∧ cs = ms)) ∧ ms.length ≤ 1000 ∧ cs.length ≤ 1000 ∧ lotEnd Ce ms cs p R X
  | _ => False
def S_law_up : DSp := fun ds R _ => match ds with
  | [.lst xs] => ∃ ns : List Int, xs = numsD ns ∧ ns.length ≤ 60 ∧ R (.tup (numsD (srt ns)))
  | _ => False
def S_law_due : DSp := fun ds R _ => match ds with
  | [p] => ∃ l : LotT, p = rowD l ∧ l.ms.length ≤ 60 ∧ l.cs.length ≤ 60 ∧ R (fieldsD l)
  | _ => False
def S_law_planned : DSp := fun ds R _ => match ds with
  | [a, .int s, .int p] => ∃ l : LotT, a = rowD l ∧ LotOk 12 l ∧ R (.lst [toldD l (planL l s p), rowD (nextL l (planL l s p))])
  | _ => False
def isI : D → Bool
  | .int _ => true
  | _ => false
def S_law_number : DSp := fun ds R _ => match ds with
  | [d] => (tyN d).isSome = true ∧ R (.bl (isI d))
  | _ => False
def S_law_same (n : Nat) : DSp := fun ds R _ => match n, ds with
  | m + 1, [a, b] => a = b ∧ ok m a = true ∧ R (.bl true)
  | _, _ => False
def SLot_is_free (C : Addr) : DSp := fun ds R _ => match ds with
  | [a] => ∃ l : LotT, a = lobj C l ∧ LotOk 12 l ∧ R (.bl (freeL l))
  | _ => False
def SLot_add (Ce C : Addr) : DSp := fun ds R X => match ds with
  | [a, .int p] => ∃ l : LotT, a = lobj C l ∧ LotOk 12 l ∧ endL Ce C (planL l 0 p) R X
  | _ => False
def SLot_sub (Ce C : Addr) : DSp := fun ds R X => match ds with
  | [a, .int p] => ∃ l : LotT, a = lobj C l ∧ LotOk 12 l ∧ endL Ce C (planL l 1 p) R X
  | _ => False
theorem filter_ne_len : ∀ {ns : List Int} {x : Int}, ns.Nodup → x ∈ ns → (ns.filter fun y => !decide (y = x)).length + 1 = ns.length
  | a :: ns, x, hn, hx => by
    rw [List.nodup_cons] at hn
    by_cases e : a = x
    · subst e
      have : (ns.filter fun y => !decide (y = a)) = ns := List.filter_eq_self.mpr fun y hy => by
        have : y ≠ a := fun e => hn.1 (by rw [← e]; exact hy)
        simp [this]
      simp [this]
    · have hx' : x ∈ ns := by
        rcases List.mem_cons.mp hx with e2 | e2
        · exact absurd e2.symm e
        · exact e2
      have := filter_ne_len hn.2 hx'
      simp [e]
      simpa using this
def SLot_len (C : Addr) : DSp := fun ds R _ => match ds with
  | [a] => ∃ l : LotT, a = lobj C l ∧ R (.int l.ms.length)
  | _ => False
def S_law_fields (C : Addr) : DSp := fun ds R _ => match ds with
  | [a] => ∃ l : LotT, a = lobj C l ∧ LotOk 12 l ∧ R (fieldsD l)
  | _ => False
def S_law_done (C : Addr) : DSp := fun ds R _ => match ds with
  | [a, .int s, .int p] => ∃ l : LotT, a = lobj C l ∧ LotOk 12 l ∧ (s = 0 ∨ s = 1) ∧ R (.lst [toldD l (planL l s p), lobj C (nextL l (planL l s p))])
  | _ => False
def S_law_refused (C : Addr) : DSp := fun ds R _ => match ds with
  | [a, .int s, .int p] => ∃ (l : LotT) (y : Str), a = lobj C l ∧ LotOk 12 l ∧ (s = 0 ∨ s = 1) ∧ planL l s p = .inl y ∧ R (.bl true)
  | _ => False
def S_law_right (C : Addr) : DSp := fun ds R _ => match ds with
  | [a, b, .int s, .int p] => ∃ l : LotT, a = lobj C l ∧ b = rowD l ∧ LotOk 12 l ∧ (s = 0 ∨ s = 1) ∧ R (.bl true)
  | _ => False
theorem ok_told {l : LotT} {s p : Int} (h : LotOk 12 l) : ok 7 (toldD l (planL l s p)) = true := by
  cases e : planL l s p with
  | inl y => exact ok_tup_of (by simp) (by rw [oks, oks, oks]; rfl)
  | inr l' =>
    have := plan_ok h e
    exact ok_fields (n := 5) this.1.2.2 this.2.2.1.2.2.2
def S_law_each (C : Addr) : DSp := fun ds R _ => match ds with
  | [a, b] => ∃ l : LotT, a = lobj C l ∧ b = rowD l ∧ LotOk 12 l ∧ R (.bl true)
  | _ => False
def S_law_far : DSp := fun ds R _ => match ds with
  | [.src] => ∀ n : Int, 0 ≤ n → R (.int n)
  | _ => False
def S_law_told_place : DSp := fun ds R _ => match ds with
  | [.src] => ∀ n : Int, R (.int n)
  | _ => False
def S_law (C : Addr) : DSp := fun ds R _ => match ds with
  | [.scr _] => R (.bl true)
  | _ => False
theorem LotOk.wide {b : Int} {l : LotT} (h : LotOk b l) (hb : b ≤ 12) : LotOk 12 l :=
  ⟨⟨h.1.1, fun x hx => by have := h.1.2.1 x hx; exact ⟨this.1, by omega⟩, h.1.2.2⟩, h.2⟩
theorem next_ok {l : LotT} {s p : Int} (h : LotOk 12 l) : LotOk 12 (nextL l (planL l s p)) := by
  cases e : planL l s p with
  | inl y => exact h
  | inr l' => exact plan_ok h e
abbrev st__law_source : Stmt := (top 12)
theorem sc__law_source : FnScope ["script"] ["script"] (defScope st__law_source) := ⟨rfl, rfl, rfl, by decide +kernel, rfl, by decide +kernel, by decide +kernel⟩
theorem ok__law_source {f : Addr} {fd : FuncData} (F : Fun K "_law_source" "_law_source" st__law_source f fd) (nb_list : mg "list" = none) :
    FnOk P w K mg base CX0 1 f fd ["script"] (spD K T S_law_source) := by
  refine fn_D F sc__law_source (fun ds R X h => by unfold S_law_source at h; split at h <;> first | rfl | exact h.elim) (fun cdv A outer s H E hr => ⟨_, (pss_one (ps_ret (pe_src (pe_lst (pa_cons (pe_fz (pe_callTy (show CallR _ (.type "list") (rListZ K) from call_listZ) (by rfl) nb_list (by decide +kernel) (pa_cons (pv 0) pa_nil))) (pa_cons pe_int (pa_cons pe_int (pa_cons pe_int (pa_cons pe_int (pa_cons pe_bl pa_nil)))))))))), fun ds R h => ?_⟩) (fun _ _ _ h => h)
  unfold S_law_source at h
  split at h
  · rename_i ns
    show DS _ [.val (.scr ns)] _ _ _ _ _
    walk_at "z0"
    refine ds_ret (de_src (dl_lst (da_cons (fz_dl (dl_listScr (dr_var rfl ⟨ns, rfl, ?_⟩))))))
    walk_at "zs"
    exact ⟨ns, 0, 0, 0, 0, false, rfl, by decide, h⟩
  · exact h.elim
abbrev st__law_mixed : Stmt := (top 13)
theorem sc__law_mixed : FnScope ["cell", "turn", "first", "second"] ["cell", "turn"] (defScope st__law_mixed) := ⟨rfl, rfl, rfl, by decide +kernel, rfl, by decide +kernel, by decide +kernel⟩
theorem ok__law_mixed {f : Addr} {fd : FuncData} (F : Fun K "_law_mixed" "_law_mixed" st__law_mixed f fd) (nb_int : mg "int" = none) :
    FnOk P w K mg base CX0 1 f fd ["cell", "turn"] (spD K T S_law_mixed) := by
  refine fn_D F sc__law_mixed (fun ds R X h => by unfold S_law_mixed at h; split at h <;> first | rfl | exact h.elim) (fun cdv A outer s H E hr => ⟨_, (pss_cons (ps_set (i := 2) sc__law_mixed.nd rfl (Or.inl rfl) (pe_op op_modZ (pe_callTy (show CallR _ (.type "int") (rIntZ) from call_intZ) (by rfl) nb_int (by decide +kernel) (pa_cons (pe_op (show OpR _ (binaryOp .Add) (rAddZ K) from op_addZ) (pe_op (show OpR _ (binaryOp .Add) (rAddZ K) from op_addZ) (pe_op op_mulZ (pv 0) pe_int) (pe_op op_mulZ (pv 1) pe_int)) pe_int) pa_nil)) pe_int)) (pss_cons (ps_set (i := 3) sc__law_mixed.nd rfl (Or.inl rfl) (pe_op op_modZ (pe_callTy (show CallR _ (.type "int") (rIntZ) from call_intZ) (by rfl) nb_int (by decide +kernel) (pa_cons (pe_op (show OpR _ (binaryOp .Add) (rAddZ K) from op_addZ) (pe_op (show OpR _ (binaryOp .Add) (rAddZ K) from op_addZ) (pe_op op_mulZ (pv 2) pe_int) (pe_op op_divZ (pv 2) pe_int)) (pe_op op_mulZ (pv 1) pe_int)) pa_nil)) pe_int)) (pss_one (ps_ret (pe_op op_modZ (pe_callTy (show CallR _ (.type "int") (rIntZ) from call_intZ) (by rfl) nb_int (by decide +kernel) (pa_cons (pe_op (show OpR _ (binaryOp .Add) (rAddZ K) from op_addZ) (pe_op op_mulZ (pv 3) (pv 3)) (pv 2)) pa_nil)) pe_int))))), fun ds R h => ?_⟩) (fun _ _ _ h => h)
  unfold S_law_mixed at h
  split at h
  · rename_i c t
    show DS _ [.val (.int c), .val (.int t), .no, .no] _ _ _ _ _
    walk_at "z0"
    refine ds_seqC (fun ρ' => ∃ i : Int, ρ' = [.val (.int c), .val (.int t), .val (.int i), .no] ∧ 0 ≤ i ∧ i < 2147483647) ?_ ?_
    · walk_at "zs"
      exact ⟨_, rfl, by omega, by omega⟩
    · rintro _ ⟨i, rfl, i0, i1⟩
      refine ds_seqC (fun ρ' => ∃ j : Int, ρ' = [.val (.int c), .val (.int t), .val (.int i), .val (.int j)] ∧ 0 ≤ j ∧ j < 2147483399) ?_ ?_
      · walk_at "zs"
        exact ⟨_, rfl, by omega, by omega⟩
      · rintro _ ⟨j, rfl, j0, j1⟩
        walk_at "zs"
        exact h _ (by omega) (by omega)
  · exact h.elim
abbrev st__law_draw : Stmt := (top 14)
theorem sc__law_draw : FnScope ["source", "limit", "told"] ["source", "limit"] (defScope st__law_draw) := ⟨rfl, rfl, rfl, by decide +kernel, rfl, by decide +kernel, by decide +kernel⟩
theorem ok__law_draw {f : Addr} {fd : FuncData} (F : Fun K "_law_draw" "_law_draw" st__law_draw f fd) {f__law_mixed : Addr} {fd__law_mixed : FuncData} (C__law_mixed : Cal P w K mg base CX0 1 "_law_mixed" ["cell", "turn"] (spD K T S_law_mixed) f__law_mixed fd__law_mixed) (nb_int : mg "int" = none) (nb_len : mg "len" = none) :
    FnOk P w K mg base CX0 2 f fd ["source", "limit"] (spD K T S_law_draw) := by
  refine fn_O F sc__law_draw (fun ds R X h => by
    unfold S_law_draw at h
    split at h
    · exact ⟨rfl, h, [_], rfl⟩
    · exact h.elim) (fun cdv A outer s H E hr => ⟨_, (pss_cons (ps_if (pt_cmpR (show OpR _ (compareOp .Eq) (rEqP K) from op_eqP hr.units) (pe_ix (show IxR _ (rIx K) from ix_Z) (pv 0) pe_int (fun _ _ => rfl)) pe_int (nomark _)) (pss_cons (ps_if (pt_cmpR (show OpR _ (compareOp .GtE) (rGeZ K) from op_geZ hr.units) (pe_ix (show IxR _ (rIx K) from ix_Z) (pv 0) pe_int (fun _ _ => rfl)) (pe_callB (show CallR _ (.builtin "len") (rLenZ K) from call_lenZ) (by rfl) nb_len (by decide +kernel) (pa_cons (pe_ix (show IxR _ (rIx K) from ix_Z) (pv 0) pe_int (fun _ _ => rfl)) pa_nil)) (nomark _)) (pss_one (ps_ret pe_int)) pss_nil) (pss_cons (ps_asg (pe_ix (show IxR _ (rIx K) from ix_Z) (pe_ix (show IxR _ (rIx K) from ix_Z) (pv 0) pe_int (fun _ _ => rfl)) (pe_ix (show IxR _ (rIx K) from ix_Z) (pv 0) pe_int (fun _ _ => rfl)) (fun _ _ => rfl)) (pg_sub (pv 0) pe_int set_list)) (pss_cons (ps_asg (pe_op (show OpR _ (binaryOp .Add) (rAddZ K) from op_addZ) (pe_ix (show IxR _ (rIx K) from ix_Z) (pv 0) pe_int (fun _ _ => rfl)) pe_int) (pg_sub (pv 0) pe_int set_list)) (pss_cons (ps_asg (pe_cmpR (show OpR _ (compareOp .GtE) (rGeZ K) from op_geZ hr.units) (pe_ix (show IxR _ (rIx K) from ix_Z) (pv 0) pe_int (fun _ _ => rfl)) (pe_op op_powZ pe_int pe_int) (nomark _)) (pg_sub (pv 0) pe_int set_list)) (pss_cons (ps_asg pe_int (pg_sub (pv 0) pe_int set_list)) (pss_one (ps_if (pt_truK K rfl (pe_ix (show IxR _ (rIx K) from ix_Z) (pv 0) pe_int (fun _ _ => rfl)) (by intro _; rfl)) (pss_one (ps_asg pe_int (pg_sub (pv 0) pe_int set_list))) pss_nil))))))) pss_nil) (pss_cons (ps_asg (pe_op op_subZ (pe_ix (show IxR _ (rIx K) from ix_Z) (pv 0) pe_int (fun _ _ => rfl)) pe_int) (pg_sub (pv 0) pe_int set_list)) (pss_cons (ps_asg (pe_op (show OpR _ (binaryOp .Add) (rAddZ K) from op_addZ) (pe_ix (show IxR _ (rIx K) from ix_Z) (pv 0) pe_int (fun _ _ => rfl)) pe_int) (pg_sub (pv 0) pe_int set_list)) (pss_cons (ps_if (pt_not (pt_truK K rfl (pe_ix (show IxR _ (rIx K) from ix_Z) (pv 0) pe_int (fun _ _ => rfl)) (by intro _; rfl))) (pss_one (ps_ret (pe_op op_modZ (pe_callTy (show CallR _ (.type "int") (rIntZ) from call_intZ) (by rfl) nb_int (by decide +kernel) (pa_cons (pe_call C__law_mixed.G (hr.mono (by first | decide | omega)) rfl C__law_mixed.mg C__law_mixed.kp C__law_mixed.b .nil pass0 (pa_cons (pe_ix (show IxR _ (rIx K) from ix_Z) (pv 0) pe_int (fun _ _ => rfl)) (pa_cons (pe_ix (show IxR _ (rIx K) from ix_Z) (pv 0) pe_int (fun _ _ => rfl)) pa_nil))) pa_nil)) (pv 1)))) pss_nil) (pss_cons (ps_set (i := 2) sc__law_draw.nd rfl (Or.inl rfl) (pe_op op_modZ (pe_callTy (show CallR _ (.type "int") (rIntZ) from call_intZ) (by rfl) nb_int (by decide +kernel) (pa_cons (pe_ix (show IxR _ (rIx K) from ix_Z) (pv 0) pe_int (fun _ _ => rfl)) pa_nil)) (pv 1))) (pss_cons (ps_asg (pe_op op_divZ (pe_ix (show IxR _ (rIx K) from ix_Z) (pv 0) pe_int (fun _ _ => rfl)) (pv 1)) (pg_sub (pv 0) pe_int set_list)) (pss_cons (ps_if (pt_cmpR (show OpR _ (compareOp .Eq) (rEqP K) from op_eqP hr.units) (pe_ix (show IxR _ (rIx K) from ix_Z) (pv 0) pe_int (fun _ _ => rfl)) pe_int (nomark _)) (pss_one (ps_asg pe_int (pg_sub (pv 0) pe_int set_list))) pss_nil) (pss_one (ps_ret (pv 2)))))))))), fun l b ns i c0 l0 t0 fl is R hi h => ?_⟩)
  unfold S_law_draw at h
  split at h
  · rename_i n e
    obtain ⟨n0, n9, hR⟩ := h
    have e : is = [n] := by
      cases is with
      | nil => cases e
      | cons a r =>
        cases r with
        | nil => cases e; rfl
        | cons _ _ => cases e
    subst e
    show DS _ [.opn l b ns [.int i, .int c0, .int l0, .int t0, .bl fl], .val (.int n), .no] _ _ _ _ _
    walk_at "z0"
    refine ds_seqC (fun ρ' => ∃ (i c l1 t : Int) (f : Bool), ρ' = [.opn l b ns [.int i, .int c, .int l1, .int t, .bl f], .val (.int n), .no] ∧ 0 ≤ i) ?_ ?_
    · walk_at "zs"
      · exact ⟨0, i, c0, l0, t0, fl, _, rfl, hi, rfl, hR 0 (by omega) (by omega)⟩
      · rename_i h1 h2
        obtain ⟨z, _, hz⟩ := at_ints (is := ns) (i := i) hi (by simpa using h2)
        refine FIx_lst hz ?_
        walk_at "zs"
        · exact ⟨_, _, _, _, _, rfl, by omega⟩
        · exact ⟨_, _, _, _, _, rfl, by omega⟩
      · exact ⟨_, _, _, _, _, rfl, hi⟩
    · rintro _ ⟨i, c, l1, t, f, rfl, i0⟩
      walk_at "zs"
      · intro z _ _
        walk_at "zs"
        exact ⟨_, i, c, l1 - 1, t + 1, f, _, rfl, i0, rfl, hR _ (Int.emod_nonneg _ (by omega)) (Int.emod_lt_of_pos _ n0)⟩
      · exact ⟨_, i, _, _, t + 1, f, _, rfl, i0, rfl, hR _ (Int.emod_nonneg _ (by omega)) (Int.emod_lt_of_pos _ n0)⟩
      · exact ⟨_, i, _, _, t + 1, f, _, rfl, i0, rfl, hR _ (Int.emod_nonneg _ (by omega)) (Int.emod_lt_of_pos _ n0)⟩
  · exact h.elim
abbrev st__law_some : Stmt := (top 21)
theorem sc__law_some : FnScope ["source", "bound", "many", "left", "out", "k"] ["source", "bound", "many"] (defScope st__law_some) := ⟨rfl, rfl, rfl, by decide +kernel, rfl, by decide +kernel, by decide +kernel⟩
theorem ok__law_some {f : Addr} {fd : FuncData} (F : Fun K "_law_some" "_law_some" st__law_some f fd) {f__law_draw : Addr} {fd__law_draw : FuncData} (C__law_draw : Cal P w K mg base CX0 2 "_law_draw" ["source", "limit"] (spD K T S_law_draw) f__law_draw fd__law_draw) (nb_len : mg "len" = none) (nb_list : mg "list" = none) (nb_range : mg "range" = none) :
    FnOk P w K mg base CX0 3 f fd ["source", "bound", "many"] (spD K T S_law_some) := by
  refine fn_D F sc__law_some (fun ds R X h => by unfold S_law_some at h; split at h <;> first | rfl | exact h.elim) (fun cdv A outer s H E hr => ⟨_, (pss_cons (ps_set (i := 3) sc__law_some.nd rfl (Or.inl rfl) (pe_listRg rfl (by rfl) nb_list (prg_1 (by rfl) nb_range (pv 1)))) (pss_cons (ps_set (i := 4) sc__law_some.nd rfl (Or.inl rfl) (pe_lst pa_nil)) (pss_cons (ps_for PassesOwn.never rfl (pi_range1 (by rfl) nb_range (pa_cons (pv 2) pa_nil)) (pg_name (i := 5) sc__law_some.nd rfl (Or.inl rfl)) (pss_one (ps_expr (pe_bm PySem.F.plainAttrs_list PySem.F.slot_list_append PySem.F.type_list_append mt_append (pv 4) (pa_cons (pe_bm PySem.F.plainAttrs_list PySem.F.slot_list_pop PySem.F.type_list_pop mt_popAt (pv 3) (pa_cons (pe_call C__law_draw.G (hr.mono (by first | decide | omega)) rfl C__law_draw.mg C__law_draw.kp C__law_draw.b .nil pass0 (pa_cons (pv 0) (pa_cons (pe_callB (show CallR _ (.builtin "len") (rLenZ K) from call_lenZ) (by rfl) nb_len (by decide +kernel) (pa_cons (pv 3) pa_nil)) pa_nil))) pa_nil)) pa_nil))))) (pss_one (ps_fzs (i := 4) (ps_ret (pv 4))))))), fun ds R h => ?_⟩) (fun _ _ _ h => h)
  unfold S_law_some at h
  split at h
  · rename_i b m
    obtain ⟨m0, mb, b1, h⟩ := h
    show DS _ [.val .src, .val (.int b), .val (.int m), .no, .no, .no] _ _ _ _ _
    walk_at "z0"
    refine ds_seq (ds_asgL (dl_listRg (dr_var rfl ⟨b, rfl, by omega, by omega, ?_⟩)))
    rw [range_ints]
    have hr := range_row b.toNat (by omega)
    rw [Int.toNat_of_nonneg (by omega)] at hr
    generalize hxs : ((List.range b.toNat).map fun i => ((i : Nat) : Int)) = xs at *
    have hxl : (xs.length : Int) = b := by rw [← hxs]; simp; omega
    walk_at "zs"
    refine ds_mono (N' := fun ρ' => ∃ ls os s, ρ' = [.val .src, .val (.int b), .val (.int m), .own (numsD ls), .own (numsD os), s] ∧ (os ++ ls).Perm xs ∧ (os.length : Int) = m) ?_ ?_
    · refine ds_forR (de_var rfl ⟨_, rfl, by omega, by omega, fun i ρ' => ∃ ls os s, ρ' = [.val .src, .val (.int b), .val (.int m), .own (numsD ls), .own (numsD os), s] ∧ (os ++ ls).Perm xs ∧ os.length = i, ⟨xs, [], .no, rfl, .refl _, rfl⟩, ?_, ?_⟩)
      · rintro i _ hi ⟨ls, os, s, rfl, hp, hl⟩
        have hpl := hp.length_eq
        rw [List.length_append, hl] at hpl
        have hll := nums_len ls
        have hol := nums_len os
        refine ds_appM rfl (dm_popA rfl ?_)
        walk_at "zs"
        refine ⟨by omega, drawn_small (by omega), fun j j0 j1 => ?_⟩
        obtain ⟨y, e1, e2⟩ := at_in j0 j1
        obtain ⟨n, rfl, e3, _⟩ := nums_get e2
        refine ⟨j.toNat, .int n, by rw [Int.toNat_of_nonneg j0], by omega, e2, ?_⟩
        refine ⟨numsD os, rfl, by omega, ls.eraseIdx j.toNat, os ++ [n], .val (.int i), ?_, ?_, by simp [hl]⟩
        · show [S.val .src, .val (.int b), .val (.int m), .own ((numsD ls).eraseIdx j.toNat), .own (numsD os ++ [.int n]), .val (.int i)] = _
          unfold numsD
          rw [List.map_append, erase_map]
          rfl
        · rw [List.append_assoc]
          exact ((List.Perm.append_left os (erase_perm e3))).trans hp
      · rintro _ ⟨ls, os, s, rfl, hp, hl⟩
        exact ⟨_, _, _, rfl, hp, by omega⟩
    · rintro _ ⟨ls, os, s, rfl, hp, hl⟩
      have hq := hr.perm hp
      walk_at "zs"
      refine h os ⟨(List.nodup_append.mp hq.1).1, fun x hx => hq.2.1 x (List.mem_append_left _ hx), by omega⟩ hl
  · exact h.elim
abbrev st__law_pick : Stmt := (top 17)
theorem sc__law_pick : FnScope ["source", "row"] ["source", "row"] (defScope st__law_pick) := ⟨rfl, rfl, rfl, by decide +kernel, rfl, by decide +kernel, by decide +kernel⟩
theorem ok__law_pick {f : Addr} {fd : FuncData} (F : Fun K "_law_pick" "_law_pick" st__law_pick f fd) {f__law_draw : Addr} {fd__law_draw : FuncData} (C__law_draw : Cal P w K mg base CX0 2 "_law_draw" ["source", "limit"] (spD K T S_law_draw) f__law_draw fd__law_draw) (nb_len : mg "len" = none) :
    FnOk P w K mg base CX0 3 f fd ["source", "row"] (spD K T S_law_pick) := by
  refine fn_D F sc__law_pick (fun ds R X h => by unfold S_law_pick at h; split at h <;> first | rfl | exact h.elim) (fun cdv A outer s H E hr => ⟨_, (pss_one (ps_ret (pe_ix (show IxR _ (rIx K) from ix_Z) (pv 1) (pe_call C__law_draw.G (hr.mono (by first | decide | omega)) rfl C__law_draw.mg C__law_draw.kp C__law_draw.b .nil pass0 (pa_cons (pv 0) (pa_cons (pe_callB (show CallR _ (.builtin "len") (rLenZ K) from call_lenZ) (by rfl) nb_len (by decide +kernel) (pa_cons (pv 1) pa_nil)) pa_nil))) (fun _ _ => rfl)))), fun ds R h => ?_⟩) (fun _ _ _ h => h)
  unfold S_law_pick at h
  split at h
  · rename_i xs
    obtain ⟨h0, h1, h⟩ := h
    show DS _ [.val .src, .val (.lst xs)] _ _ _ _ _
    walk_at "z0"
    walk_at "zs"
    refine ⟨by omega, drawn_small (by omega), fun i i0 i1 => ?_⟩
    obtain ⟨d, e1, e2⟩ := at_in i0 i1
    exact FIx_lst e1 (h _ d e2)
  · rename_i xs
    obtain ⟨h0, h1, h⟩ := h
    show DS _ [.val .src, .val (.tup xs)] _ _ _ _ _
    walk_at "z0"
    walk_at "zs"
    refine ⟨by omega, drawn_small (by omega), fun i i0 i1 => ?_⟩
    obtain ⟨d, e1, e2⟩ := at_in i0 i1
    exact FIx_tup e1 (h _ d e2)
  · exact h.elim
abbrev st__law_shuffled : Stmt := (top 18)
theorem sc__law_shuffled : FnScope ["source", "row", "left", "out", "k"] ["source", "row"] (defScope st__law_shuffled) := ⟨rfl, rfl, rfl, by decide +kernel, rfl, by decide +kernel, by decide +kernel⟩
theorem ok__law_shuffled {f : Addr} {fd : FuncData} (F : Fun K "_law_shuffled" "_law_shuffled" st__law_shuffled f fd) {f__law_draw : Addr} {fd__law_draw : FuncData} (C__law_draw : Cal P w K mg base CX0 2 "_law_draw" ["source", "limit"] (spD K T S_law_draw) f__law_draw fd__law_draw) (nb_len : mg "len" = none) (nb_list : mg "list" = none) (nb_range : mg "range" = none) :
    FnOk P w K mg base CX0 3 f fd ["source", "row"] (spD K T S_law_shuffled) := by
  refine fn_D F sc__law_shuffled (fun ds R X h => by unfold S_law_shuffled at h; split at h <;> first | rfl | exact h.elim) (fun cdv A outer s H E hr => ⟨_, (pss_cons (ps_set (i := 2) sc__law_shuffled.nd rfl (Or.inl rfl) (pe_callTy (show CallR _ (.type "list") (rListZ K) from call_listZ) (by rfl) nb_list (by decide +kernel) (pa_cons (pv 1) pa_nil))) (pss_cons (ps_set (i := 3) sc__law_shuffled.nd rfl (Or.inl rfl) (pe_lst pa_nil)) (pss_cons (ps_for PassesOwn.never rfl (pi_range1 (by rfl) nb_range (pa_cons (pe_callB (show CallR _ (.builtin "len") (rLenZ K) from call_lenZ) (by rfl) nb_len (by decide +kernel) (pa_cons (pv 1) pa_nil)) pa_nil)) (pg_name (i := 4) sc__law_shuffled.nd rfl (Or.inl rfl)) (pss_one (ps_expr (pe_bm PySem.F.plainAttrs_list PySem.F.slot_list_append PySem.F.type_list_append mt_append (pv 3) (pa_cons (pe_bm PySem.F.plainAttrs_list PySem.F.slot_list_pop PySem.F.type_list_pop mt_popAt (pv 2) (pa_cons (pe_call C__law_draw.G (hr.mono (by first | decide | omega)) rfl C__law_draw.mg C__law_draw.kp C__law_draw.b .nil pass0 (pa_cons (pv 0) (pa_cons (pe_callB (show CallR _ (.builtin "len") (rLenZ K) from call_lenZ) (by rfl) nb_len (by decide +kernel) (pa_cons (pv 2) pa_nil)) pa_nil))) pa_nil)) pa_nil))))) (pss_one (ps_fzs (i := 3) (ps_ret (pv 3))))))), fun ds R h => ?_⟩) (fun _ _ _ h => h)
  obtain ⟨xs, d, e, hd, hz, hR⟩ : ∃ xs d, ds = [.src, d] ∧ (d = .lst xs ∨ d = .tup xs) ∧ xs.length ≤ 100000 ∧ (∀ ys : List D, ys.Perm xs → R (.lst ys)) := by
    unfold S_law_shuffled at h
    split at h
    · exact ⟨_, _, rfl, .inl rfl, h.1, h.2⟩
    · exact ⟨_, _, rfl, .inr rfl, h.1, h.2⟩
    · exact h.elim
  subst e
  replace h := hR
  show DS _ [.val .src, .val d, .no, .no, .no] _ _ _ _ _
  walk_at "z0"
  refine ds_seq (ds_asgL (dl_list (dr_var rfl ⟨xs, hd, ?_⟩)))
  walk_at "zs"
  refine ds_mono (N' := fun ρ' => ∃ ls os s, ρ' = [.val .src, .val d, .own ls, .own os, s] ∧ os.Perm xs) ?_ ?_
  · refine ds_forR (de_len (dr_var rfl ⟨xs, hd, _, rfl, by omega, by omega, fun i ρ' => ∃ ls os s, ρ' = [.val .src, .val d, .own ls, .own os, s] ∧ (os ++ ls).Perm xs ∧ os.length = i, ⟨xs, [], .no, rfl, .refl _, rfl⟩, ?_, ?_⟩))
    · rintro i _ hi ⟨ls, os, s, rfl, hp, hl⟩
      have hpl := hp.length_eq
      rw [List.length_append, hl] at hpl
      refine ds_appM rfl (dm_popA rfl ?_)
      walk_at "zs"
      refine ⟨by omega, drawn_small (by omega), fun j j0 j1 => ?_⟩
      obtain ⟨y, e1, e2⟩ := at_in j0 j1
      refine ⟨j.toNat, y, by rw [Int.toNat_of_nonneg j0], by omega, e2, ?_⟩
      refine ⟨os, rfl, by omega, ls.eraseIdx j.toNat, os ++ [y], .val (.int i), rfl, ?_, by simp [hl]⟩
      rw [List.append_assoc]
      exact ((List.Perm.append_left os (erase_perm e2))).trans hp
    · rintro _ ⟨ls, os, s, rfl, hp, hl⟩
      have hpl := hp.length_eq
      rw [List.length_append, hl] at hpl
      have : ls = [] := List.length_eq_zero_iff.mp (by omega)
      subst this
      rw [List.append_nil] at hp
      exact ⟨_, _, _, rfl, hp⟩
  · rintro _ ⟨ls, os, s, rfl, hp⟩
    walk_at "zs"
    exact h os hp
abbrev st__law_menu : Stmt := (top 19)
theorem sc__law_menu : FnScope ["source", "group", "kind"] ["source", "group", "kind"] (defScope st__law_menu) := ⟨rfl, rfl, rfl, by decide +kernel, rfl, by decide +kernel, by decide +kernel⟩
theorem ok__law_menu {f : Addr} {fd : FuncData} (F : Fun K "_law_menu" "_law_menu" st__law_menu f fd) {f__law_pick : Addr} {fd__law_pick : FuncData} (C__law_pick : Cal P w K mg base CX0 3 "_law_pick" ["source", "row"] (spD K T S_law_pick) f__law_pick fd__law_pick) {f__law_draw : Addr} {fd__law_draw : FuncData} (C__law_draw : Cal P w K mg base CX0 2 "_law_draw" ["source", "limit"] (spD K T S_law_draw) f__law_draw fd__law_draw) {f__law_shuffled : Addr} {fd__law_shuffled : FuncData} (C__law_shuffled : Cal P w K mg base CX0 3 "_law_shuffled" ["source", "row"] (spD K T S_law_shuffled) f__law_shuffled fd__law_shuffled) (nb_len : mg "len" = none) (nb_list : mg "list" = none) :
    FnOk P w K mg base CX0 4 f fd ["source", "group", "kind"] (spD K T S_law_menu) := by
  refine fn_D F sc__law_menu (fun ds R X h => by unfold S_law_menu at h; split at h <;> first | rfl | exact h.elim) (fun cdv A outer s H E hr => ⟨_, (pss_cons (ps_if (pt_cmpR (show OpR _ (compareOp .Eq) (rEqP K) from op_eqP hr.units) (pv 2) pe_int (nomark _)) (pss_one (ps_ret (pe_fz (pe_callTy (show CallR _ (.type "list") (rListZ K) from call_listZ) (by rfl) nb_list (by decide +kernel) (pa_cons (pv 1) pa_nil))))) pss_nil) (pss_cons (ps_if (pt_cmpR (show OpR _ (compareOp .Eq) (rEqP K) from op_eqP hr.units) (pv 2) pe_int (nomark _)) (pss_one (ps_ret (pe_fz (pe_lst (pa_cons (pe_call C__law_pick.G (hr.mono (by first | decide | omega)) rfl C__law_pick.mg C__law_pick.kp C__law_pick.b .nil pass0 (pa_cons (pv 0) (pa_cons (pv 1) pa_nil))) pa_nil))))) pss_nil) (pss_one (ps_ret (pe_fz (pe_slice (show SlR _ (rSlZ K) from sl_Z) (pe_call C__law_shuffled.G (hr.mono (by first | decide | omega)) rfl C__law_shuffled.mg C__law_shuffled.kp C__law_shuffled.b .nil pass0 (pa_cons (pv 0) (pa_cons (pv 1) pa_nil))) po_none (po_some (pe_op (show OpR _ (binaryOp .Add) (rAddZ K) from op_addZ) pe_int (pe_call C__law_draw.G (hr.mono (by first | decide | omega)) rfl C__law_draw.mg C__law_draw.kp C__law_draw.b .nil pass0 (pa_cons (pv 0) (pa_cons (pe_callB (show CallR _ (.builtin "len") (rLenZ K) from call_lenZ) (by rfl) nb_len (by decide +kernel) (pa_cons (pv 1) pa_nil)) pa_nil))))))))))), fun ds R h => ?_⟩) (fun _ _ _ h => h)
  obtain ⟨gs, d, k, e, hd, g1, g0, gz, hR⟩ : ∃ (gs : List Int) (d : D) (k : Int), ds = [.src, d, .int k] ∧ (d = .lst (numsD gs) ∨ d = .tup (numsD gs)) ∧ gs.Nodup ∧ 0 < gs.length ∧ gs.length ≤ 1000 ∧ (∀ ms : List Int, MenuOk gs ms → R (.lst (numsD ms))) := by
    unfold S_law_menu at h
    split at h
    · obtain ⟨gs, rfl, h1, h2, h3, h4⟩ := h
      exact ⟨gs, _, _, rfl, .inl rfl, h1, h2, h3, h4⟩
    · obtain ⟨gs, rfl, h1, h2, h3, h4⟩ := h
      exact ⟨gs, _, _, rfl, .inr rfl, h1, h2, h3, h4⟩
    · exact h.elim
  subst e
  replace h := hR
  have hl := nums_len gs
  show DS _ [.val .src, .val d, .val (.int k)] _ _ _ _ _
  walk_at "z0"
  walk_at "zs"
  · exact ⟨_, hd, h gs ⟨g1, fun _ h => h, g0, gz⟩⟩
  · have fin : ∀ (i : Nat) (y : D), (numsD gs)[i]? = some y → R (.lst [y]) := fun i y e => by
      obtain ⟨n, rfl, _, hm⟩ := nums_get e
      exact h [n] ⟨by simp, fun x hx => by cases List.mem_singleton.mp hx; exact hm, by simp, by simp⟩
    rcases hd with rfl | rfl
    · exact ⟨by omega, by omega, fun i y e => da_nil ⟨by simp, fin i y e⟩⟩
    · exact ⟨by omega, by omega, fun i y e => da_nil ⟨by simp, fin i y e⟩⟩
  · refine fz_dl (dl_slice (dr_de (de_call ?_)))
    walk_at "zs"
    have fin : ∀ ys : List D, ys.Perm (numsD gs) → ∃ xs, D.lst ys = .lst xs ∧ DO ⟨K, T, fun _ => False, H⟩ [.val .src, .val d, .val (.int k)] tNoPart fun lo => DO ⟨K, T, fun _ => False, H⟩ [.val .src, .val d, .val (.int k)] (tPart (tOp (rAddZ K) (tC (.int 1)) (tCall (spD K T S_law_draw) [] E0 (tCons (tVar 0) (tCons (tCB (rLenZ K) (tCons (tVar 1) tNil)) tNil))))) fun hi => R (.lst (cutD xs lo hi)) := fun ys hp => by
      refine ⟨_, rfl, do_none (do_some ?_)⟩
      walk_at "zs"
      refine ⟨_, hd, ?_⟩
      walk_at "zs"
      refine ⟨by omega, drawn_small (by omega), fun n n0 n1 => ?_⟩
      walk_at "zs"
      refine ⟨_, rfl, ?_⟩
      obtain ⟨ms, rfl, pm⟩ := perm_ints hp
      rw [cutD_take _ (by omega)]
      have hml := pm.length_eq
      have e2 : (numsD ms).take (1 + n).toNat = numsD (ms.take (1 + n).toNat) := by unfold numsD; rw [List.map_take]
      rw [e2]
      refine h _ ⟨List.Sublist.nodup (List.take_sublist _ _) (pm.nodup_iff.mpr g1), fun x hx => pm.mem_iff.mp (List.mem_of_mem_take hx), by rw [List.length_take]; omega, by rw [List.length_take]; omega⟩
    rcases hd with rfl | rfl
    · exact ⟨by omega, fin⟩
    · exact ⟨by omega, fin⟩
abbrev st__law_cost : Stmt := (top 20)
theorem sc__law_cost : FnScope ["source", "kind"] ["source"] (defScope st__law_cost) := ⟨rfl, rfl, rfl, by decide +kernel, rfl, by decide +kernel, by decide +kernel⟩
theorem ok__law_cost {f : Addr} {fd : FuncData} (F : Fun K "_law_cost" "_law_cost" st__law_cost f fd) {f__law_draw : Addr} {fd__law_draw : FuncData} (C__law_draw : Cal P w K mg base CX0 2 "_law_draw" ["source", "limit"] (spD K T S_law_draw) f__law_draw fd__law_draw) :
    FnOk P w K mg base CX0 3 f fd ["source"] (spD K T S_law_cost) := by
  refine fn_D F sc__law_cost (fun ds R X h => by unfold S_law_cost at h; split at h <;> first | rfl | exact h.elim) (fun cdv A outer s H E hr => ⟨_, (pss_cons (ps_set (i := 1) sc__law_cost.nd rfl (Or.inl rfl) (pe_call C__law_draw.G (hr.mono (by first | decide | omega)) rfl C__law_draw.mg C__law_draw.kp C__law_draw.b .nil pass0 (pa_cons (pv 0) (pa_cons pe_int pa_nil)))) (pss_cons (ps_if (pt_cmpR (show OpR _ (compareOp .Eq) (rEqP K) from op_eqP hr.units) (pv 1) pe_int (nomark _)) (pss_one (ps_ret pe_int)) pss_nil) (pss_cons (ps_if (pt_cmpR (show OpR _ (compareOp .Eq) (rEqP K) from op_eqP hr.units) (pv 1) pe_int (nomark _)) (pss_one (ps_ret (pe_op op_subZ (pe_op op_powZ pe_int pe_int) (pe_call C__law_draw.G (hr.mono (by first | decide | omega)) rfl C__law_draw.mg C__law_draw.kp C__law_draw.b .nil pass0 (pa_cons (pv 0) (pa_cons pe_int pa_nil)))))) pss_nil) (pss_cons (ps_if (pt_cmpR (show OpR _ (compareOp .Eq) (rEqP K) from op_eqP hr.units) (pv 1) pe_int (nomark _)) (pss_one (ps_ret (pe_op (show OpR _ (binaryOp .Add) (rAddZ K) from op_addZ) pe_int (pe_call C__law_draw.G (hr.mono (by first | decide | omega)) rfl C__law_draw.mg C__law_draw.kp C__law_draw.b .nil pass0 (pa_cons (pv 0) (pa_cons pe_int pa_nil)))))) pss_nil) (pss_one (ps_ret (pe_call C__law_draw.G (hr.mono (by first | decide | omega)) rfl C__law_draw.mg C__law_draw.kp C__law_draw.b .nil pass0 (pa_cons (pv 0) (pa_cons (pe_op (show OpR _ (binaryOp .Add) (rAddZ K) from op_addZ) (pe_op op_powZ pe_int pe_int) pe_int) pa_nil))))))))), fun ds R h => ?_⟩) (fun _ _ _ h => h)
  unfold S_law_cost at h
  have e9 : (10 : Int) ^ Int.toNat 9 = 1000000000 := by decide
  split at h
  · show DS _ [.val .src, .no] _ _ _ _ _
    walk_at "z0"
    walk_at "zs"
    refine ⟨by decide, by decide, fun k k0 k1 => ?_⟩
    walk_at "zs"
    · exact h 0 ⟨by decide, by decide⟩
    · refine ⟨by decide, by decide, fun n n0 n1 => ?_⟩
      walk_at "zs"
      exact h _ ⟨by rw [e9]; omega, by rw [e9]; omega⟩
    · refine ⟨by decide, by decide, fun n n0 n1 => ?_⟩
      walk_at "zs"
      exact h _ ⟨by omega, by omega⟩
    · refine ⟨by rw [e9]; decide, by rw [e9]; exact drawn_small (by omega), fun n n0 n1 => ?_⟩
      rw [e9] at n1
      exact h _ ⟨by omega, by omega⟩
  · exact h.elim
abbrev st__law_wide : Stmt := (top 22)
theorem sc__law_wide : FnScope ["source", "bound", "group", "menu"] ["source", "bound"] (defScope st__law_wide) := ⟨rfl, rfl, rfl, by decide +kernel, rfl, by decide +kernel, by decide +kernel⟩
theorem ok__law_wide {f : Addr} {fd : FuncData} (F : Fun K "_law_wide" "_law_wide" st__law_wide f fd) {f__law_some : Addr} {fd__law_some : FuncData} (C__law_some : Cal P w K mg base CX0 3 "_law_some" ["source", "bound", "many"] (spD K T S_law_some) f__law_some fd__law_some) {f__law_draw : Addr} {fd__law_draw : FuncData} (C__law_draw : Cal P w K mg base CX0 2 "_law_draw" ["source", "limit"] (spD K T S_law_draw) f__law_draw fd__law_draw) {f__law_menu : Addr} {fd__law_menu : FuncData} (C__law_menu : Cal P w K mg base CX0 4 "_law_menu" ["source", "group", "kind"] (spD K T S_law_menu) f__law_menu fd__law_menu) {f__law_cost : Addr} {fd__law_cost : FuncData} (C__law_cost : Cal P w K mg base CX0 3 "_law_cost" ["source"] (spD K T S_law_cost) f__law_cost fd__law_cost) :
    FnOk P w K mg base CX0 5 f fd ["source", "bound"] (spD K T S_law_wide) := by
  refine fn_D F sc__law_wide (fun ds R X h => by unfold S_law_wide at h; split at h <;> first | rfl | exact h.elim) (fun cdv A outer s H E hr => ⟨_, (pss_cons (ps_set (i := 2) sc__law_wide.nd rfl (Or.inl rfl) (pe_call C__law_some.G (hr.mono (by first | decide | omega)) rfl C__law_some.mg C__law_some.kp C__law_some.b .nil pass0 (pa_cons (pv 0) (pa_cons (pv 1) (pa_cons (pe_op (show OpR _ (binaryOp .Add) (rAddZ K) from op_addZ) pe_int (pe_call C__law_draw.G (hr.mono (by first | decide | omega)) rfl C__law_draw.mg C__law_draw.kp C__law_draw.b .nil pass0 (pa_cons (pv 0) (pa_cons (pe_op op_subZ (pv 1) pe_int) pa_nil)))) pa_nil))))) (pss_cons (ps_set (i := 3) sc__law_wide.nd rfl (Or.inl rfl) (pe_call C__law_menu.G (hr.mono (by first | decide | omega)) rfl C__law_menu.mg C__law_menu.kp C__law_menu.b .nil pass0 (pa_cons (pv 0) (pa_cons (pv 2) (pa_cons (pe_call C__law_draw.G (hr.mono (by first | decide | omega)) rfl C__law_draw.mg C__law_draw.kp C__law_draw.b .nil pass0 (pa_cons (pv 0) (pa_cons pe_int pa_nil))) pa_nil))))) (pss_one (ps_ret (pe_tup (pa_cons (pv 2) (pa_cons (pv 3) (pa_cons (pe_call C__law_cost.G (hr.mono (by first | decide | omega)) rfl C__law_cost.mg C__law_cost.kp C__law_cost.b .nil pass0 (pa_cons (pv 0) pa_nil)) pa_nil)))))))), fun ds R h => ?_⟩) (fun _ _ _ h => h)
  unfold S_law_wide at h
  split at h
  · rename_i b
    obtain ⟨b0, b1, h⟩ := h
    show DS _ [.val .src, .val (.int b), .no, .no] _ _ _ _ _
    walk_at "z0"
    walk_at "zs"
    refine ⟨by omega, drawn_small (by omega), fun m m0 m1 => ?_⟩
    walk_at "zs"
    refine ⟨by omega, by omega, by omega, fun gs hg hl => ?_⟩
    walk_at "zs"
    refine ⟨by decide, by decide, fun k k0 k1 => ?_⟩
    walk_at "zs"
    refine ⟨gs, rfl, hg.1, by omega, hg.2.2, fun ms hm => ?_⟩
    walk_at "zs"
    intro c hc
    walk_at "zs"
    exact h ⟨gs, ms, c⟩ ⟨hg, by show 2 ≤ gs.length; omega, hm, hc.1, hc.2⟩
  · exact h.elim
abbrev st_all_different : Stmt := (top 9)
theorem sc_all_different : FnScope ["places", "index"] ["places"] (defScope st_all_different) := ⟨rfl, rfl, rfl, by decide +kernel, rfl, by decide +kernel, by decide +kernel⟩
theorem ok_all_different {f : Addr} {fd : FuncData} (F : Fun K "all_different" "all_different" st_all_different f fd) (nb_len : mg "len" = none) (nb_range : mg "range" = none) :
    FnOk P w K mg base CX0 1 f fd ["places"] (spD K T Sall_different) := by
  refine fn_D F sc_all_different (fun ds R X h => by unfold Sall_different at h; split at h <;> first | rfl | exact h.elim) (fun cdv A outer s H E hr => ⟨_, (pss_cons (ps_for PassesOwn.never rfl (pi_range1 (by rfl) nb_range (pa_cons (pe_callB (show CallR _ (.builtin "len") (rLenZ K) from call_lenZ) (by rfl) nb_len (by decide +kernel) (pa_cons (pv 0) pa_nil)) pa_nil)) (pg_name (i := 1) sc_all_different.nd rfl (Or.inl rfl)) (pss_one (ps_if (pt_cmpR (show OpR _ (compareOp .In) (rInP false K) from op_inP hr.units) (pe_ix (show IxR _ (rIx K) from ix_Z) (pv 0) (pv 1) (fun _ _ => rfl)) (pe_slice (show SlR _ (rSlZ K) from sl_Z) (pv 0) po_none (po_some (pv 1))) rfl) (pss_one (ps_ret pe_bl)) pss_nil))) (pss_one (ps_ret pe_bl))), fun ds R h => ?_⟩) (fun _ _ _ h => h)
  unfold Sall_different at h
  split at h
  · rename_i d
    obtain ⟨ns, hd, hz, h⟩ := h
    have hl := nums_len ns
    show DS _ [.val d, .no] _ _ _ _ _
    walk_at "z0"
    refine ds_seq (ds_forR (de_len (dr_var rfl ⟨_, hd, _, rfl, by omega, by omega, fun i ρ' => (ns.take i).Nodup ∧ ∃ s, ρ' = [.val d, s], ⟨by simp, .no, rfl⟩, ?_, ?_⟩)))
    · rintro i _ hi ⟨hn, s, rfl⟩
      obtain ⟨y, e1, e2⟩ := at_in (ds := numsD ns) (i := (i : Int)) (by omega) hi
      obtain ⟨n, rfl, e3, _⟩ := nums_get e2
      rw [Int.toNat_natCast] at e3
      have ht := nodup_take e3
      refine ds_if ?_
      walk_at "zs"
      rcases hd with rfl | rfl
      · refine FIx_lst e1 ?_
        refine dr_dl (dl_slice (dr_var rfl ⟨_, rfl, do_none (do_some (dr_var rfl ⟨_, rfl, ?_⟩))⟩))
        rw [cutD_take _ (by omega)]
        refine ⟨n, ns.take i, rfl, .inl (by rw [Int.toNat_natCast, numsD, List.map_take]), _, rfl, ?_⟩
        refine ite_dec (fun hm => ?_) (fun hm => ?_)
        · walk_at "zs"
          have : ¬ ns.Nodup := fun hn' => (ht.mp (List.Sublist.nodup (List.take_sublist _ _) hn')).2 hm
          rw [decide_eq_false this] at h
          exact h
        · walk_at "zs"
          exact ⟨ht.mpr ⟨hn, hm⟩, _, rfl⟩
      · refine FIx_tup e1 ?_
        refine dr_de (de_slice (dr_var rfl ⟨_, rfl, do_none (do_some (dr_var rfl ⟨_, rfl, ?_⟩))⟩))
        rw [cutD_take _ (by omega)]
        refine ⟨n, ns.take i, rfl, .inr (by rw [Int.toNat_natCast, numsD, List.map_take]), _, rfl, ?_⟩
        refine ite_dec (fun hm => ?_) (fun hm => ?_)
        · walk_at "zs"
          have : ¬ ns.Nodup := fun hn' => (ht.mp (List.Sublist.nodup (List.take_sublist _ _) hn')).2 hm
          rw [decide_eq_false this] at h
          exact h
        · walk_at "zs"
          exact ⟨ht.mpr ⟨hn, hm⟩, _, rfl⟩
    · rintro _ ⟨hn, s, rfl⟩
      walk_at "zs"
      have e : ns.take (numsD ns).length = ns := by rw [hl, List.take_of_length_le (Nat.le_refl _)]
      have e2 : ((numsD ns).length : Int).toNat = (numsD ns).length := Int.toNat_natCast _
      rw [e2, e] at hn
      rw [decide_eq_true hn] at h
      exact h
  · exact h.elim
abbrev st_InvalidLot_init : Stmt := (inClass (top 3) 0)
theorem sc_InvalidLot_init : SScope ["self", "reason"] ["self", "reason"] (defScope st_InvalidLot_init) := ⟨rfl, rfl, rfl, by decide +kernel, rfl, by decide +kernel, by decide +kernel, by decide +kernel, rfl, rfl⟩
theorem ok_InvalidLot_init {C_InvalidLot f cc cda : Addr} {kV doc pm ct oc ccl cl : Value} {an od cdd cld : Option Addr} {osl ccs csl : Array (Option Value)} {vs0 : Array Value} {file : Str} {tf : Tok} (E_InvalidLot : ErrC K C_InvalidLot)
    (lk : K.lookup f = some ⟨oc, od, .func (PySem.W.ksFn "__init__" "InvalidLot.__init__" (defArgs st_InvalidLot_init) (defBody st_InvalidLot_init) (defScope st_InvalidLot_init) .none kV doc pm an (.ref cda) ct cc), osl⟩) (hcd : PySem.W.codeIn K (.ref cda) "InvalidLot.__init__" = true)
    (hcode : K.lookup cda = some ⟨ccl, cdd, .fields vs0, ccs⟩) (hvs : vs0[2]? = some (.str file tf)) (hfile : ((P.main.file : Str) == file) = true) (hcell : K.lookup cc = some ⟨cl, cld, .cell (some (.ref C_InvalidLot)), csl⟩)
    (hmro : PySem.W.mroIn K C_InvalidLot (.type "ValueError") = some true) (hself : PySem.W.mroIn K C_InvalidLot (.ref C_InvalidLot) = some true) (hal : PySem.W.ks_superIn K C_InvalidLot C_InvalidLot "__init__" = some (some (.builtin "ValueError.__init__"))) (hany : PySem.W.nsIn K cStatics "thirdparty.any" = some none)
    (hsup : mg "super" = none) (htop : (P.main.scope.names.lookup ("super" : Str)).isSome = false) (hf0 : PySem.W.findIn K (.ref C_InvalidLot) "reason" = some none) :
    FnOk P w K mg base CX0 1 f (PySem.W.ksFn "__init__" "InvalidLot.__init__" (defArgs st_InvalidLot_init) (defBody st_InvalidLot_init) (defScope st_InvalidLot_init) .none kV doc pm an (.ref cda) ct cc) ["self", "reason"] (xSp C_InvalidLot ["reason"]) := by
  refine fn_S (N := ["self", "reason"]) lk hcd sc_InvalidLot_init hcode hvs hfile hcell E_InvalidLot.ox hmro hself hal hany hsup htop rfl (fun L => ⟨_, rfl⟩) rfl rfl (fun vs H Q E ⟨a, ys, e1, e2, _⟩ => by subst e1; simp [e2]) fun A outer s H vs Q E ⟨a, ys, e1, e2, hea, q⟩ => ?_
  subst e1
  match ys, e2 with
  | [y], _ => exact ⟨a, _, rfl, hea, pss_one (ps_ost (pv 0) (pv 1)), x1_read E_InvalidLot.ox hf0 hea q⟩
abbrev st_Lot_init : Stmt := (inClass (top 10) 0)
theorem sc_Lot_init : FnScope ["self", "members", "candidates", "price", "place"] ["self", "members", "candidates", "price"] (defScope st_Lot_init) := ⟨rfl, rfl, rfl, by decide +kernel, rfl, by decide +kernel, by decide +kernel⟩
theorem ok_Lot_init {C_InvalidLot C_Lot : Addr} {f : Addr} {fd : FuncData} (F : FunD K "__init__" "Lot.__init__" (defArgs st_Lot_init) (defBody st_Lot_init) (defScope st_Lot_init) [V.non, V.int 0] [] f fd) {f_all_different : Addr} {fd_all_different : FuncData} (C_all_different : Cal P w K mg base CX0 1 "all_different" ["places"] (spD K T Sall_different) f_all_different fd_all_different) {f_InvalidLot_init : Addr} {fd_InvalidLot_init : FuncData} (EX_InvalidLot : CalE P w K mg base 1 "InvalidLot" C_InvalidLot ["self", "reason"] ["reason"] f_InvalidLot_init fd_InvalidLot_init) (L_Lot : T C_Lot = (["members", "candidates", "price"] : List Str)) (cl_Lot : Cls K C_Lot) {t_g_MOST_PLACES : Tok} (g_MOST_PLACES : mg "MOST_PLACES" = some (.int 12 t_g_MOST_PLACES)) {t_g_MOST_PRICE : Tok} (g_MOST_PRICE : mg "MOST_PRICE" = some (.int 1000000000 t_g_MOST_PRICE)) (na_Lot_candidates : NoAttr K C_Lot "candidates") (na_Lot_members : NoAttr K C_Lot "members") (na_Lot_price : NoAttr K C_Lot "price") (nb_len : mg "len" = none) (nb_sorted : mg "sorted" = none) (nb_tuple : mg "tuple" = none) :
    FnOk P w K mg base (L2.CX P w) 3 f fd ["self", "members", "candidates", "price"] (spI K T C_Lot (SLot_init C_InvalidLot)) := by
  refine fn_IXD F sc_Lot_init (fun ds R X h => by unfold SLot_init at h; split at h <;> first | rfl | exact h.elim) (fun cdv A outer s H E hr => ⟨_, (pss_cons (ps_if (PW.pt (pw_or (pt_cmpR (show OpR _ (compareOp .Lt) (rLtZ K) from op_ltZ hr.units) (pe_callB (show CallR _ (.builtin "len") (rLenZ K) from call_lenZ) (by rfl) nb_len (by decide +kernel) (pa_cons (pv 1) pa_nil)) pe_int (nomark _)) (pw_or1 (pt_not (pt_truK K rfl (pe_call C_all_different.G (hr.mono (by first | decide | omega)) rfl C_all_different.mg C_all_different.kp C_all_different.b .nil pass0 (pa_cons (pv 1) pa_nil)) (by intro _; rfl)))))) (pss_one (ps_raiseW rfl (takes_of rfl rfl rfl rfl) (pmk_oex EX_InvalidLot.er.ox EX_InvalidLot.init EX_InvalidLot.ty EX_InvalidLot.G (hr.mono (by first | decide | omega)) EX_InvalidLot.b .nil pass0 rfl EX_InvalidLot.mg (pa_cons pe_str pa_nil)))) pss_nil) (pss_cons (ps_for (passes_of rfl) rfl (pi_seqK K rfl (pv 1)) (pg_name (i := 4) sc_Lot_init.nd rfl (Or.inl rfl)) (pss_one (ps_if (pt_not (pt_chain (show OpR _ (compareOp .LtE) (rLeZ K) from op_leZ hr.units) (show OpR _ (compareOp .Lt) (rLtZ K) from op_ltZ hr.units) pe_int (pv 4) (pe_glob (v := .int 12) rfl g_MOST_PLACES ⟨_, rfl⟩))) (pss_one (ps_raiseW rfl (takes_of rfl rfl rfl rfl) (pmk_oex EX_InvalidLot.er.ox EX_InvalidLot.init EX_InvalidLot.ty EX_InvalidLot.G (hr.mono (by first | decide | omega)) EX_InvalidLot.b .nil pass0 rfl EX_InvalidLot.mg (pa_cons pe_str pa_nil)))) pss_nil))) (pss_cons (ps_if (pt_cmp (pc_isN (pv 2)) rfl) (pss_one (ps_set (i := 2) sc_Lot_init.nd rfl (Or.inl rfl) (pv 1))) pss_nil) (pss_cons (ps_if (PW.pt (pw_or (pt_cmpR (show OpR _ (compareOp .Eq) (rEqP K) from op_eqP hr.units) (pe_callB (show CallR _ (.builtin "len") (rLenZ K) from call_lenZ) (by rfl) nb_len (by decide +kernel) (pa_cons (pv 2) pa_nil)) pe_int (nomark _)) (pw_or1 (pt_not (pt_truK K rfl (pe_call C_all_different.G (hr.mono (by first | decide | omega)) rfl C_all_different.mg C_all_different.kp C_all_different.b .nil pass0 (pa_cons (pv 2) pa_nil)) (by intro _; rfl)))))) (pss_one (ps_raiseW rfl (takes_of rfl rfl rfl rfl) (pmk_oex EX_InvalidLot.er.ox EX_InvalidLot.init EX_InvalidLot.ty EX_InvalidLot.G (hr.mono (by first | decide | omega)) EX_InvalidLot.b .nil pass0 rfl EX_InvalidLot.mg (pa_cons pe_str pa_nil)))) pss_nil) (pss_cons (ps_for (passes_of rfl) rfl (pi_seqK K rfl (pv 2)) (pg_name (i := 4) sc_Lot_init.nd rfl (Or.inl rfl)) (pss_one (ps_if (pt_cmpR (show OpR _ (compareOp .NotIn) (rInP true K) from op_niP hr.units) (pv 4) (pv 1) rfl) (pss_one (ps_raiseW rfl (takes_of rfl rfl rfl rfl) (pmk_oex EX_InvalidLot.er.ox EX_InvalidLot.init EX_InvalidLot.ty EX_InvalidLot.G (hr.mono (by first | decide | omega)) EX_InvalidLot.b .nil pass0 rfl EX_InvalidLot.mg (pa_cons pe_str pa_nil)))) pss_nil))) (pss_cons (ps_if (pt_not (pt_chain (show OpR _ (compareOp .LtE) (rLeZ K) from op_leZ hr.units) (show OpR _ (compareOp .LtE) (rLeZ K) from op_leZ hr.units) pe_int (pv 3) (pe_glob (v := .int 1000000000) rfl g_MOST_PRICE ⟨_, rfl⟩))) (pss_one (ps_raiseW rfl (takes_of rfl rfl rfl rfl) (pmk_oex EX_InvalidLot.er.ox EX_InvalidLot.init EX_InvalidLot.ty EX_InvalidLot.G (hr.mono (by first | decide | omega)) EX_InvalidLot.b .nil pass0 rfl EX_InvalidLot.mg (pa_cons pe_str pa_nil)))) pss_nil) (pss_cons (ps_fld (pv 0) (pe_callTy (show CallR _ (.type "tuple") (rTupZ K) from call_tupZ) (by rfl) nb_tuple (by decide +kernel) (pa_cons (pe_callB (show CallR _ (.builtin "sorted") (rSortedZ K) from cr_sortedZ) (by rfl) nb_sorted (by decide +kernel) (pa_cons (pv 1) pa_nil)) pa_nil)) rfl) (pss_cons (ps_fld (pv 0) (pe_callTy (show CallR _ (.type "tuple") (rTupZ K) from call_tupZ) (by rfl) nb_tuple (by decide +kernel) (pa_cons (pe_callB (show CallR _ (.builtin "sorted") (rSortedZ K) from cr_sortedZ) (by rfl) nb_sorted (by decide +kernel) (pa_cons (pv 2) pa_nil)) pa_nil)) rfl) (pss_one (ps_fld (pv 0) (pv 3) rfl)))))))))), fun p ds R X h hW => ?_⟩) 
  unfold SLot_init at h
  split at h
  · rename_i a b p0
    obtain ⟨ms, cs, ha, hb, m1, c1, h⟩ := h
    have hm := nums_len ms
    have hc := nums_len cs
    show DSn _ [.self C_Lot [], .val a, .val b, .val (.int p0), .no] _ _ _ _ _
    walk_at "z0"
    have rz : ∀ {ρ : List S} {N B C : List S → Prop} {Rt : D → List S → Prop} (y : Str), X C_InvalidLot [("reason", .str y)] → DS ⟨K, T, fun b => b = p, H⟩ ρ (tRaise (fun cls d _ H' => E cls d H') (tMkO C_InvalidLot (xSp C_InvalidLot ["reason"]) [] (tCons (tC (.str y)) tNil))) N Rt B C := fun y hx => ds_raiseO (hW _) (da_cons (de_str (da_nil ⟨rfl, by simp, hx⟩)))
    refine dsn_seqD (ds_mono (N' := fun ρ' => ρ' = [.self C_Lot [], .val a, .val b, .val (.int p0), .no] ∧ 2 ≤ ms.length ∧ ms.Nodup) ?_ ?_)
    · walk_at "zs"
      refine ⟨_, ha, ?_⟩
      walk_at "zs"
      · exact rz _ (end_m h (bool_no (fun z => (okM_iff.mp z).1) (by omega)))
      · refine ⟨ms, ha, m1, ?_⟩
        walk_at "zs"
        · exact rz _ (end_m h (bool_no (fun z => (okM_iff.mp z).2.1) (by assumption)))
        · exact ⟨rfl, by omega, by assumption⟩
    rintro _ ⟨rfl, m2, m3⟩
    refine dsn_seqD (ds_mono (N' := fun ρ' => (∃ s, notSelf s = true ∧ ρ' = [.self C_Lot [], .val a, .val b, .val (.int p0), s]) ∧ okM ms = true) ?_ ?_)
    · refine ds_for (de_var rfl ⟨numsD ms, ha, fun i ρ' => (∃ s, notSelf s = true ∧ ρ' = [.self C_Lot [], .val a, .val b, .val (.int p0), s]) ∧ ∀ x ∈ ms.take i, 0 ≤ x ∧ x < 12, ⟨⟨_, rfl, rfl⟩, by simp⟩, ?_, ?_⟩)
      · rintro i x _ hx ⟨⟨s, hs, rfl⟩, hq⟩
        obtain ⟨n, rfl, hn, hnm⟩ := nums_get hx
        refine dg_name ?_
        walk_at "zs"
        · exact rz _ (end_m h (bool_no (fun z => (okM_iff.mp z).2.2 n hnm) (by omega)))
        · refine ⟨⟨_, rfl, rfl⟩, fun y hy => ?_⟩
          rw [take_more' hn, List.mem_append] at hy
          rcases hy with hy | hy
          · exact hq y hy
          · cases List.mem_singleton.mp hy
            exact ⟨by omega, by omega⟩
        · exact rz _ (end_m h (bool_no (fun z => (okM_iff.mp z).2.2 n hnm) (by omega)))
      · rintro _ ⟨q, hq⟩
        rw [hm, List.take_of_length_le (Nat.le_refl _)] at hq
        exact ⟨q, okM_iff.mpr ⟨m2, m3, hq⟩⟩
    rintro _ ⟨⟨s, hs, rfl⟩, hM⟩
    refine dsn_seqD (ds_mono (N' := fun ρ' => ∃ b', isSeq b' cs ∧ ρ' = [.self C_Lot [], .val a, .val b', .val (.int p0), s]) ?_ ?_)
    · rcases hb with hb | ⟨rfl, rfl⟩
      · refine ds_if ?_
        refine dt_B (de_isN (de_var rfl ⟨false, by rcases hb with rfl | rfl <;> rfl, ?_⟩))
        walk_at "zs"
        exact ⟨b, hb, rfl⟩
      · refine ds_if ?_
        refine dt_B (de_isN (de_var rfl ⟨true, rfl, ?_⟩))
        walk_at "zs"
        exact ⟨a, ha, rfl⟩
    rintro _ ⟨b', hb', rfl⟩
    refine dsn_seqD (ds_mono (N' := fun ρ' => ρ' = [.self C_Lot [], .val a, .val b', .val (.int p0), s] ∧ 0 < cs.length ∧ cs.Nodup) ?_ ?_)
    · walk_at "zs"
      refine ⟨_, hb', ?_⟩
      walk_at "zs"
      · exact rz _ (end_c h hM (bool_no (fun z => (okC_iff.mp z).1) (by omega)))
      · refine ⟨cs, hb', c1, ?_⟩
        walk_at "zs"
        · exact rz _ (end_c h hM (bool_no (fun z => (okC_iff.mp z).2.1) (by assumption)))
        · exact ⟨rfl, by omega, by assumption⟩
    rintro _ ⟨rfl, c2, c3⟩
    refine dsn_seqD (ds_mono (N' := fun ρ' => (∃ s, notSelf s = true ∧ ρ' = [.self C_Lot [], .val a, .val b', .val (.int p0), s]) ∧ okC ms cs = true) ?_ ?_)
    · refine ds_for (de_var rfl ⟨numsD cs, hb', fun i ρ' => (∃ s, notSelf s = true ∧ ρ' = [.self C_Lot [], .val a, .val b', .val (.int p0), s]) ∧ ∀ x ∈ cs.take i, x ∈ ms, ⟨⟨_, hs, rfl⟩, by simp⟩, ?_, ?_⟩)
      · rintro i x _ hx ⟨⟨s, hs, rfl⟩, hq⟩
        obtain ⟨n, rfl, hn, hnm⟩ := nums_get hx
        refine dg_name ?_
        walk_at "zs"
        refine ⟨n, ms, rfl, ha, _, rfl, ?_⟩
        refine ite_ndec (fun h2 => ?_) (fun h2 => ?_)
        · exact rz _ (end_c h hM (bool_no (fun z => (okC_iff.mp z).2.2 n hnm) h2))
        · walk_at "zs"
          refine ⟨⟨_, rfl, rfl⟩, fun y hy => ?_⟩
          rw [take_more' hn, List.mem_append] at hy
          rcases hy with hy | hy
          · exact hq y hy
          · cases List.mem_singleton.mp hy
            exact h2
      · rintro _ ⟨q, hq⟩
        rw [hc, List.take_of_length_le (Nat.le_refl _)] at hq
        exact ⟨q, okC_iff.mpr ⟨c2, c3, hq⟩⟩
    rintro _ ⟨⟨s, hs, rfl⟩, hC⟩
    refine dsn_seqD (ds_mono (N' := fun ρ' => ρ' = [.self C_Lot [], .val a, .val b', .val (.int p0), s] ∧ okP p0 = true) ?_ ?_)
    · walk_at "zs"
      · exact rz _ (end_p h hM hC (bool_no (fun z => (okP_iff.mp z)) (by omega)))
      · exact ⟨rfl, okP_iff.mpr ⟨by omega, by omega⟩⟩
      · exact rz _ (end_p h hM hC (bool_no (fun z => (okP_iff.mp z)) (by omega)))
    rintro _ ⟨rfl, hP⟩
    obtain ⟨m2, m3, m4⟩ := okM_iff.mp hM
    obtain ⟨c2, c3, c4⟩ := okC_iff.mp hC
    have sm : ms.length ≤ 60 := RowOk.short ⟨m3, m4, m1⟩ (by decide)
    have sc : cs.length ≤ 60 := RowOk.short ⟨c3, fun x hx => m4 x (c4 x hx), c1⟩ (by decide)
    refine dsn_of ?_
    refine ds_seq (ds_fldS0 (ns := []) cl_Lot na_Lot_members L_Lot rfl (by decide +kernel) (by decide +kernel) (by simp) (all_c rfl (all_c rfl (all_c rfl (all_c hs rfl)))) (de_tuple (dr_dl (dl_sortedZ (dr_var rfl ⟨ms, ha, by omega, fun js pj sj => ⟨_, .inl rfl, ?_⟩⟩)))))
    have ej := srt_of pj sj
    subst ej
    refine ds_seq (ds_fldS0 (ns := ["members"]) cl_Lot na_Lot_candidates L_Lot rfl (by decide +kernel) (by decide +kernel) (by simp) (all_c rfl (all_c rfl (all_c rfl (all_c hs rfl)))) (de_tuple (dr_dl (dl_sortedZ (dr_var rfl ⟨cs, hb', by omega, fun js pj sj => ⟨_, .inl rfl, ?_⟩⟩)))))
    have ej := srt_of pj sj
    subst ej
    refine ds_fldS0 (ns := ["members", "candidates"]) cl_Lot na_Lot_price L_Lot rfl (by decide +kernel) (by decide +kernel) (by simp) (all_c rfl (all_c rfl (all_c rfl (all_c hs rfl)))) (de_var rfl ?_)
    exact ⟨_, _, rfl, by rw [L_Lot]; rfl, by rw [L_Lot]; exact List.cons_ne_nil _ _, end_ok h hM hC hP⟩
  · exact h.elim
abbrev st__law_up : Stmt := (top 24)
theorem sc__law_up : FnScope ["row", "one"] ["row"] (defScope st__law_up) := ⟨rfl, rfl, rfl, by decide +kernel, rfl, by decide +kernel, by decide +kernel⟩
theorem ok__law_up {f : Addr} {fd : FuncData} (F : Fun K "_law_up" "_law_up" st__law_up f fd) (nb_int : mg "int" = none) (nb_sorted : mg "sorted" = none) (nb_tuple : mg "tuple" = none) :
    FnOk P w K mg base CX0 1 f fd ["row"] (spD K T S_law_up) := by
  refine fn_D F sc__law_up (fun ds R X h => by unfold S_law_up at h; split at h <;> first | rfl | exact h.elim) (fun cdv A outer s H E hr => ⟨_, (pss_one (ps_ret (pe_callTy (show CallR _ (.type "tuple") (rTupZ K) from call_tupZ) (by rfl) nb_tuple (by decide +kernel) (pa_cons (pe_callB (show CallR _ (.builtin "sorted") (rSorted K) from cr_sorted) (by rfl) nb_sorted (by decide +kernel) (pa_cons (pe_lc (own := [("one", 1)]) (g := gName 1) (tt := tYes) rfl sc__law_up.nd (pi_seqK K rfl (pv 0)) (blkOk_by (own := [("one", 1)]) (N := ["row", "one"]) (sc := defScope st__law_up) (by decide +kernel)) (fun _ _ _ _ _ => (pg_name (i := 1) sc__law_up.nd rfl (Or.inl rfl))) (fun _ _ _ _ _ => pts_nil) (fun _ _ _ _ _ => (pe_callTy (show CallR _ (.type "int") (rIntZ) from call_intZ) (by rfl) nb_int (by decide +kernel) (pa_cons (pv 1) pa_nil)))) pa_nil)) pa_nil)))), fun ds R h => ?_⟩) (fun _ _ _ h => h)
  unfold S_law_up at h
  split at h
  · obtain ⟨ns, rfl, hz, h⟩ := h
    show DS _ [.val (.lst (numsD ns)), .no] _ _ _ _ _
    walk_at "z0"
    refine ds_ret (de_tuple (dr_dl (dl_sorted (dr_dl (dl_lcM ns D.int D.int (gok_name (by decide)) (de_var rfl ⟨.inl rfl, by omega, ?_, ns, rfl, by omega, fun js pj sj => ⟨_, .inl rfl, ?_⟩⟩))))))
    · intro x hx
      refine dg_name ?_
      walk_at "zs"
      rfl
    · have ej := srt_of pj sj
      subst ej
      exact h
  · exact h.elim
abbrev st__law_due : Stmt := (top 26)
theorem sc__law_due : FnScope ["row", "free"] ["row"] (defScope st__law_due) := ⟨rfl, rfl, rfl, by decide +kernel, rfl, by decide +kernel, by decide +kernel⟩
theorem ok__law_due {f : Addr} {fd : FuncData} (F : Fun K "_law_due" "_law_due" st__law_due f fd) {f__law_up : Addr} {fd__law_up : FuncData} (C__law_up : Cal P w K mg base CX0 1 "_law_up" ["row"] (spD K T S_law_up) f__law_up fd__law_up) (nb_len : mg "len" = none) :
    FnOk P w K mg base CX0 2 f fd ["row"] (spD K T S_law_due) := by
  refine fn_D F sc__law_due (fun ds R X h => by unfold S_law_due at h; split at h <;> first | rfl | exact h.elim) (fun cdv A outer s H E hr => ⟨_, (pss_cons (ps_set (i := 1) sc__law_due.nd rfl (Or.inl rfl) (pe_cmpR (show OpR _ (compareOp .Eq) (rEqP K) from op_eqP hr.units) (pe_callB (show CallR _ (.builtin "len") (rLenZ K) from call_lenZ) (by rfl) nb_len (by decide +kernel) (pa_cons (pe_ix (show IxR _ (rIx K) from ix_Z) (pv 0) pe_int (fun _ _ => rfl)) pa_nil)) (pe_callB (show CallR _ (.builtin "len") (rLenZ K) from call_lenZ) (by rfl) nb_len (by decide +kernel) (pa_cons (pe_ix (show IxR _ (rIx K) from ix_Z) (pv 0) pe_int (fun _ _ => rfl)) pa_nil)) (nomark _))) (pss_one (ps_ret (pe_tup (pa_cons pe_str (pa_cons (pe_call C__law_up.G (hr.mono (by first | decide | omega)) rfl C__law_up.mg C__law_up.kp C__law_up.b .nil pass0 (pa_cons (pe_ix (show IxR _ (rIx K) from ix_Z) (pv 0) pe_int (fun _ _ => rfl)) pa_nil)) (pa_cons (pe_call C__law_up.G (hr.mono (by first | decide | omega)) rfl C__law_up.mg C__law_up.kp C__law_up.b .nil pass0 (pa_cons (pe_ix (show IxR _ (rIx K) from ix_Z) (pv 0) pe_int (fun _ _ => rfl)) pa_nil)) (pa_cons (pe_ix (show IxR _ (rIx K) from ix_Z) (pv 0) pe_int (fun _ _ => rfl)) (pa_cons (pv 1) (pa_cons (pe_callB (show CallR _ (.builtin "len") (rLenZ K) from call_lenZ) (by rfl) nb_len (by decide +kernel) (pa_cons (pe_ix (show IxR _ (rIx K) from ix_Z) (pv 0) pe_int (fun _ _ => rfl)) pa_nil)) pa_nil)))))))))), fun ds R h => ?_⟩) (fun _ _ _ h => h)
  unfold S_law_due at h
  split at h
  · obtain ⟨⟨ms, cs, pr⟩, rfl, h1, h2, h⟩ := h
    simp only at h1 h2
    have hl := nums_len ms
    have hc := nums_len cs
    show DS _ [.val (.tup [.lst (numsD ms), .lst (numsD cs), .int pr]), .no] _ _ _ _ _
    walk_at "z0"
    walk_at "zs"
    refine FIx_tup (d := .lst (numsD ms)) rfl ?_
    walk_at "zs"
    refine FIx_tup (d := .lst (numsD cs)) rfl ?_
    walk_at "zs"
    refine FIx_tup (d := .lst (numsD ms)) rfl ?_
    walk_at "zs"
    refine ⟨ms, rfl, h1, ?_⟩
    walk_at "zs"
    refine FIx_tup (d := .lst (numsD cs)) rfl ?_
    walk_at "zs"
    refine ⟨cs, rfl, h2, ?_⟩
    walk_at "zs"
    refine FIx_tup (d := .int pr) rfl ?_
    walk_at "zs"
    refine FIx_tup (d := .lst (numsD ms)) rfl ?_
    walk_at "zs"
    have e : decide (((numsD ms).length : Int) = ((numsD cs).length : Int)) = freeL ⟨ms, cs, pr⟩ := by
      unfold freeL
      rw [hl, hc]
      exact decide_eq_decide.mpr ⟨fun q => by exact_mod_cast q, fun q => by exact_mod_cast q⟩
    rw [e, hl]
    exact h
  · exact h.elim
abbrev st__law_planned : Stmt := (top 29)
theorem sc__law_planned : FnScope ["row", "sign", "place", "later", "menu", "one"] ["row", "sign", "place"] (defScope st__law_planned) := ⟨rfl, rfl, rfl, by decide +kernel, rfl, by decide +kernel, by decide +kernel⟩
theorem ok__law_planned {f : Addr} {fd : FuncData} (F : Fun K "_law_planned" "_law_planned" st__law_planned f fd) {f__law_due : Addr} {fd__law_due : FuncData} (C__law_due : Cal P w K mg base CX0 2 "_law_due" ["row"] (spD K T S_law_due) f__law_due fd__law_due) (nb_len : mg "len" = none) :
    FnOk P w K mg base CX0 3 f fd ["row", "sign", "place"] (spD K T S_law_planned) := by
  refine fn_D F sc__law_planned (fun ds R X h => by unfold S_law_planned at h; split at h <;> first | rfl | exact h.elim) (fun cdv A outer s H E hr => ⟨_, (pss_cons (ps_if (PW.pt (pw_and (pt_cmpR (show OpR _ (compareOp .Eq) (rEqP K) from op_eqP hr.units) (pv 1) pe_int (nomark _)) (pw_and1 (PW.pt (pw_or (pt_cmpR (show OpR _ (compareOp .In) (rInP false K) from op_inP hr.units) (pv 2) (pe_ix (show IxR _ (rIx K) from ix_Z) (pv 0) pe_int (fun _ _ => rfl)) rfl) (pw_or (pt_cmpR (show OpR _ (compareOp .Lt) (rLtZ K) from op_ltZ hr.units) (pv 2) pe_int (nomark _)) (pw_or1 (pt_cmpR (show OpR _ (compareOp .Gt) (rGtZ K) from op_gtZ hr.units) (pv 2) pe_int (nomark _))))))))) (pss_one (ps_ret (pe_fz (pe_lst (pa_cons (pe_tup (pa_cons pe_str (pa_cons pe_str pa_nil))) (pa_cons (pv 0) pa_nil)))))) pss_nil) (pss_cons (ps_if (PW.pt (pw_and (pt_cmpR (show OpR _ (compareOp .Eq) (rEqP K) from op_eqP hr.units) (pv 1) pe_int (nomark _)) (pw_and1 (pt_cmpR (show OpR _ (compareOp .Eq) (rEqP K) from op_eqP hr.units) (pe_callB (show CallR _ (.builtin "len") (rLenZ K) from call_lenZ) (by rfl) nb_len (by decide +kernel) (pa_cons (pe_ix (show IxR _ (rIx K) from ix_Z) (pv 0) pe_int (fun _ _ => rfl)) pa_nil)) (pe_callB (show CallR _ (.builtin "len") (rLenZ K) from call_lenZ) (by rfl) nb_len (by decide +kernel) (pa_cons (pe_ix (show IxR _ (rIx K) from ix_Z) (pv 0) pe_int (fun _ _ => rfl)) pa_nil)) (nomark _))))) (pss_cons (ps_set (i := 3) sc__law_planned.nd rfl (Or.inl rfl) (pe_tup (pa_cons (pe_fz (pe_op (show OpR _ (binaryOp .Add) (rAddZ K) from op_addZ) (pe_ix (show IxR _ (rIx K) from ix_Z) (pv 0) pe_int (fun _ _ => rfl)) (pe_lst (pa_cons (pv 2) pa_nil)))) (pa_cons (pe_fz (pe_op (show OpR _ (binaryOp .Add) (rAddZ K) from op_addZ) (pe_ix (show IxR _ (rIx K) from ix_Z) (pv 0) pe_int (fun _ _ => rfl)) (pe_lst (pa_cons (pv 2) pa_nil)))) (pa_cons (pe_ix (show IxR _ (rIx K) from ix_Z) (pv 0) pe_int (fun _ _ => rfl)) pa_nil))))) (pss_one (ps_ret (pe_fz (pe_lst (pa_cons (pe_call C__law_due.G (hr.mono (by first | decide | omega)) rfl C__law_due.mg C__law_due.kp C__law_due.b .nil pass0 (pa_cons (pv 3) pa_nil)) (pa_cons (pv 3) pa_nil))))))) pss_nil) (pss_cons (ps_if (pt_cmpR (show OpR _ (compareOp .Eq) (rEqP K) from op_eqP hr.units) (pv 1) pe_int (nomark _)) (pss_cons (ps_set (i := 3) sc__law_planned.nd rfl (Or.inl rfl) (pe_tup (pa_cons (pe_fz (pe_op (show OpR _ (binaryOp .Add) (rAddZ K) from op_addZ) (pe_ix (show IxR _ (rIx K) from ix_Z) (pv 0) pe_int (fun _ _ => rfl)) (pe_lst (pa_cons (pv 2) pa_nil)))) (pa_cons (pe_ix (show IxR _ (rIx K) from ix_Z) (pv 0) pe_int (fun _ _ => rfl)) (pa_cons (pe_ix (show IxR _ (rIx K) from ix_Z) (pv 0) pe_int (fun _ _ => rfl)) pa_nil))))) (pss_one (ps_ret (pe_fz (pe_lst (pa_cons (pe_call C__law_due.G (hr.mono (by first | decide | omega)) rfl C__law_due.mg C__law_due.kp C__law_due.b .nil pass0 (pa_cons (pv 3) pa_nil)) (pa_cons (pv 3) pa_nil))))))) pss_nil) (pss_cons (ps_if (PW.pt (pw_or (pt_cmpR (show OpR _ (compareOp .NotIn) (rInP true K) from op_niP hr.units) (pv 2) (pe_ix (show IxR _ (rIx K) from ix_Z) (pv 0) pe_int (fun _ _ => rfl)) rfl) (pw_or1 (pt_cmpR (show OpR _ (compareOp .Eq) (rEqP K) from op_eqP hr.units) (pe_callB (show CallR _ (.builtin "len") (rLenZ K) from call_lenZ) (by rfl) nb_len (by decide +kernel) (pa_cons (pe_ix (show IxR _ (rIx K) from ix_Z) (pv 0) pe_int (fun _ _ => rfl)) pa_nil)) pe_int (nomark _))))) (pss_one (ps_ret (pe_fz (pe_lst (pa_cons (pe_tup (pa_cons pe_str (pa_cons pe_str pa_nil))) (pa_cons (pv 0) pa_nil)))))) pss_nil) (pss_cons (ps_setLc (i := 4) (own := [("one", 5)]) (g := gName 5) (by rfl) sc__law_planned.nd rfl rfl (sw_true rfl rfl rfl (by decide +kernel)) (pi_seqK K rfl (pe_ix (show IxR _ (rIx K) from ix_Z) (pv 0) pe_int (fun _ _ => rfl))) (blkOk_by (own := [("one", 5)]) (N := ["row", "sign", "place", "later", "menu", "one"]) (sc := defScope st__law_planned) (by decide +kernel)) (fun _ _ _ _ _ => (pg_name (i := 5) sc__law_planned.nd rfl (Or.inl rfl))) (fun _ _ _ _ _ => pts_one (pt_cmpR (show OpR _ (compareOp .NotEq) (rNeP K) from op_neP hr.units) (pv 5) (pv 2) (nomark _))) (fun _ _ _ _ _ => (pv 5))) (pss_fzs (i := 4) (pss_cons (ps_if (pt_cmpR (show OpR _ (compareOp .Eq) (rEqP K) from op_eqP hr.units) (pe_callB (show CallR _ (.builtin "len") (rLenZ K) from call_lenZ) (by rfl) nb_len (by decide +kernel) (pa_cons (pv 4) pa_nil)) pe_int (nomark _)) (pss_one (ps_ret (pe_fz (pe_lst (pa_cons (pe_tup (pa_cons pe_str (pa_cons pe_str pa_nil))) (pa_cons (pv 0) pa_nil)))))) pss_nil) (pss_cons (ps_set (i := 3) sc__law_planned.nd rfl (Or.inl rfl) (pe_tup (pa_cons (pe_fz (pe_lc (own := [("one", 5)]) (g := gName 5) rfl sc__law_planned.nd (pi_seqK K rfl (pe_ix (show IxR _ (rIx K) from ix_Z) (pv 0) pe_int (fun _ _ => rfl))) (blkOk_by (own := [("one", 5)]) (N := ["row", "sign", "place", "later", "menu", "one"]) (sc := defScope st__law_planned) (by decide +kernel)) (fun _ _ _ _ _ => (pg_name (i := 5) sc__law_planned.nd rfl (Or.inl rfl))) (fun _ _ _ _ _ => pts_one (pt_cmpR (show OpR _ (compareOp .NotEq) (rNeP K) from op_neP hr.units) (pv 5) (pv 2) (nomark _))) (fun _ _ _ _ _ => (pv 5)))) (pa_cons (pv 4) (pa_cons (pe_ix (show IxR _ (rIx K) from ix_Z) (pv 0) pe_int (fun _ _ => rfl)) pa_nil))))) (pss_one (ps_ret (pe_fz (pe_lst (pa_cons (pe_call C__law_due.G (hr.mono (by first | decide | omega)) rfl C__law_due.mg C__law_due.kp C__law_due.b .nil pass0 (pa_cons (pv 3) pa_nil)) (pa_cons (pv 3) pa_nil)))))))))))))), fun ds R h => ?_⟩) (fun _ _ _ h => h)
  unfold S_law_planned at h
  split at h
  · rename_i a s0 p0
    obtain ⟨⟨ms, cs, pr⟩, rfl, ho, h⟩ := h
    have hsm : ms.length ≤ 12 := row_le ho.1
    have hcm : cs.length ≤ 12 := by
      have := List.Nodup.length_le_of_subset ho.2.2.1.1 ho.2.2.1.2.1
      simp only at this
      omega
    have hl := nums_len ms
    have hc := nums_len cs
    have hfr : ∀ l' : LotT, planL ⟨ms, cs, pr⟩ s0 p0 = .inr l' → R (.lst [fieldsD l', rowD l']) := fun l' e => by
      rw [e] at h
      exact h
    have hno : ∀ y : Str, planL ⟨ms, cs, pr⟩ s0 p0 = .inl y → R (.lst [.tup [.str "refused", .str y], rowD ⟨ms, cs, pr⟩]) := fun y e => by
      rw [e] at h
      exact h
    show DS _ [.val (.tup [.lst (numsD ms), .lst (numsD cs), .int pr]), .val (.int s0), .val (.int p0), .no, .no, .no] _ _ _ _ _
    walk_at "z0"
    refine ds_seq (ds_mono (N' := fun ρ' => ρ' = [.val (.tup [.lst (numsD ms), .lst (numsD cs), .int pr]), .val (.int s0), .val (.int p0), .no, .no, .no] ∧ (s0 = 0 → ¬ (p0 ∈ ms ∨ p0 < 0 ∨ 11 < p0))) ?_ ?_)
    · walk_at "zs"
      · refine FIx_tup (d := .lst (numsD ms)) rfl ?_
        refine ⟨p0, ms, rfl, .inl rfl, _, rfl, ?_⟩
        walk_at "zs"
        · rename_i e hm
          exact hno _ (by unfold planL; rw [if_pos e, if_pos (.inl hm)])
        · rename_i e _ hm
          exact hno _ (by unfold planL; rw [if_pos e, if_pos (.inr (.inl hm))])
        · rename_i e _ _ hm
          exact hno _ (by unfold planL; rw [if_pos e, if_pos (.inr (.inr (by omega)))])
        · rename_i e h1 h2 h3
          exact ⟨rfl, fun _ z => z.elim h1 fun z => by omega⟩
      · rename_i e
        exact ⟨rfl, fun z => absurd z e⟩
    rintro _ ⟨rfl, h0⟩
    refine ds_seq (ds_mono (N' := fun ρ' => ρ' = [.val (.tup [.lst (numsD ms), .lst (numsD cs), .int pr]), .val (.int s0), .val (.int p0), .no, .no, .no] ∧ (s0 = 0 → ms.length ≠ cs.length)) ?_ ?_)
    · walk_at "zs"
      · refine FIx_tup (d := .lst (numsD cs)) rfl ?_
        walk_at "zs"
        refine FIx_tup (d := .lst (numsD ms)) rfl ?_
        walk_at "zs"
        · rename_i e he
          have he2 : ms.length = cs.length := by omega
          refine fz_dl (dl_add ?_)
          walk_at "zs"
          refine FIx_tup (d := .lst (numsD ms)) rfl ?_
          walk_at "zs"
          refine ⟨_, _, rfl, rfl, by simp; omega, ?_⟩
          walk_at "zs"
          refine fz_dl (dl_add ?_)
          walk_at "zs"
          refine FIx_tup (d := .lst (numsD cs)) rfl ?_
          walk_at "zs"
          refine ⟨_, _, rfl, rfl, by simp; omega, ?_⟩
          walk_at "zs"
          refine FIx_tup (d := .int pr) rfl ?_
          walk_at "zs"
          rw [nums_app, nums_app]
          refine ⟨⟨ms ++ [p0], cs ++ [p0], pr⟩, rfl, by simp; omega, by simp; omega, ?_⟩
          walk_at "zs"
          refine hfr ⟨ms ++ [p0], cs ++ [p0], pr⟩ ?_
          unfold planL freeL
          rw [if_pos e, if_neg (h0 e), if_pos (decide_eq_true he2)]
        · rename_i e he
          exact ⟨rfl, fun _ => by omega⟩
      · rename_i e
        exact ⟨rfl, fun z => absurd z e⟩
    rintro _ ⟨rfl, h1⟩
    refine ds_seq (ds_mono (N' := fun ρ' => ρ' = [.val (.tup [.lst (numsD ms), .lst (numsD cs), .int pr]), .val (.int s0), .val (.int p0), .no, .no, .no] ∧ s0 ≠ 0) ?_ ?_)
    · walk_at "zs"
      · rename_i e
        refine fz_dl (dl_add ?_)
        walk_at "zs"
        refine FIx_tup (d := .lst (numsD ms)) rfl ?_
        walk_at "zs"
        refine ⟨_, _, rfl, rfl, by simp; omega, ?_⟩
        walk_at "zs"
        refine FIx_tup (d := .lst (numsD cs)) rfl ?_
        walk_at "zs"
        refine FIx_tup (d := .int pr) rfl ?_
        walk_at "zs"
        rw [nums_app]
        refine ⟨⟨ms ++ [p0], cs, pr⟩, rfl, by simp; omega, by show cs.length ≤ 60; omega, ?_⟩
        walk_at "zs"
        refine hfr ⟨ms ++ [p0], cs, pr⟩ ?_
        unfold planL freeL
        rw [if_pos e, if_neg (h0 e), if_neg (by simp [h1 e])]
      · rename_i e
        exact ⟨rfl, e⟩
    rintro _ ⟨rfl, e0⟩
    refine ds_seq (ds_mono (N' := fun ρ' => ρ' = [.val (.tup [.lst (numsD ms), .lst (numsD cs), .int pr]), .val (.int s0), .val (.int p0), .no, .no, .no] ∧ ¬ (p0 ∉ ms ∨ ms.length = 2)) ?_ ?_)
    · walk_at "zs"
      refine FIx_tup (d := .lst (numsD ms)) rfl ?_
      refine ⟨p0, ms, rfl, .inl rfl, _, rfl, ?_⟩
      walk_at "zs"
      · rename_i hm
        exact hno _ (by unfold planL; rw [if_neg e0, if_pos (.inl hm)])
      · refine FIx_tup (d := .lst (numsD ms)) rfl ?_
        walk_at "zs"
        · rename_i hm he
          exact hno _ (by unfold planL; rw [if_neg e0, if_pos (.inr (by show ms.length = 2; omega))])
        · rename_i hm he
          exact ⟨rfl, fun z => z.elim (fun z => z hm) fun z => by omega⟩
    rintro _ ⟨rfl, h2⟩
    refine ds_seq (ds_asgL (dl_lcF cs D.int D.int (fun x => !decide (x = p0)) (gok_name (by decide)) (de_ix (dr_var rfl (dr_de (de_int (FIx_tup (d := .lst (numsD cs)) rfl ⟨.inl rfl, by omega, ?_, ?_⟩)))))))
    · intro y hy
      refine dg_name ?_
      walk_at "zs"
      refine ⟨rfl, fun _ => ?_⟩
      walk_at "zs"
      rfl
    refine ds_fzs rfl ?_
    have hfl : (cs.filter fun x => !decide (x = p0)).length ≤ 60 := Nat.le_trans (List.length_filter_le _ _) (by omega)
    have hgl : (ms.filter fun x => !decide (x = p0)).length ≤ 60 := Nat.le_trans (List.length_filter_le _ _) (by omega)
    have hnl := nums_len (cs.filter fun x => !decide (x = p0))
    show DS _ [.val (.tup [.lst (numsD ms), .lst (numsD cs), .int pr]), .val (.int s0), .val (.int p0), .no, .val (.lst (numsD (cs.filter fun x => !decide (x = p0)))), .no] _ _ _ _ _
    refine ds_seq (ds_mono (N' := fun ρ' => ρ' = [.val (.tup [.lst (numsD ms), .lst (numsD cs), .int pr]), .val (.int s0), .val (.int p0), .no, .val (.lst (numsD (cs.filter fun x => !decide (x = p0)))), .no] ∧ (cs.filter fun x => !decide (x = p0)) ≠ []) ?_ ?_)
    · walk_at "zs"
      · rename_i e
        have e2 : (cs.filter fun x => !decide (x = p0)) = [] := List.length_eq_zero_iff.mp (by omega)
        exact hno _ (by unfold planL; rw [if_neg e0, if_neg h2, if_pos e2])
      · rename_i e
        exact ⟨rfl, fun z => e (by rw [z]; rfl)⟩
    rintro _ ⟨rfl, h3⟩
    refine ds_seq (ds_asg (de_tup (da_cons (fz_dl (dl_lcF ms D.int D.int (fun x => !decide (x = p0)) (gok_name (by decide)) (de_ix (dr_var rfl (dr_de (de_int (FIx_tup (d := .lst (numsD ms)) rfl ⟨.inl rfl, by omega, ?_, ?_⟩))))))))))
    · intro y hy
      refine dg_name ?_
      walk_at "zs"
      refine ⟨rfl, fun _ => ?_⟩
      walk_at "zs"
      rfl
    walk_at "zs"
    refine FIx_tup (d := .int pr) rfl ?_
    walk_at "zs"
    refine ⟨⟨ms.filter fun x => !decide (x = p0), cs.filter fun x => !decide (x = p0), pr⟩, rfl, hgl, hfl, ?_⟩
    walk_at "zs"
    refine hfr ⟨ms.filter fun x => !decide (x = p0), cs.filter fun x => !decide (x = p0), pr⟩ ?_
    unfold planL
    rw [if_neg e0, if_neg h2, if_neg h3]
  · exact h.elim
abbrev st__law_number : Stmt := (top 15)
theorem sc__law_number : FnScope ["actual"] ["actual"] (defScope st__law_number) := ⟨rfl, rfl, rfl, by decide +kernel, rfl, by decide +kernel, by decide +kernel⟩
theorem ok__law_number {f : Addr} {fd : FuncData} (F : Fun K "_law_number" "_law_number" st__law_number f fd) (nb_bool : mg "bool" = none) (nb_int : mg "int" = none) (nb_isinstance : mg "isinstance" = none) :
    FnOk P w K mg base CX0 1 f fd ["actual"] (spD K T S_law_number) := by
  refine fn_D F sc__law_number (fun ds R X h => by unfold S_law_number at h; split at h <;> first | rfl | exact h.elim) (fun cdv A outer s H E hr => ⟨_, (pss_one (ps_ret (pe_and (pe_callB (show CallR _ (.builtin "isinstance") (rIsi K) from call_isi) (by rfl) nb_isinstance (by decide +kernel) (pa_cons (pv 0) (pa_cons (pe_bltn (v := .ty "int") (by rfl) nb_int (by decide +kernel) rfl) pa_nil))) (pe_one (pe_not (pe_callB (show CallR _ (.builtin "isinstance") (rIsi K) from call_isi) (by rfl) nb_isinstance (by decide +kernel) (pa_cons (pv 0) (pa_cons (pe_bltn (v := .ty "bool") (by rfl) nb_bool (by decide +kernel) rfl) pa_nil)))))))), fun ds R h => ?_⟩) (fun _ _ _ h => h)
  unfold S_law_number at h
  split at h
  · rename_i d
    obtain ⟨hm, h⟩ := h
    show DS _ [.val d] _ _ _ _ _
    walk_at "z0"
    refine ds_ret (de_andV (de_isi (dr_var rfl ?_)))
    cases d with
    | non => exact ⟨_, false, rfl, kit_ty (by decide +kernel), false, rfl, h⟩
    | bl b => exact ⟨_, true, rfl, kit_ty (by decide +kernel), true, rfl, de_notV (de_isi (dr_var rfl ⟨_, true, rfl, kit_ty (by decide +kernel), true, rfl, h⟩))⟩
    | int i => exact ⟨_, true, rfl, kit_ty (by decide +kernel), true, rfl, de_notV (de_isi (dr_var rfl ⟨_, false, rfl, kit_ty (by decide +kernel), false, rfl, h⟩))⟩
    | str x => exact ⟨_, false, rfl, kit_ty (by decide +kernel), false, rfl, h⟩
    | tup ds => exact ⟨_, false, rfl, kit_ty (by decide +kernel), false, rfl, h⟩
    | lst ds => exact ⟨_, false, rfl, kit_ty (by decide +kernel), false, rfl, h⟩
    | obj C ds => cases hm
    | src => cases hm
    | scr ns => cases hm
  · exact h.elim
abbrev st__law_same : Stmt := (top 16)
theorem sc__law_same : FnScope ["actual", "expected", "k"] ["actual", "expected"] (defScope st__law_same) := ⟨rfl, rfl, rfl, by decide +kernel, rfl, by decide +kernel, by decide +kernel⟩
theorem rec__law_same {f : Addr} {fd : FuncData} (F : Fun K "_law_same" "_law_same" st__law_same f fd) {f__law_number : Addr} {fd__law_number : FuncData} (C__law_number : Cal P w K mg base CX0 1 "_law_number" ["actual"] (spD K T S_law_number) f__law_number fd__law_number) (sg : mg "_law_same" = some (.ref f)) (sk : PySem.W.keepIn K (.ref f) = true) (sb : Binds K fd ["actual", "expected"] []) (nb_bool : mg "bool" = none) (nb_int : mg "int" = none) (nb_isinstance : mg "isinstance" = none) (nb_len : mg "len" = none) (nb_list : mg "list" = none) (nb_range : mg "range" = none) (nb_str : mg "str" = none) (nb_tuple : mg "tuple" = none) :
    ∀ n : Nat, FnOk P w K mg base CX0 (n + 2) f fd ["actual", "expected"] (spD K T (S_law_same n))
  | 0 => fn_none (fun vs H Q E ⟨ds, R, X, _, h, _⟩ => h)
  | n + 1 => by
    have C__law_same : Cal P w K mg base CX0 (n + 2) "_law_same" ["actual", "expected"] (spD K T (S_law_same n)) f fd := ⟨rec__law_same F C__law_number sg sk sb nb_bool nb_int nb_isinstance nb_len nb_list nb_range nb_str nb_tuple n, sg, sk, sb⟩
    refine fn_D F sc__law_same (fun ds R X h => by unfold S_law_same at h; split at h <;> first | rfl | exact h.elim) (fun cdv A outer s H E hr => ⟨_, (pss_cons (ps_if (pt_truK K rfl (pe_callB (show CallR _ (.builtin "isinstance") (rIsi K) from call_isi) (by rfl) nb_isinstance (by decide +kernel) (pa_cons (pv 1) (pa_cons (pe_bltn (v := .ty "bool") (by rfl) nb_bool (by decide +kernel) rfl) pa_nil))) (by intro _; rfl)) (pss_one (ps_ret (pe_and (pe_callB (show CallR _ (.builtin "isinstance") (rIsi K) from call_isi) (by rfl) nb_isinstance (by decide +kernel) (pa_cons (pv 0) (pa_cons (pe_bltn (v := .ty "bool") (by rfl) nb_bool (by decide +kernel) rfl) pa_nil))) (pe_one (pe_cmpR (show OpR _ (compareOp .Eq) (rEqP K) from op_eqP hr.units) (pv 0) (pv 1) (nomark _)))))) pss_nil) (pss_cons (ps_if (pt_truK K rfl (pe_callB (show CallR _ (.builtin "isinstance") (rIsi K) from call_isi) (by rfl) nb_isinstance (by decide +kernel) (pa_cons (pv 1) (pa_cons (pe_bltn (v := .ty "int") (by rfl) nb_int (by decide +kernel) rfl) pa_nil))) (by intro _; rfl)) (pss_one (ps_ret (pe_and (pe_call C__law_number.G (hr.mono (by first | decide | omega)) rfl C__law_number.mg C__law_number.kp C__law_number.b .nil pass0 (pa_cons (pv 0) pa_nil)) (pe_one (pe_cmpR (show OpR _ (compareOp .Eq) (rEqP K) from op_eqP hr.units) (pv 0) (pv 1) (nomark _)))))) pss_nil) (pss_cons (ps_if (pt_truK K rfl (pe_callB (show CallR _ (.builtin "isinstance") (rIsi K) from call_isi) (by rfl) nb_isinstance (by decide +kernel) (pa_cons (pv 1) (pa_cons (pe_bltn (v := .ty "str") (by rfl) nb_str (by decide +kernel) rfl) pa_nil))) (by intro _; rfl)) (pss_one (ps_ret (pe_and (pe_callB (show CallR _ (.builtin "isinstance") (rIsi K) from call_isi) (by rfl) nb_isinstance (by decide +kernel) (pa_cons (pv 0) (pa_cons (pe_bltn (v := .ty "str") (by rfl) nb_str (by decide +kernel) rfl) pa_nil))) (pe_one (pe_cmpR (show OpR _ (compareOp .Eq) (rEqP K) from op_eqP hr.units) (pv 0) (pv 1) (nomark _)))))) pss_nil) (pss_cons (ps_if (pt_cmp (pc_isN (pv 1)) rfl) (pss_one (ps_ret (pe_cmp (pc_isN (pv 0)) rfl))) pss_nil) (pss_cons (ps_if (PW.pt (pw_and (pt_truK K rfl (pe_callB (show CallR _ (.builtin "isinstance") (rIsi K) from call_isi) (by rfl) nb_isinstance (by decide +kernel) (pa_cons (pv 1) (pa_cons (pe_bltn (v := .ty "tuple") (by rfl) nb_tuple (by decide +kernel) rfl) pa_nil))) (by intro _; rfl)) (pw_and1 (pt_not (pt_truK K rfl (pe_callB (show CallR _ (.builtin "isinstance") (rIsi K) from call_isi) (by rfl) nb_isinstance (by decide +kernel) (pa_cons (pv 0) (pa_cons (pe_bltn (v := .ty "tuple") (by rfl) nb_tuple (by decide +kernel) rfl) pa_nil))) (by intro _; rfl)))))) (pss_one (ps_ret pe_bl)) pss_nil) (pss_cons (ps_if (PW.pt (pw_and (pt_truK K rfl (pe_callB (show CallR _ (.builtin "isinstance") (rIsi K) from call_isi) (by rfl) nb_isinstance (by decide +kernel) (pa_cons (pv 1) (pa_cons (pe_bltn (v := .ty "list") (by rfl) nb_list (by decide +kernel) rfl) pa_nil))) (by intro _; rfl)) (pw_and1 (pt_not (pt_truK K rfl (pe_callB (show CallR _ (.builtin "isinstance") (rIsi K) from call_isi) (by rfl) nb_isinstance (by decide +kernel) (pa_cons (pv 0) (pa_cons (pe_bltn (v := .ty "list") (by rfl) nb_list (by decide +kernel) rfl) pa_nil))) (by intro _; rfl)))))) (pss_one (ps_ret pe_bl)) pss_nil) (pss_cons (ps_if (pt_cmpR (show OpR _ (compareOp .NotEq) (rNeP K) from op_neP hr.units) (pe_callB (show CallR _ (.builtin "len") (rLenZ K) from call_lenZ) (by rfl) nb_len (by decide +kernel) (pa_cons (pv 0) pa_nil)) (pe_callB (show CallR _ (.builtin "len") (rLenZ K) from call_lenZ) (by rfl) nb_len (by decide +kernel) (pa_cons (pv 1) pa_nil)) (nomark _)) (pss_one (ps_ret pe_bl)) pss_nil) (pss_cons (ps_for PassesOwn.never rfl (pi_range1 (by rfl) nb_range (pa_cons (pe_callB (show CallR _ (.builtin "len") (rLenZ K) from call_lenZ) (by rfl) nb_len (by decide +kernel) (pa_cons (pv 1) pa_nil)) pa_nil)) (pg_name (i := 2) sc__law_same.nd rfl (Or.inl rfl)) (pss_one (ps_if (pt_not (pt_truK K rfl (pe_call C__law_same.G (hr.mono (by first | decide | omega)) rfl C__law_same.mg C__law_same.kp C__law_same.b .nil pass0 (pa_cons (pe_ix (show IxR _ (rIx K) from ix_Z) (pv 0) (pv 2) (fun _ _ => rfl)) (pa_cons (pe_ix (show IxR _ (rIx K) from ix_Z) (pv 1) (pv 2) (fun _ _ => rfl)) pa_nil))) (by intro _; rfl))) (pss_one (ps_ret pe_bl)) pss_nil))) (pss_one (ps_ret pe_bl)))))))))), fun ds R h => ?_⟩) (fun _ _ _ h => h)
    unfold S_law_same at h
    split at h
    · rename_i m a b e
      cases e
      obtain ⟨rfl, hp, h⟩ := h
      show DS _ [.val a, .val a, .no] _ _ _ _ _
      walk_at "z0"
      cases a with
      | non =>
        walk_at "zs"
        exact h
      | bl x =>
        walk_at "zs"
        rw [decide_eq_true rfl]
        exact h
      | int x =>
        walk_at "zs"
        refine ⟨rfl, ?_⟩
        refine ⟨true, rfl, iteT ?_⟩
        walk_at "zs"
        rw [decide_eq_true rfl]
        exact h
      | str x =>
        walk_at "zs"
        rw [decide_eq_true rfl]
        exact h
      | tup ds =>
        obtain ⟨n, rfl⟩ : ∃ m, n = m + 1 := by
          cases n with
          | zero => cases hp
          | succ n => exact ⟨n, rfl⟩
        obtain ⟨hz, hp⟩ := ok_tup hp
        walk_at "zs"
        refine ds_forR (de_len (dr_var rfl ⟨ds, .inr rfl, _, rfl, by omega, by omega, fun _ ρ' => ∃ s, ρ' = [.val (.tup ds), .val (.tup ds), s], ⟨_, rfl⟩, ?_, ?_⟩))
        · rintro i _ hi ⟨s, rfl⟩
          obtain ⟨d, e1, e2⟩ := at_in (ds := ds) (i := (i : Int)) (by omega) hi
          walk_at "zs"
          refine FIx_tup e1 ?_
          walk_at "zs"
          refine FIx_tup e1 ?_
          walk_at "zs"
          refine ⟨rfl, oks_get hp (by simpa using e2), ?_⟩
          walk_at "zs"
          exact ⟨_, rfl⟩
        · rintro _ ⟨s, rfl⟩
          walk_at "zs"
          exact h
      | lst ds =>
        obtain ⟨n, rfl⟩ : ∃ m, n = m + 1 := by
          cases n with
          | zero => cases hp
          | succ n => exact ⟨n, rfl⟩
        obtain ⟨hz, hp⟩ := ok_lst hp
        walk_at "zs"
        refine ds_forR (de_len (dr_var rfl ⟨ds, .inl rfl, _, rfl, by omega, by omega, fun _ ρ' => ∃ s, ρ' = [.val (.lst ds), .val (.lst ds), s], ⟨_, rfl⟩, ?_, ?_⟩))
        · rintro i _ hi ⟨s, rfl⟩
          obtain ⟨d, e1, e2⟩ := at_in (ds := ds) (i := (i : Int)) (by omega) hi
          walk_at "zs"
          refine FIx_lst e1 ?_
          walk_at "zs"
          refine FIx_lst e1 ?_
          walk_at "zs"
          refine ⟨rfl, oks_get hp (by simpa using e2), ?_⟩
          walk_at "zs"
          exact ⟨_, rfl⟩
        · rintro _ ⟨s, rfl⟩
          walk_at "zs"
          exact h
      | obj C ds => cases n <;> cases hp
      | src => cases n <;> cases hp
      | scr ns => cases n <;> cases hp
    · exact h.elim
theorem ok__law_same {f : Addr} {fd : FuncData} (F : Fun K "_law_same" "_law_same" st__law_same f fd) {f__law_number : Addr} {fd__law_number : FuncData} (C__law_number : Cal P w K mg base CX0 1 "_law_number" ["actual"] (spD K T S_law_number) f__law_number fd__law_number) (sg : mg "_law_same" = some (.ref f)) (sk : PySem.W.keepIn K (.ref f) = true) (sb : Binds K fd ["actual", "expected"] []) (nb_bool : mg "bool" = none) (nb_int : mg "int" = none) (nb_isinstance : mg "isinstance" = none) (nb_len : mg "len" = none) (nb_list : mg "list" = none) (nb_range : mg "range" = none) (nb_str : mg "str" = none) (nb_tuple : mg "tuple" = none) :
    FnOk P w K mg base CX0 10 f fd ["actual", "expected"] (spD K T (S_law_same 8)) := by
  exact rec__law_same F C__law_number sg sk sb nb_bool nb_int nb_isinstance nb_len nb_list nb_range nb_str nb_tuple 8
abbrev st_Lot_is_free : Stmt := (inClass (top 10) 2)
theorem sc_Lot_is_free : FnScope ["self"] ["self"] (defScope st_Lot_is_free) := ⟨rfl, rfl, rfl, by decide +kernel, rfl, by decide +kernel, by decide +kernel⟩
theorem ok_Lot_is_free {C_Lot : Addr} {f : Addr} {fd : FuncData} (F : Fun K "is_free" "Lot.is_free" st_Lot_is_free f fd) (F_Lot_candidates : Fld K T C_Lot "candidates" 1) (F_Lot_members : Fld K T C_Lot "members" 0) (nb_bool : mg "bool" = none) :
    FnOk P w K mg base CX0 1 f fd ["self"] (spD K T (SLot_is_free C_Lot)) := by
  refine fn_D F sc_Lot_is_free (fun ds R X h => by unfold SLot_is_free at h; split at h <;> first | rfl | exact h.elim) (fun cdv A outer s H E hr => ⟨_, (pss_one (ps_ret (pe_callTy (show CallR _ (.type "bool") (rBoolZ) from call_boolZ) (by rfl) nb_bool (by decide +kernel) (pa_cons (pe_cmpR (show OpR _ (compareOp .Eq) (rEqP K) from op_eqP hr.units) (pe_fldK K rfl (pv 0) rfl) (pe_fldK K rfl (pv 0) rfl) (nomark _)) pa_nil)))), fun ds R h => ?_⟩) (fun _ _ _ h => h)
  unfold SLot_is_free at h
  split at h
  · obtain ⟨⟨ms, cs, pr⟩, rfl, ho, h⟩ := h
    show DS _ [.val (lobj C_Lot ⟨ms, cs, pr⟩)] _ _ _ _ _
    walk_at "z0"
    refine ds_ret (de_boolc (dr_de (de_eq (dr_de (de_fld F_Lot_members (dr_var rfl ⟨_, _, rfl, rfl, ?_⟩))))))
    refine dr_de (de_fld F_Lot_candidates (dr_var rfl ⟨_, _, rfl, rfl, ?_⟩))
    refine ⟨pus_ints _, pus_ints _, ?_, .inr ⟨_, rfl, ?_⟩⟩
    · show dp (.tup (numsD (srt ms))) ≤ 60
      have : dps (numsD (srt ms)) = 0 := dps_zero _
      simp [dp, this]
    · show R (.bl (PyData.eqv (py (.tup (numsD (srt ms)))) (py (.tup (numsD (srt cs))))))
      rw [eqv_tups, free_eq (p := pr) ho.1.1 ho.2.2.1]
      exact h
  · exact h.elim
abbrev st_Lot_add : Stmt := (inClass (top 10) 6)
theorem sc_Lot_add : FnScope ["self", "place", "members"] ["self", "place"] (defScope st_Lot_add) := ⟨rfl, rfl, rfl, by decide +kernel, rfl, by decide +kernel, by decide +kernel⟩
theorem ok_Lot_add {C_InvalidLot C_Lot : Addr} {f : Addr} {fd : FuncData} (F : Fun K "__add__" "Lot.__add__" st_Lot_add f fd) {p_Lot_is_free f_Lot_is_free : Addr} {fd_Lot_is_free : FuncData} (M_Lot_is_free : CalP P w K mg base CX0 1 C_Lot "is_free" ["self"] (spD K T (SLot_is_free C_Lot)) p_Lot_is_free f_Lot_is_free fd_Lot_is_free) {f_Lot_init : Addr} {fd_Lot_init : FuncData} (K_Lot : CalK P w K mg base (L2.CX P w) 3 "Lot" C_Lot ["self", "members", "candidates", "price"] (spI K T C_Lot (SLot_init C_InvalidLot)) f_Lot_init fd_Lot_init) (F_Lot_candidates : Fld K T C_Lot "candidates" 1) (F_Lot_members : Fld K T C_Lot "members" 0) (F_Lot_price : Fld K T C_Lot "price" 2) :
    FnOk P w K mg base (L2.CX P w) 5 f fd ["self", "place"] (spD K T (SLot_add C_InvalidLot C_Lot)) := by
  refine fn_DX F sc_Lot_add (fun ds R X h => by unfold SLot_add at h; split at h <;> first | rfl | exact h.elim) (fun cdv A outer s H E hr => ⟨_, (pss_cons (ps_set (i := 2) sc_Lot_add.nd rfl (Or.inl rfl) (pe_op (show OpR _ (binaryOp .Add) (rAddZ K) from op_addZ) (pe_fldK K rfl (pv 0) rfl) (pe_tup (pa_cons (pv 1) pa_nil)))) (pss_cons (ps_if (pt_truK K rfl (pe_prop (pv 0) M_Lot_is_free.cl M_Lot_is_free.pr M_Lot_is_free.G (hr.mono (by first | decide | omega)) M_Lot_is_free.b .nil pass0 rfl) (by intro _; rfl)) (pss_one (ps_ret (pe_makeS K_Lot.M K_Lot.G (hr.mono (by first | decide | omega)) rfl K_Lot.mg K_Lot.b .nil (fun σ => passAt (takes_of rfl rfl rfl rfl) σ) (pa_cons (pv 2) (pa_cons (pv 2) (pa_cons (pe_fldK K rfl (pv 0) rfl) pa_nil)))))) pss_nil) (pss_one (ps_ret (pe_makeS K_Lot.M K_Lot.G (hr.mono (by first | decide | omega)) rfl K_Lot.mg K_Lot.b .nil (fun σ => passAt (takes_of rfl rfl rfl rfl) σ) (pa_cons (pv 2) (pa_cons (pe_fldK K rfl (pv 0) rfl) (pa_cons (pe_fldK K rfl (pv 0) rfl) pa_nil)))))))), fun ds R X h hW => ?_⟩) 
  unfold SLot_add at h
  split at h
  · rename_i a p
    obtain ⟨⟨ms, cs, pr⟩, rfl, ho, h⟩ := h
    have hl := nums_len (srt ms)
    have hs := srt_len ms
    have hz : ms.length ≤ 1000 := ho.1.2.2
    have hcz : cs.length ≤ 1000 := ho.2.2.1.2.2.2
    have hls := nums_len (srt cs)
    have hss := srt_len cs
    have hsh : ms.length ≤ 60 := RowOk.short ho.1 (by decide)
    have hcsh : cs.length ≤ 60 := RowOk.short ⟨ho.2.2.1.1, fun x hx => ho.1.2.1 x (ho.2.2.1.2.1 x hx), hcz⟩ (by decide)
    obtain ⟨oM, oC, oP⟩ := lot_ok ho
    simp only at oM oC oP
    have pms : (srt ms ++ [p]).Perm (ms ++ [p]) := (srt_perm ms).append_right _
    show DSn _ [.val (lobj C_Lot ⟨ms, cs, pr⟩), .val (.int p), .no] _ _ _ _ _
    walk_at "z0"
    refine dsn_of ?_
    refine ds_seq (ds_asg (de_add (dr_de (de_fld F_Lot_members (dr_var rfl ⟨_, _, rfl, rfl, ?_⟩)))))
    walk_at "zs"
    refine FAdd_tup (by simp; omega) ?_
    have en : numsD (srt ms) ++ [D.int p] = numsD (srt ms ++ [p]) := by unfold numsD; rw [List.map_append]; rfl
    rw [en]
    show DS _ [.val (lobj C_Lot ⟨ms, cs, pr⟩), .val (.int p), .val (.tup (numsD (srt ms ++ [p])))] _ _ _ _ _
    have key : ∀ cs' : List Int, cs'.length ≤ 1000 → (cs' = srt ms ++ [p] ∧ freeL ⟨ms, cs, pr⟩ = true ∨ cs' = srt cs ∧ freeL ⟨ms, cs, pr⟩ = false) → lotEnd C_InvalidLot (srt ms ++ [p]) cs' pr (fun fs => R (.obj C_Lot fs)) X := fun cs' _ hc => by
      unfold endL planL at h
      rw [if_pos rfl] at h
      by_cases hb : p ∈ ms ∨ p < 0 ∨ 11 < p
      · rw [if_pos hb] at h
        have : okM (srt ms ++ [p]) = false := by
          rw [okM_perm pms]
          refine bool_no (fun z => (okM_iff.mp z)) fun ⟨_, q1, q2⟩ => ?_
          rcases hb with hb | hb
          · exact (List.nodup_append.mp q1).2.2 p hb p (by simp) rfl
          · have := q2 p (by simp)
            omega
        unfold lotEnd lotWhy
        rw [if_pos this]
        exact h
      · rw [if_neg hb] at h
        have h1 : p ∉ ms := fun z => hb (.inl z)
        have h2 : 0 ≤ p ∧ p < 12 := ⟨by omega, by omega⟩
        obtain ⟨m2, m3, m4⟩ := okM_iff.mp oM
        obtain ⟨c2, c3, c4⟩ := okC_iff.mp oC
        have kM : okM (ms ++ [p]) = true := okM_iff.mpr ⟨by simp; omega, List.nodup_append.mpr ⟨m3, by simp, fun a ha b hb' e => by
          cases List.mem_singleton.mp hb'
          subst e
          exact h1 ha⟩, fun x hx => by
            rcases List.mem_append.mp hx with q | q
            · exact m4 x q
            · cases List.mem_singleton.mp q
              exact h2⟩
        rcases hc with ⟨rfl, hf⟩ | ⟨rfl, hf⟩
        · rw [hf, if_pos rfl] at h
          have kC : okC (ms ++ [p]) (ms ++ [p]) = true := okC_iff.mpr ⟨by simp, (okM_iff.mp kM).2.1, fun x hx => hx⟩
          refine end_perm pms pms ?_
          unfold lotEnd lotWhy
          rw [if_neg (by rw [kM]; decide), if_neg (by rw [kC]; decide), if_neg (by rw [oP]; decide)]
          have hp : cs.Perm ms := menu_perm ho.1.1 ho.2.2.1 (of_decide_eq_true hf)
          have e := lobj_eq (C := C_Lot) (l := ⟨ms ++ [p], cs ++ [p], pr⟩) (m := ⟨ms ++ [p], ms ++ [p], pr⟩) (.refl _) (hp.append_right _) rfl
          show R (lobj C_Lot ⟨ms ++ [p], ms ++ [p], pr⟩)
          rw [← e]
          exact h
        · rw [hf, if_neg (by decide)] at h
          have kC : okC (ms ++ [p]) cs = true := okC_iff.mpr ⟨c2, c3, fun x hx => List.mem_append_left _ (c4 x hx)⟩
          refine end_perm pms (srt_perm cs) ?_
          unfold lotEnd lotWhy
          rw [if_neg (by rw [kM]; decide), if_neg (by rw [kC]; decide), if_neg (by rw [oP]; decide)]
          exact h
    refine ds_seq (ds_if (dt_tru (dr_de (de_prop (dr_var rfl ⟨_, rfl, ⟨ms, cs, pr⟩, rfl, ho, _, rfl, ?_⟩)))))
    refine ite_bl (fun hf => ?_) (fun hf => ?_)
    · refine ds_ret (de_makeS (dd := []) (hW _) (fun _ => .nil) ?_)
      walk_at "zs"
      refine de_fld F_Lot_price (dr_var rfl ⟨_, _, rfl, rfl, ?_⟩)
      walk_at "zs"
      exact ⟨_, _, .inr rfl, .inl (.inr rfl), by simp; omega, by simp; omega, key _ (by simp; omega) (.inl ⟨rfl, hf⟩)⟩
    · walk_at "zs"
      refine de_makeS (dd := []) (hW _) (fun _ => .nil) ?_
      walk_at "zs"
      refine de_fld F_Lot_candidates (dr_var rfl ⟨_, _, rfl, rfl, ?_⟩)
      walk_at "zs"
      refine de_fld F_Lot_price (dr_var rfl ⟨_, _, rfl, rfl, ?_⟩)
      walk_at "zs"
      exact ⟨_, _, .inr rfl, .inl (.inr rfl), by simp; omega, by show (srt cs).length ≤ 1000; omega, key _ (by show (srt cs).length ≤ 1000; omega) (.inr ⟨rfl, hf⟩)⟩
  · exact h.elim
abbrev st_Lot_sub : Stmt := (inClass (top 10) 7)
theorem sc_Lot_sub : FnScope ["self", "place", "members", "candidates", "member"] ["self", "place"] (defScope st_Lot_sub) := ⟨rfl, rfl, rfl, by decide +kernel, rfl, by decide +kernel, by decide +kernel⟩
theorem ok_Lot_sub {C_InvalidLot C_Lot : Addr} {f : Addr} {fd : FuncData} (F : Fun K "__sub__" "Lot.__sub__" st_Lot_sub f fd) {f_InvalidLot_init : Addr} {fd_InvalidLot_init : FuncData} (EX_InvalidLot : CalE P w K mg base 1 "InvalidLot" C_InvalidLot ["self", "reason"] ["reason"] f_InvalidLot_init fd_InvalidLot_init) {f_Lot_init : Addr} {fd_Lot_init : FuncData} (K_Lot : CalK P w K mg base (L2.CX P w) 3 "Lot" C_Lot ["self", "members", "candidates", "price"] (spI K T C_Lot (SLot_init C_InvalidLot)) f_Lot_init fd_Lot_init) (F_Lot_candidates : Fld K T C_Lot "candidates" 1) (F_Lot_members : Fld K T C_Lot "members" 0) (F_Lot_price : Fld K T C_Lot "price" 2) :
    FnOk P w K mg base (L2.CX P w) 5 f fd ["self", "place"] (spD K T (SLot_sub C_InvalidLot C_Lot)) := by
  refine fn_DX F sc_Lot_sub (fun ds R X h => by unfold SLot_sub at h; split at h <;> first | rfl | exact h.elim) (fun cdv A outer s H E hr => ⟨_, (pss_cons (ps_if (pt_cmpR (show OpR _ (compareOp .NotIn) (rInP true K) from op_niP hr.units) (pv 1) (pe_fldK K rfl (pv 0) rfl) rfl) (pss_one (ps_raiseW rfl (takes_of rfl rfl rfl rfl) (pmk_oex EX_InvalidLot.er.ox EX_InvalidLot.init EX_InvalidLot.ty EX_InvalidLot.G (hr.mono (by first | decide | omega)) EX_InvalidLot.b .nil pass0 rfl EX_InvalidLot.mg (pa_cons pe_str pa_nil)))) pss_nil) (pss_cons (ps_setLc (i := 2) (own := [("member", 4)]) (g := gName 4) (by rfl) sc_Lot_sub.nd rfl rfl (sw_true rfl rfl rfl (by decide +kernel)) (pi_seqK K rfl (pe_fldK K rfl (pv 0) rfl)) (blkOk_by (own := [("member", 4)]) (N := ["self", "place", "members", "candidates", "member"]) (sc := defScope st_Lot_sub) (by decide +kernel)) (fun _ _ _ _ _ => (pg_name (i := 4) sc_Lot_sub.nd rfl (Or.inl rfl))) (fun _ _ _ _ _ => pts_one (pt_cmpR (show OpR _ (compareOp .NotEq) (rNeP K) from op_neP hr.units) (pv 4) (pv 1) (nomark _))) (fun _ _ _ _ _ => (pv 4))) (pss_fzs (i := 2) (pss_cons (ps_setLc (i := 3) (own := [("member", 4)]) (g := gName 4) (by rfl) sc_Lot_sub.nd rfl rfl (sw_true rfl rfl rfl (by decide +kernel)) (pi_seqK K rfl (pe_fldK K rfl (pv 0) rfl)) (blkOk_by (own := [("member", 4)]) (N := ["self", "place", "members", "candidates", "member"]) (sc := defScope st_Lot_sub) (by decide +kernel)) (fun _ _ _ _ _ => (pg_name (i := 4) sc_Lot_sub.nd rfl (Or.inl rfl))) (fun _ _ _ _ _ => pts_one (pt_cmpR (show OpR _ (compareOp .NotEq) (rNeP K) from op_neP hr.units) (pv 4) (pv 1) (nomark _))) (fun _ _ _ _ _ => (pv 4))) (pss_fzs (i := 3) (pss_one (ps_ret (pe_makeS K_Lot.M K_Lot.G (hr.mono (by first | decide | omega)) rfl K_Lot.mg K_Lot.b .nil (fun σ => passAt (takes_of rfl rfl rfl rfl) σ) (pa_cons (pv 2) (pa_cons (pv 3) (pa_cons (pe_fldK K rfl (pv 0) rfl) pa_nil))))))))))), fun ds R X h hW => ?_⟩) 
  unfold SLot_sub at h
  split at h
  · rename_i a p
    obtain ⟨⟨ms, cs, pr⟩, rfl, ho, h⟩ := h
    have hz : ms.length ≤ 1000 := ho.1.2.2
    have hcz : cs.length ≤ 1000 := ho.2.2.1.2.2.2
    have hs := srt_len ms
    have hss := srt_len cs
    obtain ⟨oM, oC, oP⟩ := lot_ok ho
    simp only at oM oC oP
    obtain ⟨m2, m3, m4⟩ := okM_iff.mp oM
    obtain ⟨c2, c3, c4⟩ := okC_iff.mp oC
    unfold endL planL at h
    rw [if_neg (by decide)] at h
    show DSn _ [.val (lobj C_Lot ⟨ms, cs, pr⟩), .val (.int p), .no, .no, .no] _ _ _ _ _
    walk_at "z0"
    refine dsn_of ?_
    refine ds_seq (ds_if (dt_test (de_niT (dr_var rfl (dr_de (de_fld F_Lot_members (dr_var rfl ⟨_, _, rfl, rfl, p, srt ms, rfl, .inr rfl, _, rfl, ?_⟩)))))))
    refine ite_ndec (fun hp => ?_) (fun hp => ?_)
    · rw [mem_srt] at hp
      rw [if_pos (.inl hp)] at h
      exact ds_raiseO (hW _) (da_cons (de_str (da_nil ⟨rfl, by simp, h⟩)))
    rw [mem_srt] at hp
    refine ds_next ?_
    refine ds_seq (ds_asgL (dl_lcF (srt ms) D.int D.int (fun x => !decide (x = p)) (gok_name (by decide)) (de_fld F_Lot_members (dr_var rfl ⟨_, _, rfl, rfl, .inr rfl, by omega, ?_, ?_⟩))))
    · intro y hy
      refine dg_name ?_
      walk_at "zs"
      refine ⟨rfl, fun _ => ?_⟩
      walk_at "zs"
      rfl
    refine ds_fzs rfl ?_
    refine ds_seq (ds_asgL (dl_lcF (srt cs) D.int D.int (fun x => !decide (x = p)) (gok_name (by decide)) (de_fld F_Lot_candidates (dr_var rfl ⟨_, _, rfl, rfl, .inr rfl, by omega, ?_, ?_⟩))))
    · intro y hy
      refine dg_name ?_
      walk_at "zs"
      refine ⟨rfl, fun _ => ?_⟩
      walk_at "zs"
      rfl
    refine ds_fzs rfl ?_
    have pm : ((srt ms).filter fun x => !decide (x = p)).Perm (ms.filter fun x => !decide (x = p)) := (srt_perm ms).filter _
    have pc : ((srt cs).filter fun x => !decide (x = p)).Perm (cs.filter fun x => !decide (x = p)) := (srt_perm cs).filter _
    have lm : ((srt ms).filter fun x => !decide (x = p)).length ≤ 1000 := Nat.le_trans (List.length_filter_le _ _) (by omega)
    have lc : ((srt cs).filter fun x => !decide (x = p)).length ≤ 1000 := Nat.le_trans (List.length_filter_le _ _) (by omega)
    refine ds_ret (de_makeS (dd := []) (hW _) (fun _ => .nil) ?_)
    walk_at "zs"
    refine de_fld F_Lot_price (dr_var rfl ⟨_, _, rfl, rfl, ?_⟩)
    walk_at "zs"
    refine ⟨_, _, .inl rfl, .inl (.inl rfl), lm, lc, end_perm pm pc ?_⟩
    have hfl := filter_ne_len m3 hp
    unfold lotEnd lotWhy
    by_cases h2 : ms.length = 2
    · rw [if_pos (.inr h2)] at h
      have : okM (ms.filter fun x => !decide (x = p)) = false := bool_no (fun z => (okM_iff.mp z).1) (by omega)
      rw [if_pos this]
      exact h
    · rw [if_neg (fun z => z.elim (fun z => z hp) h2)] at h
      have kM : okM (ms.filter fun x => !decide (x = p)) = true := okM_iff.mpr ⟨by omega, m3.filter _, fun x hx => m4 x (List.mem_filter.mp hx).1⟩
      rw [if_neg (by rw [kM]; decide)]
      by_cases h3 : (cs.filter fun x => !decide (x = p)) = []
      · rw [if_pos h3] at h
        have : okC (ms.filter fun x => !decide (x = p)) (cs.filter fun x => !decide (x = p)) = false := bool_no (fun z => (okC_iff.mp z).1) (by rw [h3]; simp)
        rw [if_pos this]
        exact h
      · rw [if_neg h3] at h
        have kC : okC (ms.filter fun x => !decide (x = p)) (cs.filter fun x => !decide (x = p)) = true := okC_iff.mpr ⟨List.length_pos_iff.mpr h3, c3.filter _, fun x hx => by
          have := List.mem_filter.mp hx
          exact List.mem_filter.mpr ⟨c4 x this.1, this.2⟩⟩
        rw [if_neg (by rw [kC]; decide), if_neg (by rw [oP]; decide)]
        exact h
  · exact h.elim
abbrev st_Lot_len : Stmt := (inClass (top 10) 11)
theorem sc_Lot_len : FnScope ["self"] ["self"] (defScope st_Lot_len) := ⟨rfl, rfl, rfl, by decide +kernel, rfl, by decide +kernel, by decide +kernel⟩
theorem ok_Lot_len {C_Lot : Addr} {f : Addr} {fd : FuncData} (F : Fun K "__len__" "Lot.__len__" st_Lot_len f fd) (F_Lot_members : Fld K T C_Lot "members" 0) (nb_len : mg "len" = none) :
    FnOk P w K mg base CX0 1 f fd ["self"] (spD K T (SLot_len C_Lot)) := by
  refine fn_D F sc_Lot_len (fun ds R X h => by unfold SLot_len at h; split at h <;> first | rfl | exact h.elim) (fun cdv A outer s H E hr => ⟨_, (pss_one (ps_ret (pe_callB (show CallR _ (.builtin "len") (rLenZ K) from call_lenZ) (by rfl) nb_len (by decide +kernel) (pa_cons (pe_fldK K rfl (pv 0) rfl) pa_nil)))), fun ds R h => ?_⟩) (fun _ _ _ h => h)
  unfold SLot_len at h
  split at h
  · obtain ⟨⟨ms, cs, pr⟩, rfl, h⟩ := h
    show DS _ [.val (lobj C_Lot ⟨ms, cs, pr⟩)] _ _ _ _ _
    walk_at "z0"
    refine ds_ret (de_len (dr_de (de_fld F_Lot_members (dr_var rfl ⟨_, _, rfl, rfl, _, .inr rfl, ?_⟩))))
    rw [nums_len, srt_len]
    exact h
  · exact h.elim
abbrev st__law_fields : Stmt := (top 25)
theorem sc__law_fields : FnScope ["lot"] ["lot"] (defScope st__law_fields) := ⟨rfl, rfl, rfl, by decide +kernel, rfl, by decide +kernel, by decide +kernel⟩
theorem ok__law_fields {C_Lot : Addr} {f : Addr} {fd : FuncData} (F : Fun K "_law_fields" "_law_fields" st__law_fields f fd) {f_Lot_len : Addr} {fd_Lot_len : FuncData} (M_Lot_len : CalM P w K mg base CX0 1 C_Lot "__len__" ["self"] (spD K T (SLot_len C_Lot)) f_Lot_len fd_Lot_len) {p_Lot_is_free f_Lot_is_free : Addr} {fd_Lot_is_free : FuncData} (M_Lot_is_free : CalP P w K mg base CX0 1 C_Lot "is_free" ["self"] (spD K T (SLot_is_free C_Lot)) p_Lot_is_free f_Lot_is_free fd_Lot_is_free) (F_Lot_candidates : Fld K T C_Lot "candidates" 1) (F_Lot_members : Fld K T C_Lot "members" 0) (F_Lot_price : Fld K T C_Lot "price" 2) (nb_len : mg "len" = none) :
    FnOk P w K mg base CX0 3 f fd ["lot"] (spD K T (S_law_fields C_Lot)) := by
  refine fn_D F sc__law_fields (fun ds R X h => by unfold S_law_fields at h; split at h <;> first | rfl | exact h.elim) (fun cdv A outer s H E hr => ⟨_, (pss_one (ps_ret (pe_tup (pa_cons pe_str (pa_cons (pe_fldK K rfl (pv 0) rfl) (pa_cons (pe_fldK K rfl (pv 0) rfl) (pa_cons (pe_fldK K rfl (pv 0) rfl) (pa_cons (pe_prop (pv 0) M_Lot_is_free.cl M_Lot_is_free.pr M_Lot_is_free.G (hr.mono (by first | decide | omega)) M_Lot_is_free.b .nil pass0 rfl) (pa_cons (pe_callB (call_lenO M_Lot_len.G (hr.mono (by first | decide | omega)) M_Lot_len.b M_Lot_len.find M_Lot_len.fn) (by rfl) nb_len (by decide +kernel) (pa_cons (pv 0) pa_nil)) pa_nil))))))))), fun ds R h => ?_⟩) (fun _ _ _ h => h)
  unfold S_law_fields at h
  split at h
  · obtain ⟨l, rfl, ho, h⟩ := h
    have hz := ho.1.2.2
    show DS _ [.val (lobj C_Lot l)] _ _ _ _ _
    walk_at "z0"
    walk_at "zs"
    refine de_fld F_Lot_members (dr_var rfl ⟨_, _, rfl, rfl, ?_⟩)
    walk_at "zs"
    refine de_fld F_Lot_candidates (dr_var rfl ⟨_, _, rfl, rfl, ?_⟩)
    walk_at "zs"
    refine de_fld F_Lot_price (dr_var rfl ⟨_, _, rfl, rfl, ?_⟩)
    walk_at "zs"
    refine de_prop (dr_var rfl ⟨_, rfl, l, rfl, ho, ?_⟩)
    walk_at "zs"
    refine de_lenO (dr_var rfl ⟨_, rfl, l, rfl, _, rfl, by omega, by omega, ?_⟩)
    walk_at "zs"
    exact h
  · exact h.elim
abbrev st__law_done : Stmt := (top 27)
theorem sc__law_done : FnScope ["lot", "sign", "place", "made", "e"] ["lot", "sign", "place"] (defScope st__law_done) := ⟨rfl, rfl, rfl, by decide +kernel, rfl, by decide +kernel, by decide +kernel⟩
theorem ok__law_done {C_InvalidLot C_Lot : Addr} {f : Addr} {fd : FuncData} (F : Fun K "_law_done" "_law_done" st__law_done f fd) {f_Lot_add : Addr} {fd_Lot_add : FuncData} (M_Lot_add : CalM P w K mg base (L2.CX P w) 5 C_Lot "__add__" ["self", "place"] (spD K T (SLot_add C_InvalidLot C_Lot)) f_Lot_add fd_Lot_add) {f_Lot_sub : Addr} {fd_Lot_sub : FuncData} (M_Lot_sub : CalM P w K mg base (L2.CX P w) 5 C_Lot "__sub__" ["self", "place"] (spD K T (SLot_sub C_InvalidLot C_Lot)) f_Lot_sub fd_Lot_sub) {f__law_fields : Addr} {fd__law_fields : FuncData} (C__law_fields : Cal P w K mg base CX0 3 "_law_fields" ["lot"] (spD K T (S_law_fields C_Lot)) f__law_fields fd__law_fields) (E_InvalidLot : ErrC K C_InvalidLot) (S_InvalidLot_InvalidLot_t : PySem.W.subIn K (.ref C_InvalidLot) (.ref C_InvalidLot) = some true) (mC_InvalidLot : mg "InvalidLot" = some (.ref C_InvalidLot)) (na_InvalidLot_reason : NoAttr K C_InvalidLot "reason") (nr_Lot_radd : PySem.W.findIn K (.ref C_Lot) "__radd__" = some none) (nr_Lot_rsub : PySem.W.findIn K (.ref C_Lot) "__rsub__" = some none) (sf_Lot : PySem.W.selfFirst K C_Lot = true) (si_Lot : PySem.W.subIn K (.type "int") (.ref C_Lot) = some false) :
    FnOk P w K mg base CX0 6 f fd ["lot", "sign", "place"] (spD K T (S_law_done C_Lot)) := by
  refine fn_Dn F sc__law_done (fun ds R X h => by unfold S_law_done at h; split at h <;> first | rfl | exact h.elim) (fun cdv A outer s H E hr => ⟨_, (pss_cons (show PS _ _ (tTryAs K (.ref C_InvalidLot) 4 _ (fun _ _ _ _ => False) _) from ps_try_as (i := 4) rfl rfl sc__law_done.nd rfl rfl ⟨rfl, by decide, .inl mC_InvalidLot⟩ takes0 (fun W pn xe tk po => (pss_one (ps_if (pt_cmpR (show OpR _ (compareOp .Eq) (rEqP K) from op_eqP hr.units) (pv 1) pe_int (nomark _)) (pss_one (ps_set (i := 3) sc__law_done.nd rfl (Or.inl rfl) (pe_binS (int := true) M_Lot_add.G (hr.mono (by first | decide | omega)) M_Lot_add.b (fun σ => passAt tk σ) ⟨M_Lot_add.find, M_Lot_add.fn, sf_Lot⟩ (fun _ => ⟨nr_Lot_radd, si_Lot, int_add.1, int_add.2⟩) (pv 0) (pv 2)))) (pss_one (ps_set (i := 3) sc__law_done.nd rfl (Or.inl rfl) (pe_binS (int := true) M_Lot_sub.G (hr.mono (by first | decide | omega)) M_Lot_sub.b (fun σ => passAt tk σ) ⟨M_Lot_sub.find, M_Lot_sub.fn, sf_Lot⟩ (fun _ => ⟨nr_Lot_rsub, si_Lot, int_sub.1, int_sub.2⟩) (pv 0) (pv 2))))))) (fun a oe cls d pn hz hf => (pss_one (ps_ret (pe_fz (pe_lst (pa_cons (pe_tup (pa_cons pe_str (pa_cons (pe_xf E_InvalidLot.xf na_InvalidLot_reason hz hf (pv 4)) pa_nil))) (pa_cons (pv 0) pa_nil)))))))) (pss_one (ps_ret (pe_fz (pe_lst (pa_cons (pe_call C__law_fields.G (hr.mono (by first | decide | omega)) rfl C__law_fields.mg C__law_fields.kp C__law_fields.b .nil pass0 (pa_cons (pv 3) pa_nil)) (pa_cons (pv 3) pa_nil))))))), fun ds R h => ?_⟩) (fun _ _ _ h => h)
  unfold S_law_done at h
  split at h
  · rename_i a s0 p0
    obtain ⟨l, rfl, ho, hs, h⟩ := h
    show DSn _ [.val (lobj C_Lot l), .val (.int s0), .val (.int p0), .no, .no] _ _ _ _ _
    walk_at "z0"
    refine dsn_seq (dsn_tryAs (fun ρ1 => ρ1 = [.val (lobj C_Lot l), .val (.int s0), .val (.int p0), .no, .no]) (fun Cx fs => Cx = C_InvalidLot ∧ ∃ y, planL l s0 p0 = .inl y ∧ fs = ([("reason", .str y)] : List (Str × D))) (fun W hW => dsn_of ?_) ?_)
    · have hw := hW _ rfl
      have key : ∀ (Q : D → Prop), (∀ l', planL l s0 p0 = .inr l' → Q (lobj C_Lot l')) → endL C_InvalidLot C_Lot (planL l s0 p0) Q (fun Cx fs => Cx = C_InvalidLot ∧ ∃ y, planL l s0 p0 = .inl y ∧ fs = ([("reason", .str y)] : List (Str × D))) := fun Q hq => by
        cases e : planL l s0 p0 with
        | inl y => exact ⟨rfl, y, rfl, rfl⟩
        | inr l' => exact hq l' e
      have fin : ∀ l', planL l s0 p0 = .inr l' → DSn ⟨K, T, fun _ => False, H⟩ [.val (lobj C_Lot l), .val (.int s0), .val (.int p0), .val (lobj C_Lot l'), .no] (tRet (tFz (tLst (tCons (tCall (spD K T (S_law_fields C_Lot)) [] E0 (tCons (tVar 3) tNil)) (tCons (tVar 3) tNil))))) (fun _ => R .non) (fun d _ => R d) (fun _ => False) fun _ => False := fun l' e => by
        refine dsn_of ?_
        walk_at "zs"
        refine ⟨l', rfl, plan_ok ho e, ?_⟩
        walk_at "zs"
        rw [e] at h
        exact h
      rcases hs with rfl | rfl
      · walk_at "zs"
        refine de_binI hw ?_
        walk_at "zs"
        exact ⟨_, _, rfl, rfl, l, rfl, ho, key _ fin⟩
      · walk_at "zs"
        refine de_binI hw ?_
        walk_at "zs"
        exact ⟨_, _, rfl, rfl, l, rfl, ho, key _ fin⟩
    · rintro _ Cx fs a od rfl ⟨rfl, y, e, rfl⟩
      refine ⟨exm_ok E_InvalidLot S_InvalidLot_InvalidLot_t, dsn_of ?_⟩
      rw [e] at h
      walk_at "zs"
      refine de_xf rfl rfl ?_
      walk_at "zs"
      exact h
  · exact h.elim
abbrev st__law_refused : Stmt := (top 28)
theorem sc__law_refused : FnScope ["lot", "sign", "place", "made", "e"] ["lot", "sign", "place"] (defScope st__law_refused) := ⟨rfl, rfl, rfl, by decide +kernel, rfl, by decide +kernel, by decide +kernel⟩
theorem ok__law_refused {C_InvalidLot C_Lot C_Mismatch C_NetworkError C_PlaceOutOfRange : Addr} {f : Addr} {fd : FuncData} (F : Fun K "_law_refused" "_law_refused" st__law_refused f fd) {f_Lot_add : Addr} {fd_Lot_add : FuncData} (M_Lot_add : CalM P w K mg base (L2.CX P w) 5 C_Lot "__add__" ["self", "place"] (spD K T (SLot_add C_InvalidLot C_Lot)) f_Lot_add fd_Lot_add) {f_Lot_sub : Addr} {fd_Lot_sub : FuncData} (M_Lot_sub : CalM P w K mg base (L2.CX P w) 5 C_Lot "__sub__" ["self", "place"] (spD K T (SLot_sub C_InvalidLot C_Lot)) f_Lot_sub fd_Lot_sub) {f_Lot_len : Addr} {fd_Lot_len : FuncData} (M_Lot_len : CalM P w K mg base CX0 1 C_Lot "__len__" ["self"] (spD K T (SLot_len C_Lot)) f_Lot_len fd_Lot_len) (E_InvalidLot : ErrC K C_InvalidLot) (E_Mismatch : ErrC K C_Mismatch) (E_NetworkError : ErrC K C_NetworkError) (E_PlaceOutOfRange : ErrC K C_PlaceOutOfRange) (SV_InvalidLot : PySem.W.subIn K (.ref C_InvalidLot) (.type "ValueError") = some true) (S_InvalidLot_InvalidLot_t : PySem.W.subIn K (.ref C_InvalidLot) (.ref C_InvalidLot) = some true) (S_InvalidLot_Mismatch_f : PySem.W.subIn K (.ref C_InvalidLot) (.ref C_Mismatch) = some false) (S_InvalidLot_NetworkError_t : PySem.W.subIn K (.ref C_InvalidLot) (.ref C_NetworkError) = some true) (S_InvalidLot_PlaceOutOfRange_f : PySem.W.subIn K (.ref C_InvalidLot) (.ref C_PlaceOutOfRange) = some false) (mC_InvalidLot : mg "InvalidLot" = some (.ref C_InvalidLot)) (mC_Mismatch : mg "Mismatch" = some (.ref C_Mismatch)) (mC_NetworkError : mg "NetworkError" = some (.ref C_NetworkError)) (mC_PlaceOutOfRange : mg "PlaceOutOfRange" = some (.ref C_PlaceOutOfRange)) (nb_ValueError : mg "ValueError" = none) (nb_isinstance : mg "isinstance" = none) (nb_len : mg "len" = none) (ne_InvalidLot_Mismatch : C_InvalidLot ≠ C_Mismatch) (ne_InvalidLot_PlaceOutOfRange : C_InvalidLot ≠ C_PlaceOutOfRange) (nr_Lot_radd : PySem.W.findIn K (.ref C_Lot) "__radd__" = some none) (nr_Lot_rsub : PySem.W.findIn K (.ref C_Lot) "__rsub__" = some none) (sf_Lot : PySem.W.selfFirst K C_Lot = true) (si_Lot : PySem.W.subIn K (.type "int") (.ref C_Lot) = some false) :
    FnOk P w K mg base CX0 6 f fd ["lot", "sign", "place"] (spD K T (S_law_refused C_Lot)) := by
  refine fn_Dn F sc__law_refused (fun ds R X h => by unfold S_law_refused at h; split at h <;> first | rfl | exact h.elim) (fun cdv A outer s H E hr => ⟨_, (pss_cons (show PS _ _ (tTryAs K (.ref C_NetworkError) 4 _ (fun _ _ _ _ => False) _) from ps_try_as (i := 4) rfl rfl sc__law_refused.nd rfl rfl ⟨rfl, by decide, .inl mC_NetworkError⟩ takes0 (fun W pn xe tk po => (pss_one (ps_if (pt_cmpR (show OpR _ (compareOp .Eq) (rEqP K) from op_eqP hr.units) (pv 1) pe_int (nomark _)) (pss_one (ps_set (i := 3) sc__law_refused.nd rfl (Or.inl rfl) (pe_binS (int := true) M_Lot_add.G (hr.mono (by first | decide | omega)) M_Lot_add.b (fun σ => passAt tk σ) ⟨M_Lot_add.find, M_Lot_add.fn, sf_Lot⟩ (fun _ => ⟨nr_Lot_radd, si_Lot, int_add.1, int_add.2⟩) (pv 0) (pv 2)))) (pss_one (ps_set (i := 3) sc__law_refused.nd rfl (Or.inl rfl) (pe_binS (int := true) M_Lot_sub.G (hr.mono (by first | decide | omega)) M_Lot_sub.b (fun σ => passAt tk σ) ⟨M_Lot_sub.find, M_Lot_sub.fn, sf_Lot⟩ (fun _ => ⟨nr_Lot_rsub, si_Lot, int_sub.1, int_sub.2⟩) (pv 0) (pv 2))))))) (fun a oe cls d pn hz hf => (pss_cons (ps_if (PW.pt (pw_or (pt_truK K rfl (pe_callB (show CallR _ (.builtin "isinstance") (rIsX K a cls d) from call_isX hz hf) (by rfl) nb_isinstance (by decide +kernel) (pa_cons (pv 4) (pa_cons (pe_glob (v := .ref C_PlaceOutOfRange) rfl mC_PlaceOutOfRange rfl) pa_nil))) (by intro _; rfl)) (pw_or1 (pt_truK K rfl (pe_callB (show CallR _ (.builtin "isinstance") (rIsX K a cls d) from call_isX hz hf) (by rfl) nb_isinstance (by decide +kernel) (pa_cons (pv 4) (pa_cons (pe_glob (v := .ref C_Mismatch) rfl mC_Mismatch rfl) pa_nil))) (by intro _; rfl))))) (pss_one (ps_ret pe_bl)) pss_nil) (pss_one (ps_ret (pe_and (pe_callB (show CallR _ (.builtin "isinstance") (rIsX K a cls d) from call_isX hz hf) (by rfl) nb_isinstance (by decide +kernel) (pa_cons (pv 4) (pa_cons (pe_glob (v := .ref C_InvalidLot) rfl mC_InvalidLot rfl) pa_nil))) (pe_one (pe_callB (show CallR _ (.builtin "isinstance") (rIsX K a cls d) from call_isX hz hf) (by rfl) nb_isinstance (by decide +kernel) (pa_cons (pv 4) (pa_cons (pe_bltn (v := .ty "ValueError") (by rfl) nb_ValueError (by decide +kernel) rfl) pa_nil)))))))))) (pss_one (ps_ret (pe_cmpR (show OpR _ (compareOp .Eq) (rEqP K) from op_eqP hr.units) (pe_callB (call_lenO M_Lot_len.G (hr.mono (by first | decide | omega)) M_Lot_len.b M_Lot_len.find M_Lot_len.fn) (by rfl) nb_len (by decide +kernel) (pa_cons (pv 3) pa_nil)) pe_int (nomark _))))), fun ds R h => ?_⟩) (fun _ _ _ h => h)
  unfold S_law_refused at h
  split at h
  · rename_i a s0 p0
    obtain ⟨l, y, rfl, ho, hs, e, h⟩ := h
    show DSn _ [.val (lobj C_Lot l), .val (.int s0), .val (.int p0), .no, .no] _ _ _ _ _
    walk_at "z0"
    refine dsn_seq (dsn_tryAs (fun ρ1 => ρ1 = [.val (lobj C_Lot l), .val (.int s0), .val (.int p0), .no, .no]) (fun Cx fs => Cx = C_InvalidLot ∧ fs = ([("reason", .str y)] : List (Str × D))) (fun W hW => dsn_of ?_) ?_)
    · have hw := hW _ rfl
      have key : ∀ (Q : D → Prop), endL C_InvalidLot C_Lot (planL l s0 p0) Q (fun Cx fs => Cx = C_InvalidLot ∧ fs = ([("reason", .str y)] : List (Str × D))) := fun Q => by
        rw [e]
        exact ⟨rfl, rfl⟩
      rcases hs with rfl | rfl
      · walk_at "zs"
        refine de_binI hw ?_
        walk_at "zs"
        exact ⟨_, _, rfl, rfl, l, rfl, ho, key _⟩
      · walk_at "zs"
        refine de_binI hw ?_
        walk_at "zs"
        exact ⟨_, _, rfl, rfl, l, rfl, ho, key _⟩
    · rintro _ Cx fs a od rfl ⟨rfl, rfl⟩
      refine ⟨exm_ok E_NetworkError S_InvalidLot_NetworkError_t, dsn_of ?_⟩
      refine ds_seq (ds_if (dt_or (dt_tru (dr_de (de_isX rfl E_InvalidLot.ex (fun u z => z) (kit_ok E_PlaceOutOfRange S_InvalidLot_PlaceOutOfRange_f fun z => absurd z ne_InvalidLot_PlaceOutOfRange) ⟨_, rfl, ?_⟩)))))
      walk_at "zs"
      refine de_isX rfl E_InvalidLot.ex (fun u z => z) (kit_ok E_Mismatch S_InvalidLot_Mismatch_f fun z => absurd z ne_InvalidLot_Mismatch) ?_
      walk_at "zs"
      refine de_isX rfl E_InvalidLot.ex (fun u z => z) (kit_ok E_InvalidLot S_InvalidLot_InvalidLot_t fun _ => rfl) ?_
      walk_at "zs"
      refine de_isX rfl E_InvalidLot.ex (fun u z => z) (kit_b (by decide +kernel) SV_InvalidLot) ?_
      exact h
  · exact h.elim
abbrev st__law_right : Stmt := (top 30)
theorem sc__law_right : FnScope ["lot", "row", "sign", "place", "due"] ["lot", "row", "sign", "place"] (defScope st__law_right) := ⟨rfl, rfl, rfl, by decide +kernel, rfl, by decide +kernel, by decide +kernel⟩
theorem ok__law_right {C_Lot : Addr} {f : Addr} {fd : FuncData} (F : Fun K "_law_right" "_law_right" st__law_right f fd) {f__law_planned : Addr} {fd__law_planned : FuncData} (C__law_planned : Cal P w K mg base CX0 3 "_law_planned" ["row", "sign", "place"] (spD K T S_law_planned) f__law_planned fd__law_planned) {f__law_same : Addr} {fd__law_same : FuncData} (C__law_same : Cal P w K mg base CX0 10 "_law_same" ["actual", "expected"] (spD K T (S_law_same 8)) f__law_same fd__law_same) {f__law_done : Addr} {fd__law_done : FuncData} (C__law_done : Cal P w K mg base CX0 6 "_law_done" ["lot", "sign", "place"] (spD K T (S_law_done C_Lot)) f__law_done fd__law_done) {f__law_refused : Addr} {fd__law_refused : FuncData} (C__law_refused : Cal P w K mg base CX0 6 "_law_refused" ["lot", "sign", "place"] (spD K T (S_law_refused C_Lot)) f__law_refused fd__law_refused) :
    FnOk P w K mg base CX0 11 f fd ["lot", "row", "sign", "place"] (spD K T (S_law_right C_Lot)) := by
  refine fn_D F sc__law_right (fun ds R X h => by unfold S_law_right at h; split at h <;> first | rfl | exact h.elim) (fun cdv A outer s H E hr => ⟨_, (pss_cons (ps_set (i := 4) sc__law_right.nd rfl (Or.inl rfl) (pe_call C__law_planned.G (hr.mono (by first | decide | omega)) rfl C__law_planned.mg C__law_planned.kp C__law_planned.b .nil pass0 (pa_cons (pv 1) (pa_cons (pv 2) (pa_cons (pv 3) pa_nil))))) (pss_cons (ps_if (pt_not (pt_truK K rfl (pe_call C__law_same.G (hr.mono (by first | decide | omega)) rfl C__law_same.mg C__law_same.kp C__law_same.b .nil pass0 (pa_cons (pe_ix (show IxR _ (rIx K) from ix_Z) (pe_call C__law_done.G (hr.mono (by first | decide | omega)) rfl C__law_done.mg C__law_done.kp C__law_done.b .nil pass0 (pa_cons (pv 0) (pa_cons (pv 2) (pa_cons (pv 3) pa_nil)))) pe_int (fun _ _ => rfl)) (pa_cons (pe_ix (show IxR _ (rIx K) from ix_Z) (pv 4) pe_int (fun _ _ => rfl)) pa_nil))) (by intro _; rfl))) (pss_one (ps_ret pe_bl)) pss_nil) (pss_one (ps_ret (pe_or (pe_cmpR (show OpR _ (compareOp .Eq) (rEqP K) from op_eqP hr.units) (pe_ix (show IxR _ (rIx K) from ix_Z) (pe_ix (show IxR _ (rIx K) from ix_Z) (pv 4) pe_int (fun _ _ => rfl)) pe_int (fun _ _ => rfl)) pe_str (nomark _)) (pe_one (pe_call C__law_refused.G (hr.mono (by first | decide | omega)) rfl C__law_refused.mg C__law_refused.kp C__law_refused.b .nil pass0 (pa_cons (pv 0) (pa_cons (pv 2) (pa_cons (pv 3) pa_nil)))))))))), fun ds R h => ?_⟩) (fun _ _ _ h => h)
  unfold S_law_right at h
  split at h
  · rename_i a b s0 p0
    obtain ⟨l, rfl, rfl, ho, hs, h⟩ := h
    show DS _ [.val (lobj C_Lot l), .val (rowD l), .val (.int s0), .val (.int p0), .no] _ _ _ _ _
    walk_at "z0"
    refine ds_seq (ds_asg (de_call ?_))
    walk_at "zs"
    refine ⟨l, rfl, ho, ?_⟩
    show DS _ [.val (lobj C_Lot l), .val (rowD l), .val (.int s0), .val (.int p0), .val (.lst [toldD l (planL l s0 p0), rowD (nextL l (planL l s0 p0))])] _ _ _ _ _
    walk_at "zs"
    refine ⟨l, rfl, ho, hs, ?_⟩
    walk_at "zs"
    refine FIx_lst (d := toldD l (planL l s0 p0)) rfl ?_
    walk_at "zs"
    refine FIx_lst (d := toldD l (planL l s0 p0)) rfl ?_
    walk_at "zs"
    refine ⟨rfl, ok_told ho, ?_⟩
    walk_at "zs"
    refine FIx_lst (d := toldD l (planL l s0 p0)) rfl ?_
    cases e : planL l s0 p0 with
    | inl y =>
      walk_at "zs"
      refine FIx_tup (d := .str "refused") rfl ?_
      walk_at "zs"
      · rename_i z
        cases (show False by revert z; decide)
      · exact ⟨l, y, rfl, ho, hs, e, h⟩
    | inr l' =>
      walk_at "zs"
      refine FIx_tup (d := .str "made") rfl ?_
      walk_at "zs"
      · exact h
      · rename_i z
        exact absurd rfl z
  · exact h.elim
abbrev st__law_each : Stmt := (top 31)
theorem sc__law_each : FnScope ["lot", "row", "place"] ["lot", "row"] (defScope st__law_each) := ⟨rfl, rfl, rfl, by decide +kernel, rfl, by decide +kernel, by decide +kernel⟩
theorem ok__law_each {C_Lot : Addr} {f : Addr} {fd : FuncData} (F : Fun K "_law_each" "_law_each" st__law_each f fd) {f__law_right : Addr} {fd__law_right : FuncData} (C__law_right : Cal P w K mg base CX0 11 "_law_right" ["lot", "row", "sign", "place"] (spD K T (S_law_right C_Lot)) f__law_right fd__law_right) (nb_range : mg "range" = none) :
    FnOk P w K mg base CX0 12 f fd ["lot", "row"] (spD K T (S_law_each C_Lot)) := by
  refine fn_D F sc__law_each (fun ds R X h => by unfold S_law_each at h; split at h <;> first | rfl | exact h.elim) (fun cdv A outer s H E hr => ⟨_, (pss_cons (ps_for PassesOwn.never rfl (pi_range2 (by rfl) nb_range (pa_cons (pe_un un_neg pe_int) (pa_cons pe_int pa_nil))) (pg_name (i := 2) sc__law_each.nd rfl (Or.inl rfl)) (pss_one (ps_if (PW.pt (pw_or (pt_not (pt_truK K rfl (pe_call C__law_right.G (hr.mono (by first | decide | omega)) rfl C__law_right.mg C__law_right.kp C__law_right.b .nil pass0 (pa_cons (pv 0) (pa_cons (pv 1) (pa_cons pe_int (pa_cons (pv 2) pa_nil))))) (by intro _; rfl))) (pw_or1 (pt_not (pt_truK K rfl (pe_call C__law_right.G (hr.mono (by first | decide | omega)) rfl C__law_right.mg C__law_right.kp C__law_right.b .nil pass0 (pa_cons (pv 0) (pa_cons (pv 1) (pa_cons pe_int (pa_cons (pv 2) pa_nil))))) (by intro _; rfl)))))) (pss_one (ps_ret pe_bl)) pss_nil))) (pss_one (ps_ret pe_bl))), fun ds R h => ?_⟩) (fun _ _ _ h => h)
  unfold S_law_each at h
  split at h
  · rename_i a b
    obtain ⟨l, rfl, rfl, ho, h⟩ := h
    show DS _ [.val (lobj C_Lot l), .val (rowD l), .no] _ _ _ _ _
    walk_at "z0"
    refine ds_seq (ds_forR2 (de_neg (dr_de (de_int ⟨1, rfl, de_int ⟨-1, 13, rfl, rfl, by decide, by decide, by decide, by decide, fun _ ρ' => ∃ s, ρ' = [.val (lobj C_Lot l), .val (rowD l), s], ⟨_, rfl⟩, ?_, ?_⟩⟩))))
    · rintro i _ hi ⟨s, rfl⟩
      walk_at "zs"
      refine ⟨l, rfl, rfl, ho, .inl rfl, ?_⟩
      walk_at "zs"
      refine ⟨l, rfl, rfl, ho, .inr rfl, ?_⟩
      walk_at "zs"
      exact ⟨_, rfl⟩
    · rintro _ ⟨s, rfl⟩
      walk_at "zs"
      exact h
  · exact h.elim
abbrev st__law_far : Stmt := (top 23)
theorem sc__law_far : FnScope ["source"] ["source"] (defScope st__law_far) := ⟨rfl, rfl, rfl, by decide +kernel, rfl, by decide +kernel, by decide +kernel⟩
theorem ok__law_far {f : Addr} {fd : FuncData} (F : Fun K "_law_far" "_law_far" st__law_far f fd) {f__law_draw : Addr} {fd__law_draw : FuncData} (C__law_draw : Cal P w K mg base CX0 2 "_law_draw" ["source", "limit"] (spD K T S_law_draw) f__law_draw fd__law_draw) :
    FnOk P w K mg base CX0 3 f fd ["source"] (spD K T S_law_far) := by
  refine fn_D F sc__law_far (fun ds R X h => by unfold S_law_far at h; split at h <;> first | rfl | exact h.elim) (fun cdv A outer s H E hr => ⟨_, (pss_cons (ps_if (pt_cmpR (show OpR _ (compareOp .Eq) (rEqP K) from op_eqP hr.units) (pe_call C__law_draw.G (hr.mono (by first | decide | omega)) rfl C__law_draw.mg C__law_draw.kp C__law_draw.b .nil pass0 (pa_cons (pv 0) (pa_cons pe_int pa_nil))) pe_int (nomark _)) (pss_one (ps_ret pe_int)) pss_nil) (pss_one (ps_ret (pe_call C__law_draw.G (hr.mono (by first | decide | omega)) rfl C__law_draw.mg C__law_draw.kp C__law_draw.b .nil pass0 (pa_cons (pv 0) (pa_cons (pe_op op_powZ pe_int pe_int) pa_nil)))))), fun ds R h => ?_⟩) (fun _ _ _ h => h)
  unfold S_law_far at h
  have e29 : (10 : Int) ^ Int.toNat 29 = 100000000000000000000000000000 := by decide
  split at h
  · show DS _ [.val .src] _ _ _ _ _
    walk_at "z0"
    walk_at "zs"
    refine ⟨by decide, by decide, fun n n0 n1 => ?_⟩
    walk_at "zs"
    · exact h 0 (by decide)
    · refine ⟨by rw [e29]; decide, by rw [e29]; decide, fun n n0 n1 => ?_⟩
      exact h n n0
  · exact h.elim
abbrev st__law_told_place : Stmt := (top 32)
theorem sc__law_told_place : FnScope ["source", "kind"] ["source"] (defScope st__law_told_place) := ⟨rfl, rfl, rfl, by decide +kernel, rfl, by decide +kernel, by decide +kernel⟩
theorem ok__law_told_place {f : Addr} {fd : FuncData} (F : Fun K "_law_told_place" "_law_told_place" st__law_told_place f fd) {f__law_draw : Addr} {fd__law_draw : FuncData} (C__law_draw : Cal P w K mg base CX0 2 "_law_draw" ["source", "limit"] (spD K T S_law_draw) f__law_draw fd__law_draw) {f__law_far : Addr} {fd__law_far : FuncData} (C__law_far : Cal P w K mg base CX0 3 "_law_far" ["source"] (spD K T S_law_far) f__law_far fd__law_far) :
    FnOk P w K mg base CX0 4 f fd ["source"] (spD K T S_law_told_place) := by
  refine fn_D F sc__law_told_place (fun ds R X h => by unfold S_law_told_place at h; split at h <;> first | rfl | exact h.elim) (fun cdv A outer s H E hr => ⟨_, (pss_cons (ps_set (i := 1) sc__law_told_place.nd rfl (Or.inl rfl) (pe_call C__law_draw.G (hr.mono (by first | decide | omega)) rfl C__law_draw.mg C__law_draw.kp C__law_draw.b .nil pass0 (pa_cons (pv 0) (pa_cons pe_int pa_nil)))) (pss_cons (ps_if (pt_cmpR (show OpR _ (compareOp .Eq) (rEqP K) from op_eqP hr.units) (pv 1) pe_int (nomark _)) (pss_one (ps_ret (pe_op op_subZ (pe_un un_neg pe_int) (pe_call C__law_far.G (hr.mono (by first | decide | omega)) rfl C__law_far.mg C__law_far.kp C__law_far.b .nil pass0 (pa_cons (pv 0) pa_nil))))) pss_nil) (pss_cons (ps_if (pt_cmpR (show OpR _ (compareOp .Eq) (rEqP K) from op_eqP hr.units) (pv 1) pe_int (nomark _)) (pss_one (ps_ret (pe_op (show OpR _ (binaryOp .Add) (rAddZ K) from op_addZ) pe_int (pe_call C__law_far.G (hr.mono (by first | decide | omega)) rfl C__law_far.mg C__law_far.kp C__law_far.b .nil pass0 (pa_cons (pv 0) pa_nil))))) pss_nil) (pss_one (ps_ret (pe_call C__law_draw.G (hr.mono (by first | decide | omega)) rfl C__law_draw.mg C__law_draw.kp C__law_draw.b .nil pass0 (pa_cons (pv 0) (pa_cons pe_int pa_nil)))))))), fun ds R h => ?_⟩) (fun _ _ _ h => h)
  unfold S_law_told_place at h
  split at h
  · show DS _ [.val .src, .no] _ _ _ _ _
    walk_at "z0"
    walk_at "zs"
    refine ⟨by decide, by decide, fun k k0 k1 => ?_⟩
    walk_at "zs"
    · refine ⟨1, rfl, ?_⟩
      walk_at "zs"
      intro n n0
      walk_at "zs"
      exact h _
    · intro n n0
      walk_at "zs"
      exact h _
    · exact ⟨by decide, by decide, fun n _ _ => h n⟩
  · exact h.elim
abbrev st_law : Stmt := (top 33)
theorem sc_law : FnScope ["script", "source", "bound", "rows", "lots", "k", "sign", "place"] ["script"] (defScope st_law) := ⟨rfl, rfl, rfl, by decide +kernel, rfl, by decide +kernel, by decide +kernel⟩
theorem ok_law {C_InvalidLot C_Lot : Addr} {f : Addr} {fd : FuncData} (F : Fun K "law" "law" st_law f fd) {f__law_source : Addr} {fd__law_source : FuncData} (C__law_source : Cal P w K mg base CX0 1 "_law_source" ["script"] (spD K T S_law_source) f__law_source fd__law_source) {f__law_draw : Addr} {fd__law_draw : FuncData} (C__law_draw : Cal P w K mg base CX0 2 "_law_draw" ["source", "limit"] (spD K T S_law_draw) f__law_draw fd__law_draw) {f__law_wide : Addr} {fd__law_wide : FuncData} (C__law_wide : Cal P w K mg base CX0 5 "_law_wide" ["source", "bound"] (spD K T S_law_wide) f__law_wide fd__law_wide) {f_Lot_init : Addr} {fd_Lot_init : FuncData} (K_Lot : CalK P w K mg base (L2.CX P w) 3 "Lot" C_Lot ["self", "members", "candidates", "price"] (spI K T C_Lot (SLot_init C_InvalidLot)) f_Lot_init fd_Lot_init) {f__law_each : Addr} {fd__law_each : FuncData} (C__law_each : Cal P w K mg base CX0 12 "_law_each" ["lot", "row"] (spD K T (S_law_each C_Lot)) f__law_each fd__law_each) {f__law_told_place : Addr} {fd__law_told_place : FuncData} (C__law_told_place : Cal P w K mg base CX0 4 "_law_told_place" ["source"] (spD K T S_law_told_place) f__law_told_place fd__law_told_place) {f__law_right : Addr} {fd__law_right : FuncData} (C__law_right : Cal P w K mg base CX0 11 "_law_right" ["lot", "row", "sign", "place"] (spD K T (S_law_right C_Lot)) f__law_right fd__law_right) {f__law_done : Addr} {fd__law_done : FuncData} (C__law_done : Cal P w K mg base CX0 6 "_law_done" ["lot", "sign", "place"] (spD K T (S_law_done C_Lot)) f__law_done fd__law_done) {f__law_planned : Addr} {fd__law_planned : FuncData} (C__law_planned : Cal P w K mg base CX0 3 "_law_planned" ["row", "sign", "place"] (spD K T S_law_planned) f__law_planned fd__law_planned) {f__law_same : Addr} {fd__law_same : FuncData} (C__law_same : Cal P w K mg base CX0 10 "_law_same" ["actual", "expected"] (spD K T (S_law_same 8)) f__law_same fd__law_same) {f__law_due : Addr} {fd__law_due : FuncData} (C__law_due : Cal P w K mg base CX0 2 "_law_due" ["row"] (spD K T S_law_due) f__law_due fd__law_due) {f__law_fields : Addr} {fd__law_fields : FuncData} (C__law_fields : Cal P w K mg base CX0 3 "_law_fields" ["lot"] (spD K T (S_law_fields C_Lot)) f__law_fields fd__law_fields) (nb_len : mg "len" = none) (nb_list : mg "list" = none) (nb_range : mg "range" = none) :
    FnOk P w K mg base CX0 13 f fd ["script"] (spD K T (S_law C_Lot)) := by
  refine fn_D F sc_law (fun ds R X h => by unfold S_law at h; split at h <;> first | rfl | exact h.elim) (fun cdv A outer s H E hr => ⟨_, (pss_cons (ps_set (i := 1) sc_law.nd rfl (Or.inl rfl) (pe_call C__law_source.G (hr.mono (by first | decide | omega)) rfl C__law_source.mg C__law_source.kp C__law_source.b .nil pass0 (pa_cons (pv 0) pa_nil))) (pss_cons (ps_set (i := 2) sc_law.nd rfl (Or.inl rfl) pe_int) (pss_cons (ps_if (pt_cmpR (show OpR _ (compareOp .Eq) (rEqP K) from op_eqP hr.units) (pe_call C__law_draw.G (hr.mono (by first | decide | omega)) rfl C__law_draw.mg C__law_draw.kp C__law_draw.b .nil pass0 (pa_cons (pv 1) (pa_cons pe_int pa_nil))) pe_int (nomark _)) (pss_one (ps_set (i := 2) sc_law.nd rfl (Or.inl rfl) (pe_op (show OpR _ (binaryOp .Add) (rAddZ K) from op_addZ) pe_int (pe_call C__law_draw.G (hr.mono (by first | decide | omega)) rfl C__law_draw.mg C__law_draw.kp C__law_draw.b .nil pass0 (pa_cons (pv 1) (pa_cons pe_int pa_nil)))))) pss_nil) (pss_cons (ps_set (i := 3) sc_law.nd rfl (Or.inl rfl) (pe_lst (pa_cons (pe_call C__law_wide.G (hr.mono (by first | decide | omega)) rfl C__law_wide.mg C__law_wide.kp C__law_wide.b .nil pass0 (pa_cons (pv 1) (pa_cons (pv 2) pa_nil))) pa_nil))) (pss_cons (ps_set (i := 4) sc_law.nd rfl (Or.inl rfl) (pe_lst (pa_cons (pe_make K_Lot.M K_Lot.G (hr.mono (by first | decide | omega)) rfl K_Lot.mg K_Lot.b .nil passL (pa_cons (pe_fz (pe_callTy (show CallR _ (.type "list") (rListZ K) from call_listZ) (by rfl) nb_list (by decide +kernel) (pa_cons (pe_ix (show IxR _ (rIx K) from ix_Z) (pe_ix (show IxR _ (rIx K) from ix_Z) (pv 3) pe_int (fun _ _ => rfl)) pe_int (fun _ _ => rfl)) pa_nil))) (pa_cons (pe_fz (pe_callTy (show CallR _ (.type "list") (rListZ K) from call_listZ) (by rfl) nb_list (by decide +kernel) (pa_cons (pe_ix (show IxR _ (rIx K) from ix_Z) (pe_ix (show IxR _ (rIx K) from ix_Z) (pv 3) pe_int (fun _ _ => rfl)) pe_int (fun _ _ => rfl)) pa_nil))) (pa_cons (pe_ix (show IxR _ (rIx K) from ix_Z) (pe_ix (show IxR _ (rIx K) from ix_Z) (pv 3) pe_int (fun _ _ => rfl)) pe_int (fun _ _ => rfl)) pa_nil)))) pa_nil))) (pss_cons (ps_if (pt_not (pt_truK K rfl (pe_call C__law_each.G (hr.mono (by first | decide | omega)) rfl C__law_each.mg C__law_each.kp C__law_each.b .nil pass0 (pa_cons (pe_ix (show IxR _ (rIx K) from ix_Z) (pv 4) pe_int (fun _ _ => rfl)) (pa_cons (pe_ix (show IxR _ (rIx K) from ix_Z) (pv 3) pe_int (fun _ _ => rfl)) pa_nil))) (by intro _; rfl))) (pss_one (ps_ret pe_bl)) pss_nil) (pss_cons (ps_for PassesOwn.never rfl (pi_range1 (by rfl) nb_range (pa_cons (pe_call C__law_draw.G (hr.mono (by first | decide | omega)) rfl C__law_draw.mg C__law_draw.kp C__law_draw.b .nil pass0 (pa_cons (pv 1) (pa_cons pe_int pa_nil))) pa_nil)) (pg_name (i := 5) sc_law.nd rfl (Or.inl rfl)) (pss_cons (ps_set (i := 6) sc_law.nd rfl (Or.inl rfl) (pe_call C__law_draw.G (hr.mono (by first | decide | omega)) rfl C__law_draw.mg C__law_draw.kp C__law_draw.b .nil pass0 (pa_cons (pv 1) (pa_cons pe_int pa_nil)))) (pss_cons (ps_set (i := 7) sc_law.nd rfl (Or.inl rfl) (pe_call C__law_told_place.G (hr.mono (by first | decide | omega)) rfl C__law_told_place.mg C__law_told_place.kp C__law_told_place.b .nil pass0 (pa_cons (pv 1) pa_nil))) (pss_cons (ps_if (pt_not (pt_truK K rfl (pe_call C__law_right.G (hr.mono (by first | decide | omega)) rfl C__law_right.mg C__law_right.kp C__law_right.b .nil pass0 (pa_cons (pe_ix (show IxR _ (rIx K) from ix_Z) (pv 4) (pv 5) (fun _ _ => rfl)) (pa_cons (pe_ix (show IxR _ (rIx K) from ix_Z) (pv 3) (pv 5) (fun _ _ => rfl)) (pa_cons (pv 6) (pa_cons (pv 7) pa_nil))))) (by intro _; rfl))) (pss_one (ps_ret pe_bl)) pss_nil) (pss_cons (ps_expr (pe_bm PySem.F.plainAttrs_list PySem.F.slot_list_append PySem.F.type_list_append mt_append (pv 4) (pa_cons (pe_ix (show IxR _ (rIx K) from ix_Z) (pe_call C__law_done.G (hr.mono (by first | decide | omega)) rfl C__law_done.mg C__law_done.kp C__law_done.b .nil pass0 (pa_cons (pe_ix (show IxR _ (rIx K) from ix_Z) (pv 4) (pv 5) (fun _ _ => rfl)) (pa_cons (pv 6) (pa_cons (pv 7) pa_nil)))) pe_int (fun _ _ => rfl)) pa_nil))) (pss_one (ps_expr (pe_bm PySem.F.plainAttrs_list PySem.F.slot_list_append PySem.F.type_list_append mt_append (pv 3) (pa_cons (pe_ix (show IxR _ (rIx K) from ix_Z) (pe_call C__law_planned.G (hr.mono (by first | decide | omega)) rfl C__law_planned.mg C__law_planned.kp C__law_planned.b .nil pass0 (pa_cons (pe_ix (show IxR _ (rIx K) from ix_Z) (pv 3) (pv 5) (fun _ _ => rfl)) (pa_cons (pv 6) (pa_cons (pv 7) pa_nil)))) pe_int (fun _ _ => rfl)) pa_nil))))))))) (pss_cons (ps_for PassesOwn.never rfl (pi_range1 (by rfl) nb_range (pa_cons (pe_callB (show CallR _ (.builtin "len") (rLenZ K) from call_lenZ) (by rfl) nb_len (by decide +kernel) (pa_cons (pv 3) pa_nil)) pa_nil)) (pg_name (i := 5) sc_law.nd rfl (Or.inl rfl)) (pss_one (ps_if (pt_not (pt_truK K rfl (pe_call C__law_same.G (hr.mono (by first | decide | omega)) rfl C__law_same.mg C__law_same.kp C__law_same.b .nil pass0 (pa_cons (pe_call C__law_fields.G (hr.mono (by first | decide | omega)) rfl C__law_fields.mg C__law_fields.kp C__law_fields.b .nil pass0 (pa_cons (pe_ix (show IxR _ (rIx K) from ix_Z) (pv 4) (pv 5) (fun _ _ => rfl)) pa_nil)) (pa_cons (pe_call C__law_due.G (hr.mono (by first | decide | omega)) rfl C__law_due.mg C__law_due.kp C__law_due.b .nil pass0 (pa_cons (pe_ix (show IxR _ (rIx K) from ix_Z) (pv 3) (pv 5) (fun _ _ => rfl)) pa_nil)) pa_nil))) (by intro _; rfl))) (pss_one (ps_ret pe_bl)) pss_nil))) (pss_one (ps_ret (pe_call C__law_each.G (hr.mono (by first | decide | omega)) rfl C__law_each.mg C__law_each.kp C__law_each.b .nil pass0 (pa_cons (pe_ix (show IxR _ (rIx K) from ix_Z) (pv 4) (pe_op op_subZ (pe_callB (show CallR _ (.builtin "len") (rLenZ K) from call_lenZ) (by rfl) nb_len (by decide +kernel) (pa_cons (pv 3) pa_nil)) pe_int) (fun _ _ => rfl)) (pa_cons (pe_ix (show IxR _ (rIx K) from ix_Z) (pv 3) (pe_op op_subZ (pe_callB (show CallR _ (.builtin "len") (rLenZ K) from call_lenZ) (by rfl) nb_len (by decide +kernel) (pa_cons (pv 3) pa_nil)) pe_int) (fun _ _ => rfl)) pa_nil))))))))))))), fun ds R h => ?_⟩) (fun _ _ _ h => h)
  unfold S_law at h
  split at h
  · rename_i ns
    show DS _ [.val (.scr ns), .no, .no, .no, .no, .no, .no, .no] _ _ _ _ _
    walk_at "z0"
    walk_at "zs"
    show DS _ [.val (.scr ns), .val .src, .no, .no, .no, .no, .no, .no] _ _ _ _ _
    refine ds_seq (ds_asg (de_int ?_))
    refine ds_seq (ds_mono (N' := fun ρ' => ∃ b : Int, 2 ≤ b ∧ b ≤ 12 ∧ ρ' = [.val (.scr ns), .val .src, .val (.int b), .no, .no, .no, .no, .no]) ?_ ?_)
    · walk_at "zs"
      refine ⟨by decide, by decide, fun z _ _ => ?_⟩
      walk_at "zs"
      · refine ⟨by decide, by decide, fun n n0 n1 => ?_⟩
        walk_at "zs"
        exact ⟨_, by omega, by omega, rfl⟩
      · exact ⟨12, by decide, by decide, rfl⟩
    rintro _ ⟨b, b0, b1, rfl⟩
    refine ds_seq (ds_asgL (dl_lst (da_cons (de_call ?_))))
    walk_at "zs"
    refine ⟨b0, by omega, fun l hl => ?_⟩
    have ho := hl.wide b1
    have hz := nums_len l.ms
    have hc := nums_len l.cs
    walk_at "zs"
    refine FIx_lst (d := rowD l) rfl ?_
    walk_at "zs"
    refine FIx_tup (d := .lst (numsD l.ms)) rfl ?_
    walk_at "zs"
    refine FIx_lst (d := rowD l) rfl ?_
    walk_at "zs"
    refine FIx_tup (d := .lst (numsD l.cs)) rfl ?_
    walk_at "zs"
    refine FIx_lst (d := rowD l) rfl ?_
    walk_at "zs"
    refine FIx_tup (d := .int l.pr) rfl ?_
    walk_at "zs"
    obtain ⟨oM, oC, oP⟩ := lot_ok ho
    refine ⟨l.ms, l.cs, .inl rfl, .inl (.inl rfl), ho.1.2.2, ho.2.2.1.2.2.2, ?_⟩
    unfold lotEnd lotWhy
    rw [if_neg (by rw [oM]; decide), if_neg (by rw [oC]; decide), if_neg (by rw [oP]; decide)]
    walk_at "zs"
    refine FIx_lst (d := lobj C_Lot l) rfl ?_
    walk_at "zs"
    refine FIx_lst (d := rowD l) rfl ?_
    walk_at "zs"
    refine ⟨l, rfl, rfl, ho, ?_⟩
    walk_at "zs"
    refine ds_mono (N' := fun ρ' => ∃ (qs : List LotT) (s5 s6 s7 : S), ρ' = [.val (.scr ns), .val .src, .val (.int b), .own (qs.map rowD), .own (qs.map (lobj C_Lot)), s5, s6, s7] ∧ 0 < qs.length ∧ qs.length ≤ 100 ∧ ∀ q ∈ qs, LotOk 12 q) ?_ ?_
    · refine ds_forR ?_
      walk_at "zs"
      refine ⟨by decide, by decide, fun n n0 n1 => ?_⟩
      refine ⟨_, rfl, by omega, by omega, fun i ρ' => ∃ (qs : List LotT) (s5 s6 s7 : S), ρ' = [.val (.scr ns), .val .src, .val (.int b), .own (qs.map rowD), .own (qs.map (lobj C_Lot)), s5, s6, s7] ∧ qs.length = i + 1 ∧ ∀ q ∈ qs, LotOk 12 q, ⟨[l], .no, .no, .no, rfl, rfl, by simpa using ho⟩, ?_, ?_⟩
      · rintro i _ hi ⟨qs, s5, s6, s7, rfl, hl, hq⟩
        obtain ⟨x, ex⟩ : ∃ x, qs[i]? = some x := ⟨_, List.getElem?_eq_getElem (by omega)⟩
        have hx := hq x (List.mem_of_getElem? ex)
        have eo : atI (qs.map (lobj C_Lot)) (i : Int) = some (lobj C_Lot x) := atI_nat (by rw [List.getElem?_map, ex]; rfl)
        have er : atI (qs.map rowD) (i : Int) = some (rowD x) := atI_nat (by rw [List.getElem?_map, ex]; rfl)
        walk_at "zs"
        refine ⟨by decide, by decide, fun sg sg0 sg1 => ?_⟩
        walk_at "zs"
        intro pl
        walk_at "zs"
        refine FIx_lst eo ?_
        walk_at "zs"
        refine FIx_lst er ?_
        walk_at "zs"
        refine ⟨x, rfl, rfl, hx, by omega, ?_⟩
        walk_at "zs"
        refine FIx_lst eo ?_
        walk_at "zs"
        refine ⟨x, rfl, hx, by omega, ?_⟩
        walk_at "zs"
        refine FIx_lst (d := lobj C_Lot (nextL x (planL x sg pl))) rfl ?_
        refine ⟨by rw [List.length_map]; omega, ?_⟩
        walk_at "zs"
        refine FIx_lst er ?_
        walk_at "zs"
        refine ⟨x, rfl, hx, ?_⟩
        walk_at "zs"
        refine FIx_lst (d := rowD (nextL x (planL x sg pl))) rfl ?_
        refine ⟨by rw [List.length_map]; omega, qs ++ [nextL x (planL x sg pl)], .val (.int i), .val (.int sg), .val (.int pl), ?_, by simp [hl], fun q hq' => ?_⟩
        · rw [List.map_append, List.map_append]
          rfl
        · rcases List.mem_append.mp hq' with z | z
          · exact hq q z
          · cases List.mem_singleton.mp z
            exact next_ok hx
      · rintro _ ⟨qs, s5, s6, s7, rfl, hl, hq⟩
        exact ⟨qs, s5, s6, s7, rfl, by omega, by omega, hq⟩
    · rintro _ ⟨qs, s5, s6, s7, rfl, hl0, hl, hq⟩
      have hlm : (qs.map rowD).length = qs.length := List.length_map ..
      refine ds_seq (ds_mono (N' := fun ρ' => ∃ s5 s6 s7, ρ' = [.val (.scr ns), .val .src, .val (.int b), .own (qs.map rowD), .own (qs.map (lobj C_Lot)), s5, s6, s7]) ?_ ?_)
      · refine ds_forR ?_
        walk_at "zs"
        refine ⟨_, rfl, by omega, by omega, fun i ρ' => ∃ s5 s6 s7, ρ' = [.val (.scr ns), .val .src, .val (.int b), .own (qs.map rowD), .own (qs.map (lobj C_Lot)), s5, s6, s7], ⟨_, _, _, rfl⟩, ?_, fun _ z => z⟩
        rintro i _ hi ⟨s5, s6, s7, rfl⟩
        obtain ⟨x, ex⟩ : ∃ x, qs[i]? = some x := ⟨_, List.getElem?_eq_getElem (by omega)⟩
        have hx := hq x (List.mem_of_getElem? ex)
        have eo : atI (qs.map (lobj C_Lot)) (i : Int) = some (lobj C_Lot x) := atI_nat (by rw [List.getElem?_map, ex]; rfl)
        have er : atI (qs.map rowD) (i : Int) = some (rowD x) := atI_nat (by rw [List.getElem?_map, ex]; rfl)
        walk_at "zs"
        refine FIx_lst eo ?_
        walk_at "zs"
        refine ⟨x, rfl, hx, ?_⟩
        walk_at "zs"
        refine FIx_lst er ?_
        walk_at "zs"
        have r1 := row_le hx.1
        have r2 := List.Nodup.length_le_of_subset hx.2.2.1.1 hx.2.2.1.2.1
        refine ⟨x, rfl, by omega, by omega, ?_⟩
        walk_at "zs"
        refine ⟨rfl, ok_fields (n := 5) hx.1.2.2 hx.2.2.1.2.2.2, ?_⟩
        walk_at "zs"
        exact ⟨_, _, _, rfl⟩
      · rintro _ ⟨s5, s6, s7, rfl⟩
        obtain ⟨x, ex⟩ : ∃ x, qs[qs.length - 1]? = some x := ⟨_, List.getElem?_eq_getElem (by omega)⟩
        have hx := hq x (List.mem_of_getElem? ex)
        have ei : ((qs.map rowD).length : Int) - 1 = ((qs.length - 1 : Nat) : Int) := by omega
        have eo : atI (qs.map (lobj C_Lot)) ((qs.length - 1 : Nat) : Int) = some (lobj C_Lot x) := atI_nat (by rw [List.getElem?_map, ex]; rfl)
        have er : atI (qs.map rowD) ((qs.length - 1 : Nat) : Int) = some (rowD x) := atI_nat (by rw [List.getElem?_map, ex]; rfl)
        walk_at "zs"
        rw [ei]
        refine FIx_lst eo ?_
        walk_at "zs"
        rw [ei]
        refine FIx_lst er ?_
        walk_at "zs"
        exact ⟨x, rfl, rfl, hx, h⟩
  · exact h.elim
def tbZ (C_Lot : Addr) : Tb := fun a => if a = C_Lot then ["members", "candidates", "price"] else []
theorem all_mk {l : PySem.W.OpenLaw} {w : World} {K : PySem.W.Frag} {h : Heap} {mg : Str → Option Value} {fa : Addr} (X : K.In h) (G : h.Ns mainGlobals mg) (hfa : mg "law" = some (.ref fa))
    {f__law_source : Addr} {od__law_source an__law_source : Option Addr} {sl__law_source : Array (Option Value)} {oc__law_source kV__law_source dc__law_source pm__law_source cd__law_source ct__law_source : Value}
    {f__law_mixed : Addr} {od__law_mixed an__law_mixed : Option Addr} {sl__law_mixed : Array (Option Value)} {oc__law_mixed kV__law_mixed dc__law_mixed pm__law_mixed cd__law_mixed ct__law_mixed : Value}
    {f__law_draw : Addr} {od__law_draw an__law_draw : Option Addr} {sl__law_draw : Array (Option Value)} {oc__law_draw kV__law_draw dc__law_draw pm__law_draw cd__law_draw ct__law_draw : Value}
    {f__law_some : Addr} {od__law_some an__law_some : Option Addr} {sl__law_some : Array (Option Value)} {oc__law_some kV__law_some dc__law_some pm__law_some cd__law_some ct__law_some : Value}
    {f__law_pick : Addr} {od__law_pick an__law_pick : Option Addr} {sl__law_pick : Array (Option Value)} {oc__law_pick kV__law_pick dc__law_pick pm__law_pick cd__law_pick ct__law_pick : Value}
    {f__law_shuffled : Addr} {od__law_shuffled an__law_shuffled : Option Addr} {sl__law_shuffled : Array (Option Value)} {oc__law_shuffled kV__law_shuffled dc__law_shuffled pm__law_shuffled cd__law_shuffled ct__law_shuffled : Value}
    {f__law_menu : Addr} {od__law_menu an__law_menu : Option Addr} {sl__law_menu : Array (Option Value)} {oc__law_menu kV__law_menu dc__law_menu pm__law_menu cd__law_menu ct__law_menu : Value}
    {f__law_cost : Addr} {od__law_cost an__law_cost : Option Addr} {sl__law_cost : Array (Option Value)} {oc__law_cost kV__law_cost dc__law_cost pm__law_cost cd__law_cost ct__law_cost : Value}
    {f__law_wide : Addr} {od__law_wide an__law_wide : Option Addr} {sl__law_wide : Array (Option Value)} {oc__law_wide kV__law_wide dc__law_wide pm__law_wide cd__law_wide ct__law_wide : Value}
    {f_all_different : Addr} {od_all_different an_all_different : Option Addr} {sl_all_different : Array (Option Value)} {oc_all_different kV_all_different dc_all_different pm_all_different cd_all_different ct_all_different : Value}
    {C_InvalidLot : Addr}
    {C_NetworkError : Addr}
    {nm_InvalidLot q_InvalidLot : Str} {N_InvalidLot : Addr} {bs_InvalidLot : List Value} {sn_InvalidLot : List Str} {sub_InvalidLot : List Value} {ab_InvalidLot : Bool} {col_InvalidLot : Option Bool} {dd_InvalidLot : Option Addr} {k0_InvalidLot k1_InvalidLot k2_InvalidLot k3_InvalidLot k5_InvalidLot : Option Value}
    {f_InvalidLot_init cc_InvalidLot_init cda_InvalidLot_init : Addr} {kV_InvalidLot_init dc_InvalidLot_init pm_InvalidLot_init ct_InvalidLot_init oc_InvalidLot_init ccl_InvalidLot_init cl_InvalidLot_init : Value} {an_InvalidLot_init od_InvalidLot_init cdd_InvalidLot_init cld_InvalidLot_init : Option Addr} {sl_InvalidLot_init ccs_InvalidLot_init csl_InvalidLot_init : Array (Option Value)} {vs_InvalidLot_init : Array Value} {file_InvalidLot_init : Str} {tf_InvalidLot_init : Tok}
    {f_Lot_init : Addr} {od_Lot_init an_Lot_init : Option Addr} {sl_Lot_init : Array (Option Value)} {oc_Lot_init kV_Lot_init dc_Lot_init pm_Lot_init cd_Lot_init ct_Lot_init : Value}
    {C_Lot : Addr}
    {tk1_Lot_init : Tok}
    {T_Lot_init : Addr} {toc_Lot_init : Value} {tod_Lot_init : Option Addr} {tn_Lot_init : Nat} {tsl_Lot_init : Array (Option Value)}
    {t_MOST_PLACES : Tok}
    {t_MOST_PRICE : Tok}
    {f__law_up : Addr} {od__law_up an__law_up : Option Addr} {sl__law_up : Array (Option Value)} {oc__law_up kV__law_up dc__law_up pm__law_up cd__law_up ct__law_up : Value}
    {f__law_due : Addr} {od__law_due an__law_due : Option Addr} {sl__law_due : Array (Option Value)} {oc__law_due kV__law_due dc__law_due pm__law_due cd__law_due ct__law_due : Value}
    {f__law_planned : Addr} {od__law_planned an__law_planned : Option Addr} {sl__law_planned : Array (Option Value)} {oc__law_planned kV__law_planned dc__law_planned pm__law_planned cd__law_planned ct__law_planned : Value}
    {f__law_number : Addr} {od__law_number an__law_number : Option Addr} {sl__law_number : Array (Option Value)} {oc__law_number kV__law_number dc__law_number pm__law_number cd__law_number ct__law_number : Value}
    {f__law_same : Addr} {od__law_same an__law_same : Option Addr} {sl__law_same : Array (Option Value)} {oc__law_same kV__law_same dc__law_same pm__law_same cd__law_same ct__law_same : Value}
    {f_Lot_is_free : Addr} {od_Lot_is_free an_Lot_is_free : Option Addr} {sl_Lot_is_free : Array (Option Value)} {oc_Lot_is_free kV_Lot_is_free dc_Lot_is_free pm_Lot_is_free cd_Lot_is_free ct_Lot_is_free : Value}
    {p_Lot_is_free : Addr} {r_Lot_is_free : List Value}
    {f_Lot_add : Addr} {od_Lot_add an_Lot_add : Option Addr} {sl_Lot_add : Array (Option Value)} {oc_Lot_add kV_Lot_add dc_Lot_add pm_Lot_add cd_Lot_add ct_Lot_add : Value}
    {f_Lot_sub : Addr} {od_Lot_sub an_Lot_sub : Option Addr} {sl_Lot_sub : Array (Option Value)} {oc_Lot_sub kV_Lot_sub dc_Lot_sub pm_Lot_sub cd_Lot_sub ct_Lot_sub : Value}
    {f_Lot_len : Addr} {od_Lot_len an_Lot_len : Option Addr} {sl_Lot_len : Array (Option Value)} {oc_Lot_len kV_Lot_len dc_Lot_len pm_Lot_len cd_Lot_len ct_Lot_len : Value}
    {f__law_fields : Addr} {od__law_fields an__law_fields : Option Addr} {sl__law_fields : Array (Option Value)} {oc__law_fields kV__law_fields dc__law_fields pm__law_fields cd__law_fields ct__law_fields : Value}
    {f__law_done : Addr} {od__law_done an__law_done : Option Addr} {sl__law_done : Array (Option Value)} {oc__law_done kV__law_done dc__law_done pm__law_done cd__law_done ct__law_done : Value}
    {f__law_refused : Addr} {od__law_refused an__law_refused : Option Addr} {sl__law_refused : Array (Option Value)} {oc__law_refused kV__law_refused dc__law_refused pm__law_refused cd__law_refused ct__law_refused : Value}
    {C_Mismatch : Addr}
    {nm_Mismatch q_Mismatch : Str} {N_Mismatch : Addr} {bs_Mismatch : List Value} {sn_Mismatch : List Str} {sub_Mismatch : List Value} {ab_Mismatch : Bool} {col_Mismatch : Option Bool} {dd_Mismatch : Option Addr} {k0_Mismatch k1_Mismatch k2_Mismatch k3_Mismatch k5_Mismatch : Option Value}
    {nm_NetworkError q_NetworkError : Str} {N_NetworkError : Addr} {bs_NetworkError : List Value} {sn_NetworkError : List Str} {sub_NetworkError : List Value} {ab_NetworkError : Bool} {col_NetworkError : Option Bool} {dd_NetworkError : Option Addr} {k0_NetworkError k1_NetworkError k2_NetworkError k3_NetworkError k5_NetworkError : Option Value}
    {C_PlaceOutOfRange : Addr}
    {nm_PlaceOutOfRange q_PlaceOutOfRange : Str} {N_PlaceOutOfRange : Addr} {bs_PlaceOutOfRange : List Value} {sn_PlaceOutOfRange : List Str} {sub_PlaceOutOfRange : List Value} {ab_PlaceOutOfRange : Bool} {col_PlaceOutOfRange : Option Bool} {dd_PlaceOutOfRange : Option Addr} {k0_PlaceOutOfRange k1_PlaceOutOfRange k2_PlaceOutOfRange k3_PlaceOutOfRange k5_PlaceOutOfRange : Option Value}
    {f__law_right : Addr} {od__law_right an__law_right : Option Addr} {sl__law_right : Array (Option Value)} {oc__law_right kV__law_right dc__law_right pm__law_right cd__law_right ct__law_right : Value}
    {f__law_each : Addr} {od__law_each an__law_each : Option Addr} {sl__law_each : Array (Option Value)} {oc__law_each kV__law_each dc__law_each pm__law_each cd__law_each ct__law_each : Value}
    {f__law_far : Addr} {od__law_far an__law_far : Option Addr} {sl__law_far : Array (Option Value)} {oc__law_far kV__law_far dc__law_far pm__law_far cd__law_far ct__law_far : Value}
    {f__law_told_place : Addr} {od__law_told_place an__law_told_place : Option Addr} {sl__law_told_place : Array (Option Value)} {oc__law_told_place kV__law_told_place dc__law_told_place pm__law_told_place cd__law_told_place ct__law_told_place : Value}
    {f_law : Addr} {od_law an_law : Option Addr} {sl_law : Array (Option Value)} {oc_law kV_law dc_law pm_law cd_law ct_law : Value}
    (a__law_source : PySem.W.nsIn K mainGlobals "_law_source" = some (some (.ref f__law_source)))
    (l__law_source : K.lookup f__law_source = some ⟨oc__law_source, od__law_source, .func (PySem.W.fnOf "_law_source" "_law_source" (defArgs st__law_source) (defBody st__law_source) (defScope st__law_source) .none kV__law_source dc__law_source pm__law_source an__law_source cd__law_source ct__law_source), sl__law_source⟩)
    (c__law_source : PySem.W.codeIn K cd__law_source "_law_source" = true)
    (k__law_source : PySem.W.keepIn K (.ref f__law_source) = true)
    (z_list : PySem.W.nsIn K mainGlobals "list" = some none)
    (a__law_mixed : PySem.W.nsIn K mainGlobals "_law_mixed" = some (some (.ref f__law_mixed)))
    (l__law_mixed : K.lookup f__law_mixed = some ⟨oc__law_mixed, od__law_mixed, .func (PySem.W.fnOf "_law_mixed" "_law_mixed" (defArgs st__law_mixed) (defBody st__law_mixed) (defScope st__law_mixed) .none kV__law_mixed dc__law_mixed pm__law_mixed an__law_mixed cd__law_mixed ct__law_mixed), sl__law_mixed⟩)
    (c__law_mixed : PySem.W.codeIn K cd__law_mixed "_law_mixed" = true)
    (k__law_mixed : PySem.W.keepIn K (.ref f__law_mixed) = true)
    (z_int : PySem.W.nsIn K mainGlobals "int" = some none)
    (a__law_draw : PySem.W.nsIn K mainGlobals "_law_draw" = some (some (.ref f__law_draw)))
    (l__law_draw : K.lookup f__law_draw = some ⟨oc__law_draw, od__law_draw, .func (PySem.W.fnOf "_law_draw" "_law_draw" (defArgs st__law_draw) (defBody st__law_draw) (defScope st__law_draw) .none kV__law_draw dc__law_draw pm__law_draw an__law_draw cd__law_draw ct__law_draw), sl__law_draw⟩)
    (c__law_draw : PySem.W.codeIn K cd__law_draw "_law_draw" = true)
    (k__law_draw : PySem.W.keepIn K (.ref f__law_draw) = true)
    (z_len : PySem.W.nsIn K mainGlobals "len" = some none)
    (a__law_some : PySem.W.nsIn K mainGlobals "_law_some" = some (some (.ref f__law_some)))
    (l__law_some : K.lookup f__law_some = some ⟨oc__law_some, od__law_some, .func (PySem.W.fnOf "_law_some" "_law_some" (defArgs st__law_some) (defBody st__law_some) (defScope st__law_some) .none kV__law_some dc__law_some pm__law_some an__law_some cd__law_some ct__law_some), sl__law_some⟩)
    (c__law_some : PySem.W.codeIn K cd__law_some "_law_some" = true)
    (k__law_some : PySem.W.keepIn K (.ref f__law_some) = true)
    (z_range : PySem.W.nsIn K mainGlobals "range" = some none)
    (a__law_pick : PySem.W.nsIn K mainGlobals "_law_pick" = some (some (.ref f__law_pick)))
    (l__law_pick : K.lookup f__law_pick = some ⟨oc__law_pick, od__law_pick, .func (PySem.W.fnOf "_law_pick" "_law_pick" (defArgs st__law_pick) (defBody st__law_pick) (defScope st__law_pick) .none kV__law_pick dc__law_pick pm__law_pick an__law_pick cd__law_pick ct__law_pick), sl__law_pick⟩)
    (c__law_pick : PySem.W.codeIn K cd__law_pick "_law_pick" = true)
    (k__law_pick : PySem.W.keepIn K (.ref f__law_pick) = true)
    (a__law_shuffled : PySem.W.nsIn K mainGlobals "_law_shuffled" = some (some (.ref f__law_shuffled)))
    (l__law_shuffled : K.lookup f__law_shuffled = some ⟨oc__law_shuffled, od__law_shuffled, .func (PySem.W.fnOf "_law_shuffled" "_law_shuffled" (defArgs st__law_shuffled) (defBody st__law_shuffled) (defScope st__law_shuffled) .none kV__law_shuffled dc__law_shuffled pm__law_shuffled an__law_shuffled cd__law_shuffled ct__law_shuffled), sl__law_shuffled⟩)
    (c__law_shuffled : PySem.W.codeIn K cd__law_shuffled "_law_shuffled" = true)
    (k__law_shuffled : PySem.W.keepIn K (.ref f__law_shuffled) = true)
    (a__law_menu : PySem.W.nsIn K mainGlobals "_law_menu" = some (some (.ref f__law_menu)))
    (l__law_menu : K.lookup f__law_menu = some ⟨oc__law_menu, od__law_menu, .func (PySem.W.fnOf "_law_menu" "_law_menu" (defArgs st__law_menu) (defBody st__law_menu) (defScope st__law_menu) .none kV__law_menu dc__law_menu pm__law_menu an__law_menu cd__law_menu ct__law_menu), sl__law_menu⟩)
    (c__law_menu : PySem.W.codeIn K cd__law_menu "_law_menu" = true)
    (k__law_menu : PySem.W.keepIn K (.ref f__law_menu) = true)
    (a__law_cost : PySem.W.nsIn K mainGlobals "_law_cost" = some (some (.ref f__law_cost)))
    (l__law_cost : K.lookup f__law_cost = some ⟨oc__law_cost, od__law_cost, .func (PySem.W.fnOf "_law_cost" "_law_cost" (defArgs st__law_cost) (defBody st__law_cost) (defScope st__law_cost) .none kV__law_cost dc__law_cost pm__law_cost an__law_cost cd__law_cost ct__law_cost), sl__law_cost⟩)
    (c__law_cost : PySem.W.codeIn K cd__law_cost "_law_cost" = true)
    (k__law_cost : PySem.W.keepIn K (.ref f__law_cost) = true)
    (a__law_wide : PySem.W.nsIn K mainGlobals "_law_wide" = some (some (.ref f__law_wide)))
    (l__law_wide : K.lookup f__law_wide = some ⟨oc__law_wide, od__law_wide, .func (PySem.W.fnOf "_law_wide" "_law_wide" (defArgs st__law_wide) (defBody st__law_wide) (defScope st__law_wide) .none kV__law_wide dc__law_wide pm__law_wide an__law_wide cd__law_wide ct__law_wide), sl__law_wide⟩)
    (c__law_wide : PySem.W.codeIn K cd__law_wide "_law_wide" = true)
    (k__law_wide : PySem.W.keepIn K (.ref f__law_wide) = true)
    (a_all_different : PySem.W.nsIn K mainGlobals "all_different" = some (some (.ref f_all_different)))
    (l_all_different : K.lookup f_all_different = some ⟨oc_all_different, od_all_different, .func (PySem.W.fnOf "all_different" "all_different" (defArgs st_all_different) (defBody st_all_different) (defScope st_all_different) .none kV_all_different dc_all_different pm_all_different an_all_different cd_all_different ct_all_different), sl_all_different⟩)
    (c_all_different : PySem.W.codeIn K cd_all_different "all_different" = true)
    (k_all_different : PySem.W.keepIn K (.ref f_all_different) = true)
    (xC_InvalidLot : PySem.W.nsIn K mainGlobals "InvalidLot" = some (some (.ref C_InvalidLot)))
    (xC_NetworkError : PySem.W.nsIn K mainGlobals "NetworkError" = some (some (.ref C_NetworkError)))
    (xL_InvalidLot : K.lookup C_InvalidLot = some (excClassObj nm_InvalidLot q_InvalidLot C_InvalidLot N_InvalidLot bs_InvalidLot [.ref C_NetworkError, .type "ValueError", .type "Exception", .type "BaseException", .type "object"] true sn_InvalidLot sub_InvalidLot ab_InvalidLot col_InvalidLot dd_InvalidLot k0_InvalidLot k1_InvalidLot k2_InvalidLot k3_InvalidLot k5_InvalidLot "ValueError.__new__"))
    (xsa_InvalidLot : PySem.W.findIn K (.ref C_InvalidLot) "__setattr__" = some (some (.builtin "object.__setattr__")))
    (xex_InvalidLot : PySem.W.subIn K (.ref C_InvalidLot) (.type "BaseException") = some true)
    (xty_InvalidLot : PySem.W.typeIn K (.ref C_InvalidLot) = some (.type "type"))
    (xga_InvalidLot : PySem.W.findIn K (.ref C_InvalidLot) "__getattribute__" = some (some (.builtin "BaseException.__getattribute__")))
    (xgg_InvalidLot : PySem.W.findIn K (.ref C_InvalidLot) "__getattr__" = some none)
    (xhd_InvalidLot : PySem.W.hasDictIn K C_InvalidLot = true)
    (xha_InvalidLot : PySem.W.findIn K (.ref C_InvalidLot) "__class__" = some (some (.builtin "object.__class__")))
    (xhm_InvalidLot : PySem.W.mroIn K C_InvalidLot (.type "object") = some true)
    (xhn : PySem.W.specialIn K (.builtin "object.__class__") "__get__" = some (some (.builtin "getset_descriptor.__get__")))
    (xht : PySem.W.takesIn K (.builtin "object.__class__") = some true)
    (xkp_InvalidLot : PySem.W.keepIn K (.ref C_InvalidLot) = true)
    (a_InvalidLot_init : PySem.W.findIn K (.ref C_InvalidLot) "__init__" = some (some (.ref f_InvalidLot_init)))
    (ty_InvalidLot_init : PySem.W.typeIn K (.ref f_InvalidLot_init) = some (.type "function"))
    (l_InvalidLot_init : K.lookup f_InvalidLot_init = some ⟨oc_InvalidLot_init, od_InvalidLot_init, .func (PySem.W.ksFn "__init__" "InvalidLot.__init__" (defArgs st_InvalidLot_init) (defBody st_InvalidLot_init) (defScope st_InvalidLot_init) .none kV_InvalidLot_init dc_InvalidLot_init pm_InvalidLot_init an_InvalidLot_init (.ref cda_InvalidLot_init) ct_InvalidLot_init cc_InvalidLot_init), sl_InvalidLot_init⟩)
    (c_InvalidLot_init : PySem.W.codeIn K (.ref cda_InvalidLot_init) "InvalidLot.__init__" = true)
    (co_InvalidLot_init : K.lookup cda_InvalidLot_init = some ⟨ccl_InvalidLot_init, cdd_InvalidLot_init, .fields vs_InvalidLot_init, ccs_InvalidLot_init⟩)
    (vv_InvalidLot_init : vs_InvalidLot_init[2]? = some (.str file_InvalidLot_init tf_InvalidLot_init))
    (fi_InvalidLot_init : ((l.prog.main.file : Str) == file_InvalidLot_init) = true)
    (ce_InvalidLot_init : K.lookup cc_InvalidLot_init = some ⟨cl_InvalidLot_init, cld_InvalidLot_init, .cell (some (.ref C_InvalidLot)), csl_InvalidLot_init⟩)
    (mv_InvalidLot_init : PySem.W.mroIn K C_InvalidLot (.type "ValueError") = some true)
    (ms_InvalidLot_init : PySem.W.mroIn K C_InvalidLot (.ref C_InvalidLot) = some true)
    (al_InvalidLot_init : PySem.W.ks_superIn K C_InvalidLot C_InvalidLot "__init__" = some (some (.builtin "ValueError.__init__")))
    (xany : PySem.W.nsIn K cStatics "thirdparty.any" = some none)
    (xsup : PySem.W.nsIn K mainGlobals "super" = some none)
    (xtop : (l.prog.main.scope.names.lookup ("super" : Str)).isSome = false)
    (xna_InvalidLot_reason : PySem.W.findIn K (.ref C_InvalidLot) "reason" = some none)
    (xC_Lot : PySem.W.nsIn K mainGlobals "Lot" = some (some (.ref C_Lot)))
    (xpg_Lot : PySem.W.plainGet K C_Lot Str.empty = true)
    (xhd_Lot : PySem.W.hasDictIn K C_Lot = true)
    (xpo_Lot : PySem.W.plainOver K C_Lot = true)
    (xsa_Lot : PySem.W.findIn K (.ref C_Lot) "__setattr__" = some (some (.builtin "object.__setattr__")))
    (a_Lot_init : PySem.W.findIn K (.ref C_Lot) "__init__" = some (some (.ref f_Lot_init)))
    (i_Lot_init : PySem.W.isFn K (.ref f_Lot_init) = true)
    (l_Lot_init : K.lookup f_Lot_init = some ⟨oc_Lot_init, od_Lot_init, .func (PySem.W.fnOf "__init__" "Lot.__init__" (defArgs st_Lot_init) (defBody st_Lot_init) (defScope st_Lot_init) (.ref T_Lot_init) kV_Lot_init dc_Lot_init pm_Lot_init an_Lot_init cd_Lot_init ct_Lot_init), sl_Lot_init⟩)
    (c_Lot_init : PySem.W.codeIn K cd_Lot_init "Lot.__init__" = true)
    (k_Lot_init : PySem.W.keepIn K (.ref f_Lot_init) = true)
    (d_Lot_init : K.lookup T_Lot_init = some ⟨toc_Lot_init, tod_Lot_init, .seq #[.none, .int 0 tk1_Lot_init] tn_Lot_init, tsl_Lot_init⟩)
    (v_MOST_PLACES : PySem.W.nsIn K mainGlobals "MOST_PLACES" = some (some (.int 12 t_MOST_PLACES)))
    (v_MOST_PRICE : PySem.W.nsIn K mainGlobals "MOST_PRICE" = some (some (.int 1000000000 t_MOST_PRICE)))
    (xna_Lot_candidates : PySem.W.findIn K (.ref C_Lot) "candidates" = some none)
    (xna_Lot_members : PySem.W.findIn K (.ref C_Lot) "members" = some none)
    (xna_Lot_price : PySem.W.findIn K (.ref C_Lot) "price" = some none)
    (z_sorted : PySem.W.nsIn K mainGlobals "sorted" = some none)
    (z_tuple : PySem.W.nsIn K mainGlobals "tuple" = some none)
    (a__law_up : PySem.W.nsIn K mainGlobals "_law_up" = some (some (.ref f__law_up)))
    (l__law_up : K.lookup f__law_up = some ⟨oc__law_up, od__law_up, .func (PySem.W.fnOf "_law_up" "_law_up" (defArgs st__law_up) (defBody st__law_up) (defScope st__law_up) .none kV__law_up dc__law_up pm__law_up an__law_up cd__law_up ct__law_up), sl__law_up⟩)
    (c__law_up : PySem.W.codeIn K cd__law_up "_law_up" = true)
    (k__law_up : PySem.W.keepIn K (.ref f__law_up) = true)
    (a__law_due : PySem.W.nsIn K mainGlobals "_law_due" = some (some (.ref f__law_due)))
    (l__law_due : K.lookup f__law_due = some ⟨oc__law_due, od__law_due, .func (PySem.W.fnOf "_law_due" "_law_due" (defArgs st__law_due) (defBody st__law_due) (defScope st__law_due) .none kV__law_due dc__law_due pm__law_due an__law_due cd__law_due ct__law_due), sl__law_due⟩)
    (c__law_due : PySem.W.codeIn K cd__law_due "_law_due" = true)
    (k__law_due : PySem.W.keepIn K (.ref f__law_due) = true)
    (a__law_planned : PySem.W.nsIn K mainGlobals "_law_planned" = some (some (.ref f__law_planned)))
    (l__law_planned : K.lookup f__law_planned = some ⟨oc__law_planned, od__law_planned, .func (PySem.W.fnOf "_law_planned" "_law_planned" (defArgs st__law_planned) (defBody st__law_planned) (defScope st__law_planned) .none kV__law_planned dc__law_planned pm__law_planned an__law_planned cd__law_planned ct__law_planned), sl__law_planned⟩)
    (c__law_planned : PySem.W.codeIn K cd__law_planned "_law_planned" = true)
    (k__law_planned : PySem.W.keepIn K (.ref f__law_planned) = true)
    (a__law_number : PySem.W.nsIn K mainGlobals "_law_number" = some (some (.ref f__law_number)))
    (l__law_number : K.lookup f__law_number = some ⟨oc__law_number, od__law_number, .func (PySem.W.fnOf "_law_number" "_law_number" (defArgs st__law_number) (defBody st__law_number) (defScope st__law_number) .none kV__law_number dc__law_number pm__law_number an__law_number cd__law_number ct__law_number), sl__law_number⟩)
    (c__law_number : PySem.W.codeIn K cd__law_number "_law_number" = true)
    (k__law_number : PySem.W.keepIn K (.ref f__law_number) = true)
    (z_bool : PySem.W.nsIn K mainGlobals "bool" = some none)
    (z_isinstance : PySem.W.nsIn K mainGlobals "isinstance" = some none)
    (a__law_same : PySem.W.nsIn K mainGlobals "_law_same" = some (some (.ref f__law_same)))
    (l__law_same : K.lookup f__law_same = some ⟨oc__law_same, od__law_same, .func (PySem.W.fnOf "_law_same" "_law_same" (defArgs st__law_same) (defBody st__law_same) (defScope st__law_same) .none kV__law_same dc__law_same pm__law_same an__law_same cd__law_same ct__law_same), sl__law_same⟩)
    (c__law_same : PySem.W.codeIn K cd__law_same "_law_same" = true)
    (k__law_same : PySem.W.keepIn K (.ref f__law_same) = true)
    (z_str : PySem.W.nsIn K mainGlobals "str" = some none)
    (a_Lot_is_free : PySem.W.findIn K (.ref C_Lot) "is_free" = some (some (.ref p_Lot_is_free)))
    (g_Lot_is_free : PySem.W.specialIn K (.ref p_Lot_is_free) "__get__" = some (some (.builtin "property.__get__")))
    (t_Lot_is_free : PySem.W.takesIn K (.ref p_Lot_is_free) = some true)
    (r_Lot_is_free : PySem.W.recIn K p_Lot_is_free "property" = some (.ref f_Lot_is_free :: r_Lot_is_free))
    (l_Lot_is_free : K.lookup f_Lot_is_free = some ⟨oc_Lot_is_free, od_Lot_is_free, .func (PySem.W.fnOf "is_free" "Lot.is_free" (defArgs st_Lot_is_free) (defBody st_Lot_is_free) (defScope st_Lot_is_free) .none kV_Lot_is_free dc_Lot_is_free pm_Lot_is_free an_Lot_is_free cd_Lot_is_free ct_Lot_is_free), sl_Lot_is_free⟩)
    (c_Lot_is_free : PySem.W.codeIn K cd_Lot_is_free "Lot.is_free" = true)
    (k_Lot_is_free : PySem.W.keepIn K (.ref f_Lot_is_free) = true)
    (a_Lot_add : PySem.W.findIn K (.ref C_Lot) "__add__" = some (some (.ref f_Lot_add)))
    (i_Lot_add : PySem.W.isFn K (.ref f_Lot_add) = true)
    (l_Lot_add : K.lookup f_Lot_add = some ⟨oc_Lot_add, od_Lot_add, .func (PySem.W.fnOf "__add__" "Lot.__add__" (defArgs st_Lot_add) (defBody st_Lot_add) (defScope st_Lot_add) .none kV_Lot_add dc_Lot_add pm_Lot_add an_Lot_add cd_Lot_add ct_Lot_add), sl_Lot_add⟩)
    (c_Lot_add : PySem.W.codeIn K cd_Lot_add "Lot.__add__" = true)
    (k_Lot_add : PySem.W.keepIn K (.ref f_Lot_add) = true)
    (xmk_Lot : PySem.W.makesIn K C_Lot = true)
    (xkc_Lot : PySem.W.keepIn K (.ref C_Lot) = true)
    (a_Lot_sub : PySem.W.findIn K (.ref C_Lot) "__sub__" = some (some (.ref f_Lot_sub)))
    (i_Lot_sub : PySem.W.isFn K (.ref f_Lot_sub) = true)
    (l_Lot_sub : K.lookup f_Lot_sub = some ⟨oc_Lot_sub, od_Lot_sub, .func (PySem.W.fnOf "__sub__" "Lot.__sub__" (defArgs st_Lot_sub) (defBody st_Lot_sub) (defScope st_Lot_sub) .none kV_Lot_sub dc_Lot_sub pm_Lot_sub an_Lot_sub cd_Lot_sub ct_Lot_sub), sl_Lot_sub⟩)
    (c_Lot_sub : PySem.W.codeIn K cd_Lot_sub "Lot.__sub__" = true)
    (k_Lot_sub : PySem.W.keepIn K (.ref f_Lot_sub) = true)
    (a_Lot_len : PySem.W.findIn K (.ref C_Lot) "__len__" = some (some (.ref f_Lot_len)))
    (i_Lot_len : PySem.W.isFn K (.ref f_Lot_len) = true)
    (l_Lot_len : K.lookup f_Lot_len = some ⟨oc_Lot_len, od_Lot_len, .func (PySem.W.fnOf "__len__" "Lot.__len__" (defArgs st_Lot_len) (defBody st_Lot_len) (defScope st_Lot_len) .none kV_Lot_len dc_Lot_len pm_Lot_len an_Lot_len cd_Lot_len ct_Lot_len), sl_Lot_len⟩)
    (c_Lot_len : PySem.W.codeIn K cd_Lot_len "Lot.__len__" = true)
    (k_Lot_len : PySem.W.keepIn K (.ref f_Lot_len) = true)
    (a__law_fields : PySem.W.nsIn K mainGlobals "_law_fields" = some (some (.ref f__law_fields)))
    (l__law_fields : K.lookup f__law_fields = some ⟨oc__law_fields, od__law_fields, .func (PySem.W.fnOf "_law_fields" "_law_fields" (defArgs st__law_fields) (defBody st__law_fields) (defScope st__law_fields) .none kV__law_fields dc__law_fields pm__law_fields an__law_fields cd__law_fields ct__law_fields), sl__law_fields⟩)
    (c__law_fields : PySem.W.codeIn K cd__law_fields "_law_fields" = true)
    (k__law_fields : PySem.W.keepIn K (.ref f__law_fields) = true)
    (a__law_done : PySem.W.nsIn K mainGlobals "_law_done" = some (some (.ref f__law_done)))
    (l__law_done : K.lookup f__law_done = some ⟨oc__law_done, od__law_done, .func (PySem.W.fnOf "_law_done" "_law_done" (defArgs st__law_done) (defBody st__law_done) (defScope st__law_done) .none kV__law_done dc__law_done pm__law_done an__law_done cd__law_done ct__law_done), sl__law_done⟩)
    (c__law_done : PySem.W.codeIn K cd__law_done "_law_done" = true)
    (k__law_done : PySem.W.keepIn K (.ref f__law_done) = true)
    (S_InvalidLot_InvalidLot_t : PySem.W.subIn K (.ref C_InvalidLot) (.ref C_InvalidLot) = some true)
    (nr_Lot_radd : PySem.W.findIn K (.ref C_Lot) "__radd__" = some none)
    (nr_Lot_rsub : PySem.W.findIn K (.ref C_Lot) "__rsub__" = some none)
    (sf_Lot : PySem.W.selfFirst K C_Lot = true)
    (si_Lot : PySem.W.subIn K (.type "int") (.ref C_Lot) = some false)
    (a__law_refused : PySem.W.nsIn K mainGlobals "_law_refused" = some (some (.ref f__law_refused)))
    (l__law_refused : K.lookup f__law_refused = some ⟨oc__law_refused, od__law_refused, .func (PySem.W.fnOf "_law_refused" "_law_refused" (defArgs st__law_refused) (defBody st__law_refused) (defScope st__law_refused) .none kV__law_refused dc__law_refused pm__law_refused an__law_refused cd__law_refused ct__law_refused), sl__law_refused⟩)
    (c__law_refused : PySem.W.codeIn K cd__law_refused "_law_refused" = true)
    (k__law_refused : PySem.W.keepIn K (.ref f__law_refused) = true)
    (xC_Mismatch : PySem.W.nsIn K mainGlobals "Mismatch" = some (some (.ref C_Mismatch)))
    (xL_Mismatch : K.lookup C_Mismatch = some (excClassObj nm_Mismatch q_Mismatch C_Mismatch N_Mismatch bs_Mismatch [.ref C_NetworkError, .type "ValueError", .type "Exception", .type "BaseException", .type "object"] true sn_Mismatch sub_Mismatch ab_Mismatch col_Mismatch dd_Mismatch k0_Mismatch k1_Mismatch k2_Mismatch k3_Mismatch k5_Mismatch "ValueError.__new__"))
    (xsa_Mismatch : PySem.W.findIn K (.ref C_Mismatch) "__setattr__" = some (some (.builtin "object.__setattr__")))
    (xex_Mismatch : PySem.W.subIn K (.ref C_Mismatch) (.type "BaseException") = some true)
    (xty_Mismatch : PySem.W.typeIn K (.ref C_Mismatch) = some (.type "type"))
    (xga_Mismatch : PySem.W.findIn K (.ref C_Mismatch) "__getattribute__" = some (some (.builtin "BaseException.__getattribute__")))
    (xgg_Mismatch : PySem.W.findIn K (.ref C_Mismatch) "__getattr__" = some none)
    (xhd_Mismatch : PySem.W.hasDictIn K C_Mismatch = true)
    (xha_Mismatch : PySem.W.findIn K (.ref C_Mismatch) "__class__" = some (some (.builtin "object.__class__")))
    (xhm_Mismatch : PySem.W.mroIn K C_Mismatch (.type "object") = some true)
    (xkp_Mismatch : PySem.W.keepIn K (.ref C_Mismatch) = true)
    (xL_NetworkError : K.lookup C_NetworkError = some (excClassObj nm_NetworkError q_NetworkError C_NetworkError N_NetworkError bs_NetworkError [.type "ValueError", .type "Exception", .type "BaseException", .type "object"] true sn_NetworkError sub_NetworkError ab_NetworkError col_NetworkError dd_NetworkError k0_NetworkError k1_NetworkError k2_NetworkError k3_NetworkError k5_NetworkError "ValueError.__new__"))
    (xsa_NetworkError : PySem.W.findIn K (.ref C_NetworkError) "__setattr__" = some (some (.builtin "object.__setattr__")))
    (xex_NetworkError : PySem.W.subIn K (.ref C_NetworkError) (.type "BaseException") = some true)
    (xty_NetworkError : PySem.W.typeIn K (.ref C_NetworkError) = some (.type "type"))
    (xga_NetworkError : PySem.W.findIn K (.ref C_NetworkError) "__getattribute__" = some (some (.builtin "BaseException.__getattribute__")))
    (xgg_NetworkError : PySem.W.findIn K (.ref C_NetworkError) "__getattr__" = some none)
    (xhd_NetworkError : PySem.W.hasDictIn K C_NetworkError = true)
    (xha_NetworkError : PySem.W.findIn K (.ref C_NetworkError) "__class__" = some (some (.builtin "object.__class__")))
    (xhm_NetworkError : PySem.W.mroIn K C_NetworkError (.type "object") = some true)
    (xkp_NetworkError : PySem.W.keepIn K (.ref C_NetworkError) = true)
    (xC_PlaceOutOfRange : PySem.W.nsIn K mainGlobals "PlaceOutOfRange" = some (some (.ref C_PlaceOutOfRange)))
    (xL_PlaceOutOfRange : K.lookup C_PlaceOutOfRange = some (excClassObj nm_PlaceOutOfRange q_PlaceOutOfRange C_PlaceOutOfRange N_PlaceOutOfRange bs_PlaceOutOfRange [.ref C_NetworkError, .type "ValueError", .type "Exception", .type "BaseException", .type "object"] true sn_PlaceOutOfRange sub_PlaceOutOfRange ab_PlaceOutOfRange col_PlaceOutOfRange dd_PlaceOutOfRange k0_PlaceOutOfRange k1_PlaceOutOfRange k2_PlaceOutOfRange k3_PlaceOutOfRange k5_PlaceOutOfRange "ValueError.__new__"))
    (xsa_PlaceOutOfRange : PySem.W.findIn K (.ref C_PlaceOutOfRange) "__setattr__" = some (some (.builtin "object.__setattr__")))
    (xex_PlaceOutOfRange : PySem.W.subIn K (.ref C_PlaceOutOfRange) (.type "BaseException") = some true)
    (xty_PlaceOutOfRange : PySem.W.typeIn K (.ref C_PlaceOutOfRange) = some (.type "type"))
    (xga_PlaceOutOfRange : PySem.W.findIn K (.ref C_PlaceOutOfRange) "__getattribute__" = some (some (.builtin "BaseException.__getattribute__")))
    (xgg_PlaceOutOfRange : PySem.W.findIn K (.ref C_PlaceOutOfRange) "__getattr__" = some none)
    (xhd_PlaceOutOfRange : PySem.W.hasDictIn K C_PlaceOutOfRange = true)
    (xha_PlaceOutOfRange : PySem.W.findIn K (.ref C_PlaceOutOfRange) "__class__" = some (some (.builtin "object.__class__")))
    (xhm_PlaceOutOfRange : PySem.W.mroIn K C_PlaceOutOfRange (.type "object") = some true)
    (xkp_PlaceOutOfRange : PySem.W.keepIn K (.ref C_PlaceOutOfRange) = true)
    (SV_InvalidLot : PySem.W.subIn K (.ref C_InvalidLot) (.type "ValueError") = some true)
    (S_InvalidLot_Mismatch_f : PySem.W.subIn K (.ref C_InvalidLot) (.ref C_Mismatch) = some false)
    (S_InvalidLot_NetworkError_t : PySem.W.subIn K (.ref C_InvalidLot) (.ref C_NetworkError) = some true)
    (S_InvalidLot_PlaceOutOfRange_f : PySem.W.subIn K (.ref C_InvalidLot) (.ref C_PlaceOutOfRange) = some false)
    (z_ValueError : PySem.W.nsIn K mainGlobals "ValueError" = some none)
    (ne_InvalidLot_Mismatch : C_InvalidLot ≠ C_Mismatch)
    (ne_InvalidLot_PlaceOutOfRange : C_InvalidLot ≠ C_PlaceOutOfRange)
    (a__law_right : PySem.W.nsIn K mainGlobals "_law_right" = some (some (.ref f__law_right)))
    (l__law_right : K.lookup f__law_right = some ⟨oc__law_right, od__law_right, .func (PySem.W.fnOf "_law_right" "_law_right" (defArgs st__law_right) (defBody st__law_right) (defScope st__law_right) .none kV__law_right dc__law_right pm__law_right an__law_right cd__law_right ct__law_right), sl__law_right⟩)
    (c__law_right : PySem.W.codeIn K cd__law_right "_law_right" = true)
    (k__law_right : PySem.W.keepIn K (.ref f__law_right) = true)
    (a__law_each : PySem.W.nsIn K mainGlobals "_law_each" = some (some (.ref f__law_each)))
    (l__law_each : K.lookup f__law_each = some ⟨oc__law_each, od__law_each, .func (PySem.W.fnOf "_law_each" "_law_each" (defArgs st__law_each) (defBody st__law_each) (defScope st__law_each) .none kV__law_each dc__law_each pm__law_each an__law_each cd__law_each ct__law_each), sl__law_each⟩)
    (c__law_each : PySem.W.codeIn K cd__law_each "_law_each" = true)
    (k__law_each : PySem.W.keepIn K (.ref f__law_each) = true)
    (a__law_far : PySem.W.nsIn K mainGlobals "_law_far" = some (some (.ref f__law_far)))
    (l__law_far : K.lookup f__law_far = some ⟨oc__law_far, od__law_far, .func (PySem.W.fnOf "_law_far" "_law_far" (defArgs st__law_far) (defBody st__law_far) (defScope st__law_far) .none kV__law_far dc__law_far pm__law_far an__law_far cd__law_far ct__law_far), sl__law_far⟩)
    (c__law_far : PySem.W.codeIn K cd__law_far "_law_far" = true)
    (k__law_far : PySem.W.keepIn K (.ref f__law_far) = true)
    (a__law_told_place : PySem.W.nsIn K mainGlobals "_law_told_place" = some (some (.ref f__law_told_place)))
    (l__law_told_place : K.lookup f__law_told_place = some ⟨oc__law_told_place, od__law_told_place, .func (PySem.W.fnOf "_law_told_place" "_law_told_place" (defArgs st__law_told_place) (defBody st__law_told_place) (defScope st__law_told_place) .none kV__law_told_place dc__law_told_place pm__law_told_place an__law_told_place cd__law_told_place ct__law_told_place), sl__law_told_place⟩)
    (c__law_told_place : PySem.W.codeIn K cd__law_told_place "_law_told_place" = true)
    (k__law_told_place : PySem.W.keepIn K (.ref f__law_told_place) = true)
    (a_law : PySem.W.nsIn K mainGlobals "law" = some (some (.ref f_law)))
    (l_law : K.lookup f_law = some ⟨oc_law, od_law, .func (PySem.W.fnOf "law" "law" (defArgs st_law) (defBody st_law) (defScope st_law) .none kV_law dc_law pm_law an_law cd_law ct_law), sl_law⟩)
    (c_law : PySem.W.codeIn K cd_law "law" = true)
    (k_law : PySem.W.keepIn K (.ref f_law) = true) :
    ∃ fd : FuncData, (∀ (s : Shared) (v : Value), BindsTo s fd ⟨[v], []⟩ [("script", v)]) ∧ ∀ base : Heap, K.In base → base.Ns mainGlobals mg → FnOk l.prog w K mg base CX0 13 fa fd ["script"] (spZ K) := by
  have e := hfa.symm.trans (PySem.W.mg_of X G a_law)
  cases e
  have F__law_source := fun_mk (st := st__law_source) l__law_source c__law_source k__law_source
  have b__law_source := F__law_source.binds (ps := ["script"]) fun _ _ _ _ _ _ us hl => match us, hl with | [_], _ => rfl
  have mg__law_source : mg "_law_source" = some (.ref f__law_source) := PySem.W.mg_of X G a__law_source
  have nb_list : mg "list" = none := PySem.W.mg_none_of X G z_list
  have F__law_mixed := fun_mk (st := st__law_mixed) l__law_mixed c__law_mixed k__law_mixed
  have b__law_mixed := F__law_mixed.binds (ps := ["cell", "turn"]) fun _ _ _ _ _ _ us hl => match us, hl with | [_, _], _ => rfl
  have mg__law_mixed : mg "_law_mixed" = some (.ref f__law_mixed) := PySem.W.mg_of X G a__law_mixed
  have nb_int : mg "int" = none := PySem.W.mg_none_of X G z_int
  have F__law_draw := fun_mk (st := st__law_draw) l__law_draw c__law_draw k__law_draw
  have b__law_draw := F__law_draw.binds (ps := ["source", "limit"]) fun _ _ _ _ _ _ us hl => match us, hl with | [_, _], _ => rfl
  have mg__law_draw : mg "_law_draw" = some (.ref f__law_draw) := PySem.W.mg_of X G a__law_draw
  have nb_len : mg "len" = none := PySem.W.mg_none_of X G z_len
  have F__law_some := fun_mk (st := st__law_some) l__law_some c__law_some k__law_some
  have b__law_some := F__law_some.binds (ps := ["source", "bound", "many"]) fun _ _ _ _ _ _ us hl => match us, hl with | [_, _, _], _ => rfl
  have mg__law_some : mg "_law_some" = some (.ref f__law_some) := PySem.W.mg_of X G a__law_some
  have nb_range : mg "range" = none := PySem.W.mg_none_of X G z_range
  have F__law_pick := fun_mk (st := st__law_pick) l__law_pick c__law_pick k__law_pick
  have b__law_pick := F__law_pick.binds (ps := ["source", "row"]) fun _ _ _ _ _ _ us hl => match us, hl with | [_, _], _ => rfl
  have mg__law_pick : mg "_law_pick" = some (.ref f__law_pick) := PySem.W.mg_of X G a__law_pick
  have F__law_shuffled := fun_mk (st := st__law_shuffled) l__law_shuffled c__law_shuffled k__law_shuffled
  have b__law_shuffled := F__law_shuffled.binds (ps := ["source", "row"]) fun _ _ _ _ _ _ us hl => match us, hl with | [_, _], _ => rfl
  have mg__law_shuffled : mg "_law_shuffled" = some (.ref f__law_shuffled) := PySem.W.mg_of X G a__law_shuffled
  have F__law_menu := fun_mk (st := st__law_menu) l__law_menu c__law_menu k__law_menu
  have b__law_menu := F__law_menu.binds (ps := ["source", "group", "kind"]) fun _ _ _ _ _ _ us hl => match us, hl with | [_, _, _], _ => rfl
  have mg__law_menu : mg "_law_menu" = some (.ref f__law_menu) := PySem.W.mg_of X G a__law_menu
  have F__law_cost := fun_mk (st := st__law_cost) l__law_cost c__law_cost k__law_cost
  have b__law_cost := F__law_cost.binds (ps := ["source"]) fun _ _ _ _ _ _ us hl => match us, hl with | [_], _ => rfl
  have mg__law_cost : mg "_law_cost" = some (.ref f__law_cost) := PySem.W.mg_of X G a__law_cost
  have F__law_wide := fun_mk (st := st__law_wide) l__law_wide c__law_wide k__law_wide
  have b__law_wide := F__law_wide.binds (ps := ["source", "bound"]) fun _ _ _ _ _ _ us hl => match us, hl with | [_, _], _ => rfl
  have mg__law_wide : mg "_law_wide" = some (.ref f__law_wide) := PySem.W.mg_of X G a__law_wide
  have F_all_different := fun_mk (st := st_all_different) l_all_different c_all_different k_all_different
  have b_all_different := F_all_different.binds (ps := ["places"]) fun _ _ _ _ _ _ us hl => match us, hl with | [_], _ => rfl
  have mg_all_different : mg "all_different" = some (.ref f_all_different) := PySem.W.mg_of X G a_all_different
  have mC_InvalidLot : mg "InvalidLot" = some (.ref C_InvalidLot) := PySem.W.mg_of X G xC_InvalidLot
  have mC_NetworkError : mg "NetworkError" = some (.ref C_NetworkError) := PySem.W.mg_of X G xC_NetworkError
  have E_InvalidLot : ErrC K C_InvalidLot := ⟨⟨⟨nm_InvalidLot, q_InvalidLot, N_InvalidLot, bs_InvalidLot, _, sn_InvalidLot, sub_InvalidLot, ab_InvalidLot, col_InvalidLot, dd_InvalidLot, k0_InvalidLot, k1_InvalidLot, k2_InvalidLot, k3_InvalidLot, k5_InvalidLot, xL_InvalidLot, by rfl⟩, xsa_InvalidLot, xex_InvalidLot, xty_InvalidLot, xkp_InvalidLot⟩, ⟨xga_InvalidLot, xgg_InvalidLot, xex_InvalidLot, xhd_InvalidLot, xha_InvalidLot, xhn, xht, xhm_InvalidLot⟩⟩
  have na_InvalidLot_reason : PySem.W.findIn K (.ref C_InvalidLot) "reason" = some none := xna_InvalidLot_reason
  have b_InvalidLot_init : Binds K (PySem.W.ksFn "__init__" "InvalidLot.__init__" (defArgs st_InvalidLot_init) (defBody st_InvalidLot_init) (defScope st_InvalidLot_init) .none kV_InvalidLot_init dc_InvalidLot_init pm_InvalidLot_init an_InvalidLot_init (.ref cda_InvalidLot_init) ct_InvalidLot_init cc_InvalidLot_init) ["self", "reason"] [] := .all fun us hl => match us, hl with | [_, _], _ => rfl
  have cl_Lot : Cls K C_Lot := ⟨xpg_Lot, xhd_Lot, xpo_Lot, xsa_Lot⟩
  have mC_Lot : mg "Lot" = some (.ref C_Lot) := PySem.W.mg_of X G xC_Lot
  have F_Lot_init : FunD K "__init__" "Lot.__init__" (defArgs st_Lot_init) (defBody st_Lot_init) (defScope st_Lot_init) [V.non, V.int 0] [] f_Lot_init _ := ⟨⟨_, _, _, _, _, _, _, _, _, _, rfl, l_Lot_init, c_Lot_init, .inr ⟨List.cons_ne_nil _ _, T_Lot_init, _, [.none, .int 0 tk1_Lot_init], _, rfl, d_Lot_init, rfl, (.cons rfl (.cons ⟨_, rfl⟩ .nil))⟩, .inl rfl⟩, k_Lot_init⟩
  obtain ⟨ds_Lot_init, v_Lot_init, bb_Lot_init⟩ := fund_binds (ps := ["self", "members", "candidates", "price"]) F_Lot_init 4 2 (List.cons_ne_nil _ _) rfl fun _ _ _ _ _ _ _ us its hl hi => match us, hl, its, hi with | [_, _, _, _], _, [_, _], _ => ⟨_, rfl, rfl⟩
  have b_Lot_init := binds_all v_Lot_init rfl bb_Lot_init
  have L_Lot : (tbZ C_Lot) C_Lot = (["members", "candidates", "price"] : List Str) := by simp [tbZ, ne_InvalidLot_Mismatch, ne_InvalidLot_PlaceOutOfRange]
  have g_MOST_PLACES : mg "MOST_PLACES" = some (.int 12 t_MOST_PLACES) := PySem.W.mg_of X G v_MOST_PLACES
  have g_MOST_PRICE : mg "MOST_PRICE" = some (.int 1000000000 t_MOST_PRICE) := PySem.W.mg_of X G v_MOST_PRICE
  have na_Lot_candidates : NoAttr K C_Lot "candidates" := xna_Lot_candidates
  have na_Lot_members : NoAttr K C_Lot "members" := xna_Lot_members
  have na_Lot_price : NoAttr K C_Lot "price" := xna_Lot_price
  have nb_sorted : mg "sorted" = none := PySem.W.mg_none_of X G z_sorted
  have nb_tuple : mg "tuple" = none := PySem.W.mg_none_of X G z_tuple
  have F__law_up := fun_mk (st := st__law_up) l__law_up c__law_up k__law_up
  have b__law_up := F__law_up.binds (ps := ["row"]) fun _ _ _ _ _ _ us hl => match us, hl with | [_], _ => rfl
  have mg__law_up : mg "_law_up" = some (.ref f__law_up) := PySem.W.mg_of X G a__law_up
  have F__law_due := fun_mk (st := st__law_due) l__law_due c__law_due k__law_due
  have b__law_due := F__law_due.binds (ps := ["row"]) fun _ _ _ _ _ _ us hl => match us, hl with | [_], _ => rfl
  have mg__law_due : mg "_law_due" = some (.ref f__law_due) := PySem.W.mg_of X G a__law_due
  have F__law_planned := fun_mk (st := st__law_planned) l__law_planned c__law_planned k__law_planned
  have b__law_planned := F__law_planned.binds (ps := ["row", "sign", "place"]) fun _ _ _ _ _ _ us hl => match us, hl with | [_, _, _], _ => rfl
  have mg__law_planned : mg "_law_planned" = some (.ref f__law_planned) := PySem.W.mg_of X G a__law_planned
  have F__law_number := fun_mk (st := st__law_number) l__law_number c__law_number k__law_number
  have b__law_number := F__law_number.binds (ps := ["actual"]) fun _ _ _ _ _ _ us hl => match us, hl with | [_], _ => rfl
  have mg__law_number : mg "_law_number" = some (.ref f__law_number) := PySem.W.mg_of X G a__law_number
  have nb_bool : mg "bool" = none := PySem.W.mg_none_of X G z_bool
  have nb_isinstance : mg "isinstance" = none := PySem.W.mg_none_of X G z_isinstance
  have F__law_same := fun_mk (st := st__law_same) l__law_same c__law_same k__law_same
  have b__law_same := F__law_same.binds (ps := ["actual", "expected"]) fun _ _ _ _ _ _ us hl => match us, hl with | [_, _], _ => rfl
  have mg__law_same : mg "_law_same" = some (.ref f__law_same) := PySem.W.mg_of X G a__law_same
  have nb_str : mg "str" = none := PySem.W.mg_none_of X G z_str
  have F_Lot_is_free := fun_mk (st := st_Lot_is_free) l_Lot_is_free c_Lot_is_free k_Lot_is_free
  have b_Lot_is_free := F_Lot_is_free.binds (ps := ["self"]) fun _ _ _ _ _ _ us hl => match us, hl with | [_], _ => rfl
  have F_Lot_candidates : Fld K (tbZ C_Lot) C_Lot "candidates" 1 := ⟨cl_Lot, na_Lot_candidates, by rw [L_Lot]; rfl, by rw [L_Lot]; decide +kernel⟩
  have F_Lot_members : Fld K (tbZ C_Lot) C_Lot "members" 0 := ⟨cl_Lot, na_Lot_members, by rw [L_Lot]; rfl, by rw [L_Lot]; decide +kernel⟩
  have F_Lot_add := fun_mk (st := st_Lot_add) l_Lot_add c_Lot_add k_Lot_add
  have b_Lot_add := F_Lot_add.binds (ps := ["self", "place"]) fun _ _ _ _ _ _ us hl => match us, hl with | [_, _], _ => rfl
  have F_Lot_price : Fld K (tbZ C_Lot) C_Lot "price" 2 := ⟨cl_Lot, na_Lot_price, by rw [L_Lot]; rfl, by rw [L_Lot]; decide +kernel⟩
  have F_Lot_sub := fun_mk (st := st_Lot_sub) l_Lot_sub c_Lot_sub k_Lot_sub
  have b_Lot_sub := F_Lot_sub.binds (ps := ["self", "place"]) fun _ _ _ _ _ _ us hl => match us, hl with | [_, _], _ => rfl
  have F_Lot_len := fun_mk (st := st_Lot_len) l_Lot_len c_Lot_len k_Lot_len
  have b_Lot_len := F_Lot_len.binds (ps := ["self"]) fun _ _ _ _ _ _ us hl => match us, hl with | [_], _ => rfl
  have F__law_fields := fun_mk (st := st__law_fields) l__law_fields c__law_fields k__law_fields
  have b__law_fields := F__law_fields.binds (ps := ["lot"]) fun _ _ _ _ _ _ us hl => match us, hl with | [_], _ => rfl
  have mg__law_fields : mg "_law_fields" = some (.ref f__law_fields) := PySem.W.mg_of X G a__law_fields
  have F__law_done := fun_mk (st := st__law_done) l__law_done c__law_done k__law_done
  have b__law_done := F__law_done.binds (ps := ["lot", "sign", "place"]) fun _ _ _ _ _ _ us hl => match us, hl with | [_, _, _], _ => rfl
  have mg__law_done : mg "_law_done" = some (.ref f__law_done) := PySem.W.mg_of X G a__law_done
  have F__law_refused := fun_mk (st := st__law_refused) l__law_refused c__law_refused k__law_refused
  have b__law_refused := F__law_refused.binds (ps := ["lot", "sign", "place"]) fun _ _ _ _ _ _ us hl => match us, hl with | [_, _, _], _ => rfl
  have mg__law_refused : mg "_law_refused" = some (.ref f__law_refused) := PySem.W.mg_of X G a__law_refused
  have mC_Mismatch : mg "Mismatch" = some (.ref C_Mismatch) := PySem.W.mg_of X G xC_Mismatch
  have E_Mismatch : ErrC K C_Mismatch := ⟨⟨⟨nm_Mismatch, q_Mismatch, N_Mismatch, bs_Mismatch, _, sn_Mismatch, sub_Mismatch, ab_Mismatch, col_Mismatch, dd_Mismatch, k0_Mismatch, k1_Mismatch, k2_Mismatch, k3_Mismatch, k5_Mismatch, xL_Mismatch, by rfl⟩, xsa_Mismatch, xex_Mismatch, xty_Mismatch, xkp_Mismatch⟩, ⟨xga_Mismatch, xgg_Mismatch, xex_Mismatch, xhd_Mismatch, xha_Mismatch, xhn, xht, xhm_Mismatch⟩⟩
  have E_NetworkError : ErrC K C_NetworkError := ⟨⟨⟨nm_NetworkError, q_NetworkError, N_NetworkError, bs_NetworkError, _, sn_NetworkError, sub_NetworkError, ab_NetworkError, col_NetworkError, dd_NetworkError, k0_NetworkError, k1_NetworkError, k2_NetworkError, k3_NetworkError, k5_NetworkError, xL_NetworkError, by rfl⟩, xsa_NetworkError, xex_NetworkError, xty_NetworkError, xkp_NetworkError⟩, ⟨xga_NetworkError, xgg_NetworkError, xex_NetworkError, xhd_NetworkError, xha_NetworkError, xhn, xht, xhm_NetworkError⟩⟩
  have mC_PlaceOutOfRange : mg "PlaceOutOfRange" = some (.ref C_PlaceOutOfRange) := PySem.W.mg_of X G xC_PlaceOutOfRange
  have E_PlaceOutOfRange : ErrC K C_PlaceOutOfRange := ⟨⟨⟨nm_PlaceOutOfRange, q_PlaceOutOfRange, N_PlaceOutOfRange, bs_PlaceOutOfRange, _, sn_PlaceOutOfRange, sub_PlaceOutOfRange, ab_PlaceOutOfRange, col_PlaceOutOfRange, dd_PlaceOutOfRange, k0_PlaceOutOfRange, k1_PlaceOutOfRange, k2_PlaceOutOfRange, k3_PlaceOutOfRange, k5_PlaceOutOfRange, xL_PlaceOutOfRange, by rfl⟩, xsa_PlaceOutOfRange, xex_PlaceOutOfRange, xty_PlaceOutOfRange, xkp_PlaceOutOfRange⟩, ⟨xga_PlaceOutOfRange, xgg_PlaceOutOfRange, xex_PlaceOutOfRange, xhd_PlaceOutOfRange, xha_PlaceOutOfRange, xhn, xht, xhm_PlaceOutOfRange⟩⟩
  have nb_ValueError : mg "ValueError" = none := PySem.W.mg_none_of X G z_ValueError
  have F__law_right := fun_mk (st := st__law_right) l__law_right c__law_right k__law_right
  have b__law_right := F__law_right.binds (ps := ["lot", "row", "sign", "place"]) fun _ _ _ _ _ _ us hl => match us, hl with | [_, _, _, _], _ => rfl
  have mg__law_right : mg "_law_right" = some (.ref f__law_right) := PySem.W.mg_of X G a__law_right
  have F__law_each := fun_mk (st := st__law_each) l__law_each c__law_each k__law_each
  have b__law_each := F__law_each.binds (ps := ["lot", "row"]) fun _ _ _ _ _ _ us hl => match us, hl with | [_, _], _ => rfl
  have mg__law_each : mg "_law_each" = some (.ref f__law_each) := PySem.W.mg_of X G a__law_each
  have F__law_far := fun_mk (st := st__law_far) l__law_far c__law_far k__law_far
  have b__law_far := F__law_far.binds (ps := ["source"]) fun _ _ _ _ _ _ us hl => match us, hl with | [_], _ => rfl
  have mg__law_far : mg "_law_far" = some (.ref f__law_far) := PySem.W.mg_of X G a__law_far
  have F__law_told_place := fun_mk (st := st__law_told_place) l__law_told_place c__law_told_place k__law_told_place
  have b__law_told_place := F__law_told_place.binds (ps := ["source"]) fun _ _ _ _ _ _ us hl => match us, hl with | [_], _ => rfl
  have mg__law_told_place : mg "_law_told_place" = some (.ref f__law_told_place) := PySem.W.mg_of X G a__law_told_place
  have F_law := fun_mk (st := st_law) l_law c_law k_law
  have b_law := F_law.binds (ps := ["script"]) fun _ _ _ _ _ _ us hl => match us, hl with | [_], _ => rfl
  refine ⟨PySem.W.fnOf "law" "law" (defArgs st_law) (defBody st_law) (defScope st_law) .none kV_law dc_law pm_law an_law cd_law ct_law, fun s v => .of_eq rfl, fun base _ _ => ?_⟩
  have K__law_source := ok__law_source (P := l.prog) (w := w) (mg := mg) (base := base) (T := tbZ C_Lot) F__law_source nb_list
  have K__law_mixed := ok__law_mixed (P := l.prog) (w := w) (mg := mg) (base := base) (T := tbZ C_Lot) F__law_mixed nb_int
  have K__law_draw := ok__law_draw (P := l.prog) (w := w) (mg := mg) (base := base) (T := tbZ C_Lot) F__law_draw ⟨K__law_mixed, mg__law_mixed, k__law_mixed, b__law_mixed⟩ nb_int nb_len
  have K__law_some := ok__law_some (P := l.prog) (w := w) (mg := mg) (base := base) (T := tbZ C_Lot) F__law_some ⟨K__law_draw, mg__law_draw, k__law_draw, b__law_draw⟩ nb_len nb_list nb_range
  have K__law_pick := ok__law_pick (P := l.prog) (w := w) (mg := mg) (base := base) (T := tbZ C_Lot) F__law_pick ⟨K__law_draw, mg__law_draw, k__law_draw, b__law_draw⟩ nb_len
  have K__law_shuffled := ok__law_shuffled (P := l.prog) (w := w) (mg := mg) (base := base) (T := tbZ C_Lot) F__law_shuffled ⟨K__law_draw, mg__law_draw, k__law_draw, b__law_draw⟩ nb_len nb_list nb_range
  have K__law_menu := ok__law_menu (P := l.prog) (w := w) (mg := mg) (base := base) (T := tbZ C_Lot) F__law_menu ⟨K__law_pick, mg__law_pick, k__law_pick, b__law_pick⟩ ⟨K__law_draw, mg__law_draw, k__law_draw, b__law_draw⟩ ⟨K__law_shuffled, mg__law_shuffled, k__law_shuffled, b__law_shuffled⟩ nb_len nb_list
  have K__law_cost := ok__law_cost (P := l.prog) (w := w) (mg := mg) (base := base) (T := tbZ C_Lot) F__law_cost ⟨K__law_draw, mg__law_draw, k__law_draw, b__law_draw⟩
  have K__law_wide := ok__law_wide (P := l.prog) (w := w) (mg := mg) (base := base) (T := tbZ C_Lot) F__law_wide ⟨K__law_some, mg__law_some, k__law_some, b__law_some⟩ ⟨K__law_draw, mg__law_draw, k__law_draw, b__law_draw⟩ ⟨K__law_menu, mg__law_menu, k__law_menu, b__law_menu⟩ ⟨K__law_cost, mg__law_cost, k__law_cost, b__law_cost⟩
  have K_all_different := ok_all_different (P := l.prog) (w := w) (mg := mg) (base := base) (T := tbZ C_Lot) F_all_different nb_len nb_range
  have K_InvalidLot_init := ok_InvalidLot_init (P := l.prog) (w := w) (mg := mg) (base := base) E_InvalidLot l_InvalidLot_init c_InvalidLot_init co_InvalidLot_init vv_InvalidLot_init fi_InvalidLot_init ce_InvalidLot_init mv_InvalidLot_init ms_InvalidLot_init al_InvalidLot_init xany (PySem.W.mg_none_of X G xsup) xtop na_InvalidLot_reason
  have K_Lot_init := ok_Lot_init (P := l.prog) (w := w) (mg := mg) (base := base) (T := tbZ C_Lot) F_Lot_init ⟨K_all_different, mg_all_different, k_all_different, b_all_different⟩ ⟨E_InvalidLot, K_InvalidLot_init, a_InvalidLot_init, ty_InvalidLot_init, mC_InvalidLot, b_InvalidLot_init⟩ L_Lot cl_Lot g_MOST_PLACES g_MOST_PRICE na_Lot_candidates na_Lot_members na_Lot_price nb_len nb_sorted nb_tuple
  have K__law_up := ok__law_up (P := l.prog) (w := w) (mg := mg) (base := base) (T := tbZ C_Lot) F__law_up nb_int nb_sorted nb_tuple
  have K__law_due := ok__law_due (P := l.prog) (w := w) (mg := mg) (base := base) (T := tbZ C_Lot) F__law_due ⟨K__law_up, mg__law_up, k__law_up, b__law_up⟩ nb_len
  have K__law_planned := ok__law_planned (P := l.prog) (w := w) (mg := mg) (base := base) (T := tbZ C_Lot) F__law_planned ⟨K__law_due, mg__law_due, k__law_due, b__law_due⟩ nb_len
  have K__law_number := ok__law_number (P := l.prog) (w := w) (mg := mg) (base := base) (T := tbZ C_Lot) F__law_number nb_bool nb_int nb_isinstance
  have K__law_same := ok__law_same (P := l.prog) (w := w) (mg := mg) (base := base) (T := tbZ C_Lot) F__law_same ⟨K__law_number, mg__law_number, k__law_number, b__law_number⟩ mg__law_same k__law_same b__law_same nb_bool nb_int nb_isinstance nb_len nb_list nb_range nb_str nb_tuple
  have K_Lot_is_free := ok_Lot_is_free (P := l.prog) (w := w) (mg := mg) (base := base) (T := tbZ C_Lot) F_Lot_is_free F_Lot_candidates F_Lot_members nb_bool
  have K_Lot_add := ok_Lot_add (P := l.prog) (w := w) (mg := mg) (base := base) (T := tbZ C_Lot) F_Lot_add ⟨K_Lot_is_free, ⟨a_Lot_is_free, g_Lot_is_free, t_Lot_is_free, ⟨_, r_Lot_is_free⟩⟩, cl_Lot, b_Lot_is_free⟩ ⟨K_Lot_init, ⟨xmk_Lot, a_Lot_init, i_Lot_init, xkc_Lot⟩, mC_Lot, b_Lot_init⟩ F_Lot_candidates F_Lot_members F_Lot_price
  have K_Lot_sub := ok_Lot_sub (P := l.prog) (w := w) (mg := mg) (base := base) (T := tbZ C_Lot) F_Lot_sub ⟨E_InvalidLot, K_InvalidLot_init, a_InvalidLot_init, ty_InvalidLot_init, mC_InvalidLot, b_InvalidLot_init⟩ ⟨K_Lot_init, ⟨xmk_Lot, a_Lot_init, i_Lot_init, xkc_Lot⟩, mC_Lot, b_Lot_init⟩ F_Lot_candidates F_Lot_members F_Lot_price
  have K_Lot_len := ok_Lot_len (P := l.prog) (w := w) (mg := mg) (base := base) (T := tbZ C_Lot) F_Lot_len F_Lot_members nb_len
  have K__law_fields := ok__law_fields (P := l.prog) (w := w) (mg := mg) (base := base) (T := tbZ C_Lot) F__law_fields ⟨K_Lot_len, ⟨a_Lot_len, i_Lot_len, k_Lot_len⟩, cl_Lot, b_Lot_len⟩ ⟨K_Lot_is_free, ⟨a_Lot_is_free, g_Lot_is_free, t_Lot_is_free, ⟨_, r_Lot_is_free⟩⟩, cl_Lot, b_Lot_is_free⟩ F_Lot_candidates F_Lot_members F_Lot_price nb_len
  have K__law_done := ok__law_done (P := l.prog) (w := w) (mg := mg) (base := base) (T := tbZ C_Lot) F__law_done ⟨K_Lot_add, ⟨a_Lot_add, i_Lot_add, k_Lot_add⟩, cl_Lot, b_Lot_add⟩ ⟨K_Lot_sub, ⟨a_Lot_sub, i_Lot_sub, k_Lot_sub⟩, cl_Lot, b_Lot_sub⟩ ⟨K__law_fields, mg__law_fields, k__law_fields, b__law_fields⟩ E_InvalidLot S_InvalidLot_InvalidLot_t mC_InvalidLot na_InvalidLot_reason nr_Lot_radd nr_Lot_rsub sf_Lot si_Lot
  have K__law_refused := ok__law_refused (P := l.prog) (w := w) (mg := mg) (base := base) (T := tbZ C_Lot) F__law_refused ⟨K_Lot_add, ⟨a_Lot_add, i_Lot_add, k_Lot_add⟩, cl_Lot, b_Lot_add⟩ ⟨K_Lot_sub, ⟨a_Lot_sub, i_Lot_sub, k_Lot_sub⟩, cl_Lot, b_Lot_sub⟩ ⟨K_Lot_len, ⟨a_Lot_len, i_Lot_len, k_Lot_len⟩, cl_Lot, b_Lot_len⟩ E_InvalidLot E_Mismatch E_NetworkError E_PlaceOutOfRange SV_InvalidLot S_InvalidLot_InvalidLot_t S_InvalidLot_Mismatch_f S_InvalidLot_NetworkError_t S_InvalidLot_PlaceOutOfRange_f mC_InvalidLot mC_Mismatch mC_NetworkError mC_PlaceOutOfRange nb_ValueError nb_isinstance nb_len ne_InvalidLot_Mismatch ne_InvalidLot_PlaceOutOfRange nr_Lot_radd nr_Lot_rsub sf_Lot si_Lot
  have K__law_right := ok__law_right (P := l.prog) (w := w) (mg := mg) (base := base) (T := tbZ C_Lot) F__law_right ⟨K__law_planned, mg__law_planned, k__law_planned, b__law_planned⟩ ⟨K__law_same, mg__law_same, k__law_same, b__law_same⟩ ⟨K__law_done, mg__law_done, k__law_done, b__law_done⟩ ⟨K__law_refused, mg__law_refused, k__law_refused, b__law_refused⟩
  have K__law_each := ok__law_each (P := l.prog) (w := w) (mg := mg) (base := base) (T := tbZ C_Lot) F__law_each ⟨K__law_right, mg__law_right, k__law_right, b__law_right⟩ nb_range
  have K__law_far := ok__law_far (P := l.prog) (w := w) (mg := mg) (base := base) (T := tbZ C_Lot) F__law_far ⟨K__law_draw, mg__law_draw, k__law_draw, b__law_draw⟩
  have K__law_told_place := ok__law_told_place (P := l.prog) (w := w) (mg := mg) (base := base) (T := tbZ C_Lot) F__law_told_place ⟨K__law_draw, mg__law_draw, k__law_draw, b__law_draw⟩ ⟨K__law_far, mg__law_far, k__law_far, b__law_far⟩
  exact fn_law (ok_law F_law ⟨K__law_source, mg__law_source, k__law_source, b__law_source⟩ ⟨K__law_draw, mg__law_draw, k__law_draw, b__law_draw⟩ ⟨K__law_wide, mg__law_wide, k__law_wide, b__law_wide⟩ ⟨K_Lot_init, ⟨xmk_Lot, a_Lot_init, i_Lot_init, xkc_Lot⟩, mC_Lot, b_Lot_init⟩ ⟨K__law_each, mg__law_each, k__law_each, b__law_each⟩ ⟨K__law_told_place, mg__law_told_place, k__law_told_place, b__law_told_place⟩ ⟨K__law_right, mg__law_right, k__law_right, b__law_right⟩ ⟨K__law_done, mg__law_done, k__law_done, b__law_done⟩ ⟨K__law_planned, mg__law_planned, k__law_planned, b__law_planned⟩ ⟨K__law_same, mg__law_same, k__law_same, b__law_same⟩ ⟨K__law_due, mg__law_due, k__law_due, b__law_due⟩ ⟨K__law_fields, mg__law_fields, k__law_fields, b__law_fields⟩ nb_len nb_list nb_range) (fun ns R h => h)
end Z
open PySem PySem.W PyProof.Rows
set_option maxRecDepth 100000 in
set_option maxHeartbeats 0 in
theorem PySem.Challenge.cw_lotsintrees_k03_lot_plus_and_minus_a_pla_holds : PySem.Challenge.rw_lotsintrees_k03_lot_plus_and_minus_a_pla.Holds := by
  w_on; o_law; k_head; (case hw => w_witness2)
  k_fill
  refine Z.walkZ (l := PySem.Challenge.rw_lotsintrees_k03_lot_plus_and_minus_a_pla) 13 ⟨rfl, by decide, by decide⟩ rfl rfl (fun w h Y => PySem.W.kIn_of Y) ?F
  case F =>
    intro w mg fa h KX G hmg
    refine' Z.all_mk KX G hmg ?a__law_source ?l__law_source ?c__law_source ?k__law_source ?z_list ?a__law_mixed ?l__law_mixed ?c__law_mixed ?k__law_mixed ?z_int ?a__law_draw ?l__law_draw ?c__law_draw ?k__law_draw ?z_len ?a__law_some ?l__law_some ?c__law_some ?k__law_some ?z_range ?a__law_pick ?l__law_pick ?c__law_pick ?k__law_pick ?a__law_shuffled ?l__law_shuffled ?c__law_shuffled ?k__law_shuffled ?a__law_menu ?l__law_menu ?c__law_menu ?k__law_menu ?a__law_cost ?l__law_cost ?c__law_cost ?k__law_cost ?a__law_wide ?l__law_wide ?c__law_wide ?k__law_wide ?a_all_different ?l_all_different ?c_all_different ?k_all_different ?xC_InvalidLot ?xC_NetworkError ?xL_InvalidLot ?xsa_InvalidLot ?xex_InvalidLot ?xty_InvalidLot ?xga_InvalidLot ?xgg_InvalidLot ?xhd_InvalidLot ?xha_InvalidLot ?xhm_InvalidLot ?xhn ?xht ?xkp_InvalidLot ?a_InvalidLot_init ?ty_InvalidLot_init ?l_InvalidLot_init ?c_InvalidLot_init ?co_InvalidLot_init ?vv_InvalidLot_init ?fi_InvalidLot_init ?ce_InvalidLot_init ?mv_InvalidLot_init ?ms_InvalidLot_init ?al_InvalidLot_init ?xany ?xsup ?xtop ?xna_InvalidLot_reason ?xC_Lot ?xpg_Lot ?xhd_Lot ?xpo_Lot ?xsa_Lot ?a_Lot_init ?i_Lot_init ?l_Lot_init ?c_Lot_init ?k_Lot_init ?d_Lot_init ?v_MOST_PLACES ?v_MOST_PRICE ?xna_Lot_candidates ?xna_Lot_members ?xna_Lot_price ?z_sorted ?z_tuple ?a__law_up ?l__law_up ?c__law_up ?k__law_up ?a__law_due ?l__law_due ?c__law_due ?k__law_due ?a__law_planned ?l__law_planned ?c__law_planned ?k__law_planned ?a__law_number ?l__law_number ?c__law_number ?k__law_number ?z_bool ?z_isinstance ?a__law_same ?l__law_same ?c__law_same ?k__law_same ?z_str ?a_Lot_is_free ?g_Lot_is_free ?t_Lot_is_free ?r_Lot_is_free ?l_Lot_is_free ?c_Lot_is_free ?k_Lot_is_free ?a_Lot_add ?i_Lot_add ?l_Lot_add ?c_Lot_add ?k_Lot_add ?xmk_Lot ?xkc_Lot ?a_Lot_sub ?i_Lot_sub ?l_Lot_sub ?c_Lot_sub ?k_Lot_sub ?a_Lot_len ?i_Lot_len ?l_Lot_len ?c_Lot_len ?k_Lot_len ?a__law_fields ?l__law_fields ?c__law_fields ?k__law_fields ?a__law_done ?l__law_done ?c__law_done ?k__law_done ?S_InvalidLot_InvalidLot_t ?nr_Lot_radd ?nr_Lot_rsub ?sf_Lot ?si_Lot ?a__law_refused ?l__law_refused ?c__law_refused ?k__law_refused ?xC_Mismatch ?xL_Mismatch ?xsa_Mismatch ?xex_Mismatch ?xty_Mismatch ?xga_Mismatch ?xgg_Mismatch ?xhd_Mismatch ?xha_Mismatch ?xhm_Mismatch ?xkp_Mismatch ?xL_NetworkError ?xsa_NetworkError ?xex_NetworkError ?xty_NetworkError ?xga_NetworkError ?xgg_NetworkError ?xhd_NetworkError ?xha_NetworkError ?xhm_NetworkError ?xkp_NetworkError ?xC_PlaceOutOfRange ?xL_PlaceOutOfRange ?xsa_PlaceOutOfRange ?xex_PlaceOutOfRange ?xty_PlaceOutOfRange ?xga_PlaceOutOfRange ?xgg_PlaceOutOfRange ?xhd_PlaceOutOfRange ?xha_PlaceOutOfRange ?xhm_PlaceOutOfRange ?xkp_PlaceOutOfRange ?SV_InvalidLot ?S_InvalidLot_Mismatch_f ?S_InvalidLot_NetworkError_t ?S_InvalidLot_PlaceOutOfRange_f ?z_ValueError ?ne_InvalidLot_Mismatch ?ne_InvalidLot_PlaceOutOfRange ?a__law_right ?l__law_right ?c__law_right ?k__law_right ?a__law_each ?l__law_each ?c__law_each ?k__law_each ?a__law_far ?l__law_far ?c__law_far ?k__law_far ?a__law_told_place ?l__law_told_place ?c__law_told_place ?k__law_told_place ?a_law ?l_law ?c_law ?k_law
    (case a__law_source => k_is)
    (case l__law_source => k_is)
    (case c__law_source => k_is)
    (case k__law_source => k_is)
    (case z_list => k_is)
    (case a__law_mixed => k_is)
    (case l__law_mixed => k_is)
    (case c__law_mixed => k_is)
    (case k__law_mixed => k_is)
    (case z_int => k_is)
    (case a__law_draw => k_is)
    (case l__law_draw => k_is)
    (case c__law_draw => k_is)
    (case k__law_draw => k_is)
    (case z_len => k_is)
    (case a__law_some => k_is)
    (case l__law_some => k_is)
    (case c__law_some => k_is)
    (case k__law_some => k_is)
    (case z_range => k_is)
    (case a__law_pick => k_is)
    (case l__law_pick => k_is)
    (case c__law_pick => k_is)
    (case k__law_pick => k_is)
    (case a__law_shuffled => k_is)
    (case l__law_shuffled => k_is)
    (case c__law_shuffled => k_is)
    (case k__law_shuffled => k_is)
    (case a__law_menu => k_is)
    (case l__law_menu => k_is)
    (case c__law_menu => k_is)
    (case k__law_menu => k_is)
    (case a__law_cost => k_is)
    (case l__law_cost => k_is)
    (case c__law_cost => k_is)
    (case k__law_cost => k_is)
    (case a__law_wide => k_is)
    (case l__law_wide => k_is)
    (case c__law_wide => k_is)
    (case k__law_wide => k_is)
    (case a_all_different => k_is)
    (case l_all_different => k_is)
    (case c_all_different => k_is)
    (case k_all_different => k_is)
    (case xC_InvalidLot => k_is)
    (case xC_NetworkError => k_is)
    (case xL_InvalidLot => k_is)
    (case xsa_InvalidLot => k_is)
    (case xex_InvalidLot => k_is)
    (case xty_InvalidLot => k_is)
    (case xga_InvalidLot => k_is)
    (case xgg_InvalidLot => k_is)
    (case xhd_InvalidLot => k_is)
    (case xha_InvalidLot => k_is)
    (case xhm_InvalidLot => k_is)
    (case xhn => k_is)
    (case xht => k_is)
    (case xkp_InvalidLot => k_is)
    (case a_InvalidLot_init => k_is)
    (case ty_InvalidLot_init => k_is)
    (case l_InvalidLot_init => k_is)
    (case c_InvalidLot_init => k_is)
    (case co_InvalidLot_init => k_is)
    (case vv_InvalidLot_init => first | k_is | ks_is | k_exc | rfl | decide +kernel)
    (case fi_InvalidLot_init => first | k_is | ks_is | k_exc | rfl | decide +kernel)
    (case ce_InvalidLot_init => k_is)
    (case mv_InvalidLot_init => k_is)
    (case ms_InvalidLot_init => k_is)
    (case al_InvalidLot_init => first | k_is | ks_is | k_exc | rfl | decide +kernel)
    (case xany => k_is)
    (case xsup => k_is)
    (case xtop => first | k_is | ks_is | k_exc | rfl | decide +kernel)
    (case xna_InvalidLot_reason => k_is)
    (case xC_Lot => k_is)
    (case xpg_Lot => k_is)
    (case xhd_Lot => k_is)
    (case xpo_Lot => k_is)
    (case xsa_Lot => k_is)
    (case a_Lot_init => k_is)
    (case i_Lot_init => k_is)
    (case l_Lot_init => k_is)
    (case c_Lot_init => k_is)
    (case k_Lot_init => k_is)
    (case d_Lot_init => k_is)
    (case v_MOST_PLACES => k_is)
    (case v_MOST_PRICE => k_is)
    (case xna_Lot_candidates => k_is)
    (case xna_Lot_members => k_is)
    (case xna_Lot_price => k_is)
    (case z_sorted => k_is)
    (case z_tuple => k_is)
    (case a__law_up => k_is)
    (case l__law_up => k_is)
    (case c__law_up => k_is)
    (case k__law_up => k_is)
    (case a__law_due => k_is)
    (case l__law_due => k_is)
    (case c__law_due => k_is)
    (case k__law_due => k_is)
    (case a__law_planned => k_is)
    (case l__law_planned => k_is)
    (case c__law_planned => k_is)
    (case k__law_planned => k_is)
    (case a__law_number => k_is)
    (case l__law_number => k_is)
    (case c__law_number => k_is)
    (case k__law_number => k_is)
    (case z_bool => k_is)
    (case z_isinstance => k_is)
    (case a__law_same => k_is)
    (case l__law_same => k_is)
    (case c__law_same => k_is)
    (case k__law_same => k_is)
    (case z_str => k_is)
    (case a_Lot_is_free => k_is)
    (case g_Lot_is_free => k_is)
    (case t_Lot_is_free => k_is)
    (case r_Lot_is_free => k_is)
    (case l_Lot_is_free => k_is)
    (case c_Lot_is_free => k_is)
    (case k_Lot_is_free => k_is)
    (case a_Lot_add => k_is)
    (case i_Lot_add => k_is)
    (case l_Lot_add => k_is)
    (case c_Lot_add => k_is)
    (case k_Lot_add => k_is)
    (case xmk_Lot => k_is)
    (case xkc_Lot => k_is)
    (case a_Lot_sub => k_is)
    (case i_Lot_sub => k_is)
    (case l_Lot_sub => k_is)
    (case c_Lot_sub => k_is)
    (case k_Lot_sub => k_is)
    (case a_Lot_len => k_is)
    (case i_Lot_len => k_is)
    (case l_Lot_len => k_is)
    (case c_Lot_len => k_is)
    (case k_Lot_len => k_is)
    (case a__law_fields => k_is)
    (case l__law_fields => k_is)
    (case c__law_fields => k_is)
    (case k__law_fields => k_is)
    (case a__law_done => k_is)
    (case l__law_done => k_is)
    (case c__law_done => k_is)
    (case k__law_done => k_is)
    (case S_InvalidLot_InvalidLot_t => k_is)
    (case nr_Lot_radd => k_is)
    (case nr_Lot_rsub => k_is)
    (case sf_Lot => k_is)
    (case si_Lot => k_is)
    (case a__law_refused => k_is)
    (case l__law_refused => k_is)
    (case c__law_refused => k_is)
    (case k__law_refused => k_is)
    (case xC_Mismatch => k_is)
    (case xL_Mismatch => k_is)
    (case xsa_Mismatch => k_is)
    (case xex_Mismatch => k_is)
    (case xty_Mismatch => k_is)
    (case xga_Mismatch => k_is)
    (case xgg_Mismatch => k_is)
    (case xhd_Mismatch => k_is)
    (case xha_Mismatch => k_is)
    (case xhm_Mismatch => k_is)
    (case xkp_Mismatch => k_is)
    (case xL_NetworkError => k_is)
    (case xsa_NetworkError => k_is)
    (case xex_NetworkError => k_is)
    (case xty_NetworkError => k_is)
    (case xga_NetworkError => k_is)
    (case xgg_NetworkError => k_is)
    (case xhd_NetworkError => k_is)
    (case xha_NetworkError => k_is)
    (case xhm_NetworkError => k_is)
    (case xkp_NetworkError => k_is)
    (case xC_PlaceOutOfRange => k_is)
    (case xL_PlaceOutOfRange => k_is)
    (case xsa_PlaceOutOfRange => k_is)
    (case xex_PlaceOutOfRange => k_is)
    (case xty_PlaceOutOfRange => k_is)
    (case xga_PlaceOutOfRange => k_is)
    (case xgg_PlaceOutOfRange => k_is)
    (case xhd_PlaceOutOfRange => k_is)
    (case xha_PlaceOutOfRange => k_is)
    (case xhm_PlaceOutOfRange => k_is)
    (case xkp_PlaceOutOfRange => k_is)
    (case SV_InvalidLot => k_is)
    (case S_InvalidLot_Mismatch_f => k_is)
    (case S_InvalidLot_NetworkError_t => k_is)
    (case S_InvalidLot_PlaceOutOfRange_f => k_is)
    (case z_ValueError => k_is)
    (case ne_InvalidLot_Mismatch => decide)
    (case ne_InvalidLot_PlaceOutOfRange => decide)
    (case a__law_right => k_is)
    (case l__law_right => k_is)
    (case c__law_right => k_is)
    (case k__law_right => k_is)
    (case a__law_each => k_is)
    (case l__law_each => k_is)
    (case c__law_each => k_is)
    (case k__law_each => k_is)
    (case a__law_far => k_is)
    (case l__law_far => k_is)
    (case c__law_far => k_is)
    (case k__law_far => k_is)
    (case a__law_told_place => k_is)
    (case l__law_told_place => k_is)
    (case c__law_told_place => k_is)
    (case k__law_told_place => k_is)
    (case a_law => k_is)
    (case l_law => k_is)
    (case c_law => k_is)
    (case k_law => k_is)
#print axioms PySem.Challenge.cw_lotsintrees_k03_lot_plus_and_minus_a_pla_holds
