import PyProof.Rows.All
import Wide.All
import OpenK.AllK
import Wide.FinOn
import KE.KStateDown
import Lean
import HandS.ForMost
import HandS.ForExc
import HandS.More
import HandS.Defaults
import HandS.Star
import HandS.Property
import HandS.IsInst
import HandS.CallSlots
import HandS.Wide
import HandS.Lambda
import HandS.ClsMeth
import HandS.Head0
import HandS.Head1
import HandS.Head2
import HandS.HeadEnd
import HandS.HeadHook1
import HandS.HeadHook2
import HandS.TupAny
import HandS.TupMul
import HandS.SortInts
import HandS.RaiseMore
import HandS.OwnEq
import HandS.Zip
import HandS.RevRange
import HandS.Rev
import HandS.SetFor
import HandS.Remove
import KE.KOpsOwn
import KE.GoesEnum
import OpenK.KMeth
import PyProof.Rows.BootFacts.P9
import HandS.Style
import HandS.Strs
import HandS.TupSets
import HandS.SetBool
import PyProof.InstNe
import PyProof.ReprRoads
import KE.KUnpackStar
import HandS.Deep
import HandS.Conv
import KE.KSuper
import HandS.ExcInit
import HandS.TryMany
import HandS.ExcField
import HandS.ExcIs
import HandS.HeadHook4
import KE.KExcIs
import PySem.Challenge.RW_handsweeps_k08_loads_reckoned
import HandS.TryOnly
import HandS.SortKw
import KE.KCallOwn
import HandS.GenList
import PyProof.EqAt
import HandS.Iter
import KE.LtSeq
import KE.LtData
import PyProof.P3Eq
import PyProof.ReprBulk
/-! ## DL1 -/
section
set_option Elab.async false
set_option linter.all false
set_option maxRecDepth 100000
set_option maxHeartbeats 2000000
/-! The data layer: values as trees, a store of the objects that change; each rule of the hand layer told of these. -/
namespace DL
open PySem PySem.Spec PyProof.Rows L2

/-- data: what a value is when one looks through the objects that never change -/
inductive D where
  | non
  | bl (b : Bool)
  | int (i : Int)
  | str (x : Str)
  | opq (v : V)
  | tup (ds : List D)
  | lst (ds : List D)
  | scr (ds : List D)
  | dct (kvs : List (Key × D))
  | obj (c : Nat) (fs : List (Nat × D))
  | cls (c : Nat)

/-- a changing object, named by its address -/
abbrev D.mu (a : Addr) : D := .opq (.ref a)
abbrev D.ty (n : String) : D := .opq (.ty n)

/-- what a program's classes and attributes are called -/
structure Gx where
  K : PySem.W.Frag
  mg : Str → Option Value
  ca : Nat → Addr
  an : Nat → Str
  nA : Nat
  inj : ∀ i j, i < nA → j < nA → an i = an j → i = j
  /-- the tables of code objects of the defs that make lambdas -/
  T : List (Addr × Str) := []

mutual
def Rep (g : Gx) (H : Hp) : V → D → Prop
  | v, .non => v = .non
  | v, .bl b => v = .bl b
  | v, .int i => v = .int i
  | v, .str x => v = .str x
  | v, .opq u => v = u
  | v, .tup ds => ∃ a xs, v = .ref a ∧ H a = some (.tup xs) ∧ Reps g H xs ds
  | v, .lst ds => ∃ a xs, v = .ref a ∧ H a = some (.lst xs) ∧ Reps g H xs ds
  | v, .scr ds => ∃ a xs, v = .ref a ∧ SqL g.K H a xs ∧ Reps g H xs ds
  | v, .dct kvs => ∃ a xs, v = .ref a ∧ H a = some (.dK xs) ∧ RepK g H xs kvs
  | v, .obj c fs => ∃ a dx vs, v = .ref a ∧ H a = some (.ins (g.ca c) dx vs) ∧ RepF g H vs fs
  | v, .cls c => v = .ref (g.ca c)
def Reps (g : Gx) (H : Hp) : List V → List D → Prop
  | [], [] => True
  | v :: vs, d :: ds => Rep g H v d ∧ Reps g H vs ds
  | _, _ => False
def RepK (g : Gx) (H : Hp) : List (Key × V) → List (Key × D) → Prop
  | [], [] => True
  | (k, v) :: vs, (j, d) :: ds => k = j ∧ Rep g H v d ∧ RepK g H vs ds
  | _, _ => False
def RepF (g : Gx) (H : Hp) : List (Str × V) → List (Nat × D) → Prop
  | [], [] => True
  | (n, v) :: vs, (i, d) :: ds => n = g.an i ∧ i < g.nA ∧ Rep g H v d ∧ RepF g H vs ds
  | _, _ => False
end

section
variable {g : Gx} {H H' : Hp}
theorem Same.tup {K : PySem.W.Frag} {a : Addr} {xs : List V} (e : Same H H') (h : SqT K H a xs) : SqT K H' a xs := by
  rcases h with (h | ⟨o, h⟩) | h
  · exact .inl (.inl (e _ _ h))
  · exact .inl (.inr ⟨o, e _ _ h⟩)
  · exact .inr h
mutual
theorem Rep.mono (e : Same H H') : ∀ {v : V} {d : D}, Rep g H v d → Rep g H' v d
  | v, .non, h => h
  | v, .bl b, h => h
  | v, .int i, h => h
  | v, .str x, h => h
  | v, .opq u, h => h
  | v, .tup ds, ⟨a, xs, h1, h2, h3⟩ => ⟨a, xs, h1, e _ _ h2, Reps.mono e h3⟩
  | v, .lst ds, ⟨a, xs, h1, h2, h3⟩ => ⟨a, xs, h1, e _ _ h2, Reps.mono e h3⟩
  | v, .scr ds, ⟨a, xs, h1, h2, h3⟩ => ⟨a, xs, h1, e.seq h2, Reps.mono e h3⟩
  | v, .dct kvs, ⟨a, xs, h1, h2, h3⟩ => ⟨a, xs, h1, e _ _ h2, RepK.mono e h3⟩
  | v, .obj c fs, ⟨a, dx, vs, h1, h2, h3⟩ => ⟨a, dx, vs, h1, e _ _ h2, RepF.mono e h3⟩
  | v, .cls c, h => h
theorem Reps.mono (e : Same H H') : ∀ {vs : List V} {ds : List D}, Reps g H vs ds → Reps g H' vs ds
  | [], [], _ => trivial
  | v :: vs, d :: ds, ⟨h1, h2⟩ => ⟨Rep.mono e h1, Reps.mono e h2⟩
  | [], _ :: _, h => h.elim
  | _ :: _, [], h => h.elim
theorem RepK.mono (e : Same H H') : ∀ {vs : List (Key × V)} {ds : List (Key × D)}, RepK g H vs ds → RepK g H' vs ds
  | [], [], _ => trivial
  | (k, v) :: vs, (j, d) :: ds, ⟨h0, h1, h2⟩ => ⟨h0, Rep.mono e h1, RepK.mono e h2⟩
  | [], _ :: _, h => h.elim
  | (_, _) :: _, [], h => h.elim
theorem RepF.mono (e : Same H H') : ∀ {vs : List (Str × V)} {ds : List (Nat × D)}, RepF g H vs ds → RepF g H' vs ds
  | [], [], _ => trivial
  | (n, v) :: vs, (i, d) :: ds, ⟨h0, hi, h1, h2⟩ => ⟨h0, hi, Rep.mono e h1, RepF.mono e h2⟩
  | [], _ :: _, h => h.elim
  | (_, _) :: _, [], h => h.elim
end
theorem Reps.length : ∀ {vs : List V} {ds : List D}, Reps g H vs ds → vs.length = ds.length
  | [], [], _ => rfl
  | _ :: _, _ :: _, ⟨_, h⟩ => congrArg (· + 1) (Reps.length h)
  | [], _ :: _, h => h.elim
  | _ :: _, [], h => h.elim
theorem Reps.get : ∀ {vs : List V} {ds : List D} {i : Nat} {d : D}, Reps g H vs ds → ds[i]? = some d → ∃ v, vs[i]? = some v ∧ Rep g H v d
  | [], [], _, _, _, e => by simp at e
  | v :: _, d :: _, 0, _, ⟨h, _⟩, e => by simp at e; subst e; exact ⟨v, rfl, h⟩
  | _ :: vs, _ :: ds, i + 1, d, ⟨_, h⟩, e => by
    obtain ⟨v, h1, h2⟩ := Reps.get (i := i) (d := d) h (by simpa using e)
    exact ⟨v, by simpa using h1, h2⟩
  | [], _ :: _, _, _, h, _ => h.elim
  | _ :: _, [], _, _, h, _ => h.elim
theorem Reps.get' : ∀ {vs : List V} {ds : List D} {i : Nat} {v : V}, Reps g H vs ds → vs[i]? = some v → ∃ d, ds[i]? = some d ∧ Rep g H v d
  | [], [], _, _, _, e => by simp at e
  | _ :: _, d :: _, 0, _, ⟨h, _⟩, e => by simp at e; subst e; exact ⟨d, rfl, h⟩
  | _ :: vs, _ :: ds, i + 1, v, ⟨_, h⟩, e => by
    obtain ⟨d, h1, h2⟩ := Reps.get' (i := i) (v := v) h (by simpa using e)
    exact ⟨d, by simpa using h1, h2⟩
  | [], _ :: _, _, _, h, _ => h.elim
  | _ :: _, [], _, _, h, _ => h.elim
theorem Reps.append : ∀ {vs ws : List V} {ds es : List D}, Reps g H vs ds → Reps g H ws es → Reps g H (vs ++ ws) (ds ++ es)
  | [], _, [], _, _, h => h
  | _ :: _, _, _ :: _, _, ⟨h1, h2⟩, h => ⟨h1, Reps.append h2 h⟩
  | [], _, _ :: _, _, h, _ => h.elim
  | _ :: _, _, [], _, h, _ => h.elim
theorem Reps.take : ∀ {vs : List V} {ds : List D} (n : Nat), Reps g H vs ds → Reps g H (vs.take n) (ds.take n)
  | _, _, 0, _ => trivial
  | [], [], _ + 1, _ => trivial
  | _ :: _, _ :: _, n + 1, ⟨h1, h2⟩ => ⟨h1, Reps.take n h2⟩
  | [], _ :: _, _ + 1, h => h.elim
  | _ :: _, [], _ + 1, h => h.elim
theorem Reps.drop : ∀ {vs : List V} {ds : List D} (n : Nat), Reps g H vs ds → Reps g H (vs.drop n) (ds.drop n)
  | _, _, 0, h => h
  | [], [], _ + 1, _ => trivial
  | _ :: _, _ :: _, n + 1, ⟨_, h2⟩ => Reps.drop n h2
  | [], _ :: _, _ + 1, h => h.elim
  | _ :: _, [], _ + 1, h => h.elim
theorem Reps.set : ∀ {vs : List V} {ds : List D} {v : V} {d : D} (i : Nat), Rep g H v d → Reps g H vs ds → Reps g H (vs.set i v) (ds.set i d)
  | [], [], _, _, _, _, _ => trivial
  | _ :: _, _ :: _, _, _, 0, r, ⟨_, h2⟩ => ⟨r, h2⟩
  | _ :: _, _ :: _, _, _, i + 1, r, ⟨h1, h2⟩ => ⟨h1, Reps.set i r h2⟩
  | [], _ :: _, _, _, _, _, h => h.elim
  | _ :: _, [], _, _, _, _, h => h.elim
theorem Reps.reverse : ∀ {vs : List V} {ds : List D}, Reps g H vs ds → Reps g H vs.reverse ds.reverse
  | [], [], _ => trivial
  | v :: vs, d :: ds, ⟨h1, h2⟩ => by
    rw [List.reverse_cons, List.reverse_cons]
    exact Reps.append (Reps.reverse h2) ⟨h1, trivial⟩
  | [], _ :: _, h => h.elim
  | _ :: _, [], h => h.elim
theorem Reps.map_int : ∀ {ns : List Int}, Reps g H (ns.map V.int) (ns.map D.int)
  | [] => trivial
  | n :: ns => ⟨rfl, Reps.map_int⟩
theorem Reps.of_int : ∀ {vs : List V} {ns : List Int}, Reps g H vs (ns.map D.int) → vs = ns.map V.int
  | [], [], _ => rfl
  | v :: vs, n :: ns, ⟨h1, h2⟩ => by
    have e : v = V.int n := h1
    rw [e, Reps.of_int h2]
    rfl
  | [], _ :: _, h => h.elim
  | _ :: _, [], h => h.elim
theorem RepF.look : ∀ {vs : List (Str × V)} {fs : List (Nat × D)} {i : Nat}, RepF g H vs fs → i < g.nA → (∀ d, fs.lookup i = some d → ∃ v, vs.lookup (g.an i) = some v ∧ Rep g H v d) ∧ (fs.lookup i = none → vs.lookup (g.an i) = none)
  | [], [], i, _, _ => ⟨fun _ e => by simp at e, fun _ => rfl⟩
  | (n, v) :: vs, (j, d) :: fs, i, ⟨h0, hj, h1, h2⟩, hi => by
    subst h0
    by_cases e : i = j
    · subst e
      refine ⟨fun d' e' => ⟨v, by simp, ?_⟩, fun e' => by simp at e'⟩
      simp at e'; subst e'; exact h1
    · have ne : ¬ g.an i = g.an j := fun q => e (g.inj i j hi hj q)
      have b1 : (i == j) = false := by simpa using e
      have b2 : (g.an i == g.an j) = false := by simpa using ne
      have l1 : ((j, d) :: fs).lookup i = fs.lookup i := by simp [List.lookup, b1]
      have l2 : ((g.an j, v) :: vs).lookup (g.an i) = vs.lookup (g.an i) := by simp [List.lookup, b2]
      rw [l1, l2]
      exact RepF.look h2 hi
  | [], _ :: _, _, h, _ => h.elim
  | (_, _) :: _, [], _, h, _ => h.elim
end

/-! ### the store -/
inductive Cell where
  | lst (ds : List D)
  | dct (kvs : List (Key × D))
  | ins (c : Nat) (fs : List (Nat × D))
  | exc (c : Nat) (fs : List (Nat × D))
abbrev Sto := Addr → Option Cell
def Sto.set (S : Sto) (a : Addr) (c : Cell) : Sto := fun b => if b = a then some c else S b
def Sto.del (S : Sto) (a : Addr) : Sto := fun b => if b = a then none else S b
theorem Sto.set_same {S : Sto} {a : Addr} {c : Cell} : S.set a c a = some c := if_pos rfl
theorem Sto.set_ne {S : Sto} {a b : Addr} {c : Cell} (h : b ≠ a) : S.set a c b = S b := if_neg h
theorem Sto.del_same {S : Sto} {a : Addr} : S.del a a = none := if_pos rfl
theorem Sto.del_ne {S : Sto} {a b : Addr} (h : b ≠ a) : S.del a b = S b := if_neg h

/-- the fields of an exception: those of its dict, if it has one -/
def ExF (g : Gx) (Hi : Hp) (fs : List (Nat × D)) (dx : Option Addr) : Prop := (dx = none ∧ fs = []) ∨ ∃ d vs, dx = some d ∧ Hi d = some (.xd vs) ∧ RepF g Hi vs fs
theorem ExF.mono {g : Gx} {Hi Hi' : Hp} {fs : List (Nat × D)} {dx : Option Addr} (s : Same Hi Hi') : ExF g Hi fs dx → ExF g Hi' fs dx
  | .inl h => .inl h
  | .inr ⟨d, vs, h1, h2, h3⟩ => .inr ⟨d, vs, h1, s _ _ h2, h3.mono s⟩
/-- an exception that was caught: its class, its dict -/
def ExcO (a : Addr) (cls : Value) (dx : Option Addr) : HO := .ext fun h => ∃ (oe : Obj) (vs : Array Value), h.get? a = some oe ∧ Zc cls dx oe ∧ oe.data = .fields vs
def CellOk (g : Gx) (H Hi : Hp) (a : Addr) : Cell → Prop
  | .lst ds => ∃ xs, H a = some (.lst xs) ∧ Reps g Hi xs ds
  | .dct kvs => ∃ xs, H a = some (.dK xs) ∧ RepK g Hi xs kvs
  | .ins c fs => ∃ dx vs, H a = some (.ins (g.ca c) dx vs) ∧ RepF g Hi vs fs
  | .exc c fs => ∃ dx, H a = some (ExcO a (.ref (g.ca c)) dx) ∧ ExF g Hi fs dx
theorem CellOk.some {g : Gx} {H Hi : Hp} {a : Addr} {c : Cell} (h : CellOk g H Hi a c) : ∃ o, H a = Option.some o := by
  cases c with
  | lst ds => obtain ⟨_, h, _⟩ := h; exact ⟨_, h⟩
  | dct ds => obtain ⟨_, h, _⟩ := h; exact ⟨_, h⟩
  | ins c fs => obtain ⟨_, _, h, _⟩ := h; exact ⟨_, h⟩
  | exc c fs => obtain ⟨_, h, _⟩ := h; exact ⟨_, h⟩
theorem CellOk.notTbl {g : Gx} {H Hi : Hp} {a : Addr} {c : Cell} (h : CellOk g H Hi a c) (ps : Array Value) : H a ≠ Option.some (.tbl ps) := fun z => by
  cases c with
  | lst ds => obtain ⟨_, h, _⟩ := h; rw [h] at z; cases z
  | dct ds => obtain ⟨_, h, _⟩ := h; rw [h] at z; cases z
  | ins c fs => obtain ⟨_, _, h, _⟩ := h; rw [h] at z; cases z
  | exc c fs => obtain ⟨_, h, _⟩ := h; rw [h] at z; unfold ExcO at z; cases z
theorem CellOk.mono {g : Gx} {H H' Hi Hi' : Hp} {a : Addr} {c : Cell} (h : CellOk g H Hi a c) (e : H' a = H a) (s : Same Hi Hi') : CellOk g H' Hi' a c := by
  cases c with
  | lst ds => obtain ⟨xs, h, r⟩ := h; exact ⟨xs, e.trans h, r.mono s⟩
  | dct ds => obtain ⟨xs, h, r⟩ := h; exact ⟨xs, e.trans h, r.mono s⟩
  | ins c fs => obtain ⟨dx, vs, h, r⟩ := h; exact ⟨dx, vs, e.trans h, r.mono s⟩
  | exc c fs => obtain ⟨dx, h, r⟩ := h; exact ⟨dx, e.trans h, r.mono s⟩

/-- a table of code objects: each that it tells bears the name q -/
def TabD (H Hi : Hp) (P : Addr) (q : Str) : Prop := Hi P = none ∧ ∃ ps : Array Value, H P = some (.tbl ps) ∧ TriplesOk ps.toList ∧ ∀ (pos : Pos) (cv : Value), codeAmong pos ps.toList = some cv → ∃ c, cv = .ref c ∧ Hi c = some (LamX.CodeO c q)
def TabsD (T : List (Addr × Str)) (H Hi : Hp) : Prop := ∀ p ∈ T, TabD H Hi p.1 p.2
/-- a list changes no more -/
theorem TabsD.frz {T : List (Addr × Str)} {H Hi : Hp} {a : Addr} {o : HO} (t : TabsD T H Hi) (n : ∀ ps, H a ≠ some (.tbl ps)) (s : Same Hi (upd Hi a o)) : TabsD T H (upd Hi a o) := fun p hp =>
  let ⟨h0, ps, h1, h2, h3⟩ := t p hp
  ⟨(upd_ne (fun z => n ps (by rw [← z]; exact h1))).trans h0, ps, h1, h2, fun pos cv h => let ⟨c, e1, e2⟩ := h3 pos cv h; ⟨c, e1, s _ _ e2⟩⟩
/-- another object is written -/
theorem TabsD.upd {T : List (Addr × Str)} {H Hi : Hp} {a : Addr} {o : HO} (t : TabsD T H Hi) (n : ∀ ps, H a ≠ some (.tbl ps)) : TabsD T (upd H a o) Hi := fun p hp =>
  let ⟨h0, ps, h1, h2, h3⟩ := t p hp
  ⟨h0, ps, (upd_ne (fun z => n ps (by rw [← z]; exact h1))).trans h1, h2, h3⟩
theorem noTbl {H : Hp} {a : Addr} (h : H a = none) (ps : Array Value) : H a ≠ some (.tbl ps) := fun z => by rw [h] at z; cases z
/-- what stands: H the whole, Hi the part that never changes, S the changing objects -/
structure Ok (g : Gx) (H Hi : Hp) (S : Sto) : Prop where
  sub : Same Hi H
  cell : ∀ a c, S a = some c → Hi a = none ∧ CellOk g H Hi a c
  tab : TabsD g.T H Hi

/-- what a piece of code may do -/
structure Ext (H Hi : Hp) (S : Sto) (H' Hi' : Hp) (S' : Sto) : Prop where
  imm : Same Hi Hi'
  frm : ∀ b o, H b = some o → S b = none → (∀ ps, o ≠ .tbl ps) → H' b = some o
  fre : ∀ b o, H b = some o → Hi b = none → S b = none → Hi' b = none ∧ S' b = none
  kp : ∀ b o, H b = some o → ∃ o', H' b = some o'

theorem Ext.refl {H Hi : Hp} {S : Sto} : Ext H Hi S H Hi S := ⟨Same.refl _, fun _ _ h _ _ => h, fun _ _ _ h1 h2 => ⟨h1, h2⟩, fun _ o h => ⟨o, h⟩⟩
theorem Ext.trans {g : Gx} {H Hi H1 Hi1 H2 Hi2 : Hp} {S S1 S2 : Sto} (o1 : Ok g H1 Hi1 S1) (a : Ext H Hi S H1 Hi1 S1) (b : Ext H1 Hi1 S1 H2 Hi2 S2) (o0 : Same Hi H) : Ext H Hi S H2 Hi2 S2 := by
  have s1 : ∀ c o, H c = some o → S c = none → S1 c = none := fun c o h n => by
    cases e : Hi c with
    | none => exact (a.fre c o h e n).2
    | some u =>
      cases q : S1 c with
      | none => rfl
      | some z =>
        have := (o1.cell c z q).1
        rw [a.imm c u e] at this
        cases this
  refine ⟨a.imm.trans b.imm, fun c o h n t => b.frm c o (a.frm c o h n t) (s1 c o h n) t, fun c o h n m => ?_, fun c o h => ?_⟩
  · obtain ⟨p, q⟩ := a.fre c o h n m
    obtain ⟨o', h'⟩ := a.kp c o h
    exact b.fre c o' h' p q
  · obtain ⟨o', h'⟩ := a.kp c o h
    exact b.kp c o' h'

/-- a fixed entry: whole heap, unchanging part, store -/
structure En where
  H : Hp
  Hi : Hp
  S : Sto
  ok : Same Hi H

abbrev Env := List (Option D)
/-- the slots -/
def Slots (g : Gx) (Hi : Hp) (σ : L2.St) (ρ : Env) : Prop := σ.length = ρ.length ∧ ∀ (i : Nat) (d : D), ρ[i]? = some (some d) → ∃ v : V, σ[i]? = some (some v) ∧ Rep g Hi v d
theorem Slots.mono {g : Gx} {Hi Hi' : Hp} {σ : L2.St} {ρ : Env} (h : Slots g Hi σ ρ) (s : Same Hi Hi') : Slots g Hi' σ ρ := ⟨h.1, fun i d e => let ⟨v, h1, h2⟩ := h.2 i d e; ⟨v, h1, h2.mono s⟩⟩
theorem Slots.set {g : Gx} {Hi : Hp} {σ : L2.St} {ρ : Env} {i : Nat} {v : V} {d : D} (h : Slots g Hi σ ρ) (r : Rep g Hi v d) : Slots g Hi (σ.set i (some v)) (ρ.set i (some d)) := by
  refine ⟨by simp [h.1], fun j e q => ?_⟩
  by_cases c : i = j
  · subst c
    rw [List.getElem?_set] at q
    simp only [if_true] at q
    split at q <;> simp at q
    rename_i q1
    subst q
    exact ⟨v, by rw [List.getElem?_set]; simp [h.1, q1], r⟩
  · rw [List.getElem?_set_ne c] at q
    rw [List.getElem?_set_ne c]
    exact h.2 j e q

/-- the state: behind the entry e -/
structure Is (g : Gx) (e : En) (H Hi : Hp) (S : Sto) : Prop where
  ok : Ok g H Hi S
  ext : Ext e.H e.Hi e.S H Hi S
theorem Is.next {g : Gx} {e : En} {H Hi H' Hi' : Hp} {S S' : Sto} (i : Is g e H Hi S) (o : Ok g H' Hi' S') (x : Ext H Hi S H' Hi' S') : Is g e H' Hi' S' := ⟨o, Ext.trans i.ok i.ext x e.ok⟩
/-- a new unchanging object -/
theorem Ok.new {g : Gx} {H Hi : Hp} {S : Sto} {p : Addr} {o : HO} (k : Ok g H Hi S) (n : H p = none) (ho : ∀ ps, o ≠ .tbl ps := by intro ps z; cases z) : Ok g (upd H p o) (upd Hi p o) S ∧ Ext H Hi S (upd H p o) (upd Hi p o) S ∧ Same Hi (upd Hi p o) ∧ Hi p = none := by
  have hp : Hi p = none := by
    cases e : Hi p with
    | none => rfl
    | some u => rw [k.sub p u e] at n; cases n
  have s1 : Same Hi (upd Hi p o) := fun b u e => by rw [upd_ne (ne_of_none e hp)]; exact e
  refine ⟨⟨fun b u e => ?_, fun a c e => ?_, (k.tab.upd (noTbl n)).frz (o := o) (by rw [upd_same]; intro ps z; exact ho ps (Option.some.inj z)) s1⟩, ⟨s1, fun b u e _ _ => by rw [upd_ne (ne_of_none e n)]; exact e, fun b u e h1 h2 => ⟨by rw [upd_ne (ne_of_none e n)]; exact h1, h2⟩, fun b u e => ⟨u, by rw [upd_ne (ne_of_none e n)]; exact e⟩⟩, s1, hp⟩
  · by_cases hb : b = p
    · subst hb; rw [upd_same] at e ⊢; exact e
    · rw [upd_ne hb] at e ⊢; exact k.sub b u e
  · obtain ⟨h1, h2⟩ := k.cell a c e
    obtain ⟨u, h3⟩ := h2.some
    have ne : a ≠ p := ne_of_none h3 n
    exact ⟨by rw [upd_ne ne]; exact h1, h2.mono (upd_ne ne) s1⟩
/-- a new changing object -/
theorem Ok.newC {g : Gx} {H Hi : Hp} {S : Sto} {p : Addr} {o : HO} {c : Cell} (k : Ok g H Hi S) (n : H p = none) (co : CellOk g (upd H p o) Hi p c) : Ok g (upd H p o) Hi (S.set p c) ∧ Ext H Hi S (upd H p o) Hi (S.set p c) ∧ S p = none := by
  have hp : Hi p = none := by
    cases e : Hi p with
    | none => rfl
    | some u => rw [k.sub p u e] at n; cases n
  have sp : S p = none := by
    cases e : S p with
    | none => rfl
    | some u => obtain ⟨_, h3⟩ := (k.cell p u e).2.some; rw [n] at h3; cases h3
  refine ⟨⟨fun b u e => by rw [upd_ne (ne_of_none (k.sub b u e) n)]; exact k.sub b u e, fun a d e => ?_, k.tab.upd (noTbl n)⟩, ⟨Same.refl _, fun b u e _ _ => by rw [upd_ne (ne_of_none e n)]; exact e, fun b u e h1 h2 => ⟨h1, by rw [Sto.set_ne (ne_of_none e n)]; exact h2⟩, fun b u e => ⟨u, by rw [upd_ne (ne_of_none e n)]; exact e⟩⟩, sp⟩
  by_cases hb : a = p
  · subst hb; rw [Sto.set_same] at e; cases e; exact ⟨hp, co⟩
  · rw [Sto.set_ne hb] at e
    obtain ⟨h1, h2⟩ := k.cell a d e
    exact ⟨h1, h2.mono (upd_ne hb) (Same.refl _)⟩
/-- a changing object is changed -/
theorem Ok.put {g : Gx} {H Hi : Hp} {S : Sto} {p : Addr} {o : HO} {c0 c : Cell} (k : Ok g H Hi S) (n : S p = some c0) (co : CellOk g (upd H p o) Hi p c) : Ok g (upd H p o) Hi (S.set p c) ∧ Ext H Hi S (upd H p o) Hi (S.set p c) := by
  obtain ⟨hp, h0⟩ := k.cell p c0 n
  have ne : ∀ b, S b = none → b ≠ p := fun b h q => by rw [q, n] at h; cases h
  refine ⟨⟨fun b u e => by rw [upd_ne (ne_of_none e hp)]; exact k.sub b u e, fun a d e => ?_, k.tab.upd h0.notTbl⟩, ⟨Same.refl _, fun b u e h _ => by rw [upd_ne (ne b h)]; exact e, fun b u e h1 h2 => ⟨h1, by rw [Sto.set_ne (ne b h2)]; exact h2⟩, fun b u e => ?_⟩⟩
  · by_cases hb : a = p
    · subst hb; rw [Sto.set_same] at e; cases e; exact ⟨hp, co⟩
    · rw [Sto.set_ne hb] at e
      obtain ⟨h1, h2⟩ := k.cell a d e
      exact ⟨h1, h2.mono (upd_ne hb) (Same.refl _)⟩
  · by_cases hb : b = p
    · subst hb; exact ⟨_, upd_same⟩
    · exact ⟨u, by rw [upd_ne hb]; exact e⟩
/-- a changing object will change no more -/
theorem Ok.freeze {g : Gx} {H Hi : Hp} {S : Sto} {p : Addr} {c : Cell} (k : Ok g H Hi S) (n : S p = some c) : ∃ o, H p = some o ∧ Hi p = none ∧ CellOk g H Hi p c ∧ Same Hi (upd Hi p o) ∧ Ok g H (upd Hi p o) (S.del p) ∧ Ext H Hi S H (upd Hi p o) (S.del p) := by
  obtain ⟨hp, h0⟩ := k.cell p c n
  obtain ⟨o, ho⟩ := h0.some
  have s1 : Same Hi (upd Hi p o) := fun b u e => by rw [upd_ne (ne_of_none e hp)]; exact e
  refine ⟨o, ho, hp, h0, s1, ⟨fun b u e => ?_, fun a d e => ?_, k.tab.frz h0.notTbl s1⟩, ⟨s1, fun b u e _ _ => e, fun b u e h1 h2 => ?_, fun b u e => ⟨u, e⟩⟩⟩
  · by_cases hb : b = p
    · subst hb; rw [upd_same] at e; cases e; exact ho
    · rw [upd_ne hb] at e; exact k.sub b u e
  · by_cases hb : a = p
    · subst hb; rw [Sto.del_same] at e; cases e
    · rw [Sto.del_ne hb] at e
      obtain ⟨h1, h2⟩ := k.cell a d e
      exact ⟨by rw [upd_ne hb]; exact h1, h2.mono rfl s1⟩
  · have ne : b ≠ p := fun q => by rw [q, n] at h2; cases h2
    exact ⟨by rw [upd_ne ne]; exact h1, by rw [Sto.del_ne ne]; exact h2⟩
end DL
end
/-! ## DL2 -/
section
set_option Elab.async false
set_option linter.all false
set_option maxRecDepth 100000
set_option maxHeartbeats 2000000
namespace DL
open PySem PySem.Spec PyProof.Rows L2

abbrev K1 := D → Sto → Prop
abbrev X1 := Nat → List (Nat × D) → Sto → Prop
abbrev DE := Env → Sto → K1 → X1 → Prop
abbrev DT := Env → Sto → (Bool → Sto → Prop) → X1 → Prop
abbrev DA := Env → Sto → (List D → Sto → Prop) → X1 → Prop
abbrev DG := D → Env → Sto → (Env → Sto → Prop) → X1 → Prop
abbrev DGs := List D → Env → Sto → (Env → Sto → Prop) → X1 → Prop
structure DEnds where
  nx : Env → Sto → Prop
  rt : K1
  bk : Env → Sto → Prop := fun _ _ => False
  ct : Env → Sto → Prop := fun _ _ => False
  xe : Nat → List (Nat × D) → Env → Sto → Prop
abbrev DS := Env → Sto → DEnds → Prop
/-- a def: its arguments, the store, what is wanted of its value, of its exception -/
abbrev DFn := List D → Sto → K1 → X1 → Prop

/-- an exception: class number c with the fields fs -/
def ExRep (g : Gx) (H Hi : Hp) (c : Nat) (fs : List (Nat × D)) (cls : Value) (dx : Option Addr) : Prop :=
  cls = .ref (g.ca c) ∧ ExF g Hi fs dx

structure Cxt (X : Cx) (g : Gx) (e : En) (W : WX) : Prop where
  K : X.K = g.K
  mg : X.mg = g.mg
  calm : X.calm = true
  gd : X.A.guards = some []
  tk : Takes X W

def XOk (g : Gx) (e : En) (W : WX) (Hi : Hp) (σ : L2.St) (E : X1) : Prop :=
  ∀ c fs S' H' Hi' cls dx, Is g e H' Hi' S' → Same Hi Hi' → ExRep g H' Hi' c fs cls dx → E c fs S' → W cls dx σ H'
theorem XOk.mono {g : Gx} {e : En} {W : WX} {Hi Hi' : Hp} {σ : L2.St} {E : X1} (h : XOk g e W Hi σ E) (s : Same Hi Hi') : XOk g e W Hi' σ E :=
  fun c fs S' H' Hi2 cls dx i s2 x q => h c fs S' H' Hi2 cls dx i (s.trans s2) x q

def lift (g : Gx) (e : En) (W : WX) (f : DE) : TE := fun σ H Q => ∃ ρ Hi S k E, Is g e H Hi S ∧ Slots g Hi σ ρ ∧ f ρ S k E ∧
  (∀ d S' v H' Hi', Is g e H' Hi' S' → Same Hi Hi' → Rep g Hi' v d → k d S' → Q v H') ∧ XOk g e W Hi σ E
def liftT (g : Gx) (e : En) (W : WX) (f : DT) : TT := fun σ H Q => ∃ ρ Hi S k E, Is g e H Hi S ∧ Slots g Hi σ ρ ∧ f ρ S k E ∧
  (∀ b S' H' Hi', Is g e H' Hi' S' → Same Hi Hi' → k b S' → Q b H') ∧ XOk g e W Hi σ E
def liftA (g : Gx) (e : En) (W : WX) (f : DA) : TA := fun σ H Q => ∃ ρ Hi S k E, Is g e H Hi S ∧ Slots g Hi σ ρ ∧ f ρ S k E ∧
  (∀ ds S' vs H' Hi', Is g e H' Hi' S' → Same Hi Hi' → Reps g Hi' vs ds → k ds S' → Q vs H') ∧ XOk g e W Hi σ E
/-- a new list, which may change -/
def liftM (g : Gx) (e : En) (W : WX) (f : DA) : TE := fun σ H Q => ∃ ρ Hi S k E, Is g e H Hi S ∧ Slots g Hi σ ρ ∧ f ρ S k E ∧
  (∀ ds S' p H' Hi', S' p = none → Is g e H' Hi' (S'.set p (.lst ds)) → Same Hi Hi' → k ds S' → Q (.ref p) H') ∧ XOk g e W Hi σ E
structure EndsOk (g : Gx) (e : En) (W : WX) (Hi : Hp) (DD : DEnds) (D : Ends) : Prop where
  nx : ∀ ρ' S' σ' H' Hi', Is g e H' Hi' S' → Same Hi Hi' → Slots g Hi' σ' ρ' → DD.nx ρ' S' → D.nx σ' H'
  rt : ∀ d S' v H' Hi', Is g e H' Hi' S' → Same Hi Hi' → Rep g Hi' v d → DD.rt d S' → D.rt v H'
  bk : ∀ ρ' S' σ' H' Hi', Is g e H' Hi' S' → Same Hi Hi' → Slots g Hi' σ' ρ' → DD.bk ρ' S' → D.bk σ' H'
  ct : ∀ ρ' S' σ' H' Hi', Is g e H' Hi' S' → Same Hi Hi' → Slots g Hi' σ' ρ' → DD.ct ρ' S' → D.ct σ' H'
  xe : ∀ c fs ρ' S' σ' H' Hi' cls dx, Is g e H' Hi' S' → Same Hi Hi' → Slots g Hi' σ' ρ' → ExRep g H' Hi' c fs cls dx → DD.xe c fs ρ' S' → W cls dx σ' H'
theorem EndsOk.mono {g : Gx} {e : En} {W : WX} {Hi Hi1 : Hp} {DD : DEnds} {D : Ends} (h : EndsOk g e W Hi DD D) (s : Same Hi Hi1) : EndsOk g e W Hi1 DD D :=
  ⟨fun ρ S σ H Hi' i s' => h.nx ρ S σ H Hi' i (s.trans s'), fun d S v H Hi' i s' => h.rt d S v H Hi' i (s.trans s'), fun ρ S σ H Hi' i s' => h.bk ρ S σ H Hi' i (s.trans s'),
    fun ρ S σ H Hi' i s' => h.ct ρ S σ H Hi' i (s.trans s'), fun c fs ρ S σ H Hi' cls dx i s' => h.xe c fs ρ S σ H Hi' cls dx i (s.trans s')⟩
theorem EndsOk.x {g : Gx} {e : En} {W : WX} {Hi : Hp} {DD : DEnds} {D : Ends} {σ : L2.St} {ρ : Env} (h : EndsOk g e W Hi DD D) (s : Slots g Hi σ ρ) : XOk g e W Hi σ (fun c fs S' => DD.xe c fs ρ S') :=
  fun c fs S' H' Hi' cls dx i s' x q => h.xe c fs ρ S' σ H' Hi' cls dx i s' (s.mono s') x q
def liftS (g : Gx) (e : En) (W : WX) (t : DS) : TS := fun D σ H => ∃ ρ Hi S DD, Is g e H Hi S ∧ Slots g Hi σ ρ ∧ t ρ S DD ∧ EndsOk g e W Hi DD D
def liftG (g : Gx) (e : En) (W : WX) (t : DG) : TG := fun v σ H Q => ∃ d ρ Hi S k E, Is g e H Hi S ∧ Slots g Hi σ ρ ∧ Rep g Hi v d ∧ t d ρ S k E ∧
  (∀ ρ' S' σ' H' Hi', Is g e H' Hi' S' → Same Hi Hi' → Slots g Hi' σ' ρ' → k ρ' S' → Q σ' H') ∧ (∀ c fs S' σ' H' Hi' cls dx, Is g e H' Hi' S' → Same Hi Hi' → ExRep g H' Hi' c fs cls dx → E c fs S' → W cls dx σ' H')
def liftGs (g : Gx) (e : En) (W : WX) (t : DGs) : TGs := fun vs σ H Q => ∃ ds ρ Hi S k E, Is g e H Hi S ∧ Slots g Hi σ ρ ∧ Reps g Hi vs ds ∧ t ds ρ S k E ∧
  (∀ ρ' S' σ' H' Hi', Is g e H' Hi' S' → Same Hi Hi' → Slots g Hi' σ' ρ' → k ρ' S' → Q σ' H') ∧ (∀ c fs S' σ' H' Hi' cls dx, Is g e H' Hi' S' → Same Hi Hi' → ExRep g H' Hi' c fs cls dx → E c fs S' → W cls dx σ' H')

theorem _root_.L2.PE.imp {X : Cx} {a : Expr} {t t' : TE} (h : PE X a t) (m : ∀ σ H Q, t' σ H Q → t σ H Q) : PE X a t' := ⟨fun pins s σ H Q I q => h.run pins s σ H Q I (m σ H Q q)⟩
theorem _root_.L2.PT.imp {X : Cx} {a : Expr} {t t' : TT} (h : PT X a t) (m : ∀ σ H Q, t' σ H Q → t σ H Q) : PT X a t' := ⟨fun pins s σ H Q I q => h.run pins s σ H Q I (m σ H Q q)⟩
theorem _root_.L2.PW.imp {X : Cx} {a : Expr} {t t' : TT} (h : PW X a t) (m : ∀ σ H Q, t' σ H Q → t σ H Q) : PW X a t' := ⟨fun w pins s σ H Q I q => h.run w pins s σ H Q I (m σ H Q q)⟩
theorem _root_.L2.PA.imp {X : Cx} {a : List Expr} {t t' : TA} (h : PA X a t) (m : ∀ σ H Q, t' σ H Q → t σ H Q) : PA X a t' := ⟨fun pos pins s σ H Q I q => h.run pos pins s σ H Q I (m σ H Q q)⟩
theorem _root_.L2.PS.imp {X : Cx} {a : Stmt} {t t' : TS} (h : PS X a t) (m : ∀ D σ H, t' D σ H → t D σ H) : PS X a t' := ⟨fun pins s σ H Q I q => h.run pins s σ H Q I (m Q σ H q)⟩
theorem _root_.L2.PSs.imp {X : Cx} {a : List Stmt} {t t' : TS} (h : PSs X a t) (m : ∀ D σ H, t' D σ H → t D σ H) : PSs X a t' := ⟨fun pins s σ H Q I q => h.run pins s σ H Q I (m Q σ H q)⟩
theorem _root_.L2.PG.imp {X : Cx} {a : Expr} {t t' : TG} (h : PG X a t) (m : ∀ v σ H Q, t' v σ H Q → t v σ H Q) : PG X a t' := ⟨fun pins s σ H v u Q I r q => h.run pins s σ H v u Q I r (m v σ H Q q)⟩
theorem _root_.L2.PGs.imp {X : Cx} {a : List Expr} {t t' : TGs} (h : PGs X a t) (m : ∀ v σ H Q, t' v σ H Q → t v σ H Q) : PGs X a t' := ⟨fun pins s σ H v u Q I r q => h.run pins s σ H v u Q I r (m v σ H Q q)⟩
theorem _root_.L2.PI.imp {X : Cx} {tg a : Expr} {t t' : TI} (h : PI X tg a t) (m : ∀ σ H Q, t' σ H Q → t σ H Q) : PI X tg a t' := ⟨fun pins s σ H Q I q => h.run pins s σ H Q I (m σ H Q q)⟩

section
variable {X : Cx} {g : Gx} {e : En} {W : WX} {a b c : Expr} {pos : Pos}
/-! ### names, constants -/
def dVar (i : Nat) : DE := fun ρ S k _ => ∃ d, ρ[i]? = some (some d) ∧ k d S
theorem de_var {i : Nat} (h : PE X a (tVar i)) : PE X a (lift g e W (dVar i)) := h.imp fun σ H Q ⟨ρ, Hi, S, k, E, i, sl, ⟨d, hd, q⟩, hk, hx⟩ =>
  let ⟨v, hv, r⟩ := sl.2 _ d hd
  ⟨v, hv, hk d S v H Hi i (Same.refl _) r q⟩
def dC (d : D) : DE := fun _ S k _ => k d S
theorem de_c {v : V} {d : D} (h : PE X a (tC v)) (r : ∀ H, Rep g H v d) : PE X a (lift g e W (dC d)) := h.imp fun σ H Q ⟨ρ, Hi, S, k, E, i, sl, q, hk, hx⟩ => hk d S v H Hi i (Same.refl _) (r _) q
theorem de_int {i : Int} {j} : PE X (.Constant (.int i) j pos) (lift g e W (dC (.int i))) := de_c pe_int fun _ => rfl
theorem de_bl {i : Bool} {j} : PE X (.Constant (.bool i) j pos) (lift g e W (dC (.bl i))) := de_c pe_bl fun _ => rfl
theorem de_non {j} : PE X (.Constant .none j pos) (lift g e W (dC .non)) := de_c pe_non fun _ => rfl
theorem de_str {x j} : PE X (.Constant (.str x) j pos) (lift g e W (dC (.str x))) := de_c pe_str fun _ => rfl
/-- code that is never come to -/
def dBot : DE := fun _ _ _ _ => False
theorem de_bot : PE X a (lift g e W dBot) := ⟨fun _ _ _ _ _ _ ⟨_, _, _, _, _, _, _, z, _⟩ => z.elim⟩

/-! ### operators by values -/
abbrev DOp := D → D → Sto → K1 → Prop
def OpOk (g : Gx) (e : En) (r : R2) (h : DOp) : Prop := ∀ H Hi S v w x y k Q, Is g e H Hi S → Rep g Hi v x → Rep g Hi w y → h x y S k →
  (∀ d S' u H' Hi', Is g e H' Hi' S' → Same Hi Hi' → Rep g Hi' u d → k d S' → Q u H') → r v w H Q
def d2 (h : DOp) (f f' : DE) : DE := fun ρ S k E => f ρ S (fun x S1 => f' ρ S1 (fun y S2 => h x y S2 k) E) E
theorem lift2 {r : R2} {h : DOp} {f f' : DE} (o : OpOk g e r h) : ∀ σ H Q, lift g e W (d2 h f f') σ H Q → tOp r (lift g e W f) (lift g e W f') σ H Q := by
  rintro σ H Q ⟨ρ, Hi, S, k, E, i, sl, q, hk, hx⟩
  refine ⟨ρ, Hi, S, _, E, i, sl, q, fun x S1 v H1 Hi1 i1 s1 r1 q1 => ?_, hx⟩
  refine ⟨ρ, Hi1, S1, _, E, i1, sl.mono s1, q1, fun y S2 w H2 Hi2 i2 s2 r2 q2 => ?_, hx.mono s1⟩
  exact o H2 Hi2 S2 v w x y k Q i2 (r1.mono s2) r2 q2 fun d S' u H' Hi' i' s' r' q' => hk d S' u H' Hi' i' ((s1.trans s2).trans s') r' q'
theorem de_op {op : Operator} {r : R2} {h : DOp} {f f' : DE} (ho : OpR X (binaryOp op) r) (o : OpOk g e r h) (ha : PE X a (lift g e W f)) (hb : PE X b (lift g e W f')) : PE X (.BinOp a op b pos) (lift g e W (d2 h f f')) :=
  (pe_op ho ha hb).imp (lift2 o)
theorem de_cmp {op : CmpOp} {r : R2} {h : DOp} {f f' : DE} (ho : OpR X (compareOp op) r) (o : OpOk g e r h) (ha : PE X a (lift g e W f)) (hb : PE X b (lift g e W f')) (hm : behindInMarks op b = false) : PE X (.Compare a [op] [b] pos) (lift g e W (d2 h f f')) :=
  (pe_cmpR ho ha hb hm).imp (lift2 o)
/-- the second is a constant None: x is None -/
abbrev DUn := D → Sto → K1 → Prop
def UnOk (g : Gx) (e : En) (r : V → Hp → VK → Prop) (h : DUn) : Prop := ∀ H Hi S v x k Q, Is g e H Hi S → Rep g Hi v x → h x S k →
  (∀ d S' u H' Hi', Is g e H' Hi' S' → Same Hi Hi' → Rep g Hi' u d → k d S' → Q u H') → r v H Q
def d1 (h : DUn) (f : DE) : DE := fun ρ S k E => f ρ S (fun x S1 => h x S1 k) E
theorem lift1 {r : V → Hp → VK → Prop} {h : DUn} {f : DE} (o : UnOk g e r h) : ∀ σ H Q, lift g e W (d1 h f) σ H Q → tUn r (lift g e W f) σ H Q := by
  rintro σ H Q ⟨ρ, Hi, S, k, E, i, sl, q, hk, hx⟩
  refine ⟨ρ, Hi, S, _, E, i, sl, q, fun x S1 v H1 Hi1 i1 s1 r1 q1 => ?_, hx⟩
  exact o H1 Hi1 S1 v x k Q i1 r1 q1 fun d S' u H' Hi' i' s' r' q' => hk d S' u H' Hi' i' (s1.trans s') r' q'
theorem de_un {op : UnaryOp} {r : V → Hp → VK → Prop} {h : DUn} {f : DE} (ho : UnR X (unaryOp op) r) (o : UnOk g e r h) (ha : PE X a (lift g e W f)) : PE X (.UnaryOp op a pos) (lift g e W (d1 h f)) := (pe_un ho ha).imp (lift1 o)

/-! ### tests -/
def dTst (f : DE) : DT := fun ρ S k E => f ρ S (fun x S1 => ∃ b, x = .bl b ∧ k b S1) E
theorem liftTst {f : DE} : ∀ σ H Q, liftT g e W (dTst f) σ H Q → tB (lift g e W f) σ H Q := by
  rintro σ H Q ⟨ρ, Hi, S, k, E, i, sl, q, hk, hx⟩
  refine ⟨ρ, Hi, S, _, E, i, sl, q, fun x S1 v H1 Hi1 i1 s1 r1 q1 => ?_, hx⟩
  obtain ⟨b, rfl, q1⟩ := q1
  exact ⟨b, r1, hk b S1 H1 Hi1 i1 s1 q1⟩
/-- a value that is a bool, as a test -/
theorem dt_val {f : DE} (h : PE X a (lift g e W f)) (he : ∀ whole, isTrue a X.env whole = (do let v ← whole; standAt a.pos; holding [v] (truthy v)) := by intro _; rfl) : PT X a (liftT g e W (dTst f)) := (pt_val h he).imp liftTst
theorem dt_cmp {op : CmpOp} {r : R2} {h : DOp} {f f' : DE} (ho : OpR X (compareOp op) r) (o : OpOk g e r h) (ha : PE X a (lift g e W f)) (hb : PE X b (lift g e W f')) (hm : behindInMarks op b = false) : PT X (.Compare a [op] [b] pos) (liftT g e W (dTst (d2 h f f'))) :=
  (pt_cmpR ho ha hb hm).imp fun σ H Q q => by
    have z := liftTst (f := d2 h f f') σ H Q q
    exact lift2 o σ H _ z
def dNot (t : DT) : DT := fun ρ S k E => t ρ S (fun b S1 => k (!b) S1) E
theorem dt_not {t : DT} (h : PT X a (liftT g e W t)) : PT X (.UnaryOp .Not a pos) (liftT g e W (dNot t)) := (pt_not h).imp fun σ H Q ⟨ρ, Hi, S, k, E, i, sl, q, hk, hx⟩ =>
  ⟨ρ, Hi, S, _, E, i, sl, q, fun b S1 H1 Hi1 i1 s1 q1 => hk (!b) S1 H1 Hi1 i1 s1 q1, hx⟩
def dAnd (t u : DT) : DT := fun ρ S k E => t ρ S (fun b S1 => if b = true then u ρ S1 k E else k false S1) E
def dOr (t u : DT) : DT := fun ρ S k E => t ρ S (fun b S1 => if b = true then k true S1 else u ρ S1 k E) E
theorem dw_and1 {t : DT} (h : PT X a (liftT g e W t)) : PW X (.BoolOp .And [a] pos) (liftT g e W t) := pw_and1 h
theorem dw_or1 {t : DT} (h : PT X a (liftT g e W t)) : PW X (.BoolOp .Or [a] pos) (liftT g e W t) := pw_or1 h
theorem dw_and {t u : DT} {rest : List Expr} (h : PT X a (liftT g e W t)) (h' : PW X (.BoolOp .And (b :: rest) pos) (liftT g e W u)) : PW X (.BoolOp .And (a :: b :: rest) pos) (liftT g e W (dAnd t u)) :=
  (pw_and h h').imp fun σ H Q ⟨ρ, Hi, S, k, E, i, sl, q, hk, hx⟩ => by
    refine ⟨ρ, Hi, S, _, E, i, sl, q, fun d S1 H1 Hi1 i1 s1 q1 => ?_, hx⟩
    cases d with
    | true => exact ⟨ρ, Hi1, S1, k, E, i1, sl.mono s1, q1, fun b S2 H2 Hi2 i2 s2 q2 => hk b S2 H2 Hi2 i2 (s1.trans s2) q2, hx.mono s1⟩
    | false => exact hk false S1 H1 Hi1 i1 s1 q1
theorem dw_or {t u : DT} {rest : List Expr} (h : PT X a (liftT g e W t)) (h' : PW X (.BoolOp .Or (b :: rest) pos) (liftT g e W u)) : PW X (.BoolOp .Or (a :: b :: rest) pos) (liftT g e W (dOr t u)) :=
  (pw_or h h').imp fun σ H Q ⟨ρ, Hi, S, k, E, i, sl, q, hk, hx⟩ => by
    refine ⟨ρ, Hi, S, _, E, i, sl, q, fun d S1 H1 Hi1 i1 s1 q1 => ?_, hx⟩
    cases d with
    | false => exact ⟨ρ, Hi1, S1, k, E, i1, sl.mono s1, q1, fun b S2 H2 Hi2 i2 s2 q2 => hk b S2 H2 Hi2 i2 (s1.trans s2) q2, hx.mono s1⟩
    | true => exact hk true S1 H1 Hi1 i1 s1 q1
/-- and, or of bools as values -/
def dAndV (f f' : DE) : DE := fun ρ S k E => f ρ S (fun x S1 => ∃ b, x = .bl b ∧ if b = true then f' ρ S1 k E else k (.bl false) S1) E
def dOrV (f f' : DE) : DE := fun ρ S k E => f ρ S (fun x S1 => ∃ b, x = .bl b ∧ if b = true then k (.bl true) S1 else f' ρ S1 k E) E
def dNotV (f : DE) : DE := fun ρ S k E => f ρ S (fun x S1 => ∃ b, x = .bl b ∧ k (.bl (!b)) S1) E
theorem de_and {f f' : DE} {rest : List Expr} (h : PE X a (lift g e W f)) (h' : PE X (.BoolOp .And (b :: rest) pos) (lift g e W f')) : PE X (.BoolOp .And (a :: b :: rest) pos) (lift g e W (dAndV f f')) :=
  (pe_and h h').imp fun σ H Q ⟨ρ, Hi, S, k, E, i, sl, q, hk, hx⟩ => by
    refine ⟨ρ, Hi, S, _, E, i, sl, q, fun d S1 v H1 Hi1 i1 s1 r1 q1 => ?_, hx⟩
    obtain ⟨c, rfl, q1⟩ := q1
    refine ⟨c, r1, ?_⟩
    cases c with
    | true => exact ⟨ρ, Hi1, S1, k, E, i1, sl.mono s1, q1, fun d S2 v2 H2 Hi2 i2 s2 r2 q2 => hk d S2 v2 H2 Hi2 i2 (s1.trans s2) r2 q2, hx.mono s1⟩
    | false => exact hk (.bl false) S1 _ H1 Hi1 i1 s1 rfl q1
theorem de_or {f f' : DE} {rest : List Expr} (h : PE X a (lift g e W f)) (h' : PE X (.BoolOp .Or (b :: rest) pos) (lift g e W f')) : PE X (.BoolOp .Or (a :: b :: rest) pos) (lift g e W (dOrV f f')) :=
  (pe_or h h').imp fun σ H Q ⟨ρ, Hi, S, k, E, i, sl, q, hk, hx⟩ => by
    refine ⟨ρ, Hi, S, _, E, i, sl, q, fun d S1 v H1 Hi1 i1 s1 r1 q1 => ?_, hx⟩
    obtain ⟨c, rfl, q1⟩ := q1
    refine ⟨c, r1, ?_⟩
    cases c with
    | false => exact ⟨ρ, Hi1, S1, k, E, i1, sl.mono s1, q1, fun d S2 v2 H2 Hi2 i2 s2 r2 q2 => hk d S2 v2 H2 Hi2 i2 (s1.trans s2) r2 q2, hx.mono s1⟩
    | true => exact hk (.bl true) S1 _ H1 Hi1 i1 s1 rfl q1
theorem de_not {f : DE} (h : PE X a (lift g e W f)) : PE X (.UnaryOp .Not a pos) (lift g e W (dNotV f)) :=
  (pe_not h).imp fun σ H Q ⟨ρ, Hi, S, k, E, i, sl, q, hk, hx⟩ => by
    refine ⟨ρ, Hi, S, _, E, i, sl, q, fun d S1 v H1 Hi1 i1 s1 r1 q1 => ?_, hx⟩
    obtain ⟨c, rfl, q1⟩ := q1
    exact ⟨c, r1, hk (.bl (!c)) S1 _ H1 Hi1 i1 s1 rfl q1⟩
def dIfE (t : DT) (f f' : DE) : DE := fun ρ S k E => t ρ S (fun b S1 => if b = true then f ρ S1 k E else f' ρ S1 k E) E
theorem de_if {t : DT} {f f' : DE} (ht : PT X c (liftT g e W t)) (h : PE X a (lift g e W f)) (h' : PE X b (lift g e W f')) : PE X (.IfExp c a b pos) (lift g e W (dIfE t f f')) :=
  (pe_ifExp ht h h').imp fun σ H Q ⟨ρ, Hi, S, k, E, i, sl, q, hk, hx⟩ => by
    refine ⟨ρ, Hi, S, _, E, i, sl, q, fun d S1 H1 Hi1 i1 s1 q1 => ?_, hx⟩
    cases d with
    | true => exact ⟨ρ, Hi1, S1, k, E, i1, sl.mono s1, q1, fun d S2 v2 H2 Hi2 i2 s2 r2 q2 => hk d S2 v2 H2 Hi2 i2 (s1.trans s2) r2 q2, hx.mono s1⟩
    | false => exact ⟨ρ, Hi1, S1, k, E, i1, sl.mono s1, q1, fun d S2 v2 H2 Hi2 i2 s2 r2 q2 => hk d S2 v2 H2 Hi2 i2 (s1.trans s2) r2 q2, hx.mono s1⟩

/-! ### argument lists, displays -/
def dNil : DA := fun _ S k _ => k [] S
def dCons (f : DE) (u : DA) : DA := fun ρ S k E => f ρ S (fun d S1 => u ρ S1 (fun ds S2 => k (d :: ds) S2) E) E
theorem da_nil : PA X [] (liftA g e W dNil) := pa_nil.imp fun σ H Q ⟨ρ, Hi, S, k, E, i, sl, q, hk, hx⟩ => hk [] S [] H Hi i (Same.refl _) trivial q
theorem liftCons {f : DE} {u : DA} : ∀ σ H Q, liftA g e W (dCons f u) σ H Q → tCons (lift g e W f) (liftA g e W u) σ H Q := by
  rintro σ H Q ⟨ρ, Hi, S, k, E, i, sl, q, hk, hx⟩
  refine ⟨ρ, Hi, S, _, E, i, sl, q, fun x S1 v H1 Hi1 i1 s1 r1 q1 => ?_, hx⟩
  refine ⟨ρ, Hi1, S1, _, E, i1, sl.mono s1, q1, fun y S2 w H2 Hi2 i2 s2 r2 q2 => ?_, hx.mono s1⟩
  exact hk (x :: y) S2 (v :: w) H2 Hi2 i2 (s1.trans s2) ⟨r1.mono s2, r2⟩ q2
theorem da_cons {es : List Expr} {f : DE} {u : DA} (h : PE X a (lift g e W f)) (hr : PA X es (liftA g e W u)) (hs : starEach (a :: es) X.env = (false, eval a X.env) :: starEach es X.env := by rfl) : PA X (a :: es) (liftA g e W (dCons f u)) :=
  (pa_cons h hr hs).imp liftCons
def lstOf (S : Sto) : D → Option (List D)
  | .lst ds => some ds
  | .opq (.ref a) => match S a with
    | some (.lst ds) => some ds
    | _ => none
  | _ => none
def seqOf (S : Sto) : D → Option (List D)
  | .tup ds => some ds
  | .scr ds => some ds
  | d => lstOf S d
theorem lstOf_rep {H Hi : Hp} {S : Sto} {v : V} {d : D} {ds : List D} (k : Ok g H Hi S) (r : Rep g Hi v d) (h : lstOf S d = some ds) : ∃ a xs, v = .ref a ∧ H a = some (.lst xs) ∧ Reps g Hi xs ds := by
  cases d with
  | lst es =>
    cases h
    obtain ⟨a, xs, h1, h2, h3⟩ := r
    exact ⟨a, xs, h1, k.sub _ _ h2, h3⟩
  | opq u =>
    cases u with
    | ref a =>
      have h : (match S a with
        | some (.lst ds) => some ds
        | _ => none) = some ds := h
      cases q : S a with
      | none => rw [q] at h; cases h
      | some c =>
        rw [q] at h
        cases c with
        | lst es =>
          cases h
          obtain ⟨xs, h1, h2⟩ := (k.cell a _ q).2
          exact ⟨a, xs, r, h1, h2⟩
        | dct kvs => cases h
        | ins c fs => cases h
        | exc c fs => cases h
    | _ => cases h
  | _ => cases h
theorem seqOf_rep {H Hi : Hp} {S : Sto} {v : V} {d : D} {ds : List D} (k : Ok g H Hi S) (r : Rep g Hi v d) (h : seqOf S d = some ds) : ∃ a xs, v = .ref a ∧ (SqT g.K H a xs ∨ SqL g.K H a xs) ∧ Reps g Hi xs ds := by
  cases d with
  | tup es =>
    cases h
    obtain ⟨a, xs, h1, h2, h3⟩ := r
    exact ⟨a, xs, h1, .inl (SqT.of (k.sub _ _ h2)), h3⟩
  | scr es =>
    cases h
    obtain ⟨a, xs, h1, h2, h3⟩ := r
    exact ⟨a, xs, h1, .inr (k.sub.seq h2), h3⟩
  | _ =>
    obtain ⟨a, xs, h1, h2, h3⟩ := lstOf_rep k r h
    exact ⟨a, xs, h1, .inr (SqL.of h2), h3⟩
/-- *e, .. -/
def dStar (f : DE) (u : DA) : DA := fun ρ S k E => f ρ S (fun d S1 => ∃ xs, seqOf S1 d = some xs ∧ u ρ S1 (fun ds S2 => k (xs ++ ds) S2) E) E
theorem da_star {es : List Expr} {f : DE} {u : DA} {p : Pos} (C : Cxt X g e W) (h : PE X a (lift g e W f)) (hr : PA X es (liftA g e W u)) (hs : starEach (.Starred a p :: es) X.env = (true, eval a X.env) :: starEach es X.env := by rfl) : PA X (.Starred a p :: es) (liftA g e W (dStar f u)) :=
  (StX.pa_star h hr hs).imp fun σ H Q ⟨ρ, Hi, S, k, E, i, sl, q, hk, hx⟩ => by
    refine ⟨ρ, Hi, S, _, E, i, sl, q, fun x S1 v H1 Hi1 i1 s1 r1 q1 => ?_, hx⟩
    obtain ⟨ds, hd, q1⟩ := q1
    obtain ⟨p, xs, rfl, hq, rs⟩ := seqOf_rep i1.ok r1 hd
    refine ⟨p, xs, rfl, by rw [C.K]; exact hq, ρ, Hi1, S1, _, E, i1, sl.mono s1, q1, fun y S2 w H2 Hi2 i2 s2 r2 q2 => ?_, hx.mono s1⟩
    exact hk (ds ++ y) S2 (xs ++ w) H2 Hi2 i2 (s1.trans s2) ((rs.mono s2).append r2) q2
def sz (n : Nat) : Prop := n ≤ sizeLine
theorem sz_of {n : Nat} (h : n ≤ 16777216) : sz n := by
  show n ≤ sizeLine
  rw [sizeLine_eq]
  exact h
/-- the unchanging new object -/
theorem isNew {H Hi : Hp} {S : Sto} {p : Addr} {o : HO} (i : Is g e H Hi S) (n : H p = none) (ho : ∀ ps, o ≠ .tbl ps := by intro ps z; cases z) : Is g e (upd H p o) (upd Hi p o) S ∧ Same Hi (upd Hi p o) := by
  obtain ⟨o1, x1, s1, _⟩ := i.ok.new (o := o) n ho
  exact ⟨i.next o1 x1, s1⟩
def dTup (u : DA) : DE := fun ρ S k E => u ρ S (fun ds S1 => sz ds.length ∧ k (.tup ds) S1) E
theorem de_tup {es : List Expr} {u : DA} {x1} (h : PA X es (liftA g e W u)) : PE X (.Tuple es x1 pos) (lift g e W (dTup u)) := (pe_tup h).imp fun σ H Q ⟨ρ, Hi, S, k, E, i, sl, q, hk, hx⟩ => by
  refine ⟨ρ, Hi, S, _, E, i, sl, q, fun ds S1 vs H1 Hi1 i1 s1 r1 q1 => ?_, hx⟩
  obtain ⟨z, q1⟩ := q1
  refine ⟨by rw [r1.length]; exact z, fun p hp => ?_⟩
  obtain ⟨i2, s2⟩ := isNew (o := .tup vs) i1 hp
  exact hk (.tup ds) S1 (.ref p) _ _ i2 (s1.trans s2) ⟨p, vs, rfl, upd_same, r1.mono s2⟩ q1
/-- a new list that may change -/
theorem isNewC {H Hi : Hp} {S : Sto} {p : Addr} {xs : List V} {ds : List D} (i : Is g e H Hi S) (n : H p = none) (r : Reps g Hi xs ds) : S p = none ∧ Is g e (upd H p (.lst xs)) Hi (S.set p (.lst ds)) := by
  obtain ⟨o1, x1, s1⟩ := i.ok.newC (o := .lst xs) (c := .lst ds) n ⟨xs, upd_same, r⟩
  exact ⟨s1, i.next o1 x1⟩
def dSz (u : DA) : DA := fun ρ S k E => u ρ S (fun ds S1 => sz ds.length ∧ k ds S1) E
theorem dm_lst {es : List Expr} {u : DA} (h : PA X es (liftA g e W u)) : PE X (.List es pos) (liftM g e W (dSz u)) := (pe_lst h).imp fun σ H Q ⟨ρ, Hi, S, k, E, i, sl, q, hk, hx⟩ => by
  refine ⟨ρ, Hi, S, _, E, i, sl, q, fun ds S1 vs H1 Hi1 i1 s1 r1 q1 => ?_, hx⟩
  obtain ⟨z, q1⟩ := q1
  refine ⟨by rw [r1.length]; exact z, fun p hp => ?_⟩
  obtain ⟨n2, i2⟩ := isNewC i1 hp r1
  exact hk ds S1 p _ _ n2 i2 s1 q1
/-- a new list that will not change; one that may -/
def dFrz (u : DA) : DE := fun ρ S k E => u ρ S (fun ds S1 => k (.lst ds) S1) E
def dMut (u : DA) : DE := fun ρ S k E => u ρ S (fun ds S1 => ∀ p, S1 p = none → k (.mu p) (S1.set p (.lst ds))) E
theorem set_del {S : Sto} {p : Addr} {c : Cell} (h : S p = none) : (S.set p c).del p = S := by
  funext b
  by_cases hb : b = p
  · subst hb; rw [Sto.del_same, h]
  · rw [Sto.del_ne hb, Sto.set_ne hb]
theorem de_frz {u : DA} (h : PE X a (liftM g e W u)) : PE X a (lift g e W (dFrz u)) := h.imp fun σ H Q ⟨ρ, Hi, S, k, E, i, sl, q, hk, hx⟩ => by
  refine ⟨ρ, Hi, S, _, E, i, sl, q, fun ds S1 p H1 Hi1 n1 i1 s1 q1 => ?_, hx⟩
  obtain ⟨o, ho, hp, ⟨xs, hc, rs⟩, s2, k2, x2⟩ := i1.ok.freeze (p := p) (c := .lst ds) Sto.set_same
  rw [set_del n1] at k2 x2
  rw [hc] at ho
  cases ho
  exact hk (.lst ds) S1 (.ref p) H1 _ (i1.next k2 x2) (s1.trans s2) ⟨p, xs, rfl, upd_same, rs.mono s2⟩ q1
theorem de_mut {u : DA} (h : PE X a (liftM g e W u)) : PE X a (lift g e W (dMut u)) := h.imp fun σ H Q ⟨ρ, Hi, S, k, E, i, sl, q, hk, hx⟩ =>
  ⟨ρ, Hi, S, _, E, i, sl, q, fun ds S1 p H1 Hi1 n1 i1 s1 q1 => hk (.mu p) _ (.ref p) H1 Hi1 i1 s1 rfl (q1 p n1), hx⟩
/-- a list held by a name will change no more -/
def dFz (f : DE) : DE := fun ρ S k E => f ρ S (fun d S1 => ∃ p ds, d = .mu p ∧ S1 p = some (.lst ds) ∧ k (.lst ds) (S1.del p)) E
theorem de_fz {f : DE} (h : PE X a (lift g e W f)) : PE X a (lift g e W (dFz f)) := h.imp fun σ H Q ⟨ρ, Hi, S, k, E, i, sl, q, hk, hx⟩ => by
  refine ⟨ρ, Hi, S, _, E, i, sl, q, fun d S1 v H1 Hi1 i1 s1 r1 q1 => ?_, hx⟩
  obtain ⟨p, ds, rfl, hS, q1⟩ := q1
  have r1 : v = .ref p := r1
  subst r1
  obtain ⟨o, ho, hp, ⟨xs, hc, rs⟩, s2, k2, x2⟩ := i1.ok.freeze hS
  rw [hc] at ho
  cases ho
  exact hk (.lst ds) _ (.ref p) H1 _ (i1.next k2 x2) (s1.trans s2) ⟨p, xs, rfl, upd_same, rs.mono s2⟩ q1

/-! ### statements -/
def dSkip : DS := fun ρ S D => D.nx ρ S
def dSeq (t u : DS) : DS := fun ρ S D => t ρ S { D with nx := fun ρ' S' => u ρ' S' D }
def dRet (f : DE) : DS := fun ρ S D => f ρ S D.rt (fun c fs S' => D.xe c fs ρ S')
def dRetN : DS := fun _ S D => D.rt .non S
def dDrop (f : DE) : DS := fun ρ S D => f ρ S (fun _ S1 => D.nx ρ S1) (fun c fs S' => D.xe c fs ρ S')
def dSet (i : Nat) (f : DE) : DS := fun ρ S D => f ρ S (fun d S1 => D.nx (ρ.set i (some d)) S1) (fun c fs S' => D.xe c fs ρ S')
def dIf (c : DT) (t u : DS) : DS := fun ρ S D => c ρ S (fun b S1 => if b = true then t ρ S1 D else u ρ S1 D) (fun c fs S' => D.xe c fs ρ S')
def dBrk : DS := fun ρ S D => D.bk ρ S
def dCnt : DS := fun ρ S D => D.ct ρ S
def dNev : DS := fun _ _ _ => False
theorem dss_nil : PSs X [] (liftS g e W dSkip) := pss_nil.imp fun D σ H ⟨ρ, Hi, S, DD, i, sl, q, ok⟩ => ok.nx ρ S σ H Hi i (Same.refl _) sl q
theorem dss_never {sts : List Stmt} : PSs X sts (liftS g e W dNev) := ⟨fun _ _ _ _ _ _ ⟨_, _, _, _, _, _, z, _⟩ => z.elim⟩
theorem ds_never {st : Stmt} : PS X st (liftS g e W dNev) := ⟨fun _ _ _ _ _ _ ⟨_, _, _, _, _, _, z, _⟩ => z.elim⟩
theorem dss_cons {st : Stmt} {rest : List Stmt} {t u : DS} (h1 : PS X st (liftS g e W t)) (h2 : PSs X rest (liftS g e W u)) : PSs X (st :: rest) (liftS g e W (dSeq t u)) :=
  (pss_cons h1 h2).imp fun D σ H ⟨ρ, Hi, S, DD, i, sl, q, ok⟩ => by
    refine ⟨ρ, Hi, S, _, i, sl, q, ⟨fun ρ' S' σ' H' Hi' i' s' sl' q' => ?_, ok.rt, ok.bk, ok.ct, ok.xe⟩⟩
    exact ⟨ρ', Hi', S', DD, i', sl', q', ok.mono s'⟩
theorem dss_one {st : Stmt} {t : DS} (h1 : PS X st (liftS g e W t)) : PSs X [st] (liftS g e W t) := pss_one h1
theorem ds_pass : PS X (.Pass pos) (liftS g e W dSkip) := ps_pass.imp fun D σ H ⟨ρ, Hi, S, DD, i, sl, q, ok⟩ => ok.nx ρ S σ H Hi i (Same.refl _) sl q
theorem ds_break : PS X (.Break pos) (liftS g e W dBrk) := ps_break.imp fun D σ H ⟨ρ, Hi, S, DD, i, sl, q, ok⟩ => ok.bk ρ S σ H Hi i (Same.refl _) sl q
theorem ds_continue : PS X (.Continue pos) (liftS g e W dCnt) := ps_continue.imp fun D σ H ⟨ρ, Hi, S, DD, i, sl, q, ok⟩ => ok.ct ρ S σ H Hi i (Same.refl _) sl q
theorem ds_ret {f : DE} (h : PE X a (lift g e W f)) : PS X (.Return (some a) pos) (liftS g e W (dRet f)) := (ps_ret h).imp fun D σ H ⟨ρ, Hi, S, DD, i, sl, q, ok⟩ => ⟨ρ, Hi, S, _, _, i, sl, q, ok.rt, ok.x sl⟩
theorem ds_retN : PS X (.Return none pos) (liftS g e W dRetN) := ps_retN.imp fun D σ H ⟨ρ, Hi, S, DD, i, sl, q, ok⟩ => ok.rt .non S .non H Hi i (Same.refl _) rfl q
theorem ds_expr {f : DE} (h : PE X a (lift g e W f)) (hs : swapsWith a none pos.line X.env = pure false := by rfl) : PS X (.Expr a pos) (liftS g e W (dDrop f)) := (ps_expr h hs).imp fun D σ H ⟨ρ, Hi, S, DD, i, sl, q, ok⟩ =>
  ⟨ρ, Hi, S, _, _, i, sl, q, fun d S1 v H1 Hi1 i1 s1 r1 q1 => ok.nx ρ S1 σ H1 Hi1 i1 s1 (sl.mono s1) q1, ok.x sl⟩
theorem ds_set {i : Nat} {x : Str} {pos' : Pos} {f : DE} (hN : X.N.Nodup) (hi : X.N[i]? = some x) (hx : Loc X.env.scope x) (h : PE X a (lift g e W f)) (hs : swapsWith a (some (.Name x pos')) pos.line X.env = pure false := by rfl)
    (hf : X.fn x = true ∨ X.env.scope.names.lookup x = some .local := by first | exact .inl rfl | exact .inr rfl | assumption) : PS X (.Assign [.Name x pos'] a pos) (liftS g e W (dSet i f)) :=
  (ps_set hN hi hx h hs hf).imp fun D σ H ⟨ρ, Hi, S, DD, i, sl, q, ok⟩ =>
    ⟨ρ, Hi, S, _, _, i, sl, q, fun d S1 v H1 Hi1 i1 s1 r1 q1 => ok.nx _ S1 _ H1 Hi1 i1 s1 ((sl.mono s1).set r1) q1, ok.x sl⟩
theorem ds_if {c : Expr} {t : DT} {u u' : DS} {as bs : List Stmt} (hc : PT X c (liftT g e W t)) (ha : PSs X as (liftS g e W u)) (hb : PSs X bs (liftS g e W u')) : PS X (.If c as bs pos) (liftS g e W (dIf t u u')) :=
  (ps_if hc ha hb).imp fun D σ H ⟨ρ, Hi, S, DD, i, sl, q, ok⟩ => by
    refine ⟨ρ, Hi, S, _, _, i, sl, q, fun d S1 H1 Hi1 i1 s1 q1 => ?_, ok.x sl⟩
    cases d with
    | true => exact ⟨ρ, Hi1, S1, DD, i1, sl.mono s1, q1, ok.mono s1⟩
    | false => exact ⟨ρ, Hi1, S1, DD, i1, sl.mono s1, q1, ok.mono s1⟩
end
end DL
end
/-! ## DL3 -/
section
set_option Elab.async false
set_option linter.all false
set_option maxRecDepth 100000
set_option maxHeartbeats 2000000
namespace DL
open PySem PySem.Spec PyProof.Rows L2

/-! ### a def's promise, by data -/
def spD (g : Gx) (wf : DFn) : Sp := fun vs H Q E => ∃ ds Hi S k E1, Ok g H Hi S ∧ Reps g Hi vs ds ∧ wf ds S k E1 ∧
  (∀ d S' v H' Hi', Ok g H' Hi' S' → Ext H Hi S H' Hi' S' → Rep g Hi' v d → k d S' → Q v H') ∧
  (∀ c fs S' H' Hi' cls dx, Ok g H' Hi' S' → Ext H Hi S H' Hi' S' → ExRep g H' Hi' c fs cls dx → E1 c fs S' → E cls dx H')
/-- a promise by bound values; by positional ones: where no text is being written of a container -/
def FnB (P : Program) (w : World) (K : PySem.W.Frag) (mg : Str → Option Value) (base : Heap) (k : Nat) (f : Addr) (fd : FuncData) (ps : List Str) (sp : Sp) : Prop :=
  ∀ (A : Around) (outer : List PySem.Env) (s : Shared) (H : Hp) (args : Args) (us : List Value) (vs : List V) (Q : VK) (E : XK), Room k A → A.guards = some [] → Env0 P w K mg base A outer s H →
    BindsTo s fd args (ps.zip us) → Vals vs us → vs.length = ps.length → sp vs H Q E → codeAny (model P w) A (.call (.ref f) args) (CR (L2.CX P w) outer P w H s Q E) s
def FnG (P : Program) (w : World) (K : PySem.W.Frag) (mg : Str → Option Value) (base : Heap) (k : Nat) (f : Addr) (sp : Sp) : Prop :=
  ∀ (A : Around) (outer : List PySem.Env) (s : Shared) (H : Hp) (us : List Value) (vs : List V) (Q : VK) (E : XK), Room k A → A.guards = some [] → Env0 P w K mg base A outer s H → Vals vs us → sp vs H Q E →
    codeAny (model P w) A (.call (.ref f) { pos := us, kw := [] }) (CR (L2.CX P w) outer P w H s Q E) s
theorem FnG.mono {P : Program} {w : World} {K : PySem.W.Frag} {mg : Str → Option Value} {base : Heap} {j k : Nat} {f : Addr} {sp : Sp} (F : FnG P w K mg base j f sp) (h : j ≤ k) : FnG P w K mg base k f sp :=
  fun A outer s H us vs Q E hr hg e0 r q => F A outer s H us vs Q E (hr.mono h) hg e0 r q
theorem FnG.imp {P : Program} {w : World} {K : PySem.W.Frag} {mg : Str → Option Value} {base : Heap} {k : Nat} {f : Addr} {sp sp' : Sp} (F : FnG P w K mg base k f sp) (h : ∀ vs H Q E, sp' vs H Q E → sp vs H Q E) : FnG P w K mg base k f sp' :=
  fun A outer s H us vs Q E hr hg e0 r q => F A outer s H us vs Q E hr hg e0 r (h _ _ _ _ q)
theorem FnB.raw {P : Program} {w : World} {K : PySem.W.Frag} {mg : Str → Option Value} {base : Heap} {k : Nat} {f : Addr} {fd : FuncData} {ps : List Str} {sp : Sp} {ds : List Value} {dvs : List V} (F : FnB P w K mg base k f fd ps sp) (hb : Binds K fd ps ds) (hd : Vals dvs ds) :
    FnG P w K mg base k f (fun vs H Q E => (vs ++ dvs).length = ps.length ∧ sp (vs ++ dvs) H Q E) := by
  intro A outer s H us vs Q E hr hg e0 r ⟨hl, hs⟩
  have r2 : Vals (vs ++ dvs) (us ++ ds) := r.append hd
  have hl2 : (us ++ ds).length = ps.length := r2.length.symm.trans hl
  exact F A outer s H _ (us ++ ds) (vs ++ dvs) Q E hr hg e0 (hb s us (e0.mod.kin.keeps fun b o e => (e0.bs b o e).1) hl2) r2 hl hs
abbrev DFnB (g : Gx) (P : Program) (w : World) (base : Heap) (k : Nat) (f : Addr) (fd : FuncData) (ps : List Str) (wf : DFn) : Prop := FnB P w g.K g.mg base k f fd ps (spD g wf)
abbrev DFnR (g : Gx) (P : Program) (w : World) (base : Heap) (k : Nat) (f : Addr) (wf : DFn) : Prop := FnG P w g.K g.mg base k f (spD g wf)
def denv (n : Nat) (ds : List D) : Env := ds.map some ++ List.replicate (n - ds.length) none
def dBody (n : Nat) (t : DS) : DFn := fun ds S k E => t (denv n ds) S { nx := fun _ S' => k .non S', rt := k, xe := fun c fs _ S' => E c fs S' }

theorem slots_start {g : Gx} {Hi : Hp} {N : List Str} {vs : List V} {ds : List D} (r : Reps g Hi vs ds) : Slots g Hi (L2.start N vs) (denv N.length ds) := by
  have hl := r.length
  refine ⟨by unfold L2.start denv; simp [hl], fun i d e => ?_⟩
  unfold denv at e
  unfold L2.start
  by_cases h : i < ds.length
  · rw [List.getElem?_append_left (by simpa using h), List.getElem?_map] at e
    cases q : ds[i]? with
    | none => rw [q] at e; cases e
    | some x =>
      rw [q] at e
      cases e
      obtain ⟨v, h1, h2⟩ := r.get q
      exact ⟨v, by rw [List.getElem?_append_left (by simpa [hl] using h), List.getElem?_map, h1]; rfl, h2⟩
  · rw [List.getElem?_append_right (by simpa using h), List.getElem?_replicate] at e
    split at e <;> cases e

/-- the wish of a def's body -/
abbrev wX (E : XK) : WX := fun c d _ H => E c d H
abbrev cxD (g : Gx) (P : Program) (w : World) (base : Heap) (N : List Str) (qual : Str) (scope : Scope) (f : Addr) (cd : Value) (A : Around) (outer : List PySem.Env) (s : Shared) (H : Hp) (E : XK) : Cx :=
  cxOf (L2.CX P w) P w g.K g.mg base N qual scope f cd A outer s H E
theorem cxt_of {g : Gx} {P : Program} {w : World} {base : Heap} {N : List Str} {qual : Str} {scope : Scope} {f : Addr} {cd : Value} {A : Around} {outer : List PySem.Env} {s : Shared} {H : Hp} {E : XK} {e : En} (hg : A.guards = some []) : Cxt (cxD g P w base N qual scope f cd A outer s H E) g e (wX E) :=
  ⟨rfl, rfl, rfl, hg, takes_of rfl rfl rfl rfl⟩

section
variable {g : Gx} {P : Program} {w : World} {base : Heap}
/-- the body of a def keeps its promise -/
theorem body_ok {N : List Str} {qual : Str} {scope : Scope} {f : Addr} {cd : Value} {A : Around} {outer : List PySem.Env} {s : Shared} {body : List Stmt} {t : DS} {H Hi : Hp} {S : Sto} {ds : List D} {vs : List V} {k : K1} {E1 : X1} {Q : VK} {E : XK}
    (hb : ∀ e : En, PSs (cxD g P w base N qual scope f cd A outer s H E) body (liftS g e (wX E) t))
    (o : Ok g H Hi S) (r : Reps g Hi vs ds) (q : dBody N.length t ds S k E1)
    (hk : ∀ d S' v H' Hi', Ok g H' Hi' S' → Ext H Hi S H' Hi' S' → Rep g Hi' v d → k d S' → Q v H')
    (hx : ∀ c fs S' H' Hi' cls dx, Ok g H' Hi' S' → Ext H Hi S H' Hi' S' → ExRep g H' Hi' c fs cls dx → E1 c fs S' → E cls dx H') :
    ∃ t', PSs (cxD g P w base N qual scope f cd A outer s H E) body t' ∧ t' { nx := fun _ H' => Q .non H', rt := Q } (L2.start N vs) H := by
  refine ⟨_, hb ⟨H, Hi, S, o.sub⟩, denv N.length ds, Hi, S, _, ⟨o, Ext.refl⟩, slots_start r, q, ⟨fun ρ' S' σ' H' Hi' i' s' sl' q' => ?_, fun d S' v H' Hi' i' s' r' q' => hk d S' v H' Hi' i'.ok i'.ext r' q', fun _ _ _ _ _ _ _ _ z => z.elim, fun _ _ _ _ _ _ _ _ z => z.elim, fun c fs ρ' S' σ' H' Hi' cls dx i' s' sl' x' q' => hx c fs S' H' Hi' cls dx i'.ok i'.ext x' q'⟩⟩
  exact hk .non S' .non H' Hi' i'.ok i'.ext rfl q'
/-- how a body is told -/
abbrev BodyD (g : Gx) (P : Program) (w : World) (base : Heap) (k : Nat) (N : List Str) (qual : Str) (scope : Scope) (body : List Stmt) (f : Addr) (t : DS) : Prop :=
  ∀ (cdv : Value) (A : Around) (outer : List PySem.Env) (s : Shared) (H : Hp) (E : XK), Room k (A.deeper (envOfC qual scope s.heap.objs.size f cdv)) → A.guards = some [] → ∀ e : En, PSs (cxD g P w base N qual scope f cdv A outer s H E) body (liftS g e (wX E) t)
/-- a def by its body -/
theorem fn_b {x qual : Str} {params : Arguments} {body : List Stmt} {scope : Scope} {dvs : List V} {kws : List (Str × V)} {N ps : List Str} {k : Nat} {f : Addr} {fd : FuncData} {t : DS}
    (F : FunD g.K x qual params body scope dvs kws f fd) (Sc : FnScope N ps scope) (hb : BodyD g P w base k N qual scope body f t) : DFnB g P w base (k + 1) f fd ps (dBody N.length t) := by
  intro A outer s H args us vs Q E hr hg e0 hbind r hl h
  obtain ⟨ds, Hi, S, k1, E1, o, rs, q, hk, hx⟩ := h
  obtain ⟨oc, od, dV, kV, doc, pm, an, cdv, ct, osl, rfl, lk, hcd, _, _⟩ := F.ex
  refine StX.run_bnd lk hcd Sc hr e0 (G := fun xs H2 => xs = vs ∧ H2 = H) (fun A' Ex Q' h' => hbind _ A' Ex Q' (h' s H vs us e0 Un.refl rfl (fun _ _ z => z) r hl ⟨rfl, rfl⟩)) fun s2 H2 xs ⟨ex, eH⟩ hr' => ?_
  subst ex eH
  exact body_ok (fun e => hb cdv A outer s2 _ E hr' hg e) o rs q hk hx
/-- called by position, all parameters given -/
theorem fn_d {x qual : Str} {params : Arguments} {body : List Stmt} {scope : Scope} {kws : List (Str × V)} {N ps : List Str} {k : Nat} {f : Addr} {fd : FuncData} {t : DS}
    (F : FunD g.K x qual params body scope [] kws f fd) (Sc : FnScope N ps scope) (hb : BodyD g P w base k N qual scope body f t)
    (hbind : ∀ (kV doc pm : Value) (an : Option Addr) (cdv ct : Value) (us : List Value), us.length = ps.length → bindArgs (PySem.W.fnOf x qual params body scope .none kV doc pm an cdv ct) { pos := us, kw := [] } = pure (ps.zip us)) :
    DFnR g P w base (k + 1) f (fun ds S k' E => ds.length = ps.length ∧ dBody N.length t ds S k' E) := by
  refine ((fn_b F Sc hb).raw (F.bindsN hbind) .nil).imp fun vs H Q E ⟨ds, Hi, S, k1, E1, o, r, ⟨hl, q⟩, hk, hx⟩ => ?_
  rw [List.append_nil]
  exact ⟨by rw [r.length]; exact hl, ds, Hi, S, k1, E1, o, r, q, hk, hx⟩
/-- def f(a, .., *v) -/
theorem fn_star {x qual pv : Str} {params : Arguments} {body : List Stmt} {scope : Scope} {kws : List (Str × V)} {N ps : List Str} {k : Nat} {f : Addr} {fd : FuncData} {t : DS}
    (F : FunD g.K x qual params body scope [] kws f fd) (Sc : FnScope N (ps ++ [pv]) scope) (hb : BodyD g P w base k N qual scope body f t)
    (hbind : ∀ (kV doc pm : Value) (an : Option Addr) (cdv ct : Value) (us rest : List Value), us.length = ps.length → bindArgs (PySem.W.fnOf x qual params body scope .none kV doc pm an cdv ct) { pos := us ++ rest, kw := [] } = (newTuple rest >>= fun t => pure (ps.zip us ++ [(pv, t)]))) :
    DFnR g P w base (k + 1) f (fun ds S k' E => ∃ xs rest, ds = xs ++ rest ∧ xs.length = ps.length ∧ sz rest.length ∧ dBody N.length t (xs ++ [.tup rest]) S k' E) := by
  intro A outer s H us vs Q E hr hg e0 r ⟨ds, Hi, S, k1, E1, o, rs, ⟨xs, rest, eds, hl, hz, q⟩, hk, hx⟩
  subst eds
  obtain ⟨oc, od, dV, kV, doc, pm, an, cdv, ct, osl, rfl, lk, hcd, hdV, _⟩ := F.ex
  obtain rfl : dV = .none := by
    rcases hdV with ⟨_, z⟩ | ⟨z, _⟩
    · exact z
    · exact absurd rfl z
  have hvl : vs = vs.take xs.length ++ vs.drop xs.length := (List.take_append_drop _ _).symm
  have r1 : Reps g Hi (vs.take xs.length) xs := by have := rs.take xs.length; rw [List.take_left'] at this; exact this; rfl
  have r2 : Reps g Hi (vs.drop xs.length) rest := by have := rs.drop xs.length; rw [List.drop_left'] at this; exact this; rfl
  have u1 := r.take xs.length
  have u2 := r.drop xs.length
  have lu1 : (us.take xs.length).length = ps.length := by rw [← u1.length, r1.length]; exact hl
  have lu2 : (us.drop xs.length).length ≤ sizeLine := by rw [← u2.length, r2.length]; exact hz
  have hn : H s.heap.objs.size = none := e0.hok.fresh (Nat.le_refl _)
  have eus : us = us.take xs.length ++ us.drop xs.length := (List.take_append_drop _ _).symm
  refine StX.run_bnd lk hcd Sc hr e0 (G := fun ys H2 => ∃ p, H p = none ∧ ys = vs.take xs.length ++ [V.ref p] ∧ H2 = upd H p (.tup (vs.drop xs.length))) (fun A' Ex Q' h' => ?_) fun s2 H2 ys ⟨p, hp, ey, eH⟩ hr' => ?_
  · rw [eus, hbind kV doc pm an cdv ct _ _ lu1]
    refine wpAny_bind (wpAny_newTuple (wpAny_pure ?_) lu2)
    have new : ObjOk P w (upd H s.heap.objs.size (.tup (vs.drop xs.length))) (s.heap.push ({ cls := .type "tuple", data := .seq (us.drop xs.length).toArray } : Obj)) s.heap.objs.size (.tup (vs.drop xs.length)) :=
      ⟨by rw [r2.length]; exact hz, _, u2, ⟨_, Heap.get?_push_size _ rfl, rfl, _, rfl⟩⟩
    have un := StX.un_laid (fs := frs outer) (s := s) (o := ({ cls := .type "tuple", data := .seq (us.drop xs.length).toArray } : Obj)) (u := .tup (vs.drop xs.length)) hn
    have z := h' _ _ (vs.take xs.length ++ [V.ref s.heap.objs.size]) (us.take xs.length ++ [Value.ref s.heap.objs.size]) (StX.env0_laid e0 new) un rfl
      (fun e s' => StX.cxUp outer s H _ _ E e s' un (fun b o q => Heap.get?_push_of_some _ q) rfl) (u1.append (.cons rfl .nil))
      (by rw [List.length_append, List.length_append, r1.length, hl]; rfl) ⟨_, hn, rfl, rfl⟩
    rw [List.zip_append lu1.symm] at z
    exact z
  · subst ey eH
    obtain ⟨o2, x2, s2', _⟩ := o.new (o := .tup (vs.drop xs.length)) hp
    have r3 : Reps g (upd Hi p (.tup (vs.drop xs.length))) [V.ref p] [D.tup rest] := ⟨⟨p, _, rfl, upd_same, r2.mono s2'⟩, trivial⟩
    refine body_ok (fun e => hb cdv A outer s2 _ E hr' hg e) o2 ((r1.mono s2').append r3) q ?_ ?_
    · exact fun d S' v H' Hi' o' x' r' q' => hk d S' v H' Hi' o' (Ext.trans o2 x2 x' o.sub) r' q'
    · exact fun c fs S' H' Hi' cls dx o' x' r' q' => hx c fs S' H' Hi' cls dx o' (Ext.trans o2 x2 x' o.sub) r' q'
end

/-! ### calls -/
section
variable {X : Cx} {g : Gx} {e : En} {W : WX} {a : Expr} {pos : Pos} {pins : List (Addr × Obj)} {σ : L2.St} {H Hi : Hp} {S : Sto} {s : Shared}
theorem Cxt.pass (C : Cxt X g e W) (σ : L2.St) : PassesAt (L2.CX X.prog X.w) X σ (WE W σ) := passAt C.tk σ
theorem run_g {k : Nat} {f : Addr} {sp : Sp} {E : XK} {Q : VK} {us : List Value} {vs : List V} (F : FnG X.prog X.w X.K X.mg X.base k f sp) (hr : Room k X.A) (hg : X.A.guards = some []) (hx : PassesAt (L2.CX X.prog X.w) X σ E) (I : Inv X pins σ H s) (r : Vals vs us) (h : sp vs H Q E) :
    codeAny (model X.prog X.w) X.A (.call (.ref f) { pos := us, kw := [] }) (fun r s' => match r with
      | .ok (.ret v) => EP X pins σ Q v s'
      | .ok _ => False
      | .error e => X.xe e s') s := by
  refine codeAny_mono (F X.A X.stack s H us vs Q E hr hg I.env0 r h) fun r s' z => ?_
  match r, z with
  | .error e, z => exact hx pins H s e s' I z
  | .ok (.ret u), z => exact I.after z
  | .ok .next, z => exact z.elim
  | .ok .brk, z => exact z.elim
  | .ok .cont, z => exact z.elim
/-- a value's continuation -/
def KOk (g : Gx) (e : En) (Hi : Hp) (k : K1) (Q : VK) : Prop := ∀ d S' v H' Hi', Is g e H' Hi' S' → Same Hi Hi' → Rep g Hi' v d → k d S' → Q v H'
theorem KOk.mono {Hi Hi' : Hp} {k : K1} {Q : VK} (h : KOk g e Hi k Q) (s : Same Hi Hi') : KOk g e Hi' k Q := fun d S' v H' Hi2 i s2 r q => h d S' v H' Hi2 i (s.trans s2) r q
theorem FnR.to {k : Nat} {f : Addr} {wf : DFn} (C : Cxt X g e W) (F : DFnR g X.prog X.w X.base k f wf) : FnG X.prog X.w X.K X.mg X.base k f (spD g wf) := by
  rw [C.K, C.mg]; exact F
theorem spD_of {wf : DFn} {vs : List V} {ds : List D} {k1 : K1} {E1 : X1} {Q : VK} (i : Is g e H Hi S) (rs : Reps g Hi vs ds) (q : wf ds S k1 E1) (hk : KOk g e Hi k1 Q) (hx : XOk g e W Hi σ E1) : spD g wf vs H Q (WE W σ) :=
  ⟨ds, Hi, S, k1, E1, i.ok, rs, q, fun d S' v H' Hi' o x r q' => hk d S' v H' Hi' (i.next o x) x.imm r q', fun c fs S' H' Hi' cls dx o x r q' => hx c fs S' H' Hi' cls dx (i.next o x) x.imm r q'⟩
/-- the callee runs -/
theorem run_d {k : Nat} {f : Addr} {wf : DFn} {Q : VK} {us : List Value} {vs : List V} {ds : List D} {k1 : K1} {E1 : X1} (C : Cxt X g e W) (F : DFnR g X.prog X.w X.base k f wf) (hr : Room k X.A) (I : Inv X pins σ H s) (r : Vals vs us)
    (i : Is g e H Hi S) (rs : Reps g Hi vs ds) (q : wf ds S k1 E1) (hk : KOk g e Hi k1 Q) (hx : XOk g e W Hi σ E1) : wpAny (model X.prog X.w) X.A (call (.ref f) us) (EP X pins σ Q) X.xe s :=
  wpAny_call (run_g (FnR.to C F) hr C.gd (C.pass σ) I r (spD_of i rs q hk hx))

def dCall (wf : DFn) (u : DA) : DE := fun ρ S k E => u ρ S (fun ds S1 => wf ds S1 k E) E
/-- what the arguments hand on to a call -/
def ArgQ (g : Gx) (e : En) (Hi : Hp) (k : List D → Sto → Prop) : List V → Hp → Prop := fun vs H1 => ∃ ds S1 Hi1, Is g e H1 Hi1 S1 ∧ Same Hi Hi1 ∧ Reps g Hi1 vs ds ∧ k ds S1
theorem liftA_of {u : DA} {ρ : Env} {k : List D → Sto → Prop} {E : X1} (i : Is g e H Hi S) (sl : Slots g Hi σ ρ) (q : u ρ S k E) (hx : XOk g e W Hi σ E) : liftA g e W u σ H (ArgQ g e Hi k) :=
  ⟨ρ, Hi, S, k, E, i, sl, q, fun ds S' vs H' Hi' i' s' r' q' => ⟨ds, S', Hi', i', s', r', q'⟩, hx⟩
section
variable {k : Nat} {f : Addr} {wf : DFn} {u : DA} {x : Str} {p : Pos} {es : List Expr}
/-- f(a, ..) -/
theorem de_call (C : Cxt X g e W) (F : DFnR g X.prog X.w X.base k f wf) (hr : Room k X.A) (hg : Gl X x) (hm : g.mg x = some (.ref f)) (hk : PySem.W.keepIn g.K (.ref f) = true) (ha : PA X (a :: es) (liftA g e W u))
    (hdb : (x == ("__debug__" : Str)) = false := by decide) (he : starEach (a :: es) X.env = (false, eval a X.env) :: starEach es X.env := by rfl) (hpl : (backTo pos (starEach es X.env)).any (·.1) = false := by rfl) :
    PE X (.Call (.Name x p) (a :: es) [] pos) (lift g e W (dCall wf u)) := by
  refine ⟨fun pins s σ H Q I ⟨ρ, Hi, S, k1, E, i, sl, q, hQ, hx⟩ => ?_⟩
  refine wpAny_Call_Name_kw (ld_glob I hg (by rw [C.mg]; exact hm) ?_ hdb)
  refine PySem.W.callWith_K (h₀ := X.base) I.ok.mod.kin (by rw [C.K]; exact hk) (thn (ha.run pos pins s σ H _ I (liftA_of i sl q hx)) fun us s1 ⟨vs, H1, I1, r, ds, S1, Hi1, i1, s1', r1, q1⟩ => ⟨I1.kIn, ?_⟩) he hpl
  exact run_d C F hr I1 r i1 r1 q1 (KOk.mono hQ s1') (hx.mono s1')
/-- f() -/
theorem de_call0 (C : Cxt X g e W) (F : DFnR g X.prog X.w X.base k f wf) (hr : Room k X.A) (hg : Gl X x) (hm : g.mg x = some (.ref f)) (hk : PySem.W.keepIn g.K (.ref f) = true)
    (hdb : (x == ("__debug__" : Str)) = false := by decide) : PE X (.Call (.Name x p) [] [] pos) (lift g e W (dCall wf dNil)) := by
  refine ⟨fun pins s σ H Q I ⟨ρ, Hi, S, k1, E, i, sl, q, hQ, hx⟩ => ?_⟩
  refine wpAny_Call_Name_kw (ld_glob I hg (by rw [C.mg]; exact hm) ?_ hdb)
  exact PySem.W.callWith_K0 I.kIn (by rw [C.K]; exact hk) (run_d (us := []) (vs := []) (ds := []) C F hr I .nil i trivial q hQ hx)
/-- f(a, .., *b) -/
theorem de_callS2 (C : Cxt X g e W) (F : DFnR g X.prog X.w X.base k f wf) (hr : Room k X.A) (hg : Gl X x) (hm : g.mg x = some (.ref f)) (hk : PySem.W.keepIn g.K (.ref f) = true) (ha : PA X (a :: es) (liftA g e W u))
    (hdb : (x == ("__debug__" : Str)) = false := by decide) (he : starEach (a :: es) X.env = (false, eval a X.env) :: starEach es X.env := by rfl) (hst : (backTo pos (starEach es X.env)).any (·.1) = true := by rfl) :
    PE X (.Call (.Name x p) (a :: es) [] pos) (lift g e W (dCall wf u)) := by
  refine ⟨fun pins s σ H Q I ⟨ρ, Hi, S, k1, E, i, sl, q, hQ, hx⟩ => ?_⟩
  refine wpAny_Call_Name_kw (ld_glob I hg (by rw [C.mg]; exact hm) ?_ hdb)
  refine PySem.W.callWith_S2 (h₀ := X.base) I.ok.mod.kin (by rw [C.K]; exact hk) (thn (ha.run pos pins s σ H _ I (liftA_of i sl q hx)) fun us s1 ⟨vs, H1, I1, r, ds, S1, Hi1, i1, s1', r1, q1⟩ => ⟨I1.kIn, ?_⟩) he hst
  exact run_d C F hr I1 r i1 r1 q1 (KOk.mono hQ s1') (hx.mono s1')
end

/-! ### making an instance -/
/-- C(..): a new instance, its __init__; imm: it changes no more behind it -/
def dMk (c : Nat) (imm : Bool) (wf : DFn) : DFn := fun ds S k E => ∀ p, S p = none → wf (.mu p :: ds) (S.set p (.ins c [])) (fun d S2 => d = .non ∧ ∃ fs, S2 p = some (.ins c fs) ∧ if imm = true then k (.obj c fs) (S2.del p) else k (.mu p) S2) E
theorem is_make {c : Nat} {x dx : Addr} (i : Is g e H Hi S) (n1 : H x = none) (n2 : H dx = none) (ne : dx ≠ x) : S x = none ∧ Is g e (upd (upd H dx (.own x)) x (.ins (g.ca c) dx [])) Hi (S.set x (.ins c [])) := by
  have e1 : upd H dx (.own x) x = none := by rw [upd_ne (Ne.symm ne)]; exact n1
  have hid : Hi dx = none := by
    cases q : Hi dx with
    | none => rfl
    | some u => rw [i.ok.sub dx u q] at n2; cases n2
  have o1 : Ok g (upd H dx (.own x)) Hi S := ⟨fun b u q => by rw [upd_ne (ne_of_none (i.ok.sub b u q) n2)]; exact i.ok.sub b u q, fun b d q => by
    obtain ⟨h1, h2⟩ := i.ok.cell b d q
    obtain ⟨u, h3⟩ := h2.some
    exact ⟨h1, h2.mono (upd_ne (ne_of_none h3 n2)) (Same.refl _)⟩, i.ok.tab.upd (noTbl n2)⟩
  have x1 : Ext H Hi S (upd H dx (.own x)) Hi S := ⟨Same.refl _, fun b u q _ _ => by rw [upd_ne (ne_of_none q n2)]; exact q, fun _ _ _ h1 h2 => ⟨h1, h2⟩, fun b u q => ⟨u, by rw [upd_ne (ne_of_none q n2)]; exact q⟩⟩
  obtain ⟨o2, x2, sp⟩ := o1.newC (o := .ins (g.ca c) dx []) (c := .ins c []) e1 ⟨dx, [], upd_same, trivial⟩
  exact ⟨sp, (i.next o1 x1).next o2 x2⟩
theorem mk_end {c : Nat} {imm : Bool} {p : Addr} {k : K1} {Q : VK} (hk : KOk g e Hi k Q) {d : D} {S2 : Sto} {v : V} {H2 Hi2 : Hp} (i2 : Is g e H2 Hi2 S2) (s2 : Same Hi Hi2) (r2 : Rep g Hi2 v d) (q : d = .non ∧ ∃ fs, S2 p = some (.ins c fs) ∧ if imm = true then k (.obj c fs) (S2.del p) else k (.mu p) S2) : v = .non ∧ Q (.ref p) H2 := by
  obtain ⟨rfl, fs, hS, q⟩ := q
  refine ⟨r2, ?_⟩
  cases imm with
  | false => exact hk (.mu p) S2 (.ref p) H2 Hi2 i2 s2 rfl q
  | true =>
    obtain ⟨o, ho, hp, ⟨dx, vs, hc, rs⟩, s3, k3, x3⟩ := i2.ok.freeze hS
    rw [hc] at ho
    cases ho
    exact hk (.obj c fs) _ (.ref p) H2 _ (i2.next k3 x3) (s2.trans s3) ⟨p, dx, vs, rfl, upd_same, rs.mono s3⟩ q
theorem run_mk {k c : Nat} {imm : Bool} {f : Addr} {wf : DFn} {Q : VK} {us : List Value} {vs : List V} {ds : List D} {k1 : K1} {E1 : X1} (C : Cxt X g e W) (M : Mk g.K (g.ca c) f) (F : DFnR g X.prog X.w X.base k f wf) (hr : Room (k + 1) X.A) (I : Inv X pins σ H s) (r : Vals vs us)
    (i : Is g e H Hi S) (rs : Reps g Hi vs ds) (q : dMk c imm wf ds S k1 E1) (hk : KOk g e Hi k1 Q) (hx : XOk g e W Hi σ E1) : wpAny (model X.prog X.w) X.A (call (.ref (g.ca c)) us) (EP X pins σ Q) X.xe s := by
  have M : Mk X.K (g.ca c) f := by rw [C.K]; exact M
  have F := FnR.to C F
  obtain ⟨sp, i2⟩ := is_make (c := c) i (I.hok.fresh (Nat.le_succ _)) (I.hok.fresh (Nat.le_refl _)) (Nat.ne_of_lt (Nat.lt_succ_self s.heap.objs.size))
  have hq : spD g wf (.ref (s.heap.objs.size + 1) :: vs) _ (fun v H2 => v = .non ∧ Q (.ref (s.heap.objs.size + 1)) H2) (WE W σ) :=
    spD_of (σ := σ) (W := W) i2 (ds := .mu (s.heap.objs.size + 1) :: ds) ⟨rfl, rs⟩ (q _ sp) (fun d S' v H' Hi' i' s' r' q' => mk_end hk i' s' r' q') hx
  have J := Inv.made (C := g.ca c) I
  have rr : Vals (V.ref (s.heap.objs.size + 1) :: vs) (Value.ref (s.heap.objs.size + 1) :: us) := .cons rfl r
  have gd : (X.A.under (.builtin "type.__call__" ⟨.ref (g.ca c) :: us, []⟩)).guards = some [] := by
    have e : (X.A.under (.builtin "type.__call__" ⟨.ref (g.ca c) :: us, []⟩)).guards = X.A.guards := by first | rfl | simp [Around.under, Code.guards, Code.isGuard, guardIds, pushGuards]
    rw [e]; exact C.gd
  refine wpAny_call (make_map (f := f) I.kIn M.makes M.init (beq_iff_eq.mp M.fn) (codeAny_mono (F _ X.stack _ _ _ _ _ _ (hr.make (g.ca c) us []) gd (J.env0.make (g.ca c) us []) rr hq) fun r s' z => ?_))
  match r, z with
  | .error er, z => exact C.pass σ pins _ _ er s' J z
  | .ok (.ret u), z =>
    obtain ⟨v, H', J3, rv, ev, q3⟩ := J.after z
    subst ev
    exact ⟨rv, ⟨.ref _, H', J3, rfl, q3⟩⟩
  | .ok .next, z => exact z.elim
  | .ok .brk, z => exact z.elim
  | .ok .cont, z => exact z.elim
section
variable {k c : Nat} {imm : Bool} {f : Addr} {wf : DFn} {u : DA} {x : Str} {p p2 : Pos} {es : List Expr}
theorem de_make (C : Cxt X g e W) (M : Mk g.K (g.ca c) f) (F : DFnR g X.prog X.w X.base k f wf) (hr : Room (k + 1) X.A) (hg : Gl X x) (hm : g.mg x = some (.ref (g.ca c))) (ha : PA X (a :: es) (liftA g e W u))
    (hdb : (x == ("__debug__" : Str)) = false := by decide) (he : starEach (a :: es) X.env = (false, eval a X.env) :: starEach es X.env := by rfl) (hpl : (backTo pos (starEach es X.env)).any (·.1) = false := by rfl) :
    PE X (.Call (.Name x p) (a :: es) [] pos) (lift g e W (dCall (dMk c imm wf) u)) := by
  refine ⟨fun pins s σ H Q I ⟨ρ, Hi, S, k1, E, i, sl, q, hQ, hx⟩ => ?_⟩
  refine wpAny_Call_Name_kw (ld_glob I hg (by rw [C.mg]; exact hm) ?_ hdb)
  refine PySem.W.callWith_K (h₀ := X.base) I.ok.mod.kin (by rw [C.K]; exact M.kp) (thn (ha.run pos pins s σ H _ I (liftA_of i sl q hx)) fun us s1 ⟨vs, H1, I1, r, ds, S1, Hi1, i1, s1', r1, q1⟩ => ⟨I1.kIn, ?_⟩) he hpl
  exact run_mk C M F hr I1 r i1 r1 q1 (KOk.mono hQ s1') (hx.mono s1')
/-- C(*y) -/
def dStr1 (f : DE) (wf : DFn) : DE := fun ρ S k E => f ρ S (fun d S1 => ∃ xs, seqOf S1 d = some xs ∧ wf xs S1 k E) E
theorem de_makeS1 {fe : DE} (C : Cxt X g e W) (M : Mk g.K (g.ca c) f) (F : DFnR g X.prog X.w X.base k f wf) (hr : Room (k + 1) X.A) (hg : Gl X x) (hm : g.mg x = some (.ref (g.ca c))) (ha : PE X a (lift g e W fe))
    (hdb : (x == ("__debug__" : Str)) = false := by decide) (hst : starEach [.Starred a p2] X.env = [(true, eval a X.env)] := by rfl) :
    PE X (.Call (.Name x p) [.Starred a p2] [] pos) (lift g e W (dStr1 fe (dMk c imm wf))) := by
  refine ⟨fun pins s σ H Q I ⟨ρ, Hi, S, k1, E, i, sl, q, hQ, hx⟩ => ?_⟩
  refine wpAny_Call_Name_kw (ld_glob I hg (by rw [C.mg]; exact hm) ?_ hdb)
  refine PySem.W.callWith_S (h₀ := X.base) I.ok.mod.kin (by rw [C.K]; exact M.kp) (thn (ha.run pins s σ H (fun y H1 => ∃ b vs ds S1 Hi1, y = .ref b ∧ (SqT g.K H1 b vs ∨ SqL g.K H1 b vs) ∧ Is g e H1 Hi1 S1 ∧ Same Hi Hi1 ∧ Reps g Hi1 vs ds ∧ dMk c imm wf ds S1 k1 E) I ⟨ρ, Hi, S, _, E, i, sl, q, fun d S' v H' Hi' i' s' r' q' => ?_, hx⟩) fun v s1 ⟨y, H1, I1, ry, b, vs, ds, S1, Hi1, ey, hb, i1, s1', r1, q1⟩ => ?_) hst
  · obtain ⟨xs, h1, h2⟩ := q'
    obtain ⟨b, vs, h3, h4, h5⟩ := seqOf_rep i'.ok r' h1
    exact ⟨b, vs, xs, S', Hi', h3, h4, i', s', h5, h2⟩
  · subst ey
    obtain rfl : v = Value.ref b := ry
    exact StX.star_any I1 (by rw [C.K]; exact hb) fun us s2 I2 rv => ⟨I2.kIn, run_mk C M F hr I2 rv i1 r1 q1 (KOk.mono hQ s1') (hx.mono s1')⟩
end
end
end DL
end
/-! ## DLend -/
section
set_option Elab.async false
set_option linter.all false
set_option maxRecDepth 100000
set_option maxHeartbeats 2000000
namespace DL
open PySem PySem.Spec PyProof.Rows L2

/-- what may be tracked at the law's entry: the script alone, locked -/
def scrH (K : PySem.W.Frag) (a : Addr) (ob : Obj) (ns : List Int) : Hp := fun b => if b = a ∧ K.lookup a = none then some (.frz ob (.lst (ns.map V.int))) else none
theorem scrH_some {K : PySem.W.Frag} {a b : Addr} {ob : Obj} {ns : List Int} {u : HO} (h : scrH K a ob ns b = some u) : b = a ∧ K.lookup a = none ∧ u = .frz ob (.lst (ns.map V.int)) := by
  unfold scrH at h
  split at h
  · rename_i c
    exact ⟨c.1, c.2, (Option.some.inj h).symm⟩
  · cases h

/-- the law's run from the claim's caller -/
theorem law_run {P : Program} {w : World} {g : Gx} {mb : Str → Option Value} {k : Nat} {fa a : Addr} {wf : DFn} {s1 : Shared} {vs : List Value} {ns : List Int}
    (KX : g.K.In s1.heap) (hns : s1.heap.Ns mainGlobals g.mg) (hb : s1.heap.Ns builtinsNs mb) (hbb : ∀ x : Str, x ≠ "__name__" → mb x = bootBuiltins x) (hlim : s1.heap.NoLimit) (hgen : s1.gens = #[])
    (ha : s1.heap.get? a = some { cls := .type "list", data := .seq vs.toArray }) (hi : IntsAre vs ns) (hl : ns.length ≤ sizeLine) (hr : Room k callerA)
    (F : ∀ base : Heap, g.K.In base → base.Ns mainGlobals g.mg → DFnR g P w base k fa wf)
    (hwf : wf [.scr (ns.map D.int)] (fun _ => none) (fun d _ => d = .bl true) (fun _ _ _ => False)) (hT : g.T = []) :
    codeAny (model P w) callerA (.call (.ref fa) { pos := [.ref a], kw := [] }) (fun r s' => r = .ok (.ret (.bool true)) ∧ OldK s1.heap s'.heap ∧ s'.os = s1.os ∧ AllBare s'.gens) s1 := by
  have rv := vals_ints hi
  have hlv := hi.length
  obtain ⟨H, eH⟩ : ∃ H, H = scrH g.K a { cls := .type "list", data := .seq vs.toArray } ns := ⟨_, rfl⟩
  have here : ∀ b u, H b = some u → b = a ∧ g.K.lookup a = none ∧ u = .frz { cls := .type "list", data := .seq vs.toArray } (.lst (ns.map V.int)) := fun b u q => scrH_some (by rw [← eH]; exact q)
  have kept : ∀ {b : Addr} {o : Obj}, s1.heap.get? b = some o → (b = a → g.K.lookup a = none → False) → (hidT s1.heap H).get? b = some o := fun {b o} q n => hidT_get q (by
    cases z : H b with
    | none => rfl
    | some u => exact (n (here b u z).1 (here b u z).2.1).elim)
  have nsK : ∀ {b : Addr} {m : Str → Option Value}, s1.heap.Ns b m → (hidT s1.heap H).Ns b m := fun {b m} ⟨o, es, ep, q, d, r⟩ => ⟨o, es, ep, kept q (fun z _ => by
    rw [z, ha] at q
    rw [← Option.some.inj q] at d
    cases d), d, r⟩
  have inK : g.K.In (hidT s1.heap H) := fun b o q => kept (KX b o q) fun z n => by rw [z, n] at q; cases q
  have seq : SqL g.K H a (ns.map V.int) := by
    cases q : g.K.lookup a with
    | none => exact .inl (.inr ⟨_, by rw [eH]; exact if_pos ⟨rfl, q⟩⟩)
    | some o =>
      have z := KX a o q
      rw [ha] at z
      have z := Option.some.inj z
      subst z
      exact .inr ⟨_, vs.toArray, _, q, rfl, rfl, rfl, by rw [List.size_toArray, hlv]; exact hl, by simpa using rv⟩
  have hok : HOk P w H s1.heap := fun b u q => by
    obtain ⟨e1, _, e2⟩ := here b u q
    subst e1 e2
    exact ⟨ha, by rw [List.length_map]; exact hl, vs, _, rv, ha⟩
  have e0 : Env0 P w g.K g.mg (hidT s1.heap H) callerA [] s1 H :=
    ⟨rfl, ⟨inK, nsK hns, ⟨mb, nsK hb, hbb⟩, let ⟨mc, h1, h2⟩ := hlim; ⟨mc, nsK h1, h2⟩⟩, fun b o q => of_hidT q, Nat.le_of_eq (hidT_size _ _), trivial, fun b z => (List.not_mem_nil z).elim, hok, .of_eq hgen⟩
  have hsp : spD g wf [V.ref a] H (fun v _ => v = .bl true) (fun _ _ _ => False) :=
    ⟨[.scr (ns.map D.int)], H, fun _ => none, _, _, ⟨Same.refl _, (fun _ _ z => by cases z), (fun p hp => by rw [hT] at hp; cases hp)⟩, ⟨⟨a, _, rfl, seq, Reps.map_int⟩, trivial⟩, hwf, fun d S' v H' Hi' _ _ r q => by
      have q' : d = .bl true := q
      subst q'
      exact r, fun c fs S' H' Hi' cls dx _ _ _ z => z⟩
  refine codeAny_mono (F _ inK (nsK hns) callerA [] s1 H [.ref a] [.ref a] _ _ hr rfl e0 (.cons rfl .nil) hsp) fun r s' z => ?_
  match r, z with
  | .error er, z =>
    obtain ⟨_, _, _, _, _, _, _, _, _, _, _, _, z⟩ := z
    exact z.elim
  | .ok .next, z => exact z.elim
  | .ok .brk, z => exact z.elim
  | .ok .cont, z => exact z.elim
  | .ok (.ret u), z =>
    obtain ⟨v, H', os, bare, un, hok', r', q⟩ := z
    have q : v = .bl true := q
    subst q
    have r' : u = .bool true := r'
    subst r'
    refine ⟨rfl, OldK.of_keep fun b o q => ?_, os, bare⟩
    cases z : H b with
    | none => exact un.keep b o q z (List.not_mem_nil) (List.not_mem_nil)
    | some u =>
      obtain ⟨_, _, e2⟩ := here b u z
      subst e2
      obtain ⟨e3, _⟩ := hok b _ z
      obtain ⟨e4, _⟩ := hok' b _ (un.frzs b _ _ z)
      rw [q] at e3
      rw [Option.some.inj e3]
      exact e4
/-- the law by the data of its def -/
theorem walk_d {l : PySem.W.OpenLaw} {n k : Nat} {q : Program} {loose : List Str} {XP : (Str → Option Value) → Heap → Prop} {YP : World → Heap → Prop} {d : DefRec}
    (hn : l.most = some n) (hn2 : n ≤ sizeLine) (hdf : d.params.defaults = []) (hr : Room k callerA)
    (F : ∀ (w : World) (mg : Str → Option Value) (fa : Addr) (h : Heap), YP w h → h.Ns mainGlobals mg → mg d.name = some (.ref fa) →
      ∃ (g : Gx) (wf : DFn), g.mg = mg ∧ g.T = [] ∧ g.K.In h ∧ (∀ ns : List Int, ns.length ≤ n → wf [.scr (ns.map D.int)] (fun _ => none) (fun d _ => d = .bl true) (fun _ _ _ => False)) ∧
        ∀ base : Heap, g.K.In base → base.Ns mainGlobals mg → DFnR g l.prog w base k fa wf) :
    PySem.W.WalkO q loose XP YP l.row.toRowW d [] (fun f vs => PySem.call f vs) := by
  refine Att.attach_call hn hdf fun w s₀ s₁ mg mb fa o pm cd doc a vs ns G Y ho hd hcd hmg hobj hints hlen hg => ?_
  obtain ⟨g, wf, eg, eT, KX, hwf, hF⟩ := F w mg fa _ Y G.T.g hmg
  subst eg
  exact law_run KX G.T.g G.T.b G.T.builtins G.T.nolimit hg hobj hints (Nat.le_trans hlen hn2) hr hF (hwf ns hlen) eT
end DL
end
/-! ## DL4 -/
section
set_option Elab.async false
set_option linter.all false
set_option maxRecDepth 100000
set_option maxHeartbeats 2000000
namespace DL
open PySem PySem.Spec PyProof.Rows L2
section
variable {X : Cx} {g : Gx} {e : En} {W : WX} {a b c : Expr} {pos : Pos}

/-! ### arithmetic of ints -/
def iOp (C : Int → Int → Prop) (h : Int → Int → D) : DOp := fun x y S k => ∃ i j, x = .int i ∧ y = .int j ∧ C i j ∧ k (h i j) S
theorem ok_rI {C : Int → Int → Prop} {h : Int → Int → V} {h' : Int → Int → D} (r : ∀ i j H, Rep g H (h i j) (h' i j)) : OpOk g e (rI C h) (iOp C h') := by
  rintro H Hi S v w x y k Q i rv rw ⟨m, n, rfl, rfl, c, q⟩ hk
  exact ⟨m, n, rv, rw, c, hk _ S _ H Hi i (Same.refl _) (r m n Hi) q⟩
def iOp0 (h : Int → Int → D) : DOp := fun x y S k => ∃ i j, x = .int i ∧ y = .int j ∧ k (h i j) S
theorem ok_rI0 {h : Int → Int → V} {h' : Int → Int → D} (r : ∀ i j H, Rep g H (h i j) (h' i j)) : OpOk g e (rI0 h) (iOp0 h') := by
  rintro H Hi S v w x y k Q i rv rw ⟨m, n, rfl, rfl, q⟩ hk
  exact ⟨m, n, rv, rw, hk _ S _ H Hi i (Same.refl _) (r m n Hi) q⟩
theorem OpOk.or {r r' : R2} {h h' : DOp} (o : OpOk g e r h) (o' : OpOk g e r' h') : OpOk g e (fun x y H Q => r x y H Q ∨ r' x y H Q) (fun x y S k => h x y S k ∨ h' x y S k) := by
  intro H Hi S v w x y k Q i rv rw q hk
  rcases q with q | q
  · exact .inl (o H Hi S v w x y k Q i rv rw q hk)
  · exact .inr (o' H Hi S v w x y k Q i rv rw q hk)
abbrev fAdd : DOp := iOp0 fun i j => .int (i + j)
abbrev fSub : DOp := iOp0 fun i j => .int (i - j)
def CMulX (i j : Int) : Prop := CMul i j ∨ CMulW i j
abbrev fMul : DOp := iOp CMulX fun i j => .int (i * j)
def CDivX (i j : Int) : Prop := CDiv i j ∨ CDivW i j
abbrev fDiv : DOp := iOp CDivX fun i j => .int (i / j)
abbrev fMod : DOp := iOp (fun _ j => 0 < j) fun i j => .int (i % j)
abbrev fPow : DOp := iOp CPow fun i j => .int (i ^ j.toNat)
theorem op_mulX : OpR X (binaryOp .Mult) (rI CMulX fun i j => .int (i * j)) := by
  rintro pins s σ H x y v u Q I rx ry ⟨i, j, ex, ey, c, q⟩
  rcases c with c | c
  · exact op_mul pins s σ H x y v u Q I rx ry ⟨i, j, ex, ey, c, q⟩
  · exact op_mulW pins s σ H x y v u Q I rx ry ⟨i, j, ex, ey, c, q⟩
theorem op_divX : OpR X (binaryOp .FloorDiv) (rI CDivX fun i j => .int (i / j)) := by
  rintro pins s σ H x y v u Q I rx ry ⟨i, j, ex, ey, c, q⟩
  rcases c with c | c
  · exact op_fdiv pins s σ H x y v u Q I rx ry ⟨i, j, ex, ey, c, q⟩
  · exact op_fdivW pins s σ H x y v u Q I rx ry ⟨i, j, ex, ey, c, q⟩
variable {f f' : DE}
theorem de_add (ha : PE X a (lift g e W f)) (hb : PE X b (lift g e W f')) : PE X (.BinOp a .Add b pos) (lift g e W (d2 fAdd f f')) := de_op op_add (ok_rI0 fun _ _ _ => rfl) ha hb
theorem de_sub (ha : PE X a (lift g e W f)) (hb : PE X b (lift g e W f')) : PE X (.BinOp a .Sub b pos) (lift g e W (d2 fSub f f')) := de_op op_sub (ok_rI0 fun _ _ _ => rfl) ha hb
theorem de_mul (ha : PE X a (lift g e W f)) (hb : PE X b (lift g e W f')) : PE X (.BinOp a .Mult b pos) (lift g e W (d2 fMul f f')) := de_op op_mulX (ok_rI fun _ _ _ => rfl) ha hb
theorem de_div (ha : PE X a (lift g e W f)) (hb : PE X b (lift g e W f')) : PE X (.BinOp a .FloorDiv b pos) (lift g e W (d2 fDiv f f')) := de_op op_divX (ok_rI fun _ _ _ => rfl) ha hb
theorem de_mod (ha : PE X a (lift g e W f)) (hb : PE X b (lift g e W f')) : PE X (.BinOp a .Mod b pos) (lift g e W (d2 fMod f f')) := de_op op_mod (ok_rI fun _ _ _ => rfl) ha hb
theorem de_pow (ha : PE X a (lift g e W f)) (hb : PE X b (lift g e W f')) : PE X (.BinOp a .Pow b pos) (lift g e W (d2 fPow f f')) := de_op op_pow (ok_rI fun _ _ _ => rfl) ha hb
def fNeg : DUn := fun x S k => ∃ i, x = .int i ∧ k (.int (-i)) S
theorem de_neg (ha : PE X a (lift g e W f)) : PE X (.UnaryOp .USub a pos) (lift g e W (d1 fNeg f)) := de_un un_neg (by
  rintro H Hi S v x k Q i rv ⟨m, rfl, q⟩ hk
  exact ⟨m, rv, hk (.int (-m)) S _ H Hi i (Same.refl _) rfl q⟩) ha
/-! ### comparisons of ints -/
abbrev fLt : DOp := iOp0 fun i j => .bl (decide (i < j))
abbrev fLe : DOp := iOp0 fun i j => .bl (decide (i ≤ j))
abbrev fGt : DOp := iOp0 fun i j => .bl (decide (j < i))
abbrev fGe : DOp := iOp0 fun i j => .bl (decide (j ≤ i))
theorem ok_lt : OpOk g e (rI0 fun i j => .bl (decide (i < j))) fLt := ok_rI0 fun _ _ _ => rfl
theorem ok_le : OpOk g e (rI0 fun i j => .bl (decide (i ≤ j))) fLe := ok_rI0 fun _ _ _ => rfl
theorem ok_gt : OpOk g e (rI0 fun i j => .bl (decide (j < i))) fGt := ok_rI0 fun _ _ _ => rfl
theorem ok_ge : OpOk g e (rI0 fun i j => .bl (decide (j ≤ i))) fGe := ok_rI0 fun _ _ _ => rfl
/-- a < b < c as a value -/
def dChn (h h' : DOp) (f f' f'' : DE) : DE := fun ρ S k E => f ρ S (fun x S1 => f' ρ S1 (fun y S2 => h x y S2 fun z S3 => ∃ b, z = .bl b ∧ if b = true then f'' ρ S3 (fun u S4 => h' y u S4 k) E else k (.bl false) S3) E) E

/-! ### data as the library has it -/
mutual
def pyOf (S : Sto) : D → Option PyData
  | .non => some .none
  | .bl b => some (.bool b)
  | .int i => some (.int i)
  | .str x => some (.str x)
  | .tup ds => (pysOf S ds).map .tuple
  | .lst ds => (pysOf S ds).map .list
  | .scr ds => (pysOf S ds).map .list
  | .opq _ => none
  | .dct _ => none
  | .obj _ _ => none
  | .cls _ => none
def pysOf (S : Sto) : List D → Option (List PyData)
  | [] => some []
  | d :: ds => match pyOf S d, pysOf S ds with
    | some x, some xs => some (x :: xs)
    | _, _ => none
end
/-- .. a changing list too -/
def pyT (S : Sto) (d : D) : Option PyData := match d with
  | .opq (.ref a) => match S a with
    | some (.lst ds) => (pysOf S ds).map .list
    | _ => none
  | d => pyOf S d
mutual
theorem pyOf_rep {H Hi : Hp} {S : Sto} (s : Same Hi H) : ∀ {v : V} {d : D} {p : PyData}, Rep g Hi v d → pyOf S d = some p → Dp g.K H v p
  | v, .non, p, r, q => by cases q; have r : v = .non := r; subst r; exact .non
  | v, .bl b, p, r, q => by cases q; have r : v = .bl b := r; subst r; exact .bl b
  | v, .int b, p, r, q => by cases q; have r : v = .int b := r; subst r; exact .int b
  | v, .str b, p, r, q => by cases q; have r : v = .str b := r; subst r; exact .str b
  | v, .tup ds, p, r, q => by
    obtain ⟨a, xs, rfl, h2, h3⟩ := r
    have q : (pysOf S ds).map .tuple = some p := q
    cases z : pysOf S ds with
    | none => rw [z] at q; cases q
    | some ps => rw [z] at q; cases q; exact .tup (SqT.of (s _ _ h2)) (pysOf_rep s h3 z)
  | v, .lst ds, p, r, q => by
    obtain ⟨a, xs, rfl, h2, h3⟩ := r
    have q : (pysOf S ds).map .list = some p := q
    cases z : pysOf S ds with
    | none => rw [z] at q; cases q
    | some ps => rw [z] at q; cases q; exact .lst (SqL.of (s _ _ h2)) (pysOf_rep s h3 z)
  | v, .scr ds, p, r, q => by
    obtain ⟨a, xs, rfl, h2, h3⟩ := r
    have q : (pysOf S ds).map .list = some p := q
    cases z : pysOf S ds with
    | none => rw [z] at q; cases q
    | some ps => rw [z] at q; cases q; exact .lst (s.seq h2) (pysOf_rep s h3 z)
  | _, .opq _, _, _, q => by cases q
  | _, .dct _, _, _, q => by cases q
  | _, .obj _ _, _, _, q => by cases q
  | _, .cls _, _, _, q => by cases q
theorem pysOf_rep {H Hi : Hp} {S : Sto} (s : Same Hi H) : ∀ {vs : List V} {ds : List D} {ps : List PyData}, Reps g Hi vs ds → pysOf S ds = some ps → DpAll g.K H vs ps
  | [], [], ps, _, q => by cases q; exact .nil
  | v :: vs, d :: ds, ps, ⟨h1, h2⟩, q => by
    have q : (match pyOf S d, pysOf S ds with
      | some x, some xs => some (x :: xs)
      | _, _ => none) = some ps := q
    cases z1 : pyOf S d with
    | none => rw [z1] at q; cases q
    | some p =>
      cases z2 : pysOf S ds with
      | none => rw [z1, z2] at q; cases q
      | some ps => rw [z1, z2] at q; cases q; exact .cons (pyOf_rep s h1 z1) (pysOf_rep s h2 z2)
  | [], _ :: _, _, h, _ => h.elim
  | _ :: _, [], _, h, _ => h.elim
end
theorem pyT_rep {H Hi : Hp} {S : Sto} {v : V} {d : D} {p : PyData} (k : Ok g H Hi S) (r : Rep g Hi v d) (q : pyT S d = some p) : Dp g.K H v p := by
  cases d with
  | opq u =>
    cases u with
    | ref a =>
      have q : (match S a with
        | some (.lst ds) => (pysOf S ds).map .list
        | _ => none) = some p := q
      have r : v = .ref a := r
      subst r
      cases z : S a with
      | none => rw [z] at q; cases q
      | some c =>
        rw [z] at q
        cases c with
        | lst ds =>
          obtain ⟨xs, h1, h2⟩ := (k.cell a _ z).2
          have q : (pysOf S ds).map .list = some p := q
          cases y : pysOf S ds with
          | none => rw [y] at q; cases q
          | some ps => rw [y] at q; cases q; exact .lst (SqL.of h1) (pysOf_rep k.sub h2 y)
        | dct _ => cases q
        | ins _ _ => cases q
        | exc _ _ => cases q
    | _ => cases q
  | _ => exact pyOf_rep (S := S) k.sub r q
/-! ### == and != of data -/
def fEqD (neg : Bool) : DOp := fun x y S k => ∃ p q, pyT S x = some p ∧ pyT S y = some q ∧ SeqAt.shaped p = true ∧ SeqAt.shaped q = true ∧ k (.bl (neg ^^ PyData.eqv p q)) S
theorem ok_eqD : OpOk g e (rEqD g.K) (fEqD false) := by
  rintro H Hi S v w x y k Q i rv rw ⟨p, q, hp, hq, sp, sq, z⟩ hk
  refine ⟨p, q, pyT_rep i.ok rv hp, pyT_rep i.ok rw hq, sp, sq, hk (.bl (PyData.eqv p q)) S _ H Hi i (Same.refl _) rfl ?_⟩
  simpa using z
theorem ok_neD : OpOk g e (rNeD g.K) (fEqD true) := by
  rintro H Hi S v w x y k Q i rv rw ⟨p, q, hp, hq, sp, sq, z⟩ hk
  refine ⟨p, q, pyT_rep i.ok rv hp, pyT_rep i.ok rw hq, sp, sq, hk (.bl (!PyData.eqv p q)) S _ H Hi i (Same.refl _) rfl ?_⟩
  simpa using z
/-- flat things -/
def scl : D → D → Option Bool
  | .non, .non => some true
  | .int i, .int j => some (decide (i = j))
  | .str i, .str j => some (decide (i = j))
  | .bl i, .bl j => some (decide (i = j))
  | _, _ => none
def fEqS (neg : Bool) : DOp := fun x y S k => ∃ b, scl x y = some b ∧ k (.bl (neg ^^ b)) S
theorem scl_rep {H : Hp} {v w : V} {x y : D} {b : Bool} (rv : Rep g H v x) (rw' : Rep g H w y) (h : scl x y = some b) : scal v w = true ∧ decide (v = w) = b := by
  cases x <;> cases y <;> first
    | (cases h; done)
    | (have e1 := rv; have e2 := rw'; subst e1 e2; cases h; exact ⟨rfl, by simp⟩)
theorem ok_eqS : OpOk g e rEq (fEqS false) := by
  rintro H Hi S v w x y k Q i rv rw' ⟨b, hb, z⟩ hk
  obtain ⟨h1, h2⟩ := scl_rep rv rw' hb
  refine ⟨h1, ?_⟩
  rw [h2]
  exact hk (.bl b) S _ H Hi i (Same.refl _) rfl (by simpa using z)
theorem ok_neS : OpOk g e rNe (fEqS true) := by
  rintro H Hi S v w x y k Q i rv rw' ⟨b, hb, z⟩ hk
  obtain ⟨h1, h2⟩ := scl_rep rv rw' hb
  refine ⟨h1, ?_⟩
  rw [h2]
  exact hk (.bl (!b)) S _ H Hi i (Same.refl _) rfl (by simpa using z)
abbrev fEq : DOp := fun x y S k => fEqS false x y S k ∨ fEqD false x y S k
abbrev fNe : DOp := fun x y S k => fEqS true x y S k ∨ fEqD true x y S k
theorem op_eqX (C : Cxt X g e W) (hu : X.A.units + 64 < cLine) : OpR X (compareOp .Eq) (fun x y H Q => rEq x y H Q ∨ rEqD g.K x y H Q) := op_eq.or (by rw [← C.K]; exact op_eqD hu)
theorem op_neX (C : Cxt X g e W) (hu : X.A.units + 64 < cLine) : OpR X (compareOp .NotEq) (fun x y H Q => rNe x y H Q ∨ rNeD g.K x y H Q) := op_ne.or (by rw [← C.K]; exact op_neD hu)
theorem de_eq (C : Cxt X g e W) (hu : X.A.units + 64 < cLine) (ha : PE X a (lift g e W f)) (hb : PE X b (lift g e W f')) : PE X (.Compare a [.Eq] [b] pos) (lift g e W (d2 fEq f f')) := de_cmp (op_eqX C hu) (ok_eqS.or ok_eqD) ha hb (nomark _)
theorem de_ne (C : Cxt X g e W) (hu : X.A.units + 64 < cLine) (ha : PE X a (lift g e W f)) (hb : PE X b (lift g e W f')) : PE X (.Compare a [.NotEq] [b] pos) (lift g e W (d2 fNe f f')) := de_cmp (op_neX C hu) (ok_neS.or ok_neD) ha hb (nomark _)
theorem de_lt (ha : PE X a (lift g e W f)) (hb : PE X b (lift g e W f')) : PE X (.Compare a [.Lt] [b] pos) (lift g e W (d2 fLt f f')) := de_cmp op_lt ok_lt ha hb (nomark _)
theorem de_le (ha : PE X a (lift g e W f)) (hb : PE X b (lift g e W f')) : PE X (.Compare a [.LtE] [b] pos) (lift g e W (d2 fLe f f')) := de_cmp op_le ok_le ha hb (nomark _)
theorem de_gt (ha : PE X a (lift g e W f)) (hb : PE X b (lift g e W f')) : PE X (.Compare a [.Gt] [b] pos) (lift g e W (d2 fGt f f')) := de_cmp op_gt ok_gt ha hb (nomark _)
theorem de_ge (ha : PE X a (lift g e W f)) (hb : PE X b (lift g e W f')) : PE X (.Compare a [.GtE] [b] pos) (lift g e W (d2 fGe f f')) := de_cmp op_ge ok_ge ha hb (nomark _)
/-- a test of the form x op y -/
theorem dt_eq (C : Cxt X g e W) (hu : X.A.units + 64 < cLine) (ha : PE X a (lift g e W f)) (hb : PE X b (lift g e W f')) : PT X (.Compare a [.Eq] [b] pos) (liftT g e W (dTst (d2 fEq f f'))) := dt_cmp (op_eqX C hu) (ok_eqS.or ok_eqD) ha hb (nomark _)
theorem dt_ne (C : Cxt X g e W) (hu : X.A.units + 64 < cLine) (ha : PE X a (lift g e W f)) (hb : PE X b (lift g e W f')) : PT X (.Compare a [.NotEq] [b] pos) (liftT g e W (dTst (d2 fNe f f'))) := dt_cmp (op_neX C hu) (ok_neS.or ok_neD) ha hb (nomark _)
theorem dt_lt (ha : PE X a (lift g e W f)) (hb : PE X b (lift g e W f')) : PT X (.Compare a [.Lt] [b] pos) (liftT g e W (dTst (d2 fLt f f'))) := dt_cmp op_lt ok_lt ha hb (nomark _)
theorem dt_le (ha : PE X a (lift g e W f)) (hb : PE X b (lift g e W f')) : PT X (.Compare a [.LtE] [b] pos) (liftT g e W (dTst (d2 fLe f f'))) := dt_cmp op_le ok_le ha hb (nomark _)
theorem dt_gt (ha : PE X a (lift g e W f)) (hb : PE X b (lift g e W f')) : PT X (.Compare a [.Gt] [b] pos) (liftT g e W (dTst (d2 fGt f f'))) := dt_cmp op_gt ok_gt ha hb (nomark _)
theorem dt_ge (ha : PE X a (lift g e W f)) (hb : PE X b (lift g e W f')) : PT X (.Compare a [.GtE] [b] pos) (liftT g e W (dTst (d2 fGe f f'))) := dt_cmp op_ge ok_ge ha hb (nomark _)
/-- is None, is not None -/
def isN : D → Option Bool
  | .non => some true
  | .bl _ => some false
  | .int _ => some false
  | .str _ => some false
  | .tup _ => some false
  | .lst _ => some false
  | .dct _ => some false
  | .obj _ _ => some false
  | .opq (.ref _) => some false
  | _ => none
theorem isN_rep {H : Hp} {v : V} {d : D} {b : Bool} (r : Rep g H v d) (h : isN d = some b) : decide (v = .non) = b := by
  cases d with
  | non => cases h; have r : v = .non := r; subst r; rfl
  | bl x => cases h; have r : v = .bl x := r; subst r; rfl
  | int x => cases h; have r : v = .int x := r; subst r; rfl
  | str x => cases h; have r : v = .str x := r; subst r; rfl
  | tup ds => cases h; obtain ⟨a, xs, rfl, _⟩ := r; rfl
  | lst ds => cases h; obtain ⟨a, xs, rfl, _⟩ := r; rfl
  | scr ds => cases h
  | dct ds => cases h; obtain ⟨a, xs, rfl, _⟩ := r; rfl
  | obj c fs => cases h; obtain ⟨a, xs, _, rfl, _⟩ := r; rfl
  | cls c => cases h
  | opq u =>
    have r : v = u := r
    subst r
    cases v with
    | ref a => cases h; rfl
    | _ => cases h
def fIsN (neg : Bool) : DOp := fun x y S k => ∃ b, y = .non ∧ isN x = some b ∧ k (.bl (neg ^^ b)) S
theorem ok_isN : OpOk g e (fun x y H Q => y = .non ∧ Q (.bl (decide (x = .non))) H) (fIsN false) := by
  rintro H Hi S v w x y k Q i rv rw' ⟨b, rfl, hb, z⟩ hk
  refine ⟨rw', ?_⟩
  rw [isN_rep rv hb]
  exact hk (.bl b) S _ H Hi i (Same.refl _) rfl (by simpa using z)
theorem ok_notN : OpOk g e (fun x y H Q => y = .non ∧ Q (.bl (!decide (x = .non))) H) (fIsN true) := by
  rintro H Hi S v w x y k Q i rv rw' ⟨b, rfl, hb, z⟩ hk
  refine ⟨rw', ?_⟩
  rw [isN_rep rv hb]
  exact hk (.bl (!b)) S _ H Hi i (Same.refl _) rfl (by simpa using z)
theorem de_isN (ha : PE X a (lift g e W f)) (hb : PE X b (lift g e W f')) : PE X (.Compare a [.Is] [b] pos) (lift g e W (d2 (fIsN false) f f')) := de_cmp op_isN ok_isN ha hb (nomark _)
theorem de_notN (ha : PE X a (lift g e W f)) (hb : PE X b (lift g e W f')) : PE X (.Compare a [.IsNot] [b] pos) (lift g e W (d2 (fIsN true) f f')) := de_cmp op_notN ok_notN ha hb (nomark _)

theorem dt_isN (ha : PE X a (lift g e W f)) (hb : PE X b (lift g e W f')) : PT X (.Compare a [.Is] [b] pos) (liftT g e W (dTst (d2 (fIsN false) f f'))) := dt_cmp op_isN ok_isN ha hb (nomark _)
theorem dt_notN (ha : PE X a (lift g e W f)) (hb : PE X b (lift g e W f')) : PT X (.Compare a [.IsNot] [b] pos) (liftT g e W (dTst (d2 (fIsN true) f f'))) := dt_cmp op_notN ok_notN ha hb (nomark _)

/-! ### lists, tuples by operators: a new list -/
abbrev DOpM := D → D → Sto → (List D → Sto → Prop) → Prop
def OpOkM (g : Gx) (e : En) (r : R2) (h : DOpM) : Prop := ∀ H Hi S v w x y k Q, Is g e H Hi S → Rep g Hi v x → Rep g Hi w y → h x y S k →
  (∀ ds S' p H' Hi', S' p = none → Is g e H' Hi' (S'.set p (.lst ds)) → Same Hi Hi' → k ds S' → Q (.ref p) H') → r v w H Q
def dM2 (h : DOpM) (f f' : DE) : DA := fun ρ S k E => f ρ S (fun x S1 => f' ρ S1 (fun y S2 => h x y S2 k) E) E
theorem liftM2 {r : R2} {h : DOpM} {f f' : DE} (o : OpOkM g e r h) : ∀ σ H Q, liftM g e W (dM2 h f f') σ H Q → tOp r (lift g e W f) (lift g e W f') σ H Q := by
  rintro σ H Q ⟨ρ, Hi, S, k, E, i, sl, q, hk, hx⟩
  refine ⟨ρ, Hi, S, _, E, i, sl, q, fun x S1 v H1 Hi1 i1 s1 r1 q1 => ?_, hx⟩
  refine ⟨ρ, Hi1, S1, _, E, i1, sl.mono s1, q1, fun y S2 w H2 Hi2 i2 s2 r2 q2 => ?_, hx.mono s1⟩
  exact o H2 Hi2 S2 v w x y k Q i2 (r1.mono s2) r2 q2 fun ds S' p H' Hi' n' i' s' q' => hk ds S' p H' Hi' n' i' ((s1.trans s2).trans s') q'
def fCat : DOpM := fun x y S k => ∃ xs ys, lstOf S x = some xs ∧ lstOf S y = some ys ∧ sz (xs.length + ys.length) ∧ k (xs ++ ys) S
theorem ok_cat : OpOkM g e rCat fCat := by
  rintro H Hi S v w x y k Q i rv rw ⟨xs, ys, hx, hy, z, q⟩ hk
  obtain ⟨a, us, rfl, h1, h2⟩ := lstOf_rep i.ok rv hx
  obtain ⟨b, ws, rfl, h3, h4⟩ := lstOf_rep i.ok rw hy
  refine ⟨a, b, us, ws, rfl, rfl, h1, h3, by rw [h2.length, h4.length]; exact z, fun p hp => ?_⟩
  obtain ⟨n2, i2⟩ := isNewC i hp (h2.append h4)
  exact hk (xs ++ ys) S p _ Hi n2 i2 (Same.refl _) q
theorem dm_cat (ha : PE X a (lift g e W f)) (hb : PE X b (lift g e W f')) : PE X (.BinOp a .Add b pos) (liftM g e W (dM2 fCat f f')) := (pe_op op_cat ha hb).imp (liftM2 ok_cat)
def fRep : DOpM := fun x y S k => ∃ xs n, lstOf S x = some xs ∧ y = .int n ∧ n ≤ 1000000 ∧ xs.length * n.toNat ≤ 16777216 ∧ k (List.replicate n.toNat xs).flatten S
theorem Reps.rep {H : Hp} {vs : List V} {ds : List D} (h : Reps g H vs ds) : ∀ n : Nat, Reps g H (List.replicate n vs).flatten (List.replicate n ds).flatten
  | 0 => trivial
  | n + 1 => by
    rw [List.replicate_succ, List.replicate_succ, List.flatten_cons, List.flatten_cons]
    exact h.append (Reps.rep h n)
theorem rep0 {xs : List V} {n : Int} (h : n < 0) : (List.replicate n.toNat xs).flatten = [] := by
  have : n.toNat = 0 := by omega
  rw [this]; rfl
theorem ok_rep : OpOkM g e rRep (fun x y S k => ∃ xs n, lstOf S x = some xs ∧ y = .int n ∧ -1000000 ≤ n ∧ n ≤ 1000000 ∧ xs.length * n.toNat ≤ 16777216 ∧ k (List.replicate n.toNat xs).flatten S) := by
  rintro H Hi S v w x y k Q i rv rw' ⟨xs, n, hx, rfl, h0, hn, z, q⟩ hk
  obtain ⟨a, us, rfl, h1, h2⟩ := lstOf_rep i.ok rv hx
  have rw' : w = .int n := rw'
  subst rw'
  refine ⟨a, n, us, rfl, rfl, h1, by omega, by omega, by rw [h2.length]; exact sz_of z, fun p hp => ?_⟩
  obtain ⟨n2, i2⟩ := isNewC i hp (h2.rep n.toNat)
  exact hk _ S p _ Hi n2 i2 (Same.refl _) q
def fRepL : DOpM := fun x y S k => ∃ xs n, lstOf S x = some xs ∧ y = .int n ∧ -1000000 ≤ n ∧ n ≤ 1000000 ∧ xs.length * n.toNat ≤ 16777216 ∧ k (List.replicate n.toNat xs).flatten S
theorem dm_rep (ha : PE X a (lift g e W f)) (hb : PE X b (lift g e W f')) : PE X (.BinOp a .Mult b pos) (liftM g e W (dM2 fRepL f f')) := (pe_op op_rep ha hb).imp (liftM2 ok_rep)
/-- tuples: t + u -/
def fCatT : DOp := fun x y S k => ∃ xs ys, x = .tup xs ∧ y = .tup ys ∧ sz (xs.length + ys.length) ∧ k (.tup (xs ++ ys)) S
theorem ok_catT : OpOk g e (rCatA g.K) fCatT := by
  rintro H Hi S v w x y k Q i rv rw' ⟨xs, ys, rfl, rfl, z, q⟩ hk
  obtain ⟨a, us, rfl, h1, h2⟩ := rv
  obtain ⟨b, ws, rfl, h3, h4⟩ := rw'
  refine ⟨a, b, us, ws, rfl, rfl, SqT.of (i.ok.sub _ _ h1), SqT.of (i.ok.sub _ _ h3), by rw [h2.length, h4.length]; exact z, fun e1 => ?_, fun e1 e2 => ?_, fun e1 e2 p hp => ?_⟩
  · subst e1
    have : xs = [] := by cases xs with
      | nil => rfl
      | cons _ _ => exact h2.elim
    subst this
    exact hk (.tup ys) S _ H Hi i (Same.refl _) ⟨b, ws, rfl, h3, h4⟩ q
  · subst e2
    have : ys = [] := by cases ys with
      | nil => rfl
      | cons _ _ => exact h4.elim
    subst this
    rw [List.append_nil] at q
    exact hk (.tup xs) S _ H Hi i (Same.refl _) ⟨a, us, rfl, h1, h2⟩ q
  · obtain ⟨i2, s2⟩ := isNew (o := .tup (us ++ ws)) i hp
    exact hk (.tup (xs ++ ys)) S (.ref p) _ _ i2 s2 ⟨p, _, rfl, upd_same, (h2.mono s2).append (h4.mono s2)⟩ q
theorem de_catT (C : Cxt X g e W) (ha : PE X a (lift g e W f)) (hb : PE X b (lift g e W f')) : PE X (.BinOp a .Add b pos) (lift g e W (d2 fCatT f f')) := de_op (by rw [← C.K]; exact op_catA) ok_catT ha hb
/-- texts -/
def fCatS : DOp := fun x y S k => ∃ i j, x = .str i ∧ y = .str j ∧ i.length + j.length ≤ sizeLine ∧ k (.str (i ++ j)) S
theorem de_catS (ha : PE X a (lift g e W f)) (hb : PE X b (lift g e W f')) : PE X (.BinOp a .Add b pos) (lift g e W (d2 fCatS f f')) := de_op op_add_str (by
  rintro H Hi S v w x y k Q i rv rw' ⟨m, n, rfl, rfl, z, q⟩ hk
  exact ⟨m, n, rv, rw', z, hk (.str (m ++ n)) S _ H Hi i (Same.refl _) rfl q⟩) ha hb
/-- x in xs, x not in xs: flat things -/
def flt : D → Bool
  | .non => true
  | .bl _ => true
  | .int _ => true
  | .str _ => true
  | _ => false
def dEqF : D → D → Bool
  | .non, .non => true
  | .bl a, .bl b => a == b
  | .bl a, .int b => (if a then 1 else 0) == b
  | .int a, .bl b => a == (if b then 1 else 0)
  | .int a, .int b => a == b
  | .str a, .str b => a == b
  | _, _ => false
theorem flt_rep {H : Hp} {v : V} {d : D} (r : Rep g H v d) (h : flt d = true) : flatV v = true := by
  cases d <;> first
    | (have r' := r; subst r'; rfl)
    | (cases h; done)
theorem eqF_rep {H : Hp} {v w : V} {x y : D} (r : Rep g H v x) (r' : Rep g H w y) (h : flt x = true) (h' : flt y = true) : eqV v w = dEqF x y := by
  cases x <;> cases y <;> first
    | (cases h; done)
    | (cases h'; done)
    | (have e1 := r; have e2 := r'; subst e1 e2; rfl)
theorem flts_rep {H : Hp} : ∀ {vs : List V} {ds : List D}, Reps g H vs ds → ds.all flt = true → vs.all flatV = true
  | [], [], _, _ => rfl
  | v :: vs, d :: ds, ⟨h1, h2⟩, h => by
    rw [List.all_cons, Bool.and_eq_true] at h ⊢
    exact ⟨flt_rep h1 h.1, flts_rep h2 h.2⟩
  | [], _ :: _, h, _ => h.elim
  | _ :: _, [], h, _ => h.elim
def dIn (x : D) (xs : List D) : Bool := xs.any fun y => dEqF y x
theorem in_rep {H : Hp} {v : V} {x : D} (r : Rep g H v x) (hx : flt x = true) : ∀ {vs : List V} {ds : List D}, Reps g H vs ds → ds.all flt = true → inV v vs = dIn x ds
  | [], [], _, _ => rfl
  | w :: vs, d :: ds, ⟨h1, h2⟩, h => by
    rw [List.all_cons, Bool.and_eq_true] at h
    have ih := in_rep r hx h2 h.2
    unfold inV dIn at ih ⊢
    rw [List.any_cons, List.any_cons, eqF_rep h1 r h.1 hx, ih]
  | [], _ :: _, h, _ => h.elim
  | _ :: _, [], h, _ => h.elim
def fIn (neg : Bool) : DOp := fun x y S k => ∃ ys, seqOf S y = some ys ∧ flt x = true ∧ ys.all flt = true ∧ k (.bl (if neg then !dIn x ys else dIn x ys)) S
theorem ok_in {neg : Bool} : OpOk g e (rIn g.K neg) (fIn neg) := by
  rintro H Hi S v w x y k Q i rv rw' ⟨ys, hy, fx, fy, q⟩ hk
  obtain ⟨a, us, rfl, h1, h2⟩ := seqOf_rep i.ok rw' hy
  refine ⟨a, us, rfl, h1.symm, flt_rep rv fx, flts_rep h2 fy, ?_⟩
  rw [in_rep rv fx h2 fy]
  exact hk (.bl (if neg then !dIn x ys else dIn x ys)) S _ H Hi i (Same.refl _) rfl q
theorem de_in (C : Cxt X g e W) (ha : PE X a (lift g e W f)) (hb : PE X b (lift g e W f')) (hm : behindInMarks .In b = false := by rfl) : PE X (.Compare a [.In] [b] pos) (lift g e W (d2 (fIn false) f f')) := de_cmp (by rw [← C.K]; exact op_in_seq) ok_in ha hb hm
theorem de_nin (C : Cxt X g e W) (ha : PE X a (lift g e W f)) (hb : PE X b (lift g e W f')) (hm : behindInMarks .NotIn b = false := by rfl) : PE X (.Compare a [.NotIn] [b] pos) (lift g e W (d2 (fIn true) f f')) := de_cmp (by rw [← C.K]; exact op_notIn_seq) ok_in ha hb hm

/-! ### subscripts, slices -/
theorem atI_rep {H : Hp} {vs : List V} {ds : List D} {i : Int} {d : D} (r : Reps g H vs ds) (h : atI ds i = some d) : ∃ v, atI vs i = some v ∧ Rep g H v d := by
  unfold atI at h ⊢
  rw [r.length]
  cases q : ixN ds.length i with
  | none => rw [q] at h; cases h
  | some j =>
    rw [q] at h
    obtain ⟨v, h1, h2⟩ := r.get (i := j) (d := d) h
    exact ⟨v, h1, h2⟩
def fIx : DOp := fun x y S k => ∃ xs i d, seqOf S x = some xs ∧ y = .int i ∧ atI xs i = some d ∧ k d S
theorem ok_ix : OpOk g e (fun x y H Q => rIxL g.K x y H Q ∨ rIxT g.K x y H Q) fIx := by
  rintro H Hi S v w x y k Q i rv rw' ⟨xs, n, d, hx, rfl, hd, q⟩ hk
  obtain ⟨a, us, rfl, h1, h2⟩ := seqOf_rep i.ok rv hx
  obtain ⟨u, hu, ru⟩ := atI_rep h2 hd
  have z := hk d S u H Hi i (Same.refl _) ru q
  rcases h1 with h1 | h1
  · exact .inr ⟨a, us, n, u, rfl, rw', h1, hu, z⟩
  · exact .inl ⟨a, us, n, u, rfl, rw', h1, hu, z⟩
theorem de_ix (C : Cxt X g e W) (ha : PE X a (lift g e W f)) (hb : PE X b (lift g e W f')) (hs : PlainIx b := by intro _ _; rfl) : PE X (.Subscript a b pos) (lift g e W (d2 fIx f f')) :=
  (pe_ix (r := fun x y H Q => rIxL g.K x y H Q ∨ rIxT g.K x y H Q) (by rw [← C.K]; exact ix_list.or ix_tup) ha hb hs).imp (lift2 ok_ix)
/-- a part of a slice -/
abbrev DO := Env → Sto → (Option Int → Sto → Prop) → X1 → Prop
def liftO (g : Gx) (e : En) (W : WX) (f : DO) : TO := fun σ H Q => ∃ ρ Hi S k E, Is g e H Hi S ∧ Slots g Hi σ ρ ∧ f ρ S k E ∧ (∀ d S' H' Hi', Is g e H' Hi' S' → Same Hi Hi' → k d S' → Q d H') ∧ XOk g e W Hi σ E
def dONone : DO := fun _ S k _ => k none S
def dOSome (f : DE) : DO := fun ρ S k E => f ρ S (fun d S1 => ∃ i, d = .int i ∧ k (some i) S1) E
theorem po_imp {o : Option Expr} {t t' : TO} (h : PO X o t) (m : ∀ σ H Q, t' σ H Q → t σ H Q) : PO X o t' := ⟨fun pins s σ H Q I q => h.run pins s σ H Q I (m σ H Q q)⟩
theorem do_none : PO X none (liftO g e W dONone) := po_imp po_none fun σ H Q ⟨ρ, Hi, S, k, E, i, sl, q, hk, hx⟩ => hk none S H Hi i (Same.refl _) q
theorem do_some (h : PE X a (lift g e W f)) : PO X (some a) (liftO g e W (dOSome f)) := po_imp (po_some h) fun σ H Q ⟨ρ, Hi, S, k, E, i, sl, q, hk, hx⟩ =>
  ⟨ρ, Hi, S, _, E, i, sl, q, fun d S1 v H1 Hi1 i1 s1 r1 ⟨n, en, q1⟩ => ⟨n, by rw [en] at r1; exact r1, hk (some n) S1 H1 Hi1 i1 s1 q1⟩, hx⟩
def cutD (xs : List D) (lo hi : Option Int) : List D := (xs.drop (HT.sIx xs.length 0 lo)).take (HT.sIx xs.length xs.length hi - HT.sIx xs.length 0 lo)
theorem cut_rep {H : Hp} {vs : List V} {ds : List D} {lo hi : Option Int} (r : Reps g H vs ds) : Reps g H (cutV vs lo hi) (cutD ds lo hi) := by
  unfold cutV cutD
  rw [r.length]
  exact (r.drop _).take _
def dSl (f : DE) (lo hi : DO) (h : D → Option Int → Option Int → Sto → K1 → Prop) : DE := fun ρ S k E => f ρ S (fun x S1 => lo ρ S1 (fun l S2 => hi ρ S2 (fun u S3 => h x l u S3 k) E) E) E
def dSlM (f : DE) (lo hi : DO) : DA := fun ρ S k E => f ρ S (fun x S1 => lo ρ S1 (fun l S2 => hi ρ S2 (fun u S3 => ∃ xs, lstOf S3 x = some xs ∧ k (cutD xs l u) S3) E) E) E
def fSlT : D → Option Int → Option Int → Sto → K1 → Prop := fun x l u S k => ∃ xs, x = .tup xs ∧ k (.tup (cutD xs l u)) S
theorem cutD_all {xs : List D} {lo hi : Option Int} (h : HT.sIx xs.length 0 lo = 0 ∧ HT.sIx xs.length xs.length hi = xs.length) : cutD xs lo hi = xs := by
  unfold cutD
  rw [h.1, h.2]
  simp
variable {lo hi : Option Expr} {l u : DO} {p2 : Pos}
theorem de_slT (C : Cxt X g e W) (ha : PE X a (lift g e W f)) (hl : PO X lo (liftO g e W l)) (hu : PO X hi (liftO g e W u)) : PE X (.Subscript a (.Slice lo hi none p2) pos) (lift g e W (dSl f l u fSlT)) :=
  (pe_slice (r := rSlA g.K) (by rw [← C.K]; exact sl_tupA) ha hl hu).imp fun σ H Q ⟨ρ, Hi, S, k, E, i, sl, q, hk, hx⟩ => by
    refine ⟨ρ, Hi, S, _, E, i, sl, q, fun x S1 v H1 Hi1 i1 s1 r1 q1 => ?_, hx⟩
    refine ⟨ρ, Hi1, S1, _, E, i1, sl.mono s1, q1, fun m S2 H2 Hi2 i2 s2 q2 => ?_, hx.mono s1⟩
    refine ⟨ρ, Hi2, S2, _, E, i2, (sl.mono s1).mono s2, q2, fun n S3 H3 Hi3 i3 s3 q3 => ?_, (hx.mono s1).mono s2⟩
    obtain ⟨xs, rfl, q3⟩ := q3
    obtain ⟨b, us, rfl, h1, h2⟩ := (r1.mono s2).mono s3
    refine ⟨b, us, rfl, SqT.of (i3.ok.sub _ _ h1), fun hw => ?_, fun hw p hp => ?_⟩
    · rw [h2.length] at hw
      rw [cutD_all hw] at q3
      exact hk (.tup xs) S3 _ H3 Hi3 i3 ((s1.trans s2).trans s3) ⟨b, us, rfl, h1, h2⟩ q3
    · obtain ⟨i4, s4⟩ := isNew (o := .tup (cutV us m n)) i3 hp
      exact hk (.tup (cutD xs m n)) S3 (.ref p) _ _ i4 (((s1.trans s2).trans s3).trans s4) ⟨p, _, rfl, upd_same, cut_rep (h2.mono s4)⟩ q3
theorem dm_sl (C : Cxt X g e W) (ha : PE X a (lift g e W f)) (hl : PO X lo (liftO g e W l)) (hu : PO X hi (liftO g e W u)) : PE X (.Subscript a (.Slice lo hi none p2) pos) (liftM g e W (dSlM f l u)) :=
  (pe_slice (r := rSlL g.K) (by rw [← C.K]; exact sl_list) ha hl hu).imp fun σ H Q ⟨ρ, Hi, S, k, E, i, sl, q, hk, hx⟩ => by
    refine ⟨ρ, Hi, S, _, E, i, sl, q, fun x S1 v H1 Hi1 i1 s1 r1 q1 => ?_, hx⟩
    refine ⟨ρ, Hi1, S1, _, E, i1, sl.mono s1, q1, fun m S2 H2 Hi2 i2 s2 q2 => ?_, hx.mono s1⟩
    refine ⟨ρ, Hi2, S2, _, E, i2, (sl.mono s1).mono s2, q2, fun n S3 H3 Hi3 i3 s3 q3 => ?_, (hx.mono s1).mono s2⟩
    obtain ⟨xs, hxs, q3⟩ := q3
    obtain ⟨b, us, rfl, h1, h2⟩ := lstOf_rep i3.ok ((r1.mono s2).mono s3) hxs
    refine ⟨b, us, rfl, SqL.of h1, fun p hp => ?_⟩
    obtain ⟨n4, i4⟩ := isNewC i3 hp (cut_rep (lo := m) (hi := n) h2)
    exact hk _ S3 p _ Hi3 n4 i4 ((s1.trans s2).trans s3) q3

/-! ### built-in functions -/
abbrev DBi := List D → Sto → K1 → Prop
def BiOk (g : Gx) (e : En) (r : List V → Hp → VK → Prop) (h : DBi) : Prop := ∀ H Hi S vs ds k Q, Is g e H Hi S → Reps g Hi vs ds → h ds S k → KOk g e Hi k Q → r vs H Q
def dBi (h : DBi) (u : DA) : DE := fun ρ S k E => u ρ S (fun ds S1 => h ds S1 k) E
theorem liftBi {r : List V → Hp → VK → Prop} {h : DBi} {u : DA} (o : BiOk g e r h) : ∀ σ H Q, lift g e W (dBi h u) σ H Q → tCB r (liftA g e W u) σ H Q := by
  rintro σ H Q ⟨ρ, Hi, S, k, E, i, sl, q, hk, hx⟩
  exact ⟨ρ, Hi, S, _, E, i, sl, q, fun ds S1 vs H1 Hi1 i1 s1 r1 q1 => o H1 Hi1 S1 vs ds k Q i1 r1 q1 (KOk.mono hk s1), hx⟩
variable {x : Str} {p : Pos} {es : List Expr} {ua : DA} {id T : String} {r : List V → Hp → VK → Prop} {h : DBi}
theorem de_bi (C : Cxt X g e W) (hc : CallR X (.builtin id) r) (o : BiOk g e r h) (hg : Gl X x) (hm : g.mg x = none) (hv : bootBuiltins x = some (.builtin id)) (ha : PA X (a :: es) (liftA g e W ua)) (hn : x ≠ "__name__" := by decide) (hdb : (x == ("__debug__" : Str)) = false := by decide)
    (he : starEach (a :: es) X.env = (false, eval a X.env) :: starEach es X.env := by rfl) (hpl : (backTo pos (starEach es X.env)).any (·.1) = false := by rfl) : PE X (.Call (.Name x p) (a :: es) [] pos) (lift g e W (dBi h ua)) :=
  (pe_callB hc hg (by rw [C.mg]; exact hm) hv ha hn hdb he hpl).imp (liftBi o)
theorem de_ty (C : Cxt X g e W) (hc : CallR X (.type T) r) (o : BiOk g e r h) (hg : Gl X x) (hm : g.mg x = none) (hv : bootBuiltins x = some (.type T)) (ha : PA X (a :: es) (liftA g e W ua)) (hn : x ≠ "__name__" := by decide) (hdb : (x == ("__debug__" : Str)) = false := by decide)
    (he : starEach (a :: es) X.env = (false, eval a X.env) :: starEach es X.env := by rfl) (hpl : (backTo pos (starEach es X.env)).any (·.1) = false := by rfl) : PE X (.Call (.Name x p) (a :: es) [] pos) (lift g e W (dBi h ua)) :=
  (pe_callTy hc hg (by rw [C.mg]; exact hm) hv ha hn hdb he hpl).imp (liftBi o)
/-- .. that give a new list -/
abbrev DBiM := List D → Sto → (List D → Sto → Prop) → Prop
def BiOkM (g : Gx) (e : En) (r : List V → Hp → VK → Prop) (h : DBiM) : Prop := ∀ H Hi S vs ds k Q, Is g e H Hi S → Reps g Hi vs ds → h ds S k →
  (∀ ds S' p H' Hi', S' p = none → Is g e H' Hi' (S'.set p (.lst ds)) → Same Hi Hi' → k ds S' → Q (.ref p) H') → r vs H Q
def dBiM (h : DBiM) (u : DA) : DA := fun ρ S k E => u ρ S (fun ds S1 => h ds S1 k) E
theorem liftBiM {h : DBiM} {u : DA} (o : BiOkM g e r h) : ∀ σ H Q, liftM g e W (dBiM h u) σ H Q → tCB r (liftA g e W u) σ H Q := by
  rintro σ H Q ⟨ρ, Hi, S, k, E, i, sl, q, hk, hx⟩
  exact ⟨ρ, Hi, S, _, E, i, sl, q, fun ds S1 vs H1 Hi1 i1 s1 r1 q1 => o H1 Hi1 S1 vs ds k Q i1 r1 q1 fun ds S' p H' Hi' n' i' s' q' => hk ds S' p H' Hi' n' i' (s1.trans s') q', hx⟩
theorem dm_bi {h : DBiM} (C : Cxt X g e W) (hc : CallR X (.builtin id) r) (o : BiOkM g e r h) (hg : Gl X x) (hm : g.mg x = none) (hv : bootBuiltins x = some (.builtin id)) (ha : PA X (a :: es) (liftA g e W ua)) (hn : x ≠ "__name__" := by decide) (hdb : (x == ("__debug__" : Str)) = false := by decide)
    (he : starEach (a :: es) X.env = (false, eval a X.env) :: starEach es X.env := by rfl) (hpl : (backTo pos (starEach es X.env)).any (·.1) = false := by rfl) : PE X (.Call (.Name x p) (a :: es) [] pos) (liftM g e W (dBiM h ua)) :=
  (pe_callB hc hg (by rw [C.mg]; exact hm) hv ha hn hdb he hpl).imp (liftBiM o)
theorem dm_ty {h : DBiM} (C : Cxt X g e W) (hc : CallR X (.type T) r) (o : BiOkM g e r h) (hg : Gl X x) (hm : g.mg x = none) (hv : bootBuiltins x = some (.type T)) (ha : PA X (a :: es) (liftA g e W ua)) (hn : x ≠ "__name__" := by decide) (hdb : (x == ("__debug__" : Str)) = false := by decide)
    (he : starEach (a :: es) X.env = (false, eval a X.env) :: starEach es X.env := by rfl) (hpl : (backTo pos (starEach es X.env)).any (·.1) = false := by rfl) : PE X (.Call (.Name x p) (a :: es) [] pos) (liftM g e W (dBiM h ua)) :=
  (pe_callTy hc hg (by rw [C.mg]; exact hm) hv ha hn hdb he hpl).imp (liftBiM o)
theorem Reps.one {H : Hp} {vs : List V} {d : D} (r : Reps g H vs [d]) : ∃ v, vs = [v] ∧ Rep g H v d := by
  match vs, r with
  | [v], ⟨h, _⟩ => exact ⟨v, rfl, h⟩
theorem Reps.two {H : Hp} {vs : List V} {d d' : D} (r : Reps g H vs [d, d']) : ∃ v w, vs = [v, w] ∧ Rep g H v d ∧ Rep g H w d' := by
  match vs, r with
  | [v, w], ⟨h, h', _⟩ => exact ⟨v, w, rfl, h, h'⟩
/-- len -/
def bLen : DBi := fun ds S k => ∃ d xs, ds = [d] ∧ seqOf S d = some xs ∧ k (.int xs.length) S
theorem ok_len : BiOk g e (fun xs H Q => ∃ p ys, xs = [.ref p] ∧ (SqL g.K H p ys ∨ SqT g.K H p ys) ∧ Q (.int ys.length) H) bLen := by
  rintro H Hi S vs ds k Q i r ⟨d, xs, rfl, hd, q⟩ hk
  obtain ⟨v, rfl, rv⟩ := r.one
  obtain ⟨a, us, rfl, h1, h2⟩ := seqOf_rep i.ok rv hd
  refine ⟨a, us, rfl, h1.symm, ?_⟩
  rw [h2.length]
  exact hk (.int xs.length) S _ H Hi i (Same.refl _) rfl q
theorem call_lenX (C : Cxt X g e W) : CallR X (.builtin "len") (fun xs H Q => ∃ p ys, xs = [.ref p] ∧ (SqL g.K H p ys ∨ SqT g.K H p ys) ∧ Q (.int ys.length) H) := by rw [← C.K]; exact call_len_seq
/-- int(x), bool(x) -/
def bInt : DBi := fun ds S k => (∃ i, ds = [.int i] ∧ k (.int i) S) ∨ ∃ b, ds = [.bl b] ∧ k (.int (if b then 1 else 0)) S
theorem ok_int : BiOk g e (fun xs H Q => (∃ i, xs = [.int i] ∧ Q (.int i) H) ∨ ∃ k, xs = [.bl k] ∧ Q (.int (if k then 1 else 0)) H) bInt := by
  rintro H Hi S vs ds k Q i r q hk
  rcases q with ⟨n, rfl, q⟩ | ⟨b, rfl, q⟩
  · obtain ⟨v, rfl, rv⟩ := r.one
    exact .inl ⟨n, congrArg (fun z => [z]) rv, hk (.int n) S _ H Hi i (Same.refl _) rfl q⟩
  · obtain ⟨v, rfl, rv⟩ := r.one
    exact .inr ⟨b, congrArg (fun z => [z]) rv, hk (.int (if b then 1 else 0)) S _ H Hi i (Same.refl _) rfl q⟩
def bBool : DBi := fun ds S k => (∃ i, ds = [.int i] ∧ k (.bl (i != 0)) S) ∨ ∃ b, ds = [.bl b] ∧ k (.bl b) S
theorem ok_bool : BiOk g e (fun xs H Q => (∃ i, xs = [.int i] ∧ Q (.bl (i != 0)) H) ∨ ∃ k, xs = [.bl k] ∧ Q (.bl k) H) bBool := by
  rintro H Hi S vs ds k Q i r q hk
  rcases q with ⟨n, rfl, q⟩ | ⟨b, rfl, q⟩
  · obtain ⟨v, rfl, rv⟩ := r.one
    exact .inl ⟨n, congrArg (fun z => [z]) rv, hk (.bl (n != 0)) S _ H Hi i (Same.refl _) rfl q⟩
  · obtain ⟨v, rfl, rv⟩ := r.one
    exact .inr ⟨b, congrArg (fun z => [z]) rv, hk (.bl b) S _ H Hi i (Same.refl _) rfl q⟩
/-- list(x) of a list, a tuple -/
def bList : DBiM := fun ds S k => ∃ d xs, ds = [d] ∧ seqOf S d = some xs ∧ k xs S
theorem ok_list : BiOkM g e (fun xs H Q => ∃ p ys, xs = [.ref p] ∧ (SqL g.K H p ys ∨ SqT g.K H p ys) ∧ ∀ l, H l = none → Q (.ref l) (upd H l (.lst ys))) bList := by
  rintro H Hi S vs ds k Q i r ⟨d, xs, rfl, hd, q⟩ hk
  obtain ⟨v, rfl, rv⟩ := r.one
  obtain ⟨a, us, rfl, h1, h2⟩ := seqOf_rep i.ok rv hd
  refine ⟨a, us, rfl, h1.symm, fun l hl => ?_⟩
  obtain ⟨n2, i2⟩ := isNewC i hl h2
  exact hk xs S l _ Hi n2 i2 (Same.refl _) q
/-- tuple(x) of a list, a tuple -/
def bTuple : DBi := fun ds S k => ∃ d xs, ds = [d] ∧ seqOf S d = some xs ∧ k (.tup xs) S
theorem ok_tuple : BiOk g e (fun xs H Q => ∃ p ys, xs = [.ref p] ∧ ((SqL g.K H p ys ∧ ∀ l, H l = none → Q (.ref l) (upd H l (.tup ys))) ∨ (SqT g.K H p ys ∧ Q (.ref p) H))) bTuple := by
  rintro H Hi S vs ds k Q i r ⟨d, xs, rfl, hd, q⟩ hk
  obtain ⟨v, rfl, rv⟩ := r.one
  cases d with
  | tup es =>
    cases hd
    obtain ⟨a, us, rfl, h1, h2⟩ := rv
    exact ⟨a, us, rfl, .inr ⟨SqT.of (i.ok.sub _ _ h1), hk (.tup xs) S _ H Hi i (Same.refl _) ⟨a, us, rfl, h1, h2⟩ q⟩⟩
  | scr es =>
    cases hd
    obtain ⟨a, us, rfl, h1, h2⟩ := rv
    refine ⟨a, us, rfl, .inl ⟨i.ok.sub.seq h1, fun l hl => ?_⟩⟩
    obtain ⟨i2, s2⟩ := isNew (o := .tup us) i hl
    exact hk (.tup xs) S (.ref l) _ _ i2 s2 ⟨l, us, rfl, upd_same, h2.mono s2⟩ q
  | _ =>
    obtain ⟨a, us, rfl, h1, h2⟩ := lstOf_rep i.ok rv hd
    refine ⟨a, us, rfl, .inl ⟨SqL.of h1, fun l hl => ?_⟩⟩
    obtain ⟨i2, s2⟩ := isNew (o := .tup us) i hl
    exact hk (.tup xs) S (.ref l) _ _ i2 s2 ⟨l, us, rfl, upd_same, h2.mono s2⟩ q
/-- min, max of two ints -/
def bMax2 : DBi := fun ds S k => ∃ i j, ds = [.int i, .int j] ∧ k (.int (if j > i then j else i)) S
def bMin2 : DBi := fun ds S k => ∃ i j, ds = [.int i, .int j] ∧ k (.int (if j < i then j else i)) S
theorem ok_max2 : BiOk g e (fun xs H Q => ∃ i j, xs = [.int i, .int j] ∧ Q (.int (if j > i then j else i)) H) bMax2 := by
  rintro H Hi S vs ds k Q i r ⟨m, n, rfl, q⟩ hk
  obtain ⟨v, w, rfl, r1, r2⟩ := r.two
  have r1 : v = .int m := r1
  have r2 : w = .int n := r2
  subst r1 r2
  exact ⟨m, n, rfl, hk (.int (if n > m then n else m)) S _ H Hi i (Same.refl _) rfl q⟩
theorem ok_min2 : BiOk g e (fun xs H Q => ∃ i j, xs = [.int i, .int j] ∧ Q (.int (if j < i then j else i)) H) bMin2 := by
  rintro H Hi S vs ds k Q i r ⟨m, n, rfl, q⟩ hk
  obtain ⟨v, w, rfl, r1, r2⟩ := r.two
  have r1 : v = .int m := r1
  have r2 : w = .int n := r2
  subst r1 r2
  exact ⟨m, n, rfl, hk (.int (if n < m then n else m)) S _ H Hi i (Same.refl _) rfl q⟩
/-- of a list of ints: sum, max, min, sorted -/
def lstOrScr (S : Sto) : D → Option (List D)
  | .scr ds => some ds
  | d => lstOf S d
theorem lsOf_rep {H Hi : Hp} {S : Sto} {v : V} {d : D} {ds : List D} (k : Ok g H Hi S) (r : Rep g Hi v d) (h : lstOrScr S d = some ds) : ∃ a xs, v = .ref a ∧ SqL g.K H a xs ∧ Reps g Hi xs ds := by
  cases d with
  | scr es => cases h; obtain ⟨a, xs, h1, h2, h3⟩ := r; exact ⟨a, xs, h1, k.sub.seq h2, h3⟩
  | _ => obtain ⟨a, xs, h1, h2, h3⟩ := lstOf_rep k r h; exact ⟨a, xs, h1, SqL.of h2, h3⟩
def bSum : DBi := fun ds S k => ∃ (d : D) (ns : List Int), ds = [d] ∧ lstOrScr S d = some (ns.map D.int) ∧ k (.int ns.sum) S
theorem ok_sum : BiOk g e (rSum g.K) bSum := by
  rintro H Hi S vs ds k Q i r ⟨d, ns, rfl, hd, q⟩ hk
  obtain ⟨v, rfl, rv⟩ := r.one
  obtain ⟨a, us, rfl, h1, h2⟩ := lsOf_rep i.ok rv hd
  have e1 := h2.of_int
  subst e1
  exact ⟨a, ns, rfl, h1, hk (.int ns.sum) S _ H Hi i (Same.refl _) rfl q⟩
def bMax : DBi := fun ds S k => ∃ (d : D) (ns : List Int), ds = [d] ∧ lstOrScr S d = some (ns.map D.int) ∧ 0 < ns.length ∧ ∀ m, m ∈ ns → (∀ y, y ∈ ns → y ≤ m) → k (.int m) S
theorem ok_max : BiOk g e (rMax g.K) bMax := by
  rintro H Hi S vs ds k Q i r ⟨d, ns, rfl, hd, h0, q⟩ hk
  obtain ⟨v, rfl, rv⟩ := r.one
  obtain ⟨a, us, rfl, h1, h2⟩ := lsOf_rep i.ok rv hd
  have e1 := h2.of_int
  subst e1
  exact ⟨a, ns, rfl, h1, h0, fun m hm hl => hk (.int m) S _ H Hi i (Same.refl _) rfl (q m hm hl)⟩
def bMin : DBi := fun ds S k => ∃ (d : D) (ns : List Int), ds = [d] ∧ lstOrScr S d = some (ns.map D.int) ∧ 0 < ns.length ∧ ∀ m, m ∈ ns → (∀ y, y ∈ ns → m ≤ y) → k (.int m) S
theorem ok_min : BiOk g e (rMin g.K) bMin := by
  rintro H Hi S vs ds k Q i r ⟨d, ns, rfl, hd, h0, q⟩ hk
  obtain ⟨v, rfl, rv⟩ := r.one
  obtain ⟨a, us, rfl, h1, h2⟩ := lsOf_rep i.ok rv hd
  have e1 := h2.of_int
  subst e1
  exact ⟨a, ns, rfl, h1, h0, fun m hm hl => hk (.int m) S _ H Hi i (Same.refl _) rfl (q m hm hl)⟩
def bSorted : DBiM := fun ds S k => ∃ (d : D) (ns : List Int), ds = [d] ∧ lstOrScr S d = some (ns.map D.int) ∧ ∀ ns' : List Int, ns'.Perm ns → ns'.Pairwise (· ≤ ·) → k (ns'.map D.int) S
theorem ok_sorted : BiOkM g e (rSortedI g.K) bSorted := by
  rintro H Hi S vs ds k Q i r ⟨d, ns, rfl, hd, q⟩ hk
  obtain ⟨v, rfl, rv⟩ := r.one
  obtain ⟨a, us, rfl, h1, h2⟩ := lsOf_rep i.ok rv hd
  have e1 := h2.of_int
  subst e1
  refine ⟨a, ns, rfl, h1, fun ns' p hp hs hn => ?_⟩
  obtain ⟨n2, i2⟩ := isNewC i hn (Reps.map_int (g := g) (H := Hi) (ns := ns'))
  exact hk _ S p _ Hi n2 i2 (Same.refl _) (q ns' hp hs)
/-- any, all of a list of bools -/
theorem Reps.of_bl {H : Hp} : ∀ {vs : List V} {bs : List Bool}, Reps g H vs (bs.map D.bl) → vs = bs.map V.bl
  | [], [], _ => rfl
  | v :: vs, b :: bs, ⟨h1, h2⟩ => by
    have h1 : v = .bl b := h1
    rw [h1, Reps.of_bl h2, List.map_cons]
  | [], _ :: _, h => h.elim
  | _ :: _, [], h => h.elim
def bAny : DBi := fun ds S k => ∃ (d : D) (bs : List Bool), ds = [d] ∧ lstOf S d = some (bs.map D.bl) ∧ k (.bl (bs.any _root_.id)) S
def bAll : DBi := fun ds S k => ∃ (d : D) (bs : List Bool), ds = [d] ∧ lstOf S d = some (bs.map D.bl) ∧ k (.bl (bs.all _root_.id)) S
theorem ok_any : BiOk g e (rAny g.K) bAny := by
  rintro H Hi S vs ds k Q i r ⟨d, ns, rfl, hd, q⟩ hk
  obtain ⟨v, rfl, rv⟩ := r.one
  obtain ⟨a, us, rfl, h1, h2⟩ := lstOf_rep i.ok rv hd
  have e1 := h2.of_bl
  subst e1
  exact ⟨a, ns, rfl, SqL.of h1, hk (.bl (ns.any _root_.id)) S _ H Hi i (Same.refl _) rfl q⟩
theorem ok_all : BiOk g e (rAll g.K) bAll := by
  rintro H Hi S vs ds k Q i r ⟨d, ns, rfl, hd, q⟩ hk
  obtain ⟨v, rfl, rv⟩ := r.one
  obtain ⟨a, us, rfl, h1, h2⟩ := lstOf_rep i.ok rv hd
  have e1 := h2.of_bl
  subst e1
  exact ⟨a, ns, rfl, SqL.of h1, hk (.bl (ns.all _root_.id)) S _ H Hi i (Same.refl _) rfl q⟩
end
end DL
end
/-! ## DL5 -/
section
set_option Elab.async false
set_option linter.all false
set_option maxRecDepth 100000
set_option maxHeartbeats 2000000
namespace DL
open PySem PySem.Spec PyProof.Rows L2
section
variable {X : Cx} {g : Gx} {e : En} {W : WX} {a b c : Expr} {pos : Pos}

/-! ### whatever the entry -/
def liftx (g : Gx) (W : WX) (f : DE) : TE := fun σ H Q => ∃ e, lift g e W f σ H Q
def liftxT (g : Gx) (W : WX) (f : DT) : TT := fun σ H Q => ∃ e, liftT g e W f σ H Q
def liftxG (g : Gx) (W : WX) (f : DG) : TG := fun v σ H Q => ∃ e, liftG g e W f v σ H Q
theorem de_any {f : DE} (h : ∀ e, PE X a (lift g e W f)) : PE X a (liftx g W f) := ⟨fun pins s σ H Q I ⟨e, q⟩ => (h e).run pins s σ H Q I q⟩
theorem dg_any {f : DG} (h : ∀ e, PG X a (liftG g e W f)) : PG X a (liftxG g W f) := ⟨fun pins s σ H v u Q I r ⟨e, q⟩ => (h e).run pins s σ H v u Q I r q⟩

/-! ### targets -/
def dgN (i : Nat) : DG := fun d ρ S k _ => k (ρ.set i (some d)) S
theorem dg_name {i : Nat} {x : Str} (hN : X.N.Nodup) (hi : X.N[i]? = some x) (hx : Loc X.env.scope x) (hf : X.fn x = true ∨ X.env.scope.names.lookup x = some .local := by first | exact .inl rfl | exact .inr rfl | assumption) : PG X (.Name x pos) (liftG g e W (dgN i)) :=
  (pg_name hN hi hx hf).imp fun v σ H Q ⟨d, ρ, Hi, S, k, E, i', sl, r, q, hk, hx'⟩ => hk _ S _ H Hi i' (Same.refl _) (sl.set r) q
def dgsN : DGs := fun ds ρ S k _ => ds = [] ∧ k ρ S
def dgsC (t : DG) (u : DGs) : DGs := fun ds ρ S k E => ∃ d r, ds = d :: r ∧ t d ρ S (fun ρ' S' => u r ρ' S' k E) E
theorem dgs_nil : PGs X [] (liftGs g e W dgsN) := pgs_nil.imp fun vs σ H Q ⟨ds, ρ, Hi, S, k, E, i, sl, r, ⟨e1, q⟩, hk, hx⟩ => by
  subst e1
  match vs, r with
  | [], _ => exact ⟨rfl, hk _ S _ H Hi i (Same.refl _) sl q⟩
theorem dgs_cons {es : List Expr} {t : DG} {u : DGs} (h1 : PG X a (liftG g e W t)) (h2 : PGs X es (liftGs g e W u)) (hs : (assignEach (a :: es) X.env).map (·.2) = assign a X.env :: (assignEach es X.env).map (·.2) := by rfl) : PGs X (a :: es) (liftGs g e W (dgsC t u)) :=
  (pgs_cons h1 h2 hs).imp fun vs σ H Q ⟨ds, ρ, Hi, S, k, E, i, sl, r, ⟨d, ds', e1, q⟩, hk, hx⟩ => by
    subst e1
    match vs, r with
    | v :: vs, ⟨r1, r2⟩ =>
      refine ⟨v, vs, rfl, d, ρ, Hi, S, _, E, i, sl, r1, q, fun ρ' S' σ' H' Hi' i' s' sl' q' => ?_, hx⟩
      exact ⟨ds', ρ', Hi', S', k, E, i', sl', r2.mono s', q', fun ρ2 S2 σ2 H2 Hi2 i2 s2 => hk ρ2 S2 σ2 H2 Hi2 i2 (s'.trans s2), fun c fs S2 σ2 H2 Hi2 cls dx i2 s2 => hx c fs S2 σ2 H2 Hi2 cls dx i2 (s'.trans s2)⟩
def dgT (n : Nat) (t : DGs) : DG := fun d ρ S k E => ∃ ds, d = .tup ds ∧ ds.length = n ∧ t ds ρ S k E
theorem dg_tup {es : List Expr} {kk n : Nat} {t : DGs} (C : Cxt X g e W) (h : PGs X es (liftGs g e W t)) (hn : (assignEach es X.env).length = n := by rfl) (hst : (assignEach es X.env).findIdx? (·.1) = none := by rfl) : PG X (.Tuple es kk pos) (liftG g e W (dgT n t)) :=
  (pg_tup C.calm h hn hst).imp fun v σ H Q ⟨d, ρ, Hi, S, k, E, i, sl, r, ⟨ds, e1, hl, q⟩, hk, hx⟩ => by
    subst e1
    obtain ⟨p, xs, rfl, h1, h2⟩ := r
    exact ⟨p, xs, rfl, SqT.of (i.ok.sub _ _ h1), by rw [h2.length]; exact hl, ds, ρ, Hi, S, k, E, i, sl, h2, q, hk, hx⟩
/-- target = value -/
def dAsg (f : DE) (t : DG) : DS := fun ρ S D => f ρ S (fun d S1 => t d ρ S1 D.nx (fun c fs S' => D.xe c fs ρ S')) (fun c fs S' => D.xe c fs ρ S')
/-- (targets that raise nothing) -/
def dgQ (t : DG) : DG := fun d ρ S k _ => t d ρ S k fun _ _ _ => False
theorem ds_asg {tg : Expr} {f : DE} {t : DG} (h : PE X a (lift g e W f)) (ht : PG X tg (liftG g e W t)) (hs : swapsWithSole [tg] a pos.line X.env = pure false := by rfl) (hw : swappedStores [tg] a X.env = pure none := by rfl)
    (h1 : (assignEach [tg] X.env).map (·.2) = [assign tg X.env] := by rfl) : PS X (.Assign [tg] a pos) (liftS g e W (dAsg f (dgQ t))) :=
  (ps_asg h ht hs hw h1).imp fun D σ H ⟨ρ, Hi, S, DD, i, sl, q, ok⟩ => by
    refine ⟨ρ, Hi, S, _, _, i, sl, q, fun d S1 v H1 Hi1 i1 s1 r1 q1 => ?_, ok.x sl⟩
    exact ⟨d, ρ, Hi1, S1, _, _, i1, sl.mono s1, r1, q1, fun ρ' S' σ' H' Hi' i' s' sl' q' => ok.nx ρ' S' σ' H' Hi' i' (s1.trans s') sl' q', fun _ _ _ _ _ _ _ _ _ _ _ z => z.elim⟩
/-- x, y = a, b by plain local names -/
def dPar (i j : Nat) (u : DA) : DS := fun ρ S D => u ρ S (fun ds S2 => ∃ x y, ds = [x, y] ∧ D.nx ((ρ.set i (some x)).set j (some y)) S2) (fun c fs S' => D.xe c fs ρ S')
theorem ds_par {i j : Nat} {x y : Str} {u : DA} {px py pt : Pos} {kt k2 pt2} (C : Cxt X g e W) (hN : X.N.Nodup) (hi : X.N[i]? = some x) (hj : X.N[j]? = some y) (hij : i ≠ j)
    (hx : X.env.scope.names.lookup x = some .local) (hy : X.env.scope.names.lookup y = some .local) (ha : PA X [a, b] (liftA g e W u))
    (hw : swappedStores [.Tuple [.Name x px, .Name y py] kt pt] (.Tuple [a, b] k2 pt2) X.env = pure (some [x, y])) (hs : swapsWithSole [.Tuple [.Name x px, .Name y py] kt pt] (.Tuple [a, b] k2 pt2) pos.line X.env = pure false := by rfl) :
    PS X (.Assign [.Tuple [.Name x px, .Name y py] kt pt] (.Tuple [a, b] k2 pt2) pos) (liftS g e W (dPar i j u)) :=
  (ps_par C.calm hN hi hj hij hx hy ha hw hs).imp fun D σ H ⟨ρ, Hi, S, DD, i', sl, q, ok⟩ => by
    refine ⟨ρ, Hi, S, _, _, i', sl, q, fun ds S1 vs H1 Hi1 i1 s1 r1 ⟨dx, dy, e1, q1⟩ => ?_, ok.x sl⟩
    subst e1
    obtain ⟨v, w, rfl, r2, r3⟩ := r1.two
    exact ⟨v, w, rfl, ok.nx _ S1 _ H1 Hi1 i1 s1 (((sl.mono s1).set r2).set r3) q1⟩

/-! ### what is walked -/
def Walks (g : Gx) (e : En) (J : It) (Hi : Hp) (ds : List D) : Prop := ∀ (i : Nat) H2 Hi2 S2, Is g e H2 Hi2 S2 → Same Hi Hi2 →
  (ds.length ≤ i → J.stop i H2) ∧ ∀ d, ds[i]? = some d → J.go i H2 ∧ ∀ x H3, J.yld i H2 x H3 → ∃ Hi3, Is g e H3 Hi3 S2 ∧ Same Hi2 Hi3 ∧ Rep g Hi3 x d ∧ Ext H2 Hi2 S2 H3 Hi3 S2
def liftI (g : Gx) (e : En) (W : WX) (f : DA) : TI := fun σ H R => ∃ ρ Hi S k E, Is g e H Hi S ∧ Slots g Hi σ ρ ∧ f ρ S k E ∧
  (∀ ds S' J H' Hi', Is g e H' Hi' S' → Same Hi Hi' → (∀ e', Walks g e' J Hi' ds) → k ds S' → R J H') ∧ XOk g e W Hi σ E

/-- the items of a list or tuple that changes no more -/
def frzOf : D → Option (List D)
  | .tup ds => some ds
  | .lst ds => some ds
  | .scr ds => some ds
  | _ => none
theorem walks_list {p : Addr} {xs : List V} {ds : List D} {Hi : Hp} (hq : SqL g.K Hi p xs) (r : Reps g Hi xs ds) : Walks g e (Itl g.K p) Hi ds := by
  intro i H2 Hi2 S2 i2 s2
  have q2 := i2.ok.sub.seq (s2.seq hq)
  refine ⟨fun h => ⟨xs, q2, by rw [r.length]; exact h⟩, fun d hd => ?_⟩
  obtain ⟨v, h1, h2⟩ := r.get hd
  refine ⟨⟨xs, v, q2, h1⟩, fun x H3 ⟨e3, y3⟩ => ?_⟩
  subst e3
  have := y3 xs q2
  rw [h1] at this
  cases this
  exact ⟨Hi2, i2, Same.refl _, h2.mono s2, Ext.refl⟩
theorem walks_tup {p : Addr} {xs : List V} {ds : List D} {Hi : Hp} (hq : SqT g.K Hi p xs) (r : Reps g Hi xs ds) : Walks g e (Itt g.K p) Hi ds := by
  intro i H2 Hi2 S2 i2 s2
  have q2 := Same.tup i2.ok.sub (Same.tup s2 hq)
  refine ⟨fun h => ⟨xs, q2, by rw [r.length]; exact h⟩, fun d hd => ?_⟩
  obtain ⟨v, h1, h2⟩ := r.get hd
  refine ⟨⟨xs, v, q2, h1⟩, fun x H3 ⟨e3, y3⟩ => ?_⟩
  subst e3
  have := y3 xs q2
  rw [h1] at this
  cases this
  exact ⟨Hi2, i2, Same.refl _, h2.mono s2, Ext.refl⟩
theorem walks_rng {lo : Int} {n : Nat} {Hi : Hp} : Walks g e (Itr lo n) Hi ((List.range n).map fun (i : Nat) => D.int (lo + i)) := by
  intro i H2 Hi2 S2 i2 s2
  refine ⟨fun h => (show n ≤ i by simpa using h), fun d hd => ?_⟩
  rw [List.getElem?_map] at hd
  cases q : (List.range n)[i]? with
  | none => rw [q] at hd; cases hd
  | some j =>
    rw [q] at hd
    have hj := List.getElem?_eq_some_iff.mp q
    obtain ⟨hlt, ej⟩ := hj
    rw [List.getElem_range] at ej
    subst ej
    have hd := Option.some.inj hd
    subst hd
    refine ⟨(show i < n by simpa using hlt), fun x H3 ⟨e3, y3⟩ => ?_⟩
    subst e3 y3
    exact ⟨Hi2, i2, Same.refl _, rfl, Ext.refl⟩
variable {f f' : DE} {u : DA}
def wSeq (f : DE) : DA := fun ρ S k E => f ρ S (fun d S1 => ∃ ds, frzOf d = some ds ∧ k ds S1) E
/-- for .. in a list, a tuple -/
def wList (f : DE) : DA := fun ρ S k E => f ρ S (fun d S1 => ∃ ds, (d = .lst ds ∨ d = .scr ds) ∧ k ds S1) E
def wTup (f : DE) : DA := fun ρ S k E => f ρ S (fun d S1 => ∃ ds, d = .tup ds ∧ k ds S1) E
theorem di_list {tg : Expr} (C : Cxt X g e W) (h : PE X a (lift g e W f)) : PI X tg a (liftI g e W (wList f)) := (pi_list h).imp fun σ H R ⟨ρ, Hi, S, k, E, i, sl, q, hk, hx⟩ => by
  refine ⟨ρ, Hi, S, _, E, i, sl, q, fun d S1 v H1 Hi1 i1 s1 r1 ⟨ds, hd, q1⟩ => ?_, hx⟩
  rw [C.K]
  rcases hd with hd | hd
  · subst hd
    obtain ⟨p, xs, rfl, h1, h2⟩ := r1
    exact ⟨p, rfl, ⟨xs, SqL.of (i1.ok.sub _ _ h1)⟩, hk ds S1 _ H1 Hi1 i1 s1 (fun e' => walks_list (SqL.of h1) h2) q1⟩
  · subst hd
    obtain ⟨p, xs, rfl, h1, h2⟩ := r1
    exact ⟨p, rfl, ⟨xs, i1.ok.sub.seq h1⟩, hk ds S1 _ H1 Hi1 i1 s1 (fun e' => walks_list h1 h2) q1⟩
theorem di_tup {tg : Expr} (C : Cxt X g e W) (h : PE X a (lift g e W f)) : PI X tg a (liftI g e W (wTup f)) := (pi_tup h).imp fun σ H R ⟨ρ, Hi, S, k, E, i, sl, q, hk, hx⟩ => by
  refine ⟨ρ, Hi, S, _, E, i, sl, q, fun d S1 v H1 Hi1 i1 s1 r1 ⟨ds, hd, q1⟩ => ?_, hx⟩
  rw [C.K]
  subst hd
  obtain ⟨p, xs, rfl, h1, h2⟩ := r1
  exact ⟨p, rfl, ⟨xs, SqT.of (i1.ok.sub _ _ h1)⟩, hk ds S1 _ H1 Hi1 i1 s1 (fun e' => walks_tup (SqT.of h1) h2) q1⟩
/-- for .. in range(n), range(m, n) -/
def rngD (lo : Int) (n : Nat) : List D := (List.range n).map fun (i : Nat) => D.int (lo + i)
def wRng1 (u : DA) : DA := fun ρ S k E => u ρ S (fun ds S1 => ∃ j, ds = [.int j] ∧ -(2 ^ 62) ≤ j ∧ j < 2 ^ 62 ∧ k (rngD 0 j.toNat) S1) E
def wRng2 (u : DA) : DA := fun ρ S k E => u ρ S (fun ds S1 => ∃ i j, ds = [.int i, .int j] ∧ (-(2 ^ 62) ≤ i ∧ i < 2 ^ 62 ∧ -(2 ^ 62) ≤ j ∧ j < 2 ^ 62) ∧ k (rngD i (j - i).toNat) S1) E
theorem di_rng1 {tg : Expr} {p : Pos} (C : Cxt X g e W) (hg : Gl X "range") (hm : g.mg "range" = none) (ha : PA X [a] (liftA g e W u)) (hs : starEach [a] X.env = [(false, eval a X.env)] := by rfl) : PI X tg (.Call (.Name "range" p) [a] [] pos) (liftI g e W (wRng1 u)) :=
  (pi_range1 hg (by rw [C.mg]; exact hm) ha hs).imp fun σ H R ⟨ρ, Hi, S, k, E, i, sl, q, hk, hx⟩ => by
    refine ⟨ρ, Hi, S, _, E, i, sl, q, fun ds S1 vs H1 Hi1 i1 s1 r1 ⟨j, e1, h1, h2, q1⟩ => ?_, hx⟩
    subst e1
    obtain ⟨v, rfl, rv⟩ := Reps.one r1
    have rv : v = .int j := rv
    subst rv
    exact ⟨j, rfl, h1, h2, hk _ S1 _ H1 Hi1 i1 s1 (fun e' => walks_rng) q1⟩
theorem di_rng2 {tg : Expr} {p : Pos} (C : Cxt X g e W) (hg : Gl X "range") (hm : g.mg "range" = none) (ha : PA X [a, b] (liftA g e W u)) (hs : starEach [a, b] X.env = [(false, eval a X.env), (false, eval b X.env)] := by rfl) (hs2 : starEach [b] X.env = [(false, eval b X.env)] := by rfl) :
    PI X tg (.Call (.Name "range" p) [a, b] [] pos) (liftI g e W (wRng2 u)) :=
  (pi_range2 hg (by rw [C.mg]; exact hm) ha hs hs2).imp fun σ H R ⟨ρ, Hi, S, k, E, i, sl, q, hk, hx⟩ => by
    refine ⟨ρ, Hi, S, _, E, i, sl, q, fun ds S1 vs H1 Hi1 i1 s1 r1 ⟨m, n, e1, h1, q1⟩ => ?_, hx⟩
    subst e1
    obtain ⟨v, w, rfl, rv, rw'⟩ := Reps.two r1
    have rv : v = .int m := rv
    have rw' : w = .int n := rw'
    subst rv rw'
    exact ⟨m, n, rfl, h1, hk _ S1 _ H1 Hi1 i1 s1 (fun e' => walks_rng) q1⟩
/-- enumerate(list): pairs -/
def enumD : Nat → List D → List D
  | _, [] => []
  | n, d :: ds => .tup [.int n, d] :: enumD (n + 1) ds
theorem enumD_length : ∀ (ds : List D) (n : Nat), (enumD n ds).length = ds.length
  | [], _ => rfl
  | _ :: ds, n => congrArg (· + 1) (enumD_length ds (n + 1))
theorem enumD_get : ∀ (ds : List D) (n i : Nat) (d : D), (enumD n ds)[i]? = some d → ∃ x, ds[i]? = some x ∧ d = .tup [.int ((n + i : Nat) : Int), x]
  | [], _, _, _, h => by simp [enumD] at h
  | x :: ds, n, 0, d, h => ⟨x, rfl, by simp [enumD] at h; rw [← h]; rfl⟩
  | x :: ds, n, i + 1, d, h => by
    have h : (enumD (n + 1) ds)[i]? = some d := by simpa [enumD] using h
    obtain ⟨y, h1, h2⟩ := enumD_get ds (n + 1) i d h
    exact ⟨y, by simpa using h1, by rw [h2]; congr 4; omega⟩
theorem walks_enum {p : Addr} {xs : List V} {ds : List D} {Hi : Hp} (hq : SqL g.K Hi p xs) (r : Reps g Hi xs ds) : Walks g e (Ite g.K p) Hi (enumD 0 ds) := by
  intro i H2 Hi2 S2 i2 s2
  have q2 := i2.ok.sub.seq (s2.seq hq)
  refine ⟨fun h => ⟨xs, q2, by rw [r.length, ← enumD_length ds 0]; exact h⟩, fun d hd => ?_⟩
  obtain ⟨x, hx, e1⟩ := enumD_get ds 0 i d hd
  obtain ⟨v, h1, h2⟩ := r.get hx
  refine ⟨⟨xs, v, q2, h1⟩, fun y H3 ⟨T, z, e2, hT, e3, y3⟩ => ?_⟩
  have := y3 xs q2
  rw [h1] at this
  cases this
  subst e2 e3 e1
  obtain ⟨o3, x3, s3, _⟩ := i2.ok.new (o := .tup [.int ((i : Nat) : Int), v]) hT
  exact ⟨_, i2.next o3 x3, s3, ⟨T, _, rfl, upd_same, by rw [Nat.zero_add]; rfl, (h2.mono s2).mono s3, trivial⟩, x3⟩
def wEnum (u : DA) : DA := fun ρ S k E => u ρ S (fun ds S1 => ∃ d xs, ds = [d] ∧ (d = .lst xs ∨ d = .scr xs) ∧ k (enumD 0 xs) S1) E
theorem di_enum {elts : List Expr} {kk : Nat} {p tpos : Pos} (C : Cxt X g e W) (hg : Gl X "enumerate") (hm : g.mg "enumerate" = none) (ha : PA X [a] (liftA g e W u)) (hs : starEach [a] X.env = [(false, eval a X.env)] := by rfl) :
    PI X (.Tuple elts kk tpos) (.Call (.Name "enumerate" p) [a] [] pos) (liftI g e W (wEnum u)) :=
  (pi_enum hg (by rw [C.mg]; exact hm) ha hs).imp fun σ H R ⟨ρ, Hi, S, k, E, i, sl, q, hk, hx⟩ => by
    refine ⟨ρ, Hi, S, _, E, i, sl, q, fun ds S1 vs H1 Hi1 i1 s1 r1 ⟨d, xs, e1, hd, q1⟩ => ?_, hx⟩
    subst e1
    obtain ⟨v, rfl, rv⟩ := Reps.one r1
    rw [C.K]
    rcases hd with hd | hd
    · subst hd
      obtain ⟨p, us, rfl, h1, h2⟩ := rv
      exact ⟨p, us, rfl, SqL.of (i1.ok.sub _ _ h1), hk _ S1 _ H1 Hi1 i1 s1 (fun e' => walks_enum (SqL.of h1) h2) q1⟩
    · subst hd
      obtain ⟨p, us, rfl, h1, h2⟩ := rv
      exact ⟨p, us, rfl, i1.ok.sub.seq h1, hk _ S1 _ H1 Hi1 i1 s1 (fun e' => walks_enum h1 h2) q1⟩
/-- zip(list, list), zip(tuple, tuple) -/
def zipD : List D → List D → List D
  | x :: xs, y :: ys => .tup [x, y] :: zipD xs ys
  | _, _ => []
theorem zipD_get : ∀ (xs ys : List D) (i : Nat) (d : D), (zipD xs ys)[i]? = some d → ∃ x y, xs[i]? = some x ∧ ys[i]? = some y ∧ d = .tup [x, y]
  | [], ys, _, _, h => by simp [zipD] at h
  | x :: xs, [], _, _, h => by simp [zipD] at h
  | x :: xs, y :: ys, 0, d, h => ⟨x, y, rfl, rfl, by simp [zipD] at h; exact h.symm⟩
  | x :: xs, y :: ys, i + 1, d, h => by
    have h : (zipD xs ys)[i]? = some d := by simpa [zipD] using h
    obtain ⟨a, b, h1, h2, h3⟩ := zipD_get xs ys i d h
    exact ⟨a, b, by simpa using h1, by simpa using h2, h3⟩
theorem zipD_length : ∀ (xs ys : List D), (zipD xs ys).length = min xs.length ys.length
  | [], ys => by simp [zipD]
  | x :: xs, [] => by simp [zipD]
  | x :: xs, y :: ys => by simp [zipD, zipD_length xs ys]
theorem walks_zipL {p q : Addr} {xs ys : List V} {ds es : List D} {Hi : Hp} (hp : SqL g.K Hi p xs) (hq : SqL g.K Hi q ys) (r : Reps g Hi xs ds) (r' : Reps g Hi ys es) : Walks g e (Itz g.K p q) Hi (zipD ds es) := by
  intro i H2 Hi2 S2 i2 s2
  have q1 := i2.ok.sub.seq (s2.seq hp)
  have q2 := i2.ok.sub.seq (s2.seq hq)
  refine ⟨fun h => ⟨xs, ys, q1, q2, by rw [zipD_length] at h; rw [r.length, r'.length]; omega⟩, fun d hd => ?_⟩
  obtain ⟨x, y, hx, hy, e1⟩ := zipD_get ds es i d hd
  obtain ⟨v, h1, h2⟩ := r.get hx
  obtain ⟨w, h3, h4⟩ := r'.get hy
  refine ⟨⟨xs, ys, v, w, q1, q2, h1, h3⟩, fun z H3 ⟨T, z1, z2, e2, hT, e3, y1, y2⟩ => ?_⟩
  have a1 := y1 xs q1
  have a2 := y2 ys q2
  rw [h1] at a1
  rw [h3] at a2
  cases a1; cases a2
  subst e2 e3 e1
  obtain ⟨o3, x3, s3, _⟩ := i2.ok.new (o := .tup [v, w]) hT
  exact ⟨_, i2.next o3 x3, s3, ⟨T, _, rfl, upd_same, (h2.mono s2).mono s3, (h4.mono s2).mono s3, trivial⟩, x3⟩
theorem walks_zipT {p q : Addr} {xs ys : List V} {ds es : List D} {Hi : Hp} (hp : SqT g.K Hi p xs) (hq : SqT g.K Hi q ys) (r : Reps g Hi xs ds) (r' : Reps g Hi ys es) : Walks g e (RZ.ItzT g.K p q) Hi (zipD ds es) := by
  intro i H2 Hi2 S2 i2 s2
  have q1 := Same.tup i2.ok.sub (Same.tup s2 hp)
  have q2 := Same.tup i2.ok.sub (Same.tup s2 hq)
  refine ⟨fun h => ⟨xs, ys, q1, q2, by rw [zipD_length] at h; rw [r.length, r'.length]; omega⟩, fun d hd => ?_⟩
  obtain ⟨x, y, hx, hy, e1⟩ := zipD_get ds es i d hd
  obtain ⟨v, h1, h2⟩ := r.get hx
  obtain ⟨w, h3, h4⟩ := r'.get hy
  refine ⟨⟨xs, ys, v, w, q1, q2, h1, h3⟩, fun z H3 ⟨T, z1, z2, e2, hT, e3, y1, y2⟩ => ?_⟩
  have a1 := y1 xs q1
  have a2 := y2 ys q2
  rw [h1] at a1
  rw [h3] at a2
  cases a1; cases a2
  subst e2 e3 e1
  obtain ⟨o3, x3, s3, _⟩ := i2.ok.new (o := .tup [v, w]) hT
  exact ⟨_, i2.next o3 x3, s3, ⟨T, _, rfl, upd_same, (h2.mono s2).mono s3, (h4.mono s2).mono s3, trivial⟩, x3⟩
def wZip (u : DA) : DA := fun ρ S k E => u ρ S (fun ds S1 => ∃ xs ys, (ds = [.lst xs, .lst ys] ∨ ds = [.tup xs, .tup ys]) ∧ k (zipD xs ys) S1) E
theorem di_zip {elts : List Expr} {kk : Nat} {p tpos : Pos} (C : Cxt X g e W) (hg : Gl X "zip") (hm : g.mg "zip" = none) (ha : PA X [a, b] (liftA g e W u)) (hs : starEach [a, b] X.env = (false, eval a X.env) :: starEach [b] X.env := by rfl)
    (hpl : (backTo pos (starEach [b] X.env)).any (·.1) = false := by rfl) : PI X (.Tuple elts kk tpos) (.Call (.Name "zip" p) [a, b] [] pos) (liftI g e W (wZip u)) :=
  (RZ.pi_zipA hg (by rw [C.mg]; exact hm) ha hs hpl).imp fun σ H R ⟨ρ, Hi, S, k, E, i, sl, q, hk, hx⟩ => by
    refine ⟨ρ, Hi, S, _, E, i, sl, q, fun ds S1 vs H1 Hi1 i1 s1 r1 ⟨xs, ys, e1, q1⟩ => ?_, hx⟩
    rw [C.K]
    rcases e1 with e1 | e1
    · subst e1
      obtain ⟨v, w, rfl, ⟨p, us, rfl, h1, h2⟩, ⟨q, ws, rfl, h3, h4⟩⟩ := Reps.two r1
      exact ⟨p, q, us, ws, rfl, .inl ⟨SqL.of (i1.ok.sub _ _ h1), SqL.of (i1.ok.sub _ _ h3), hk _ S1 _ H1 Hi1 i1 s1 (fun e' => walks_zipL (SqL.of h1) (SqL.of h3) h2 h4) q1⟩⟩
    · subst e1
      obtain ⟨v, w, rfl, ⟨p, us, rfl, h1, h2⟩, ⟨q, ws, rfl, h3, h4⟩⟩ := Reps.two r1
      exact ⟨p, q, us, ws, rfl, .inr ⟨SqT.of (i1.ok.sub _ _ h1), SqT.of (i1.ok.sub _ _ h3), hk _ S1 _ H1 Hi1 i1 s1 (fun e' => walks_zipT (SqT.of h1) (SqT.of h3) h2 h4) q1⟩⟩

/-! ### for -/
def dForL (t : DG) (body : DS) : List D → DS
  | [] => fun ρ S D => D.nx ρ S
  | d :: ds => fun ρ S D => t d ρ S (fun ρ1 S1 => body ρ1 S1 { D with nx := fun ρ2 S2 => dForL t body ds ρ2 S2 D, ct := fun ρ2 S2 => dForL t body ds ρ2 S2 D, bk := D.nx }) fun _ _ _ => False
def dFor (it : DA) (t : DG) (body : DS) : DS := fun ρ S D => it ρ S (fun ds S1 => dForL t body ds ρ S1 D) (fun c fs S' => D.xe c fs ρ S')
theorem ds_for {tg iter : Expr} {bs : List Stmt} {it : DA} {t : DG} {body : DS} (C : Cxt X g e W) (hp : PassesOwn (model X.prog X.w) X.A X.env X.xe) (hi : PI X tg iter (liftI g e W it)) (ht : PG X tg (liftG g e W t)) (hb : PSs X bs (liftS g e W body))
    (hs : ∀ x, foldedSetIterable iter X.env x = pure x := by intro _; rfl) : PS X (.For tg iter bs [] pos) (liftS g e W (dFor it t body)) :=
  (ps_for hp C.calm hi ht hb hs).imp fun D σ H ⟨ρ, Hi, S, DD, i, sl, q, ok⟩ => by
    refine ⟨ρ, Hi, S, _, _, i, sl, q, fun ds S1 J H1 Hi1 i1 s1 wk q1 => ?_, ok.x sl⟩
    refine ⟨fun n m σ2 H2 => ∃ ρ2 Hi2 S2, m = ds.length - n ∧ n ≤ ds.length ∧ Is g e H2 Hi2 S2 ∧ Same Hi1 Hi2 ∧ Slots g Hi2 σ2 ρ2 ∧ dForL t body (ds.drop n) ρ2 S2 DD,
      ⟨ds.length, ρ, Hi1, S1, by simp, Nat.zero_le _, i1, Same.refl _, sl.mono s1, q1⟩, ?_⟩
    rintro n m σ2 H2 ⟨ρ2, Hi2, S2, rfl, hn, i2, s2, sl2, q2⟩
    obtain ⟨w1, w2⟩ := wk e n H2 Hi2 S2 i2 s2
    by_cases hlt : n < ds.length
    · have hd : ds.drop n = ds[n] :: ds.drop (n + 1) := List.drop_eq_getElem_cons hlt
      rw [hd] at q2
      obtain ⟨go, yl⟩ := w2 ds[n] (List.getElem?_eq_getElem hlt)
      refine .inr ⟨go, fun σ3 H3 => ∃ ρ3 Hi3 S3, Is g e H3 Hi3 S3 ∧ Same Hi1 Hi3 ∧ Slots g Hi3 σ3 ρ3 ∧ dForL t body (ds.drop (n + 1)) ρ3 S3 DD, fun σ3 H3 ⟨ρ3, Hi3, S3, i3, s3, sl3, q3⟩ => ⟨ds.length - (n + 1), by omega, ρ3, Hi3, S3, rfl, hlt, i3, s3, sl3, q3⟩, fun x H3 hy => ?_⟩
      obtain ⟨Hi3, i3, s3, r3, _⟩ := yl x H3 hy
      refine ⟨ds[n], ρ2, Hi3, S2, _, _, i3, sl2.mono s3, r3, q2, fun ρ4 S4 σ4 H4 Hi4 i4 s4 sl4 q4 => ?_, fun _ _ _ _ _ _ _ _ _ _ _ z => z.elim⟩
      have s14 : Same Hi1 Hi4 := (s2.trans s3).trans s4
      have ok4 := ok.mono (s1.trans s14)
      refine ⟨ρ4, Hi4, S4, _, i4, sl4, q4, ⟨fun ρ5 S5 σ5 H5 Hi5 i5 s5 sl5 q5 => ?_, ok4.rt, ?_, fun ρ5 S5 σ5 H5 Hi5 i5 s5 sl5 q5 => ?_, ok4.xe⟩⟩
      · exact ⟨ρ5, Hi5, S5, i5, s14.trans s5, sl5, q5⟩
      · exact ok4.nx
      · exact ⟨ρ5, Hi5, S5, i5, s14.trans s5, sl5, q5⟩
    · have en : n = ds.length := by omega
      subst en
      rw [List.drop_length] at q2
      exact .inl ⟨w1 (Nat.le_refl _), ok.nx ρ2 S2 σ2 H2 Hi2 i2 (s1.trans s2) sl2 q2⟩
/-! ### while -/
def dWhN (c : DT) (body : DS) : Nat → DS
  | 0 => fun _ _ _ => False
  | n + 1 => fun ρ S D => c ρ S (fun b S1 => if b = true then body ρ S1 { D with nx := fun ρ2 S2 => dWhN c body n ρ2 S2 D, ct := fun ρ2 S2 => dWhN c body n ρ2 S2 D, bk := D.nx } else D.nx ρ S1) (fun c fs S' => D.xe c fs ρ S')
def dWh (c : DT) (body : DS) : DS := fun ρ S D => ∃ n, dWhN c body n ρ S D
theorem ds_while {ce : Expr} {bs : List Stmt} {c : DT} {body : DS} (hp : PassesOwn (model X.prog X.w) X.A X.env X.xe) (hc : PT X ce (liftT g e W c)) (hb : PSs X bs (liftS g e W body)) : PS X (.While ce bs [] pos) (liftS g e W (dWh c body)) :=
  (ps_while hp hc hb).imp fun D σ H ⟨ρ, Hi, S, DD, i, sl, ⟨n0, q⟩, ok⟩ => by
    refine ⟨fun m σ2 H2 => ∃ ρ2 Hi2 S2, Is g e H2 Hi2 S2 ∧ Same Hi Hi2 ∧ Slots g Hi2 σ2 ρ2 ∧ dWhN c body m ρ2 S2 DD, ⟨n0, ρ, Hi, S, i, Same.refl _, sl, q⟩, ?_⟩
    rintro m σ2 H2 ⟨ρ2, Hi2, S2, i2, s2, sl2, q2⟩
    cases m with
    | zero => exact q2.elim
    | succ m =>
      have ok2 := ok.mono s2
      refine ⟨ρ2, Hi2, S2, _, _, i2, sl2, q2, fun b S3 H3 Hi3 i3 s3 q3 => ?_, ok2.x sl2⟩
      have ok3 := ok2.mono s3
      cases b with
      | false => exact ok3.nx ρ2 S3 σ2 H3 Hi3 i3 (Same.refl _) (sl2.mono s3) q3
      | true =>
        refine ⟨fun σ4 H4 => ∃ ρ4 Hi4 S4, Is g e H4 Hi4 S4 ∧ Same Hi Hi4 ∧ Slots g Hi4 σ4 ρ4 ∧ dWhN c body m ρ4 S4 DD, fun σ4 H4 z => ⟨m, Nat.lt_succ_self m, z⟩, ?_⟩
        refine ⟨ρ2, Hi3, S3, _, i3, sl2.mono s3, q3, ⟨fun ρ5 S5 σ5 H5 Hi5 i5 s5 sl5 q5 => ?_, ok3.rt, ok3.nx, fun ρ5 S5 σ5 H5 Hi5 i5 s5 sl5 q5 => ?_, ok3.xe⟩⟩
        · exact ⟨ρ5, Hi5, S5, i5, (s2.trans s3).trans s5, sl5, q5⟩
        · exact ⟨ρ5, Hi5, S5, i5, (s2.trans s3).trans s5, sl5, q5⟩
end
end DL
end
/-! ## DL6 -/
section
set_option Elab.async false
set_option linter.all false
set_option maxRecDepth 100000
set_option maxHeartbeats 2000000
namespace DL
open PySem PySem.Spec PyProof.Rows L2

def wipeE (ρ : Env) : List Nat → Env
  | [] => ρ
  | v :: vs => (wipeE ρ vs).set v none
theorem slots_wipe {g : Gx} {Hi : Hp} {σ : L2.St} {ρ : Env} (sl : Slots g Hi σ ρ) : ∀ vs : List Nat, Slots g Hi (wipe σ vs) (wipeE ρ vs)
  | [] => sl
  | v :: vs => by
    obtain ⟨h1, h2⟩ := slots_wipe sl vs
    refine ⟨by unfold wipe wipeE; simp [h1], fun i d q => ?_⟩
    unfold wipeE at q
    unfold wipe
    by_cases c : v = i
    · subst c
      rw [List.getElem?_set] at q
      simp only [if_true] at q
      split at q <;> cases q
    · rw [List.getElem?_set_ne c] at q ⊢
      exact h2 i d q
theorem wipe_set {σ : L2.St} {i : Nat} {x : Option V} : ∀ {vs : List Nat}, (i ∈ vs → wipe (σ.set i x) vs = wipe σ vs) ∧ (i ∉ vs → wipe (σ.set i x) vs = (wipe σ vs).set i x)
  | [] => ⟨fun h => (List.not_mem_nil h).elim, fun _ => rfl⟩
  | v :: vs => by
    obtain ⟨h1, h2⟩ := wipe_set (σ := σ) (i := i) (x := x) (vs := vs)
    by_cases c : i ∈ vs
    · refine ⟨fun _ => ?_, fun h => (h (List.mem_cons_of_mem _ c)).elim⟩
      unfold wipe
      rw [h1 c]
    · by_cases d : i = v
      · subst d
        refine ⟨fun _ => ?_, fun h => (h List.mem_cons_self).elim⟩
        unfold wipe
        rw [h2 c, List.set_set]
      · refine ⟨fun h => ?_, fun _ => ?_⟩
        · rcases List.mem_cons.mp h with h | h
          · exact (d h).elim
          · exact (c h).elim
        · unfold wipe
          rw [h2 c, List.set_comm _ _ d]

section
variable {X : Cx} {g : Gx} {e : En} {W : WX} {a b c : Expr} {pos : Pos}
/-- no exception -/
abbrev W0 : WX := fun _ _ _ _ => False
theorem Cxt.blk {s : Shared} {H : Hp} {scope : Scope} {env : PySem.Env} {fp : List Addr} {e' : En} (C : Cxt X g e W) : Cxt (X.blk s H scope env fp) g e' W0 := ⟨C.K, C.mg, C.calm, C.gd, takes0⟩
/-- targets that touch the slots vs alone -/
def liftGw (g : Gx) (e : En) (vs : List Nat) (t : DG) : TG := fun v σ H Q => ∃ d ρ Hi S k, Is g e H Hi S ∧ Slots g Hi σ ρ ∧ Rep g Hi v d ∧ t d ρ S k (fun _ _ _ => False) ∧
  (∀ ρ' S' σ' H' Hi', Is g e H' Hi' S' → Same Hi Hi' → Slots g Hi' σ' ρ' → wipe σ' vs = wipe σ vs → k ρ' S' → Q σ' H')
def liftGsw (g : Gx) (e : En) (vs : List Nat) (t : DGs) : TGs := fun xs σ H Q => ∃ ds ρ Hi S k, Is g e H Hi S ∧ Slots g Hi σ ρ ∧ Reps g Hi xs ds ∧ t ds ρ S k (fun _ _ _ => False) ∧
  (∀ ρ' S' σ' H' Hi', Is g e H' Hi' S' → Same Hi Hi' → Slots g Hi' σ' ρ' → wipe σ' vs = wipe σ vs → k ρ' S' → Q σ' H')
theorem dw_name {i : Nat} {x : Str} {vs : List Nat} (hN : X.N.Nodup) (hi : X.N[i]? = some x) (hx : Loc X.env.scope x) (hv : i ∈ vs) (hf : X.fn x = true ∨ X.env.scope.names.lookup x = some .local := by first | exact .inl rfl | exact .inr rfl | assumption) : PG X (.Name x pos) (liftGw g e vs (dgN i)) :=
  (pg_name hN hi hx hf).imp fun v σ H Q ⟨d, ρ, Hi, S, k, i', sl, r, q, hk⟩ => hk _ S _ H Hi i' (Same.refl _) (sl.set r) (wipe_set.1 hv) q
theorem dws_nil {vs : List Nat} : PGs X [] (liftGsw g e vs dgsN) := pgs_nil.imp fun xs σ H Q ⟨ds, ρ, Hi, S, k, i, sl, r, ⟨e1, q⟩, hk⟩ => by
  subst e1
  match xs, r with
  | [], _ => exact ⟨rfl, hk _ S _ H Hi i (Same.refl _) sl rfl q⟩
theorem dws_cons {es : List Expr} {t : DG} {u : DGs} {vs : List Nat} (h1 : PG X a (liftGw g e vs t)) (h2 : PGs X es (liftGsw g e vs u)) (hs : (assignEach (a :: es) X.env).map (·.2) = assign a X.env :: (assignEach es X.env).map (·.2) := by rfl) : PGs X (a :: es) (liftGsw g e vs (dgsC t u)) :=
  (pgs_cons h1 h2 hs).imp fun xs σ H Q ⟨ds, ρ, Hi, S, k, i, sl, r, ⟨d, ds', e1, q⟩, hk⟩ => by
    subst e1
    match xs, r with
    | v :: xs, ⟨r1, r2⟩ =>
      refine ⟨v, xs, rfl, d, ρ, Hi, S, _, i, sl, r1, q, fun ρ' S' σ' H' Hi' i' s' sl' w' q' => ?_⟩
      exact ⟨ds', ρ', Hi', S', k, i', sl', r2.mono s', q', fun ρ2 S2 σ2 H2 Hi2 i2 s2 sl2 w2 => hk ρ2 S2 σ2 H2 Hi2 i2 (s'.trans s2) sl2 (w2.trans w')⟩
theorem dw_tup {es : List Expr} {kk n : Nat} {t : DGs} {vs : List Nat} (C : Cxt X g e W) (h : PGs X es (liftGsw g e vs t)) (hn : (assignEach es X.env).length = n := by rfl) (hst : (assignEach es X.env).findIdx? (·.1) = none := by rfl) : PG X (.Tuple es kk pos) (liftGw g e vs (dgT n t)) :=
  (pg_tup C.calm h hn hst).imp fun v σ H Q ⟨d, ρ, Hi, S, k, i, sl, r, ⟨ds, e1, hl, q⟩, hk⟩ => by
    subst e1
    obtain ⟨p, xs, rfl, h1, h2⟩ := r
    exact ⟨p, xs, rfl, SqT.of (i.ok.sub _ _ h1), by rw [h2.length]; exact hl, ds, ρ, Hi, S, k, i, sl, h2, q, hk⟩

/-! ### list comprehensions -/
def noX : X1 := fun _ _ _ => False
def dLcL (t : DG) (ts : DT) (el : DE) (ρw : Env) : List D → List D → Sto → (List D → Sto → Prop) → Prop
  | [], acc, S, k => k acc S
  | d :: ds, acc, S, k => t d ρw S (fun ρ1 S1 => ts ρ1 S1 (fun b S2 => if b = true then el ρ1 S2 (fun y S3 => dLcL t ts el ρw ds (acc ++ [y]) S3 k) noX else dLcL t ts el ρw ds acc S2 k) noX) noX
def dLc (it : DA) (t : DG) (ts : DT) (el : DE) (vs : List Nat) : DA := fun ρ S k E => it ρ S (fun ds S1 => sz ds.length ∧ dLcL t ts el (wipeE ρ vs) ds [] S1 k) E
def dYes : DT := fun _ S k _ => k true S
/-- a foreign object is laid, changed -/
theorem Is.frg {H Hi : Hp} {S : Sto} {p : Addr} {o : HO} (i : Is g e H Hi S) (n0 : e.H p = none) (n1 : Hi p = none) (n2 : S p = none) (nt : ∀ ps, H p ≠ some (.tbl ps)) : Is g e (upd H p o) Hi S := by
  refine ⟨⟨fun b u q => ?_, fun b c q => ?_, i.ok.tab.upd nt⟩, ⟨i.ext.imm, fun b u q z t => ?_, i.ext.fre, fun b u q => ?_⟩⟩
  · rw [upd_ne (ne_of_none q n1)]; exact i.ok.sub b u q
  · have ne : b ≠ p := fun z => by rw [z, n2] at q; cases q
    obtain ⟨h1, h2⟩ := i.ok.cell b c q
    exact ⟨h1, h2.mono (upd_ne ne) (Same.refl _)⟩
  · rw [upd_ne (ne_of_none q n0)]; exact i.ext.frm b u q z t
  · by_cases hb : b = p
    · subst hb; exact ⟨_, upd_same⟩
    · rw [upd_ne hb]; exact i.ext.kp b u q
theorem Is.n0 {H Hi : Hp} {S : Sto} {p : Addr} (i : Is g e H Hi S) (n : H p = none) : e.H p = none ∧ Hi p = none ∧ S p = none := by
  refine ⟨?_, ?_, ?_⟩
  · cases q : e.H p with
    | none => rfl
    | some u => obtain ⟨o, h⟩ := i.ext.kp p u q; rw [n] at h; cases h
  · cases q : Hi p with
    | none => rfl
    | some u => rw [i.ok.sub p u q] at n; cases n
  · cases q : S p with
    | none => rfl
    | some u => obtain ⟨_, h⟩ := (i.ok.cell p u q).2.some; rw [n] at h; cases h
/-- a foreign list comes into the store -/
theorem Is.take {H Hi : Hp} {S : Sto} {p : Addr} {xs : List V} {ds : List D} (i : Is g e H Hi S) (n0 : e.H p = none) (n1 : Hi p = none) (h : H p = some (.lst xs)) (r : Reps g Hi xs ds) : Is g e H Hi (S.set p (.lst ds)) := by
  refine ⟨⟨i.ok.sub, fun b c q => ?_, i.ok.tab⟩, ⟨i.ext.imm, i.ext.frm, fun b u q z1 z2 => ?_, i.ext.kp⟩⟩
  · by_cases hb : b = p
    · subst hb; rw [Sto.set_same] at q; cases q; exact ⟨n1, xs, h, r⟩
    · rw [Sto.set_ne hb] at q; exact i.ok.cell b c q
  · rw [Sto.set_ne (ne_of_none q n0)]; exact i.ext.fre b u q z1 z2
def liftxGw (g : Gx) (vs : List Nat) (t : DG) : TG := fun v σ H Q => ∃ e, liftGw g e vs t v σ H Q
theorem dw_any {t : DG} {vs : List Nat} (h : ∀ e, PG X a (liftGw g e vs t)) : PG X a (liftxGw g vs t) := ⟨fun pins s σ H v u Q I r ⟨e, q⟩ => (h e).run pins s σ H v u Q I r q⟩
theorem lc_imp {it : DA} {t : DG} {ts : DT} {el : DE} {vs : List Nat} : ∀ σ H Q, liftM g e W (dLc it t ts el vs) σ H Q → tLc (liftI g e W it) (liftxGw g vs t) (liftxT g W0 ts) (liftx g W0 el) vs σ H Q := by
  rintro σ H Q ⟨ρ, Hi, S, k, E, i, sl, q, hk, hx⟩
  refine ⟨ρ, Hi, S, _, E, i, sl, q, fun ds S1 J H1 Hi1 i1 s1 wk ⟨hz, q1⟩ => ?_, hx⟩
  intro L hL
  obtain ⟨n0, n1, n2⟩ := i1.n0 hL
  refine ⟨fun n m H2 => ∃ Hi2 S2 acc vacc, m = ds.length - n ∧ n ≤ ds.length ∧ Is g e H2 Hi2 S2 ∧ Same Hi1 Hi2 ∧ H2 L = some (.lst vacc) ∧ Hi2 L = none ∧ S2 L = none ∧ Reps g Hi2 vacc acc ∧ acc.length ≤ n ∧ dLcL t ts el (wipeE ρ vs) (ds.drop n) acc S2 k,
    ⟨ds.length, Hi1, S1, [], [], by simp, Nat.zero_le _, i1.frg n0 n1 n2 (noTbl hL), Same.refl _, upd_same, n1, n2, trivial, Nat.le_refl _, q1⟩, ?_⟩
  rintro n m H2 ⟨Hi2, S2, acc, vacc, rfl, hn, i2, s2, hL2, nh, ns, ra, hacc, q2⟩
  by_cases hlt : n < ds.length
  · have hd : ds.drop n = ds[n] :: ds.drop (n + 1) := List.drop_eq_getElem_cons hlt
    rw [hd] at q2
    -- this turn's own entry
    obtain ⟨e2, he2⟩ : ∃ e2 : En, e2 = ⟨H2, Hi2, S2, i2.ok.sub⟩ := ⟨_, rfl⟩
    have j2 : Is g e2 H2 Hi2 S2 := by rw [he2]; exact ⟨i2.ok, Ext.refl⟩
    obtain ⟨_, w2⟩ := wk e2 n H2 Hi2 S2 j2 s2
    obtain ⟨go, yl⟩ := w2 ds[n] (List.getElem?_eq_getElem hlt)
    have back : ∀ {H6 Hi6 : Hp} {S6 : Sto}, Is g e2 H6 Hi6 S6 → Is g e H6 Hi6 S6 ∧ Same Hi2 Hi6 ∧ H6 L = some (.lst vacc) ∧ Hi6 L = none ∧ S6 L = none := fun {H6 Hi6 S6} j6 => by
      rw [he2] at j6
      obtain ⟨f1, f2⟩ := j6.ext.fre L _ hL2 nh ns
      exact ⟨i2.next j6.ok j6.ext, j6.ext.imm, j6.ext.frm L _ hL2 ns (fun _ z => nomatch z), f1, f2⟩
    refine .inr ⟨go, fun H3 => ∃ Hi3 S3 acc3 vacc3, Is g e H3 Hi3 S3 ∧ Same Hi1 Hi3 ∧ H3 L = some (.lst vacc3) ∧ Hi3 L = none ∧ S3 L = none ∧ Reps g Hi3 vacc3 acc3 ∧ acc3.length ≤ n + 1 ∧ dLcL t ts el (wipeE ρ vs) (ds.drop (n + 1)) acc3 S3 k,
      fun H3 ⟨Hi3, S3, acc3, vacc3, z⟩ => ⟨ds.length - (n + 1), by omega, Hi3, S3, acc3, vacc3, rfl, hlt, z⟩, fun x H3 hy => ?_⟩
    obtain ⟨Hi3, j3, s3, r3, _⟩ := yl x H3 hy
    refine ⟨e2, ds[n], wipeE ρ vs, Hi3, S2, _, j3, (slots_wipe sl vs).mono ((s1.trans s2).trans s3), r3, q2, fun ρ4 S4 σ4 H4 Hi4 j4 s4 sl4 w4 q4 => ?_⟩
    refine ⟨by rw [w4]; exact wipe_wipe, ?_⟩
    refine ⟨e2, ρ4, Hi4, S4, _, noX, j4, sl4, q4, fun b S5 H5 Hi5 j5 s5 q5 => ?_, fun _ _ _ _ _ _ _ _ _ _ z => z.elim⟩
    cases b with
    | false =>
      obtain ⟨i6, s6, l6, h6, z6⟩ := back j5
      exact ⟨Hi5, S5, acc, vacc, i6, s2.trans s6, l6, h6, z6, ra.mono s6, Nat.le_succ_of_le hacc, q5⟩
    | true =>
      refine ⟨e2, ρ4, Hi5, S5, _, noX, j5, sl4.mono s5, q5, fun y S6 v H6 Hi6 j6 s6 r6 q6 => ?_, fun _ _ _ _ _ _ _ _ _ _ z => z.elim⟩
      obtain ⟨i7, s7, l7, h7, z7⟩ := back j6
      have hl : vacc.length = acc.length := ra.length
      refine ⟨vacc, l7, ?_, Hi6, S6, acc ++ [y], vacc ++ [v], i7.frg n0 h7 z7 (by rw [l7]; intro ps z; cases z), s2.trans s7, upd_same, h7, z7, (ra.mono s7).append ⟨r6, trivial⟩, by rw [List.length_append, List.length_singleton]; omega, q6⟩
      have hz' : ds.length ≤ sizeLine := hz
      omega
  · have en : n = ds.length := by omega
    subst en
    rw [List.drop_length] at q2
    obtain ⟨w1, _⟩ := wk e ds.length H2 Hi2 S2 i2 s2
    exact .inl ⟨w1 (Nat.le_refl _), hk acc S2 L H2 Hi2 ns (i2.take n0 nh hL2 ra) (s1.trans s2) q2⟩
where
  wipe_wipe {σ : L2.St} {vs : List Nat} : wipe (wipe σ vs) vs = wipe σ vs := by
    have h : ∀ (us : List Nat), (∀ u ∈ us, u ∈ vs) → wipe (wipe σ us) vs = wipe σ vs := by
      intro us
      induction us with
      | nil => intro _; rfl
      | cons u us ih =>
        intro hu
        show wipe ((wipe σ us).set u none) vs = _
        rw [wipe_set.1 (hu u List.mem_cons_self)]
        exact ih fun x hx => hu x (List.mem_cons_of_mem _ hx)
    exact h vs fun _ h => h
def liftTs (X : Cx) (g : Gx) (e : En) (ifs : List Expr) (ts : DT) : Prop := PTs X ifs (liftT g e W0 ts)
theorem dts_nil : PTs X [] (liftT g e W0 dYes) := ⟨fun pins s σ H Q I ⟨ρ, Hi, S, k, E, i, sl, q, hk, hx⟩ => pts_nil.run pins s σ H Q I (hk true S H Hi i (Same.refl _) q)⟩
theorem dts_one {ts : DT} (h : PT X c (liftT g e W0 ts)) : PTs X [c] (liftT g e W0 ts) := pts_one h
theorem dts_any {ifs : List Expr} {ts : DT} (h : ∀ e, PTs X ifs (liftT g e W0 ts)) : PTs X ifs (liftxT g W0 ts) := ⟨fun pins s σ H Q I ⟨e, q⟩ => (h e).run pins s σ H Q I q⟩
section
variable {elt tg iter : Expr} {ifs : List Expr} {scope : Scope} {own : List (Str × Nat)} {it : DA} {t : DG} {ts : DT} {el : DE}
/-- what is told of a block -/
structure BlkD (X : Cx) (g : Gx) (scope : Scope) (own : List (Str × Nat)) (tg elt : Expr) (ifs : List Expr) (t : DG) (ts : DT) (el : DE) : Prop where
  ok : BlkOk X.N X.env.scope scope own
  tg : ∀ (s : Shared) (H : Hp) (C : Addr) (cl : List (Str × Addr)) (fp : List Addr) (e' : En), PG (X.blk s H scope (compEnvC scope cl C X.env) fp) tg (liftGw g e' (own.map (·.2)) t)
  ts : ∀ (s : Shared) (H : Hp) (C : Addr) (cl : List (Str × Addr)) (fp : List Addr) (e' : En), PTs (X.blk s H scope (compEnvC scope cl C X.env) fp) ifs (liftT g e' W0 ts)
  el : ∀ (s : Shared) (H : Hp) (C : Addr) (cl : List (Str × Addr)) (fp : List Addr) (e' : En), PE (X.blk s H scope (compEnvC scope cl C X.env) fp) elt (lift g e' W0 el)
theorem dm_lc (C : Cxt X g e W) (hN : X.N.Nodup) (hi : PI X tg iter (liftI g e W it)) (B : BlkD X g scope own tg elt ifs t ts el) (hs : ∀ x, foldedSetIterable iter X.env x = pure x := by intro _; rfl) :
    PE X (.ListComp elt [⟨tg, iter, ifs, 0⟩] scope pos) (liftM g e W (dLc it t ts el (own.map (·.2)))) :=
  (pe_lc C.calm hN hi B.ok (fun s H C cl fp => dw_any (B.tg s H C cl fp)) (fun s H C cl fp => dts_any (B.ts s H C cl fp)) (fun s H C cl fp => de_any (B.el s H C cl fp)) hs).imp lc_imp
theorem frz_imp {u : DA} {te : TE} (m : ∀ σ H Q, liftM g e W u σ H Q → te σ H Q) : ∀ σ H Q, lift g e W (dFrz u) σ H Q → te σ H Q := fun σ H Q ⟨ρ, Hi, S, k, E, i, sl, q, hk, hx⟩ => by
  refine m σ H Q ⟨ρ, Hi, S, _, E, i, sl, q, fun ds S1 p H1 Hi1 n1 i1 s1 q1 => ?_, hx⟩
  obtain ⟨o, ho, hp, ⟨xs, hc, rs⟩, s2, k2, x2⟩ := i1.ok.freeze (p := p) (c := .lst ds) Sto.set_same
  rw [set_del n1] at k2 x2
  rw [hc] at ho
  cases ho
  exact hk (.lst ds) S1 (.ref p) H1 _ (i1.next k2 x2) (s1.trans s2) ⟨p, xs, rfl, upd_same, rs.mono s2⟩ q1
theorem mut_imp {u : DA} {te : TE} (m : ∀ σ H Q, liftM g e W u σ H Q → te σ H Q) : ∀ σ H Q, lift g e W (dMut u) σ H Q → te σ H Q := fun σ H Q ⟨ρ, Hi, S, k, E, i, sl, q, hk, hx⟩ =>
  m σ H Q ⟨ρ, Hi, S, _, E, i, sl, q, fun ds S1 p H1 Hi1 n1 i1 s1 q1 => hk (.mu p) _ (.ref p) H1 Hi1 i1 s1 rfl (q1 p n1), hx⟩
theorem set_imp {f : DE} {te : TE} {i : Nat} (m : ∀ σ H Q, lift g e W f σ H Q → te σ H Q) : ∀ D σ H, liftS g e W (dSet i f) D σ H → tAsg te (gName i) D σ H := fun D σ H ⟨ρ, Hi, S, DD, i', sl, q, ok⟩ =>
  m σ H _ ⟨ρ, Hi, S, _, _, i', sl, q, fun d S1 v H1 Hi1 i1 s1 r1 q1 => ok.nx _ S1 _ H1 Hi1 i1 s1 ((sl.mono s1).set r1) q1, ok.x sl⟩
/-- name = [..]: it changes no more; it may change -/
theorem ds_setLcF {i : Nat} {y : Str} {py spos : Pos} (C : Cxt X g e W) (hN : X.N.Nodup) (hy : X.N[i]? = some y) (hyl : X.env.scope.names.lookup y = some .local) (hsw : swapsWith (.ListComp elt [⟨tg, iter, ifs, 0⟩] scope pos) (some (.Name y py)) spos.line X.env = pure true)
    (hi : PI X tg iter (liftI g e W it)) (B : BlkD X g scope own tg elt ifs t ts el) (hs : ∀ x, foldedSetIterable iter X.env x = pure x := by intro _; rfl) : PS X (.Assign [.Name y py] (.ListComp elt [⟨tg, iter, ifs, 0⟩] scope pos) spos) (liftS g e W (dSet i (dFrz (dLc it t ts el (own.map (·.2)))))) :=
  (ps_setLc C.calm hN hy hyl hsw hi B.ok (fun s H C cl fp => dw_any (B.tg s H C cl fp)) (fun s H C cl fp => dts_any (B.ts s H C cl fp)) (fun s H C cl fp => de_any (B.el s H C cl fp)) hs).imp (set_imp (frz_imp lc_imp))
theorem ds_setLcM {i : Nat} {y : Str} {py spos : Pos} (C : Cxt X g e W) (hN : X.N.Nodup) (hy : X.N[i]? = some y) (hyl : X.env.scope.names.lookup y = some .local) (hsw : swapsWith (.ListComp elt [⟨tg, iter, ifs, 0⟩] scope pos) (some (.Name y py)) spos.line X.env = pure true)
    (hi : PI X tg iter (liftI g e W it)) (B : BlkD X g scope own tg elt ifs t ts el) (hs : ∀ x, foldedSetIterable iter X.env x = pure x := by intro _; rfl) : PS X (.Assign [.Name y py] (.ListComp elt [⟨tg, iter, ifs, 0⟩] scope pos) spos) (liftS g e W (dSet i (dMut (dLc it t ts el (own.map (·.2)))))) :=
  (ps_setLc C.calm hN hy hyl hsw hi B.ok (fun s H C cl fp => dw_any (B.tg s H C cl fp)) (fun s H C cl fp => dts_any (B.ts s H C cl fp)) (fun s H C cl fp => de_any (B.el s H C cl fp)) hs).imp (set_imp (mut_imp lc_imp))
end
end
end DL
end
/-! ## DL7 -/
section
set_option Elab.async false
set_option linter.all false
set_option maxRecDepth 100000
set_option maxHeartbeats 2000000
namespace DL
open PySem PySem.Spec PyProof.Rows L2
section
variable {X : Cx} {g : Gx} {e : En} {W : WX} {a b c : Expr} {pos : Pos}

/-! ### dicts that change -/
def getK (kvs : List (Key × D)) (k : Key) : Option D := (kvs.find? fun kv => decide (kv.1 = k)).map (·.2)
def putD (kvs : List (Key × D)) (k : Key) (d : D) : List (Key × D) :=
  if (kvs.any fun kv => decide (kv.1 = k)) = true then kvs.map (fun kv => if kv.1 = k then (kv.1, d) else kv) else kvs ++ [(k, d)]
theorem RepK.get {H : Hp} {k : Key} : ∀ {xs : List (Key × V)} {kvs : List (Key × D)} {d : D}, RepK g H xs kvs → getK kvs k = some d → ∃ v, valV xs k = some v ∧ Rep g H v d
  | [], [], d, _, h => by cases h
  | (k1, v) :: xs, (k2, y) :: kvs, d, ⟨e1, r1, r2⟩, h => by
    subst e1
    unfold getK at h
    unfold valV
    rw [List.find?_cons] at h ⊢
    by_cases c : k1 = k
    · simp only [c, decide_true] at h ⊢
      cases h
      exact ⟨v, rfl, r1⟩
    · simp only [c, decide_false] at h ⊢
      exact RepK.get r2 h
  | [], _ :: _, _, h, _ => h.elim
  | (_, _) :: _, [], _, h, _ => h.elim
theorem RepK.any {H : Hp} {k : Key} : ∀ {xs : List (Key × V)} {kvs : List (Key × D)}, RepK g H xs kvs → (xs.any fun kv => decide (kv.1 = k)) = kvs.any fun kv => decide (kv.1 = k)
  | [], [], _ => rfl
  | (k1, v) :: xs, (k2, y) :: kvs, ⟨e1, r1, r2⟩ => by
    subst e1
    rw [List.any_cons, List.any_cons, RepK.any r2]
  | [], _ :: _, h => h.elim
  | (_, _) :: _, [], h => h.elim
theorem RepK.snoc {H : Hp} {k : Key} {v : V} {d : D} (r : Rep g H v d) : ∀ {xs : List (Key × V)} {kvs : List (Key × D)}, RepK g H xs kvs → RepK g H (xs ++ [(k, v)]) (kvs ++ [(k, d)])
  | [], [], _ => ⟨rfl, r, trivial⟩
  | (k1, v) :: xs, (k2, y) :: kvs, ⟨e1, r1, r2⟩ => ⟨e1, r1, RepK.snoc r r2⟩
  | [], _ :: _, h => h.elim
  | (_, _) :: _, [], h => h.elim
theorem RepK.map {H : Hp} {k : Key} {v : V} {d : D} (r : Rep g H v d) : ∀ {xs : List (Key × V)} {kvs : List (Key × D)}, RepK g H xs kvs → RepK g H (xs.map fun kv => if kv.1 = k then (kv.1, v) else kv) (kvs.map fun kv => if kv.1 = k then (kv.1, d) else kv)
  | [], [], _ => trivial
  | (k1, v1) :: xs, (k2, y) :: kvs, ⟨e1, r1, r2⟩ => by
    subst e1
    rw [List.map_cons, List.map_cons]
    by_cases c : k1 = k
    · simp only [c, if_true]
      exact ⟨rfl, r, RepK.map r r2⟩
    · simp only [c, if_false]
      exact ⟨rfl, r1, RepK.map r r2⟩
  | [], _ :: _, h => h.elim
  | (_, _) :: _, [], h => h.elim
theorem RepK.put {H : Hp} {k : Key} {v : V} {d : D} {xs : List (Key × V)} {kvs : List (Key × D)} (r : Rep g H v d) (h : RepK g H xs kvs) : RepK g H (putK xs k v) (putD kvs k d) := by
  unfold putK putD
  rw [h.any]
  split
  · exact RepK.map r h
  · exact RepK.snoc r h
theorem RepK.length {H : Hp} : ∀ {xs : List (Key × V)} {kvs : List (Key × D)}, RepK g H xs kvs → xs.length = kvs.length
  | [], [], _ => rfl
  | _ :: _, _ :: _, h => congrArg (· + 1) (RepK.length h.2.2)
  | [], _ :: _, h => h.elim
  | (_, _) :: _, [], h => h.elim
def keyD : D → Option Key
  | .int i => some (.inl i)
  | .str x => some (.inr x)
  | _ => none
theorem keyD_rep {H : Hp} {v : V} {d : D} {k : Key} (r : Rep g H v d) (h : keyD d = some k) : v = kV k := by
  cases d <;> first
    | (cases h; done)
    | (cases h; exact r)
/-- what a dict is: told in the store, or unchanging -/
def dctOf (S : Sto) : D → Option (List (Key × D))
  | .dct kvs => some kvs
  | .opq (.ref p) => match S p with
    | some (.dct kvs) => some kvs
    | _ => none
  | _ => none
theorem dctOf_rep {H Hi : Hp} {S : Sto} {v : V} {d : D} {kvs : List (Key × D)} (k : Ok g H Hi S) (r : Rep g Hi v d) (h : dctOf S d = some kvs) : ∃ p xs, v = .ref p ∧ H p = some (.dK xs) ∧ RepK g Hi xs kvs := by
  cases d with
  | dct es =>
    cases h
    obtain ⟨p, xs, h1, h2, h3⟩ := r
    exact ⟨p, xs, h1, k.sub _ _ h2, h3⟩
  | opq u =>
    cases u with
    | ref p =>
      have h : (match S p with
        | some (.dct kvs) => some kvs
        | _ => none) = some kvs := h
      cases q : S p with
      | none => rw [q] at h; cases h
      | some c =>
        rw [q] at h
        cases c with
        | dct es =>
          cases h
          obtain ⟨xs, h1, h2⟩ := (k.cell p _ q).2
          exact ⟨p, xs, r, h1, h2⟩
        | lst _ => cases h
        | ins _ _ => cases h
        | exc _ _ => cases h
    | _ => cases h
  | _ => cases h
variable {f f' fv : DE}
def fDGet : DOp := fun x y S k => ∃ kvs j d, dctOf S x = some kvs ∧ keyD y = some j ∧ getK kvs j = some d ∧ k d S
theorem de_dget (hu : X.A.units + 1 < cLine) (ha : PE X a (lift g e W f)) (hb : PE X b (lift g e W f')) (hs : NoSl b := by intro _ _; rfl) : PE X (.Subscript a b pos) (lift g e W (d2 fDGet f f')) :=
  (pe_dget hu ha hb hs).imp fun σ H Q ⟨ρ, Hi, S, k, E, i, sl, q, hk, hx⟩ => by
    refine ⟨ρ, Hi, S, _, E, i, sl, q, fun x S1 v H1 Hi1 i1 s1 r1 q1 => ?_, hx⟩
    refine ⟨ρ, Hi1, S1, _, E, i1, sl.mono s1, q1, fun y S2 w H2 Hi2 i2 s2 r2 q2 => ?_, hx.mono s1⟩
    obtain ⟨kvs, j, d, h1, h2, h3, q3⟩ := q2
    obtain ⟨p, xs, rfl, h4, h5⟩ := dctOf_rep i2.ok (r1.mono s2) h1
    obtain ⟨u, h6, h7⟩ := h5.get h3
    refine ⟨p, u, rfl, ?_, hk d S2 u H2 Hi2 i2 (s1.trans s2) h7 q3⟩
    rw [keyD_rep r2 h2, ← h6]
    exact DGet.k h4
def dDPut (f f' fv : DE) : DS := fun ρ S D => fv ρ S (fun v S1 => f ρ S1 (fun x S2 => f' ρ S2 (fun y S3 => ∃ p kvs j, x = .mu p ∧ S3 p = some (.dct kvs) ∧ keyD y = some j ∧ kvs.length < 16777216 ∧ D.nx ρ (S3.set p (.dct (putD kvs j v)))) (fun c fs S' => D.xe c fs ρ S')) (fun c fs S' => D.xe c fs ρ S')) (fun c fs S' => D.xe c fs ρ S')
theorem lt_line {n : Nat} (h : n < 16777216) : n < sizeLine := by rw [sizeLine_eq]; exact h
theorem ds_dput {pos' : Pos} {v : Expr} (hu : X.A.units + 1 < cLine) (ha : PE X a (lift g e W f)) (hb : PE X b (lift g e W f')) (hv : PE X v (lift g e W fv)) (hs : swapsWith v (some (.Subscript a b pos')) pos.line X.env = pure false := by rfl) :
    PS X (.Assign [.Subscript a b pos'] v pos) (liftS g e W (dDPut f f' fv)) :=
  (ps_dput hu ha hb hv hs).imp fun D σ H ⟨ρ, Hi, S, DD, i, sl, q, ok⟩ => by
    refine ⟨ρ, Hi, S, _, _, i, sl, q, fun dv S1 v H1 Hi1 i1 s1 r1 q1 => ?_, ok.x sl⟩
    have ok1 := ok.mono s1
    refine ⟨ρ, Hi1, S1, _, _, i1, sl.mono s1, q1, fun dx S2 x H2 Hi2 i2 s2 r2 q2 => ?_, ok1.x (sl.mono s1)⟩
    have ok2 := ok1.mono s2
    refine ⟨ρ, Hi2, S2, _, _, i2, (sl.mono s1).mono s2, q2, fun dy S3 y H3 Hi3 i3 s3 r3 q3 => ?_, ok2.x ((sl.mono s1).mono s2)⟩
    obtain ⟨p, kvs, j, e1, h1, h2, h3, q4⟩ := q3
    subst e1
    have r2 : x = .ref p := r2
    subst r2
    obtain ⟨xs, h4, h5⟩ := (i3.ok.cell p _ h1).2
    have hl : xs.length < sizeLine := by rw [h5.length]; exact lt_line h3
    refine ⟨p, _, rfl, by rw [keyD_rep r3 h2]; exact DPut.k h4 hl, ?_⟩
    obtain ⟨o4, x4⟩ := i3.ok.put (o := .dK (putK xs j v)) (c := .dct (putD kvs j dv)) h1 ⟨_, upd_same, h5.put ((r1.mono s2).mono s3)⟩
    exact ok2.nx ρ _ σ _ Hi3 (i3.next o4 x4) s3 (((sl.mono s1).mono s2).mono s3) q4
/-! ### xs[i] = v -/
def dLPut (f f' : DE) : DG := fun v ρ S k E => f ρ S (fun x S1 => f' ρ S1 (fun y S2 => ∃ p xs n j, x = .mu p ∧ S2 p = some (.lst xs) ∧ y = .int n ∧ ixN xs.length n = some j ∧ k ρ (S2.set p (.lst (xs.set j v)))) E) E
theorem dg_lput (ha : PE X a (lift g e W f)) (hb : PE X b (lift g e W f'))
    (h1 : ∀ v, assign (.Subscript a b pos) X.env v = (do
      let ov ← holding [v] (eval a X.env)
      let iv ← holding [v, ov] (eval b X.env)
      standAt pos
      holding [v, ov, iv] (setItem ov iv v)
      release [v, ov, iv] []) := by intro _; rfl) : PG X (.Subscript a b pos) (liftG g e W (dLPut f f')) :=
  (pg_sub ha hb set_list h1).imp fun v σ H Q ⟨d, ρ, Hi, S, k, E, i, sl, r, q, hk, hx⟩ => by
    have hx0 : XOk g e W Hi σ E := fun c fs S' H' Hi' cls dx i' s' x' q' => hx c fs S' σ H' Hi' cls dx i' s' x' q'
    refine ⟨ρ, Hi, S, _, E, i, sl, q, fun x S1 v1 H1 Hi1 i1 s1 r1 q1 => ?_, hx0⟩
    refine ⟨ρ, Hi1, S1, _, E, i1, sl.mono s1, q1, fun y S2 w H2 Hi2 i2 s2 r2 q2 => ?_, hx0.mono s1⟩
    obtain ⟨p, xs, n, j, e1, h1, e2, h2, q3⟩ := q2
    subst e1 e2
    have r1 : v1 = .ref p := r1
    have r2 : w = .int n := r2
    subst r1 r2
    obtain ⟨us, h3, h4⟩ := (i2.ok.cell p _ h1).2
    refine ⟨p, us, n, j, rfl, rfl, h3, by rw [h4.length]; exact h2, ?_⟩
    obtain ⟨o4, x4⟩ := i2.ok.put (o := .lst (us.set j v)) (c := .lst (xs.set j d)) h1 ⟨_, upd_same, h4.set j ((r.mono s1).mono s2)⟩
    exact hk ρ _ σ _ Hi2 (i2.next o4 x4) (s1.trans s2) ((sl.mono s1).mono s2) q3
/-! ### a dict display, which may change -/
def dPrs : List (Key × DE) → Env → Sto → (List (Key × D) → Sto → Prop) → Prop
  | [], _, S, k => k [] S
  | (j, f) :: r, ρ, S, k => f ρ S (fun d S1 => dPrs r ρ S1 fun ps S2 => k ((j, d) :: ps) S2) noX
def dDsp (prs : List (Key × DE)) : DE := fun ρ S k _ => dPrs prs ρ S fun kvs S1 => ∀ p, S1 p = none → k (.mu p) (S1.set p (.dct kvs))
theorem merge_nodup : ∀ (kvs acc : List (Key × V)), (acc.map (·.1) ++ kvs.map (·.1)).Nodup → mergeK acc kvs = acc ++ kvs
  | [], acc, _ => by simp [mergeK]
  | (k, v) :: r, acc, h => by
    have hk : (acc.any fun kv => decide (kv.1 = k)) = false := by
      rw [List.any_eq_false]
      intro kv hkv
      have := (List.nodup_append.mp h).2.2 kv.1 (List.mem_map_of_mem hkv) k (by simp)
      simpa using this
    have e1 : putK acc k v = acc ++ [(k, v)] := by
      unfold putK
      rw [hk]
      simp
    show mergeK (putK acc k v) r = _
    rw [e1, merge_nodup r (acc ++ [(k, v)]) (by simpa using h)]
    simp
theorem prs_imp {trs : List (TE × TE)} {prs : List (Key × DE)} (hm : trs = prs.map fun p => (tC (kV p.1), liftx g W p.2)) {ρ : Env} {σ : L2.St} {L : Addr} : ∀ {H Hi : Hp} {S : Sto} {k : List (Key × D) → Sto → Prop} {Q : List (V × V) → Hp → Prop} {e : En},
    Is g e H Hi S → Slots g Hi σ ρ → H L = some (.dK []) → Hi L = none → S L = none → dPrs prs ρ S k →
    (∀ kvs S' xs H' Hi', Is g e H' Hi' S' → Same Hi Hi' → H' L = some (.dK []) → Hi' L = none → S' L = none → RepK g Hi' xs kvs → kvs.map (·.1) = prs.map (·.1) → k kvs S' → Q (xs.map fun kv => (kV kv.1, kv.2)) H') → tPairs trs σ H Q := by
  induction prs generalizing trs with
  | nil =>
    intro H Hi S k Q e i sl h1 h2 h3 q hk
    subst hm
    exact hk [] S [] H Hi i (Same.refl _) h1 h2 h3 trivial rfl q
  | cons p r ih =>
    obtain ⟨j, f⟩ := p
    intro H Hi S k Q e i sl h1 h2 h3 q hk
    subst hm
    show liftx g W f σ H fun y H2 => tPairs (r.map fun p => (tC (kV p.1), liftx g W p.2)) σ H2 fun ps H3 => Q ((kV j, y) :: ps) H3
    obtain ⟨e2, he2⟩ : ∃ e2 : En, e2 = ⟨H, Hi, S, i.ok.sub⟩ := ⟨_, rfl⟩
    have j2 : Is g e2 H Hi S := by rw [he2]; exact ⟨i.ok, Ext.refl⟩
    refine ⟨e2, ρ, Hi, S, _, noX, j2, sl, q, fun d S1 v H1 Hi1 i1 s1 r1 q1 => ?_, fun _ _ _ _ _ _ _ _ _ _ z => z.elim⟩
    rw [he2] at i1
    obtain ⟨g1, g2⟩ := i1.ext.fre L _ h1 h2 h3
    refine ih rfl (i.next i1.ok i1.ext) (sl.mono s1) (i1.ext.frm L _ h1 h3 (fun _ z => nomatch z)) g1 g2 q1 fun kvs S' xs H' Hi' i' s' a1 a2 a3 r' ek q' => ?_
    exact hk ((j, d) :: kvs) S' ((j, v) :: xs) H' Hi' i' (s1.trans s') a1 a2 a3 ⟨rfl, r1.mono s', r'⟩ (by rw [List.map_cons, List.map_cons, ek]) q'
theorem RepK.keys {H : Hp} : ∀ {xs : List (Key × V)} {kvs : List (Key × D)}, RepK g H xs kvs → xs.map (·.1) = kvs.map (·.1)
  | [], [], _ => rfl
  | (k1, v) :: xs, (k2, y) :: kvs, ⟨e1, _, r2⟩ => by rw [List.map_cons, List.map_cons, RepK.keys r2, e1]
  | [], _ :: _, h => h.elim
  | (_, _) :: _, [], h => h.elim
theorem de_dsp {keys : List (Option Expr)} {values : List Expr} {trs : List (TE × TE)} {prs : List (Key × DE)} (h : PPs X pos keys values trs) (hm : trs = prs.map fun p => (tC (kV p.1), liftx g W p.2)) (hnd : (prs.map (·.1)).Nodup) (hall : keys.all (·.isSome) = true) (hl : keys.length = values.length) (h0 : keys ≠ [])
    (h15 : keys.length ≤ 15) (h15' : prs.length ≤ 15) : PE X (.Dict keys values pos) (lift g e W (dDsp prs)) := (pe_disp h hall hl h0 h15).imp fun σ H Q ⟨ρ, Hi, S, k, E, i, sl, q, hk, hx⟩ => by
  intro L hL
  obtain ⟨n0, n1, n2⟩ := i.n0 hL
  refine prs_imp hm (i.frg n0 n1 n2 (noTbl hL)) sl upd_same n1 n2 q fun kvs S' xs H' Hi' i' s' a1 a2 a3 r' ek q' => ⟨a1, xs, rfl, ?_, ?_⟩
  · rw [r'.length]
    have := congrArg List.length ek
    simp at this
    omega
  · rw [merge_nodup xs [] (by simpa [r'.keys, ek] using hnd), List.nil_append]
    refine hk (.mu L) _ (.ref L) _ Hi' ?_ s' rfl (q' L a3)
    have i2 := i'.frg (o := .dK xs) n0 a2 a3 (by rw [a1]; intro ps z; cases z)
    refine ⟨⟨i2.ok.sub, fun b c z => ?_, i2.ok.tab⟩, ⟨i2.ext.imm, i2.ext.frm, fun b u z z1 z2 => ?_, i2.ext.kp⟩⟩
    · by_cases hb : b = L
      · subst hb; rw [Sto.set_same] at z; cases z; exact ⟨a2, xs, upd_same, r'⟩
      · rw [Sto.set_ne hb] at z; exact i2.ok.cell b c z
    · rw [Sto.set_ne (ne_of_none z n0)]; exact i2.ext.fre b u z z1 z2

/-! ### methods of lists that change -/
/-- x.m(..) with x a changing list: what becomes of it, what is handed back -/
abbrev LM := List D → List D → D → List D → Prop
def dBm (h : List D → List D → K1 → (Sto → List D → Sto) → Prop) (f : DE) (u : DA) : DE := fun ρ S k E => f ρ S (fun x S1 => ∃ p, x = .mu p ∧ (∃ xs, S1 p = some (.lst xs)) ∧ u ρ S1 (fun ds S2 => ∃ xs, S2 p = some (.lst xs) ∧ h xs ds (fun d S' => k d S') (fun _ ys => S2.set p (.lst ys))) E) E
/-- by values -/
def MtOk (g : Gx) (r : V → List V → Hp → VK → Prop) (h : List D → List D → (D → List D → Prop) → Prop) : Prop := ∀ H Hi S p us vs xs ds Q (k : D → List D → Prop), Ok g H Hi S → H p = some (.lst us) → Reps g Hi us xs → Reps g Hi vs ds → h xs ds k →
  (∀ d ys v zs, k d ys → Rep g Hi v d → Reps g Hi zs ys → Q v (upd H p (.lst zs))) → r (.ref p) vs H Q
def dMt (h : List D → List D → (D → List D → Prop) → Prop) (f : DE) (u : DA) : DE := fun ρ S k E => f ρ S (fun x S1 => ∃ p, x = .mu p ∧ (∃ xs, S1 p = some (.lst xs)) ∧ u ρ S1 (fun ds S2 => ∃ xs, S2 p = some (.lst xs) ∧ h xs ds fun d ys => k d (S2.set p (.lst ys))) E) E
variable {name : Str} {apos : Pos} {id : String} {r : V → List V → Hp → VK → Prop} {h : List D → List D → (D → List D → Prop) → Prop} {u : DA} {es : List Expr}
theorem mt_imp (C : Cxt X g e W) (o : MtOk g r h) : ∀ σ H Q, lift g e W (dMt h f u) σ H Q → tBM X.K "list" r (lift g e W f) (liftA g e W u) σ H Q := by
  rintro σ H Q ⟨ρ, Hi, S, k, E, i, sl, q, hk, hx⟩
  refine ⟨ρ, Hi, S, _, E, i, sl, q, fun x S1 v H1 Hi1 i1 s1 r1 ⟨p, e1, ⟨xs, hS⟩, q1⟩ => ?_, hx⟩
  subst e1
  have r1 : v = .ref p := r1
  subst r1
  obtain ⟨us, h1, h2⟩ := (i1.ok.cell p _ hS).2
  refine ⟨.inl ⟨rfl, us, SqL.of h1⟩, ρ, Hi1, S1, _, E, i1, sl.mono s1, q1, fun ds S2 vs H2 Hi2 i2 s2 r2 ⟨ys, hS2, q2⟩ => ?_, hx.mono s1⟩
  obtain ⟨ws, h3, h4⟩ := (i2.ok.cell p _ hS2).2
  refine o H2 Hi2 S2 p ws vs ys ds Q _ i2.ok h3 h4 r2 q2 fun d zs' v zs kz rv rz => ?_
  obtain ⟨o4, x4⟩ := i2.ok.put (o := .lst zs) (c := .lst zs') hS2 ⟨zs, upd_same, rz⟩
  exact hk d _ v _ Hi2 (i2.next o4 x4) (s1.trans s2) rv kz
theorem de_mt (C : Cxt X g e W) (slot : Slot "list" name id) (hty : typeOf (.builtin id) = pure (.type "method_descriptor")) (hm : MtR X id r) (o : MtOk g r h) (ho : PE X b (lift g e W f)) (ha : PA X (a :: es) (liftA g e W u))
    (hbase : attributeBase b name X.env (eval b X.env) = eval b X.env := by rfl)
    (hfew : ((backTo pos (starEach (a :: es) X.env)).all (fun x => !x.1) && (backToKw pos (keywordEach [] X.env)).all (fun x => x.1.isSome)
      && decide ((a :: es).length + ([] : List Keyword).length + (if ([] : List Keyword).isEmpty then 0 else 1) < 30)) = true := by rfl)
    (hline : (apos.endLine == pos.line) = true := by rfl) (hs : starEach (a :: es) X.env = (false, eval a X.env) :: starEach es X.env := by rfl) (hplain : (backTo pos (starEach es X.env)).any (·.1) = false := by rfl) :
    PE X (.Call (.Attribute b name apos) (a :: es) [] pos) (lift g e W (dMt h f u)) :=
  (pe_bm PySem.F.plainAttrs_list slot hty hm ho ha hbase hfew hline hs hplain).imp (mt_imp C o)
theorem de_mt0 (C : Cxt X g e W) (slot : Slot "list" name id) (hty : typeOf (.builtin id) = pure (.type "method_descriptor")) (hm : MtR X id r) (o : MtOk g r h) (ho : PE X b (lift g e W f))
    (hbase : attributeBase b name X.env (eval b X.env) = eval b X.env := by rfl) (hline : (apos.endLine == pos.line) = true := by rfl) : PE X (.Call (.Attribute b name apos) [] [] pos) (lift g e W (dMt h f dNil)) :=
  (pe_bm0 PySem.F.plainAttrs_list slot hty hm ho hbase hline).imp fun σ H Q q => by
    have z := mt_imp C o σ H Q q
    obtain ⟨ρ, Hi, S, k, E, i, sl, q, hk, hx⟩ := z
    refine ⟨ρ, Hi, S, k, E, i, sl, q, fun d S' v H' Hi' i' s' r' q' => ?_, hx⟩
    obtain ⟨h1, ρ2, Hi2, S2, k2, E2, i2, sl2, q2, hk2, hx2⟩ := hk d S' v H' Hi' i' s' r' q'
    exact ⟨h1, hk2 [] S2 [] H' Hi2 i2 (Same.refl _) trivial q2⟩
def lAppend : List D → List D → (D → List D → Prop) → Prop := fun xs ds k => ∃ d, ds = [d] ∧ xs.length < 16777216 ∧ k .non (xs ++ [d])
theorem ok_append : MtOk g rAppend lAppend := by
  rintro H Hi S p us vs xs ds Q k o h1 r1 r2 ⟨d, rfl, hl, q⟩ hk
  obtain ⟨v, rfl, rv⟩ := Reps.one r2
  exact ⟨p, us, v, rfl, rfl, h1, by rw [r1.length]; exact lt_line hl, hk _ _ _ _ q rfl (r1.append ⟨rv, trivial⟩)⟩
def lPop : List D → List D → (D → List D → Prop) → Prop := fun xs ds k => ∃ d, ds = [] ∧ xs[xs.length - 1]? = some d ∧ k d xs.dropLast
theorem Reps.dropLast {H : Hp} : ∀ {vs : List V} {ds : List D}, Reps g H vs ds → Reps g H vs.dropLast ds.dropLast
  | [], [], _ => trivial
  | [_], [_], _ => trivial
  | v :: v' :: vs, d :: d' :: ds, ⟨h1, h2⟩ => ⟨h1, Reps.dropLast h2⟩
  | [_], _ :: _ :: _, h => h.2.elim
  | _ :: _ :: _, [_], h => h.2.elim
  | [], _ :: _, h => h.elim
  | _ :: _, [], h => h.elim
theorem ok_pop : MtOk g rPop lPop := by
  rintro H Hi S p us vs xs ds Q k o h1 r1 r2 ⟨d, rfl, hd, q⟩ hk
  cases vs with
  | cons _ _ => exact r2.elim
  | nil =>
    obtain ⟨v, h3, h4⟩ := r1.get hd
    exact ⟨p, us, v, rfl, rfl, h1, by rw [r1.length]; exact h3, hk _ _ _ _ q h4 r1.dropLast⟩
theorem Reps.erase {H : Hp} : ∀ {vs : List V} {ds : List D} (n : Nat), Reps g H vs ds → Reps g H (vs.eraseIdx n) (ds.eraseIdx n)
  | [], [], _, _ => trivial
  | _ :: _, _ :: _, 0, ⟨_, h2⟩ => h2
  | _ :: _, _ :: _, n + 1, ⟨h1, h2⟩ => ⟨h1, Reps.erase n h2⟩
  | [], _ :: _, _, h => h.elim
  | _ :: _, [], _, h => h.elim
def lPopAt : List D → List D → (D → List D → Prop) → Prop := fun xs ds k => ∃ i d, ds = [.int i] ∧ 0 ≤ i ∧ i < 16777216 ∧ xs[i.toNat]? = some d ∧ k d (xs.eraseIdx i.toNat)
theorem ok_popAt : MtOk g rPopAt lPopAt := by
  rintro H Hi S p us vs xs ds Q k o h1 r1 r2 ⟨i, d, rfl, h0, hi, hd, q⟩ hk
  obtain ⟨v, rfl, rv⟩ := Reps.one r2
  have rv : v = .int i := rv
  subst rv
  obtain ⟨v, h3, h4⟩ := r1.get hd
  have hlt : i.toNat < us.length := (List.getElem?_eq_some_iff.mp h3).1
  have hs : seqIndex? i us.length = some i.toNat := seqIndex_of h0 (by omega)
  exact ⟨p, us, i, i.toNat, v, rfl, rfl, h1, by omega, by omega, hs, h3, hk _ _ _ _ q h4 (r1.erase _)⟩
def lInsert : List D → List D → (D → List D → Prop) → Prop := fun xs ds k => ∃ i d, ds = [.int i, d] ∧ 0 ≤ i ∧ i < 16777216 ∧ xs.length < 16777216 ∧ k .non (xs.take i.toNat ++ [d] ++ xs.drop i.toNat)
theorem ok_insert : MtOk g (fun x vs H Q => ∃ (l : Addr) (xs : List V) (i : Int) (y : V), x = .ref l ∧ vs = [.int i, y] ∧ H l = some (.lst xs) ∧ xs.length < sizeLine ∧ 0 ≤ i ∧ i < 2 ^ 63 ∧
    Q .non (upd H l (.lst (xs.take i.toNat ++ [y] ++ xs.drop i.toNat)))) lInsert := by
  rintro H Hi S p us vs xs ds Q k o h1 r1 r2 ⟨i, d, rfl, h0, hi, hl, q⟩ hk
  obtain ⟨v, w, rfl, rv, rw'⟩ := Reps.two r2
  have rv : v = .int i := rv
  subst rv
  have rr : Reps g Hi [w] [d] := ⟨rw', trivial⟩
  exact ⟨p, us, i, w, rfl, rfl, h1, by rw [r1.length]; exact lt_line hl, h0, by omega, hk _ _ _ _ q rfl (((r1.take _).append rr).append (r1.drop _))⟩
end
end DL
end
/-! ## DL8 -/
section
set_option Elab.async false
set_option linter.all false
set_option maxRecDepth 100000
set_option maxHeartbeats 2000000
namespace DL
open PySem PySem.Spec PyProof.Rows L2

/-! ### attributes by number -/
def putN (i : Nat) (d : D) : List (Nat × D) → List (Nat × D)
  | [] => [(i, d)]
  | (j, x) :: r => if j = i then (j, d) :: r else (j, x) :: putN i d r
theorem RepF.put {g : Gx} {H : Hp} {i : Nat} {v : V} {d : D} (hi : i < g.nA) (r : Rep g H v d) : ∀ {vs : List (Str × V)} {fs : List (Nat × D)}, RepF g H vs fs → RepF g H (putF (g.an i) v vs) (putN i d fs)
  | [], [], _ => ⟨rfl, hi, r, trivial⟩
  | (n, w) :: vs, (j, y) :: fs, ⟨h0, hj, h1, h2⟩ => by
    subst h0
    unfold putF putN
    by_cases c : j = i
    · subst c
      rw [if_pos rfl, if_pos rfl]
      exact ⟨rfl, hj, r, h2⟩
    · rw [if_neg c, if_neg fun q => c (g.inj j i hj hi q)]
      exact ⟨rfl, hj, h1, RepF.put hi r h2⟩
  | [], _ :: _, h => h.elim
  | (_, _) :: _, [], h => h.elim
theorem RepF.no {g : Gx} {H : Hp} {m : Str} (hm : ∀ i, i < g.nA → g.an i ≠ m) : ∀ {vs : List (Str × V)} {fs : List (Nat × D)}, RepF g H vs fs → vs.lookup m = none
  | [], [], _ => rfl
  | (n, w) :: vs, (j, y) :: fs, ⟨h0, hj, h1, h2⟩ => by
    subst h0
    have b : (m == g.an j) = false := by simpa using fun q => hm j hj (Eq.symm q)
    have l : ((g.an j, w) :: vs).lookup m = vs.lookup m := by simp [List.lookup, b]
    rw [l]
    exact RepF.no hm h2
  | [], _ :: _, h => h.elim
  | (_, _) :: _, [], h => h.elim
theorem RepF.length {g : Gx} {H : Hp} : ∀ {vs : List (Str × V)} {fs : List (Nat × D)}, RepF g H vs fs → vs.length = fs.length
  | [], [], _ => rfl
  | (_, _) :: _, (_, _) :: _, ⟨_, _, _, h⟩ => congrArg (· + 1) (RepF.length h)
  | [], _ :: _, h => h.elim
  | (_, _) :: _, [], h => h.elim
/-- an instance: its class, its attributes -/
def insOf (S : Sto) : D → Option (Nat × List (Nat × D))
  | .obj c fs => some (c, fs)
  | .opq (.ref p) => match S p with
    | some (.ins c fs) => some (c, fs)
    | _ => none
  | _ => none
theorem insOf_rep {g : Gx} {H Hi : Hp} {S : Sto} {v : V} {d : D} {c : Nat} {fs : List (Nat × D)} (k : Ok g H Hi S) (r : Rep g Hi v d) (h : insOf S d = some (c, fs)) : ∃ a dx vs, v = .ref a ∧ H a = some (.ins (g.ca c) dx vs) ∧ RepF g Hi vs fs := by
  cases d with
  | obj c' fs' =>
    cases h
    obtain ⟨a, dx, vs, h1, h2, h3⟩ := r
    exact ⟨a, dx, vs, h1, k.sub _ _ h2, h3⟩
  | opq u =>
    cases u with
    | ref p =>
      have h : (match S p with
        | some (.ins c fs) => some (c, fs)
        | _ => none) = some (c, fs) := h
      cases q : S p with
      | none => rw [q] at h; cases h
      | some z =>
        rw [q] at h
        cases z with
        | ins c' fs' =>
          cases h
          obtain ⟨dx, vs, h1, h2⟩ := (k.cell p _ q).2
          exact ⟨p, dx, vs, r, h1, h2⟩
        | lst _ => cases h
        | dct _ => cases h
        | exc _ _ => cases h
    | _ => cases h
  | _ => cases h
/-- what the classes cs must be, for the attribute of number i -/
structure FldOk (g : Gx) (cs : List Nat) (i : Nat) (n : Str) : Prop where
  lt : i < g.nA
  nm : g.an i = n
  ok : ∀ c, cs.contains c = true → Cls g.K (g.ca c) ∧ NoAttr g.K (g.ca c) n
section
variable {X : Cx} {g : Gx} {e : En} {W : WX} {a b c : Expr} {pos : Pos} {f f' : DE} {n : Str} {cs : List Nat}
/-- x.n -/
def dFld (cs : List Nat) (i : Nat) (f : DE) : DE := fun ρ S k E => f ρ S (fun x S1 => ∃ c fs d, insOf S1 x = some (c, fs) ∧ cs.contains c = true ∧ fs.lookup i = some d ∧ k d S1) E
theorem de_fld {i : Nat} (C : Cxt X g e W) (F : FldOk g cs i n) (h : PE X a (lift g e W f)) (hb : attributeBase a n X.env (eval a X.env) = eval a X.env := by rfl) : PE X (.Attribute a n pos) (lift g e W (dFld cs i f)) :=
  (pe_fld h hb).imp fun σ H Q ⟨ρ, Hi, S, k, E, i', sl, q, hk, hx⟩ => by
    refine ⟨ρ, Hi, S, _, E, i', sl, q, fun x S1 v H1 Hi1 i1 s1 r1 ⟨c, fs, d, h1, h2, h3, q1⟩ => ?_, hx⟩
    obtain ⟨p, dx, vs, rfl, h4, h5⟩ := insOf_rep i1.ok r1 h1
    obtain ⟨w, h6, h7⟩ := (h5.look F.lt).1 d h3
    rw [F.nm] at h6
    rw [C.K]
    exact ⟨p, g.ca c, dx, vs, w, rfl, h4, (F.ok c h2).1, (F.ok c h2).2, h6, hk d S1 w H1 Hi1 i1 s1 h7 q1⟩
/-- x.n = v -/
def dPutF (cs : List Nat) (i : Nat) (f fv : DE) : DS := fun ρ S D => fv ρ S (fun v S1 => f ρ S1 (fun x S2 => ∃ p c fs, x = .mu p ∧ S2 p = some (.ins c fs) ∧ cs.contains c = true ∧ fs.length < 1000 ∧ D.nx ρ (S2.set p (.ins c (putN i v fs)))) (fun c fs S' => D.xe c fs ρ S')) (fun c fs S' => D.xe c fs ρ S')
theorem ds_fld {i : Nat} {fv : DE} {pos' : Pos} {v : Expr} (C : Cxt X g e W) (F : FldOk g cs i n) (ha : PE X a (lift g e W f)) (hv : PE X v (lift g e W fv)) (hs : swapsWith v (some (.Attribute a n pos')) pos.line X.env = pure false := by rfl) :
    PS X (.Assign [.Attribute a n pos'] v pos) (liftS g e W (dPutF cs i f fv)) :=
  (ps_fld ha hv hs).imp fun D σ H ⟨ρ, Hi, S, DD, i', sl, q, ok⟩ => by
    refine ⟨ρ, Hi, S, _, _, i', sl, q, fun dv S1 v H1 Hi1 i1 s1 r1 q1 => ?_, ok.x sl⟩
    have ok1 := ok.mono s1
    refine ⟨ρ, Hi1, S1, _, _, i1, sl.mono s1, q1, fun dx S2 x H2 Hi2 i2 s2 r2 ⟨p, c, fs, e1, h1, h2, h3, q2⟩ => ?_, ok1.x (sl.mono s1)⟩
    subst e1
    have r2 : x = .ref p := r2
    subst r2
    obtain ⟨ddx, vs, h4, h5⟩ := (i2.ok.cell p _ h1).2
    rw [C.K]
    refine ⟨p, g.ca c, ddx, vs, rfl, h4, (F.ok c h2).1, (F.ok c h2).2, by rw [h5.length]; exact h3, ?_⟩
    have hp := h5.put F.lt (r1.mono s2)
    rw [F.nm] at hp
    obtain ⟨o4, x4⟩ := i2.ok.put (o := .ins (g.ca c) ddx (putF n v vs)) (c := .ins c (putN i dv fs)) h1 ⟨ddx, _, upd_same, hp⟩
    exact ok1.nx ρ _ σ _ Hi2 (i2.next o4 x4) s2 ((sl.mono s1).mono s2) q2
end

/-! ### methods, by the class -/
structure MethOk (g : Gx) (P : Program) (w : World) (base : Heap) (k : Nat) (m : Str) (ms : List (Nat × DFn)) : Prop where
  no : ∀ i, i < g.nA → g.an i ≠ m
  ok : ∀ c wf, ms.lookup c = some wf → ∃ f, Cls g.K (g.ca c) ∧ Meth g.K (g.ca c) m f ∧ DFnR g P w base k f wf
def OneM (g : Gx) (P : Program) (w : World) (base : Heap) (k : Nat) (m : Str) (c : Nat) (wf : DFn) : Prop := ∃ f, Cls g.K (g.ca c) ∧ Meth g.K (g.ca c) m f ∧ DFnR g P w base k f wf
theorem MethOk.nil {g : Gx} {P : Program} {w : World} {base : Heap} {k : Nat} {m : Str} (no : ∀ i, i < g.nA → g.an i ≠ m) : MethOk g P w base k m [] := ⟨no, fun _ _ h => by cases h⟩
theorem MethOk.cons {g : Gx} {P : Program} {w : World} {base : Heap} {k : Nat} {m : Str} {c : Nat} {wf : DFn} {ms : List (Nat × DFn)} (h : OneM g P w base k m c wf) (t : MethOk g P w base k m ms) : MethOk g P w base k m ((c, wf) :: ms) := by
  refine ⟨t.no, fun c' wf' q => ?_⟩
  by_cases hc : c' = c
  · subst hc
    simp at q
    subst q
    exact h
  · have b : (c' == c) = false := by simpa using hc
    have l : ((c, wf) :: ms).lookup c' = ms.lookup c' := by simp [List.lookup, b]
    rw [l] at q
    exact t.ok c' wf' q
theorem OneM.mono {g : Gx} {P : Program} {w : World} {base : Heap} {j k : Nat} {m : Str} {c : Nat} {wf : DFn} (h : OneM g P w base j m c wf) (l : j ≤ k) : OneM g P w base k m c wf :=
  let ⟨f, h1, h2, h3⟩ := h
  ⟨f, h1, h2, h3.mono l⟩
section
variable {X : Cx} {g : Gx} {e : En} {W : WX} {a b c : Expr} {pos apos : Pos} {f f' : DE} {u : DA} {es : List Expr} {m : Str} {ms : List (Nat × DFn)} {k : Nat} {pl : Sem Bool}
def dMeth (ms : List (Nat × DFn)) (f : DE) (u : DA) : DE := fun ρ S k E => f ρ S (fun x S1 => ∃ c fs wf, insOf S1 x = some (c, fs) ∧ ms.lookup c = some wf ∧ u ρ S1 (fun ds S2 => wf (x :: ds) S2 k E) E) E
theorem de_meth (C : Cxt X g e W) (M : MethOk g X.prog X.w X.base k m ms) (hr : Room k X.A) (hf : PE X b (lift g e W f)) (ha : PA X (a :: es) (liftA g e W u))
    (hst : starEach (a :: es) X.env = (false, eval a X.env) :: starEach es X.env := by rfl) (hpl : (backTo pos (starEach es X.env)).any (·.1) = false := by rfl)
    (ht : eval (.Call (.Attribute b m apos) (a :: es) [] pos) X.env = (do
      let ov ← eval b X.env
      standAt apos.atName
      let (f, first) ← holding [ov] (getMethod ov m pl)
      callWith pos f first (backTo pos (starEach (a :: es) X.env)) (backToKw pos (keywordEach [] X.env))) := by rfl) : PE X (.Call (.Attribute b m apos) (a :: es) [] pos) (lift g e W (dMeth ms f u)) := by
  refine ⟨fun pins s σ H Q I ⟨ρ, Hi, S, k1, E, i, sl, q, hQ, hx⟩ => ?_⟩
  refine PySem.W.methodCall_KW (pl := pl) (thn (hf.run pins s σ H (fun x H1 => ∃ p c dx vs wf d S1 Hi1, x = .ref p ∧ H1 p = some (.ins (g.ca c) dx vs) ∧ vs.lookup m = none ∧ ms.lookup c = some wf ∧ Is g e H1 Hi1 S1 ∧ Same Hi Hi1 ∧ Rep g Hi1 (.ref p) d ∧ u ρ S1 (fun ds S2 => wf (d :: ds) S2 k1 E) E) I
    ⟨ρ, Hi, S, _, E, i, sl, q, fun d S1 v H1 Hi1 i1 s1 r1 ⟨c, fs, wf, h1, h2, q1⟩ => ?_, hx⟩) fun v s1 ⟨x, H1, I1, rx, p, c, dx, vs, wf, d, S1, Hi1, ex, ea, hl, hw, i1, s1', r1, q1⟩ => ?_) ht
  · obtain ⟨p, dx, vs, rfl, h4, h5⟩ := insOf_rep i1.ok r1 h1
    exact ⟨p, c, dx, vs, wf, d, S1, Hi1, rfl, h4, h5.no M.no, h2, i1, s1, r1, q1⟩
  · subst ex
    obtain rfl : v = Value.ref p := rx
    obtain ⟨fa, hc, hm, F⟩ := M.ok c wf hw
    refine getmeth_ok I1 ea (by rw [C.K]; exact hc) (by rw [C.K]; exact hm) hl ?_
    refine PySem.W.callWith_K (first := [.ref p]) (h₀ := X.base) I.ok.mod.kin (by rw [C.K]; exact hm.kp) (thn (ha.run pos pins s1 σ H1 _ I1 (liftA_of i1 (sl.mono s1') q1 (hx.mono s1'))) fun us s2 ⟨vs2, H2, I2, r2, ds, S2, Hi2, i2, s2', r2', q2⟩ => ⟨I2.kIn, ?_⟩) hst hpl
    exact run_d (us := .ref p :: us) (vs := .ref p :: vs2) (ds := d :: ds) C F hr I2 (.cons rfl r2) i2 ⟨r1.mono s2', r2'⟩ q2 (KOk.mono hQ (s1'.trans s2')) ((hx.mono s1').mono s2')
theorem de_meth0 (C : Cxt X g e W) (M : MethOk g X.prog X.w X.base k m ms) (hr : Room k X.A) (hf : PE X b (lift g e W f))
    (ht : eval (.Call (.Attribute b m apos) [] [] pos) X.env = (do
      let ov ← eval b X.env
      standAt apos.atName
      let (f, first) ← holding [ov] (getMethod ov m pl)
      callWith pos f first (backTo pos (starEach [] X.env)) (backToKw pos (keywordEach [] X.env))) := by rfl) : PE X (.Call (.Attribute b m apos) [] [] pos) (lift g e W (dMeth ms f dNil)) := by
  refine ⟨fun pins s σ H Q I ⟨ρ, Hi, S, k1, E, i, sl, q, hQ, hx⟩ => ?_⟩
  refine PySem.W.methodCall_KW (pl := pl) (thn (hf.run pins s σ H (fun x H1 => ∃ p c dx vs wf d S1 Hi1, x = .ref p ∧ H1 p = some (.ins (g.ca c) dx vs) ∧ vs.lookup m = none ∧ ms.lookup c = some wf ∧ Is g e H1 Hi1 S1 ∧ Same Hi Hi1 ∧ Rep g Hi1 (.ref p) d ∧ wf [d] S1 k1 E) I
    ⟨ρ, Hi, S, _, E, i, sl, q, fun d S1 v H1 Hi1 i1 s1 r1 ⟨c, fs, wf, h1, h2, q1⟩ => ?_, hx⟩) fun v s1 ⟨x, H1, I1, rx, p, c, dx, vs, wf, d, S1, Hi1, ex, ea, hl, hw, i1, s1', r1, q1⟩ => ?_) ht
  · obtain ⟨p, dx, vs, rfl, h4, h5⟩ := insOf_rep i1.ok r1 h1
    exact ⟨p, c, dx, vs, wf, d, S1, Hi1, rfl, h4, h5.no M.no, h2, i1, s1, r1, q1⟩
  · subst ex
    obtain rfl : v = Value.ref p := rx
    obtain ⟨fa, hc, hm, F⟩ := M.ok c wf hw
    refine getmeth_ok I1 ea (by rw [C.K]; exact hc) (by rw [C.K]; exact hm) hl ?_
    exact PySem.W.callWith_K0 (first := [.ref p]) I1.kIn (by rw [C.K]; exact hm.kp) (run_d (us := [.ref p]) (vs := [.ref p]) (ds := [d]) C F hr I1 (.cons rfl .nil) i1 ⟨r1, trivial⟩ q1 (KOk.mono hQ s1') (hx.mono s1'))
end

/-! ### properties -/
structure PropOk (g : Gx) (P : Program) (w : World) (base : Heap) (k : Nat) (m : Str) (ms : List (Nat × DFn)) : Prop where
  ok : ∀ c wf, ms.lookup c = some wf → ∃ pa f, Cls g.K (g.ca c) ∧ PropOf g.K (g.ca c) m pa f ∧ DFnR g P w base k f wf
def OneP (g : Gx) (P : Program) (w : World) (base : Heap) (k : Nat) (m : Str) (c : Nat) (wf : DFn) : Prop := ∃ pa f, Cls g.K (g.ca c) ∧ PropOf g.K (g.ca c) m pa f ∧ DFnR g P w base k f wf
theorem PropOk.nil {g : Gx} {P : Program} {w : World} {base : Heap} {k : Nat} {m : Str} : PropOk g P w base k m [] := ⟨fun _ _ h => by cases h⟩
theorem PropOk.cons {g : Gx} {P : Program} {w : World} {base : Heap} {k : Nat} {m : Str} {c : Nat} {wf : DFn} {ms : List (Nat × DFn)} (h : OneP g P w base k m c wf) (t : PropOk g P w base k m ms) : PropOk g P w base k m ((c, wf) :: ms) := by
  refine ⟨fun c' wf' q => ?_⟩
  by_cases hc : c' = c
  · subst hc
    simp at q
    subst q
    exact h
  · have b : (c' == c) = false := by simpa using hc
    have l : ((c, wf) :: ms).lookup c' = ms.lookup c' := by simp [List.lookup, b]
    rw [l] at q
    exact t.ok c' wf' q
theorem OneP.mono {g : Gx} {P : Program} {w : World} {base : Heap} {j k : Nat} {m : Str} {c : Nat} {wf : DFn} (h : OneP g P w base j m c wf) (l : j ≤ k) : OneP g P w base k m c wf :=
  let ⟨pa, f, h1, h2, h3⟩ := h
  ⟨pa, f, h1, h2, h3.mono l⟩
section
variable {X : Cx} {g : Gx} {e : En} {W : WX} {a b c : Expr} {pos apos : Pos} {f : DE} {m : Str} {ms : List (Nat × DFn)} {k : Nat}
def dProp (ms : List (Nat × DFn)) (f : DE) : DE := fun ρ S k E => f ρ S (fun x S1 => ∃ c fs wf, insOf S1 x = some (c, fs) ∧ ms.lookup c = some wf ∧ wf [x] S1 k fun _ _ _ => False) E
theorem prop_run {pins : List (Addr × Obj)} {σ : L2.St} {H Hi : Hp} {S : Sto} {s : Shared} {Q : VK} {bb : Bool} {p dx pa fa : Addr} {cn : Nat} {vs : List (Str × V)} {wf : DFn} {d : D} {k1 : K1} (C : Cxt X g e W) (I : Inv X pins σ H s) (ea : H p = some (.ins (g.ca cn) dx vs))
    (c : Cls g.K (g.ca cn)) (hp : PropOf g.K (g.ca cn) m pa fa) (F : DFnR g X.prog X.w X.base k fa wf) (hr : Room (k + 1) X.A) (i : Is g e H Hi S) (r : Rep g Hi (.ref p) d) (q : wf [d] S k1 fun _ _ _ => False) (hk : KOk g e Hi k1 Q) :
    wpAny (model X.prog X.w) X.A (getAttr (.ref p) m bb) (EP X pins σ Q) X.xe s := by
  rw [← C.K] at c hp
  obtain ⟨mA, O, _, _, _, _⟩ := ins_get I.hok ea
  obtain ⟨od, J, _⟩ := O.look
  obtain ⟨rest, hrec⟩ := hp.rec_
  have I1 := I.tok (s.toks + 1)
  have hc : (PySem.W.clsIn X.K (g.ca cn)).isSome = true := by
    obtain ⟨cd, hc, _⟩ := PySem.W.any_some c.hd
    rw [hc]
    rfl
  refine PySem.W.get_bind I.kIn J (PySem.W.plainGet_of (c.get m)).1 (PySem.W.findObj_data hc hp.at_ hp.get hp.tak) (PySem.W.plainGet_of (c.get m)).2 (wpAny_call (PySem.W.prop_get (s := { s with toks := s.toks + 1 }) I.kIn hrec ?_))
  have hg : X.A.in1.guards = some [] := by
    have e1 : X.A.in1.guards = X.A.guards := by first | rfl | simp [Around.in1, Around.under, Code.guards, Code.isGuard, guardIds, pushGuards]
    rw [e1]; exact C.gd
  have hsp : spD g wf [.ref p] H Q (fun _ _ _ => False) := ⟨[d], Hi, S, k1, _, i.ok, ⟨r, trivial⟩, q, fun d' S' v H' Hi' o x r' q' => hk d' S' v H' Hi' (i.next o x) x.imm r' q', fun _ _ _ _ _ _ _ _ _ _ z => z⟩
  refine codeAny_mono (FnR.to C F X.A.in1 X.stack { s with toks := s.toks + 1 } H [.ref p] [.ref p] Q _ hr.in1 hg I1.env0.in1 (.cons rfl .nil) hsp) fun r s' hq => ?_
  match r, hq with
  | .error er, hq =>
    obtain ⟨_, _, _, _, _, _, _, _, _, _, _, _, z⟩ := hq
    exact z.elim
  | .ok (.ret u), hq =>
    obtain ⟨v, H', I3, rv, q3⟩ := I1.after hq
    show wpAny _ _ (handedOut u) _ _ _
    rw [PySem.W.handedOut_of (handed_of rv)]
    exact wpAny_pure ⟨v, H', I3, rv, q3⟩
  | .ok .next, hq => exact hq.elim
  | .ok .brk, hq => exact hq.elim
  | .ok .cont, hq => exact hq.elim
/-- x.m, a property -/
theorem de_prop (C : Cxt X g e W) (M : PropOk g X.prog X.w X.base k m ms) (hr : Room (k + 1) X.A) (hf : PE X a (lift g e W f)) (hab : attributeBase a m X.env (eval a X.env) = eval a X.env := by rfl) : PE X (.Attribute a m pos) (lift g e W (dProp ms f)) := by
  refine ⟨fun pins s σ H Q I ⟨ρ, Hi, S, k1, E, i, sl, q, hQ, hx⟩ => ?_⟩
  refine attr_of hab (thn (hf.run pins s σ H (fun x H1 => ∃ p c dx vs wf d S1 Hi1, x = .ref p ∧ H1 p = some (.ins (g.ca c) dx vs) ∧ ms.lookup c = some wf ∧ Is g e H1 Hi1 S1 ∧ Same Hi Hi1 ∧ Rep g Hi1 (.ref p) d ∧ wf [d] S1 k1 fun _ _ _ => False) I
    ⟨ρ, Hi, S, _, E, i, sl, q, fun d S1 v H1 Hi1 i1 s1 r1 ⟨c, fs, wf, h1, h2, q1⟩ => ?_, hx⟩) fun v s1 ⟨x, H1, I1, rx, p, c, dx, vs, wf, d, S1, Hi1, ex, ea, hw, i1, s1', r1, q1⟩ => ?_)
  · obtain ⟨p, dx, vs, rfl, h4, h5⟩ := insOf_rep i1.ok r1 h1
    exact ⟨p, c, dx, vs, wf, d, S1, Hi1, rfl, h4, h2, i1, s1, r1, q1⟩
  · subst ex
    obtain rfl : v = Value.ref p := rx
    obtain ⟨pa, fa, hc, hm, F⟩ := M.ok c wf hw
    exact prop_run C I1 ea hc hm F hr i1 r1 q1 (KOk.mono hQ s1')
end

/-! ### what type a value has; isinstance -/
inductive TyD where
  | b (n : String)
  | own (c : Nat)
def tyOf (S : Sto) : D → Option TyD
  | .non => some (.b "NoneType")
  | .bl _ => some (.b "bool")
  | .int _ => some (.b "int")
  | .str _ => some (.b "str")
  | .tup _ => some (.b "tuple")
  | .lst _ => some (.b "list")
  | .scr _ => some (.b "list")
  | .dct _ => some (.b "dict")
  | .obj c _ => some (.own c)
  | .opq (.ref p) => match S p with
    | some (.lst _) => some (.b "list")
    | some (.dct _) => some (.b "dict")
    | some (.ins c _) => some (.own c)
    | some (.exc _ _) => none
    | none => none
  | _ => none
def TyD.v (g : Gx) : TyD → Value
  | .b n => .type n
  | .own c => .ref (g.ca c)
/-- a class as isinstance takes it -/
structure ClsI (g : Gx) (c : Nat) : Prop where
  cl : Cls g.K (g.ca c)
  ha : PySem.W.findIn g.K (.ref (g.ca c)) "__class__" = some (some (.builtin "object.__class__"))
  hn : PySem.W.specialIn g.K (.builtin "object.__class__") "__get__" = some (some (.builtin "getset_descriptor.__get__"))
  htk : PySem.W.takesIn g.K (.builtin "object.__class__") = some true
  hm : PySem.W.mroIn g.K (g.ca c) (.type "object") = some true
theorem tyX_seqL {g : Gx} {H : Hp} {a : Addr} {xs : List V} (h : SqL g.K H a xs) : TyX g.K H (.ref a) (.type "list") := by
  rcases h with (h | ⟨o, h⟩) | ⟨o, its, n, h, hc, _⟩
  · exact .base (.lst h)
  · exact .base (.frz h)
  · exact .kList h hc
theorem tyX_seqT {g : Gx} {H : Hp} {a : Addr} {xs : List V} (h : SqT g.K H a xs) : TyX g.K H (.ref a) (.type "tuple") := by
  rcases h with (h | ⟨o, h⟩) | ⟨o, its, n, h, hc, _⟩
  · exact .base (.tup h)
  · exact .fTuple h
  · exact .kTuple h hc
theorem tyOf_rep {g : Gx} {H Hi : Hp} {S : Sto} {v : V} {d : D} {t : TyD} (k : Ok g H Hi S) (r : Rep g Hi v d) (h : tyOf S d = some t) (hc : ∀ c, t = .own c → ClsI g c) : TyX g.K H v (t.v g) := by
  have own : ∀ {a dx : Addr} {c : Nat} {vs : List (Str × V)}, H a = some (.ins (g.ca c) dx vs) → t = .own c → TyX g.K H (.ref a) (t.v g) := fun {a dx c vs} q e => by
    have z := hc c e
    subst e
    exact .base (.ins q z.cl z.ha z.hn z.htk z.hm)
  cases d with
  | non => cases h; have r : v = .non := r; subst r; exact .base .non
  | bl b => cases h; have r : v = .bl b := r; subst r; exact .base (.bl b)
  | int b => cases h; have r : v = .int b := r; subst r; exact .base (.int b)
  | str b => cases h; have r : v = .str b := r; subst r; exact .base (.str b)
  | tup ds => cases h; obtain ⟨a, xs, rfl, h1, _⟩ := r; exact tyX_seqT (SqT.of (k.sub _ _ h1))
  | lst ds => cases h; obtain ⟨a, xs, rfl, h1, _⟩ := r; exact .base (.lst (k.sub _ _ h1))
  | scr ds => cases h; obtain ⟨a, xs, rfl, h1, _⟩ := r; exact tyX_seqL (k.sub.seq h1)
  | dct ds => cases h; obtain ⟨a, xs, rfl, h1, _⟩ := r; exact .base (.dK (k.sub _ _ h1))
  | obj c fs =>
    obtain ⟨a, dx, vs, rfl, h1, _⟩ := r
    exact own (k.sub _ _ h1) (Option.some.inj h).symm
  | cls c => cases h
  | opq u =>
    cases u with
    | ref p =>
      have r : v = .ref p := r
      subst r
      have h : (match S p with
        | some (.lst _) => some (TyD.b "list")
        | some (.dct _) => some (.b "dict")
        | some (.ins c _) => some (.own c)
        | some (.exc _ _) => none
        | none => none) = some t := h
      cases q : S p with
      | none => rw [q] at h; cases h
      | some z =>
        rw [q] at h
        cases z with
        | lst ds => cases h; obtain ⟨xs, h1, _⟩ := (k.cell p _ q).2; exact .base (.lst h1)
        | dct ds => cases h; obtain ⟨xs, h1, _⟩ := (k.cell p _ q).2; exact .base (.dK h1)
        | ins c fs => obtain ⟨dx, vs, h1, _⟩ := (k.cell p _ q).2; exact own h1 (Option.some.inj h).symm
        | exc c fs => cases h
    | _ => cases h
/-- isinstance(.., T): an answer for each type -/
structure IsiOk (g : Gx) (tab : TyD → Option Bool) (u : Value) : Prop where
  ok : ∀ t b, tab t = some b → PySem.W.kitOne g.K (t.v g) u = some b ∧ ∀ c, t = .own c → ClsI g c
section
variable {X : Cx} {g : Gx} {e : En} {W : WX} {a b c : Expr} {pos p1 p2 : Pos} {f : DE} {x : Str} {tab : TyD → Option Bool}
def dIsi (tab : TyD → Option Bool) (f : DE) : DE := fun ρ S k E => f ρ S (fun x S1 => ∃ t b, tyOf S1 x = some t ∧ tab t = some b ∧ k (.bl b) S1) E
theorem isi_imp {v : V} {u : Value} (C : Cxt X g e W) (hv : ClsV v u) (T : IsiOk g tab u) {tt : TE} (ht : ∀ σ H Q, Q v H → tt σ H Q) : ∀ σ H Q, lift g e W (dIsi tab f) σ H Q → tCB (rIsi X.K) (tCons (lift g e W f) (tCons tt tNil)) σ H Q := by
  rintro σ H Q ⟨ρ, Hi, S, k, E, i, sl, q, hk, hx⟩
  refine ⟨ρ, Hi, S, _, E, i, sl, q, fun d S1 y H1 Hi1 i1 s1 r1 ⟨t, bb, h1, h2, q1⟩ => ?_, hx⟩
  refine ht σ H1 _ ?_
  obtain ⟨h3, h4⟩ := T.ok t bb h2
  refine ⟨y, v, t.v g, u, bb, rfl, hv, by rw [C.K]; exact tyOf_rep i1.ok r1 h1 h4, by rw [C.K]; exact h3, hk (.bl bb) S1 _ H1 Hi1 i1 s1 rfl q1⟩
/-- isinstance(x, T), T a built-in type -/
theorem de_isiB {T : String} (C : Cxt X g e W) (TT : IsiOk g tab (.type T)) (hg : Gl X "isinstance") (hm : g.mg "isinstance" = none) (hT : Gl X x) (hmT : g.mg x = none) (hbT : bootBuiltins x = some (.type T)) (h : PE X a (lift g e W f)) (hnT : x ≠ "__name__" := by decide) (hdT : (x == ("__debug__" : Str)) = false := by decide)
    (hs : starEach [a, .Name x p2] X.env = (false, eval a X.env) :: starEach [.Name x p2] X.env := by rfl) (hs2 : starEach [.Name x p2] X.env = [(false, eval (.Name x p2) X.env)] := by rfl) : PE X (.Call (.Name "isinstance" p1) [a, .Name x p2] [] pos) (lift g e W (dIsi tab f)) :=
  (pe_callB call_isi hg (by rw [C.mg]; exact hm) PyProof.Rows.boot_isinstance (pa_cons h (pa_cons (pe_bltn hT (by rw [C.mg]; exact hmT) (v := .ty T) hbT rfl hnT hdT) pa_nil hs2) hs) (by decide) (by decide) hs (by rw [hs2]; rfl)).imp (isi_imp C (.ty T) TT fun σ H Q q => q)
/-- .. an own class -/
theorem de_isiC {cn : Nat} (C : Cxt X g e W) (TT : IsiOk g tab (.ref (g.ca cn))) (hg : Gl X "isinstance") (hm : g.mg "isinstance" = none) (hT : Gl X x) (hmT : g.mg x = some (.ref (g.ca cn))) (h : PE X a (lift g e W f)) (hdT : (x == ("__debug__" : Str)) = false := by decide)
    (hs : starEach [a, .Name x p2] X.env = (false, eval a X.env) :: starEach [.Name x p2] X.env := by rfl) (hs2 : starEach [.Name x p2] X.env = [(false, eval (.Name x p2) X.env)] := by rfl) : PE X (.Call (.Name "isinstance" p1) [a, .Name x p2] [] pos) (lift g e W (dIsi tab f)) :=
  (pe_callB call_isi hg (by rw [C.mg]; exact hm) PyProof.Rows.boot_isinstance (pa_cons h (pa_cons (pe_glob hT (by rw [C.mg]; exact hmT) (v := .ref (g.ca cn)) rfl hdT) pa_nil hs2) hs) (by decide) (by decide) hs (by rw [hs2]; rfl)).imp (isi_imp C (.own (g.ca cn)) TT fun σ H Q q => q)
end
end DL
end
/-! ## DL9 -/
section
set_option Elab.async false
set_option linter.all false
set_option maxRecDepth 100000
set_option maxHeartbeats 2000000
namespace DL
open PySem PySem.Spec PyProof.Rows L2
section
variable {X : Cx} {g : Gx} {e : En} {W : WX} {a b c : Expr} {pos : Pos} {f f' f'' : DE}
/-! ### a < b < c -/
theorem de_chn {op op' : CmpOp} {r r' : R2} {h h' : DOp} (ho : OpR X (compareOp op) r) (o : OpOk g e r h) (ho' : OpR X (compareOp op') r') (o' : OpOk g e r' h') (ha : PE X a (lift g e W f)) (hb : PE X b (lift g e W f')) (hc : PE X c (lift g e W f''))
    (hm : lastMarks [op, op'] [b, c] = false := by with_unfolding_all rfl) : PE X (.Compare a [op, op'] [b, c] pos) (lift g e W (dChn h h' f f' f'')) :=
  (pe_chain ho ho' ha hb hc hm).imp (chn_imp o o')
where
  chn_imp {r r' : R2} {h h' : DOp} (o : OpOk g e r h) (o' : OpOk g e r' h') : ∀ σ H Q, lift g e W (dChn h h' f f' f'') σ H Q → tChain r r' (lift g e W f) (lift g e W f') (lift g e W f'') σ H Q := by
    rintro σ H Q ⟨ρ, Hi, S, k, E, i, sl, q, hk, hx⟩
    refine ⟨ρ, Hi, S, _, E, i, sl, q, fun x S1 v H1 Hi1 i1 s1 r1 q1 => ?_, hx⟩
    refine ⟨ρ, Hi1, S1, _, E, i1, sl.mono s1, q1, fun y S2 w H2 Hi2 i2 s2 r2 q2 => ?_, hx.mono s1⟩
    refine o H2 Hi2 S2 v w x y _ _ i2 (r1.mono s2) r2 q2 fun d S3 u H3 Hi3 i3 s3 r3 ⟨bb, ed, q3⟩ => ?_
    subst ed
    refine ⟨bb, r3, ?_⟩
    cases bb with
    | false => exact hk (.bl false) S3 _ H3 Hi3 i3 ((s1.trans s2).trans s3) rfl q3
    | true =>
      refine ⟨ρ, Hi3, S3, _, E, i3, ((sl.mono s1).mono s2).mono s3, q3, fun z S4 u4 H4 Hi4 i4 s4 r4 q4 => ?_, ((hx.mono s1).mono s2).mono s3⟩
      exact o' H4 Hi4 S4 w u4 y z k Q i4 ((r2.mono s3).mono s4) r4 q4 fun d S' u' H' Hi' i' s' r' q' => hk d S' u' H' Hi' i' ((((s1.trans s2).trans s3).trans s4).trans s') r' q'
theorem dt_chn {op op' : CmpOp} {r r' : R2} {h h' : DOp} (ho : OpR X (compareOp op) r) (o : OpOk g e r h) (ho' : OpR X (compareOp op') r') (o' : OpOk g e r' h') (ha : PE X a (lift g e W f)) (hb : PE X b (lift g e W f')) (hc : PE X c (lift g e W f''))
    (hm : lastMarks [op, op'] [b, c] = false := by with_unfolding_all rfl) : PT X (.Compare a [op, op'] [b, c] pos) (liftT g e W (dTst (dChn h h' f f' f''))) :=
  (pt_chain ho ho' ha hb hc hm).imp fun σ H Q q => de_chn.chn_imp o o' σ H _ (liftTst (f := dChn h h' f f' f'') σ H Q q)
theorem de_one {op : BoolOp} {t : DE} (h : PE X a (lift g e W t)) : PE X (.BoolOp op [a] pos) (lift g e W t) := pe_one h
/-! ### the module's names -/
theorem de_gi {x : Str} {i : Int} {t : Tok} (C : Cxt X g e W) (hg : Gl X x) (hm : g.mg x = some (.int i t)) (hd : (x == ("__debug__" : Str)) = false := by decide) : PE X (.Name x pos) (lift g e W (dC (.int i))) :=
  de_c (pe_glob hg (by rw [C.mg]; exact hm) (v := .int i) ⟨t, rfl⟩ hd) fun _ => rfl
theorem de_gc {x : Str} {cn : Nat} (C : Cxt X g e W) (hg : Gl X x) (hm : g.mg x = some (.ref (g.ca cn))) (hd : (x == ("__debug__" : Str)) = false := by decide) : PE X (.Name x pos) (lift g e W (dC (.cls cn))) :=
  de_c (pe_glob hg (by rw [C.mg]; exact hm) (v := .ref (g.ca cn)) rfl hd) fun _ => rfl
end

/-! ### making, by the class that a name holds -/
structure MakeOk (g : Gx) (P : Program) (w : World) (base : Heap) (k : Nat) (ms : List (Nat × DFn)) : Prop where
  ok : ∀ c wf, ms.lookup c = some wf → ∃ f, Mk g.K (g.ca c) f ∧ DFnR g P w base k f wf
theorem MakeOk.one {g : Gx} {P : Program} {w : World} {base : Heap} {k c : Nat} {f : Addr} {wf : DFn} (M : Mk g.K (g.ca c) f) (F : DFnR g P w base k f wf) : MakeOk g P w base k [(c, wf)] := ⟨fun c' wf' h => by
  by_cases hc : c' = c
  · subst hc
    simp at h
    subst h
    exact ⟨f, M, F⟩
  · have b : (c' == c) = false := by simpa using hc
    simp [List.lookup, b] at h⟩
section
variable {X : Cx} {g : Gx} {e : En} {W : WX} {a b c : Expr} {pos apos p p2 : Pos} {fe : DE} {u : DA} {es : List Expr} {k : Nat} {imm : Bool} {ms : List (Nat × DFn)} {x m : Str}
/-- cls(*y) -/
def dMkLS (i : Nat) (ms : List (Nat × DFn)) (imm : Bool) (fe : DE) : DE := fun ρ S k E => ∃ c wf, ρ[i]? = some (some (.cls c)) ∧ ms.lookup c = some wf ∧ fe ρ S (fun d S1 => ∃ xs, seqOf S1 d = some xs ∧ dMk c imm wf xs S1 k E) E
theorem de_makeLS {i : Nat} (C : Cxt X g e W) (M : MakeOk g X.prog X.w X.base k ms) (hr : Room (k + 1) X.A) (hN : X.N[i]? = some x) (hv : Vis X.env.scope x) (ha : PE X a (lift g e W fe))
    (hdb : (x == ("__debug__" : Str)) = false := by decide) (hcd : (x == ("__classdict__" : Str)) = false := by decide) (hst : starEach [.Starred a p2] X.env = [(true, eval a X.env)] := by rfl) :
    PE X (.Call (.Name x p) [.Starred a p2] [] pos) (lift g e W (dMkLS i ms imm fe)) := by
  refine ⟨fun pins s σ H Q I ⟨ρ, Hi, S, k1, E, i', sl, ⟨c, wf, hρ, hms, q⟩, hQ, hx⟩ => ?_⟩
  obtain ⟨M1, F⟩ := M.ok c wf hms |>.choose_spec
  obtain ⟨v0, hv0, rv0⟩ := sl.2 _ _ hρ
  have rv0 : v0 = .ref (g.ca c) := rv0
  subst rv0
  refine wpAny_Call_Name_kw (thn ((pe_var (pos := p) hN hv hdb hcd).run pins s σ H (fun v H1 => v = .ref (g.ca c) ∧ H1 = H) I ⟨_, hv0, rfl, rfl⟩) fun u0 s0 ⟨v, H0, I0, r0, q0⟩ => ?_)
  obtain ⟨rfl, rfl⟩ := q0
  obtain rfl : u0 = Value.ref (g.ca c) := r0
  refine PySem.W.callWith_S (h₀ := X.base) I0.ok.mod.kin (by rw [C.K]; exact M1.kp) (thn (ha.run pins s0 σ H0 (fun y H1 => ∃ b vs ds S1 Hi1, y = .ref b ∧ (SqT g.K H1 b vs ∨ SqL g.K H1 b vs) ∧ Is g e H1 Hi1 S1 ∧ Same Hi Hi1 ∧ Reps g Hi1 vs ds ∧ dMk c imm wf ds S1 k1 E) I0
    ⟨ρ, Hi, S, _, E, i', sl, q, fun d S' v H' Hi' i' s' r' q' => ?_, hx⟩) fun v s1 ⟨y, H1, I1, ry, b, vs, ds, S1, Hi1, ey, hb, i1, s1', r1, q1⟩ => ?_) hst
  · obtain ⟨xs, h1, h2⟩ := q'
    obtain ⟨b, vs, h3, h4, h5⟩ := seqOf_rep i'.ok r' h1
    exact ⟨b, vs, xs, S', Hi', h3, h4, i', s', h5, h2⟩
  · subst ey
    obtain rfl : v = Value.ref b := ry
    exact StX.star_any I1 (by rw [C.K]; exact hb) fun us s2 I2 rv => ⟨I2.kIn, run_mk C M1 F hr I2 rv i1 r1 q1 (KOk.mono hQ s1') (hx.mono s1')⟩
/-- C.m(..), m a classmethod -/
def dCMeth (cn : Nat) (wf : DFn) (u : DA) : DE := fun ρ S k E => u ρ S (fun ds S1 => wf (.cls cn :: ds) S1 k E) E
theorem de_cmeth {cn : Nat} {wf : DFn} {mc : Value} {pa fa : Addr} {pl : Sem Bool} (C : Cxt X g e W) (R : ClX.CRead g.K (g.ca cn) mc) (T : ClX.CMet g.K (g.ca cn) mc m pa fa) (F : DFnR g X.prog X.w X.base k fa wf) (hr : Room k X.A)
    (hg : Gl X x) (hm : g.mg x = some (.ref (g.ca cn))) (ha : PA X (a :: es) (liftA g e W u)) (hdb : (x == ("__debug__" : Str)) = false := by decide)
    (hst : starEach (a :: es) X.env = (false, eval a X.env) :: starEach es X.env := by rfl) (hpl : (backTo pos (starEach es X.env)).any (·.1) = false := by rfl)
    (ht : eval (.Call (.Attribute (.Name x p) m apos) (a :: es) [] pos) X.env = (do
      let ov ← eval (.Name x p) X.env
      standAt apos.atName
      let (f, first) ← holding [ov] (getMethod ov m pl)
      callWith pos f first (backTo pos (starEach (a :: es) X.env)) (backToKw pos (keywordEach [] X.env))) := by rfl) : PE X (.Call (.Attribute (.Name x p) m apos) (a :: es) [] pos) (lift g e W (dCMeth cn wf u)) := by
  rw [← C.K] at R T
  refine ⟨fun pins s σ H Q I ⟨ρ, Hi, S, k1, E, i, sl, q, hQ, hx⟩ => ?_⟩
  refine PySem.W.methodCall_KW (pl := pl) (ld_glob I hg (by rw [C.mg]; exact hm) ?_ hdb) ht
  refine ClX.getmethcm_ok I R T fun s2 I2 => ?_
  refine ClX.callwith_cm I2 (ClX.base_none I (Nat.le_refl _)) T.fi (thn (ha.run pos _ s2 σ H _ I2 (liftA_of i sl q hx)) fun us s3 ⟨vs, H2, I3, rv, ds, S1, Hi1, i1, s1', r1, q1⟩ => ⟨⟨ClX.pin_at I3, I3.kIn⟩, ?_⟩) hst hpl
  have z := run_g (σ := σ) (us := .ref (g.ca cn) :: us) (vs := .ref (g.ca cn) :: vs) (FnR.to C F) hr C.gd (C.pass σ) I3 (.cons rfl rv) (spD_of (ds := .cls cn :: ds) (σ := σ) (W := W) i1 ⟨rfl, r1⟩ q1 (KOk.mono hQ s1') (hx.mono s1'))
  have z2 := wpAny_call (PySem.W.method_call (ClX.pin_at I3) z)
  exact thn z2 fun _ _ y => ClX.unpinE y
end

/-! ### enumerate(tuple) -/
theorem new_enum1 {v : Value} {o : Obj} {Hd : Heap → Prop} (B : Begins v o Hd) :
    Meets (Builtin.«enumerate.__new__» ⟨[.type "enumerate", v], []⟩) (fun _ R s => Hd s.heap ∧
      R (.ok (.ret (.ref (s.heap.push o).objs.size))) { s with heap := (s.heap.push o).push { cls := .type "enumerate", data := .fields #[.none, .bool false, .ref s.heap.objs.size, rawInt 0, .none, .none] } }) :=
  .of_wp fun prog w A R s h => by
    obtain ⟨hp, gs, dr, tk, os⟩ := s
    obtain ⟨h1, h⟩ := h
    have hsub := sub_enumerate
    have it1 : ∀ {A' : Around} {E : Value → Shared → Prop} {Q : Value → Shared → Prop}, Q (.ref hp.objs.size) ⟨hp.push o, gs, dr, tk, os⟩ → wpAny (model prog w) A' (pyIter v) Q E ⟨hp, gs, dr, tk, os⟩ :=
      fun z => B.iter prog w _ _ ⟨hp, gs, dr, tk, os⟩ _ h1 z
    wp_walk using it1
    refine wpAny_stack_any fun st => wpAny_pure ?_
    split
    · rename_i cc _ _ _ _ _
      cases (cc == Value.type "enumerate") <;> (wp_walk using it1; exact ⟨_, rfl, h⟩)
    · wp_walk using it1
      exact ⟨_, rfl, h⟩
theorem call_enum1 {prog : Program} {w : World} {A : Around} {E : Value → Shared → Prop} {s : Shared} {v : Value} {o : Obj} {Hd : Heap → Prop} {Q : Value → Shared → Prop} (B : Begins v o Hd) (h1 : Hd s.heap)
    (h : ∀ h', IsEnum h' (s.heap.objs.size + 1) s.heap.objs.size 0 .none → h'.get? s.heap.objs.size = some o → (∀ b o, s.heap.get? b = some o → h'.get? b = some o) → Q (.ref (s.heap.objs.size + 1)) { s with heap := h' }) :
    wpAny (model prog w) A (call (.type "enumerate") [v]) Q E s := by
  refine callType_new F.called_enumerate (by decide) (F.typeCall_enumerate_1 _) (F.newCall_enumerate_1 _) (fun obj => F.args_object_init_2 obj _) F.entry_enumerate_new (new_enum1 B) ⟨h1, ?_⟩
  obtain ⟨n, hn⟩ : ∃ n, n = s.heap.objs.size := ⟨_, rfl⟩
  have hz : (s.heap.push o).objs.size = n + 1 := by rw [hn]; exact Heap.size_push ..
  show _ ∧ _
  rw [hz, ← hn]
  obtain ⟨oe, hoe⟩ : ∃ oe : Obj, oe = { cls := .type "enumerate", data := .fields #[.none, .bool false, .ref n, rawInt 0, .none, .none] } := ⟨_, rfl⟩
  rw [← hoe]
  have he : ((s.heap.push o).push oe).get? (n + 1) = some oe := by
    rw [← hz]
    exact Heap.get?_push_size _ (by rw [hoe]; rfl)
  have ho : ((s.heap.push o).push oe).get? n = some o := by
    rw [hn]
    exact Heap.get?_push_of_some _ (Heap.get?_push_size _ B.free)
  rw [← hn] at h
  refine ⟨⟨oe, he, by rw [hoe]⟩, h _ (by show _ = _; rw [he, hoe]) ho fun b u q => Heap.get?_push_of_some _ (Heap.get?_push_of_some _ q)⟩
/-- pairs of the places and the items of the tuple at a -/
def ItTE (K : PySem.W.Frag) (a : Addr) : It :=
  ⟨fun i H => ∃ (xs : List V) (x : V), SqT K H a xs ∧ xs[i]? = some x, fun i H v H' => ∃ T x, v = .ref T ∧ H T = none ∧ H' = upd H T (.tup [.int (i : Nat), x]) ∧ ∀ xs, SqT K H a xs → xs[i]? = some x, fun i H => ∃ xs : List V, SqT K H a xs ∧ xs.length ≤ i⟩
theorem turn_enumT {P : Program} {w : World} {K : PySem.W.Frag} {elts : List Expr} {kk : Nat} {tpos : Pos} (a e it : Addr) :
    Turn P w K (.Tuple elts kk tpos) (ItTE K a) [e, it] e (fun i h => (∃ old, IsEnum h e it ((i : Nat) : Int) old) ∧ h.IsTupleIter it a i ∧ e ≠ it) where
  mem := by simp
  obj := fun i h st b hb => by
    obtain ⟨⟨old, he⟩, ⟨o, ho, hc, hd⟩, _⟩ := st
    have e' : b = e ∨ b = it := by simpa using hb
    rcases e' with z | z
    · subst z; exact ⟨_, he, fun v q => nomatch q⟩
    · subst z; exact ⟨o, ho, fun v q => by rw [hd] at q; cases q⟩
  keep := fun i h h' st k => by
    obtain ⟨⟨old, he⟩, ⟨o, ho, r⟩, hne⟩ := st
    exact ⟨⟨old, k e (by simp) _ he⟩, ⟨o, k it (by simp) _ ho, r⟩, hne⟩
  item := by
    intro X hP hw hK hc i pins s σ H E I hf st hg
    subst hP hw hK
    obtain ⟨⟨old, he⟩, hit, hne⟩ := st
    obtain ⟨xs, x, hq, hx⟩ := hg
    obtain ⟨its, rv, p, hz⟩ := I.tuple hq
    obtain ⟨u, hu, ru⟩ := rv.get hx
    have hel : e < s.heap.objs.size := Heap.lt_size he
    have hil : it < s.heap.objs.size := by obtain ⟨_, q, _⟩ := hit; exact Heap.lt_size q
    have hti : a ≠ it := by
      intro z
      subst z
      obtain ⟨o1, q1, c1, _⟩ := p
      obtain ⟨o2, q2, c2, _⟩ := hit
      rw [q1] at q2
      cases q2
      rw [c1] at c2
      exact absurd c2 (by decide)
    have hlt : i < its.toArray.size := by
      have := (List.getElem?_eq_some_iff.mp hu).1
      rw [List.size_toArray]; exact this
    have hea : e ≠ a := by
      intro z
      subst z
      obtain ⟨o1, q1, c1, _⟩ := p
      rw [he] at q1
      cases q1
      exact absurd (show Value.type "enumerate" = .type "tuple" from c1) (by decide)
    refine wpAny_pyNext_enum_itemC (Draws.tuple (A := X.A.in1) (I.ok.hd hc) it a hti its.toArray) he ⟨hit, p⟩ hlt hne (by simp [hne, hea]) fun x' h' tk hP ho hst hT hsz hk => ?_
    have ex : x' = u := by
      have h1 : its.toArray[i]? = some x' := hP
      rw [List.getElem?_toArray, hu] at h1
      exact (Option.some.inj h1).symm
    subst ex
    refine ⟨_, rfl, wpAny_letOwnedTupleGo_enum (s := { s with heap := h', toks := tk + 1 }) ho fun h'' he' sb => ?_⟩
    have hT2 : h''.get? s.heap.objs.size = some { cls := .type "tuple", data := .seq #[.int i tk, x'] } := (sb.2 _ (Nat.ne_of_gt hel)).trans hT
    have new : ObjOk X.prog X.w (upd H s.heap.objs.size (.tup [.int (i : Nat), x])) h'' s.heap.objs.size (.tup [.int (i : Nat), x]) :=
      ⟨by show 2 ≤ sizeLine; decide, [.int i tk, x'], .cons ⟨_, rfl⟩ (.cons ru .nil), ⟨_, hT2, rfl, _, rfl⟩⟩
    have I1 : Inv X pins σ (upd H s.heap.objs.size (.tup [.int (i : Nat), x])) { s with heap := h'', toks := tk + 1 } :=
      I.turnedNew (ch := [e, it]) (fun b ob hb q => (sb.2 b (fun z => hb (by simp [z]))).trans (hk b ob (fun z => hb (by simp [z])) (fun z => hb (by simp [z])) q)) hf (Nat.le_refl _) new
    obtain ⟨⟨oi, hoi, ri⟩, _⟩ := hst
    refine ⟨.ref s.heap.objs.size, _, I1, rfl, ⟨_, x, rfl, I.hok.fresh (Nat.le_refl _), rfl, fun ys hy => ?_⟩, ⟨⟨x', ?_⟩, ⟨oi, (sb.2 it (Ne.symm hne)).trans hoi, ri⟩, hne⟩, fun b hb => ?_⟩
    · rw [I.tuple_inj hy hq]; exact hx
    · have e1 : ((i + 1 : Nat) : Int) = (i : Int) + 1 := by omega
      rw [e1]; exact he'
    · have hb' : b < s.heap.objs.size := by
        have e' : b = e ∨ b = it := by simpa using hb
        rcases e' with z | z
        · rw [z]; exact hel
        · rw [z]; exact hil
      rw [upd_ne (Nat.ne_of_lt hb')]
      exact (hf b hb).1
  done := by
    intro X hP hw hK hc i pins s σ H E I hf st hg
    subst hP hw hK
    obtain ⟨⟨old, he⟩, hit, hne⟩ := st
    obtain ⟨xs, hq, hx⟩ := hg
    obtain ⟨its, rv, p, hz⟩ := I.tuple hq
    obtain ⟨f0, f1, f2, f3, f4, f5⟩ := hf it (by simp)
    have hl := rv.length
    have hT : s.TypeIs (.ref e) "enumerate" := ⟨_, he, rfl⟩
    unfold pyNext
    refine wpAny_bind (wpAny_attempt (wpAny_callSpecial?_slot (name := Str.ofString "__next__") hT F.slot_enumerate_next (wpAny_call_entry F.slot_enumerate_next hT F.entry_enumerate_next ?_ (F.args_enumerate_next_1 _))))
    show wpAny _ _ (field (.ref e) 2 >>= _) _ _ _
    refine wpAny_bind (wpAny_field he rfl (x := .ref it) rfl (wpAny_bind (wpAny_nextOf_tuple_end (I.ok.hd hc) hit p (by simp; omega) fun h' x eb ⟨ox, hox, hcx⟩ => ?_)))
    exact wpAny_bind (wpAny_isInstance (T := "StopIteration") (b := true) ⟨ox, hox, hcx⟩ isSubtype_stop (wpAny_pure ⟨rfl, I.turned (t' := s.toks) (fun b o hb q => eb b o hb q) f0 f1 f3 f4 f5⟩))
  self := fun A i s Q E st h => let ⟨⟨_, he⟩, _⟩ := st; wpAny_pyIter_enum he h
section
variable {X : Cx} {g : Gx} {e : En} {W : WX} {a : Expr} {u : DA}
theorem walks_enumT {p : Addr} {xs : List V} {ds : List D} {Hi : Hp} (hq : SqT g.K Hi p xs) (r : Reps g Hi xs ds) : Walks g e (ItTE g.K p) Hi (enumD 0 ds) := by
  intro i H2 Hi2 S2 i2 s2
  have q2 := Same.tup i2.ok.sub (Same.tup s2 hq)
  refine ⟨fun h => ⟨xs, q2, by rw [r.length, ← enumD_length ds 0]; exact h⟩, fun d hd => ?_⟩
  obtain ⟨x, hx, e1⟩ := enumD_get ds 0 i d hd
  obtain ⟨v, h1, h2⟩ := r.get hx
  refine ⟨⟨xs, v, q2, h1⟩, fun y H3 ⟨T, z, e2, hT, e3, y3⟩ => ?_⟩
  have := y3 xs q2
  rw [h1] at this
  cases this
  subst e2 e3 e1
  obtain ⟨o3, x3, s3, _⟩ := i2.ok.new (o := .tup [.int ((i : Nat) : Int), v]) hT
  exact ⟨_, i2.next o3 x3, s3, ⟨T, _, rfl, upd_same, by rw [Nat.zero_add]; rfl, (h2.mono s2).mono s3, trivial⟩, x3⟩
def wEnumT (u : DA) : DA := fun ρ S k E => u ρ S (fun ds S1 => ∃ xs, ds = [.tup xs] ∧ k (enumD 0 xs) S1) E
theorem di_enumT {elts : List Expr} {kk : Nat} {p tpos pos : Pos} (C : Cxt X g e W) (hg : Gl X "enumerate") (hm : g.mg "enumerate" = none) (ha : PA X [a] (liftA g e W u)) (hs : starEach [a] X.env = [(false, eval a X.env)] := by rfl) :
    PI X (.Tuple elts kk tpos) (.Call (.Name "enumerate" p) [a] [] pos) (liftI g e W (wEnumT u)) := by
  refine ⟨fun pins s σ H R I ⟨ρ, Hi, S, k, E, i, sl, q, hk, hx⟩ => ?_⟩
  refine Call_ (ld_blt I hg (by rw [C.mg]; exact hm) boot_enumerate (PyProof.Rows.callWith_type1 (thn (ha.run pos pins s σ H _ I (liftA_of i sl q hx)) fun us s1 ⟨vs, H1, I1, r1, ds, S1, Hi1, i1, s1', rr, xs, e1, q1⟩ => ?_) hs rfl))
  subst e1
  obtain ⟨v, rfl, rv⟩ := Reps.one rr
  obtain ⟨t, ws, rfl, h1, h2⟩ := rv
  have hq : SqT X.K H1 t ws := SqT.of (i1.ok.sub _ _ h1)
  rw [Vals.ref1 r1]
  obtain ⟨its, rv, p', hz⟩ := I1.tuple hq
  refine call_enum1 (begins_tuple t its.toArray) p' fun h' he hit hk' => wpAny_pyIter_enum he ?_
  have I2 : Inv X pins σ H1 { s1 with heap := h' } := I1.kept (t' := s1.toks) hk'
  refine ⟨s1.heap.objs.size + 1, [s1.heap.objs.size + 1, s1.heap.objs.size], _, ItTE X.K t, H1, rfl, I2, turn_enumT t (s1.heap.objs.size + 1) s1.heap.objs.size, ⟨⟨.none, he⟩, ⟨_, hit, rfl, rfl⟩, Nat.succ_ne_self _⟩, fun b hb => ?_, ?_⟩
  · have hle : s1.heap.objs.size ≤ b := by
      have e' : b = s1.heap.objs.size + 1 ∨ b = s1.heap.objs.size := by simpa using hb
      rcases e' with z | z
      · rw [z]; exact Nat.le_succ _
      · rw [z]; exact Nat.le_refl _
    exact I1.fpOk hle (I1.hok.fresh hle)
  · rw [C.K]
    exact hk _ S1 _ H1 Hi1 i1 s1' (fun e' => walks_enumT (SqT.of h1) h2) q1
end
end DL
end
/-! ## DL10 -/
section
set_option Elab.async false
set_option linter.all false
set_option maxRecDepth 100000
set_option maxHeartbeats 2000000
namespace DL
open PySem PySem.Spec PyProof.Rows L2
section
open PySem.W
variable {prog : Program} {w : World} {M : Model} {A : Around} {E : Value → Shared → Prop} {s : Shared} {K : Frag} {x y C C' f f' : Addr} {ox oy : Obj} {od od' : Option Obj}
/-- neither name along the class's order -/
def noNum (K : Frag) (C : Addr) (nm : String) : Bool := (clsIn K C).any fun cd => cd.mro.all fun c => decide (findIn K c (PySem.dunder nm) = some none) && decide (findIn K c (PySem.dunderR nm) = some none)
theorem fills_no {h : Heap} {nm : String} (X : K.In h) (hn : noNum K C nm = true) : Looks M h (fillsNumberSlot (.ref C) nm) false := by
  obtain ⟨cd, hcd, hall⟩ := any_some hn
  intro A Q E s k q
  unfold fillsNumberSlot
  refine wpAny_bind ((looks_clsIn X hcd).andThen (f := fun cd => pure cd.mro) .now A _ E s k ?_)
  have X' : K.In s.heap := X.keeps k
  have go : ∀ l : List Value, (l.all fun c => decide (findIn K c (PySem.dunder nm) = some none) && decide (findIn K c (PySem.dunderR nm) = some none)) = true → wpAny M A (l.anyM fun c => do
      if let .type _ := c then return ← (do
        let f ← typeLookup c (PySem.dunder nm)
        let r ← typeLookup c (PySem.dunderR nm)
        return (f.isSome && !isSeqSlot f) || (r.isSome && !isSeqSlot r))
      [PySem.dunder nm, PySem.dunderR nm].anyM fun name => do
        let some x ← typeLookup c name | return false
        if !ownNameWrapper x name then return true
        return !(← inheritsSeqSlot c name)) Q E s := by
    intro l hl
    induction l with
    | nil => exact wpAny_pure q
    | cons c l ih =>
      rw [List.all_cons] at hl
      obtain ⟨h1, h2⟩ := Bool.and_eq_true_iff.mp hl
      obtain ⟨h3, h4⟩ := Bool.and_eq_true_iff.mp h1
      have L1 : Looks M s.heap (typeLookup c (PySem.dunder nm)) none := looks_findIn X' (of_decide_eq_true h3)
      have L2 : Looks M s.heap (typeLookup c (PySem.dunderR nm)) none := looks_findIn X' (of_decide_eq_true h4)
      rw [List.anyM_cons]
      refine wpAny_bind ?_
      have rest := ih h2
      have nx : wpAny M A ([PySem.dunder nm, PySem.dunderR nm].anyM fun name => do
        let some x ← typeLookup c name | return false
        if !ownNameWrapper x name then return true
        return !(← inheritsSeqSlot c name)) (fun b s' => b = false ∧ s' = s) E s := by
        rw [List.anyM_cons]
        refine wpAny_bind (wpAny_bind (L1.here (wpAny_pure ?_)))
        rw [if_neg Bool.false_ne_true, List.anyM_cons]
        refine wpAny_bind (wpAny_bind (L2.here (wpAny_pure ?_)))
        rw [if_neg Bool.false_ne_true]
        exact wpAny_pure ⟨rfl, rfl⟩
      have fin : ∀ b s', b = false ∧ s' = s → wpAny M A (if b = true then pure true else l.anyM fun c => do
        if let .type _ := c then return ← (do
          let f ← typeLookup c (PySem.dunder nm)
          let r ← typeLookup c (PySem.dunderR nm)
          return (f.isSome && !isSeqSlot f) || (r.isSome && !isSeqSlot r))
        [PySem.dunder nm, PySem.dunderR nm].anyM fun name => do
          let some x ← typeLookup c name | return false
          if !ownNameWrapper x name then return true
          return !(← inheritsSeqSlot c name)) Q E s' := by
        rintro b s' ⟨rfl, rfl⟩
        exact rest
      cases c with
      | type n =>
        refine wpAny_bind (L1.here (wpAny_bind (L2.here (wpAny_pure ?_))))
        exact fin _ _ ⟨rfl, rfl⟩
      | _ => exact wpAny_mono nx fin fun _ _ z => z
  exact go cd.mro hall
theorem fills_R {M : Model} {h : Heap} {nm : String} {cd : ClassData} {rest : List Value} {fc : Option Value} (X : K.In h) (hc : clsIn K C = some cd) (hm : cd.mro = .ref C :: rest) (hs : findIn K (.ref C) (dunderR nm) = some (some (.ref f))) (hr : findIn K (.ref C) (PySem.dunder nm) = some fc) (hp : fc = none ∨ ∃ z : Addr, fc = some (.ref z)) :
    Looks M h (fillsNumberSlot (.ref C) nm) true := by
  rcases hp with rfl | ⟨z, rfl⟩
  · intro A Q E s k q
    have X' : K.In s.heap := X.keeps k
    have L1 : Looks M s.heap (typeLookup (.ref C) (PySem.dunder nm)) none := looks_findIn X' hr
    have L2 : Looks M s.heap (typeLookup (.ref C) (dunderR nm)) (some (.ref f)) := looks_findIn X' hs
    unfold fillsNumberSlot
    refine wpAny_bind ((looks_clsIn X hc).andThen (f := fun cd => pure cd.mro) .now A _ E s k ?_)
    rw [hm, List.anyM_cons]
    refine wpAny_bind ?_
    show wpAny M A (List.anyM _ [PySem.dunder nm, dunderR nm]) _ _ _
    rw [List.anyM_cons]
    refine wpAny_bind (wpAny_bind (L1.here (wpAny_pure ?_)))
    rw [if_neg Bool.false_ne_true, List.anyM_cons]
    refine wpAny_bind (wpAny_bind (L2.here ?_))
    dsimp only
    rw [if_pos (show (!ownNameWrapper (.ref f) (dunderR nm)) = true from rfl)]
    refine wpAny_pure ?_
    rw [if_pos rfl]
    refine wpAny_pure ?_
    rw [if_pos rfl]
    exact wpAny_pure q
  · exact fills_K X hc hm hr
theorem inPy_R {M : Model} {h : Heap} {nm : String} {fc : Option Value} (X : K.In h) (hs : findIn K (.ref C) (dunderR nm) = some (some (.ref f))) (hr : findIn K (.ref C) (PySem.dunder nm) = some fc) (hp : fc = none ∨ ∃ z : Addr, fc = some (.ref z)) : Looks M h (numberSlotInPython (.ref C) nm) true := by
  intro A Q E s k q
  have X' : K.In s.heap := X.keeps k
  have L1 : Looks M s.heap (typeLookup (.ref C) (PySem.dunder nm)) fc := looks_findIn X' hr
  have L2 : Looks M s.heap (typeLookup (.ref C) (dunderR nm)) (some (.ref f)) := looks_findIn X' hs
  unfold numberSlotInPython
  rcases hp with rfl | ⟨z, rfl⟩
  · refine wpAny_bind (L1.here (wpAny_bind (wpAny_pure (wpAny_bind (L2.here (wpAny_bind (wpAny_pure ?_)))))))
    exact wpAny_pure q
  · refine wpAny_bind (L1.here (wpAny_bind (wpAny_pure (wpAny_bind (L2.here (wpAny_bind (wpAny_pure ?_)))))))
    exact wpAny_pure q
theorem try_ni {Q : Shared → Prop} {name : Str} {b : Value} (X : K.In s.heap) (I : InstAt s.heap x ox C od) (hs : findIn K (.ref C) name = some (some (.ref f))) (hf : isFn K (.ref f) = true)
    (h : wpAny M A (call (.ref f) [.ref x, b]) (fun v s' => v = .notImplemented ∧ Q s') E s) : wpAny M A (tryMethod (.ref x) name b) (fun r s' => r = none ∧ Q s') E s := by
  unfold tryMethod
  refine wpAny_bind (special_fn X I hs (beq_iff_eq.mp hf) (wpAny_mono h (fun v s' hv => ?_) fun _ _ e => e))
  obtain ⟨rfl, hq⟩ := hv
  exact wpAny_pure ⟨rfl, hq⟩
/-- a op b, a's class answers, b's class has neither method -/
theorem own_binA {op : Operator} {Q : Value → Shared → Prop} (X : K.In s.heap) (I : InstAt s.heap x ox C od) (J : InstAt s.heap y oy C' od') (hne : C ≠ C') (hc : selfFirst K C = true)
    (hs : findIn K (.ref C) (PySem.dunder op.info.2) = some (some (.ref f))) (hf : isFn K (.ref f) = true) (hn : noNum K C' op.info.2 = true)
    (h : wpAny (model prog w) A (call (.ref f) [.ref x, .ref y]) (PySem.W.CmpBack Q) E s) : wpAny (model prog w) A (binaryOp op (.ref x) (.ref y)) Q E s := by
  obtain ⟨cd, rest, hcd, hm⟩ := ksp_first hc
  rcases hi : op.info with ⟨sym, nm'⟩
  rw [hi] at hs hn
  dsimp only at hs hn
  have one := ksp_try X I hs hf h
  have K1 : Looks (model prog w) s.heap (typeOf (.ref x)) (.ref C) := I.type
  have K2 : Looks (model prog w) s.heap (typeOf (.ref y)) (.ref C') := J.type
  have K3 : Looks (model prog w) s.heap (fillsNumberSlot (.ref C) nm') true := fills_K X hcd hm hs
  have K4 : Looks (model prog w) s.heap (fillsNumberSlot (.ref C') nm') false := fills_no X hn
  have hne' : (Value.ref C == Value.ref C') = false := by simpa using hne
  simp only [binaryOp, hi]
  refine wpAny_holding (wpAny_bind ?_)
  unfold binaryOp1
  refine wpAny_bind (K1.here (wpAny_bind (K2.here (wpAny_bind (K3.here ?_)))))
  simp only [hne', Bool.false_eq_true, if_false]
  refine wpAny_bind (K4.here ?_)
  simp only [Bool.and_false, Bool.false_and, Bool.false_eq_true, if_false]
  refine wpAny_bind (wpAny_pure ?_)
  simp only [Bool.false_eq_true, if_false, if_true]
  refine wpAny_bind (wpAny_mono one (fun r s' hr => ?_) fun _ _ z => z)
  obtain ⟨v, rfl, hq⟩ := hr
  exact wpAny_pure (wpAny_pure hq)
/-- a op b: a's class hands it on, b's class answers the other way round -/
theorem own_binB {op : Operator} {Q : Value → Shared → Prop} (X : K.In s.heap) (I : InstAt s.heap x ox C od) (J : InstAt s.heap y oy C' od') (hne : C ≠ C') (hc : selfFirst K C = true) (hc' : selfFirst K C' = true) {rc : Option Value}
    (hs : findIn K (.ref C) (PySem.dunder op.info.2) = some (some (.ref f))) (hf : isFn K (.ref f) = true) (hr : findIn K (.ref C) (dunderR op.info.2) = some rc) (hp : rc = none ∨ ∃ z : Addr, rc = some (.ref z))
    (hs' : findIn K (.ref C') (dunderR op.info.2) = some (some (.ref f'))) (hf' : isFn K (.ref f') = true) {fc : Option Value} (hr' : findIn K (.ref C') (PySem.dunder op.info.2) = some fc) (hp' : fc = none ∨ ∃ z : Addr, fc = some (.ref z)) (hsub : subIn K (.ref C') (.ref C) = some false)
    (h : wpAny (model prog w) A (call (.ref f) [.ref x, .ref y]) (fun v s' => v = .notImplemented ∧ K.In s'.heap ∧ (∃ oa da, InstAt s'.heap x oa C da) ∧ ∃ ob db, InstAt s'.heap y ob C' db ∧ wpAny (model prog w) A (call (.ref f') [.ref y, .ref x]) (PySem.W.CmpBack Q) E s') E s) :
    wpAny (model prog w) A (binaryOp op (.ref x) (.ref y)) Q E s := by
  obtain ⟨cd, rest, hcd, hm⟩ := ksp_first hc
  obtain ⟨cd', rest', hcd', hm'⟩ := ksp_first hc'
  rcases hi : op.info with ⟨sym, nm'⟩
  rw [hi] at hs hr hs' hr'
  dsimp only at hs hr hs' hr'
  have one := try_ni X I hs hf h
  have K1 : Looks (model prog w) s.heap (typeOf (.ref x)) (.ref C) := I.type
  have K2 : Looks (model prog w) s.heap (typeOf (.ref y)) (.ref C') := J.type
  have K3 : Looks (model prog w) s.heap (fillsNumberSlot (.ref C) nm') true := fills_K X hcd hm hs
  have K4 : Looks (model prog w) s.heap (fillsNumberSlot (.ref C') nm') true := fills_R X hcd' hm' hs' hr' hp'
  have K5 : Looks (model prog w) s.heap (isSubtype (.ref C') (.ref C)) false := looks_subIn X hsub
  have K6 : Looks (model prog w) s.heap (numberSlotInPython (.ref C) nm') true := ksp_inPy X hs hr hp
  have K7 : Looks (model prog w) s.heap (numberSlotInPython (.ref C') nm') true := inPy_R X hs' hr' hp'
  have hne' : (Value.ref C == Value.ref C') = false := by simpa using hne
  simp only [binaryOp, hi]
  refine wpAny_holding (wpAny_bind ?_)
  unfold binaryOp1
  refine wpAny_bind (K1.here (wpAny_bind (K2.here (wpAny_bind (K3.here ?_)))))
  simp only [hne', Bool.false_eq_true, if_false]
  refine wpAny_bind (K4.here ?_)
  simp only [Bool.and_self, if_true]
  refine wpAny_bind (K5.here ?_)
  simp only [Bool.not_false, Bool.and_true, Bool.false_eq_true, if_false, if_true]
  refine wpAny_bind (K6.here ?_)
  simp only [if_true]
  refine wpAny_bind (K7.here ?_)
  simp only [Bool.not_true, Bool.false_eq_true, if_false, if_true]
  refine wpAny_bind (wpAny_mono one (fun r s' hr2 => ?_) fun _ _ z => z)
  obtain ⟨rfl, X2, ⟨oa, da, I2⟩, ob, db, J2, h2⟩ := hr2
  have M1 : Looks (model prog w) s'.heap (typeOf (.ref x)) (.ref C) := I2.type
  have M2 : Looks (model prog w) s'.heap (typeOf (.ref y)) (.ref C') := J2.type
  dsimp only
  refine wpAny_bind (M1.here (wpAny_bind (M2.here ?_)))
  simp only [hne', Bool.false_eq_true, if_false]
  have two := ksp_try X2 J2 hs' hf' h2
  refine wpAny_bind (wpAny_mono two (fun r s2 hr3 => ?_) fun _ _ z => z)
  obtain ⟨v, rfl, hq⟩ := hr3
  dsimp only
  exact wpAny_bind (wpAny_rule (wpAny_pure (wpAny_pure hq)))
end
section
variable {X : Cx} {g : Gx} {e : En} {W : WX} {a b c : Expr} {pos : Pos} {f f' : DE} {k : Nat} {op : Operator} {ms : List (Nat × DFn)} {rs : List Nat}
structure BinOk (g : Gx) (P : Program) (w : World) (base : Heap) (k : Nat) (op : Operator) (ms : List (Nat × DFn)) (rs : List Nat) : Prop where
  ok : ∀ c wf d, ms.lookup c = some wf → rs.contains d = true → ∃ f, g.ca c ≠ g.ca d ∧ PySem.W.selfFirst g.K (g.ca c) = true ∧ PySem.W.findIn g.K (.ref (g.ca c)) (PySem.dunder op.info.2) = some (some (.ref f)) ∧ PySem.W.isFn g.K (.ref f) = true ∧ noNum g.K (g.ca d) op.info.2 = true ∧ DFnR g P w base k f wf
/-- a op b of instances: a's class answers -/
def dBinA (ms : List (Nat × DFn)) (rs : List Nat) (fa fb : DE) : DE := fun ρ S k E => fa ρ S (fun x S1 => fb ρ S1 (fun y S2 => ∃ c fs d fs' wf, insOf S2 x = some (c, fs) ∧ insOf S2 y = some (d, fs') ∧ ms.lookup c = some wf ∧ rs.contains d = true ∧ wf [x, y] S2 k E) E) E
theorem back_of {Q : VK} {pins : List (Addr × Obj)} {σ : L2.St} {v : Value} {s' : Shared} (z : EP X pins σ Q v s') : PySem.W.CmpBack (EP X pins σ Q) v s' := by
  cases v with
  | notImplemented =>
    obtain ⟨x, _, _, r, _⟩ := z
    cases x <;> first
      | exact nomatch r
      | (obtain ⟨_, r⟩ := r; cases r)
  | _ => exact z
theorem de_binA (C : Cxt X g e W) (B : BinOk g X.prog X.w X.base k op ms rs) (hr : Room k X.A) (ha : PE X a (lift g e W f)) (hb : PE X b (lift g e W f')) : PE X (.BinOp a op b pos) (lift g e W (dBinA ms rs f f')) := by
  refine ⟨fun pins s σ H Q I ⟨ρ, Hi, S, k1, E, i, sl, q, hQ, hx⟩ => ?_⟩
  refine wpAny_BinOp (thn (ha.run pins s σ H (fun x H1 => ∃ dx S1 Hi1, Is g e H1 Hi1 S1 ∧ Same Hi Hi1 ∧ Rep g Hi1 x dx ∧ f' ρ S1 (fun y S2 => ∃ c fs d fs' wf, insOf S2 dx = some (c, fs) ∧ insOf S2 y = some (d, fs') ∧ ms.lookup c = some wf ∧ rs.contains d = true ∧ wf [dx, y] S2 k1 E) E) I
    ⟨ρ, Hi, S, _, E, i, sl, q, fun d S' v H' Hi' i' s' r' q' => ⟨d, S', Hi', i', s', r', q'⟩, hx⟩) fun v s1 ⟨x, H1, I1, rx, dx, S1, Hi1, i1, s1', r1, q1⟩ => ?_)
  refine thn (hb.run pins s1 σ H1 (fun y H2 => ∃ dy S2 Hi2, Is g e H2 Hi2 S2 ∧ Same Hi1 Hi2 ∧ Rep g Hi2 y dy ∧ ∃ c fs d fs' wf, insOf S2 dx = some (c, fs) ∧ insOf S2 dy = some (d, fs') ∧ ms.lookup c = some wf ∧ rs.contains d = true ∧ wf [dx, dy] S2 k1 E) I1
    ⟨ρ, Hi1, S1, _, E, i1, sl.mono s1', q1, fun d S' v H' Hi' i' s' r' q' => ⟨d, S', Hi', i', s', r', q'⟩, hx.mono s1'⟩) fun u s2 ⟨y, H2, I2, ry, dy, S2, Hi2, i2, s2', r2, c, fs, d, fs', wf, h1, h2, h3, h4, q2⟩ => ?_
  obtain ⟨px, dx1, vs1, rfl, e1, _⟩ := insOf_rep i2.ok (r1.mono s2') h1
  obtain ⟨py, dy1, vs2, rfl, e2, _⟩ := insOf_rep i2.ok r2 h2
  obtain rfl : v = Value.ref px := rx
  obtain rfl : u = Value.ref py := ry
  obtain ⟨fa, hne, hsf, hs, hf, hn, F⟩ := B.ok c wf d h3 h4
  obtain ⟨_, O1, _⟩ := ins_get I2.hok e1
  obtain ⟨_, O2, _⟩ := ins_get I2.hok e2
  obtain ⟨od1, J1, _⟩ := O1.look
  obtain ⟨od2, J2, _⟩ := O2.look
  have hk : g.K.In s2.heap := by rw [← C.K]; exact I2.kIn
  refine own_binA hk J1 J2 hne hsf hs hf hn (thn (run_d (us := [.ref px, .ref py]) (vs := [.ref px, .ref py]) (ds := [dx, dy]) C F hr I2 (.cons rfl (.cons rfl .nil)) i2 ⟨r1.mono s2', r2, trivial⟩ q2 (KOk.mono hQ (s1'.trans s2')) ((hx.mono s1').mono s2')) fun _ _ z => back_of z)
end

/-! ### a def that hands on: NotImplemented -/
abbrev DNi := List D → Sto → (Sto → Prop) → Prop
def FnNI (g : Gx) (P : Program) (w : World) (base : Heap) (k : Nat) (f : Addr) (wf : DNi) : Prop :=
  ∀ (A : Around) (outer : List PySem.Env) (s : Shared) (H Hi : Hp) (S : Sto) (us : List Value) (vs : List V) (ds : List D) (kS : Sto → Prop), Room k A → A.guards = some [] → Env0 P w g.K g.mg base A outer s H → Vals vs us → Ok g H Hi S → Reps g Hi vs ds → wf ds S kS →
    codeAny (model P w) A (.call (.ref f) { pos := us, kw := [] }) (fun r s' => r = .ok (.ret .notImplemented) ∧ CE outer P w H s (fun _ H' => ∃ Hi' S', Ok g H' Hi' S' ∧ Ext H Hi S H' Hi' S' ∧ kS S') .none s') s
theorem FnNI.mono {g : Gx} {P : Program} {w : World} {base : Heap} {j k : Nat} {f : Addr} {wf : DNi} (F : FnNI g P w base j f wf) (h : j ≤ k) : FnNI g P w base k f wf :=
  fun A outer s H Hi S us vs ds kS hr hg e0 r o rs q => F A outer s H Hi S us vs ds kS (hr.mono h) hg e0 r o rs q
theorem fn_ni {g : Gx} {P : Program} {w : World} {base : Heap} {x qual : Str} {params : Arguments} {c : Expr} {p1 p2 p3 : Pos} {rest : List Stmt} {scope : Scope} {kws : List (Str × V)} {N ps : List Str} {k : Nat} {f : Addr} {fd : FuncData} {t : DT}
    (F : FunD g.K x qual params (.If c [.Return (some (.Name "NotImplemented" p1)) p2] [] p3 :: rest) scope [] kws f fd) (Sc : FnScope N ps scope) (hm : g.mg "NotImplemented" = none) (hgl : ∀ (f cdv : _) (A : Around) (outer : List PySem.Env) (s : Shared) (H : Hp) (E : XK), Gl (cxD g P w base N qual scope f cdv A outer s H E) "NotImplemented")
    (hb : ∀ (cdv : Value) (A : Around) (outer : List PySem.Env) (s : Shared) (H : Hp) (E : XK), Room k (A.deeper (envOfC qual scope s.heap.objs.size f cdv)) → A.guards = some [] → ∀ e : En, PT (cxD g P w base N qual scope f cdv A outer s H E) c (liftT g e (wX E) t))
    (hbind : ∀ (kV doc pm : Value) (an : Option Addr) (cdv ct : Value) (us : List Value), us.length = ps.length → bindArgs (PySem.W.fnOf x qual params (.If c [.Return (some (.Name "NotImplemented" p1)) p2] [] p3 :: rest) scope .none kV doc pm an cdv ct) { pos := us, kw := [] } = pure (ps.zip us)) :
    FnNI g P w base (k + 1) f (fun ds S kS => ds.length = ps.length ∧ t (denv N.length ds) S (fun b S' => b = true ∧ kS S') fun _ _ _ => False) := by
  intro A outer s H Hi S us vs ds kS hr hg e0 r o rs ⟨hl, q⟩
  have hb0 := F.bindsN hbind
  obtain ⟨oc, od, dV, kV, doc, pm, an, cdv, ct, osl, rfl, lk, hcd, _, _⟩ := F.ex
  have KX : g.K.In s.heap := e0.mod.kin.keeps fun b o e => (e0.bs b o e).1
  have hlv : vs.length = ps.length := by rw [rs.length]; exact hl
  have hlu : us.length = ps.length := by rw [← r.length]; exact hlv
  refine codeAny_call_function hr.depth (KX _ _ lk) rfl Sc.co Sc.gen rfl (PySem.W.codeRec_of KX hcd) ?_
  refine hb0 s us KX (by rw [List.append_nil]; exact hlu) _ _ _ _ ?_
  rw [List.append_nil]
  have lim : s.heap.NoLimit := e0.mod.nolimit.keeps fun b o e => (e0.bs b o e).1
  refine wpAny_newFunctionEnv_cells (s := s) Sc.kind (fun y hy => ?_) fun env he s1 x => ?_
  · rcases Sc.par y.1 (List.of_mem_zip hy).1 with z | z
    · exact .inl z
    · exact .inr ⟨z, PySem.W.cellsFrom_some _ _ _ (.inl z)⟩
  subst he
  refine ⟨lim.keeps x.toInCall.keep, codeAny_func ?_⟩
  have I : Inv (cxD g P w base N qual scope f cdv A outer s H (fun _ _ _ => False)) [] (start N vs) H s1 := inv_start Sc hr.hd e0 hlv r x
  have pt := hb cdv A outer s H (fun _ _ _ => False) (hr.deeper _) hg ⟨H, Hi, S, o.sub⟩
  refine wpAny_mono (Q := fun fl s' => fl = .ret .notImplemented ∧ CE outer P w H s (fun _ H' => ∃ Hi' S', Ok g H' Hi' S' ∧ Ext H Hi S H' Hi' S' ∧ kS S') .none s') (wpAny_execs_cons (wpAny_If (thn (pt.run [] s1 _ _ (fun bb H' => bb = true ∧ ∃ Hi' S', Ok g H' Hi' S' ∧ Ext H Hi S H' Hi' S' ∧ kS S') I
    ⟨denv N.length ds, Hi, S, _, _, ⟨o, Ext.refl⟩, slots_start rs, q, fun bb S' H' Hi' i' s' ⟨eb, z⟩ => ⟨eb, Hi', S', i'.ok, i'.ext, z⟩, fun _ _ _ _ _ _ _ _ _ _ z => z.elim⟩) fun bb s2 ⟨H2, I2, eb, z⟩ => ?_))) (fun fl s' hs => ?_) fun e s' hs => ?_
  · subst eb
    refine wpAny_execs_cons (wpAny_Return_some (ld_blt I2 (hgl _ _ _ _ _ _ _) hm Boot.NotImplemented ?_))
    exact ⟨rfl, .non, H2, I2.os, I2.bare, I2.base, I2.hok, rfl, z⟩
  · obtain ⟨rfl, z⟩ := hs
    exact ⟨rfl, z⟩
  · exact wpAny_mono hs (fun _ s'' ⟨_, _, _, _, _, _, _, _, _, _, _, _, z⟩ => z.elim) fun e' s'' ⟨_, _, _, _, _, _, _, _, _, _, _, _, z⟩ => z.elim
section
variable {X : Cx} {g : Gx} {e : En} {W : WX} {a b c : Expr} {pos : Pos} {f f' : DE} {k : Nat} {op : Operator}
/-- a op b: the class c hands on to the class d -/
structure BinBOk (g : Gx) (P : Program) (w : World) (base : Heap) (k : Nat) (op : Operator) (c d : Nat) (ni : DNi) (wf : DFn) : Prop where
  ok : ∃ (f f' : Addr) (rc fc : Option Value), g.ca c ≠ g.ca d ∧ PySem.W.selfFirst g.K (g.ca c) = true ∧ PySem.W.selfFirst g.K (g.ca d) = true ∧ PySem.W.findIn g.K (.ref (g.ca c)) (PySem.dunder op.info.2) = some (some (.ref f)) ∧ PySem.W.isFn g.K (.ref f) = true ∧
    PySem.W.findIn g.K (.ref (g.ca c)) (dunderR op.info.2) = some rc ∧ (rc = none ∨ ∃ z : Addr, rc = some (.ref z)) ∧ PySem.W.findIn g.K (.ref (g.ca d)) (dunderR op.info.2) = some (some (.ref f')) ∧ PySem.W.isFn g.K (.ref f') = true ∧
    PySem.W.findIn g.K (.ref (g.ca d)) (PySem.dunder op.info.2) = some fc ∧ (fc = none ∨ ∃ z : Addr, fc = some (.ref z)) ∧ PySem.W.subIn g.K (.ref (g.ca d)) (.ref (g.ca c)) = some false ∧ FnNI g P w base k f ni ∧ DFnR g P w base k f' wf
def dBinB (c d : Nat) (ni : DNi) (wf : DFn) (fa fb : DE) : DE := fun ρ S k E => fa ρ S (fun x S1 => fb ρ S1 (fun y S2 => (∃ fs, insOf S2 x = some (c, fs)) ∧ (∃ fs, insOf S2 y = some (d, fs)) ∧ ni [x, y] S2 fun S3 => (∃ fs, insOf S3 x = some (c, fs)) ∧ (∃ fs, insOf S3 y = some (d, fs)) ∧ wf [y, x] S3 k E) E) E
theorem de_binB {cn dn : Nat} {ni : DNi} {wf : DFn} (C : Cxt X g e W) (B : BinBOk g X.prog X.w X.base k op cn dn ni wf) (hr : Room k X.A) (ha : PE X a (lift g e W f)) (hb : PE X b (lift g e W f')) : PE X (.BinOp a op b pos) (lift g e W (dBinB cn dn ni wf f f')) := by
  refine ⟨fun pins s σ H Q I ⟨ρ, Hi, S, k1, E, i, sl, q, hQ, hx⟩ => ?_⟩
  obtain ⟨ko, hko⟩ : ∃ ko : D → D → Sto → Prop, ko = fun x y S2 => (∃ fs, insOf S2 x = some (cn, fs)) ∧ (∃ fs, insOf S2 y = some (dn, fs)) ∧ ni [x, y] S2 fun S3 => (∃ fs, insOf S3 x = some (cn, fs)) ∧ (∃ fs, insOf S3 y = some (dn, fs)) ∧ wf [y, x] S3 k1 E := ⟨_, rfl⟩
  have q : f ρ S (fun x S1 => f' ρ S1 (fun y S2 => ko x y S2) E) E := by rw [hko]; exact q
  refine wpAny_BinOp (thn (ha.run pins s σ H (fun x H1 => ∃ dx S1 Hi1, Is g e H1 Hi1 S1 ∧ Same Hi Hi1 ∧ Rep g Hi1 x dx ∧ f' ρ S1 (fun y S2 => ko dx y S2) E) I
    ⟨ρ, Hi, S, _, E, i, sl, q, fun d S' v H' Hi' i' s' r' q' => ⟨d, S', Hi', i', s', r', q'⟩, hx⟩) fun v s1 ⟨x, H1, I1, rx, dx, S1, Hi1, i1, s1', r1, q1⟩ => ?_)
  refine thn (hb.run pins s1 σ H1 (fun y H2 => ∃ dy S2 Hi2, Is g e H2 Hi2 S2 ∧ Same Hi1 Hi2 ∧ Rep g Hi2 y dy ∧ ko dx dy S2) I1
    ⟨ρ, Hi1, S1, _, E, i1, sl.mono s1', q1, fun d S' v H' Hi' i' s' r' q' => ⟨d, S', Hi', i', s', r', q'⟩, hx.mono s1'⟩) fun u s2 ⟨y, H2, I2, ry, dy, S2, Hi2, i2, s2', r2, q2⟩ => ?_
  rw [hko] at q2
  obtain ⟨⟨fs, h1⟩, ⟨fs', h2⟩, q2⟩ := q2
  obtain ⟨px, dx1, vs1, rfl, e1, _⟩ := insOf_rep i2.ok (r1.mono s2') h1
  obtain ⟨py, dy1, vs2, rfl, e2, _⟩ := insOf_rep i2.ok r2 h2
  obtain rfl : v = Value.ref px := rx
  obtain rfl : u = Value.ref py := ry
  obtain ⟨fa, fb, rc, fc, hne, z1, z2, z3, z4, z5, z6, z7, z8, z9, z10, z11, FN, F⟩ := B.ok
  obtain ⟨_, O1, _⟩ := ins_get I2.hok e1
  obtain ⟨_, O2, _⟩ := ins_get I2.hok e2
  obtain ⟨od1, J1, _⟩ := O1.look
  obtain ⟨od2, J2, _⟩ := O2.look
  have hk : g.K.In s2.heap := by rw [← C.K]; exact I2.kIn
  have e0 : Env0 X.prog X.w g.K g.mg X.base X.A X.stack s2 H2 := by rw [← C.K, ← C.mg]; exact I2.env0
  refine own_binB hk J1 J2 hne z1 z2 z3 z4 z5 z6 z7 z8 z9 z10 z11 (wpAny_call (codeAny_mono (FN X.A X.stack s2 H2 Hi2 S2 [.ref px, .ref py] [.ref px, .ref py] [dx, dy] _ hr C.gd e0 (.cons rfl (.cons rfl .nil)) i2.ok ⟨r1.mono s2', r2, trivial⟩ q2) fun r s' ⟨er, ce⟩ => ?_))
  subst er
  obtain ⟨_, H3, I3, _, Hi3, S3, o3, x3, ⟨fs3, h3⟩, ⟨fs4, h4⟩, q3⟩ := I2.after ce
  have i3 := i2.next o3 x3
  obtain ⟨px', dx3, vs3, ep, e3, _⟩ := insOf_rep i3.ok ((r1.mono s2').mono x3.imm) h3
  obtain ⟨py', dx4, vs4, ep2, e4, _⟩ := insOf_rep i3.ok (r2.mono x3.imm) h4
  cases ep
  cases ep2
  obtain ⟨_, O3, _⟩ := ins_get I3.hok e3
  obtain ⟨_, O4, _⟩ := ins_get I3.hok e4
  obtain ⟨od3, J3, _⟩ := O3.look
  obtain ⟨od4, J4, _⟩ := O4.look
  have hk3 : g.K.In s'.heap := by rw [← C.K]; exact I3.kIn
  refine ⟨rfl, hk3, ⟨_, _, J3⟩, _, _, J4, thn (run_d (us := [.ref py, .ref px]) (vs := [.ref py, .ref px]) (ds := [dy, dx]) C F hr I3 (.cons rfl (.cons rfl .nil)) i3 ⟨r2.mono x3.imm, (r1.mono s2').mono x3.imm, trivial⟩ q3 (KOk.mono hQ ((s1'.trans s2').trans x3.imm)) (((hx.mono s1').mono s2').mono x3.imm)) fun _ _ z => back_of z⟩
end
end DL
end
/-! ## DL11 -/
section
set_option Elab.async false
set_option linter.all false
set_option maxRecDepth 100000
set_option maxHeartbeats 2000000
namespace DL
open PySem PySem.Spec PyProof.Rows L2
/-! ### x[::-1] -/
theorem back_places (n : Nat) : Builtin.Slice.sliceAdjust none none (-1) (n : Int) = ((n : Int) - 1, -1) ∧ Builtin.Slice.slicePlaces ((n : Int) - 1) (-1) (-1) = n := by
  refine ⟨?_, ?_⟩
  · unfold Builtin.Slice.sliceAdjust
    simp only [show ((-1 : Int) < 0) by omega, if_true]
  · unfold Builtin.Slice.slicePlaces
    simp only [show ¬ ((-1 : Int) > 0) by omega, if_false]
    split <;> first | omega | (simp; done) | (simp; omega)
theorem back_pick (xs : Array Value) : ((List.range xs.size).filterMap fun (k : Nat) => xs[(((xs.size : Nat) : Int) - 1 + (k : Int) * (-1)).toNat]?) = xs.toList.reverse := by
  have h : ∀ k ∈ List.range xs.size, xs[(((xs.size : Nat) : Int) - 1 + (k : Int) * (-1)).toNat]? = some ((xs.toList.reverse[k]?).getD .none) := by
    intro k hk
    have hk : k < xs.size := List.mem_range.mp hk
    have e : (((xs.size : Nat) : Int) - 1 + (k : Int) * (-1)).toNat = xs.size - 1 - k := by omega
    rw [e, List.getElem?_reverse (by simpa using hk)]
    rw [Array.getElem?_eq_getElem (by omega), Array.length_toList, Array.getElem?_toList, Array.getElem?_eq_getElem (by omega)]
    rfl
  have hm : ∀ l : List Nat, (∀ k ∈ l, xs[(((xs.size : Nat) : Int) - 1 + (k : Int) * (-1)).toNat]? = some ((xs.toList.reverse[k]?).getD .none)) → (l.filterMap fun (k : Nat) => xs[(((xs.size : Nat) : Int) - 1 + (k : Int) * (-1)).toNat]?) = l.map fun k => (xs.toList.reverse[k]?).getD .none := by
    intro l
    induction l with
    | nil => intro _; rfl
    | cons k l ih =>
      intro hl
      rw [List.filterMap_cons, hl k List.mem_cons_self, List.map_cons, ih fun j hj => hl j (List.mem_cons_of_mem _ hj)]
  rw [hm _ h]
  refine List.ext_getElem? fun j => ?_
  by_cases hj : j < xs.size
  · rw [List.getElem?_map, List.getElem?_range hj]
    show some ((xs.toList.reverse[j]?).getD .none) = _
    rw [List.getElem?_eq_getElem (by simpa using hj)]
    rfl
  · rw [List.getElem?_eq_none (by simpa using hj), List.getElem?_eq_none (by simpa using hj)]
section
variable {prog : Program} {w : World} {A : Around} {E : Value → Shared → Prop} {s : Shared}
theorem getItem_tuple_back {t sl : Addr} {items : Array Value} {vl vu vs : Value} {Q : Value → Shared → Prop} (ht : IsTup s.heap t items) (hs : s.heap.IsSliceOf sl vl vu vs) (pl : IsPart vl none) (pu : IsPart vu none) (ps : IsPart vs (some (-1)))
    (h : Q (.ref s.heap.objs.size) { s with heap := s.heap.push { cls := .type "tuple", data := .seq items.toList.reverse.toArray } }) (hsz : items.size ≤ sizeLine) : wpAny (model prog w) A (getItem (.ref t) (.ref sl)) Q E s := by
  have hz : sizeOk (.seq items.toList.reverse.toArray) := by
    show items.toList.reverse.toArray.size ≤ sizeLine
    rw [List.size_toArray, List.length_reverse, Array.length_toList]
    exact hsz
  obtain ⟨ob, hob, hcs, hds⟩ := id hs
  have hTs : s.TypeIs (.ref sl) "slice" := ⟨ob, hob, hcs⟩
  obtain ⟨b1, b2⟩ := back_places items.size
  unfold getItem
  try with_reducible refine wpAny_holding ?_
  first | refine wpAny_bind (wpAny_pure ?_) | skip
  refine wpAny_bind (wpAny_sequenceKey ht.typeIs (by decide) ?_)
  refine wpAny_bind (wpAny_callSpecial?_slot (name := Str.ofString "__getitem__") ht.typeIs PyProof.Rows.slot_tuple_getitem (wpAny_call_entry PyProof.Rows.slot_tuple_getitem ht.typeIs entry_tuple_getitem ?_ (args_tuple_getitem _ _)))
  show wpAny _ _ (Builtin.Tuple.tupleItemsOf (.ref t) >>= _) _ _ s
  refine wpAny_bind (tupleItemsOf_ ht (wpAny_bind (wpAny_typeOf hTs ?_)))
  rw [if_pos (by decide)]
  refine wpAny_bind ?_
  unfold Builtin.Slice.sliceApplied Builtin.Slice.sliceFields
  refine wpAny_bind ?_
  refine wpAny_bind (wpAny_field hob hds (x := vl) rfl (wpAny_bind (wpAny_field hob hds (x := vu) rfl (wpAny_bind (wpAny_field hob hds (x := vs) rfl (wpAny_pure ?_))))))
  refine wpAny_bind (HT.slicePart_ ps ?_)
  show wpAny _ _ (if ((-1 : Int) == 0) = true then _ else _) _ _ s
  rw [if_neg (by decide)]
  refine wpAny_bind (HT.slicePart_ pl (wpAny_bind (HT.slicePart_ pu (wpAny_bind (wpAny_pure ?_)))))
  show wpAny _ _ (pure ((Builtin.Slice.sliceAdjust none none (-1) (items.size : Int)).1, (-1 : Int), Builtin.Slice.slicePlaces (Builtin.Slice.sliceAdjust none none (-1) (items.size : Int)).1 (Builtin.Slice.sliceAdjust none none (-1) (items.size : Int)).2 (-1))) _ _ s
  rw [b1]
  refine wpAny_pure ?_
  show wpAny _ _ (if (((items.size : Int) - 1) == 0 && (-1 : Int) == 1 && Builtin.Slice.slicePlaces ((items.size : Int) - 1) (-1) (-1) == items.size) = true then _ else _) _ _ s
  rw [if_neg (by simp), b2, back_pick]
  first
    | exact wpAny_bind (m := Builtin.Tuple.tupleExact _) (wpAny_newObj_type (wpAny_pure ⟨_, rfl, wpAny_pure h⟩) hz)
    | exact wpAny_bind (m := Builtin.Tuple.tupleExact _) (wpAny_newObj_type (wpAny_bind (wpAny_pure (wpAny_pure ⟨_, rfl, wpAny_pure h⟩))) hz)
    | exact wpAny_bind (wpAny_bind (m := Builtin.Tuple.tupleExact _) (wpAny_newObj_type (wpAny_pure (wpAny_pure ⟨_, rfl, wpAny_pure h⟩)) hz))
    | exact wpAny_bind (wpAny_bind (m := Builtin.Tuple.tupleExact _) (wpAny_newObj_type (wpAny_pure ⟨_, rfl, wpAny_pure h⟩) hz))
end
section
variable {X : Cx} {g : Gx} {e : En} {W : WX} {a b c : Expr} {pos p p1 p2 p3 : Pos} {f f' : DE} {kk : Nat}
def tBackT (K : PySem.W.Frag) (te : TE) : TE := fun σ H Q => te σ H fun x H1 => ∃ a xs, x = .ref a ∧ SqT K H1 a xs ∧ ∀ p, H1 p = none → Q (.ref p) (upd H1 p (.tup xs.reverse))
theorem pe_backT {te : TE} (he : PE X a te) : PE X (.Subscript a (.Slice none none (some (.UnaryOp .USub (.Constant (.int 1) kk p1) p2)) p3) pos) (tBackT X.K te) := by
  refine ⟨fun pins s σ H Q I h => ?_⟩
  refine Subscript_ (thn (he.run pins s σ H _ I h) fun v s1 ⟨x, H1, I1, r1, t, xs, ex, hx, q⟩ => ?_)
  subst ex
  obtain rfl : v = Value.ref t := r1
  have hst : PO X (some (.UnaryOp .USub (.Constant (.int 1) kk p1) p2)) (tPart (tUn (rU fun i => .int (-i)) (tC (.int 1)))) := po_some (pe_un un_neg pe_int)
  refine wpAny_Slice (thn (po_none.run pins s1 σ H1 (fun o H2 => o = none ∧ H2 = H1) I1 ⟨rfl, rfl⟩) fun vl s2 ⟨l, H2, I2, pl, el, e2⟩ => ?_)
  subst el e2
  refine thn (po_none.run pins s2 σ H2 (fun o H3 => o = none ∧ H3 = H2) I2 ⟨rfl, rfl⟩) fun vu s3 ⟨u, H3, I3, pu, eu, e3⟩ => ?_
  subst eu e3
  refine thn (hst.run pins s3 σ H3 (fun o H4 => o = some (-1) ∧ H4 = H3) I3 ⟨1, rfl, -1, rfl, rfl, rfl⟩) fun vs s4 ⟨o, H4, I4, ps, eo, e4⟩ => ?_
  subst eo e4
  have I5 : Inv X pins σ H4 { s4 with heap := s4.heap.push { cls := .type "slice", data := .fields #[vl, vu, vs] } } := I4.kept (t' := s4.toks) fun b ob z => Heap.get?_push_of_some _ z
  obtain ⟨its, r, ht, hz⟩ := I5.tuple hx
  have hlen := r.length
  show wpAny (model X.prog X.w) X.A (subscriptTail a (.Slice none none (some (.UnaryOp .USub (.Constant (.int 1) kk p1) p2)) p3) (.ref t) (.ref s4.heap.objs.size)) (EP X pins σ Q) X.xe { s4 with heap := s4.heap.push { cls := .type "slice", data := .fields #[vl, vu, vs] } }
  refine tail_any (ops := [.ref t, .ref s4.heap.objs.size]) ht.typeIs (PyProof.Rows.slot_tuple_getitem.lookup) ?_ (by with_unfolding_all rfl)
  refine getItem_tuple_back ht (Heap.IsSliceOf.new _ vl vu vs) pl pu ps ?_ (by rw [List.size_toArray]; omega)
  refine ⟨.ref _, _, I5.laid (t' := s4.toks) (o := .tup xs.reverse) (fun b ob z => Heap.get?_push_of_some _ z) (Nat.le_refl _) ?_, rfl, q _ (I5.hok.fresh (Nat.le_refl _))⟩
  exact ⟨by rw [List.length_reverse]; exact hz, _, r.reverse, ⟨_, Heap.get?_push_size _ rfl, rfl, _, rfl⟩⟩
def dBackT (f : DE) : DE := fun ρ S k E => f ρ S (fun x S1 => ∃ xs, x = .tup xs ∧ k (.tup xs.reverse) S1) E
theorem de_backT (C : Cxt X g e W) (h : PE X a (lift g e W f)) : PE X (.Subscript a (.Slice none none (some (.UnaryOp .USub (.Constant (.int 1) kk p1) p2)) p3) pos) (lift g e W (dBackT f)) :=
  (pe_backT h).imp fun σ H Q ⟨ρ, Hi, S, k, E, i, sl, q, hk, hx⟩ => by
    refine ⟨ρ, Hi, S, _, E, i, sl, q, fun x S1 v H1 Hi1 i1 s1 r1 ⟨xs, ex, q1⟩ => ?_, hx⟩
    subst ex
    obtain ⟨t, ws, rfl, h1, h2⟩ := r1
    refine ⟨t, ws, rfl, SqT.of (i1.ok.sub _ _ h1), fun p hp => ?_⟩
    obtain ⟨i2, s2⟩ := isNew (o := .tup ws.reverse) i1 hp
    exact hk (.tup xs.reverse) S1 (.ref p) _ _ i2 (s1.trans s2) ⟨p, _, rfl, upd_same, (h2.mono s2).reverse⟩ q1
def dBackL (f : DE) : DA := fun ρ S k E => f ρ S (fun x S1 => ∃ xs, lstOrScr S1 x = some xs ∧ k xs.reverse S1) E
theorem dm_backL (C : Cxt X g e W) (h : PE X a (lift g e W f)) : PE X (.Subscript a (.Slice none none (some (.UnaryOp .USub (.Constant (.int 1) kk p1) p2)) p3) pos) (liftM g e W (dBackL f)) :=
  (pe_revL h).imp fun σ H Q ⟨ρ, Hi, S, k, E, i, sl, q, hk, hx⟩ => by
    refine ⟨ρ, Hi, S, _, E, i, sl, q, fun x S1 v H1 Hi1 i1 s1 r1 ⟨xs, ex, q1⟩ => ?_, hx⟩
    obtain ⟨t, ws, rfl, h1, h2⟩ := lsOf_rep i1.ok r1 ex
    refine ⟨t, ws, rfl, by rw [C.K]; exact h1, fun p hp => ?_⟩
    obtain ⟨n2, i2⟩ := isNewC i1 hp h2.reverse
    exact hk _ S1 p _ Hi1 n2 i2 s1 q1
end
end DL
end
/-! ## DL12 -/
section
set_option Elab.async false
set_option linter.all false
set_option maxRecDepth 100000
set_option maxHeartbeats 4000000
namespace DL
open PySem PySem.Spec PyProof.Rows L2
section
variable {P : Program} {w : World} {A : Around} {E : Value → Shared → Prop} {s : Shared}
abbrev set0 (w : World) : Obj := { cls := .type "set", dict := none, data := .set #[] 0 (.fresh 0 0 (!w.params.followText "set-order")) }
/-- set(xs), xs a list of ints: with its order -/
theorem call_setL {l : Addr} {xs : Array Value} (ns : List Int) {Q : Value → Shared → Prop} (hh : A.handled = none) (hl : s.heap.IsList l xs) (hit : IntsAre xs.toList ns) (hb : ns.length + 1 < scanBound)
    (fin : ∀ (h' : Heap) (tk c : Nat), SetR w h' s.heap.objs.size (fun j => decide (j ∈ ns)) c → c ≤ ns.length → (∀ b u, s.heap.get? b = some u → h'.get? b = some u) → Q (.ref s.heap.objs.size) { s with heap := h', toks := tk }) :
    wpAny (model P w) A (call (.type "set") [.ref l]) Q E s := by
  have hlen : xs.size = ns.length := by simpa using IntsAre.length hit
  obtain ⟨cc, tl, hmro⟩ := F.called_set.mro
  have hmade := F.called_set.made
  have hsub := F.called_set.sub
  have k1 := F.called_set.notType
  have k2 := F.called_set.canCreate
  have k3 := F.typeCall_set_1 (.ref l)
  refine wpAny_call (codeAny_of_tree ?_)
  show wpAny _ _ (callAny (.type "set") _) _ _ _
  refine wpAny_pure ⟨Code.quiet_builtin _ (by decide +kernel), codeAny_builtin F.entry_type_call ?_⟩
  rw [Around.under_plain (weight_type_call_type "set" [.ref l] []) rfl]
  repeat (any_goals (first | assumption | wp_step))
  obtain ⟨N, hN⟩ : ∃ N, N = s.heap.objs.size := ⟨_, rfl⟩
  have size1 : (s.heap.push (set0 w)).objs.size = N + 1 := by rw [hN]; exact Heap.size_push ..
  have at1 : (s.heap.push (set0 w)).get? N = some (set0 w) := by rw [hN]; exact Heap.get?_push_size _ rfl
  refine codeAny_mono (L2.code_set_led1 (.ref l) (E := E) (Q₁ := fun obj s₁ => obj = .ref N ∧ s₁ = { s with heap := s.heap.push (set0 w) }) ⟨by rw [hN], rfl⟩) fun r s₁ hr => ?_
  match r, hr with
  | .ok (.ret obj), hr =>
    obtain ⟨rfl, rfl⟩ := hr
    have hT : Shared.TypeIs { s with heap := s.heap.push (set0 w) } (.ref N) "set" := ⟨_, at1, rfl⟩
    have hli := F.called_set.init.lookup
    have hbi := F.called_set.init.bind (.ref N)
    repeat (any_goals (first | assumption | wp_step))
    refine codeAny_mono (codeAny_call_builtin (R := wants (fun r s₂ => r = .none ∧ ∃ h' tk c, s₂ = { s with heap := h', toks := tk } ∧ SetR w h' N (fun j => decide (j ∈ ns)) c ∧ c ≤ ns.length ∧ ∀ b u, s.heap.get? b = some u → h'.get? b = some u) E)
      F.called_set.init.plain F.entry_set_init (check_set_init_1 hT ?_)) fun r₂ s₂ hr₂ => ?_
    · obtain ⟨⟨oc, od, odt, osl⟩, hol, hcl, nl, hdl⟩ := hl
      obtain rfl : oc = .type "list" := hcl
      obtain rfl : odt = .seq xs nl := hdl
      have hol1 : (s.heap.push (set0 w)).get? l = some { cls := .type "list", dict := od, data := .seq xs nl, slots := osl } := Heap.get?_push_of_some _ hol
      have t1 := F.sub_list_set
      have t2 := F.sub_list_frozenset
      have t3 : (Value.type "list" == Value.type "dict") = false := by decide
      have hl1 : (s.heap.push (set0 w)).IsList l xs := ⟨_, hol1, rfl, nl, rfl⟩
      have ltN : l < N := by rw [hN]; exact Heap.lt_size hol
      unfold Builtin.«set.__init__» noKeywords Builtin.Frozenset.updateFrom
      generalize hPI : pyIter = PI
      wp_walk
      subst hPI
      refine wpAny_pyIter_list hl1 (wpAny_bind (wpAny_runValue ?_))
      have hh3 : A.in1.in1.in1.handled = none := by simp [hh]
      have ne1 : l ≠ (s.heap.push (set0 w)).objs.size := by rw [size1]; exact Nat.ne_of_lt (Nat.lt_succ_of_lt ltN)
      have nin : N ∉ [(s.heap.push (set0 w)).objs.size, l] := by
        rw [size1]
        simp only [List.mem_cons, List.not_mem_nil, or_false, not_or]
        exact ⟨Nat.ne_of_lt (Nat.lt_succ_self _), Nat.ne_of_gt ltN⟩
      have hval : ∀ (i : Nat) (v : Value), xs[i]? = some v → ∃ k t, ns[i]? = some k ∧ v = .int k t := fun i v hv => by
        have hi : i < ns.length := by rw [← hlen]; exact (Array.getElem?_eq_some_iff.mp hv).1
        obtain ⟨t, e⟩ := PyProof.Rows.IntsAre.int_at hit i v (by rw [Array.getElem?_toList]; exact hv)
        refine ⟨ns[i], t, List.getElem?_eq_getElem hi, ?_⟩
        rw [e, List.getD_eq_getElem?_getD, List.getElem?_eq_getElem hi] <;> rfl
      refine L2.set_update_ints ((Walks.list hh3 _ l ne1 xs).toS) N nin ns hlen hb hval (xs.size - 0) 0 _ (by omega) (Nat.zero_le _) ⟨⟨_, Heap.get?_push_size _ rfl, rfl, rfl⟩, hl1.push _⟩ ⟨0, Nat.le_refl 0, L2.setR_new_at (Heap.get?_push_of_some _ at1)⟩ ?_
      intro s' c' hm hc' hS'
      obtain ⟨h', g2, d2, t2', o2⟩ := s'
      obtain rfl : g2 = s.gens := hm.gens
      obtain rfl : d2 = s.drawn := hm.drawn
      obtain rfl : o2 = s.os := hm.os
      show wpAny _ _ _ _ _ _
      refine wpAny_pure ?_
      show wpAny _ _ (ret Value.none) _ _ _
      rw [hlen] at hc'
      refine wpAny_pure ⟨rfl, h', t2', c', rfl, hS', hc', fun b u q => hm.heap b u ?_ (Heap.get?_push_of_some _ (Heap.get?_push_of_some _ q))⟩
      have ltb : b < N := by rw [hN]; exact Heap.lt_size q
      rw [size1]
      simp only [List.mem_cons, List.not_mem_nil, or_false, not_or]
      exact ⟨Nat.ne_of_lt ltb, Nat.ne_of_lt (Nat.lt_succ_of_lt ltb)⟩
    · match r₂, hr₂ with
      | .ok (.ret r), hr₂ =>
        obtain ⟨rfl, h', tk, c', rfl, hS', hc', hk'⟩ := hr₂
        repeat (any_goals (first | assumption | wp_step))
        subst hN
        exact fin _ _ _ hS' hc' hk'
      | .error er, hr₂ => exact hr₂
      | .ok .next, hr₂ => exact hr₂.elim
      | .ok .brk, hr₂ => exact hr₂.elim
      | .ok .cont, hr₂ => exact hr₂.elim
  | .error er, hr => exact hr
  | .ok .next, hr => exact hr.elim
  | .ok .brk, hr => exact hr.elim
  | .ok .cont, hr => exact hr.elim
end
end DL
end
/-! ## DL13 -/
section
set_option Elab.async false
set_option linter.all false
set_option maxRecDepth 100000
set_option maxHeartbeats 4000000
namespace DL
open PySem PySem.Spec PyProof.Rows L2 PpSet
section
variable {X : Cx}
/-- one more int in the set at L -/
theorem put_set {pins : List (Addr × Obj)} {σ : L2.St} {H : Hp} {s : Shared} {E : Value → Shared → Prop} {L : Addr} {M : Int → Bool} {n : Nat} {y : Int} {t : Tok} {Q : Value → Shared → Prop} (I : Inv X pins σ H s) (hL : H L = some (SetO X.w L M n)) (room : n + 1 < scanBound)
    (fin : ∀ s', Inv X pins σ (upd H L (SetO X.w L (fun j => M j || decide (j = y)) (if M y = true then n else n + 1))) s' → Q .none s') : wpAny (model X.prog X.w) X.A (call (.builtin "set.add") [.ref L, .int y t]) Q E s := by
  refine setR_add (setO_get I hL) room fun h' sb new => ?_
  obtain ⟨o, _, _, _, ho, _⟩ := id new
  exact fin _ (I.write (e := L) (t' := s.toks + 1) (by rw [hL]; trivial) (.inl rfl) (fun b u hb hu => (sb.2 b hb).trans hu) ⟨o, ho⟩ (setO_new new))
/-- how a walk with a set at L goes on -/
def SetTurn (w : World) (J : It) (L : Addr) (g : TG) (tt : TT) (te : TE) (σ0 : L2.St) (vs : List Nat) (W : Nat → Nat → Hp → Prop) (fin : Hp → Prop) : Prop := ∀ i m H, W i m H →
  (J.stop i H ∧ fin H) ∨ (J.go i H ∧ ∃ Nx : Hp → Prop, (∀ H', Nx H' → ∃ m', m' < m ∧ W (i + 1) m' H') ∧ ∀ x H', J.yld i H x H' → g x σ0 H' fun σ2 H2 => wipe σ2 vs = σ0 ∧ tt σ2 H2 fun b H3 =>
    if b = true then te σ2 H3 fun y H4 => ∃ (z : Int) (M : Int → Bool) (n : Nat), y = .int z ∧ H4 L = some (SetO w L M n) ∧ n + 1 < scanBound ∧ Nx (upd H4 L (SetO w L (fun j => M j || decide (j = z)) (if M z = true then n else n + 1))) else Nx H3)
def tScI (w : World) (wi : TI) (g : TG) (tt : TT) (te : TE) (vs : List Nat) : TE := fun σ H Q => wi σ H fun J H1 => ∀ L, H1 L = none → ∃ W : Nat → Nat → Hp → Prop, (∃ m, W 0 m (upd H1 L (SetO w L (fun _ => false) 0))) ∧ SetTurn w J L g tt te (wipe σ vs) vs W fun H2 => Q (.ref L) H2
theorem pe_scI {elt tg iter : Expr} {ifs : List Expr} {scope : Scope} {own : List (PySem.Str × Nat)} {pos : Pos} {wi : TI} {g : TG} {tt : TT} {te : TE} (hc : X.calm = true) (hN : X.N.Nodup) (hi : PI X tg iter wi) (ok : BlkOk X.N X.env.scope scope own)
    (hg : ∀ (s : Shared) (H : Hp) (C : Addr) (cl : List (PySem.Str × Addr)) (fp : List Addr), PG (X.blk s H scope (compEnvC scope cl C X.env) fp) tg g) (ht : ∀ (s : Shared) (H : Hp) (C : Addr) (cl : List (PySem.Str × Addr)) (fp : List Addr), PTs (X.blk s H scope (compEnvC scope cl C X.env) fp) ifs tt)
    (he : ∀ (s : Shared) (H : Hp) (C : Addr) (cl : List (PySem.Str × Addr)) (fp : List Addr), PE (X.blk s H scope (compEnvC scope cl C X.env) fp) elt te) (hs : ∀ x, foldedSetIterable iter X.env x = pure x := by intro _; rfl) :
    PE X (.SetComp elt [⟨tg, iter, ifs, 0⟩] scope pos) (tScI X.w wi g tt te (own.map (·.2))) := by
  refine ⟨fun pins s σ H Q I h => ?_⟩
  rw [eval_SetComp]
  have clo : ∀ y ∈ scope.names, y.2 = .free → ∃ c, X.env.cells.lookup y.1 = some c := fun y hy e =>
    (ok.free y hy e).elim (fun z => I.ok.has _ (.inl z)) fun z => I.ok.has _ (.inr z)
  refine wpAny_comprehension_free (use := none) rfl hs (closure_ok clo) ok.kind (fun y hy e => by rw [ok.uniq y hy, e]) (thn (hi.run pins s σ H _ I h) fun xv s1 hx => thn hx fun itv s2 h2 => ?_)
  obtain ⟨it, fp, tn, J, H2, rfl, I2, T, st2, f2, q⟩ := h2
  refine newSet_ok (newEnv_comp ?_)
  obtain ⟨L, hL⟩ : ∃ L, s2.heap.objs.size = L := ⟨_, rfl⟩
  rw [hL]
  have nL : H2 L = none := I2.hok.fresh (Nat.le_of_eq hL)
  obtain ⟨W, ⟨m0, w0⟩, turn⟩ := q L nL
  obtain ⟨H3, eH3⟩ : ∃ H3, upd H2 L (SetO X.w L (fun _ => false) 0) = H3 := ⟨_, rfl⟩
  rw [eH3] at w0
  obtain ⟨s3, e3⟩ : ∃ s3 : Shared, ({ s2 with heap := s2.heap.push { cls := .type "set", dict := none, data := .set #[] 0 (.fresh 0 0 (!X.w.params.followText "set-order")) } } : Shared) = s3 := ⟨_, rfl⟩
  have grow : ∀ {b : Addr} {o : Obj}, s2.heap.get? b = some o → s3.heap.get? b = some o := fun z => by rw [← e3]; exact Heap.get?_push_of_some _ z
  have sz3 : s3.heap.objs.size = s2.heap.objs.size + 1 := by rw [← e3]; exact Heap.size_push ..
  have I3 : Inv X pins σ H3 s3 := by
    rw [← e3, ← eH3]
    refine I2.laid (t' := s2.toks) (fun b o e => Heap.get?_push_of_some _ e) (Nat.le_of_eq hL) ?_
    rw [← hL]
    exact setO_new (setR_fresh X.w)
  have low : ∀ b ∈ fp, b < s2.heap.objs.size := fun b hb => let ⟨_, e, _⟩ := T.obj _ _ st2 b hb; Heap.lt_size e
  have f3 : ∀ b ∈ fp, FpOk X pins H3 b ∧ b < s3.heap.objs.size := fun b hb => by
    refine ⟨⟨?_, (f2 b hb).2⟩, by rw [sz3]; exact Nat.lt_succ_of_lt (low b hb)⟩
    rw [← eH3, upd_ne (by rw [← hL]; exact Nat.ne_of_lt (low b hb))]
    exact (f2 b hb).1
  have st3 : tn 0 s3.heap := T.keep _ _ _ st2 fun b _ o e => grow e
  have J4 := block_start I3 ok hN f3
  obtain ⟨cl, ecl⟩ : ∃ cl, cellsFrom (s3.heap.objs.size + 1) scope.names (cloFrom X.env.cells scope.names []) = cl := ⟨_, rfl⟩
  have pg := hg s3 H3 s3.heap.objs.size cl fp
  have pt := ht s3 H3 s3.heap.objs.size cl fp
  have pe := he s3 H3 s3.heap.objs.size cl fp
  rw [ecl] at J4
  have goal : codeAny (model X.prog X.w) X.A (.compStart (.SetComp elt [⟨tg, iter, ifs, 0⟩] scope pos) 0 (.ref it) (.ref L) (compEnvC scope cl s3.heap.objs.size X.env)) (compPost (model X.prog X.w) X.A X.xe none (EP X pins σ Q) (.ref L) s3.heap.objs.size) { s3 with heap := pushCells (s3.heap.push { cls := .type "dict", data := .dict #[] }) scope.names } := by
    have zero : ∀ b ∈ fp, H3 b = none := fun b hb => (f3 b hb).1.1
    obtain ⟨ce, ece⟩ : ∃ ce, compEnvC scope cl s3.heap.objs.size X.env = ce := ⟨_, rfl⟩
    rw [ece] at J4 pg pt pe ⊢
    have cL : ce.locals = s3.heap.objs.size := by rw [← ece]; rfl
    obtain ⟨s4, e4⟩ : ∃ s4 : Shared, ({ s3 with heap := pushCells (s3.heap.push { cls := .type "dict", data := .dict #[] }) scope.names } : Shared) = s4 := ⟨_, rfl⟩
    rw [e4] at J4 ⊢
    have st4 : tn 0 s4.heap := T.keep _ _ _ st3 fun b _ o e => by rw [← e4]; exact pushCells_keeps _ _ _ _ (Heap.get?_push_of_some _ e)
    have apart : ∀ {σ' : L2.St} {H' : Hp} {s' : Shared}, Inv (X.blk s3 H3 scope ce fp) [] σ' H' s' → (∀ b ∈ fp, H' b = none) → ∀ b ∈ fp, FpOk (X.blk s3 H3 scope ce fp) [] H' b := fun {σ' H' s'} I' hn b hb =>
      ⟨hn b hb, (I'.ok.exf b hb).1, I'.ok.exfs b hb, .inl hb, fun x c e => (I'.ok.exf b hb).2 x c e, fun p hp => absurd (show p ∈ ([] : List (Addr × Obj)) ++ [] from hp) (by simp)⟩
    have loop : codeAny (model X.prog X.w) X.A (.compLoop (.SetComp elt [⟨tg, iter, ifs, 0⟩] scope pos) 0 (.ref it) (.ref L) ce) (compPost (model X.prog X.w) X.A X.xe none (EP X pins σ Q) (.ref L) s3.heap.objs.size) s4 := by
      refine compLoopS_any (fun n s' => ∃ i H', Inv (X.blk s3 H3 scope ce fp) [] (wipe σ (own.map (·.2))) H' s' ∧ tn i s'.heap ∧ (∀ b ∈ fp, H' b = none) ∧ W i n H') ?_ m0 ⟨0, H3, J4, st4, zero, w0⟩
      rintro n s5 ⟨i, H5, I5, st5, n5, w5⟩
      rcases turn i n H5 w5 with ⟨stop, qq⟩ | ⟨go, Nx, hNx, step⟩
      · refine thnF (T.done (X.blk s3 H3 scope ce fp) rfl rfl rfl hc i [] s5 _ H5 (fun _ _ => False) I5 (apart I5 n5) st5 stop) fun r s6 ⟨hr, I6⟩ => ?_
        subst hr
        have I7 : Inv X pins σ H5 s6 := I3.call' (ch := fp) I6.os I6.base I6.hok I6.bare fun b hb => ⟨(f3 b hb).1.2.2.2.1, (f3 b hb).1.2.1, (f3 b hb).1.2.2.2.2.1, (f3 b hb).1.2.2.2.2.2⟩
        have nC : H5 s3.heap.objs.size = none := by rw [← cL]; exact I6.free
        obtain ⟨m, hn, _⟩ := I6.loc
        have hn : s6.heap.Ns s3.heap.objs.size m := by rw [← cL]; exact hn
        obtain ⟨g0, g1, g2, g3, g4, g5⟩ := I3.fpOk (Nat.le_refl _) nC
        exact ⟨m, hn, fun h'' sb => ⟨.ref L, H5, I7.turned (t' := s6.toks) (fun b o hb e => (sb.2 b hb).trans e) g0 g1 g3 g4 g5, rfl, qq⟩⟩
      · refine thnF (T.item (X.blk s3 H3 scope ce fp) rfl rfl rfl hc i [] s5 _ H5 (fun _ _ => False) I5 (apart I5 n5) st5 go) fun r s6 ⟨u, hr, h6⟩ => ?_
        subst hr
        refine thnF h6 fun _ s7 ⟨x, H7, I7, r7, y7, st7, n7⟩ => ?_
        refine thnF (pg.run _ s7 _ H7 x u _ (I7.pinned (apart I7 n7) (T.obj _ _ st7)) r7 (step x H7 y7)) fun _ s8 ⟨σ8, H8, I8, hw8, q8⟩ => ?_
        refine thnF (pt.run _ s8 σ8 H8 _ I8 q8) fun b s9 ⟨H9, I9, q9⟩ => ?_
        have back : ∀ {s' : Shared} {H' : Hp}, Inv (X.blk s3 H3 scope ce fp) ([] ++ pinsAt fp s7.heap) σ8 H' s' → Nx H' → ∃ m, m < n ∧ ∃ i H', Inv (X.blk s3 H3 scope ce fp) [] (wipe σ (own.map (·.2))) H' s' ∧ tn i s'.heap ∧ (∀ b ∈ fp, H' b = none) ∧ W i m H' := fun {s' H'} I' nx => by
          obtain ⟨m', hm, w'⟩ := hNx H' nx
          have pin2 : ∀ b ∈ fp, ∀ o, s7.heap.get? b = some o → s'.heap.get? b = some o ∧ H' b = none := fun b hb o e =>
            let z := I'.pin (b, o) (List.mem_append_right _ (List.mem_append_right _ (mem_pinsAt hb e)))
            ⟨z.1, z.2.1⟩
          refine ⟨m', hm, i + 1, H', (I'.unpinned (pins := [])).weak (by rw [← hw8, wipe_length]) (fun j v e => ?_), T.keep _ _ _ st7 fun b hb o e => (pin2 b hb o e).1, fun b hb => ?_, w'⟩
          · rw [← hw8] at e
            exact (wipe_some e).1
          · obtain ⟨o, e, _⟩ := T.obj _ _ st7 b hb
            exact (pin2 b hb o e).2
        cases b with
        | false =>
          simp only [Bool.false_eq_true, if_false] at q9 ⊢
          exact back I9 q9
        | true =>
          simp only [if_true] at q9 ⊢
          refine thnF (pe.run _ s9 σ8 H9 _ I9 q9) fun z s10 ⟨yv, H10, I10, r10, k0, M0, n0, ey, hL10, hz10, nx⟩ => ?_
          subst ey
          obtain ⟨tk, rfl⟩ := r10
          exact put_set (X := X.blk s3 H3 scope ce fp) I10 hL10 hz10 fun s11 I11 => back I11 nx
    exact codeAny_compStart_set loop (T.self X.A 0 _ _ _ st4 loop)
  rw [e3] at *
  rw [← ecl] at goal
  exact goal
end
end DL
end
/-! ## DL14 -/
section
set_option Elab.async false
set_option linter.all false
set_option maxRecDepth 100000
set_option maxHeartbeats 4000000
namespace DL
open PySem PySem.Spec PyProof.Rows L2 PpSet
section
variable {X : Cx} {g : Gx} {e : En} {W : WX} {a b c : Expr} {pos : Pos} {f : DE}
/-! ### sorted(set(list)) -/
def rSetL (w : World) (K : PySem.W.Frag) : List V → Hp → VK → Prop := fun vs H Q => ∃ (a : Addr) (ns : List Int), vs = [V.ref a] ∧ SqL K H a (ns.map V.int) ∧ ns.length ≤ 1000 ∧ ∀ p c, H p = none → c ≤ ns.length → Q (.ref p) (upd H p (SetO w p (fun j => decide (j ∈ ns)) c))
theorem cr_setL (hc : X.calm = true) : CallR X (.type "set") (rSetL X.w X.K) := by
  intro pins s σ H vs us Q I r h
  obtain ⟨a, ns, rfl, hq, hl, q⟩ := h
  rw [Vals.ref1 r]
  obtain ⟨its, rv, pl, hz⟩ := I.list hq
  refine call_setL ns (I.ok.hd hc) pl.isList (by simpa using rv.ints) (by unfold scanBound; omega) fun h' tk c R hcn k => ?_
  exact ⟨.ref _, _, I.laid (t' := tk) k (Nat.le_refl _) (setO_new R), rfl, q _ c (I.hok.fresh (Nat.le_refl _)) hcn⟩
def dSortS (u : DA) : DA := fun ρ S k E => u ρ S (fun ds S1 => ∃ (d : D) (ns : List Int), ds = [d] ∧ lstOrScr S1 d = some (ns.map D.int) ∧ ns.length < 64 ∧ ∀ ns' : List Int, ns'.Pairwise (· < ·) → (∀ z, z ∈ ns' ↔ z ∈ ns) → k (ns'.map D.int) S1) E
theorem dm_sortS {u : DA} {p1 p2 pos2 : Pos} (C : Cxt X g e W) (hg : Gl X "sorted") (hm : g.mg "sorted" = none) (hg2 : Gl X "set") (hm2 : g.mg "set" = none) (ha : PA X [a] (liftA g e W u))
    (h1 : starEach [a] X.env = (false, eval a X.env) :: starEach [] X.env := by rfl) : PE X (.Call (.Name "sorted" p1) [.Call (.Name "set" p2) [a] [] pos2] [] pos) (liftM g e W (dSortS u)) :=
  (pe_callB (cr_sortedSet C.calm) hg (by rw [C.mg]; exact hm) PyProof.Rows.boot_sorted (pa_cons (pe_callTy (cr_setL C.calm) hg2 (by rw [C.mg]; exact hm2) PyProof.Rows.boot_set ha (by decide) (by decide) h1 (by rfl)) pa_nil rfl) (by decide) (by decide) rfl rfl).imp
    fun σ H Q ⟨ρ, Hi, S, k, E, i, sl, q, hk, hx⟩ => by
      refine ⟨ρ, Hi, S, _, E, i, sl, q, fun ds S1 vs H1 Hi1 i1 s1 r1 ⟨d, ns, ed, hl, h64, q1⟩ => ?_, hx⟩
      subst ed
      obtain ⟨v, rfl, rv⟩ := Reps.one r1
      obtain ⟨t, us, rfl, h2, h3⟩ := lsOf_rep i1.ok rv hl
      have e1 := h3.of_int
      subst e1
      refine ⟨t, ns, rfl, by rw [C.K]; exact h2, by omega, fun p c hp hc => ?_⟩
      obtain ⟨n0, n1, n2⟩ := i1.n0 hp
      have i2 := i1.frg (o := SetO X.w p (fun j => decide (j ∈ ns)) c) n0 n1 n2 (noTbl hp)
      refine ⟨p, _, c, rfl, upd_same, by omega, fun ns' p' hs hm' _ hp' => ?_⟩
      obtain ⟨n3, i3⟩ := isNewC i2 hp' (Reps.map_int (g := g) (H := Hi1) (ns := ns'))
      exact hk _ S1 p' _ Hi1 n3 i3 s1 (q1 ns' hs fun z => by rw [hm' z]; simp)
/-! ### sorted({el for t in it if ts}) -/
def dScL (t : DG) (ts : DT) (el : DE) (ρw : Env) : List D → List Int → Sto → (List Int → Sto → Prop) → Prop
  | [], acc, S, k => k acc S
  | d :: ds, acc, S, k => t d ρw S (fun ρ1 S1 => ts ρ1 S1 (fun b S2 => if b = true then el ρ1 S2 (fun y S3 => ∃ z, y = .int z ∧ dScL t ts el ρw ds (acc ++ [z]) S3 k) noX else dScL t ts el ρw ds acc S2 k) noX) noX
def dSortSC (it : DA) (t : DG) (ts : DT) (el : DE) (vs : List Nat) : DA := fun ρ S k E => it ρ S (fun ds S1 => ds.length < 64 ∧ dScL t ts el (wipeE ρ vs) ds [] S1 fun zs S2 => ∀ ns' : List Int, ns'.Pairwise (· < ·) → (∀ z, z ∈ ns' ↔ z ∈ zs) → k (ns'.map D.int) S2) E
theorem setO_ne_tbl {w : World} {L : Addr} {M : Int → Bool} {n : Nat} {ps : Array Value} : SetO w L M n ≠ .tbl ps := fun z => by unfold SetO at z; cases z
theorem sc_imp {it : DA} {t : DG} {ts : DT} {el : DE} {vs : List Nat} : ∀ σ H Q, liftM g e W (dSortSC it t ts el vs) σ H Q → tCB (rSortedSet X.w) (tCons (tScI X.w (liftI g e W it) (liftxGw g vs t) (liftxT g W0 ts) (liftx g W0 el) vs) tNil) σ H Q := by
  rintro σ H Q ⟨ρ, Hi, S, k, E, i, sl, q, hk, hx⟩
  refine ⟨ρ, Hi, S, _, E, i, sl, q, fun ds S1 J H1 Hi1 i1 s1 wk ⟨hz, q1⟩ => ?_, hx⟩
  intro L hL
  obtain ⟨n0, n1, n2⟩ := i1.n0 hL
  refine ⟨fun n m H2 => ∃ Hi2 S2 acc M cnt, m = ds.length - n ∧ n ≤ ds.length ∧ Is g e H2 Hi2 S2 ∧ Same Hi1 Hi2 ∧ H2 L = some (SetO X.w L M cnt) ∧ Hi2 L = none ∧ S2 L = none ∧ (∀ z, M z = decide (z ∈ acc)) ∧ cnt ≤ n ∧ dScL t ts el (wipeE ρ vs) (ds.drop n) acc S2 fun zs S2 => ∀ ns' : List Int, ns'.Pairwise (· < ·) → (∀ z, z ∈ ns' ↔ z ∈ zs) → k (ns'.map D.int) S2,
    ⟨ds.length, Hi1, S1, [], fun _ => false, 0, by simp, Nat.zero_le _, i1.frg n0 n1 n2 (noTbl hL), Same.refl _, upd_same, n1, n2, fun _ => rfl, Nat.le_refl _, q1⟩, ?_⟩
  rintro n m H2 ⟨Hi2, S2, acc, M, cnt, rfl, hn, i2, s2, hL2, nh, ns, hM, hcnt, q2⟩
  by_cases hlt : n < ds.length
  · rw [List.drop_eq_getElem_cons hlt] at q2
    obtain ⟨e2, he2⟩ : ∃ e2 : En, e2 = ⟨H2, Hi2, S2, i2.ok.sub⟩ := ⟨_, rfl⟩
    have j2 : Is g e2 H2 Hi2 S2 := by rw [he2]; exact ⟨i2.ok, Ext.refl⟩
    obtain ⟨_, w2⟩ := wk e2 n H2 Hi2 S2 j2 s2
    obtain ⟨go, yl⟩ := w2 ds[n] (List.getElem?_eq_getElem hlt)
    have back : ∀ {H6 Hi6 : Hp} {S6 : Sto}, Is g e2 H6 Hi6 S6 → Is g e H6 Hi6 S6 ∧ Same Hi2 Hi6 ∧ H6 L = some (SetO X.w L M cnt) ∧ Hi6 L = none ∧ S6 L = none := fun {H6 Hi6 S6} j6 => by
      rw [he2] at j6
      obtain ⟨f1, f2⟩ := j6.ext.fre L _ hL2 nh ns
      exact ⟨i2.next j6.ok j6.ext, j6.ext.imm, j6.ext.frm L _ hL2 ns (fun _ z => setO_ne_tbl z), f1, f2⟩
    refine .inr ⟨go, fun H3 => ∃ Hi3 S3 acc3 M3 cnt3, Is g e H3 Hi3 S3 ∧ Same Hi1 Hi3 ∧ H3 L = some (SetO X.w L M3 cnt3) ∧ Hi3 L = none ∧ S3 L = none ∧ (∀ z, M3 z = decide (z ∈ acc3)) ∧ cnt3 ≤ n + 1 ∧ dScL t ts el (wipeE ρ vs) (ds.drop (n + 1)) acc3 S3 fun zs S2 => ∀ ns' : List Int, ns'.Pairwise (· < ·) → (∀ z, z ∈ ns' ↔ z ∈ zs) → k (ns'.map D.int) S2,
      fun H3 ⟨Hi3, S3, acc3, M3, cnt3, z⟩ => ⟨ds.length - (n + 1), by omega, Hi3, S3, acc3, M3, cnt3, rfl, hlt, z⟩, fun x H3 hy => ?_⟩
    obtain ⟨Hi3, j3, s3, r3, _⟩ := yl x H3 hy
    refine ⟨e2, ds[n], wipeE ρ vs, Hi3, S2, _, j3, (slots_wipe sl vs).mono ((s1.trans s2).trans s3), r3, q2, fun ρ4 S4 σ4 H4 Hi4 j4 s4 sl4 w4 q4 => ?_⟩
    refine ⟨by rw [w4]; exact lc_imp.wipe_wipe, ?_⟩
    refine ⟨e2, ρ4, Hi4, S4, _, noX, j4, sl4, q4, fun b S5 H5 Hi5 j5 s5 q5 => ?_, fun _ _ _ _ _ _ _ _ _ _ z => z.elim⟩
    cases b with
    | false =>
      obtain ⟨i6, s6, l6, h6, z6⟩ := back j5
      exact ⟨Hi5, S5, acc, M, cnt, i6, s2.trans s6, l6, h6, z6, hM, Nat.le_succ_of_le hcnt, q5⟩
    | true =>
      refine ⟨e2, ρ4, Hi5, S5, _, noX, j5, sl4.mono s5, q5, fun y S6 v H6 Hi6 j6 s6 r6 ⟨z, ey, q6⟩ => ?_, fun _ _ _ _ _ _ _ _ _ _ z => z.elim⟩
      subst ey
      obtain ⟨i7, s7, l7, h7, z7⟩ := back j6
      refine ⟨z, M, cnt, r6, l7, by unfold scanBound; omega, Hi6, S6, acc ++ [z], _, _, i7.frg n0 h7 z7 (by rw [l7]; intro ps z; exact absurd (Option.some.inj z) setO_ne_tbl), s2.trans s7, upd_same, h7, z7, fun y => by rw [hM y]; simp, ?_, q6⟩
      split <;> omega
  · obtain rfl : n = ds.length := by omega
    rw [List.drop_length] at q2
    obtain ⟨w1, _⟩ := wk e ds.length H2 Hi2 S2 i2 s2
    refine .inl ⟨w1 (Nat.le_refl _), ?_⟩
    refine ⟨L, M, cnt, rfl, hL2, by omega, fun ns' p' hs hm' _ hp' => ?_⟩
    obtain ⟨n3, i3⟩ := isNewC i2 hp' (Reps.map_int (g := g) (H := Hi2) (ns := ns'))
    exact hk _ S2 p' _ Hi2 n3 i3 (s1.trans s2) (q2 ns' hs fun z => by rw [hm' z, hM z]; simp)
theorem dm_sortSC {p1 : Pos} {elt tg iter : Expr} {ifs : List Expr} {scope : Scope} {own : List (Str × Nat)} {spos : Pos} {it : DA} {t : DG} {ts : DT} {el : DE} (C : Cxt X g e W) (hN : X.N.Nodup) (hg : Gl X "sorted") (hm : g.mg "sorted" = none) (hi : PI X tg iter (liftI g e W it)) (B : BlkD X g scope own tg elt ifs t ts el)
    (hs : ∀ x, foldedSetIterable iter X.env x = pure x := by intro _; rfl) : PE X (.Call (.Name "sorted" p1) [.SetComp elt [⟨tg, iter, ifs, 0⟩] scope spos] [] pos) (liftM g e W (dSortSC it t ts el (own.map (·.2)))) :=
  (pe_callB (cr_sortedSet C.calm) hg (by rw [C.mg]; exact hm) PyProof.Rows.boot_sorted (pa_cons (pe_scI C.calm hN hi B.ok (fun s H C' cl fp => dw_any (B.tg s H C' cl fp)) (fun s H C' cl fp => dts_any (B.ts s H C' cl fp)) (fun s H C' cl fp => de_any (B.el s H C' cl fp)) hs) pa_nil rfl) (by decide) (by decide) rfl rfl).imp sc_imp
end
end DL
end
/-! ## DL15 -/
section
set_option Elab.async false
set_option linter.all false
set_option maxRecDepth 100000
set_option maxHeartbeats 4000000
namespace DL
open PySem PySem.Spec PyProof.Rows L2
/-! ### == and != of instances -/
section
open PySem.W
variable {prog : Program} {w : World} {A : Around} {E : Value → Shared → Prop} {s : Shared} {K : Frag} {x C f : Addr} {ox : Obj} {od : Option Obj} {b tb : Value}
theorem own_cmp {op : CmpOp} {Q : Value → Shared → Prop} (hu : A.units < cLine) (X : K.In s.heap) (I : InstAt s.heap x ox C od) (hb : Looks (model prog w) s.heap (typeOf b) tb) (hn : notFirst K C tb = true)
    (one : wpAny (model prog w) A (tryCompare (.ref x) (cmpInfo op).2.1 b) (fun r s' => ∃ v, r = some v ∧ Q v s') E s) : wpAny (model prog w) A (richCompare op (.ref x) b) Q E s := by
  unfold richCompare
  simp only [oneThing_ref]
  refine wpAny_holding (wpAny_bind (wpAny_cRoomFor hu (wpAny_bind (I.type.here (wpAny_bind (hb.here ?_))))))
  split
  · rename_i q
    have e : subIn K tb (.ref C) = some false := by
      rcases Bool.or_eq_true_iff.mp hn with e | e
      · rw [beq_iff_eq.mp e] at q; simp at q
      · exact beq_iff_eq.mp e
    refine wpAny_bind ((looks_subIn X e).here ?_)
    simp only [Bool.false_eq_true, if_false]
    exact wpAny_bind (wpAny_mono one (fun r s' ⟨v, er, hq⟩ => by subst er; exact wpAny_pure hq) fun _ _ z => z)
  · refine wpAny_bind (wpAny_pure ?_)
    simp only [Bool.false_eq_true, if_false]
    exact wpAny_bind (wpAny_mono one (fun r s' ⟨v, er, hq⟩ => by subst er; exact wpAny_pure hq) fun _ _ z => z)
theorem try_eq {Q : Value → Shared → Prop} (X : K.In s.heap) (I : InstAt s.heap x ox C od) (hs : findIn K (.ref C) "__eq__" = some (some (.ref f))) (hf : isFn K (.ref f) = true) (h : wpAny (model prog w) A (call (.ref f) [.ref x, b]) (fun v s' => ∃ r, v = .bool r ∧ Q (.bool r) s') E s) :
    wpAny (model prog w) A (tryCompare (.ref x) "__eq__" b) (fun r s' => ∃ v, r = some v ∧ Q v s') E s := by
  unfold tryCompare
  refine wpAny_bind (ifBound_K X I hs hf (wpAny_mono h (fun v s' ⟨r, ev, hq⟩ => ?_) fun _ _ e => e))
  subst ev
  exact wpAny_pure ⟨_, rfl, hq⟩
theorem bound_ne {args : List Value} {Q : Option Value → Shared → Prop} (X : K.In s.heap) (I : InstAt s.heap x ox C od) (hs : findIn K (.ref C) "__ne__" = some (some (.builtin "object.__ne__")))
    (h : wpAny (model prog w) A (call (.builtin "object.__ne__") (.ref x :: args)) (fun v => Q (some v)) E s) : wpAny (model prog w) A (callSpecialIfBound? (.ref x) "__ne__" args) Q E s := by
  simp only [callSpecialIfBound?, bindSpecialIfBound?]
  refine wpAny_holding (wpAny_bind (wpAny_bind (wpAny_bind (I.type.here ((looks_findIn X hs).here (wpAny_bind (wpAny_askSetting (wpAny_ite ?_))))))))
  have fin : wpAny (model prog w) A (call (.builtin "object.__ne__") ([.ref x] ++ args) >>= fun v => pure (some v)) Q E s := wpAny_bind (wpAny_mono h (fun v s' z => wpAny_pure z) fun _ _ z => z)
  split
  · exact wpAny_bind (wpAny_of_eq (F.cmp_object.ne.bind _) (wpAny_pure (by exact fin)))
  · exact wpAny_tryCatch (wpAny_bind (wpAny_of_eq (F.cmp_object.ne.bind _) (wpAny_pure (by exact fin))))
theorem try_ne {Q : Value → Shared → Prop} (hu : A.units + 1 < cLine) (X : K.In s.heap) (I : InstAt s.heap x ox C od) (hm : mroIn K C (.type "object") = some true) (hne : findIn K (.ref C) "__ne__" = some (some (.builtin "object.__ne__"))) (hs : findIn K (.ref C) "__eq__" = some (some (.ref f))) (hf : isFn K (.ref f) = true)
    (h : wpAny (model prog w) A.in1 (call (.ref f) [.ref x, b]) (fun v s' => ∃ r, v = .bool r ∧ Q (.bool (!r)) s') E s) : wpAny (model prog w) A (tryCompare (.ref x) "__ne__" b) (fun r s' => ∃ v, r = some v ∧ Q v s') E s := by
  unfold tryCompare
  refine wpAny_bind (bound_ne X I hne (wpAny_call (codeAny_call_builtin F.cmp_object.ne.plain F.cmpEntry_ne (check_slot F.cmpKind_ne F.cmpSplit_ne (I.type.andThen (looks_mroIn X hm)) (F.cmpArgs_ne _ _) ?_))))
  unfold Builtin.«object.__ne__»
  have inner : wpAny (model prog w) A.in1 (callSpecialIfBound? (.ref x) (Str.ofString "__eq__") [b]) (fun r s' => ∃ z, r = some (.bool z) ∧ Q (.bool (!z)) s') E s :=
    ifBound_K X I hs hf (wpAny_mono h (fun v s' ⟨r, ev, hq⟩ => by subst ev; exact ⟨r, rfl, hq⟩) fun _ _ z => z)
  refine wpAny_bind (m := slotArgs "__ne__" 1 _) (wpAny_pure ?_)
  refine wpAny_bind (wpAny_cRoomFor (show A.units + 1 < cLine from hu) ?_)
  refine wpAny_bind (wpAny_mono inner (fun r s' ⟨z, er, hq⟩ => ?_) fun _ _ z => z)
  subst er
  refine wpAny_bind (wpAny_truthy_bool (wpAny_pure ?_))
  first
    | exact wpAny_pure ⟨_, rfl, hq⟩
    | exact ⟨_, rfl, wpAny_pure ⟨_, rfl, hq⟩⟩
end
end DL
end
/-! ## DL16 -/
section
set_option Elab.async false
set_option linter.all false
set_option maxRecDepth 100000
set_option maxHeartbeats 4000000
namespace DL
open PySem PySem.Spec PyProof.Rows L2
section
variable {X : Cx} {g : Gx} {e : En} {W : WX} {a b c : Expr} {pos : Pos} {f f' : DE} {k : Nat} {ms : List (Nat × DFn)} {rs : List Nat}
/-- the classes' own == -/
structure EqvOk (g : Gx) (P : Program) (w : World) (base : Heap) (k : Nat) (ms : List (Nat × DFn)) (rs : List Nat) : Prop where
  ok : ∀ c wf d, ms.lookup c = some wf → rs.contains d = true → ∃ f, PySem.W.notFirst g.K (g.ca c) (.ref (g.ca d)) = true ∧ PySem.W.findIn g.K (.ref (g.ca c)) "__eq__" = some (some (.ref f)) ∧ PySem.W.isFn g.K (.ref f) = true ∧
    PySem.W.mroIn g.K (g.ca c) (.type "object") = some true ∧ PySem.W.findIn g.K (.ref (g.ca c)) "__ne__" = some (some (.builtin "object.__ne__")) ∧ DFnR g P w base k f wf
def dOEq (neg : Bool) (ms : List (Nat × DFn)) (rs : List Nat) (fa fb : DE) : DE := fun ρ S k E => fa ρ S (fun x S1 => fb ρ S1 (fun y S2 => ∃ c fs d fs' wf, insOf S2 x = some (c, fs) ∧ insOf S2 y = some (d, fs') ∧ ms.lookup c = some wf ∧ rs.contains d = true ∧ wf [x, y] S2 (fun r S3 => ∃ b, r = .bl b ∧ k (.bl (neg ^^ b)) S3) E) E) E
/-- the callee runs, one frame up -/
theorem run_d1 {pins : List (Addr × Obj)} {σ : L2.St} {H Hi : Hp} {S : Sto} {s : Shared} {fa : Addr} {wf : DFn} {Q : VK} {us : List Value} {vs : List V} {ds : List D} {k1 : K1} {E1 : X1} (C : Cxt X g e W) (F : DFnR g X.prog X.w X.base k fa wf) (hr : Room (k + 1) X.A) (I : Inv X pins σ H s) (r : Vals vs us)
    (i : Is g e H Hi S) (rs : Reps g Hi vs ds) (q : wf ds S k1 E1) (hk : KOk g e Hi k1 Q) (hx : XOk g e W Hi σ E1) : wpAny (model X.prog X.w) X.A.in1 (call (.ref fa) us) (EP X pins σ Q) X.xe s := by
  have hg : X.A.in1.guards = some [] := by
    have e1 : X.A.in1.guards = X.A.guards := by first | rfl | simp [Around.in1, Around.under, Code.guards, Code.isGuard, guardIds, pushGuards]
    rw [e1]; exact C.gd
  have hsp := spD_of (σ := σ) (W := W) (wf := wf) i rs q hk hx
  refine wpAny_call (codeAny_mono (FnR.to C F X.A.in1 X.stack s H us vs Q _ hr.in1 hg I.env0.in1 r hsp) fun r s' z => ?_)
  match r, z with
  | .error er, z => exact C.pass σ pins H s er s' I z
  | .ok (.ret u), z => exact I.after z
  | .ok .next, z => exact z.elim
  | .ok .brk, z => exact z.elim
  | .ok .cont, z => exact z.elim
theorem oeq_run {op : CmpOp} {neg : Bool} (hop : (op = .Eq ∧ neg = false) ∨ (op = .NotEq ∧ neg = true)) (C : Cxt X g e W) (B : EqvOk g X.prog X.w X.base k ms rs) (hr : Room (k + 1) X.A) (hu : X.A.units + 64 < cLine) (ha : PE X a (lift g e W f)) (hb : PE X b (lift g e W f'))
    {pins : List (Addr × Obj)} {s : Shared} {σ : L2.St} {H : Hp} {Q : VK} (I : Inv X pins σ H s) (h : lift g e W (dOEq neg ms rs f f') σ H Q) :
    wpAny (model X.prog X.w) X.A (eval a X.env) (fun v s1 => wpAny (model X.prog X.w) X.A (eval b X.env) (fun u s2 => wpAny (model X.prog X.w) X.A (richCompare op v u) (fun r s' => ∃ z, r = .bool z ∧ EP X pins σ Q (.bool z) s') X.xe s2) X.xe s1) X.xe s := by
  obtain ⟨ρ, Hi, S, k1, E, i, sl, q, hQ, hx⟩ := h
  obtain ⟨ko, hko⟩ : ∃ ko : D → D → Sto → Prop, ko = fun x y S2 => ∃ c fs d fs' wf, insOf S2 x = some (c, fs) ∧ insOf S2 y = some (d, fs') ∧ ms.lookup c = some wf ∧ rs.contains d = true ∧ wf [x, y] S2 (fun r S3 => ∃ b, r = .bl b ∧ k1 (.bl (neg ^^ b)) S3) E := ⟨_, rfl⟩
  have q : f ρ S (fun x S1 => f' ρ S1 (fun y S2 => ko x y S2) E) E := by rw [hko]; exact q
  refine thn (ha.run pins s σ H (fun x H1 => ∃ dx S1 Hi1, Is g e H1 Hi1 S1 ∧ Same Hi Hi1 ∧ Rep g Hi1 x dx ∧ f' ρ S1 (fun y S2 => ko dx y S2) E) I
    ⟨ρ, Hi, S, _, E, i, sl, q, fun d S' v H' Hi' i' s' r' q' => ⟨d, S', Hi', i', s', r', q'⟩, hx⟩) fun v s1 ⟨x, H1, I1, rx, dx, S1, Hi1, i1, s1', r1, q1⟩ => ?_
  refine thn (hb.run pins s1 σ H1 (fun y H2 => ∃ dy S2 Hi2, Is g e H2 Hi2 S2 ∧ Same Hi1 Hi2 ∧ Rep g Hi2 y dy ∧ ko dx dy S2) I1
    ⟨ρ, Hi1, S1, _, E, i1, sl.mono s1', q1, fun d S' v H' Hi' i' s' r' q' => ⟨d, S', Hi', i', s', r', q'⟩, hx.mono s1'⟩) fun u s2 ⟨y, H2, I2, ry, dy, S2, Hi2, i2, s2', r2, q2⟩ => ?_
  rw [hko] at q2
  obtain ⟨c, fs, d, fs', wf, h1, h2, h3, h4, q2⟩ := q2
  obtain ⟨px, dx1, vs1, rfl, e1, _⟩ := insOf_rep i2.ok (r1.mono s2') h1
  obtain ⟨py, dy1, vs2, rfl, e2, _⟩ := insOf_rep i2.ok r2 h2
  obtain rfl : v = Value.ref px := rx
  obtain rfl : u = Value.ref py := ry
  obtain ⟨fa, hnf, hs, hf, hm, hne, F⟩ := B.ok c wf d h3 h4
  obtain ⟨_, O1, _⟩ := ins_get I2.hok e1
  obtain ⟨_, O2, _⟩ := ins_get I2.hok e2
  obtain ⟨od1, J1, _⟩ := O1.look
  obtain ⟨od2, J2, _⟩ := O2.look
  have hkk : g.K.In s2.heap := by rw [← C.K]; exact I2.kIn
  have rr : Reps g Hi2 [V.ref px, V.ref py] [dx, dy] := ⟨r1.mono s2', r2, trivial⟩
  have kk : KOk g e Hi2 (fun r S3 => ∃ b, r = .bl b ∧ k1 (.bl (neg ^^ b)) S3) (fun v H' => ∃ b, v = .bl b ∧ Q (.bl (neg ^^ b)) H') := fun d S' v H' Hi' i' s' r' ⟨z, ed, q'⟩ => by
    subst ed
    exact ⟨z, r', hQ (.bl (neg ^^ z)) S' _ H' Hi' i' ((s1'.trans s2').trans s') rfl q'⟩
  rcases hop with ⟨rfl, rfl⟩ | ⟨rfl, rfl⟩
  · refine own_cmp (by omega) hkk J1 J2.type hnf (wpAny_mono (try_eq (Q := fun r s' => ∃ z, r = .bool z ∧ EP X pins σ Q (.bool z) s') hkk J1 hs hf (thn (run_d (us := [.ref px, .ref py]) (vs := [.ref px, .ref py]) (ds := [dx, dy]) C F (hr.mono (Nat.le_succ _)) I2 (.cons rfl (.cons rfl .nil)) i2 rr q2 kk ((hx.mono s1').mono s2')) fun r s' ⟨v, H3, I3, r3, z, ev, qz⟩ => ?_)) (fun r s' hh => hh) fun _ _ z => z)
    subst ev
    obtain rfl : r = Value.bool z := r3
    exact ⟨z, rfl, z, rfl, .bl z, H3, I3, rfl, by simpa using qz⟩
  · refine own_cmp (by omega) hkk J1 J2.type hnf (wpAny_mono (try_ne (Q := fun r s' => ∃ z, r = .bool z ∧ EP X pins σ Q (.bool z) s') (by omega) hkk J1 hm hne hs hf (thn (run_d1 (us := [.ref px, .ref py]) (vs := [.ref px, .ref py]) (ds := [dx, dy]) C F hr I2 (.cons rfl (.cons rfl .nil)) i2 rr q2 kk ((hx.mono s1').mono s2')) fun r s' ⟨v, H3, I3, r3, z, ev, qz⟩ => ?_)) (fun r s' hh => hh) fun _ _ z => z)
    subst ev
    obtain rfl : r = Value.bool z := r3
    exact ⟨z, rfl, !z, rfl, .bl (!z), H3, I3, rfl, by simpa using qz⟩
theorem de_oeq (C : Cxt X g e W) (B : EqvOk g X.prog X.w X.base k ms rs) (hr : Room (k + 1) X.A) (hu : X.A.units + 64 < cLine) (ha : PE X a (lift g e W f)) (hb : PE X b (lift g e W f')) : PE X (.Compare a [.Eq] [b] pos) (lift g e W (dOEq false ms rs f f')) :=
  ⟨fun pins s σ H Q I h => wpAny_Compare1 (wpAny_mono (oeq_run (op := .Eq) (.inl ⟨rfl, rfl⟩) C B hr hu ha hb I h) (fun v s1 z => wpAny_mono z (fun u s2 z2 => wpAny_mono z2 (fun r s3 ⟨q, er, z3⟩ => by subst er; exact z3) fun _ _ y => y) fun _ _ y => y) fun _ _ y => y) (nomark _)⟩
theorem de_one_ (C : Cxt X g e W) (B : EqvOk g X.prog X.w X.base k ms rs) (hr : Room (k + 1) X.A) (hu : X.A.units + 64 < cLine) (ha : PE X a (lift g e W f)) (hb : PE X b (lift g e W f')) : PE X (.Compare a [.NotEq] [b] pos) (lift g e W (dOEq true ms rs f f')) :=
  ⟨fun pins s σ H Q I h => wpAny_Compare1 (wpAny_mono (oeq_run (op := .NotEq) (.inr ⟨rfl, rfl⟩) C B hr hu ha hb I h) (fun v s1 z => wpAny_mono z (fun u s2 z2 => wpAny_mono z2 (fun r s3 ⟨q, er, z3⟩ => by subst er; exact z3) fun _ _ y => y) fun _ _ y => y) fun _ _ y => y) (nomark _)⟩
theorem bl_of {Q : Bool → Hp → Prop} {pins : List (Addr × Obj)} {σ : L2.St} {s : Shared} {z : Bool} {Qv : Bool → Shared → Prop} {E : Value → Shared → Prop} {M : Model} {A : Around} (h : EP X pins σ (fun v H' => ∃ b, v = .bl b ∧ Q b H') (.bool z) s) (hq : ∀ H', Inv X pins σ H' s → Q z H' → Qv z s) : wpAny M A (truthy (.bool z)) Qv E s := by
  obtain ⟨v, H', I', r, b, ev, q⟩ := h
  subst ev
  have r : Value.bool z = Value.bool b := r
  cases r
  exact wpAny_truthy_bool (hq H' I' q)
theorem dt_oeq (C : Cxt X g e W) (B : EqvOk g X.prog X.w X.base k ms rs) (hr : Room (k + 1) X.A) (hu : X.A.units + 64 < cLine) (ha : PE X a (lift g e W f)) (hb : PE X b (lift g e W f')) : PT X (.Compare a [.Eq] [b] pos) (liftT g e W (dTst (dOEq false ms rs f f'))) :=
  ⟨fun pins s σ H Q I h => wpAny_isTrue_Compare1 (wpAny_mono (oeq_run (op := .Eq) (.inl ⟨rfl, rfl⟩) C B hr hu ha hb I (liftTst (f := dOEq false ms rs f f') σ H Q h)) (fun v s1 z => wpAny_mono z (fun u s2 z2 => wpAny_mono z2 (fun r s3 ⟨q, er, z3⟩ => by subst er; exact bl_of z3 fun H' I' qq => ⟨H', I', qq⟩) fun _ _ y => y) fun _ _ y => y) fun _ _ y => y) (nomark _)⟩
theorem dt_one_ (C : Cxt X g e W) (B : EqvOk g X.prog X.w X.base k ms rs) (hr : Room (k + 1) X.A) (hu : X.A.units + 64 < cLine) (ha : PE X a (lift g e W f)) (hb : PE X b (lift g e W f')) : PT X (.Compare a [.NotEq] [b] pos) (liftT g e W (dTst (dOEq true ms rs f f'))) :=
  ⟨fun pins s σ H Q I h => wpAny_isTrue_Compare1 (wpAny_mono (oeq_run (op := .NotEq) (.inr ⟨rfl, rfl⟩) C B hr hu ha hb I (liftTst (f := dOEq true ms rs f f') σ H Q h)) (fun v s1 z => wpAny_mono z (fun u s2 z2 => wpAny_mono z2 (fun r s3 ⟨q, er, z3⟩ => by subst er; exact bl_of z3 fun H' I' qq => ⟨H', I', qq⟩) fun _ _ y => y) fun _ _ y => y) fun _ _ y => y) (nomark _)⟩
end

/-! ### repr of data -/
section
variable {X : Cx} {g : Gx} {e : En} {W : WX}
/-- what may be shown -/
def shows (p : PyData) : Bool := p.showable && !p.hasDict && decide (p.depth + 1 ≤ 60) && decide (p.shown.length ≤ 16777216)
def rReprD (K : PySem.W.Frag) : List V → Hp → VK → Prop := fun vs H Q => ∃ v p, vs = [v] ∧ (∃ a, v = .ref a) ∧ Dp K H v p ∧ shows p = true ∧ Q (.str p.shown) H
theorem cr_reprD (C : Cxt X g e W) (hu : X.A.units + 64 < cLine) : CallR X (.builtin "repr") (rReprD g.K) := by
  intro pins s σ H vs us Q I r h
  obtain ⟨v, p, rfl, ⟨a, rfl⟩, hd, hs, q⟩ := h
  rw [Vals.ref1 r]
  unfold shows at hs
  simp only [Bool.and_eq_true, Bool.not_eq_true', decide_eq_true_eq] at hs
  obtain ⟨⟨⟨h1, h2⟩, h3⟩, h4⟩ := hs
  rw [← C.K] at hd
  obtain ⟨as, rd⟩ := Dp.reads I p (.ref a) (.ref a) hd rfl
  refine repr_of_reads' rd h1 (fun z => by rw [h2] at z; cases z) C.gd (by omega) (fun b o z => z) (fun h' u tk k => ?_) (by rw [sizeLine_eq]; exact h4)
  exact ⟨.str p.shown, H, I.kept (t' := tk) k, ⟨u, rfl⟩, q⟩
def bRepr : DBi := fun ds S k => ∃ d p, ds = [d] ∧ pyT S d = some p ∧ (∃ xs, seqOf S d = some xs) ∧ shows p = true ∧ k (.str p.shown) S
theorem ok_repr : BiOk g e (rReprD g.K) bRepr := by
  rintro H Hi S vs ds k Q i r ⟨d, p, rfl, hp, ⟨xs, hx⟩, hs, q⟩ hk
  obtain ⟨v, rfl, rv⟩ := r.one
  obtain ⟨a, us, rfl, _, _⟩ := seqOf_rep i.ok rv hx
  exact ⟨_, p, rfl, ⟨a, rfl⟩, pyT_rep i.ok rv hp, hs, hk (.str p.shown) S _ H Hi i (Same.refl _) rfl q⟩
end

/-! ### *a, b = t; a, *b = t -/
section
variable {X : Cx} {g : Gx} {e : En} {W : WX} {a b c : Expr} {pos p1 p2 : Pos} {kk : Nat}
/-- two targets, the first | the second takes a list of what is left -/
def dgS (first : Bool) (i j : Nat) : DG := fun d ρ S k _ => ∃ ds, d = .tup ds ∧ ds ≠ [] ∧ ds.length ≤ 16384 ∧ ∀ p, S p = none →
  if first = true then (∃ z, ds.getLast? = some z ∧ k ((ρ.set i (some (.mu p))).set j (some z)) (S.set p (.lst ds.dropLast))) else (∃ z, ds.head? = some z ∧ k ((ρ.set i (some z)).set j (some (.mu p))) (S.set p (.lst ds.tail)))
end
end DL
end
/-! ## DL17 -/
section
set_option Elab.async false
set_option linter.all false
set_option maxRecDepth 100000
set_option maxHeartbeats 4000000
namespace DL
open PySem PySem.Spec PyProof.Rows L2
section
variable {prog : Program} {w : World} {A : Around} {E : Value → Shared → Prop} {s : Shared} {env : PySem.Env}
/-- a tuple's items on n targets, the i-th of them starred: all older objects stay -/
theorem star_unpack {t : Addr} {xs : Array Value} {n i : Nat} {Q : List Value → Shared → Prop} (ht : IsTup s.heap t xs) (hh : A.handled = none) (hi : i < n) (hn : n ≤ xs.size + 1) (hz : xs.size ≤ 16384)
    (fin : ∀ (h₂ : Heap) (tk : Nat), (∀ b o, s.heap.get? b = some o → h₂.get? b = some o) → Q (xs.toList.take i ++ [.ref h₂.objs.size] ++ (xs.toList.drop i).drop (xs.size + 1 - n)) { s with heap := h₂.push { cls := .type "list", data := .seq ((xs.toList.drop i).take (xs.size + 1 - n)).toArray }, toks := tk }) : wpAny (model prog w) A (unpackItems (.ref t) n (some i)) Q E s := by
  obtain ⟨I, hI⟩ : ∃ I, I = s.heap.objs.size := ⟨_, rfl⟩
  have htl : t < I := by obtain ⟨o, ho, _⟩ := ht; rw [hI]; exact Heap.lt_size ho
  have hne : t ≠ I := Nat.ne_of_lt htl
  unfold unpackItems
  refine wpAny_bind ?_
  unfold notIterableAtAll
  refine wpAny_bind (wpAny_specialOf ht.typeIs slot_tuple_iter.lookup (wpAny_pure ?_))
  simp only [Bool.false_eq_true, if_false]
  refine wpAny_bind (wpAny_holding (iter_tuple ht ?_))
  rw [← hI]
  refine wpAny_bind (wpAny_holding (draw_tuple hne i 0 _ _ ⟨_, by rw [hI]; exact Heap.get?_push_size _ rfl, rfl, rfl⟩ (ht.push _) (by omega) fun h₁ hit hs₁ => ?_))
  have ht₁ : IsTup h₁ t xs := (ht.push _).extBut hs₁.extBut hne
  rw [Nat.zero_add] at hit
  have itl : I < h₁.objs.size := by obtain ⟨o, ho, _⟩ := id hit; exact Heap.lt_size ho
  have ttl : t < h₁.objs.size := by obtain ⟨o, ho, _⟩ := id ht₁; exact Heap.lt_size ho
  rw [List.drop_zero]
  have l1 : (xs.toList.take i).length = i := by rw [List.length_take, Array.length_toList]; omega
  rw [if_neg (show ¬ ((xs.toList.take i).length < i) by rw [l1]; omega)]
  have l2 : (xs.toList.drop i).length = xs.size - i := by rw [List.length_drop, Array.length_toList]
  refine wpAny_bind (wpAny_holding (PySem.W.kun_collect (s := { s with heap := h₁ }) (T := "tuple_iterator") (.inr (.inr (.inr rfl))) (Walks.tuple (A := A.in1) hh I t hne xs) (fun j u st => st.1.typeIs) (k := i) (by omega) ⟨hit, ht₁⟩ itl ttl (fun h₂ tk hk => ?_) (by rw [sizeLine_eq]; omega)))
  have l3 : (xs.toList.drop i).length - (n - 1 - i) = xs.size + 1 - n := by rw [l2]; omega
  show wpAny _ _ (if (xs.toList.drop i).length < n - 1 - i then _ else _) _ _ _
  rw [if_neg (by rw [l2]; omega)]
  show wpAny _ _ (newList ((xs.toList.drop i).take ((xs.toList.drop i).length - (n - 1 - i))) >>= fun d => pure (xs.toList.take i ++ [d] ++ (xs.toList.drop i).drop ((xs.toList.drop i).length - (n - 1 - i)))) _ _ _
  rw [l3]
  have keep : ∀ b o, s.heap.get? b = some o → h₂.get? b = some o := fun b o e => by
    have nb : b ≠ I := by rw [hI]; exact Nat.ne_of_lt (Heap.lt_size e)
    exact hk b o nb (hs₁.extBut b o nb (Heap.get?_push_of_some _ e))
  exact wpAny_bind (wpAny_newList (wpAny_pure (fin h₂ tk keep)) (by rw [List.length_take, l2, sizeLine_eq]; omega))
theorem assignIn_two {f1 f2 : Value → Sem Unit} {v1 v2 : Value} {Q : Unit → Shared → Prop} {M : Model} (h : wpAny M A (f1 v1) (fun _ s' => wpAny M A (f2 v2) Q E s') E s) : wpAny M A (assignInOrder [f1, f2] [v1, v2]) Q E s :=
  assignInOrder_cons (wpAny_mono h (fun _ s' z => assignInOrder_cons (wpAny_mono z (fun _ s2 q => assignInOrder_nil q) fun _ _ y => y)) fun _ _ y => y)
end
section
variable {X : Cx} {g : Gx} {e : En} {W : WX} {a b c : Expr} {pos p1 p2 p3 : Pos} {kk : Nat} {i j : Nat} {x y : Str}
/-- *a, b = t -/
def dgSF (i j : Nat) : DG := fun d ρ S k _ => ∃ ds z, d = .tup ds ∧ ds.getLast? = some z ∧ ds.length ≤ 16384 ∧ ∀ p, S p = none → k ((ρ.set i (some (.mu p))).set j (some z)) (S.set p (.lst ds.dropLast))
/-- both targets, one behind the other, the new list at L -/
theorem two_names (hN : X.N.Nodup) (hi : X.N[i]? = some x) (hj : X.N[j]? = some y) (hx : Loc X.env.scope x) (hy : Loc X.env.scope y) (hf1 : X.fn x = true ∨ X.env.scope.names.lookup x = some .local) (hf2 : X.fn y = true ∨ X.env.scope.names.lookup y = some .local)
    {pins : List (Addr × Obj)} {s : Shared} {σ : L2.St} {H : Hp} {v1 v2 : V} {u1 u2 : Value} {Q : L2.St → Hp → Prop} (I : Inv X pins σ H s) (r1 : RelV v1 u1) (r2 : RelV v2 u2) (q : Q ((σ.set i (some v1)).set j (some v2)) H) :
    wpAny (model X.prog X.w) X.A (assignInOrder [assign (.Name x p1) X.env, assign (.Name y p3) X.env] [u1, u2]) (fun _ s' => ∃ σ' H', Inv X pins σ' H' s' ∧ Q σ' H') X.xe s :=
  assignIn_two (thn ((pg_name hN hi hx hf1).run pins s σ H v1 u1 (fun σ1 H1 => σ1 = σ.set i (some v1) ∧ H1 = H) I r1 ⟨rfl, rfl⟩) fun _ s1 ⟨σ1, H1, I1, e1, e2⟩ => by
    subst e1 e2
    exact (pg_name hN hj hy hf2).run pins s1 _ H1 v2 u2 Q I1 r2 q)
variable (C : Cxt X g e W) (hN : X.N.Nodup) (hi : X.N[i]? = some x) (hj : X.N[j]? = some y) (hx : Loc X.env.scope x) (hy : Loc X.env.scope y)
include C hN hi hj hx hy in
theorem dg_starF (hn : (assignEach [.Starred (.Name x p1) p2, .Name y p3] X.env).length = 2 := by rfl) (hst : (assignEach [.Starred (.Name x p1) p2, .Name y p3] X.env).findIdx? (·.1) = some 0 := by rfl) (hm : (assignEach [.Starred (.Name x p1) p2, .Name y p3] X.env).map (·.2) = [assign (.Name x p1) X.env, assign (.Name y p3) X.env] := by rfl)
    (hf1 : X.fn x = true ∨ X.env.scope.names.lookup x = some .local := by first | exact .inl rfl | exact .inr rfl | assumption) (hf2 : X.fn y = true ∨ X.env.scope.names.lookup y = some .local := by first | exact .inl rfl | exact .inr rfl | assumption) :
    PG X (.Tuple [.Starred (.Name x p1) p2, .Name y p3] kk pos) (liftG g e W (dgSF i j)) := by
  refine ⟨fun pins s σ H v u Q I r ⟨d, ρ, Hi, S, k, E, i0, sl, rr, ⟨ds, z, ed, hz, hl, q⟩, hk, _⟩ => ?_⟩
  subst ed
  obtain ⟨t, us, rfl, h1, h2⟩ := rr
  obtain rfl : u = Value.ref t := r
  obtain ⟨its, rv, pl, hs⟩ := I.tuple (SqT.of (i0.ok.sub _ _ h1) : SqT X.K H t us)
  have lu : us.length = ds.length := h2.length
  have len1 : its.length = ds.length := by rw [← rv.length, lu]
  have hz' : ds[ds.length - 1]? = some z := by rw [← List.getLast?_eq_getElem?]; exact hz
  have pos1 : 0 < ds.length := by have := (List.getElem?_eq_some_iff.mp hz').1; omega
  obtain ⟨vz, hv1, hv2⟩ := h2.get hz'
  obtain ⟨uz, hu1, hu2⟩ := rv.get hv1
  rw [arm_assign_Tuple]
  refine wpAny_bind (wpAny_standAt ?_)
  unfold unpack
  rw [hn, hst, hm]
  refine wpAny_bind (wpAny_holding (star_unpack pl (I.ok.hd C.calm) (by omega) (by rw [List.size_toArray]; omega) (by rw [List.size_toArray]; omega) fun h₂ tk keep => ?_))
  have e1 : its.take 0 ++ [Value.ref h₂.objs.size] ++ (its.drop 0).drop (its.toArray.size + 1 - 2) = [.ref h₂.objs.size, uz] := by
    rw [List.take_zero, List.nil_append, List.drop_zero, List.size_toArray]
    have l : (its.drop (its.length + 1 - 2)).length = 1 := by rw [List.length_drop]; omega
    have g0 : (its.drop (its.length + 1 - 2))[0]? = some uz := by
      rw [List.getElem?_drop, ← hu1]
      congr 1
      omega
    match hd : its.drop (its.length + 1 - 2), l, g0 with
    | [w], _, g0 =>
      have : w = uz := by simpa using g0
      rw [this]
      rfl
  have e2 : (its.drop 0).take (its.toArray.size + 1 - 2) = its.dropLast := by
    rw [List.drop_zero, List.size_toArray, List.dropLast_eq_take]
    congr 1
  show wpAny _ _ (assignInOrder _ (its.take 0 ++ [Value.ref h₂.objs.size] ++ (its.drop 0).drop (its.toArray.size + 1 - 2))) _ _ { s with heap := h₂.push { cls := .type "list", data := .seq ((its.drop 0).take (its.toArray.size + 1 - 2)).toArray }, toks := tk }
  rw [e1, e2]
  have I2 : Inv X pins σ H { s with heap := h₂, toks := tk } := I.kept (t' := tk) keep
  have hf : H h₂.objs.size = none := I2.hok.fresh (Nat.le_refl _)
  have lv : Vals us.dropLast its.dropLast := by rw [List.dropLast_eq_take, List.dropLast_eq_take, rv.length]; exact rv.take _
  have I3 : Inv X pins σ (upd H h₂.objs.size (.lst us.dropLast)) { s with heap := h₂.push { cls := .type "list", data := .seq its.dropLast.toArray }, toks := tk } :=
    I2.laid (t' := tk) (o := .lst us.dropLast) (fun b u z => Heap.get?_push_of_some _ z) (Nat.le_refl _) ⟨by rw [List.length_dropLast]; omega, _, 0, lv, Heap.get?_push_size _ rfl⟩
  obtain ⟨n4, i4⟩ := isNewC (p := h₂.objs.size) i0 hf (h2.dropLast)
  exact two_names hN hi hj hx hy hf1 hf2 I3 (v1 := .ref h₂.objs.size) (v2 := vz) rfl hu2 (hk _ _ _ _ Hi i4 (Same.refl _) ((sl.set (d := .mu h₂.objs.size) rfl).set hv2) (q _ n4))
/-- a, *b = t -/
def dgSL (i j : Nat) : DG := fun d ρ S k _ => ∃ z ds, d = .tup (z :: ds) ∧ ds.length < 16384 ∧ ∀ p, S p = none → k ((ρ.set i (some z)).set j (some (.mu p))) (S.set p (.lst ds))
include C hN hi hj hx hy in
theorem dg_starL (hn : (assignEach [.Name x p1, .Starred (.Name y p3) p2] X.env).length = 2 := by rfl) (hst : (assignEach [.Name x p1, .Starred (.Name y p3) p2] X.env).findIdx? (·.1) = some 1 := by rfl) (hm : (assignEach [.Name x p1, .Starred (.Name y p3) p2] X.env).map (·.2) = [assign (.Name x p1) X.env, assign (.Name y p3) X.env] := by rfl)
    (hf1 : X.fn x = true ∨ X.env.scope.names.lookup x = some .local := by first | exact .inl rfl | exact .inr rfl | assumption) (hf2 : X.fn y = true ∨ X.env.scope.names.lookup y = some .local := by first | exact .inl rfl | exact .inr rfl | assumption) :
    PG X (.Tuple [.Name x p1, .Starred (.Name y p3) p2] kk pos) (liftG g e W (dgSL i j)) := by
  refine ⟨fun pins s σ H v u Q I r ⟨d, ρ, Hi, S, k, E, i0, sl, rr, ⟨z, ds, ed, hl, q⟩, hk, _⟩ => ?_⟩
  subst ed
  obtain ⟨t, us0, rfl, h1, h2⟩ := rr
  obtain rfl : u = Value.ref t := r
  obtain ⟨its0, rv0, pl, hs⟩ := I.tuple (SqT.of (i0.ok.sub _ _ h1) : SqT X.K H t us0)
  obtain ⟨vz, us, rfl, hv2, h3⟩ : ∃ vz us, us0 = vz :: us ∧ Rep g Hi vz z ∧ Reps g Hi us ds := by
    match us0, h2 with
    | vz :: us, ⟨r1, r2⟩ => exact ⟨vz, us, rfl, r1, r2⟩
  obtain ⟨uz, its, rfl, hu2, rv⟩ : ∃ uz its, its0 = uz :: its ∧ RelV vz uz ∧ Vals us its := by
    cases rv0 with
    | cons r1 r2 => exact ⟨_, _, rfl, r1, r2⟩
  have lu : us.length = ds.length := h3.length
  have len1 : its.length = ds.length := by rw [← rv.length, lu]
  rw [arm_assign_Tuple]
  refine wpAny_bind (wpAny_standAt ?_)
  unfold unpack
  rw [hn, hst, hm]
  refine wpAny_bind (wpAny_holding (star_unpack pl (I.ok.hd C.calm) (by omega) (by rw [List.size_toArray, List.length_cons]; omega) (by rw [List.size_toArray, List.length_cons]; omega) fun h₂ tk keep => ?_))
  have e1 : (uz :: its).take 1 ++ [Value.ref h₂.objs.size] ++ ((uz :: its).drop 1).drop ((uz :: its).toArray.size + 1 - 2) = [uz, .ref h₂.objs.size] := by
    have e3 : (uz :: its).toArray.size = its.length + 1 := by simp
    rw [e3, List.drop_succ_cons, List.drop_zero, List.drop_of_length_le (by omega)]
    rfl
  have e2 : ((uz :: its).drop 1).take ((uz :: its).toArray.size + 1 - 2) = its := by
    have e3 : (uz :: its).toArray.size = its.length + 1 := by simp
    rw [e3, List.drop_succ_cons, List.drop_zero, List.take_of_length_le (by omega)]
  show wpAny _ _ (assignInOrder _ ((uz :: its).take 1 ++ [Value.ref h₂.objs.size] ++ ((uz :: its).drop 1).drop ((uz :: its).toArray.size + 1 - 2))) _ _ { s with heap := h₂.push { cls := .type "list", data := .seq (((uz :: its).drop 1).take ((uz :: its).toArray.size + 1 - 2)).toArray }, toks := tk }
  rw [e1, e2]
  have I2 : Inv X pins σ H { s with heap := h₂, toks := tk } := I.kept (t' := tk) keep
  have hf : H h₂.objs.size = none := I2.hok.fresh (Nat.le_refl _)
  have hs' : us.length ≤ sizeLine := by rw [List.length_cons] at hs; omega
  have I3 : Inv X pins σ (upd H h₂.objs.size (.lst us)) { s with heap := h₂.push { cls := .type "list", data := .seq its.toArray }, toks := tk } :=
    I2.laid (t' := tk) (o := .lst us) (fun b u z => Heap.get?_push_of_some _ z) (Nat.le_refl _) ⟨hs', _, 0, rv, Heap.get?_push_size _ rfl⟩
  obtain ⟨n4, i4⟩ := isNewC (p := h₂.objs.size) i0 hf h3
  exact two_names hN hi hj hx hy hf1 hf2 I3 (v1 := vz) (v2 := .ref h₂.objs.size) hu2 rfl (hk _ _ _ _ Hi i4 (Same.refl _) ((sl.set hv2).set (d := .mu h₂.objs.size) rfl) (q _ n4))
end
end DL
end
/-! ## DL18 -/
section
set_option Elab.async false
set_option linter.all false
set_option maxRecDepth 100000
set_option maxHeartbeats 4000000
namespace DL
open PySem PySem.Spec PyProof.Rows L2
section
variable {X : Cx} {g : Gx} {e : En} {W : WX} {a b c : Expr} {pos p p2 pos2 : Pos} {f f' : DE}
theorem Cxt.en {e' : En} (C : Cxt X g e W) : Cxt X g e' W := ⟨C.K, C.mg, C.calm, C.gd, C.tk⟩
/-- the module's int, by what the module says -/
theorem de_gint {x : Str} {i : Int} (C : Cxt X g e W) (hg : Gl X x) (hm : ∃ t, g.mg x = some (.int i t)) (hd : (x == ("__debug__" : Str)) = false := by decide) : PE X (.Name x pos) (lift g e W (dC (.int i))) :=
  let ⟨_, h⟩ := hm
  de_gi C hg h hd
/-! ### the built-in functions, by this data's classes -/
theorem call_listX (C : Cxt X g e W) : CallR X (.type "list") (fun xs H Q => ∃ p ys, xs = [.ref p] ∧ (SqL g.K H p ys ∨ SqT g.K H p ys) ∧ ∀ l, H l = none → Q (.ref l) (upd H l (.lst ys))) := by rw [← C.K]; exact call_list_of
theorem call_tupleX (C : Cxt X g e W) : CallR X (.type "tuple") (fun xs H Q => ∃ p ys, xs = [.ref p] ∧ ((SqL g.K H p ys ∧ ∀ l, H l = none → Q (.ref l) (upd H l (.tup ys))) ∨ (SqT g.K H p ys ∧ Q (.ref p) H))) := by rw [← C.K]; exact call_tuple_of
theorem call_sumX (C : Cxt X g e W) : CallR X (.builtin "sum") (rSum g.K) := by rw [← C.K]; exact cr_sum C.calm
theorem call_maxX (C : Cxt X g e W) : CallR X (.builtin "max") (rMax g.K) := by rw [← C.K]; exact cr_max C.calm
theorem call_minX (C : Cxt X g e W) : CallR X (.builtin "min") (rMin g.K) := by rw [← C.K]; exact cr_min C.calm
theorem call_sortedX (C : Cxt X g e W) : CallR X (.builtin "sorted") (rSortedI g.K) := by rw [← C.K]; exact cr_sortedI
theorem call_anyX (C : Cxt X g e W) : CallR X (.builtin "any") (rAny g.K) := by rw [← C.K]; exact cr_any C.calm
theorem call_allX (C : Cxt X g e W) : CallR X (.builtin "all") (rAll g.K) := by rw [← C.K]; exact cr_all C.calm
/-! ### list(range(..)) -/
theorem dt_in (C : Cxt X g e W) (ha : PE X a (lift g e W f)) (hb : PE X b (lift g e W f')) (hm : behindInMarks .In b = false := by rfl) : PT X (.Compare a [.In] [b] pos) (liftT g e W (dTst (d2 (fIn false) f f'))) := dt_cmp (by rw [← C.K]; exact op_in_seq) ok_in ha hb hm
theorem dt_nin (C : Cxt X g e W) (ha : PE X a (lift g e W f)) (hb : PE X b (lift g e W f')) (hm : behindInMarks .NotIn b = false := by rfl) : PT X (.Compare a [.NotIn] [b] pos) (liftT g e W (dTst (d2 (fIn true) f f'))) := dt_cmp (by rw [← C.K]; exact op_notIn_seq) ok_in ha hb hm
theorem rgV_rep {H : Hp} {a b : Int} : Reps g H (rgV a b) (rngD a (b - a).toNat) := by
  unfold rgV rngD
  generalize List.range (b - a).toNat = l
  induction l with
  | nil => trivial
  | cons x l ih => exact ⟨rfl, ih⟩
def dLRg1 (f : DE) : DA := fun ρ S k E => f ρ S (fun x S1 => ∃ j, x = .int j ∧ RgOk 0 j ∧ k (rngD 0 (j - 0).toNat) S1) E
theorem dm_lrg1 (C : Cxt X g e W) (hl : Gl X "list") (hml : g.mg "list" = none) (hg : Gl X "range") (hm : g.mg "range" = none) (ha : PE X a (lift g e W f)) (na : starEach [a] X.env = (false, eval a X.env) :: starEach [] X.env := by rfl)
    (nb : starEach [.Call (.Name "range" p) [a] [] pos] X.env = (false, eval (.Call (.Name "range" p) [a] [] pos) X.env) :: starEach [] X.env := by rfl) : PE X (.Call (.Name "list" p2) [.Call (.Name "range" p) [a] [] pos] [] pos2) (liftM g e W (dLRg1 f)) :=
  (pe_listRg C.calm hl (by rw [C.mg]; exact hml) (prg_1 hg (by rw [C.mg]; exact hm) ha na) nb).imp fun σ H Q ⟨ρ, Hi, S, k, E, i, sl, q, hk, hx⟩ => by
    refine ⟨ρ, Hi, S, _, E, i, sl, q, fun x S1 v H1 Hi1 i1 s1 r1 ⟨j, ex, hj, q1⟩ => ?_, hx⟩
    subst ex
    refine ⟨j, r1, hj, fun q hq => ?_⟩
    obtain ⟨n2, i2⟩ := isNewC i1 hq (rgV_rep (a := 0) (b := j))
    exact hk _ S1 q _ Hi1 n2 i2 s1 q1
def dLRg2 (f f' : DE) : DA := fun ρ S k E => f ρ S (fun x S1 => f' ρ S1 (fun y S2 => ∃ i j, x = .int i ∧ y = .int j ∧ RgOk i j ∧ k (rngD i (j - i).toNat) S2) E) E
theorem dm_lrg2 (C : Cxt X g e W) (hl : Gl X "list") (hml : g.mg "list" = none) (hg : Gl X "range") (hm : g.mg "range" = none) (ha : PE X a (lift g e W f)) (hb : PE X b (lift g e W f')) (na : starEach [a, b] X.env = (false, eval a X.env) :: starEach [b] X.env := by rfl) (nb : starEach [b] X.env = (false, eval b X.env) :: starEach [] X.env := by rfl)
    (nc : starEach [.Call (.Name "range" p) [a, b] [] pos] X.env = (false, eval (.Call (.Name "range" p) [a, b] [] pos) X.env) :: starEach [] X.env := by rfl) : PE X (.Call (.Name "list" p2) [.Call (.Name "range" p) [a, b] [] pos] [] pos2) (liftM g e W (dLRg2 f f')) :=
  (pe_listRg C.calm hl (by rw [C.mg]; exact hml) (prg_2 hg (by rw [C.mg]; exact hm) ha hb na nb (by rw [nb]; rfl)) nc).imp fun σ H Q ⟨ρ, Hi, S, k, E, i, sl, q, hk, hx⟩ => by
    refine ⟨ρ, Hi, S, _, E, i, sl, q, fun x S1 v H1 Hi1 i1 s1 r1 q1 => ?_, hx⟩
    refine ⟨ρ, Hi1, S1, _, E, i1, sl.mono s1, q1, fun y S2 w H2 Hi2 i2 s2 r2 ⟨m, n, ex, ey, hj, q2⟩ => ?_, hx.mono s1⟩
    subst ex ey
    refine ⟨m, n, r1, r2, hj, fun q hq => ?_⟩
    obtain ⟨n2, i3⟩ := isNewC i2 hq (rgV_rep (a := m) (b := n))
    exact hk _ S2 q _ Hi2 n2 i3 (s1.trans s2) q2
end
end DL
end
/-! ## DL19 -/
section
set_option Elab.async false
set_option linter.all false
set_option maxRecDepth 100000
set_option maxHeartbeats 4000000
/-! def __init__(a, b): super().__init__(b) -/
namespace DL
open PySem PySem.Spec PyProof.Rows L2
/-- such a def behind the top: D its class, f2 what D's next class has under the name -/
structure FunS (P : Program) (K : PySem.W.Frag) (x qual : Str) (params : Arguments) (body : List Stmt) (scope : Scope) (f D : Addr) : Prop where
  ex : ∃ (oc : Value) (od : Option Addr) (kV doc pm : Value) (an : Option Addr) (cda cc : Addr) (ct : Value) (osl : Array (Option Value)) (ccl c2 : Value) (cld c3 : Option Addr) (csl c4 : Array (Option Value)) (vs : Array Value) (file : Str) (tf : Tok),
    K.lookup f = some ⟨oc, od, .func (PySem.W.ksFn x qual params body scope .none kV doc pm an (.ref cda) ct cc), osl⟩ ∧ PySem.W.codeIn K (.ref cda) qual = true ∧ K.lookup cc = some ⟨ccl, cld, .cell (some (.ref D)), csl⟩ ∧
    K.lookup cda = some ⟨c2, c3, .fields vs, c4⟩ ∧ vs[2]? = some (.str file tf) ∧ ((P.main.file : Str) == file) = true
  kp : PySem.W.keepIn K (.ref f) = true
abbrev sEnv (qual : Str) (scope : Scope) (L f : Addr) (cd : Value) (cc : Addr) : PySem.Env := PySem.W.ksEnv qual scope L f cd cc
def cxS (g : Gx) (P : Program) (w : World) (base : Heap) (N : List Str) (qual : Str) (scope : Scope) (f : Addr) (cd : Value) (cc : Addr) (A : Around) (outer : List PySem.Env) (s : Shared) (H : Hp) (E : XK) : Cx :=
  { cxD g P w base N qual scope f cd A outer s H E with
    A := A.deeper (sEnv qual scope s.heap.objs.size f cd cc)
    env := sEnv qual scope s.heap.objs.size f cd cc
    stack := sEnv qual scope s.heap.objs.size f cd cc :: outer
    fn := fun _ => false
    xe := fun e s' => wpAny (model P w) (A.deeper (sEnv qual scope s.heap.objs.size f cd cc)) (leaving (sEnv qual scope s.heap.objs.size f cd cc) e) (fun _ s'' => L2.CX P w outer H s E e s'') (fun e' s'' => L2.CX P w outer H s E e' s'') s' }
section
variable {g : Gx} {P : Program} {w : World} {base : Heap} {qual : Str} {scope : Scope} {f D cc : Addr} {cd : Value} {A : Around} {outer : List PySem.Env} {s : Shared} {H : Hp} {E : XK}
theorem cxt_s {N : List Str} {e : En} (hg : A.guards = some []) : Cxt (cxS g P w base N qual scope f cd cc A outer s H E) g e (wX E) :=
  ⟨rfl, rfl, rfl, hg, takes_of rfl rfl rfl rfl⟩
theorem inv_s {a b : Str} {v0 v1 : V} {u0 u1 : Value} {h1 : Heap} {tk : Nat} (hab : a ≠ b) (hkd : scope.kind = .function) (hd : A.handled = none) (e0 : Env0 P w g.K g.mg base A outer s H) (r0 : RelV v0 u0) (r1 : RelV v1 u1)
    (la : scope.names.lookup a = some .local) (lb : scope.names.lookup b = some .local) (hfr : ∀ y, scope.names.lookup y = some .cell ∨ scope.names.lookup y = some .free → y = "__class__") (hcc : ∃ o, base.get? cc = some o ∧ o.data = .cell (some (.ref D)))
    (hns : h1.Ns s.heap.objs.size (fun y => [(a, u0), (b, u1)].reverse.lookup y)) (hk : ∀ x o, s.heap.get? x = some o → h1.get? x = some o) :
    Inv (cxS g P w base [a, b] qual scope f cd cc A outer s H E) [] [some v0, some v1] H { s with heap := h1, toks := tk } := by
  obtain ⟨oc, ho, hoc⟩ := hcc
  obtain ⟨hb1, hb2⟩ := e0.bs _ _ ho
  have one : ∀ y c, (cxS g P w base [a, b] qual scope f cd cc A outer s H E).env.cells.lookup y = some c → y = "__class__" ∧ c = cc := fun y c h => by
    have h : List.lookup y [(("__class__" : Str), cc)] = some c := h
    rw [List.lookup_cons] at h
    split at h
    · rename_i q
      cases h
      exact ⟨by simpa using q, rfl⟩
    · cases h
  have noA : ∀ z : Addr, z ∉ (cxS g P w base [a, b] qual scope f cd cc A outer s H E).ex := fun y z => absurd (show y ∈ ([] : List Addr) from z) (by simp)
  refine ⟨⟨e0.mod, hkd, rfl, rfl, Nat.le_refl _, fun y z c h1 h2 => (one _ _ h1).1.trans (one _ _ h2).1.symm, fun y hy => ?_, fun y c q _ => (by cases q), fun _ => hd, Around.frames_deeper e0.frames, .inr ⟨rfl, rfl⟩, fun b z => absurd z (noA b), e0.bs, e0.bsz, fun b _ _ => noA b, fun b z => absurd z (noA b), e0.funs, e0.frf⟩,
    rfl, e0.bare, Un.kept hk, ⟨_, hns, fun i y v q1 q2 q3 => ?_⟩, fun y c h => ?_, e0.hok.fresh (Nat.le_refl _), fun y c h => ?_, fun p hp => absurd (show p ∈ ([] : List (Addr × Obj)) from hp) (by simp), e0.hok.kept hk, rfl⟩
  · obtain rfl := hfr y hy
    exact ⟨cc, rfl⟩
  · have q1 : [a, b][i]? = some y := q1
    match i, q1, q2 with
    | 0, q1, q2 =>
      cases q1
      cases q2
      refine ⟨u0, r0, .inl ⟨la, ?_⟩⟩
      have e : (a == b) = false := by simpa using hab
      simp [List.lookup_cons, e]
    | 1, q1, q2 =>
      cases q1
      cases q2
      exact ⟨u1, r1, .inl ⟨lb, by simp⟩⟩
  · obtain ⟨_, rfl⟩ := one y c h
    exact ⟨_, _, hk _ _ hb1, hoc⟩
  · obtain ⟨_, rfl⟩ := one y c h
    exact hb2
end
section
variable {g : Gx} {P : Program} {w : World} {base : Heap} {x qual a b : Str} {params : Arguments} {scope : Scope} {p0 p1 p2 p3 p4 p5 : Pos} {f D f2 : Addr} {k : Nat} {wf : DFn} {ar : Arg} {cs : List Nat} {pl : Sem Bool}
abbrev supBody (b : Str) (p0 p1 p2 p3 p4 p5 : Pos) : List Stmt := [.Expr (.Call (.Attribute (.Call (.Name "super" p0) [] [] p1) "__init__" p2) [.Name b p3] [] p4) p5]
/-- the classes under D find f2 behind it -/
structure SupOk (K : PySem.W.Frag) (ca : Nat → Addr) (cs : List Nat) (D f2 : Addr) : Prop where
  at_ : ∀ c, cs.contains c = true → PySem.W.ks_superIn K (ca c) D "__init__" = some (some (.ref f2)) ∧ PySem.W.mroIn K (ca c) (.ref D) = some true
  cls : ∃ cd, PySem.W.clsIn K D = some cd
  fn : PySem.W.fnIn K f2 = true
  ty : PySem.W.typeIn K (.ref f2) = some (.type "function")
  op : PySem.W.nsIn K cStatics "thirdparty.any" = some none
theorem fn_sup (F : FunS P g.K x qual params (supBody b p0 p1 p2 p3 p4 p5) scope f D) (M : DFnR g P w base k f2 wf) (B : SupOk g.K g.ca cs D f2) (hm : g.mg "super" = none)
    (hp : (params.posonlyargs ++ params.args).head? = some ar) (ha : ar.arg = a) (hab : a ≠ b) (hkd : scope.kind = .function) (hco : scope.isCoroutine = false) (hgen : scope.isGenerator = false)
    (la : scope.names.lookup a = some .local) (lb : scope.names.lookup b = some .local) (ls : scope.names.lookup ("super" : Str) = some .globalImplicit) (lc : scope.names.lookup ("__class__" : Str) = some .free)
    (hfr : ∀ y ∈ scope.names, y.2 = .free → y.1 = "__class__") (hcell : ∀ y ∈ scope.names, y.2 ≠ .cell) (htop : (P.main.scope.names.lookup ("super" : Str)).isSome = false) (hb : (b == ("__debug__" : Str)) = false) (hbd : (b == ("__classdict__" : Str)) = false)
    (hev : ∀ (L : Addr) (cd : Value) (cc : Addr), eval (.Call (.Attribute (.Call (.Name "super" p0) [] [] p1) "__init__" p2) [.Name b p3] [] p4) (sEnv qual scope L f cd cc) = (do
      let ov ← attributeBase (.Call (.Name "super" p0) [] [] p1) "__init__" (sEnv qual scope L f cd cc) (eval (.Call (.Name "super" p0) [] [] p1) (sEnv qual scope L f cd cc))
      standAt p2.atName
      let (u, first) ← holding [ov] (getMethod ov "__init__" pl)
      callWith p4 u first (backTo p4 (starEach [.Name b p3] (sEnv qual scope L f cd cc))) []))
    (hsw : ∀ (L : Addr) (cd : Value) (cc : Addr), swapsWith (.Call (.Attribute (.Call (.Name "super" p0) [] [] p1) "__init__" p2) [.Name b p3] [] p4) none p5.line (sEnv qual scope L f cd cc) = pure false)
    (hint : ∀ (L : Addr) (cd : Value) (cc : Addr), interactive (sEnv qual scope L f cd cc) = false)
    (hbind : ∀ (kV doc pm : Value) (an : Option Addr) (cdv ct : Value) (cc : Addr) (u0 u1 : Value), bindArgs (PySem.W.ksFn x qual params (supBody b p0 p1 p2 p3 p4 p5) scope .none kV doc pm an cdv ct cc) { pos := [u0, u1], kw := [] } = pure [(a, u0), (b, u1)]) :
    DFnR g P w base (k + 1) f (fun ds S k' E => ∃ d0 d1 c fs, ds = [d0, d1] ∧ insOf S d0 = some (c, fs) ∧ cs.contains c = true ∧ wf [d0, d1] S (fun _ S' => k' .non S') E) := by
  intro A outer s H us vs Q E hr hg e0 r ⟨ds, Hi, S, k1, E1, o, rs, ⟨d0, d1, c, fs, eds, hin, hc, q⟩, hk, hx⟩
  subst eds
  obtain ⟨oc, od, kV, doc, pm, an, cda, cc, ct, osl, ccl, c2, cld, c3, csl, c4, vsl, file, tf, lk, hcd, lcc, lcd, hvs, hfile⟩ := F.ex
  obtain ⟨v0, v1, rfl⟩ : ∃ v0 v1, vs = [v0, v1] := by
    have l := rs.length
    match vs, l with
    | [v0, v1], _ => exact ⟨_, _, rfl⟩
  obtain ⟨rr0, rr1, _⟩ := rs
  obtain ⟨u0, u1, rfl, r0, r1⟩ : ∃ u0 u1, us = [u0, u1] ∧ RelV v0 u0 ∧ RelV v1 u1 := by
    cases r with
    | cons r0 r =>
      cases r with
      | cons r1 r =>
        cases r
        exact ⟨_, _, rfl, r0, r1⟩
  have KB : g.K.In base := e0.mod.kin
  have KX : g.K.In s.heap := KB.keeps fun b o e => (e0.bs b o e).1
  have lim : s.heap.NoLimit := e0.mod.nolimit.keeps fun b o e => (e0.bs b o e).1
  refine ks_codeAny_call_defAt (fd := PySem.W.ksFn x qual params (supBody b p0 p1 p2 p3 p4 p5) scope .none kV doc pm an (.ref cda) ct cc) (binds := [(a, u0), (b, u1)]) hr.depth (KX _ _ lk) rfl lim (PySem.W.codeRec_of KX hcd) rfl (BindsTo.of_eq (hbind _ _ _ _ _ _ _ _ _)) hcell (fun y hy => ?_) (fun h1 hns hkp => ?_) hco hgen hkd
  · rcases List.mem_cons.mp hy with rfl | hy
    · exact la
    · obtain rfl : y = (b, u1) := by simpa using hy
      exact lb
  have I := inv_s (g := g) (P := P) (w := w) (base := base) (qual := qual) (f := f) (D := D) (cd := .ref cda) (cc := cc) (A := A) (outer := outer) (s := s) (H := H) (E := E) (tk := s.toks + 2) hab hkd hr.hd e0 r0 r1 la lb (fun y hy => ?_) ⟨_, KB _ _ lcc, rfl⟩ hns hkp
  · have C := cxt_s (g := g) (P := P) (w := w) (base := base) (qual := qual) (scope := scope) (f := f) (cd := .ref cda) (cc := cc) (A := A) (outer := outer) (s := s) (H := H) (E := E) (N := [a, b]) (e := ⟨H, Hi, S, o.sub⟩) hg
    obtain ⟨px, dx1, fvs, rfl, e1, _⟩ := insOf_rep o rr0 hin
    obtain rfl : u0 = Value.ref px := r0
    obtain ⟨_, O1, _⟩ := ins_get I.hok e1
    obtain ⟨od1, J1, _⟩ := O1.look
    obtain ⟨cdD, hcD⟩ := B.cls
    obtain ⟨oD, hD1, hD2⟩ : ∃ oD, h1.get? D = some oD ∧ oD.data = .cls cdD := by
      unfold PySem.W.clsIn at hcD
      split at hcD
      · rename_i c d cd' sl ho
        cases hcD
        exact ⟨_, hkp _ _ (KX _ _ ho), rfl⟩
      · cases hcD
    obtain ⟨hs1, hs2⟩ := B.at_ c hc
    have hk1 : g.K.In h1 := KX.keeps hkp
    obtain ⟨mb, b1, b2⟩ := I.mod.blt
    refine ks_wpAt_execs_cons (ks_wpAt_Expr_any (ks_wpAt_MethodCall (pl := pl) (ks_wpAt_super_base (env := sEnv qual scope s.heap.objs.size f (.ref cda) cc) (f := f) (cc := cda) ls lc rfl rfl (hkp _ _ (KX _ _ lk)) rfl hp rfl (hkp _ _ (KX _ _ lcd)) rfl hvs hfile htop
      (PySem.W.ks_loadName_global hkd ls (Calls.loadGlobal_builtin (by exact I.mod.glob.keeps I.bk) hm (by exact b1.keeps I.bk) ((b2 _ (by decide)).trans (show bootBuiltins "super" = some (.type "super") from ?bs))
        ⟨rfl, wpAny_loadName_free hkd lc rfl ⟨_, hkp _ _ (KX _ _ lcc), rfl⟩ (wpAny_loadName_local (v := .ref px) hkd (by rw [ha]; exact la) hns ?vx (ks_wpAny_isType_cls hD1 hD2 ⟨rfl, ks_wpAny_call_super hD1 hD2 J1.at_ J1.cls (fun c e => ?nc) (PySem.W.looks_mroIn hk1 hs2) fun h2 e2 k2 => ?_⟩))⟩))) (hev _ _ _)) (hint _ _ _) (hsw _ _ _))
    case bs => first | rfl | kernel_rfl
    case vx =>
      rw [ha]
      have e : (a == b) = false := by simpa using hab
      simp [List.lookup_cons, e]
    case nc =>
      have z := J1.no
      unfold PySem.W.notCls at z
      rw [e] at z
      exact Bool.noConfusion z
    have I2 := ClX.pin_new (t' := s.toks + 2) I k2 (Nat.le_refl _) e2 (fun v z => nomatch z)
    have hk2 : g.K.In h2 := hk1.keeps k2
    cases hcC : PySem.W.clsIn g.K (g.ca c) with
    | none => unfold PySem.W.ks_superIn at hs1; rw [hcC] at hs1; cases hs1
    | some cdC =>
    unfold PySem.W.ks_superIn at hs1
    rw [hcC] at hs1
    obtain ⟨of, hof, hofc⟩ : ∃ of, h2.get? f2 = some of ∧ of.cls = .type "function" := by
      have ht' : (g.K.lookup f2).map (·.cls) = some (.type "function") := B.ty
      cases z : g.K.lookup f2 with
      | none => rw [z] at ht'; cases ht'
      | some of => rw [z] at ht'; exact ⟨of, hk2 _ _ z, Option.some.inj ht'⟩
    refine ks_wpAny_getMethod_super (K := g.K) (l₀ := cdC.mro) e2 (PySem.W.looks_opaque hk2 B.op) (fun A Q E s k q => wpAny_bind ((PySem.W.looks_clsIn hk2 hcC) A _ E s k (wpAny_pure q))) rfl hk2 hs1 hof hofc (PySem.W.ks_ne hk1 J1 hcC) rfl ?_
    have I3 := ClX.met_new (g := f2) (C := px) I2
    have pa : PA (cxS g P w base [a, b] qual scope f (.ref cda) cc A outer s H E) [.Name b p3] (liftA g ⟨H, Hi, S, o.sub⟩ (wX E) (dCons (dVar 1) dNil)) := da_cons (de_var (pe_var rfl (.inl lb) hb hbd)) da_nil
    have sl : Slots g Hi (L2.start [a, b] [V.ref px, v1]) (denv 2 [d0, d1]) := slots_start ⟨rr0, rr1, trivial⟩
    have i0 : Is g ⟨H, Hi, S, o.sub⟩ H Hi S := ⟨o, Ext.refl⟩
    have hx0 : XOk g ⟨H, Hi, S, o.sub⟩ (wX E) Hi (L2.start [a, b] [V.ref px, v1]) E1 := fun c fs S' H' Hi' cls dx i' s' x' q' => hx c fs S' H' Hi' cls dx i'.ok i'.ext x' q'
    refine ClX.callwith_cm I3 (ClX.base_none I2 (Nat.le_refl _)) B.fn (thn (pa.run p4 _ _ _ H _ I3 (liftA_of (k := fun ds S1 => wf (d0 :: ds) S1 (fun _ S' => k1 .non S') E1) i0 sl ⟨d1, rfl, q⟩ hx0)) fun us s4 ⟨vs4, H4, I4, r4, ds4, S4, Hi4, i4, s4', rr4, q4⟩ => ⟨⟨ClX.pin_at I4, I4.kIn⟩, ?_⟩) rfl rfl
    refine wpAny_mono (wpAny_call (PySem.W.method_call (ClX.pin_at I4) (run_g (us := .ref px :: us) (vs := .ref px :: vs4) (FnR.to C M) (hr.deeper _) C.gd (C.pass _) I4 (.cons rfl r4) (spD_of (ds := d0 :: ds4) i4 (show Reps g Hi4 (V.ref px :: vs4) (d0 :: ds4) from ⟨rr0.mono s4', rr4⟩) q4 (Q := fun _ H' => Q .non H') (fun d S' v H' Hi' i' s' r' q' => hk .non S' .non H' Hi' i'.ok i'.ext rfl q') (hx0.mono s4'))))) (fun u s5 ⟨v, H5, I5, r5, q5⟩ => ?_) fun _ _ z => z
    exact wpAt_of_wpAny (wpAny_pure ⟨.non, H5, I5.os, I5.bare, I5.base, I5.hok, rfl, q5⟩)
  · rcases hy with hy | hy
    · exact absurd rfl (hcell _ (PySem.mem_of_lookup hy))
    · exact hfr _ (PySem.mem_of_lookup hy) rfl
end
end DL
end
/-! ## DLH -/
section
set_option Elab.async false
set_option linter.all false
set_option maxRecDepth 100000
set_option maxHeartbeats 4000000
/-! facts of the written part, by tests -/
namespace DL
open PySem PySem.Spec PyProof.Rows L2
abbrev Tst := PySem.W.Frag → Bool
/-- a property's getter, a classmethod's def -/
def pgAd (C m : Str) (K : PySem.W.Frag) : Addr := match PySem.W.recIn K (He.ma K (He.ga K C) m) "property" with
  | some (.ref f :: _) => f
  | _ => 0
def cmAd (C m : Str) (K : PySem.W.Frag) : Addr := match PySem.W.findIn K (.ref (He.ga K C)) m with
  | some (some (.ref p)) => (match PySem.W.recIn K p "classmethod" with
    | some (.ref f :: _) => f
    | _ => 0)
  | _ => 0
def glAd (x : Str) (K : PySem.W.Frag) : Addr := He.ga K x
def meAd (C m : Str) (K : PySem.W.Frag) : Addr := He.ma K (He.ga K C) m
/-- a def and where it stands -/
structure DfX where
  ad : PySem.W.Frag → Addr
  name : Str
  qual : Str
  params : Arguments
  body : List Stmt
  scope : Scope
  dfl : List He.Dv := []
  kwd : List (Str × He.Dv) := []
  sup : Option (Str × Str) := none
/-- of a def that says super(): its class's cell, its file -/
def supB (K : PySem.W.Frag) (cl : List (Str × Addr)) (code : Value) : Option (Str × Str) → Bool
  | none => true
  | some (C, file) => (match cl with
      | [(n, cc)] => decide (n = "__class__") && (match K.lookup cc with
        | some ⟨_, _, .cell (some (.ref D)), _⟩ => decide (D = He.ga K C)
        | _ => false)
      | _ => false) && (match code with
      | .ref cda => (match K.lookup cda with
        | some ⟨_, _, .fields vs, _⟩ => (match vs[2]? with
          | some (PySem.Value.str f _) => file == f
          | _ => false)
        | _ => false)
      | _ => false)
def DfX.val (d : DfX) : He.FnW := some (d.name, d.qual, d.params, .stmts d.body, d.scope, mainGlobals, [], builtinsNs)
def DfX.obs (K : PySem.W.Frag) (d : DfX) : He.FnW := match K.lookup (d.ad K) with
  | some ⟨_, _, .func fd, _⟩ => some (fd.name, fd.qualname, fd.params, fd.body, fd.scope, fd.globals, (if d.sup.isSome = true then [] else fd.closure), fd.builtins)
  | _ => none
def DfX.dvs (K : PySem.W.Frag) (d : DfX) : List V := d.dfl.map (He.Dv.v K)
def DfX.kws (K : PySem.W.Frag) (d : DfX) : List (Str × V) := d.kwd.map fun q => (q.1, q.2.v K)
def DfX.ok (K : PySem.W.Frag) (d : DfX) : Bool := PySem.W.keepIn K (.ref (d.ad K)) && (match K.lookup (d.ad K) with
  | some ⟨_, _, .func fd, _⟩ => PySem.W.codeIn K fd.code d.qual && ((He.dflB K fd.defaults (d.dvs K) && He.kwdB K fd.kwdefaults (d.kws K)) && supB K fd.closure fd.code d.sup)
  | _ => false)
theorem DfX.funD {K : PySem.W.Frag} {d : DfX} (hs : d.sup = none) (e : d.obs K = d.val) (c : d.ok K = true) : ∃ fd, FunD K d.name d.qual d.params d.body d.scope (d.dvs K) (d.kws K) (d.ad K) fd := by
  obtain ⟨kp, c2⟩ := He.ba c
  unfold DfX.obs at e
  cases q : K.lookup (d.ad K) with
  | none => rw [q] at c2; cases c2
  | some o =>
    obtain ⟨oc, od, dt, osl⟩ := o
    rw [q] at c2 e
    cases dt with
    | func fd =>
      obtain ⟨n1, n2, n3, n4, n5, n6, n7, n8, n9, n10, n11, n12, n13, n14, n15⟩ := fd
      have hs2 : (if d.sup.isSome = true then ([] : List (Str × Addr)) else n7) = n7 := by rw [hs]; rfl
      have e : (some (n1, n2, n3, n4, n5, n6, (if d.sup.isSome = true then [] else n7), n15) : He.FnW) = some (d.name, d.qual, d.params, .stmts d.body, d.scope, mainGlobals, [], builtinsNs) := e
      rw [hs2] at e
      have e2 : (some (n1, n2, n3, n4, n5, n6, n7, n15) : He.FnW) = some (d.name, d.qual, d.params, .stmts d.body, d.scope, mainGlobals, [], builtinsNs) := e
      simp only [Option.some.injEq, Prod.mk.injEq] at e2
      obtain ⟨h1, h2, h3, h4, h5, h6, h7, h8⟩ := e2
      subst h1 h2 h3 h4 h5 h6 h7 h8
      obtain ⟨k1, k2⟩ := He.ba (show (PySem.W.codeIn K n13 d.qual && ((He.dflB K n8 (d.dvs K) && He.kwdB K n9 (d.kws K)) && supB K _ n13 d.sup)) = true from c2)
      obtain ⟨k3, k4⟩ := He.ba (He.ba k2).1
      exact ⟨_, ⟨oc, od, n8, n9, n10, n11, n12, n13, n14, osl, rfl, q, k1, He.dflB_ok k3, He.kwdB_ok k4⟩, kp⟩
    | _ => cases c2
theorem DfX.funS {P : Program} {K : PySem.W.Frag} {d : DfX} {C file : Str} (hs : d.sup = some (C, file)) (hd : d.dfl = []) (hf : (P.main.file : Str) = file) (e : d.obs K = d.val) (c : d.ok K = true) : FunS P K d.name d.qual d.params d.body d.scope (d.ad K) (He.ga K C) := by
  obtain ⟨kp, c2⟩ := He.ba c
  unfold DfX.obs at e
  cases q : K.lookup (d.ad K) with
  | none => rw [q] at c2; cases c2
  | some o =>
    obtain ⟨oc, od, dt, osl⟩ := o
    rw [q] at c2 e
    cases dt with
    | func fd =>
      obtain ⟨n1, n2, n3, n4, n5, n6, n7, n8, n9, n10, n11, n12, n13, n14, n15⟩ := fd
      have e2 : (some (n1, n2, n3, n4, n5, n6, (if d.sup.isSome = true then [] else n7), n15) : He.FnW) = some (d.name, d.qual, d.params, .stmts d.body, d.scope, mainGlobals, [], builtinsNs) := e
      simp only [Option.some.injEq, Prod.mk.injEq] at e2
      obtain ⟨h1, h2, h3, h4, h5, h6, h7x, h8⟩ := e2
      clear h7x
      subst h1 h2 h3 h4 h5 h6 h8
      obtain ⟨k1, k2⟩ := He.ba (show (PySem.W.codeIn K n13 d.qual && ((He.dflB K n8 (d.dvs K) && He.kwdB K n9 (d.kws K)) && supB K n7 n13 d.sup)) = true from c2)
      obtain ⟨k3, k4⟩ := He.ba k2
      have hv : n8 = .none := by
        have z := He.dflB_ok (He.ba k3).1
        rcases z with ⟨_, z⟩ | ⟨z, _⟩
        · exact z
        · exact absurd (by unfold DfX.dvs; rw [hd]; rfl) z
      subst hv
      rw [hs] at k4
      obtain ⟨s1, s2⟩ := He.ba k4
      split at s1
      · rename_i n cc
        obtain ⟨s3, s4⟩ := He.ba s1
        obtain rfl := of_decide_eq_true s3
        split at s4
        · rename_i ccl cld D csl hcc
          obtain rfl := of_decide_eq_true s4
          split at s2
          · rename_i cda
            split at s2
            · rename_i c2' c3' vs c4' hcd
              split at s2
              · rename_i f tf hvs
                exact ⟨⟨oc, od, n9, n10, n11, n12, cda, cc, n14, osl, ccl, c2', cld, c3', csl, c4', vs, f, tf, q, k1, hcc, hcd, hvs, by rw [hf]; exact s2⟩, kp⟩
              · cases s2
            · cases s2
          · cases s2
        · cases s4
      · cases s1
    | _ => cases c2
abbrev AlX : Type := Bool × List He.FnW
def obsX (ts : List Tst) (fn : List DfX) (K : PySem.W.Frag) : AlX := ((ts.all fun t => t K) && fn.all fun d => d.ok K, fn.map fun d => d.obs K)
def valX (fn : List DfX) : AlX := (true, fn.map DfX.val)
def SaysX (ts : List Tst) (fn : List DfX) (K : PySem.W.Frag) : Prop := obsX ts fn K = valX fn
def obsXG (n : Nat) (ts : List Tst) (fn : List DfX) (g : Addr → Option Obj) : AlX := obsX ts fn (He.frG g (cStatics :: He.asD g n))
def hookX (n : Nat) (ts : List Tst) (fn : List DfX) : PySem.W.Hook where
  α := AlX
  obs := fun s => obsXG n ts fn s.heap.get?
  val := fun _ => valX fn
  says := fun _ h => ∃ K : PySem.W.Frag, K.In h ∧ SaysX ts fn K
  of := fun _ _ e => ⟨_, He.frG_in, e⟩
  keeps := fun _ _ _ ⟨K, hK, c⟩ k => ⟨K, PySem.W.Frag.In.keeps hK k, c⟩
theorem obsXG_eq {n : Nat} {ts : List Tst} {fn : List DfX} {g : Addr → Option Obj} {s : Shared} (h : ∀ a, g a = s.heap.get? a) : obsXG n ts fn g = (hookX n ts fn).obs s := by
  have e : g = s.heap.get? := funext h
  rw [e] <;> rfl
section
variable {ts : List Tst} {fn : List DfX} {K : PySem.W.Frag}
theorem SaysX.tst (c : SaysX ts fn K) (i : Nat) {t : Tst} (h : ts[i]? = some t := by rfl) : t K = true := by
  have c1 := (He.ba (show ((ts.all fun t => t K) && fn.all fun d => d.ok K) = true from congrArg (fun z : AlX => z.1) c)).1
  exact List.all_eq_true.mp c1 t (List.mem_of_getElem? h)
theorem SaysX.def_ (c : SaysX ts fn K) (i : Nat) {d : DfX} (h : fn[i]? = some d := by rfl) (hs : d.sup = none := by rfl) : ∃ fd, FunD K d.name d.qual d.params d.body d.scope (d.dvs K) (d.kws K) (d.ad K) fd := by
  have c2 := (He.ba (show ((ts.all fun t => t K) && fn.all fun d => d.ok K) = true from congrArg (fun z : AlX => z.1) c)).2
  have e : fn.map (fun d => d.obs K) = fn.map DfX.val := congrArg (fun z : AlX => z.2) c
  have e2 : (fn.map fun d => d.obs K)[i]? = (fn.map DfX.val)[i]? := by rw [e]
  rw [List.getElem?_map, List.getElem?_map, h] at e2
  exact DfX.funD hs (Option.some.inj e2) (List.all_eq_true.mp c2 d (List.mem_of_getElem? h))
end
section
variable {ts : List Tst} {fn : List DfX} {K : PySem.W.Frag}
theorem SaysX.sup_ {P : Program} {C file : Str} (c : SaysX ts fn K) (hf : (P.main.file : Str) = file) (i : Nat) {d : DfX} (h : fn[i]? = some d := by rfl) (hs : d.sup = some (C, file) := by rfl) (hd : d.dfl = [] := by rfl) : FunS P K d.name d.qual d.params d.body d.scope (d.ad K) (He.ga K C) := by
  have c2 := (He.ba (show ((ts.all fun t => t K) && fn.all fun d => d.ok K) = true from congrArg (fun z : AlX => z.1) c)).2
  have e : fn.map (fun d => d.obs K) = fn.map DfX.val := congrArg (fun z : AlX => z.2) c
  have e2 : (fn.map fun d => d.obs K)[i]? = (fn.map DfX.val)[i]? := by rw [e]
  rw [List.getElem?_map, List.getElem?_map, h] at e2
  exact DfX.funS hs hd hf (Option.some.inj e2) (List.all_eq_true.mp c2 d (List.mem_of_getElem? h))
end
theorem units1 {n m : Nat} (h : n + 64 < m) : n + 1 < m := by omega
theorem lk1 {c c' : Nat} {wf w : DFn} (h : [(c', w)].lookup c = some wf) : c = c' ∧ wf = w := by
  by_cases e : c = c'
  · subst e
    simp at h
    exact ⟨rfl, h.symm⟩
  · have b : (c == c') = false := by simpa using e
    simp [List.lookup, b] at h
theorem mem1 {d a : Nat} (h : [a].contains d = true) : d = a := by simpa using h
theorem mem2 {d a b : Nat} (h : [a, b].contains d = true) : d = a ∨ d = b := by simpa using h
theorem mem3 {d a b c : Nat} (h : [a, b, c].contains d = true) : d = a ∨ d = b ∨ d = c := by simpa using h
theorem mem4 {d a b c e : Nat} (h : [a, b, c, e].contains d = true) : d = a ∨ d = b ∨ d = c ∨ d = e := by simpa using h
/-! ### the tests, and what they say -/
def tClsI (x : Str) : Tst := fun K => (He.Fa.cls x).ok K && (He.eqO (PySem.W.findIn K (.ref (He.ga K x)) "__class__") (some (some (.builtin "object.__class__"))) && (He.eqO (PySem.W.specialIn K (.builtin "object.__class__") "__get__") (some (some (.builtin "getset_descriptor.__get__"))) &&
  (decide (PySem.W.takesIn K (.builtin "object.__class__") = some true) && decide (PySem.W.mroIn K (He.ga K x) (.type "object") = some true))))
theorem clsI_ok {g : Gx} {c : Nat} {x : Str} (e : g.ca c = He.ga g.K x) (h : tClsI x g.K = true) : ClsI g c := by
  obtain ⟨h1, h⟩ := He.ba h
  obtain ⟨h2, h⟩ := He.ba h
  obtain ⟨h3, h⟩ := He.ba h
  obtain ⟨h4, h5⟩ := He.ba h
  have z := He.cls_ok h1
  rw [← e] at z h2 h5
  exact ⟨z, He.eqO_ok h2, He.eqO_ok h3, of_decide_eq_true h4, of_decide_eq_true h5⟩
inductive TyN where
  | b (n : String)
  | own (x : Str)
def TyN.v (K : PySem.W.Frag) : TyN → Value
  | .b n => .type n
  | .own x => .ref (He.ga K x)
/-- isinstance's answer -/
def tKit (t u : TyN) (b : Bool) : Tst := fun K => decide (PySem.W.kitOne K (t.v K) (u.v K) = some b)
theorem kit_ok {K : PySem.W.Frag} {t u : TyN} {b : Bool} (h : tKit t u b K = true) : PySem.W.kitOne K (t.v K) (u.v K) = some b := of_decide_eq_true h
/-- a property of the class x -/
def tProp (x m : Str) : Tst := fun K => He.eqO (PySem.W.findIn K (.ref (He.ga K x)) m) (some (some (.ref (He.ma K (He.ga K x) m)))) && (He.eqO (PySem.W.specialIn K (.ref (He.ma K (He.ga K x) m)) "__get__") (some (some (.builtin "property.__get__"))) &&
  (decide (PySem.W.takesIn K (.ref (He.ma K (He.ga K x) m)) = some true) && (match PySem.W.recIn K (He.ma K (He.ga K x) m) "property" with
    | some (.ref _ :: _) => true
    | _ => false)))
theorem prop_ok {K : PySem.W.Frag} {x m : Str} (h : tProp x m K = true) : PropOf K (He.ga K x) m (He.ma K (He.ga K x) m) (pgAd x m K) := by
  obtain ⟨h1, h⟩ := He.ba h
  obtain ⟨h2, h⟩ := He.ba h
  obtain ⟨h3, h4⟩ := He.ba h
  refine ⟨He.eqO_ok h1, He.eqO_ok h2, of_decide_eq_true h3, ?_⟩
  unfold pgAd
  split at h4
  · rename_i f rest q
    rw [q]
    exact ⟨rest, rfl⟩
  · cases h4
/-- a classmethod of the class x -/
def tCls (x m : Str) : Tst := fun K => PySem.W.readsIn K (He.ga K x) (.type "type") && (He.eqO (PySem.W.specialIn K (.ref (He.ga K x)) "__getattribute__") (some (some (.builtin "type.__getattribute__"))) && (match PySem.W.findIn K (.ref (He.ga K x)) m with
  | some (some (.ref p)) => (match PySem.W.findCls K (.ref (He.ga K x)) (.type "type") m with
    | some (.get u1 u2 u3 u4) => decide (u1 = .builtin "classmethod.__get__") && (decide (u2 = .ref p) && (decide (u3 = .none) && decide (u4 = .ref (He.ga K x))))
    | _ => false) && ((match PySem.W.recIn K p "classmethod" with
    | some (.ref _ :: _) => true
    | _ => false) && PySem.W.fnIn K (cmAd x m K))
  | _ => false))
theorem cls_ok {K : PySem.W.Frag} {x m : Str} (h : tCls x m K = true) : ∃ pa, ClX.CRead K (He.ga K x) (.type "type") ∧ ClX.CMet K (He.ga K x) (.type "type") m pa (cmAd x m K) := by
  obtain ⟨h1, h⟩ := He.ba h
  obtain ⟨h2, h⟩ := He.ba h
  split at h
  · rename_i p q
    obtain ⟨h3, h⟩ := He.ba h
    obtain ⟨h4, h5⟩ := He.ba h
    refine ⟨p, ⟨h1, He.eqO_ok h2⟩, ?_, ?_, h5⟩
    · split at h3
      · rename_i u1 u2 u3 u4 q3
        obtain ⟨z1, z⟩ := He.ba h3
        obtain ⟨z2, z⟩ := He.ba z
        obtain ⟨z3, z4⟩ := He.ba z
        rw [q3, of_decide_eq_true z1, of_decide_eq_true z2, of_decide_eq_true z3, of_decide_eq_true z4]
      · cases h3
    split at h4
    · rename_i f rest q2
      refine ⟨rest, ?_⟩
      rw [q2]
      unfold cmAd
      rw [q]
      simp only [q2]
    · cases h4
  · cases h
/-- operators -/
def tFirst (x : Str) : Tst := fun K => PySem.W.selfFirst K (He.ga K x)
def tNoNum (x : Str) (nm : String) : Tst := fun K => noNum K (He.ga K x) nm
def tNe (x y : Str) : Tst := fun K => !decide (He.ga K x = He.ga K y)
theorem tNe_ok {K : PySem.W.Frag} {x y : Str} (h : tNe x y K = true) : He.ga K x ≠ He.ga K y := by
  unfold tNe at h
  simpa using h
def tSubF (x y : Str) : Tst := fun K => decide (PySem.W.subIn K (.ref (He.ga K x)) (.ref (He.ga K y)) = some false)
def tNotFirst (x y : Str) : Tst := fun K => PySem.W.notFirst K (He.ga K x) (.ref (He.ga K y))
def tObjNe (x : Str) : Tst := fun K => He.eqO (PySem.W.findIn K (.ref (He.ga K x)) "__ne__") (some (some (.builtin "object.__ne__")))
end DL
end
/-! ## DL20 -/
section
set_option Elab.async false
set_option linter.all false
set_option maxRecDepth 100000
set_option maxHeartbeats 4000000
/-! super(): the tests -/
namespace DL
open PySem PySem.Spec PyProof.Rows L2
/-- an instance of x that stands in a method of the class D finds, behind D, the def __init__ of the class B -/
def tSup (x D B : Str) : Tst := fun K => He.eqO (PySem.W.ks_superIn K (He.ga K x) (He.ga K D) "__init__") (some (some (.ref (meAd B "__init__" K)))) && (decide (PySem.W.mroIn K (He.ga K x) (.ref (He.ga K D)) = some true) &&
  ((PySem.W.clsIn K (He.ga K D)).isSome && (PySem.W.fnIn K (meAd B "__init__" K) && (He.eqO ((PySem.W.typeIn K (.ref (meAd B "__init__" K))).map some) (some (some (.type "function"))) && He.eqO (PySem.W.nsIn K cStatics "thirdparty.any") (some none)))))
theorem sup_ok {K : PySem.W.Frag} {ca : Nat → Addr} {c : Nat} {x D B : Str} (e : ca c = He.ga K x) (h : tSup x D B K = true) : SupOk K ca [c] (He.ga K D) (meAd B "__init__" K) := by
  obtain ⟨h1, h⟩ := He.ba h
  obtain ⟨h2, h⟩ := He.ba h
  obtain ⟨h3, h⟩ := He.ba h
  obtain ⟨h4, h⟩ := He.ba h
  obtain ⟨h5, h6⟩ := He.ba h
  refine ⟨fun c' hc => ?_, Option.isSome_iff_exists.mp h3, h4, ?_, He.eqO_ok h6⟩
  · obtain rfl : c' = c := mem1 hc
    rw [e]
    exact ⟨He.eqO_ok h1, of_decide_eq_true h2⟩
  · have z := He.eqO_ok h5
    cases q : PySem.W.typeIn K (.ref (meAd B "__init__" K)) with
    | none => rw [q] at z; cases z
    | some t => rw [q] at z; cases z; rfl
/-- what super().__init__(b) does: the next class's def, its answer dropped -/
def dSup (cs : List Nat) (wf : DFn) : DFn := fun ds S k E => ∃ d0 d1 c fs, ds = [d0, d1] ∧ insOf S d0 = some (c, fs) ∧ cs.contains c = true ∧ wf [d0, d1] S (fun _ S' => k .non S') E
end DL
end
/-! ## DLK -/
section
set_option Elab.async false
set_option linter.all false
set_option maxRecDepth 100000
set_option maxHeartbeats 4000000
/-! the head's facts read of the first n objects -/
namespace DL
open PySem PySem.Spec PyProof.Rows L2
def obsRG (n : Nat) (ts : List Tst) (fn : List DfX) (g : Addr → Option Obj) : AlX := obsX ts fn (He.frG g (cStatics :: List.range n))
def hookR (n : Nat) (ts : List Tst) (fn : List DfX) : PySem.W.Hook where
  α := AlX
  obs := fun s => obsRG n ts fn s.heap.get?
  val := fun _ => valX fn
  says := fun _ h => ∃ K : PySem.W.Frag, K.In h ∧ SaysX ts fn K
  of := fun _ _ e => ⟨_, He.frG_in, e⟩
  keeps := fun _ _ _ ⟨K, hK, c⟩ k => ⟨K, PySem.W.Frag.In.keeps hK k, c⟩
theorem obsRG_eq {n : Nat} {ts : List Tst} {fn : List DfX} {g : Addr → Option Obj} {s : Shared} (h : ∀ a, g a = s.heap.get? a) : obsRG n ts fn g = (hookR n ts fn).obs s := by
  have e : g = s.heap.get? := funext h
  rw [e] <;> rfl
end DL
end
/-! ## DLN -/
section
set_option Elab.async false
set_option linter.all false
set_option maxRecDepth 100000
set_option maxHeartbeats 4000000
/-! tests of exceptions and of defs that make lambdas; the head's hook -/
namespace DL
open PySem PySem.Spec PyProof.Rows L2
def excB (K : PySem.W.Frag) (C : Addr) : Bool := match K.lookup C with
  | some ⟨.type "type", dd, .cls cd, sl⟩ => (match cd.mro, sl.toList with
    | .ref C' :: bm, [_, _, _, _, some (.builtin n), _] => C' == C && (n == "ValueError.__new__" && (!cd.hasDel && (cd.hasDict && PySem.HandSPX.refsVE bm)))
    | _, _ => false)
  | _ => false

def tXc (x : Str) : Tst := fun K => excB K (He.ga K x) && (He.eqO (PySem.W.findIn K (.ref (He.ga K x)) "__setattr__") (some (some (.builtin "object.__setattr__"))) && (decide (PySem.W.subIn K (.ref (He.ga K x)) (.type "BaseException") = some true) &&
  (decide (PySem.W.typeIn K (.ref (He.ga K x)) = some (.type "type")) && (PySem.W.keepIn K (.ref (He.ga K x)) && (He.eqO (PySem.W.findIn K (.ref (He.ga K x)) "__getattribute__") (some (some (.builtin "BaseException.__getattribute__"))) &&
  (He.eqO (PySem.W.findIn K (.ref (He.ga K x)) "__getattr__") (some none) && (PySem.W.hasDictIn K (He.ga K x) && (He.eqO (PySem.W.findIn K (.ref (He.ga K x)) "__class__") (some (some (.builtin "object.__class__"))) &&
  (He.eqO (PySem.W.specialIn K (.builtin "object.__class__") "__get__") (some (some (.builtin "getset_descriptor.__get__"))) && (decide (PySem.W.takesIn K (.builtin "object.__class__") = some true) && decide (PySem.W.mroIn K (He.ga K x) (.type "object") = some true)))))))))))

def tXb (x : Str) : Tst := fun K => PySem.W.readsIn K (He.ga K x) (.type "type") && (He.eqO (PySem.W.specialIn K (.ref (He.ga K x)) "__getattribute__") (some (some (.builtin "type.__getattribute__"))) &&
  (match PySem.W.findCls K (.ref (He.ga K x)) (.type "type") "__init__" with | some (.val (.builtin n)) => n == "ValueError.__init__" | _ => false))

def tExm (x y : Str) (b : Bool) : Tst := fun K => decide (PySem.W.exmOne K (.ref (He.ga K x)) (.ref (He.ga K y)) = some b)

def tMul (x : Str) : Tst := fun K => (PySem.W.findIn K (.type "int") (PySem.dunder "mul")).isSome && ((PySem.W.findIn K (.type "int") (PySem.dunderR "mul")).isSome && (decide (PySem.W.subIn K (.type "int") (.ref (He.ga K x)) = some false) && (decide (PySem.W.subIn K (.ref (He.ga K x)) (.type "int") = some false) &&
  (He.eqO (PySem.W.findIn K (.ref (He.ga K x)) "__mul__") (some (some (.ref (meAd x "__mul__" K)))) && (He.eqO (PySem.W.findIn K (.ref (He.ga K x)) "__rmul__") (some (some (.ref (meAd x "__rmul__" K)))) && (PySem.W.isFn K (.ref (meAd x "__mul__" K)) && (PySem.W.isFn K (.ref (meAd x "__rmul__" K)) && PySem.W.selfFirst K (He.ga K x))))))))

def tClsN (x m : Str) (n : Int) : Tst := fun K => PySem.W.readsIn K (He.ga K x) (.type "type") && (He.eqO (PySem.W.specialIn K (.ref (He.ga K x)) "__getattribute__") (some (some (.builtin "type.__getattribute__"))) &&
  (match PySem.W.findCls K (.ref (He.ga K x)) (.type "type") m with | some (.val (.int i _)) => decide (i = n) | _ => false))

def lcAd (K : PySem.W.Frag) (f : Addr) : Addr := match K.lookup f with
  | some ⟨_, _, .func fd, _⟩ => (match fd.code with
    | .ref c => c
    | _ => 0)
  | _ => 0
def ltAd (K : PySem.W.Frag) (f : Addr) : Addr := match K.lookup (lcAd K f) with
  | some ⟨_, _, .fields vs, _⟩ => (match vs.getD 11 .none with
    | .ref P => P
    | _ => 0)
  | _ => 0

/-- the defs that make lambdas: their addresses, the lambdas' long names -/
abbrev Tfs := List ((PySem.W.Frag → Addr) × Str)
def fsOf (tf : Tfs) (K : PySem.W.Frag) : List (Addr × Str) := tf.map fun p => (p.1 K, p.2)
def tabB (K : PySem.W.Frag) (g : Addr → Option Obj) (p : Addr × Str) : Bool := PySem.W.codeHdIn K (lcAd K p.1) (ltAd K p.1) && (match g (ltAd K p.1) with
  | some o => He.emptyTab o
  | none => false)
def injB (K : PySem.W.Frag) (fs : List (Addr × Str)) : Bool := fs.all fun p => fs.all fun r => !(ltAd K p.1 == ltAd K r.1) || p.2 == r.2
def obsTG (n : Nat) (ts : List Tst) (fn : List DfX) (tf : Tfs) (g : Addr → Option Obj) : AlX × Bool := (obsX ts fn (He.frT g (cStatics :: List.range n)), (fsOf tf (He.frT g (cStatics :: List.range n))).all (tabB (He.frT g (cStatics :: List.range n)) g) && injB (He.frT g (cStatics :: List.range n)) (fsOf tf (He.frT g (cStatics :: List.range n))))
structure SaysT (ts : List Tst) (fn : List DfX) (tf : Tfs) (h : Heap) (K : PySem.W.Frag) : Prop where
  x : SaysX ts fn K
  hd : ∀ p ∈ fsOf tf K, PySem.W.codeHdIn K (lcAd K p.1) (ltAd K p.1) = true
  out : ∀ p ∈ fsOf tf K, K.lookup (ltAd K p.1) = none
  empty : ∀ p ∈ fsOf tf K, h.get? (ltAd K p.1) = some { cls := .none, data := .fields #[] }
  inj : ∀ p ∈ fsOf tf K, ∀ r ∈ fsOf tf K, ltAd K p.1 = ltAd K r.1 → p.2 = r.2
theorem saysT_of {n : Nat} {ts : List Tst} {fn : List DfX} {tf : Tfs} {h : Heap} (e : obsTG n ts fn tf h.get? = (valX fn, true)) : SaysT ts fn tf h (He.frT h.get? (cStatics :: List.range n)) := by
  have e1 : obsX ts fn (He.frT h.get? (cStatics :: List.range n)) = valX fn := congrArg (fun z : AlX × Bool => z.1) e
  have e2 := congrArg (fun z : AlX × Bool => z.2) e
  have e2 : ((fsOf tf (He.frT h.get? (cStatics :: List.range n))).all (tabB (He.frT h.get? (cStatics :: List.range n)) h.get?) && injB (He.frT h.get? (cStatics :: List.range n)) (fsOf tf (He.frT h.get? (cStatics :: List.range n)))) = true := e2
  obtain ⟨h1, h2⟩ := He.ba e2
  have key : ∀ p ∈ fsOf tf (He.frT h.get? (cStatics :: List.range n)), PySem.W.codeHdIn (He.frT h.get? (cStatics :: List.range n)) (lcAd (He.frT h.get? (cStatics :: List.range n)) p.1) (ltAd (He.frT h.get? (cStatics :: List.range n)) p.1) = true ∧ ∃ o, h.get? (ltAd (He.frT h.get? (cStatics :: List.range n)) p.1) = some o ∧ He.emptyTab o = true := fun p hp => by
    obtain ⟨h3, h4⟩ := He.ba (List.all_eq_true.mp h1 p hp)
    refine ⟨h3, ?_⟩
    cases q : h.get? (ltAd (He.frT h.get? (cStatics :: List.range n)) p.1) with
    | none => rw [q] at h4; cases h4
    | some o => rw [q] at h4; exact ⟨o, rfl, h4⟩
  refine ⟨e1, fun p hp => (key p hp).1, fun p hp => ?_, fun p hp => ?_, fun p hp r hr z => ?_⟩
  · obtain ⟨_, o, q, z⟩ := key p hp
    exact He.frT_none q z
  · obtain ⟨_, o, q, z⟩ := key p hp
    rw [q, He.emptyTab_eq z]
  · have y := List.all_eq_true.mp (List.all_eq_true.mp h2 p hp) r hr
    rw [z] at y
    simpa using y
def hookT (n : Nat) (ts : List Tst) (fn : List DfX) (tf : Tfs) : PySem.W.Hook where
  α := AlX × Bool
  obs := fun s => obsTG n ts fn tf s.heap.get?
  val := fun _ => (valX fn, true)
  says := fun _ h => ∃ K : PySem.W.Frag, K.In h ∧ SaysT ts fn tf h K
  of := fun _ _ e => ⟨_, He.frT_in, saysT_of e⟩
  keeps := fun _ _ _ ⟨K, hK, c⟩ k => ⟨K, PySem.W.Frag.In.keeps hK k, ⟨c.x, c.hd, c.out, fun p hp => k _ _ (c.empty p hp), c.inj⟩⟩
theorem obsTG_eq {n : Nat} {ts : List Tst} {fn : List DfX} {tf : Tfs} {g : Addr → Option Obj} {s : Shared} (h : ∀ a, g a = s.heap.get? a) : obsTG n ts fn tf g = (hookT n ts fn tf).obs s := by
  have e : g = s.heap.get? := funext h
  rw [e] <;> rfl
end DL
end
/-! ## HA -/
section
set_option Elab.async false
set_option linter.all false
set_option maxRecDepth 100000
set_option maxHeartbeats 0
namespace Z
open PySem PySem.Spec PyProof.Rows L2 DL
def topS (i : Nat) : Stmt := PySem.Challenge.pw_handsweeps_k08_loads_reckoned.main.body.getD i (.Pass ⟨0, 0, 0, 0⟩)
def tf : Tfs := [(glAd "_law_two_right", "_law_two_right" ++ ".<locals>." ++ "<lambda>"), (glAd "_law_one_right", "_law_one_right" ++ ".<locals>." ++ "<lambda>")]
def ts : List Tst := [(He.Fa.free "range").ok,
  (He.Fa.free "enumerate").ok,
  (He.Fa.free "int").ok,
  (He.Fa.glo "_law_folded").ok,
  (He.Fa.glo "_law_begun").ok,
  tClsN "Load" "MOST" 1200,
  (He.Fa.glo "Load").ok,
  (He.Fa.free "repr").ok,
  (He.Fa.free "len").ok,
  (He.Fa.glo "_law_mixed").ok,
  (He.Fa.glo "_law_draw").ok,
  (He.Fa.glo "_law_pick").ok,
  (He.Fa.glo "_law_near").ok,
  (He.Fa.free "max").ok,
  (He.Fa.free "min").ok,
  tKit (.b "int") (.b "int") true,
  (He.Fa.free "isinstance").ok,
  tKit (.b "int") (.b "bool") false,
  (He.Fa.free "bool").ok,
  (He.Fa.int "MOST_LOAD" 1200).ok,
  (He.Fa.glo "is_from").ok,
  (He.Fa.glo "SweepError").ok,
  tXb "SweepError",
  tXc "InvalidLoad",
  (He.Fa.meth "InvalidLoad" "__init__").ok,
  (He.Fa.glo "InvalidLoad").ok,
  (He.Fa.noat "InvalidLoad" "value").ok,
  (He.Fa.cls "Load").ok,
  (He.Fa.noat "Load" "own_forward").ok,
  (He.Fa.noat "Load" "own_backward").ok,
  (He.Fa.mkr "Load").ok,
  (He.Fa.glo "_law_due").ok,
  (He.Fa.glo "InvalidSize").ok,
  tExm "InvalidSize" "SweepError" true,
  (He.Fa.glo "InvalidRow").ok,
  tExm "InvalidRow" "SweepError" true,
  (He.Fa.glo "InvalidPlace").ok,
  tExm "InvalidPlace" "SweepError" true,
  (He.Fa.glo "LimitExceeded").ok,
  tExm "LimitExceeded" "SweepError" true,
  tExm "InvalidLoad" "SweepError" true,
  tClsI "Load",
  tKit (.own "Load") (.own "Load") true,
  tProp "Load" "forward",
  tProp "Load" "backward",
  tXc "InvalidSize",
  tKit (.own "InvalidSize") (.own "LimitExceeded") false,
  tXc "InvalidRow",
  tKit (.own "InvalidRow") (.own "LimitExceeded") false,
  tXc "InvalidPlace",
  tKit (.own "InvalidPlace") (.own "LimitExceeded") false,
  tXc "LimitExceeded",
  tKit (.own "LimitExceeded") (.own "LimitExceeded") true,
  tKit (.own "InvalidLoad") (.own "LimitExceeded") false,
  (He.Fa.noat "LimitExceeded" "limit").ok,
  (He.Fa.glo "_law_told").ok,
  (He.Fa.meth "LimitExceeded" "__init__").ok,
  (He.Fa.glo "checked_load").ok,
  tFirst "Load",
  (He.Fa.meth "Load" "__add__").ok,
  (He.Fa.meth "Load" "__and__").ok,
  (He.Fa.meth "Load" "__or__").ok,
  (He.Fa.meth "Load" "covers").ok,
  (He.Fa.meth "Load" "__eq__").ok,
  tObjNe "Load",
  tNotFirst "Load" "Load",
  (He.Fa.free "list").ok,
  (He.Fa.glo "_law_two_right").ok,
  tKit (.b "bool") (.b "int") true,
  tKit (.b "bool") (.b "bool") true,
  tMul "Load",
  (He.Fa.meth "Load" "__neg__").ok,
  (He.Fa.meth "Load" "__bool__").ok,
  (He.Fa.glo "_law_one_right").ok,
  (He.Fa.glo "law").ok]
def xd__law_folded : DfX := ⟨glAd "_law_folded", "_law_folded", "_law_folded", defArgs (topS 26), defBody (topS 26), defScope (topS 26), [], [], none⟩
def xd__law_begun : DfX := ⟨glAd "_law_begun", "_law_begun", "_law_begun", defArgs (topS 28), defBody (topS 28), defScope (topS 28), [], [], none⟩
def xd__law_mixed : DfX := ⟨glAd "_law_mixed", "_law_mixed", "_law_mixed", defArgs (topS 25), defBody (topS 25), defScope (topS 25), [], [], none⟩
def xd__law_draw : DfX := ⟨glAd "_law_draw", "_law_draw", "_law_draw", defArgs (topS 27), defBody (topS 27), defScope (topS 27), [], [], none⟩
def xd__law_pick : DfX := ⟨glAd "_law_pick", "_law_pick", "_law_pick", defArgs (topS 29), defBody (topS 29), defScope (topS 29), [], [], none⟩
def xd__law_near : DfX := ⟨glAd "_law_near", "_law_near", "_law_near", defArgs (topS 30), defBody (topS 30), defScope (topS 30), [], [], none⟩
def xd_is_from : DfX := ⟨glAd "is_from", "is_from", "is_from", defArgs (topS 10), defBody (topS 10), defScope (topS 10), [], [], none⟩
def xd_InvalidLoad___init__ : DfX := ⟨meAd "InvalidLoad" "__init__", "__init__", "InvalidLoad.__init__", defArgs (inClass (topS 6) 0), defBody (inClass (topS 6) 0), defScope (inClass (topS 6) 0), [], [], none⟩
def xd_Load___init__ : DfX := ⟨meAd "Load" "__init__", "__init__", "Load.__init__", defArgs (inClass (topS 23) 1), defBody (inClass (topS 23) 1), defScope (inClass (topS 23) 1), [], [], none⟩
def xd__law_due : DfX := ⟨glAd "_law_due", "_law_due", "_law_due", defArgs (topS 32), defBody (topS 32), defScope (topS 32), [], [], none⟩
def xd_Load_forward : DfX := ⟨pgAd "Load" "forward", "forward", "Load.forward", defArgs (inClass (topS 23) 2), defBody (inClass (topS 23) 2), defScope (inClass (topS 23) 2), [], [], none⟩
def xd_Load_backward : DfX := ⟨pgAd "Load" "backward", "backward", "Load.backward", defArgs (inClass (topS 23) 3), defBody (inClass (topS 23) 3), defScope (inClass (topS 23) 3), [], [], none⟩
def xd__law_told : DfX := ⟨glAd "_law_told", "_law_told", "_law_told", defArgs (topS 31), defBody (topS 31), defScope (topS 31), [], [], none⟩
def xd_LimitExceeded___init__ : DfX := ⟨meAd "LimitExceeded" "__init__", "__init__", "LimitExceeded.__init__", defArgs (inClass (topS 7) 0), defBody (inClass (topS 7) 0), defScope (inClass (topS 7) 0), [], [], none⟩
def xd_checked_load : DfX := ⟨glAd "checked_load", "checked_load", "checked_load", defArgs (topS 20), defBody (topS 20), defScope (topS 20), [], [], none⟩
def xd_Load___add__ : DfX := ⟨meAd "Load" "__add__", "__add__", "Load.__add__", defArgs (inClass (topS 23) 7), defBody (inClass (topS 23) 7), defScope (inClass (topS 23) 7), [], [], none⟩
def xd_Load___and__ : DfX := ⟨meAd "Load" "__and__", "__and__", "Load.__and__", defArgs (inClass (topS 23) 10), defBody (inClass (topS 23) 10), defScope (inClass (topS 23) 10), [], [], none⟩
def xd_Load___or__ : DfX := ⟨meAd "Load" "__or__", "__or__", "Load.__or__", defArgs (inClass (topS 23) 11), defBody (inClass (topS 23) 11), defScope (inClass (topS 23) 11), [], [], none⟩
def xd_Load_covers : DfX := ⟨meAd "Load" "covers", "covers", "Load.covers", defArgs (inClass (topS 23) 4), defBody (inClass (topS 23) 4), defScope (inClass (topS 23) 4), [], [], none⟩
def xd_Load___eq__ : DfX := ⟨meAd "Load" "__eq__", "__eq__", "Load.__eq__", defArgs (inClass (topS 23) 5), defBody (inClass (topS 23) 5), defScope (inClass (topS 23) 5), [], [], none⟩
def xd__law_two_right : DfX := ⟨glAd "_law_two_right", "_law_two_right", "_law_two_right", defArgs (topS 33), defBody (topS 33), defScope (topS 33), [], [], none⟩
def xd_Load___mul__ : DfX := ⟨meAd "Load" "__mul__", "__mul__", "Load.__mul__", defArgs (inClass (topS 23) 8), defBody (inClass (topS 23) 8), defScope (inClass (topS 23) 8), [], [], none⟩
def xd_Load___rmul__ : DfX := ⟨meAd "Load" "__rmul__", "__rmul__", "Load.__rmul__", defArgs (inClass (topS 23) 9), defBody (inClass (topS 23) 9), defScope (inClass (topS 23) 9), [], [], none⟩
def xd_Load___neg__ : DfX := ⟨meAd "Load" "__neg__", "__neg__", "Load.__neg__", defArgs (inClass (topS 23) 12), defBody (inClass (topS 23) 12), defScope (inClass (topS 23) 12), [], [], none⟩
def xd_Load___bool__ : DfX := ⟨meAd "Load" "__bool__", "__bool__", "Load.__bool__", defArgs (inClass (topS 23) 6), defBody (inClass (topS 23) 6), defScope (inClass (topS 23) 6), [], [], none⟩
def xd__law_one_right : DfX := ⟨glAd "_law_one_right", "_law_one_right", "_law_one_right", defArgs (topS 34), defBody (topS 34), defScope (topS 34), [], [], none⟩
def xd_law : DfX := ⟨glAd "law", "law", "law", defArgs (topS 35), defBody (topS 35), defScope (topS 35), [], [], none⟩
def fn : List DfX := [xd__law_folded, xd__law_begun, xd__law_mixed, xd__law_draw, xd__law_pick, xd__law_near, xd_is_from, xd_InvalidLoad___init__, xd_Load___init__, xd__law_due, xd_Load_forward, xd_Load_backward, xd__law_told, xd_LimitExceeded___init__, xd_checked_load, xd_Load___add__, xd_Load___and__, xd_Load___or__, xd_Load_covers, xd_Load___eq__, xd__law_two_right, xd_Load___mul__, xd_Load___rmul__, xd_Load___neg__, xd_Load___bool__, xd__law_one_right, xd_law]
abbrev R : PySem.W.OpenRow := PySem.W.OpenLaw.row PySem.Challenge.rw_handsweeps_k08_loads_reckoned
abbrev hk : PySem.W.Hook := hookT 2048 ts fn tf
def ob (s : PySem.W.SharedT) : AlX × Bool := obsTG 2048 ts fn tf (HandSHeadRun.getT s)
theorem ob_eq (s : PySem.W.SharedT) : ob s = hk.obs s.abs := obsTG_eq (HandSHeadRun.getT_eq s)
def loose : List Str := (["_wall", "SweepError", "InvalidRow", "InvalidPlace", "InvalidSize", "InvalidLoad", "LimitExceeded", "MOST_SIZE", "is_from", "need_size", "Sweep", "MOST_NUMBERS", "GREATEST", "Row", "MOST_LOAD", "checked_load", "moved_letters", "loaded", "Load", "_law_mixed", "_law_folded", "_law_draw", "_law_begun", "_law_pick", "_law_near", "_law_told", "_law_due", "_law_two_right", "_law_one_right"] : List Str)
open PySem.W PySem.Calls
theorem runA (w : World) (os : OsState) : (HandSHeadRun.endF (HandSHeadRun.stepQ (HandSHeadRun.denQ HandSHeadRun.tabQ) R.prog w) 60000 R.prog w os).map (fun s => HandSHeadRun.looksF R.prog (boot_heap w.params) s.abs) = some true := by kernel_rfl
theorem runB (w : World) (os : OsState) : (HandSHeadRun.endF (HandSHeadRun.stepQ (HandSHeadRun.denQ HandSHeadRun.tabQ) R.prog w) 60000 R.prog w os).map (fun s => HandSHeadRun.seenQ (PySem.W.view R.prog [35]) loose (importedModules R.prog.main.body) (fun s => xlAt (PySem.W.view R.prog [35]) [] s && recOk R.toRowW.records s) s.abs) = some (openGood (PySem.W.view R.prog [35]) loose) := by kernel_rfl
theorem runC (w : World) (os : OsState) : (HandSHeadRun.endF (HandSHeadRun.stepQ (HandSHeadRun.denQ HandSHeadRun.tabQ) R.prog w) 60000 R.prog w os).map (fun s => ob s) = some (hk.val w) := by kernel_rfl
theorem split3 {α β γ δ : Type} {o : Option α} {f : α → β} {g : α → γ} {h : α → δ} {a : β} {b : γ} {c : δ} (h1 : o.map f = some a) (h2 : o.map g = some b) (h3 : o.map h = some c) : o.map (fun s => (f s, g s, h s)) = some (a, b, c) := by
  cases o with
  | none => cases h1
  | some x => cases h1; cases h2; cases h3; rfl
theorem run (w : World) : HandSHeadRun.RunEq R (PySem.W.view R.prog [35]) hk ob 60000 loose w := fun os => split3 (runA w os) (runB w os) (runC w os)
end Z
end
/-! ## DL21 -/
section
set_option Elab.async false
set_option linter.all false
set_option maxRecDepth 100000
set_option maxHeartbeats 4000000
/-! x, y, z = a, b, c -/
namespace DL
open PySem PySem.Spec PyProof.Rows L2
section
variable {X : Cx} {g : Gx} {e : En} {W : WX} {a b c : Expr} {pos : Pos}
def dPar3 (i j l : Nat) (u : DA) : DS := fun ρ S D => u ρ S (fun ds S2 => ∃ x y z, ds = [x, y, z] ∧ D.nx (((ρ.set i (some x)).set j (some y)).set l (some z)) S2) (fun c fs S' => D.xe c fs ρ S')
theorem ds_par3 {i j l : Nat} {x y z : Str} {u : DA} {px py pz pt : Pos} {kt k2 pt2} (C : Cxt X g e W) (hN : X.N.Nodup) (hi : X.N[i]? = some x) (hj : X.N[j]? = some y) (hl : X.N[l]? = some z) (hij : i ≠ j) (hil : i ≠ l) (hjl : j ≠ l)
    (hx : X.env.scope.names.lookup x = some .local) (hy : X.env.scope.names.lookup y = some .local) (hz : X.env.scope.names.lookup z = some .local) (ha : PA X [a, b, c] (liftA g e W u))
    (hw : swappedStores [.Tuple [.Name x px, .Name y py, .Name z pz] kt pt] (.Tuple [a, b, c] k2 pt2) X.env = pure (some [x, y, z])) (hs : swapsWithSole [.Tuple [.Name x px, .Name y py, .Name z pz] kt pt] (.Tuple [a, b, c] k2 pt2) pos.line X.env = pure false := by rfl) :
    PS X (.Assign [.Tuple [.Name x px, .Name y py, .Name z pz] kt pt] (.Tuple [a, b, c] k2 pt2) pos) (liftS g e W (dPar3 i j l u)) :=
  (ps_par3 C.calm hN hi hj hl hij hil hjl hx hy hz ha hw hs).imp fun D σ H ⟨ρ, Hi, S, DD, i', sl, q, ok⟩ => by
    refine ⟨ρ, Hi, S, _, _, i', sl, q, fun ds S1 vs H1 Hi1 i1 s1 r1 ⟨dx, dy, dz, e1, q1⟩ => ?_, ok.x sl⟩
    subst e1
    match vs, r1 with
    | [v1, v2, v3], ⟨r2, r3, r4, _⟩ => exact ⟨v1, v2, v3, rfl, ok.nx _ S1 _ H1 Hi1 i1 s1 ((((sl.mono s1).set r2).set r3).set r4) q1⟩
end
end DL
end
/-! ## DL22 -/
section
set_option Elab.async false
set_option linter.all false
set_option maxRecDepth 100000
set_option maxHeartbeats 4000000
/-! forgetting: cells at a def's end, slots around a statement -/
namespace DL
open PySem PySem.Spec PyProof.Rows L2
/-- fewer cells -/
def Sub (S S' : Sto) : Prop := ∀ b c, S b = some c → S' b = some c
theorem Sub.refl {S : Sto} : Sub S S := fun _ _ h => h
theorem Sub.trans {S S1 S2 : Sto} (a : Sub S S1) (b : Sub S1 S2) : Sub S S2 := fun x c h => b x c (a x c h)
theorem Sub.put {S S' : Sto} {p : Addr} {c : Cell} (h : Sub S S') (n : S p = none) : Sub S (S'.set p c) := fun b u q => by rw [Sto.set_ne (fun z => by rw [z, n] at q; cases q)]; exact h b u q
theorem Sub.rm {S S' : Sto} {p : Addr} (h : Sub S S') (n : S p = none) : Sub S (S'.del p) := fun b u q => by rw [Sto.del_ne (fun z => by rw [z, n] at q; cases q)]; exact h b u q
theorem Sub.none {S S' : Sto} (h : Sub S S') {p : Addr} (n : S' p = none) : S p = none := by
  cases q : S p with
  | none => rfl
  | some c => rw [h p c q] at n; cases n
theorem Ok.sub_ {g : Gx} {H Hi : Hp} {S S' : Sto} (o : Ok g H Hi S') (h : Sub S S') : Ok g H Hi S := ⟨o.sub, fun a c q => o.cell a c (h a c q), o.tab⟩
theorem Ext.sub_ {H Hi H' Hi' : Hp} {S0 S S' : Sto} (x : Ext H Hi S0 H' Hi' S') (h : Sub S S') : Ext H Hi S0 H' Hi' S := ⟨x.imm, x.frm, fun b o q1 q2 q3 => ⟨(x.fre b o q1 q2 q3).1, h.none (x.fre b o q1 q2 q3).2⟩, x.kp⟩
theorem Is.sub_ {g : Gx} {e : En} {H Hi : Hp} {S S' : Sto} (i : Is g e H Hi S') (h : Sub S S') : Is g e H Hi S := ⟨i.ok.sub_ h, i.ext.sub_ h⟩
/-- cells may be forgotten behind the call -/
def dGc (wf : DFn) : DFn := fun ds S k E => wf ds S (fun d S' => ∃ S2, Sub S2 S' ∧ k d S2) (fun c fs S' => ∃ S2, Sub S2 S' ∧ E c fs S2)
theorem gcF {g : Gx} {P : Program} {w : World} {base : Heap} {k : Nat} {f : Addr} {wf : DFn} (F : DFnR g P w base k f wf) : DFnR g P w base k f (dGc wf) :=
  F.imp fun vs H Q E ⟨ds, Hi, S, k, E1, o, r, q, hk, hx⟩ => ⟨ds, Hi, S, _, _, o, r, q, fun d S' v H' Hi' o' x' r' ⟨S2, s2, q'⟩ => hk d S2 v H' Hi' (o'.sub_ s2) (x'.sub_ s2) r' q',
    fun c fs S' H' Hi' cls dx o' x' r' ⟨S2, s2, q'⟩ => hx c fs S2 H' Hi' cls dx (o'.sub_ s2) (x'.sub_ s2) r' q'⟩
theorem slots_less {g : Gx} {Hi : Hp} {σ : L2.St} {ρ : Env} (sl : Slots g Hi σ ρ) : ∀ vs : List Nat, Slots g Hi σ (wipeE ρ vs)
  | [] => sl
  | v :: vs => by
    obtain ⟨h1, h2⟩ := slots_less sl vs
    refine ⟨by unfold wipeE; simp [h1], fun i d q => ?_⟩
    unfold wipeE at q
    by_cases c : v = i
    · subst c
      rw [List.getElem?_set] at q
      simp only [if_true] at q
      split at q <;> cases q
    · rw [List.getElem?_set_ne c] at q
      exact h2 i d q
/-- slots that are forgotten ahead, and behind -/
def dFgt (vs ws : List Nat) (t : DS) : DS := fun ρ S D => t (wipeE ρ vs) S { D with nx := fun ρ' S' => D.nx (wipeE ρ' ws) S' }
/-- .. in a loop's body -/
def dFgtB (ws : List Nat) (t : DS) : DS := fun ρ S D => t ρ S { D with nx := fun ρ' S' => D.nx (wipeE ρ' ws) S', ct := fun ρ' S' => D.ct (wipeE ρ' ws) S', bk := fun ρ' S' => D.bk (wipeE ρ' ws) S' }
section
variable {X : Cx} {g : Gx} {e : En} {W : WX} {a : Stmt} {bs : List Stmt}
theorem ds_fgt {t : DS} {vs ws : List Nat} (h : PS X a (liftS g e W t)) : PS X a (liftS g e W (dFgt vs ws t)) :=
  h.imp fun D σ H ⟨ρ, Hi, S, DD, i, sl, q, ok⟩ => ⟨wipeE ρ vs, Hi, S, _, i, slots_less sl vs, q, ⟨fun ρ' S' σ' H' Hi' i' s' sl' q' => ok.nx _ S' σ' H' Hi' i' s' (slots_less sl' ws) q', ok.rt, ok.bk, ok.ct, ok.xe⟩⟩
theorem dss_fgt {t : DS} {ws : List Nat} (h : PSs X bs (liftS g e W t)) : PSs X bs (liftS g e W (dFgtB ws t)) :=
  h.imp fun D σ H ⟨ρ, Hi, S, DD, i, sl, q, ok⟩ => ⟨ρ, Hi, S, _, i, sl, q, ⟨fun ρ' S' σ' H' Hi' i' s' sl' q' => ok.nx _ S' σ' H' Hi' i' s' (slots_less sl' ws) q', ok.rt, fun ρ' S' σ' H' Hi' i' s' sl' q' => ok.bk _ S' σ' H' Hi' i' s' (slots_less sl' ws) q', fun ρ' S' σ' H' Hi' i' s' sl' q' => ok.ct _ S' σ' H' Hi' i' s' (slots_less sl' ws) q', ok.xe⟩⟩
end
end DL
end
/-! ## DL23 -/
section
set_option Elab.async false
set_option linter.all false
set_option maxRecDepth 100000
set_option maxHeartbeats 4000000
/-! lists' remove, extend -/
namespace DL
open PySem PySem.Spec PyProof.Rows L2
section
variable {X : Cx} {g : Gx} {e : En} {W : WX} {a b c : Expr} {pos : Pos}
def dRem (f f' : DE) : DE := fun ρ S k E => f ρ S (fun x S1 => ∃ p, x = .mu p ∧ (∃ xs, S1 p = some (.lst xs)) ∧ f' ρ S1 (fun y S2 => ∃ (ns : List Int) (i : Int), y = .int i ∧ S2 p = some (.lst (ns.map .int)) ∧ i ∈ ns ∧ k .non (S2.set p (.lst ((ns.erase i).map .int)))) E) E
theorem de_rem {f f' : DE} {apos : Pos} (C : Cxt X g e W) (ho : PE X a (lift g e W f)) (he : PE X b (lift g e W f')) (hbase : attributeBase a "remove" X.env (eval a X.env) = eval a X.env := by rfl)
    (hfew : ((backTo pos (starEach [b] X.env)).all (fun x => !x.1) && (backToKw pos (keywordEach [] X.env)).all (fun x => x.1.isSome)
      && decide (([b] : List Expr).length + ([] : List Keyword).length + (if ([] : List Keyword).isEmpty then 0 else 1) < 30)) = true := by rfl)
    (hline : (apos.endLine == pos.line) = true := by rfl) (hs : starEach [b] X.env = (false, eval b X.env) :: starEach [] X.env := by rfl) (hplain : (backTo pos (starEach [] X.env)).any (·.1) = false := by rfl) :
    PE X (.Call (.Attribute a "remove" apos) [b] [] pos) (lift g e W (dRem f f')) :=
  (pe_remX C.calm C.tk ho he hbase hfew hline hs hplain).imp fun σ H Q ⟨ρ, Hi, S, k, E, i, sl, q, hk, hx⟩ => by
    refine ⟨ρ, Hi, S, _, E, i, sl, q, fun x S1 v H1 Hi1 i1 s1 r1 ⟨p, e1, ⟨xs, hS⟩, q1⟩ => ?_, hx⟩
    subst e1
    have r1 : v = .ref p := r1
    subst r1
    obtain ⟨us, h1, h2⟩ := (i1.ok.cell p _ hS).2
    refine ⟨.inl ⟨rfl, us, SqL.of h1⟩, ρ, Hi1, S1, _, E, i1, sl.mono s1, q1, fun y S2 w H2 Hi2 i2 s2 r2 ⟨ns, n, e2, hS2, hm, q2⟩ => ?_, hx.mono s1⟩
    subst e2
    have r2 : w = .int n := r2
    subst r2
    obtain ⟨ws, h3, h4⟩ := (i2.ok.cell p _ hS2).2
    have ew := Reps.of_int h4
    subst ew
    refine ⟨p, ns, n, rfl, rfl, h3, fun _ => ?_, fun z => absurd hm z⟩
    obtain ⟨o4, x4⟩ := i2.ok.put (o := .lst ((ns.erase n).map V.int)) (c := .lst ((ns.erase n).map .int)) hS2 ⟨_, upd_same, Reps.map_int⟩
    exact hk .non _ .non _ Hi2 (i2.next o4 x4) (s1.trans s2) rfl q2
end
def lExtend : List D → List D → (D → List D → Prop) → Prop := fun xs ds k => ∃ zs, ds = [.lst zs] ∧ xs.length + zs.length ≤ 16777216 ∧ k .non (xs ++ zs)
theorem ok_extend {g : Gx} : MtOk g rExtend lExtend := by
  rintro H Hi S p us vs xs ds Q k o h1 r1 r2 ⟨zs, rfl, hl, q⟩ hk
  obtain ⟨v, rfl, rv⟩ := Reps.one r2
  obtain ⟨b, ws, rfl, hb, rw_⟩ := rv
  exact ⟨p, b, us, ws, rfl, rfl, h1, o.sub _ _ hb, by rw [r1.length, rw_.length]; exact sz_of hl, hk _ _ _ _ q rfl (r1.append rw_)⟩
end DL
end
/-! ## DL24 -/
section
set_option Elab.async false
set_option linter.all false
set_option maxRecDepth 100000
set_option maxHeartbeats 4000000
/-! own special methods: len, -x -/
namespace DL
open PySem PySem.Spec PyProof.Rows L2
/-- the classes' own method of that name -/
structure SpcOk (g : Gx) (P : Program) (w : World) (base : Heap) (k : Nat) (m : Str) (ms : List (Nat × DFn)) : Prop where
  ok : ∀ c wf, ms.lookup c = some wf → ∃ f, PySem.W.findIn g.K (.ref (g.ca c)) m = some (some (.ref f)) ∧ PySem.W.isFn g.K (.ref f) = true ∧ DFnR g P w base k f wf
theorem SpcOk.nil {g : Gx} {P : Program} {w : World} {base : Heap} {k : Nat} {m : Str} : SpcOk g P w base k m [] := ⟨fun c wf h => by simp at h⟩
theorem SpcOk.cons {g : Gx} {P : Program} {w : World} {base : Heap} {k : Nat} {m : Str} {c0 : Nat} {w0 : DFn} {ms : List (Nat × DFn)} (h : ∃ f, PySem.W.findIn g.K (.ref (g.ca c0)) m = some (some (.ref f)) ∧ PySem.W.isFn g.K (.ref f) = true ∧ DFnR g P w base k f w0) (r : SpcOk g P w base k m ms) : SpcOk g P w base k m ((c0, w0) :: ms) :=
  ⟨fun c wf hl => by
    by_cases e : c = c0
    · subst e
      simp at hl
      subst hl
      exact h
    · have b : (c == c0) = false := by simpa using e
      simp [List.lookup, b] at hl
      exact r.ok c wf hl⟩
section
variable {X : Cx} {g : Gx} {e : En} {W : WX} {a b c : Expr} {pos : Pos} {f f' : DE} {k : Nat} {ms : List (Nat × DFn)}
/-- len of an own object -/
def lenO (ms : List (Nat × DFn)) (ds : List D) (S : Sto) (kk : K1) : Prop := ∃ d c fs wf, ds = [d] ∧ insOf S d = some (c, fs) ∧ ms.lookup c = some wf ∧ wf [d] S (fun r S' => ∃ n : Int, r = .int n ∧ 0 ≤ n ∧ n < 2 ^ 62 ∧ kk (.int n) S') fun _ _ _ => False
def rLenO (g : Gx) (e : En) (ms : List (Nat × DFn)) : List V → Hp → VK → Prop := fun vs H Q => ∃ Hi S ds kk, Is g e H Hi S ∧ Reps g Hi vs ds ∧ lenO ms ds S kk ∧ KOk g e Hi kk Q
theorem call_lenO (C : Cxt X g e W) (B : SpcOk g X.prog X.w X.base k "__len__" ms) (hr : Room (k + 1) X.A) : CallR X (.builtin "len") (rLenO g e ms) := by
  rintro pins s σ H vs us Q I r ⟨Hi, S, ds, kk, i, rs, ⟨d, c, fs, wf, rfl, h1, h2, q⟩, hk⟩
  obtain ⟨v, rfl, rv⟩ := rs.one
  obtain ⟨p, dx, vs1, rfl, e1, _⟩ := insOf_rep i.ok rv h1
  rw [Vals.ref1 r]
  obtain ⟨fa, hs, hf, F⟩ := B.ok c wf h2
  obtain ⟨_, O, _⟩ := ins_get I.hok e1
  obtain ⟨od, J, _⟩ := O.look
  have hkk : g.K.In s.heap := by rw [← C.K]; exact I.kIn
  refine Calls.call_function_entry kind_len plain_len entry_len (args_len1 _) ?_
  unfold Builtin.«len»
  have kk' : KOk g e Hi (fun r S' => ∃ n : Int, r = .int n ∧ 0 ≤ n ∧ n < 2 ^ 62 ∧ kk (.int n) S') (fun v H' => ∃ n : Int, v = .int n ∧ 0 ≤ n ∧ n < 2 ^ 62 ∧ Q (.int n) H') := fun d S' v H' Hi' i' s' r' ⟨n, ed, h0, h9, q'⟩ => by
    subst ed
    exact ⟨n, r', h0, h9, hk (.int n) S' _ H' Hi' i' s' rfl q'⟩
  have run := run_d1 (us := [Value.ref p]) (vs := [.ref p]) (ds := [d]) C F hr I (.cons rfl .nil) i ⟨rv, trivial⟩ q kk' (fun _ _ _ _ _ _ _ _ _ _ z => z.elim)
  refine wpAny_bind (wpAny_pure ?_)
  refine wpAny_bind (m := callSpecial? (.ref p) (Str.ofString "__len__")) (PySem.W.special_fn hkk J hs (beq_iff_eq.mp hf) (wpAny_mono run (fun u s' z => ?_) fun _ _ y => y))
  obtain ⟨v2, H2, I2, r2, n, rfl, h0, h9, q2⟩ := z
  obtain ⟨t, rfl⟩ : ∃ t, u = Value.int n t := r2
  refine wpAny_bind (wpAny_holding (wpAny_pure ?_))
  refine wpAny_bind (wpAny_letGo ?_)
  show wpAny _ _ (if n < 0 then _ else _) _ _ _
  rw [if_neg (by omega)]
  show wpAny _ _ (if n ≥ 2 ^ 63 then _ else _) _ _ _
  rw [if_neg (by omega)]
  exact wpAny_bind (wpAny_mkInt (wpAny_pure ⟨_, rfl, .int n, H2, I2.tok _, ⟨_, rfl⟩, q2⟩))
theorem ok_lenO : BiOk g e (rLenO g e ms) (lenO ms) := fun H Hi S vs ds k Q i r h hk => ⟨Hi, S, ds, k, i, r, h, hk⟩
/-- -x of an own object -/
def dNegO (ms : List (Nat × DFn)) (f : DE) : DE := fun ρ S k E => f ρ S (fun x S1 => ∃ c fs wf, insOf S1 x = some (c, fs) ∧ ms.lookup c = some wf ∧ wf [x] S1 k E) E
theorem de_negO (C : Cxt X g e W) (B : SpcOk g X.prog X.w X.base k "__neg__" ms) (hr : Room k X.A) (ha : PE X a (lift g e W f)) : PE X (.UnaryOp .USub a pos) (lift g e W (dNegO ms f)) := by
  refine ⟨fun pins s σ H Q I ⟨ρ, Hi, S, k1, E, i, sl, q, hQ, hx⟩ => ?_⟩
  refine UnaryOp_ (thn (ha.run pins s σ H (fun x H1 => ∃ dx S1 Hi1, Is g e H1 Hi1 S1 ∧ Same Hi Hi1 ∧ Rep g Hi1 x dx ∧ ∃ c fs wf, insOf S1 dx = some (c, fs) ∧ ms.lookup c = some wf ∧ wf [dx] S1 k1 E) I
    ⟨ρ, Hi, S, _, E, i, sl, q, fun d S' v H' Hi' i' s' r' q' => ⟨d, S', Hi', i', s', r', q'⟩, hx⟩) fun v s1 ⟨x, H1, I1, rx, dx, S1, Hi1, i1, s1', r1, c, fs, wf, h1, h2, q1⟩ => ?_)
  obtain ⟨p, dx1, vs1, rfl, e1, _⟩ := insOf_rep i1.ok r1 h1
  obtain rfl : v = Value.ref p := rx
  obtain ⟨fa, hs, hf, F⟩ := B.ok c wf h2
  obtain ⟨_, O, _⟩ := ins_get I1.hok e1
  obtain ⟨od, J, _⟩ := O.look
  have hkk : g.K.In s1.heap := by rw [← C.K]; exact I1.kIn
  have run := run_d (us := [Value.ref p]) (vs := [.ref p]) (ds := [dx]) C F hr I1 (.cons rfl .nil) i1 ⟨r1, trivial⟩ q1 (KOk.mono hQ s1') (hx.mono s1')
  unfold unaryOp
  refine wpAny_holding ?_
  exact wpAny_bind (PySem.W.special_fn hkk J hs (beq_iff_eq.mp hf) (wpAny_mono run (fun _ _ z => wpAny_pure z) fun _ _ z => z))
end
end DL
end
/-! ## DL25 -/
section
set_option Elab.async false
set_option linter.all false
set_option maxRecDepth 100000
set_option maxHeartbeats 4000000
/-! a, b = a list -/
namespace DL
open PySem PySem.Spec PyProof.Rows L2
section
variable {X : Cx} {g : Gx} {e : En} {W : WX} {pos : Pos} {es : List Expr} {k : _}
def dgTL (n : Nat) (t : DGs) : DG := fun d ρ S k E => ∃ ds, lstOrScr S d = some ds ∧ ds.length = n ∧ t ds ρ S k E
theorem dg_lst {n : Nat} {t : DGs} (C : Cxt X g e W) (h : PGs X es (liftGs g e W t)) (hn : (assignEach es X.env).length = n := by rfl) (hst : (assignEach es X.env).findIdx? (·.1) = none := by rfl) : PG X (.Tuple es k pos) (liftG g e W (dgTL n t)) :=
  (pg_lst C.calm h hn hst).imp fun v σ H Q ⟨d, ρ, Hi, S, k1, E, i, sl, r, ⟨ds, hd, hl, q⟩, hk, hx⟩ => by
    obtain ⟨a, xs, rfl, h1, h2⟩ := lsOf_rep i.ok r hd
    exact ⟨a, xs, rfl, by rw [C.K]; exact h1, by rw [h2.length]; exact hl, ds, ρ, Hi, S, k1, E, i, sl, h2, q, hk, hx⟩
end
end DL
end
/-! ## DL26 -/
section
set_option Elab.async false
set_option linter.all false
set_option maxRecDepth 100000
set_option maxHeartbeats 4000000
/-! sorted(list of pairs of an int and a bool): the same pairs, in some order -/
namespace SrtB
open PySem PyProof.Rows Srt SrtO
section
variable {prog : Program} {w : World} {A : Around} {E : Value → Shared → Prop} {s : Shared}
def b2 (b : Bool) : Int := if b = true then 1 else 0
def IsPB (h : Heap) (v : Value) (x : Int) (y : Bool) : Prop := ∃ a o t n, v = .ref a ∧ h.get? a = some o ∧ o.cls = .type "tuple" ∧ o.data = .seq #[.int x t, .bool y] n
theorem IsPB.keeps {h h' : Heap} {v : Value} {x : Int} {y : Bool} (p : IsPB h v x y) (k : ∀ b o, h.get? b = some o → o.cls = .type "tuple" → h'.get? b = some o) : IsPB h' v x y := by
  obtain ⟨a, o, t, n, e, ho, hc, hd⟩ := p
  exact ⟨a, o, t, n, e, k _ _ ho hc, hc, hd⟩
theorem firsts {h : Heap} : ∀ {vs : List Value}, (∀ v ∈ vs, ∃ x y, IsPB h v x y) → ∃ fs : List Value, PySem.W.KatTups h vs fs ∧ fs.length = vs.length ∧ ∀ f ∈ fs, ∃ x t, f = Value.int x t
  | [], _ => ⟨[], PySem.W.KatTups.nil, rfl, fun _ hm => by simp at hm⟩
  | v :: vs, hp => by
    obtain ⟨fs, h1, h2, h3⟩ := firsts (vs := vs) fun v' hm => hp v' (List.mem_cons_of_mem _ hm)
    obtain ⟨x, y, a, o, t, n, e, ho, hc, hd⟩ := hp v (List.mem_cons_self ..)
    subst e
    refine ⟨.int x t :: fs, PySem.W.KatTups.cons ho hc hd rfl h1, by rw [List.length_cons, List.length_cons, h2], fun f hm => ?_⟩
    rcases List.mem_cons.mp hm with rfl | hm
    · exact ⟨x, t, rfl⟩
    · exact h3 f hm
def kk (k : Value → Int × Bool) (v : Value) : Int × Int := ((k v).1, b2 (k v).2)
theorem pb_cmp {vs : List Value} {k : Value → Int × Bool} (hp : ∀ v ∈ vs, IsPB s.heap v (k v).1 (k v).2) : Cmp prog w A s (tuples' true) (fun p => p.1 ∈ vs) (lt2 fun v u => lexB (kk k v) (kk k u)) := by
  intro p q hm hm'
  have h1 := hp _ hm
  have h2 := hp _ hm'
  show wpAny (model prog w) A (keyLt' (tuples' true) p.1 q.1) (fun r s' => s' = s ∧ r = lexB (kk k p.1) (kk k q.1)) (fun _ _ => False) s
  unfold lexB kk
  generalize (k p.1).1 = x at h1 ⊢
  generalize (k p.1).2 = y at h1 ⊢
  generalize (k q.1).1 = x' at h2 ⊢
  generalize (k q.1).2 = y' at h2 ⊢
  obtain ⟨a, o, t, n, e, ho, hc, hd⟩ := h1
  obtain ⟨a', o', t', n', e', ho', hc', hd'⟩ := h2
  rw [e, e']
  refine PySem.W.kat_lt ho hd ho' hd' ?_
  show PySem.W.KatLex prog w A true (decide (2 < 2)) _ [(.int x t, .int x' t'), (.bool y, .bool y')] 0 s
  refine PySem.W.kat_cons (SeqAt.EqAt.int_int x t x' t' prog w _ _ ?_)
  refine PySem.W.kat_go (fun e1 => ?_) (fun e1 => ?_)
  · have ex : x = x' := by simpa using e1
    refine PySem.W.kat_yes (PySem.W.kat_cons (SeqAt.EqAt.bool_bool y y' prog w _ _ ?_))
    refine PySem.W.kat_go (fun e2 => ?_) (fun e2 => ?_)
    · have ey : y = y' := by simpa using e2
      have e3 : (if x = x' then decide (b2 y < b2 y') else decide (x < x')) = false := by
        rw [if_pos ex, ey]
        exact decide_eq_false (Int.lt_irrefl _)
      exact PySem.W.kat_yes (PySem.W.kat_nil ⟨rfl, e3.symm⟩)
    · have e3 : (if x = x' then decide (b2 y < b2 y') else decide (x < x')) = decide (b2 y < b2 y') := if_pos ex
      refine PySem.W.kat_no (PySem.W.kat_one _ _ (PyProof.Rows.lt_bool ?_))
      refine (show s = s ∧ _ = (if x = x' then decide (b2 y < b2 y') else decide (x < x')) from ⟨rfl, ?_⟩)
      rw [e3]
      cases y <;> cases y' <;> rfl
  · have ex : ¬ x = x' := by simpa using e1
    have e3 : (if x = x' then decide (b2 y < b2 y') else decide (x < x')) = decide (x < x') := if_neg ex
    exact PySem.W.kat_no (oneLt_int ⟨rfl, e3.symm⟩)
theorem pb_sortable {a : Addr} {vs : List Value} {k : Value → Int × Bool} (h0 : 0 < vs.length) (hp : ∀ v ∈ vs, IsPB s.heap v (k v).1 (k v).2) (ha : ∀ o, s.heap.get? a = some o → o.cls ≠ .type "tuple") : SortableO prog w A s a vs fun v u => lexB (kk k v) (kk k u) := by
  intro h' keep
  have hp' : ∀ v ∈ vs, IsPB h' v (k v).1 (k v).2 := fun v hm => (hp v hm).keeps fun b o e c => keep b o (fun z => by subst z; exact ha o e c) e
  obtain ⟨fs, h1, h2, h3⟩ := firsts fun v hm => ⟨_, _, hp' v hm⟩
  refine ⟨tuples' true, fun Q E hq => ?_, pb_cmp hp'⟩
  refine PySem.W.kat_kind (T := .type "int") h1 (by omega) (fun f hm => ?_) (by rfl) ?_
  · obtain ⟨x, t, rfl⟩ := h3 f hm
    exact PySem.W.Looks.now
  · have e : (Value.type "int" != Value.type "tuple") = true := by first | decide +kernel | rfl | decide
    rw [e]
    exact hq
theorem sorted_pb {l : Addr} {vs : List Value} {k : Value → Int × Bool} {Q : Value → Shared → Prop} (hl : s.heap.IsList l vs.toArray) (hz : vs.length ≤ sizeLine) (hp : ∀ v ∈ vs, IsPB s.heap v (k v).1 (k v).2)
    (h : ∀ (h' : Heap) (d : Addr) (out : List Value), out.Perm vs → (∀ b o, s.heap.get? b = some o → h'.get? b = some o) → s.heap.objs.size ≤ d → (∃ n, h'.get? d = some (seqObj "list" out.toArray n)) → Q (.ref d) { s with heap := h' }) :
    wpAny (model prog w) A (call (.builtin "sorted") [.ref l]) Q E s := by
  refine sorted_ord (swo_lex (kk k)) hl hz (fun h2 h₁ a ha kp => ?_) fun out hs hb => ?_
  · refine pb_sortable (s := { s with heap := h₁ }) (by omega) (fun v hm => (hp v hm).keeps fun b o e _ => (kp b o e).2) fun o e => ?_
    have e' : some o = some (seqObj "list" vs.toArray 0) := e.symm.trans ha
    cases e'
    intro c
    exact absurd (Value.type.inj c) (by decide)
  · exact h _ _ out hb.perm (fun b o e => sortedAll_old e) (Nat.le_succ _) (sortedAll_at s.heap vs out.toArray)
end
end SrtB
namespace L2
open PySem PySem.Spec PyProof.Rows
def rSortedPB (K : PySem.W.Frag) : List V → Hp → VK → Prop := fun vs H Q => ∃ (a : Addr) (xs : List V) (k : V → Int × Bool), vs = [V.ref a] ∧ SqL K H a xs ∧ (∀ x ∈ xs, ∃ t, x = V.ref t ∧ SqT K H t [.int (k x).1, .bl (k x).2]) ∧
  ∀ ys p, ys.Perm xs → H p = none → Q (.ref p) (upd H p (.lst ys))
section
variable {X : Cx}
theorem cr_sortedPB : CallR X (.builtin "sorted") (rSortedPB X.K) := by
  intro pins s σ H vs us Q I r h
  obtain ⟨a, xs, k, rfl, hs, hx, q⟩ := h
  obtain ⟨its, rv, hl, hz⟩ := I.list hs
  obtain ⟨u, rfl, ru⟩ := vals1 r
  obtain rfl : u = Value.ref a := ru
  obtain ⟨e1, e2⟩ := refs_back rv fun x m => by
    obtain ⟨t, e, _⟩ := hx x m
    exact ⟨t, e⟩
  refine SrtB.sorted_pb (k := fun u => k (backV u)) hl.isList (by rw [← rv.length]; exact hz) (fun v hv => ?_) fun h' d out h2 kp hd hn => ?_
  · obtain ⟨t, rfl⟩ := e2 v hv
    have hm : V.ref t ∈ xs := by rw [e1]; exact List.mem_map.mpr ⟨_, hv, rfl⟩
    obtain ⟨t', e, ht⟩ := hx _ hm
    cases e
    obtain ⟨its2, r2, tup, _⟩ := I.tuple ht
    obtain ⟨u1, u2, rfl, ri, rj⟩ := vals2 r2
    obtain ⟨t1, rfl⟩ := ri
    cases rj
    obtain ⟨o, ho, hc, n, hd⟩ := tup
    exact ⟨t, o, t1, n, rfl, ho, hc, hd⟩
  · have h3 : ∀ u ∈ out, ∃ a, u = Value.ref a := fun u hu => e2 u (h2.mem_iff.mp hu)
    obtain ⟨n, hn⟩ := hn
    have hb : (out.map backV).Perm xs := by
      rw [e1]
      exact h2.map backV
    refine ⟨.ref d, upd H d (.lst (out.map backV)), I.laid (t' := s.toks) kp hd ⟨?_, out, n, vals_back h3, hn⟩, rfl, q _ d hb (I.hok.fresh hd)⟩
    rw [hb.length_eq]
    exact hz
end
end L2
namespace DL
open PySem PySem.Spec PyProof.Rows L2
section
variable {X : Cx} {g : Gx} {e : En} {W : WX} {pos : Pos}
theorem call_sortedPBX (C : Cxt X g e W) : CallR X (.builtin "sorted") (rSortedPB g.K) := by rw [← C.K]; exact cr_sortedPB
abbrev pib (p : Int × Bool) : D := .tup [.int p.1, .bl p.2]
theorem reps_pib {g : Gx} {H : Hp} : ∀ {xs : List V} {ps : List (Int × Bool)}, Reps g H xs (ps.map pib) → ∀ x ∈ xs, ∃ p ∈ ps, Rep g H x (pib p)
  | [], [], _, _, m => absurd m (by simp)
  | v :: vs, p :: ps, ⟨h1, h2⟩, x, m => by
    rcases List.mem_cons.mp m with rfl | m
    · exact ⟨p, List.mem_cons_self, h1⟩
    · obtain ⟨q, hq, hr⟩ := reps_pib h2 x m
      exact ⟨q, List.mem_cons_of_mem _ hq, hr⟩
  | [], _ :: _, h, _, _ => h.elim
  | _ :: _, [], h, _, _ => h.elim
theorem rep_pib {g : Gx} {H : Hp} {v : V} {p : Int × Bool} (h : Rep g H v (pib p)) : ∃ t, v = .ref t ∧ SqT g.K H t [.int p.1, .bl p.2] := by
  obtain ⟨a, xs, rfl, hs, hr⟩ := h
  match xs, hr with
  | [x, y], ⟨h1, h2, _⟩ =>
    have h1 : x = .int p.1 := h1
    have h2 : y = .bl p.2 := h2
    subst h1; subst h2
    exact ⟨a, rfl, SqT.of hs⟩
theorem reps_perm {g : Gx} {H : Hp} {xs ys : List V} (hp : ys.Perm xs) : ∀ {ds : List D}, Reps g H xs ds → ∃ es : List D, es.Perm ds ∧ Reps g H ys es := by
  induction hp with
  | nil => intro ds h; exact ⟨ds, List.Perm.refl _, h⟩
  | @cons x l1 l2 _ ih =>
    intro ds h
    cases ds with
    | nil => exact h.elim
    | cons d ds =>
      obtain ⟨qs, q1, q2⟩ := ih h.2
      exact ⟨d :: qs, q1.cons d, h.1, q2⟩
  | @swap x y l =>
    intro ds h
    cases ds with
    | nil => exact h.elim
    | cons d ds =>
      cases ds with
      | nil => exact h.2.elim
      | cons c ds => exact ⟨c :: d :: ds, List.Perm.swap .., h.2.1, h.1, h.2.2⟩
  | trans _ _ ih1 ih2 =>
    intro ds h
    obtain ⟨qs, a, b⟩ := ih2 h
    obtain ⟨rs, c, d⟩ := ih1 b
    exact ⟨rs, c.trans a, d⟩
theorem perm_map {α β : Type} {f : α → β} {l : List β} {ps : List α} (h : l.Perm (ps.map f)) : ∃ qs : List α, qs.Perm ps ∧ l = qs.map f := by
  generalize e : ps.map f = m at h
  induction h generalizing ps with
  | nil =>
    cases ps with
    | nil => exact ⟨[], List.Perm.refl _, rfl⟩
    | cons => simp at e
  | @cons x l1 l2 _ ih =>
    cases ps with
    | nil => simp at e
    | cons p ps =>
      simp at e
      obtain ⟨qs, a, b⟩ := ih e.2
      exact ⟨p :: qs, a.cons p, by rw [b, ← e.1]; rfl⟩
  | @swap x y l =>
    cases ps with
    | nil => simp at e
    | cons p ps =>
      cases ps with
      | nil => simp at e
      | cons q ps =>
        simp at e
        exact ⟨q :: p :: ps, List.Perm.swap .., by simp [e]⟩
  | trans _ _ ih1 ih2 =>
    obtain ⟨qs, a, b⟩ := ih2 e
    obtain ⟨rs, c, d⟩ := ih1 b.symm
    exact ⟨rs, c.trans a, d⟩
def bSortedPB : DBiM := fun ds S k => ∃ (d : D) (ps : List (Int × Bool)), ds = [d] ∧ lstOrScr S d = some (ps.map pib) ∧ ∀ qs : List (Int × Bool), qs.Perm ps → k (qs.map pib) S
open Classical in
theorem ok_sortedPB : BiOkM g e (rSortedPB g.K) bSortedPB := by
  rintro H Hi S vs ds k Q i r ⟨d, ps, rfl, hd, q⟩ hk
  obtain ⟨v, rfl, rv⟩ := r.one
  obtain ⟨a, us, rfl, h1, h2⟩ := lsOf_rep i.ok rv hd
  have all : ∀ x ∈ us, ∃ p : Int × Bool, ∃ t, x = .ref t ∧ SqT g.K H t [.int p.1, .bl p.2] := fun x hx => by
    obtain ⟨p, _, hr⟩ := reps_pib h2 x hx
    obtain ⟨t, e1, e2⟩ := rep_pib hr
    exact ⟨p, t, e1, Same.tup i.ok.sub e2⟩
  refine ⟨a, us, fun x => if h : ∃ p : Int × Bool, ∃ t, x = .ref t ∧ SqT g.K H t [.int p.1, .bl p.2] then h.choose else (0, false), rfl, h1, fun x hx => ?_, fun ys p hp hn => ?_⟩
  · have h := all x hx
    simp only [dif_pos h]
    exact h.choose_spec
  · obtain ⟨es, p1, p2⟩ := reps_perm hp h2
    obtain ⟨qs, p3, rfl⟩ := perm_map p1
    obtain ⟨n2, i2⟩ := isNewC i hn p2
    exact hk _ S p _ Hi n2 i2 (Same.refl _) (q qs p3)
@[simp] theorem q_bSortedPB : type_of% @DL.bSortedPB.eq_1 := @DL.bSortedPB.eq_1
end
end DL
end
/-! ## DL27 -/
section
set_option Elab.async false
set_option linter.all false
set_option maxRecDepth 100000
set_option maxHeartbeats 4000000
/-! sorted(list of pairs of ints, reverse=True): descending -/
namespace L2
open PySem PySem.Spec PyProof.Rows
abbrev Desc (qs : List (Int × Int)) : Prop := qs.Pairwise fun a b => SrtO.lexB a b = false
def rSortedPR (K : PySem.W.Frag) : List V → List V → Hp → VK → Prop := fun vs zs H Q => ∃ (a : Addr) (L : List (V × (Int × Int))), vs = [V.ref a] ∧ zs = [.bl true] ∧ SqL K H a (L.map (·.1)) ∧ (∀ x ∈ L, ∃ t, x.1 = V.ref t ∧ SqT K H t [.int x.2.1, .int x.2.2]) ∧
  ∀ (L' : List (V × (Int × Int))) p, L'.Perm L → Desc (L'.map (·.2)) → H p = none → Q (.ref p) (upd H p (.lst (L'.map (·.1))))
theorem pair_det {h : Heap} {v : Value} {x y x' y' : Int} (a : Srt.IsPair h v x y) (b : Srt.IsPair h v x' y') : (x, y) = (x', y') := by
  obtain ⟨a1, o, t, u, n, e, ho, hc, hd⟩ := a
  obtain ⟨a2, o', t', u', n', e', ho', hc', hd'⟩ := b
  rw [e] at e'
  cases e'
  rw [ho] at ho'
  cases ho'
  rw [hd] at hd'
  injection hd' with d1 _
  have d2 := congrArg Array.toList d1
  simp at d2
  rw [d2.1.1, d2.2.1]
def toV : V → Value
  | .ref t => .ref t
  | _ => .none
open Classical in
noncomputable def pairK (h : Heap) (v : Value) : Int × Int := if q : ∃ p : Int × Int, Srt.IsPair h v p.1 p.2 then q.choose else (0, 0)
theorem pairK_eq {h : Heap} {v : Value} {p : Int × Int} (q : Srt.IsPair h v p.1 p.2) : pairK h v = p := by
  have e : ∃ p : Int × Int, Srt.IsPair h v p.1 p.2 := ⟨p, q⟩
  unfold pairK
  rw [dif_pos e]
  exact pair_det e.choose_spec q
section
variable {X : Cx}
theorem cr_sortedPR : CallRK X (.builtin "sorted") [Str.ofString "reverse"] (rSortedPR X.K) := by
  intro pins s σ H vs zs us ws Q I r rz h
  obtain ⟨a, L, rfl, rfl, hs, hx, q⟩ := h
  obtain ⟨its, rv, hl, hz⟩ := I.list hs
  obtain rfl := Vals.ref1 r
  obtain ⟨w1, rfl, e0⟩ := vals1 rz
  obtain rfl : w1 = Value.bool true := e0
  obtain ⟨e1, e2⟩ := refs_back rv fun x m => by
    obtain ⟨y, hy, rfl⟩ := List.mem_map.mp m
    obtain ⟨t, e, _⟩ := hx y hy
    exact ⟨t, e⟩
  have pr : ∀ x ∈ L, Srt.IsPair s.heap (toV x.1) x.2.1 x.2.2 := fun x hxl => by
    obtain ⟨t, e, ht⟩ := hx x hxl
    obtain ⟨its2, r2, tup, _⟩ := I.tuple ht
    obtain ⟨u1, u2, rfl, ri, rj⟩ := vals2 r2
    obtain ⟨t1, rfl⟩ := ri
    obtain ⟨t2, rfl⟩ := rj
    obtain ⟨o, ho, hc, n, hd⟩ := tup
    rw [e]
    exact ⟨t, o, t1, t2, n, rfl, ho, hc, hd⟩
  have eL : L = its.map fun u => (backV u, pairK s.heap u) := by
    have c1 : L = L.map fun x => (backV (toV x.1), pairK s.heap (toV x.1)) := by
      conv => lhs; rw [← List.map_id L]
      refine List.map_congr_left fun x hxl => ?_
      rw [pairK_eq (pr x hxl)]
      obtain ⟨t, e, _⟩ := hx x hxl
      show x = _
      rw [show backV (toV x.1) = x.1 by rw [e]; rfl]
    have c2 : (L.map fun x => (backV (toV x.1), pairK s.heap (toV x.1))) = (L.map (·.1)).map fun v => (backV (toV v), pairK s.heap (toV v)) := by rw [List.map_map]; rfl
    rw [c1, c2, e1, List.map_map]
    refine List.map_congr_left fun u hu => ?_
    obtain ⟨t, rfl⟩ := e2 u hu
    rfl
  have hp : ∀ v ∈ its, Srt.IsPair s.heap v (pairK s.heap v).1 (pairK s.heap v).2 := fun v hv => by
    have m : (backV v, pairK s.heap v) ∈ L := by rw [eL]; exact List.mem_map.mpr ⟨v, hv, rfl⟩
    obtain ⟨t, rfl⟩ := e2 v hv
    exact pr _ m
  refine SrtR.sorted_ordK (b := true) (ltv := fun v u => SrtO.lexB (pairK s.heap v) (pairK s.heap u)) (fun _ => rfl) (PyProof.Rows.args_sorted_rev _ _) (fun _ => PyProof.Rows.args_list_sort_rev _ _) (SrtO.swo_lex (pairK s.heap)) hl.isList (by rw [← rv.length]; exact hz) (fun h2 h₁ a' ha kp => ?_) fun out h1 h2 => ?_
  · refine SrtO.pairs_sortableO (s := { s with heap := h₁ }) (k := pairK s.heap) (by omega) (fun v hm => (hp v hm).keeps fun b o e _ => (kp b o e).2) fun o e => ?_
    have e' : some o = some (seqObj "list" its.toArray 0) := e.symm.trans ha
    cases e'
    intro c
    exact absurd (Value.type.inj c) (by decide)
  · rw [if_pos rfl] at h2 ⊢
    have pm : out.reverse.Perm its := (List.reverse_perm _).trans (h2.perm.trans (List.reverse_perm _))
    have h3 : ∀ u ∈ out.reverse, ∃ a, u = Value.ref a := fun u hu => e2 u (pm.mem_iff.mp hu)
    obtain ⟨ep, he'⟩ := PyProof.Rows.sortedAll_at s.heap its out.toArray.reverse
    have e0 : out.toArray.reverse = out.reverse.toArray := by simp
    have pL : (out.reverse.map fun u => (backV u, pairK s.heap u)).Perm L := by
      conv => rhs; rw [eL]
      exact pm.map _
    have f1 : (out.reverse.map fun u => (backV u, pairK s.heap u)).map (·.1) = out.reverse.map backV := by rw [List.map_map]; rfl
    have f2 : (out.reverse.map fun u => (backV u, pairK s.heap u)).map (·.2) = out.reverse.map (pairK s.heap) := by rw [List.map_map]; rfl
    have srt : Desc ((out.reverse.map fun u => (backV u, pairK s.heap u)).map (·.2)) := by
      rw [f2]
      exact List.pairwise_map.mpr (List.pairwise_reverse.mpr h1)
    have := q _ (s.heap.objs.size + 1) pL srt (I.hok.fresh (Nat.le_succ _))
    rw [f1] at this
    refine ⟨.ref _, upd H (s.heap.objs.size + 1) (.lst (out.reverse.map backV)), I.laid (t' := s.toks) (fun _ _ => PyProof.Rows.sortedAll_old) (Nat.le_succ _) ⟨?_, out.reverse, ep, vals_back h3, by rw [← e0]; exact he'⟩, rfl, this⟩
    rw [List.length_map, pm.length_eq]
    have := rv.length
    omega
end
end L2
namespace DL
open PySem PySem.Spec PyProof.Rows L2
section
variable {X : Cx} {g : Gx} {e : En} {W : WX} {pos p kpos cp : Pos} {a : Expr} {ua : DA}
abbrev pii (p : Int × Int) : D := .tup [.int p.1, .int p.2]
theorem rep_pii {g : Gx} {H : Hp} {v : V} {p : Int × Int} (h : Rep g H v (pii p)) : ∃ t, v = .ref t ∧ SqT g.K H t [.int p.1, .int p.2] := by
  obtain ⟨a, xs, rfl, hs, hr⟩ := h
  match xs, hr with
  | [x, y], ⟨h1, h2, _⟩ =>
    have h1 : x = .int p.1 := h1
    have h2 : y = .int p.2 := h2
    subst h1; subst h2
    exact ⟨a, rfl, SqT.of hs⟩
theorem reps_zip {g : Gx} {H : Hp} : ∀ {xs : List V} {ps : List (Int × Int)}, Reps g H xs (ps.map pii) → (xs.zip ps).map (·.1) = xs ∧ (xs.zip ps).map (·.2) = ps ∧ ∀ x ∈ xs.zip ps, Rep g H x.1 (pii x.2) := by
  intro xs
  induction xs with
  | nil => 
    intro ps h
    cases ps with
    | nil => exact ⟨rfl, rfl, fun _ h => absurd h (by simp)⟩
    | cons => exact h.elim
  | cons v vs ih =>
    intro ps h
    cases ps with
    | nil => exact h.elim
    | cons p ps =>
      obtain ⟨i1, i2, i3⟩ := ih h.2
      refine ⟨by rw [List.zip_cons_cons, List.map_cons, i1], by rw [List.zip_cons_cons, List.map_cons, i2], fun x hx => ?_⟩
      rw [List.zip_cons_cons] at hx
      rcases List.mem_cons.mp hx with rfl | hx
      · exact h.1
      · exact i3 x hx
theorem reps_of {g : Gx} {H : Hp} : ∀ (L : List (V × (Int × Int))), (∀ x ∈ L, Rep g H x.1 (pii x.2)) → Reps g H (L.map (·.1)) ((L.map (·.2)).map pii)
  | [], _ => trivial
  | x :: L, h => ⟨h x List.mem_cons_self, reps_of L fun y hy => h y (List.mem_cons_of_mem _ hy)⟩
def bSortedPR : DBiM := fun ds S k => ∃ (d : D) (ps : List (Int × Int)), ds = [d] ∧ lstOrScr S d = some (ps.map pii) ∧ ∀ qs : List (Int × Int), qs.Perm ps → Desc qs → k (qs.map pii) S
@[simp] theorem q_bSortedPR : type_of% @DL.bSortedPR.eq_1 := @DL.bSortedPR.eq_1
theorem dm_sortPR {j : _} (C : Cxt X g e W) (hg : Gl X "sorted") (hm : g.mg "sorted" = none) (ha : PA X [a] (liftA g e W ua))
    (he : backTo pos (starEach [a] X.env) = (false, eval a X.env) :: backTo pos (starEach [] X.env) := by rfl) (hpl : (backTo pos (starEach [a] X.env)).any (·.1) = false := by rfl)
    (hall : (backToKw pos (keywordEach [⟨some "reverse", .Constant (.bool true) j cp, kpos⟩] X.env)).all (·.1.isSome) = true := by rfl) (hnone : (backToKw pos (keywordEach [⟨some "reverse", .Constant (.bool true) j cp, kpos⟩] X.env)).any (·.1.isNone) = false := by rfl) (hks : (backToKw pos (keywordEach [⟨some "reverse", .Constant (.bool true) j cp, kpos⟩] X.env)).filterMap (·.1) = [Str.ofString "reverse"] := by rfl) :
    PE X (.Call (.Name "sorted" p) [a] [⟨some "reverse", .Constant (.bool true) j cp, kpos⟩] pos) (liftM g e W (dBiM bSortedPR ua)) :=
  (pe_callBK (cr_sortedPR (X := X)) hg (by rw [C.mg]; exact hm) PyProof.Rows.boot_sorted ha (pk_cons pe_bl pk_nil) (by decide) (by decide) he hpl hall hnone hks).imp fun σ H Q ⟨ρ, Hi, S, k, E, i, sl, q, hk, hx⟩ => by
    refine ⟨ρ, Hi, S, _, E, i, sl, q, fun ds S1 vs H1 Hi1 i1 s1 r1 q1 => ?_, hx⟩
    obtain ⟨d, ps, rfl, hd, q1⟩ := q1
    obtain ⟨v, rfl, rv⟩ := r1.one
    obtain ⟨a, us, rfl, h1, h2⟩ := lsOf_rep i1.ok rv hd
    obtain ⟨z1, z2, z3⟩ := reps_zip h2
    show rSortedPR X.K _ _ H1 Q
    rw [C.K]
    refine ⟨a, us.zip ps, rfl, rfl, by rw [z1]; exact h1, fun x hx => ?_, fun L' p hp hs hn => ?_⟩
    · obtain ⟨t, e1, e2⟩ := rep_pii (z3 x hx)
      exact ⟨t, e1, Same.tup i1.ok.sub e2⟩
    · have rl := reps_of (g := g) (H := Hi1) L' fun x hx => z3 x (hp.subset hx)
      have pp : (L'.map (·.2)).Perm ps := by rw [← z2]; exact hp.map _
      obtain ⟨n2, i2⟩ := isNewC i1 hn rl
      exact hk _ S1 p _ Hi1 n2 i2 s1 (q1 _ pp hs)
end
end DL
end
/-! ## DL28 -/
section
set_option Elab.async false
set_option linter.all false
set_option maxRecDepth 100000
set_option maxHeartbeats 4000000
/-! a in b, b of an own class -/
namespace DL
open PySem PySem.Spec PyProof.Rows L2
section
variable {X : Cx} {g : Gx} {e : En} {W : WX} {a b : Expr} {pos : Pos} {f f' : DE} {k : Nat} {ms : List (Nat × DFn)}
def dInO (neg : Bool) (ms : List (Nat × DFn)) (fa fb : DE) : DE := fun ρ S k E => fa ρ S (fun x S1 => fb ρ S1 (fun y S2 => ∃ c fs wf, insOf S2 y = some (c, fs) ∧ ms.lookup c = some wf ∧ wf [y, x] S2 (fun r S3 => ∃ b, r = .bl b ∧ k (.bl (neg ^^ b)) S3) E) E) E
theorem contains_O {prog : Program} {w : World} {A : Around} {E : Value → Shared → Prop} {s : Shared} {K : PySem.W.Frag} {x C fa : Addr} {ox : Obj} {od : Option Obj} {v : Value} {Q : Bool → Shared → Prop} (X : K.In s.heap) (I : PySem.W.InstAt s.heap x ox C od) (hs : PySem.W.findIn K (.ref C) "__contains__" = some (some (.ref fa))) (hf : PySem.W.isFn K (.ref fa) = true)
    (h : wpAny (model prog w) A (call (.ref fa) [.ref x, v]) (fun r s' => wpAny (model prog w) A (truthy r) Q E s') E s) : wpAny (model prog w) A (contains (.ref x) v) Q E s := by
  unfold contains
  refine wpAny_holding (wpAny_bind (wpAny_bind (I.type.here ((PySem.W.looks_findIn X hs).here ?_))))
  rw [if_neg (by simp)]
  exact wpAny_bind (PySem.W.unlessNone_K X I hs hf h)
theorem inO_run {op : CmpOp} {neg : Bool} (hop : (op = .In ∧ neg = false) ∨ (op = .NotIn ∧ neg = true)) (C : Cxt X g e W) (B : SpcOk g X.prog X.w X.base k "__contains__" ms) (hr : Room k X.A) (ha : PE X a (lift g e W f)) (hb : PE X b (lift g e W f'))
    {pins : List (Addr × Obj)} {s : Shared} {σ : L2.St} {H : Hp} {Q : VK} (I : Inv X pins σ H s) (h : lift g e W (dInO neg ms f f') σ H Q) :
    wpAny (model X.prog X.w) X.A (eval a X.env) (fun v s1 => wpAny (model X.prog X.w) X.A (eval b X.env) (fun u s2 => wpAny (model X.prog X.w) X.A (compareOp op v u) (fun r s' => ∃ z, r = .bool z ∧ EP X pins σ Q (.bool z) s') X.xe s2) X.xe s1) X.xe s := by
  obtain ⟨ρ, Hi, S, k1, E, i, sl, q, hQ, hx⟩ := h
  obtain ⟨ko, hko⟩ : ∃ ko : D → D → Sto → Prop, ko = fun x y S2 => ∃ c fs wf, insOf S2 y = some (c, fs) ∧ ms.lookup c = some wf ∧ wf [y, x] S2 (fun r S3 => ∃ b, r = .bl b ∧ k1 (.bl (neg ^^ b)) S3) E := ⟨_, rfl⟩
  have q : f ρ S (fun x S1 => f' ρ S1 (fun y S2 => ko x y S2) E) E := by rw [hko]; exact q
  refine thn (ha.run pins s σ H (fun x H1 => ∃ dx S1 Hi1, Is g e H1 Hi1 S1 ∧ Same Hi Hi1 ∧ Rep g Hi1 x dx ∧ f' ρ S1 (fun y S2 => ko dx y S2) E) I
    ⟨ρ, Hi, S, _, E, i, sl, q, fun d S' v H' Hi' i' s' r' q' => ⟨d, S', Hi', i', s', r', q'⟩, hx⟩) fun v s1 ⟨x, H1, I1, rx, dx, S1, Hi1, i1, s1', r1, q1⟩ => ?_
  refine thn (hb.run pins s1 σ H1 (fun y H2 => ∃ dy S2 Hi2, Is g e H2 Hi2 S2 ∧ Same Hi1 Hi2 ∧ Rep g Hi2 y dy ∧ ko dx dy S2) I1
    ⟨ρ, Hi1, S1, _, E, i1, sl.mono s1', q1, fun d S' v H' Hi' i' s' r' q' => ⟨d, S', Hi', i', s', r', q'⟩, hx.mono s1'⟩) fun u s2 ⟨y, H2, I2, ry, dy, S2, Hi2, i2, s2', r2, q2⟩ => ?_
  rw [hko] at q2
  obtain ⟨c, fs, wf, h1, h3, q2⟩ := q2
  obtain ⟨py, dy1, vs2, rfl, e2, _⟩ := insOf_rep i2.ok r2 h1
  obtain rfl : u = Value.ref py := ry
  obtain ⟨fa, hs, hf, F⟩ := B.ok c wf h3
  obtain ⟨_, O2, _⟩ := ins_get I2.hok e2
  obtain ⟨od2, J2, _⟩ := O2.look
  have hkk : g.K.In s2.heap := by rw [← C.K]; exact I2.kIn
  have rr : Reps g Hi2 [V.ref py, x] [dy, dx] := ⟨r2, r1.mono s2', trivial⟩
  have kk : KOk g e Hi2 (fun r S3 => ∃ b, r = .bl b ∧ k1 (.bl (neg ^^ b)) S3) (fun v H' => ∃ b, v = .bl b ∧ Q (.bl (neg ^^ b)) H') := fun d S' v H' Hi' i' s' r' ⟨z, ed, q'⟩ => by
    subst ed
    exact ⟨z, r', hQ (.bl (neg ^^ z)) S' _ H' Hi' i' ((s1'.trans s2').trans s') rfl q'⟩
  have run := run_d (us := [.ref py, v]) (vs := [.ref py, x]) (ds := [dy, dx]) C F hr I2 (.cons rfl (.cons rx .nil)) i2 rr q2 kk ((hx.mono s1').mono s2')
  have cont : ∀ (neg' : Bool), neg' = neg → wpAny (model X.prog X.w) X.A (contains (.ref py) v) (fun bb s' => EP X pins σ Q (.bool (neg' ^^ bb)) s') X.xe s2 := by
    rintro neg' rfl
    refine contains_O hkk J2 hs hf (wpAny_mono run (fun r s' z => ?_) fun _ _ z => z)
    obtain ⟨v3, H3, I3, r3, z, ev, qz⟩ := z
    subst ev
    obtain rfl : r = Value.bool z := r3
    exact wpAny_truthy_bool ⟨.bl (neg' ^^ z), H3, I3, rfl, qz⟩
  rcases hop with ⟨rfl, rfl⟩ | ⟨rfl, rfl⟩
  · refine wpAny_bind (wpAny_mono (cont false rfl) (fun bb s' z => wpAny_pure ⟨bb, rfl, by simpa using z⟩) fun _ _ z => z)
  · refine wpAny_bind (wpAny_mono (cont true rfl) (fun bb s' z => wpAny_pure ⟨!bb, rfl, by simpa using z⟩) fun _ _ z => z)
theorem de_inO (C : Cxt X g e W) (B : SpcOk g X.prog X.w X.base k "__contains__" ms) (hr : Room k X.A) (ha : PE X a (lift g e W f)) (hb : PE X b (lift g e W f')) (hm : behindInMarks .In b = false := by with_unfolding_all rfl) : PE X (.Compare a [.In] [b] pos) (lift g e W (dInO false ms f f')) :=
  ⟨fun pins s σ H Q I h => wpAny_Compare1 (wpAny_mono (inO_run (op := .In) (.inl ⟨rfl, rfl⟩) C B hr ha hb I h) (fun v s1 z => wpAny_mono z (fun u s2 z2 => wpAny_mono z2 (fun r s3 ⟨q, er, z3⟩ => by subst er; exact z3) fun _ _ y => y) fun _ _ y => y) fun _ _ y => y) hm⟩
theorem de_ninO (C : Cxt X g e W) (B : SpcOk g X.prog X.w X.base k "__contains__" ms) (hr : Room k X.A) (ha : PE X a (lift g e W f)) (hb : PE X b (lift g e W f')) (hm : behindInMarks .NotIn b = false := by with_unfolding_all rfl) : PE X (.Compare a [.NotIn] [b] pos) (lift g e W (dInO true ms f f')) :=
  ⟨fun pins s σ H Q I h => wpAny_Compare1 (wpAny_mono (inO_run (op := .NotIn) (.inr ⟨rfl, rfl⟩) C B hr ha hb I h) (fun v s1 z => wpAny_mono z (fun u s2 z2 => wpAny_mono z2 (fun r s3 ⟨q, er, z3⟩ => by subst er; exact z3) fun _ _ y => y) fun _ _ y => y) fun _ _ y => y) hm⟩
theorem dt_inO (C : Cxt X g e W) (B : SpcOk g X.prog X.w X.base k "__contains__" ms) (hr : Room k X.A) (ha : PE X a (lift g e W f)) (hb : PE X b (lift g e W f')) (hm : behindInMarks .In b = false := by with_unfolding_all rfl) : PT X (.Compare a [.In] [b] pos) (liftT g e W (dTst (dInO false ms f f'))) :=
  ⟨fun pins s σ H Q I h => wpAny_isTrue_Compare1 (wpAny_mono (inO_run (op := .In) (.inl ⟨rfl, rfl⟩) C B hr ha hb I (liftTst (f := dInO false ms f f') σ H Q h)) (fun v s1 z => wpAny_mono z (fun u s2 z2 => wpAny_mono z2 (fun r s3 ⟨q, er, z3⟩ => by subst er; exact bl_of z3 fun H' I' qq => ⟨H', I', qq⟩) fun _ _ y => y) fun _ _ y => y) fun _ _ y => y) hm⟩
theorem dt_ninO (C : Cxt X g e W) (B : SpcOk g X.prog X.w X.base k "__contains__" ms) (hr : Room k X.A) (ha : PE X a (lift g e W f)) (hb : PE X b (lift g e W f')) (hm : behindInMarks .NotIn b = false := by with_unfolding_all rfl) : PT X (.Compare a [.NotIn] [b] pos) (liftT g e W (dTst (dInO true ms f f'))) :=
  ⟨fun pins s σ H Q I h => wpAny_isTrue_Compare1 (wpAny_mono (inO_run (op := .NotIn) (.inr ⟨rfl, rfl⟩) C B hr ha hb I (liftTst (f := dInO true ms f f') σ H Q h)) (fun v s1 z => wpAny_mono z (fun u s2 z2 => wpAny_mono z2 (fun r s3 ⟨q, er, z3⟩ => by subst er; exact bl_of z3 fun H' I' qq => ⟨H', I', qq⟩) fun _ _ y => y) fun _ _ y => y) fun _ _ y => y) hm⟩
end
end DL
end
/-! ## DL29 -/
section
set_option Elab.async false
set_option linter.all false
set_option maxRecDepth 100000
set_option maxHeartbeats 4000000
/-! xs[::k], k told as 1 or -1 -/
namespace L2
open PySem PySem.Spec PyProof.Rows
theorem pick_one (items : Array Value) : slicePick items none none (some 1) = items := by
  have e : slicePick items none none (some 1) = slicePick items none none none := by
    unfold slicePick sliceBounds
    simp
  rw [e, slicePick_all]
section
variable {X : Cx} {e st : Expr} {te : TE} {ts : TO} {p3 pos : Pos}
def tStepL (K : PySem.W.Frag) (te : TE) (ts : TO) : TE := fun σ H Q => te σ H fun x H1 => ts σ H1 fun o H2 => ∃ a xs ys, x = .ref a ∧ SqL K H2 a xs ∧ ((o = some 1 ∧ ys = xs) ∨ (o = some (-1) ∧ ys = xs.reverse)) ∧ ∀ p, H2 p = none → Q (.ref p) (upd H2 p (.lst ys))
theorem pe_stepL (he : PE X e te) (hst : PO X (some st) ts) : PE X (.Subscript e (.Slice none none (some st) p3) pos) (tStepL X.K te ts) := by
  refine ⟨fun pins s σ H Q I h => ?_⟩
  refine Subscript_ (thn (he.run pins s σ H _ I h) fun v s1 ⟨x, H1, I1, r1, q1⟩ => ?_)
  refine wpAny_Slice (thn (po_none.run pins s1 σ H1 (fun o H2 => o = none ∧ H2 = H1) I1 ⟨rfl, rfl⟩) fun vl s2 ⟨l, H2, I2, pl, el, e2⟩ => ?_)
  subst el e2
  refine thn (po_none.run pins s2 σ H2 (fun o H3 => o = none ∧ H3 = H2) I2 ⟨rfl, rfl⟩) fun vu s3 ⟨u, H3, I3, pu, eu, e3⟩ => ?_
  subst eu e3
  refine thn (hst.run pins s3 σ H3 _ I3 q1) fun vs s4 ⟨o, H4, I4, ps, q2⟩ => ?_
  obtain ⟨a, xs, ys, ex, hx, ho, q⟩ := q2
  subst ex
  cases r1
  have I5 : Inv X pins σ H4 { s4 with heap := s4.heap.push { cls := .type "slice", data := .fields #[vl, vu, vs] } } := I4.kept (t' := s4.toks) fun b ob q => Heap.get?_push_of_some _ q
  obtain ⟨its, r, ht, hz⟩ := I5.list hx
  have hlen := r.length
  show wpAny (model X.prog X.w) X.A (subscriptTail e (.Slice none none (some st) p3) (.ref a) (.ref s4.heap.objs.size)) (EP X pins σ Q) X.xe { s4 with heap := s4.heap.push { cls := .type "slice", data := .fields #[vl, vu, vs] } }
  refine tail_any (ops := [.ref a, .ref s4.heap.objs.size]) ht.isList.typeIs (PySem.slot_list_getitem.lookup) ?_ (by with_unfolding_all rfl)
  refine wpAny_getItem_list_slice ht.isList (Heap.IsSliceOf.new _ vl vu vs) pl pu ps (by rcases ho with ⟨e1, _⟩ | ⟨e1, _⟩ <;> rw [e1] <;> decide) ?_ (by rw [List.size_toArray]; omega)
  rcases ho with ⟨e1, e2⟩ | ⟨e1, e2⟩
  · subst e1 e2
    rw [pick_one]
    refine ⟨.ref _, _, I5.laid (t' := s4.toks) (o := .lst ys) (fun b ob q => Heap.get?_push_of_some _ q) (Nat.le_refl _) ?_, rfl, q _ (I5.hok.fresh (Nat.le_refl _))⟩
    exact ⟨hz, _, 0, r, Heap.get?_push_size _ rfl⟩
  · subst e1 e2
    rw [PySem.W.krv_pick]
    refine ⟨.ref _, _, I5.laid (t' := s4.toks) (o := .lst xs.reverse) (fun b ob q => Heap.get?_push_of_some _ q) (Nat.le_refl _) ?_, rfl, q _ (I5.hok.fresh (Nat.le_refl _))⟩
    exact ⟨by rw [List.length_reverse]; exact hz, _, 0, r.reverse, Heap.get?_push_size _ rfl⟩
end
end L2
namespace DL
open PySem PySem.Spec PyProof.Rows L2
section
variable {X : Cx} {g : Gx} {e : En} {W : WX} {a st : Expr} {pos p3 : Pos} {f : DE} {l : DO}
def dStepL (f : DE) (st : DO) : DA := fun ρ S k E => f ρ S (fun x S1 => st ρ S1 (fun o S2 => ∃ xs ys, lstOrScr S2 x = some xs ∧ ((o = some 1 ∧ ys = xs) ∨ (o = some (-1) ∧ ys = xs.reverse)) ∧ k ys S2) E) E
@[simp] theorem q_dStepL : type_of% @DL.dStepL.eq_1 := @DL.dStepL.eq_1
theorem dm_stepL (C : Cxt X g e W) (ha : PE X a (lift g e W f)) (hs : PO X (some st) (liftO g e W l)) : PE X (.Subscript a (.Slice none none (some st) p3) pos) (liftM g e W (dStepL f l)) :=
  (pe_stepL ha hs).imp fun σ H Q ⟨ρ, Hi, S, k, E, i, sl, q, hk, hx⟩ => by
    refine ⟨ρ, Hi, S, _, E, i, sl, q, fun x S1 v H1 Hi1 i1 s1 r1 q1 => ?_, hx⟩
    refine ⟨ρ, Hi1, S1, _, E, i1, sl.mono s1, q1, fun o S2 H2 Hi2 i2 s2 q2 => ?_, hx.mono s1⟩
    obtain ⟨xs, ys, hxs, ho, q3⟩ := q2
    obtain ⟨b, us, rfl, h1, h2⟩ := lsOf_rep i2.ok (r1.mono s2) hxs
    rcases ho with ⟨e1, e2⟩ | ⟨e1, e2⟩
    · subst e2
      refine ⟨b, us, us, rfl, by rw [C.K]; exact h1, .inl ⟨e1, rfl⟩, fun p hp => ?_⟩
      obtain ⟨n3, i3⟩ := isNewC i2 hp h2
      exact hk _ S2 p _ Hi2 n3 i3 (s1.trans s2) q3
    · subst e2
      refine ⟨b, us, us.reverse, rfl, by rw [C.K]; exact h1, .inr ⟨e1, rfl⟩, fun p hp => ?_⟩
      obtain ⟨n3, i3⟩ := isNewC i2 hp h2.reverse
      exact hk _ S2 p _ Hi2 n3 i3 (s1.trans s2) q3
end
end DL
end
/-! ## DL30 -/
section
set_option Elab.async false
set_option linter.all false
set_option maxRecDepth 100000
set_option maxHeartbeats 4000000
/-! repr of a bool -/
namespace L2
open PySem PySem.Spec PyProof.Rows
theorem cr_reprB {X : Cx} : CallR X (.builtin "repr") (fun xs H Q => ∃ b : Bool, xs = [.bl b] ∧ Q (.str (if b = true then "True" else "False")) H) := by
  intro pins s σ H xs us Q I r h
  obtain ⟨b, rfl, q⟩ := h
  obtain ⟨u, rfl, e⟩ := vals1 r
  obtain rfl : u = Value.bool b := e
  exact PySem.P.repr_of_bool ⟨.str _, H, I.tok _, ⟨_, rfl⟩, q⟩
end L2
namespace DL
open PySem PySem.Spec PyProof.Rows L2
def bReprB : DBi := fun ds S k => ∃ b : Bool, ds = [.bl b] ∧ k (.str (if b = true then "True" else "False")) S
@[simp] theorem q_bReprB : type_of% @DL.bReprB.eq_1 := @DL.bReprB.eq_1
theorem ok_reprB {g : Gx} {e : En} : BiOk g e (fun xs H Q => ∃ b : Bool, xs = [V.bl b] ∧ Q (.str (if b = true then "True" else "False")) H) bReprB := by
  rintro H Hi S vs ds k Q i r ⟨b, rfl, q⟩ hk
  obtain ⟨v, rfl, rv⟩ := r.one
  have rv : v = V.bl b := rv
  subst rv
  exact ⟨b, rfl, hk (.str (if b = true then "True" else "False")) S _ H Hi i (Same.refl _) rfl q⟩
end DL
end
/-! ## DL31 -/
section
set_option Elab.async false
set_option linter.all false
set_option maxRecDepth 100000
set_option maxHeartbeats 4000000
/-! x(a, ..), x a local name that holds an own object -/
namespace DL
open PySem PySem.Spec PyProof.Rows L2
theorem fnIn_of {K : PySem.W.Frag} {x qual : Str} {params : Arguments} {body : List Stmt} {scope : Scope} {dvs : List V} {kws : List (Str × V)} {f : Addr} {fd : FuncData} (F : FunD K x qual params body scope dvs kws f fd) : PySem.W.fnIn K f = true := by
  obtain ⟨oc, od, dV, kV, doc, pm, an, cdv, ct, osl, e, lk, _⟩ := F.ex
  unfold PySem.W.fnIn
  rw [lk]
structure CalOk (g : Gx) (P : Program) (w : World) (base : Heap) (k : Nat) (ms : List (Nat × DFn)) : Prop where
  ok : ∀ c wf, ms.lookup c = some wf → ∃ f, PySem.W.findIn g.K (.ref (g.ca c)) "__call__" = some (some (.ref f)) ∧ PySem.W.isFn g.K (.ref f) = true ∧ PySem.W.fnIn g.K f = true ∧ DFnR g P w base k f wf
theorem CalOk.one {g : Gx} {P : Program} {w : World} {base : Heap} {k : Nat} {c0 : Nat} {w0 : DFn} (h : ∃ f, PySem.W.findIn g.K (.ref (g.ca c0)) "__call__" = some (some (.ref f)) ∧ PySem.W.isFn g.K (.ref f) = true ∧ PySem.W.fnIn g.K f = true ∧ DFnR g P w base k f w0) : CalOk g P w base k [(c0, w0)] :=
  ⟨fun c wf hl => by
    by_cases e : c = c0
    · subst e
      simp at hl
      subst hl
      exact h
    · have b : (c == c0) = false := by simpa using e
      simp [List.lookup, b] at hl⟩
/-- an own object is called: what its keeper is, and the rest -/
theorem callWith_own {M : Model} {A : Around} {E : Value → Shared → Prop} {s : Shared} {K : PySem.W.Frag} {env : PySem.Env} {pos : Pos} {x C : Addr} {Q : Value → Shared → Prop} {e : Expr} {rest : List Expr} 
    (h : wpAny M A (spliced (backTo pos (starEach (e :: rest) env))) (fun vs s' => (∃ ox od, ox.data = .plain ∧ PySem.W.kco_P K x C ox od s'.heap) ∧ wpAny M A (call (.ref x) vs) Q E s') E s)
    (he : starEach (e :: rest) env = (false, eval e env) :: starEach rest env) (hpl : (backTo pos (starEach rest env)).any (·.1) = false) : wpAny M A (callWith pos (.ref x) [] (backTo pos (starEach (e :: rest) env)) []) Q E s := by
  rw [he] at h ⊢
  have hp : (((false, (eval e env : Sem Value)) :: backTo pos (starEach rest env)).any (·.1) || ([] : List (Option Str × Sem Value)).any (·.1.isNone)) = false := by
    show ((false || (backTo pos (starEach rest env)).any (·.1)) || false) = false
    rw [hpl]; rfl
  have ev : wpAny M A (evalArgs (.ref x) true ((false, eval e env) :: backTo pos (starEach rest env)) []) (fun ar s' => (∃ ox od, ox.data = .plain ∧ PySem.W.kco_P K x C ox od s'.heap) ∧ wpAny M A (call (.ref x) ([] ++ ar.pos) ar.kw) Q E s') E s := Calls.evalArgs_plain h
  unfold callWith
  refine wpAny_bind (wpAny_holding (wpAny_mono ev (fun ar s' hs => ?_) fun _ _ z => z))
  obtain ⟨⟨ox, od, hd, hP⟩, hc⟩ := hs
  refine wpAny_bind (wpAny_standAt ?_)
  have lk := PySem.W.kco_keeper (M := M) hP.2 hd
  simp only [show backTo pos ((false, eval e env) :: starEach rest env) = (false, eval e env) :: backTo pos (starEach rest env) from rfl, hp]
  refine wpAny_bind (lk.here ?_)
  exact wpAny_bind (wpAny_mono (wpAny_operateT hc) (fun r s2 hr => wpAny_bind (wpAny_holding (wpAny_point (wpAny_pure hr)))) fun _ _ z => z)
section
variable {X : Cx} {g : Gx} {e : En} {W : WX} {a : Expr} {pos p : Pos} {f : DE} {u : DA} {es : List Expr} {k : Nat} {x : Str} {ms : List (Nat × DFn)}
def dCallO (ms : List (Nat × DFn)) (f : DE) (u : DA) : DE := fun ρ S k E => f ρ S (fun d S1 => ∃ c fs wf, insOf S1 d = some (c, fs) ∧ ms.lookup c = some wf ∧ u ρ S1 (fun ds S2 => (∃ fs', insOf S2 d = some (c, fs')) ∧ wf (d :: ds) S2 k E) E) E
@[simp] theorem q_dCallO : type_of% @DL.dCallO.eq_1 := @DL.dCallO.eq_1
theorem de_callO (C : Cxt X g e W) (B : CalOk g X.prog X.w X.base k ms) (hr : Room k X.A) (hf : PE X (.Name x p) (lift g e W f)) (ha : PA X (a :: es) (liftA g e W u))
    (he : starEach (a :: es) X.env = (false, eval a X.env) :: starEach es X.env := by rfl) (hpl : (backTo pos (starEach es X.env)).any (·.1) = false := by rfl) :
    PE X (.Call (.Name x p) (a :: es) [] pos) (lift g e W (dCallO ms f u)) := by
  refine ⟨fun pins s σ H Q I ⟨ρ, Hi, S, k1, E, i, sl, q, hQ, hx⟩ => ?_⟩
  refine wpAny_Call_Name_kw (thn (hf.run pins s σ H (fun x H1 => ∃ c dx vs py wf d S1 Hi1, x = .ref py ∧ H1 py = some (.ins (g.ca c) dx vs) ∧ ms.lookup c = some wf ∧ Is g e H1 Hi1 S1 ∧ Same Hi Hi1 ∧ Rep g Hi1 (.ref py) d ∧ u ρ S1 (fun ds S2 => (∃ fs', insOf S2 d = some (c, fs')) ∧ wf (d :: ds) S2 k1 E) E) I
    ⟨ρ, Hi, S, _, E, i, sl, q, fun d S1 v H1 Hi1 i1 s1 r1 ⟨c, fs, wf, h1, h2, q1⟩ => ?_, hx⟩) fun v s1 ⟨xv, H1, I1, rx, c, dx, vs, py, wf, d, S1, Hi1, ex, ea, hw, i1, s1', r1, q1⟩ => ?_)
  · obtain ⟨py, dx, vs, rfl, h4, h5⟩ := insOf_rep i1.ok r1 h1
    exact ⟨c, dx, vs, py, wf, d, S1, Hi1, rfl, h4, h2, i1, s1, r1, q1⟩
  · subst ex
    obtain rfl : v = Value.ref py := rx
    obtain ⟨fa, hs, hfn, hfi, F⟩ := B.ok c wf hw
    obtain ⟨_, O1, _⟩ := ins_get I1.hok ea
    obtain ⟨od1, J1, _⟩ := O1.look
    have hk1 : g.K.In s1.heap := by rw [← C.K]; exact I1.kIn
    refine callWith_own (K := g.K) (C := g.ca c) (thn (ha.run pos pins s1 σ H1 _ I1 (liftA_of i1 (sl.mono s1') q1 (hx.mono s1'))) fun us s2 ⟨vs2, H2, I2, r2, ds, S2, Hi2, i2, s2', r2', ⟨fs', hi⟩, q2⟩ => ?_) he hpl
    have r3 := r1.mono s2'
    obtain ⟨py2, dx2, vs3, e3, ea2, _⟩ := insOf_rep i2.ok r3 hi
    cases e3
    obtain ⟨_, O2, _⟩ := ins_get I2.hok ea2
    obtain ⟨od2, J2, _⟩ := O2.look
    have hk2 : g.K.In s2.heap := by rw [← C.K]; exact I2.kIn
    refine ⟨⟨_, some od2, rfl, hk2, J2⟩, wpAny_call (PySem.W.kco_code hk2 J2 rfl hs hfn hfi ?_)⟩
    exact run_g (us := .ref py :: us) (vs := .ref py :: vs2) (FnR.to C F) hr C.gd (C.pass σ) I2 (.cons rfl r2) (spD_of (ds := d :: ds) i2 ⟨r3, r2'⟩ q2 (KOk.mono hQ (s1'.trans s2')) ((hx.mono s1').mono s2'))
end
end DL
end
/-! ## DL32 -/
section
set_option Elab.async false
set_option linter.all false
set_option maxRecDepth 100000
set_option maxHeartbeats 4000000
/-! list(x.m()), m a generator that yields from its object's tuple -/
namespace DL
open PySem PySem.Spec PyProof.Rows L2 GenW
def spY (g : Gx) (c i : Nat) : SpG := fun vs H cont _ => ∃ a dx fs t xs, vs = [.ref a] ∧ H a = some (.ins (g.ca c) dx fs) ∧ fs.lookup (g.an i) = some (.ref t) ∧ H t = some (.tup xs) ∧ xs.length ≤ sizeLine ∧ cont xs H
theorem gfn_y {g : Gx} {P : Program} {w : World} {base : Heap} {c i k : Nat} {x qual n a : Str} {params : Arguments} {scope : Scope} {kws : List (Str × V)} {f : Addr} {fd : FuncData} {p1 p2 p3 p4 : Pos}
    (F : FunD g.K x qual params [.Expr (.YieldFrom (.Attribute (.Name n p1) a p2) p3) p4] scope [] kws f fd) (Sc : GScope [n] [n] scope) (hc : Cls g.K (g.ca c)) (hn : NoAttr g.K (g.ca c) a) (ha : g.an i = a)
    (hd : (n == ("__debug__" : Str)) = false) (hcd : (n == ("__classdict__" : Str)) = false) : GFn P w g.K g.mg base (k + 1) f fd [n] (spY g c i) := by
  obtain ⟨oc, od, dV, kV, doc, pm, an, cdv, ct, osl, rfl, lk, hcdv, _, _⟩ := F.ex
  refine gfn_of lk hcdv Sc (fun vs H Q E h => ?_) fun A outer s H vs Q E pn hr h => ?_
  · obtain ⟨_, _, _, _, _, rfl, _⟩ := h
    rfl
  · obtain ⟨b, dx, fs, t, xs, rfl, h1, h2, h3, h4, h5⟩ := h
    have hv : Vis scope n := by
      rcases Sc.par n (by simp) with z | z
      · exact .inl z
      · exact .inr (.inl z)
    refine ⟨tGThen (tGFrom (tYfTup (tFld g.K (tVar 0) a))) tG0, gss_cons (gs_yieldFrom (yf_tup (pe_fld (pe_var rfl hv hd hcd) rfl)) hr.hd ?_) gss_nil, ?_⟩
    · show (scope.kind == .module && _) = false
      rw [Sc.kind]; rfl
    · refine ⟨.ref b, rfl, b, _, dx, fs, .ref t, rfl, h1, hc, hn, by rw [← ha]; exact h2, t, xs, rfl, h3, ?_⟩
      exact ⟨by simpa using h4, by simpa [tG0] using h5⟩
structure GenM (g : Gx) (P : Program) (w : World) (base : Heap) (k c i : Nat) (m : Str) : Prop where
  no : ∀ j, j < g.nA → g.an j ≠ m
  ok : ∃ f fd n, Cls g.K (g.ca c) ∧ Meth g.K (g.ca c) m f ∧ GFn P w g.K g.mg base k f fd [n] (spY g c i) ∧ Binds g.K fd [n] []
theorem repF_look {g : Gx} {H : Hp} {i : Nat} (hi : i < g.nA) : ∀ {vs : List (Str × V)} {fs : List (Nat × D)} {d : D}, RepF g H vs fs → fs.lookup i = some d → ∃ v, vs.lookup (g.an i) = some v ∧ Rep g H v d
  | [], [], _, _, h => by simp at h
  | (n, v) :: vs, (j, d') :: fs, d, ⟨h1, h2, h3, h4⟩, h => by
    by_cases e : i = j
    · subst e
      simp at h
      subst h
      exact ⟨v, by rw [h1]; simp, h3⟩
    · have b : (i == j) = false := by simpa using e
      simp [List.lookup, b] at h
      obtain ⟨u, q1, q2⟩ := repF_look hi h4 h
      have ne : g.an i ≠ n := fun z => e (g.inj i j hi h2 (z.trans h1))
      have b2 : (g.an i == n) = false := by simpa using ne
      exact ⟨u, by simp [List.lookup, b2, q1], q2⟩
  | [], _ :: _, _, h, _ => h.elim
  | _ :: _, [], _, h, _ => h.elim
section
variable {X : Cx} {g : Gx} {e : En} {W : WX} {o : Expr} {pos pos' apos p : Pos} {f : DE} {k c i : Nat} {m : Str} {pl : Sem Bool}
def dGen (c i : Nat) (f : DE) : DA := fun ρ S k E => f ρ S (fun x S1 => ∃ fs ds, insOf S1 x = some (c, fs) ∧ fs.lookup i = some (.tup ds) ∧ sz ds.length ∧ k ds S1) E
@[simp] theorem q_dGen : type_of% @DL.dGen.eq_1 := @DL.dGen.eq_1
theorem dm_listG (C : Cxt X g e W) (G : GenM g X.prog X.w X.base k c i m) (hi : i < g.nA) (hr : Room (k + 3) X.A) (hgl : Gl X "list") (hm : g.mg "list" = none) (hf : PE X o (lift g e W f))
    (ht : eval (.Call (.Attribute o m apos) [] [] pos') X.env = (do
      let ov ← eval o X.env
      standAt apos.atName
      let (f, first) ← holding [ov] (getMethod ov m pl)
      callWith pos' f first (backTo pos' (starEach [] X.env)) (backToKw pos' (keywordEach [] X.env))) := by rfl) :
    PE X (.Call (.Name "list" p) [.Call (.Attribute o m apos) [] [] pos'] [] pos) (liftM g e W (dGen c i f)) := by
  obtain ⟨fa, fd, n, hc, hme, GF, hb⟩ := G.ok
  have GF' : GFn X.prog X.w X.K X.mg X.base k fa fd [n] (spY g c i) := by rw [C.K, C.mg]; exact GF
  refine (pe_listG (E := fun _ _ _ => False) (pgen_meth0 (dvs := []) (ds := []) hf (by rw [C.K]; exact hc) (by rw [C.K]; exact hme) GF' (hr.mono (by omega)) (by rw [C.K]; exact hb) .nil ht) (fun pins σ H s ev s' I z => ?_) (fun _ _ _ h => h.elim) hr hgl (by rw [C.mg]; exact hm) (by rfl)).imp fun σ H Q ⟨ρ, Hi, S, k1, E, i1, sl, q, hk, hx⟩ => ?_
  · obtain ⟨_, _, _, _, _, _, _, _, _, _, _, _, z⟩ := z
    exact z.elim
  · refine ⟨ρ, Hi, S, _, E, i1, sl, q, fun d S1 v H1 Hi1 i2 s1 r1 ⟨fs, ds, h1, h2, h3, q1⟩ => ?_, hx⟩
    obtain ⟨b, dx, vs, rfl, h4, h5⟩ := insOf_rep i2.ok r1 h1
    obtain ⟨u, h6, t, xs, rfl, h7, h8⟩ := repF_look hi h5 h2
    refine ⟨b, dx, vs, rfl, h4, h5.no G.no, b, dx, vs, t, xs, rfl, h4, h6, i2.ok.sub _ _ h7, by rw [h8.length]; exact h3, fun p hp => ?_⟩
    obtain ⟨n3, i3⟩ := isNewC i2 hp h8
    exact hk ds S1 p _ Hi1 n3 i3 s1 q1
end
end DL
end
/-! ## DL33 -/
section
set_option Elab.async false
set_option linter.all false
set_option maxRecDepth 100000
set_option maxHeartbeats 4000000
/-! x is b, x a bool -/
namespace DL
open PySem PySem.Spec PyProof.Rows L2
theorem op_isB {X : Cx} : OpR X (compareOp .Is) (fun x y H Q => ∃ a b : Bool, x = .bl a ∧ y = .bl b ∧ Q (.bl (decide (a = b))) H) := by
  intro pins s σ H x y u v Q I rx ry h
  obtain ⟨a, b, rfl, rfl, q⟩ := h
  obtain rfl : u = Value.bool a := rx
  obtain rfl : v = Value.bool b := ry
  refine wpAny_is_plain rfl ⟨.bl (decide (a = b)), H, I, ?_, q⟩
  cases a <;> cases b <;> rfl
theorem op_notB {X : Cx} : OpR X (compareOp .IsNot) (fun x y H Q => ∃ a b : Bool, x = .bl a ∧ y = .bl b ∧ Q (.bl (!decide (a = b))) H) := by
  intro pins s σ H x y u v Q I rx ry h
  obtain ⟨a, b, rfl, rfl, q⟩ := h
  obtain rfl : u = Value.bool a := rx
  obtain rfl : v = Value.bool b := ry
  refine wpAny_isNot_plain rfl ⟨.bl (!decide (a = b)), H, I, ?_, q⟩
  cases a <;> cases b <;> rfl
section
variable {X : Cx} {g : Gx} {e : En} {W : WX} {a b : Expr} {pos : Pos} {f f' : DE}
def fIsB (neg : Bool) : DOp := fun x y S k => ∃ p q : Bool, x = .bl p ∧ y = .bl q ∧ k (.bl (neg ^^ decide (p = q))) S
@[simp] theorem q_fIsB : type_of% @DL.fIsB.eq_1 := @DL.fIsB.eq_1
theorem ok_isB : OpOk g e (fun x y H Q => ∃ a b : Bool, x = .bl a ∧ y = .bl b ∧ Q (.bl (decide (a = b))) H) (fIsB false) := by
  rintro H Hi S v w x y k Q i rv rw' ⟨p, q, rfl, rfl, z⟩ hk
  exact ⟨p, q, rv, rw', hk (.bl (decide (p = q))) S _ H Hi i (Same.refl _) rfl (by simpa using z)⟩
theorem ok_notB : OpOk g e (fun x y H Q => ∃ a b : Bool, x = .bl a ∧ y = .bl b ∧ Q (.bl (!decide (a = b))) H) (fIsB true) := by
  rintro H Hi S v w x y k Q i rv rw' ⟨p, q, rfl, rfl, z⟩ hk
  exact ⟨p, q, rv, rw', hk (.bl (!decide (p = q))) S _ H Hi i (Same.refl _) rfl (by simpa using z)⟩
theorem de_isB (ha : PE X a (lift g e W f)) (hb : PE X b (lift g e W f')) : PE X (.Compare a [.Is] [b] pos) (lift g e W (d2 (fIsB false) f f')) := de_cmp op_isB ok_isB ha hb (nomark _)
theorem de_notB (ha : PE X a (lift g e W f)) (hb : PE X b (lift g e W f')) : PE X (.Compare a [.IsNot] [b] pos) (lift g e W (d2 (fIsB true) f f')) := de_cmp op_notB ok_notB ha hb (nomark _)
theorem dt_isB (ha : PE X a (lift g e W f)) (hb : PE X b (lift g e W f')) : PT X (.Compare a [.Is] [b] pos) (liftT g e W (dTst (d2 (fIsB false) f f'))) := dt_cmp op_isB ok_isB ha hb (nomark _)
theorem dt_notB (ha : PE X a (lift g e W f)) (hb : PE X b (lift g e W f')) : PT X (.Compare a [.IsNot] [b] pos) (liftT g e W (dTst (d2 (fIsB true) f f'))) := dt_cmp op_notB ok_notB ha hb (nomark _)
end
end DL
end
/-! ## DL34 -/
section
set_option Elab.async false
set_option linter.all false
set_option maxRecDepth 100000
set_option maxHeartbeats 4000000
/-! tuples of own objects compared -/
namespace DL
open PySem PySem.Spec PyProof.Rows L2
open AutoSeq1 (wpAny_loadPart')
open MeetsSeq MeetsSeq2 MeetsSeq3 SeqRoads2
theorem tuple_eq_run {prog : Program} {w : World} {A : Around} {s : Shared} {E : Value → Shared → Prop} {Q : Value → Shared → Prop} {l b : Addr} {items items2 : Array Value} {n n2 : Nat} {dd dd2 : Option Addr} {sl sl2 : Array (Option Value)}
    (hl : s.heap.get? l = some { cls := .type "tuple", dict := dd, data := .seq items n, slots := sl }) (hb : s.heap.get? b = some { cls := .type "tuple", dict := dd2, data := .seq items2 n2, slots := sl2 })
    (J : List (Value × Value) → Shared → Prop) (h0 : J (items.toList.zip items2.toList) s)
    (step : ∀ y x rest s', J ((y, x) :: rest) s' → wpAny (model prog w) A (eqBool y x) (fun r s'' => if r = true then J rest s'' else Q (.bool false) s'') E s')
    (fin : ∀ s', J [] s' → Q (.bool (items.size == items2.size)) s') :
    wpAny (model prog w) A (Builtin.«tuple.__eq__» ⟨[.ref l, .ref b], []⟩) (fun f s' => ∃ v, f = .done (.ret v) ∧ v ≠ .notImplemented ∧ Q v s') E s := by
  obtain ⟨hp, g, d, tk, os⟩ := s
  have f2 := AutoSeq1.sub_tuple_tuple
  wp_walk using wpAny_loadPart' hl, wpAny_loadPart' hb, wpAny_forIn_list _ (fun rest b s' => b.1 = none ∧ J rest s') _
  case turn =>
    rintro ⟨y, x⟩ rest b s' ⟨hb', hR⟩
    refine wpAny_bind (wpAny_mono (step y x rest s' hR) (fun r s'' hr => ?_) fun _ _ z => z)
    cases r with
    | true =>
      rw [if_pos rfl] at hr
      wp_walk
      exact ⟨rfl, hr⟩
    | false =>
      rw [if_neg Bool.false_ne_true] at hr
      wp_walk
      exact ⟨_, rfl, (fun z => nomatch z), hr⟩
  case fin =>
    rintro ⟨b1, b2⟩ s' ⟨hb', hR⟩
    simp only at hb'
    subst hb'
    have := fin s' hR
    wp_walk
    exact ⟨_, rfl, (fun z => nomatch z), by simpa [Builtin.Tuple.tupleCompareSizes] using this⟩
  case h =>
    exact ⟨rfl, h0⟩
/-- two values may be the same object -/
def May (d e : D) : Prop := ∃ (g : Gx) (H : Hp) (v : V), Rep g H v d ∧ Rep g H v e
def dTOl (ms : List (Nat × DFn)) (rs : List Nat) : List D → List D → Sto → (Bool → Sto → Prop) → X1 → Prop
  | d :: ds, e :: es, S, k, E => (May d e → dTOl ms rs ds es S k E) ∧ ∃ c fs d' fs' wf, insOf S d = some (c, fs) ∧ insOf S e = some (d', fs') ∧ ms.lookup c = some wf ∧ rs.contains d' = true ∧
      wf [d, e] S (fun r S' => ∃ b, r = .bl b ∧ if b = true then dTOl ms rs ds es S' k E else k false S') E
  | _, _, S, k, _ => k true S
section
variable {X : Cx} {g : Gx} {e : En} {W : WX} {a b : Expr} {pos : Pos} {f f' : DE} {k : Nat} {ms : List (Nat × DFn)} {rs : List Nat}
theorem tov_run (C : Cxt X g e W) (B : EqvOk g X.prog X.w X.base k ms rs) (hr : Room (k + 1) X.A) (hu : X.A.units + 64 < cLine) {pins : List (Addr × Obj)} {s : Shared} {σ : L2.St} {H Hi : Hp} {S : Sto} {Q : Bool → Hp → Prop} {kk : Bool → Sto → Prop} {E : X1} {ta tb : Addr} {ds es : List D}
    (I : Inv X pins σ H s) (i : Is g e H Hi S) (r1 : Rep g Hi (.ref ta) (.tup ds)) (r2 : Rep g Hi (.ref tb) (.tup es)) (q : dTOl ms rs ds es S kk E) (hx : XOk g e W Hi σ E)
    (hk : ∀ b S' H' Hi', Is g e H' Hi' S' → Same Hi Hi' → kk b S' → Q (b && decide (ds.length = es.length)) H') :
    wpAny (model X.prog X.w) X.A (richCompare .Eq (.ref ta) (.ref tb)) (fun r s' => ∃ z, r = .bool z ∧ ∃ H', Inv X pins σ H' s' ∧ Q z H') X.xe s := by
  obtain ⟨_, xs, e1, hx1, rx⟩ := r1
  cases e1
  obtain ⟨_, ys, e2, hy1, ry⟩ := r2
  cases e2
  obtain ⟨its, rv, ht, hz⟩ := I.tuple (SqT.of (i.ok.sub _ _ hx1) : SqT X.K H ta xs)
  obtain ⟨its2, rv2, ht2, hz2⟩ := I.tuple (SqT.of (i.ok.sub _ _ hy1) : SqT X.K H tb ys)
  obtain ⟨⟨cls, dd, data, sl⟩, ho, hc, n, hd⟩ := id ht
  obtain ⟨⟨cls2, dd2, data2, sl2⟩, ho2, hc2, n2, hd2⟩ := id ht2
  simp only at hc hd hc2 hd2
  subst hc hd hc2 hd2
  refine wpAny_richCompare_same_room (T := "tuple") (op := .Eq) ht.typeIs ht2.typeIs PySem.F.slot_tuple_eq (wpAny_call_entry PySem.F.slot_tuple_eq ht.typeIs PySem.F.entry_tuple_eq ?_ (PySem.F.args_tuple_eq_2 _ _)) (by omega)
  have lx := rx.length
  have ly := ry.length
  have l1 := rv.length
  have l2 := rv2.length
  refine tuple_eq_run ho ho2 (fun rest s' => ∃ vs ws us us2 ds' es' H' Hi' S', rest = us.zip us2 ∧ Vals vs us ∧ Vals ws us2 ∧ Inv X pins σ H' s' ∧ Is g e H' Hi' S' ∧ Same Hi Hi' ∧ Reps g Hi' vs ds' ∧ Reps g Hi' ws es' ∧ dTOl ms rs ds' es' S' kk E)
    ⟨xs, ys, its, its2, ds, es, H, Hi, S, by simp, rv, rv2, I, i, Same.refl _, rx, ry, q⟩ (fun y x rest s' h => ?_) fun s' h => ?_
  · obtain ⟨vs, ws, us, us2, ds', es', H', Hi', S', er, va, vb, I', i', sm, ra, rb, q'⟩ := h
    cases va with
    | nil => simp at er
    | @cons v0 u0 vs us h1 t1 =>
      cases vb with
      | nil => simp at er
      | @cons w0 u1 ws us2 h2 t2 =>
        simp only [List.zip_cons_cons, List.cons.injEq, Prod.mk.injEq] at er
        obtain ⟨⟨rfl, rfl⟩, rfl⟩ := er
        match ds', ra with
        | d :: ds', ⟨ra1, ra2⟩ =>
          match es', rb with
          | e' :: es', ⟨rb1, rb2⟩ =>
            obtain ⟨q1, c, fs, d2, fs', wf, g1, g2, g3, g4, q2⟩ := q'
            obtain ⟨px, dx1, vs1, rfl, a1, _⟩ := insOf_rep i'.ok ra1 g1
            obtain ⟨py, dx2, vs2, rfl, a2, _⟩ := insOf_rep i'.ok rb1 g2
            obtain rfl : y = Value.ref px := h1
            obtain rfl : x = Value.ref py := h2
            unfold eqBool
            refine wpAny_holding (wpAny_ite_split (fun hab => ?_) fun hab => ?_)
            · have eq : px = py := by have := eq_of_beq hab; injection this
              subst eq
              refine wpAny_bind (wpAny_rule (wpAny_pure ?_))
              rw [if_pos rfl]
              exact ⟨vs, ws, us, us2, ds', es', H', Hi', S', rfl, t1, t2, I', i', sm, ra2, rb2, q1 ⟨g, Hi', .ref px, ra1, rb1⟩⟩
            · obtain ⟨fa, hnf, hs, hf, hm, hne, F⟩ := B.ok c wf d2 g3 g4
              obtain ⟨_, O1, _⟩ := ins_get I'.hok a1
              obtain ⟨_, O2, _⟩ := ins_get I'.hok a2
              obtain ⟨od1, J1, _⟩ := O1.look
              obtain ⟨od2, J2, _⟩ := O2.look
              have hkk : g.K.In s'.heap := by rw [← C.K]; exact I'.kIn
              have kk' : KOk g e Hi' (fun r S1 => ∃ b, r = .bl b ∧ if b = true then dTOl ms rs ds' es' S1 kk E else kk false S1) (fun v H1 => ∃ b Hi1 S1, v = .bl b ∧ Is g e H1 Hi1 S1 ∧ Same Hi' Hi1 ∧ if b = true then dTOl ms rs ds' es' S1 kk E else kk false S1) := fun d S1 v H1 Hi1 i1 s1 r1 ⟨z, ed, q'⟩ => by
                subst ed
                exact ⟨z, Hi1, S1, r1, i1, s1, q'⟩
              have run := run_d1 (us := [.ref px, .ref py]) (vs := [.ref px, .ref py]) (ds := [d, e']) C F hr I' (.cons rfl (.cons rfl .nil)) i' ⟨ra1, rb1, trivial⟩ q2 kk' (hx.mono sm)
              obtain ⟨R, hR⟩ : ∃ R : Value → Shared → Prop, R = fun r s3 => ∃ z H3 Hi3 S3, r = .bool z ∧ Inv X pins σ H3 s3 ∧ Is g e H3 Hi3 S3 ∧ Same Hi' Hi3 ∧ if z = true then dTOl ms rs ds' es' S3 kk E else kk false S3 := ⟨_, rfl⟩
              have run2 : wpAny (model X.prog X.w) X.A.in1 (call (.ref fa) [.ref px, .ref py]) (fun r s3 => ∃ z, r = .bool z ∧ R (.bool z) s3) X.xe s' := wpAny_mono run (fun r s3 z => by
                obtain ⟨v3, H3, I3, r3, b3, Hi3, S3, ev, i3, s3', q3⟩ := z
                subst ev
                obtain rfl : r = Value.bool b3 := r3
                exact ⟨b3, rfl, by rw [hR]; exact ⟨b3, H3, Hi3, S3, rfl, I3, i3, s3', q3⟩⟩) fun _ _ z => z
              have hun : X.A.in1.units < cLine := by show X.A.units + 1 < cLine; omega
              have cmp : wpAny (model X.prog X.w) X.A.in1 (richCompare .Eq (.ref px) (.ref py)) R X.xe s' := own_cmp hun hkk J1 J2.type hnf (try_eq hkk J1 hs hf run2)
              refine wpAny_bind (wpAny_mono cmp (fun r s3 z => ?_) fun _ _ z => z)
              rw [hR] at z
              obtain ⟨z, H3, Hi3, S3, rfl, I3, i3, s3', q3⟩ := z
              refine wpAny_truthy_bool ?_
              cases z with
              | true =>
                  rw [if_pos rfl] at q3 ⊢
                  exact ⟨vs, ws, us, us2, ds', es', H3, Hi3, S3, rfl, t1, t2, I3, i3, sm.trans s3', ra2.mono s3', rb2.mono s3', q3⟩
              | false =>
                  rw [if_neg Bool.false_ne_true] at q3 ⊢
                  exact ⟨false, rfl, H3, I3, by simpa using hk false S3 H3 Hi3 i3 (sm.trans s3') q3⟩
  · obtain ⟨vs, ws, us, us2, ds', es', H', Hi', S', er, va, vb, I', i', sm, ra, rb, q'⟩ := h
    have em : us = [] ∨ us2 = [] := by
      cases us with
      | nil => exact .inl rfl
      | cons a l =>
        cases us2 with
        | nil => exact .inr rfl
        | cons b m => simp at er
    have kt : kk true S' := by
      rcases em with z | z
      · subst z
        cases va
        cases ds' with
        | nil => simpa [dTOl] using q'
        | cons => exact ra.elim
      · subst z
        cases vb
        cases es' with
        | nil =>
          cases ds' <;> simpa [dTOl] using q'
        | cons => exact rb.elim
    have := hk true S' H' Hi' i' sm kt
    refine ⟨_, rfl, H', I', ?_⟩
    have e5 : (its.toArray.size == its2.toArray.size) = (true && decide (ds.length = es.length)) := by
      rw [Bool.eq_iff_iff]
      simp
      omega
    rw [e5]
    exact this
def dEqTO (ms : List (Nat × DFn)) (rs : List Nat) (fa fb : DE) : DE := fun ρ S k E => fa ρ S (fun x S1 => fb ρ S1 (fun y S2 => ∃ ds es, x = .tup ds ∧ y = .tup es ∧ dTOl ms rs ds es S2 (fun b S3 => k (.bl (b && decide (ds.length = es.length))) S3) E) E) E
@[simp] theorem q_dEqTO : type_of% @DL.dEqTO.eq_1 := @DL.dEqTO.eq_1
theorem eqto_run (C : Cxt X g e W) (B : EqvOk g X.prog X.w X.base k ms rs) (hr : Room (k + 1) X.A) (hu : X.A.units + 64 < cLine) (ha : PE X a (lift g e W f)) (hb : PE X b (lift g e W f'))
    {pins : List (Addr × Obj)} {s : Shared} {σ : L2.St} {H : Hp} {Q : VK} (I : Inv X pins σ H s) (h : lift g e W (dEqTO ms rs f f') σ H Q) :
    wpAny (model X.prog X.w) X.A (eval a X.env) (fun v s1 => wpAny (model X.prog X.w) X.A (eval b X.env) (fun u s2 => wpAny (model X.prog X.w) X.A (richCompare .Eq v u) (fun r s' => ∃ z, r = .bool z ∧ EP X pins σ Q (.bool z) s') X.xe s2) X.xe s1) X.xe s := by
  obtain ⟨ρ, Hi, S, k1, E, i, sl, q, hQ, hx⟩ := h
  obtain ⟨ko, hko⟩ : ∃ ko : D → D → Sto → Prop, ko = fun x y S2 => ∃ ds es, x = .tup ds ∧ y = .tup es ∧ dTOl ms rs ds es S2 (fun b S3 => k1 (.bl (b && decide (ds.length = es.length))) S3) E := ⟨_, rfl⟩
  have q : f ρ S (fun x S1 => f' ρ S1 (fun y S2 => ko x y S2) E) E := by rw [hko]; exact q
  refine thn (ha.run pins s σ H (fun x H1 => ∃ dx S1 Hi1, Is g e H1 Hi1 S1 ∧ Same Hi Hi1 ∧ Rep g Hi1 x dx ∧ f' ρ S1 (fun y S2 => ko dx y S2) E) I
    ⟨ρ, Hi, S, _, E, i, sl, q, fun d S' v H' Hi' i' s' r' q' => ⟨d, S', Hi', i', s', r', q'⟩, hx⟩) fun v s1 ⟨x, H1, I1, rx, dx, S1, Hi1, i1, s1', r1, q1⟩ => ?_
  refine thn (hb.run pins s1 σ H1 (fun y H2 => ∃ dy S2 Hi2, Is g e H2 Hi2 S2 ∧ Same Hi1 Hi2 ∧ Rep g Hi2 y dy ∧ ko dx dy S2) I1
    ⟨ρ, Hi1, S1, _, E, i1, sl.mono s1', q1, fun d S' v H' Hi' i' s' r' q' => ⟨d, S', Hi', i', s', r', q'⟩, hx.mono s1'⟩) fun u s2 ⟨y, H2, I2, ry, dy, S2, Hi2, i2, s2', r2, q2⟩ => ?_
  rw [hko] at q2
  obtain ⟨ds, es, rfl, rfl, q2⟩ := q2
  have r1' := r1.mono s2'
  obtain ⟨pa, xs, rfl, _⟩ := id r1'
  obtain ⟨pb, ys, rfl, _⟩ := id r2
  obtain rfl : v = Value.ref pa := rx
  obtain rfl : u = Value.ref pb := ry
  refine wpAny_mono (tov_run (Q := fun z H' => Q (.bl z) H') C B hr hu I2 i2 r1' r2 q2 ((hx.mono s1').mono s2') fun b S' H' Hi' i' s' q' => hQ (.bl (b && decide (ds.length = es.length))) S' _ H' Hi' i' ((s1'.trans s2').trans s') rfl q') (fun r s' z => ?_) fun _ _ z => z
  obtain ⟨z, rfl, H', I', q'⟩ := z
  exact ⟨z, rfl, .bl z, H', I', rfl, q'⟩
theorem de_eqTO (C : Cxt X g e W) (B : EqvOk g X.prog X.w X.base k ms rs) (hr : Room (k + 1) X.A) (hu : X.A.units + 64 < cLine) (ha : PE X a (lift g e W f)) (hb : PE X b (lift g e W f')) : PE X (.Compare a [.Eq] [b] pos) (lift g e W (dEqTO ms rs f f')) :=
  ⟨fun pins s σ H Q I h => wpAny_Compare1 (wpAny_mono (eqto_run C B hr hu ha hb I h) (fun v s1 z => wpAny_mono z (fun u s2 z2 => wpAny_mono z2 (fun r s3 ⟨q, er, z3⟩ => by subst er; exact z3) fun _ _ y => y) fun _ _ y => y) fun _ _ y => y) (nomark _)⟩
theorem dt_eqTO (C : Cxt X g e W) (B : EqvOk g X.prog X.w X.base k ms rs) (hr : Room (k + 1) X.A) (hu : X.A.units + 64 < cLine) (ha : PE X a (lift g e W f)) (hb : PE X b (lift g e W f')) : PT X (.Compare a [.Eq] [b] pos) (liftT g e W (dTst (dEqTO ms rs f f'))) :=
  ⟨fun pins s σ H Q I h => wpAny_isTrue_Compare1 (wpAny_mono (eqto_run C B hr hu ha hb I (liftTst (f := dEqTO ms rs f f') σ H Q h)) (fun v s1 z => wpAny_mono z (fun u s2 z2 => wpAny_mono z2 (fun r s3 ⟨q, er, z3⟩ => by subst er; exact bl_of z3 fun H' I' qq => ⟨H', I', qq⟩) fun _ _ y => y) fun _ _ y => y) fun _ _ y => y) (nomark _)⟩
end
end DL
end
/-! ## DL35 -/
section
set_option Elab.async false
set_option linter.all false
set_option maxRecDepth 100000
set_option maxHeartbeats 4000000
/-! ranges downwards; tuple * int; list < list -/
namespace L2
open PySem PySem.Spec PyProof.Rows
def rgN (a : Int) (n : Nat) : List V := (List.range n).map fun i => V.int (a - (i : Nat))
section
variable {X : Cx} {a b c : Expr} {ta : TA} {p p2 pos pos2 : Pos}
def tTupRN (ta : TA) : TE := fun σ H Q => ta σ H fun vs H1 => ∃ i j : Int, vs = [.int i, .int j, .int (-1)] ∧ (-(2 ^ 62) ≤ i ∧ i < 2 ^ 62 ∧ -(2 ^ 62) ≤ j ∧ j < 2 ^ 62) ∧ (i - j).toNat ≤ 2 ^ 24 ∧ ∀ q, H1 q = none → Q (.ref q) (upd H1 q (.tup (rgN i (i - j).toNat)))
theorem vals_rgN {i : Int} {n : Nat} {acc : Array Value} (h : ItemsOf (fun k v => ∃ t, v = .int (i + k * (-1)) t) acc n) : Vals (rgN i n) acc.toList := by
  have e : acc.toList.length = n := by rw [Array.length_toList]; exact h.1
  unfold rgN
  rw [← e]
  refine vals_of_get acc.toList _ fun j u hj => ?_
  obtain ⟨t, rfl⟩ := h.2 j u (by rw [← hj, Array.getElem?_toList])
  exact ⟨t, by congr 1; omega⟩
theorem pe_tupRN (hc : X.calm = true) (hgt : Gl X "tuple") (hmt : X.mg "tuple" = none) (hg : Gl X "range") (hm : X.mg "range" = none) (ha : PA X [a, b, c] ta)
    (na : starEach [Expr.Call (.Name "range" p2) [a, b, c] [] pos2] X.env = (false, eval (.Call (.Name "range" p2) [a, b, c] [] pos2) X.env) :: starEach [] X.env := by rfl)
    (hs : starEach [a, b, c] X.env = (false, eval a X.env) :: starEach [b, c] X.env := by rfl) (hpl : (backTo pos2 (starEach [b, c] X.env)).any (·.1) = false := by rfl) : PE X (.Call (.Name "tuple" p) [.Call (.Name "range" p2) [a, b, c] [] pos2] [] pos) (tTupRN ta) := by
  refine ⟨fun pins s σ H Q I h => ?_⟩
  have ran : wpAny (model X.prog X.w) X.A (eval (.Call (.Name "range" p2) [a, b, c] [] pos2) X.env) (fun x s' => ∃ r i j t u v H', x = .ref r ∧ IsRange s'.heap r i j (-1) t u v ∧ Inv X pins σ H' s' ∧ (-(2 ^ 62) ≤ i ∧ i < 2 ^ 62 ∧ -(2 ^ 62) ≤ j ∧ j < 2 ^ 62) ∧ (i - j).toNat ≤ 2 ^ 24 ∧ ∀ q, H' q = none → Q (.ref q) (upd H' q (.tup (rgN i (i - j).toNat)))) X.xe s := by
    refine Call_ (ld_blt I hg hm boot_range (PyProof.Rows.callWith_type1 (thn (ha.run pos2 pins s σ H _ I h) fun us s1 ⟨vs, H1, I1, r1, q1⟩ => ?_) hs hpl))
    obtain ⟨i, j, e, hb, hn, q⟩ := q1
    subst e
    cases r1 with
    | cons r rr =>
      cases rr with
      | cons r' rr =>
        cases rr with
        | cons r'' rr =>
          cases rr
          obtain ⟨t, rfl⟩ := r
          obtain ⟨t', rfl⟩ := r'
          obtain ⟨t'', rfl⟩ := r''
          refine call_range_3 (by decide) ?_ (.inl (PyProof.noPylong_small (by decide)))
          exact ⟨_, i, j, _, _, _, H1, rfl, IsRange.new _ _ _ _ _ _ _, I1.kept fun b u e => Heap.get?_push_of_some _ e, hb, hn, q⟩
  refine Call_ (ld_blt I hgt hmt boot_tuple (PyProof.Rows.callWith_type1 (args_cons (thn ran fun x s1 ⟨r, i, j, t, u, v, H1, ex, hr, I1, hb, hn, q⟩ => args_nil ?_) na) na))
  subst ex
  obtain ⟨b1, b2, b3, b4⟩ := hb
  refine call_tuple_range (n := (i - j).toNat) (I1.ok.hd hc) hr (PySem.W.small_down b1 b2 b3 b4) (PySem.W.rangeSize_downNat i j) hn fun h' tk acc hk hi => ?_
  have I2 : Inv X pins σ H1 { s1 with heap := h', toks := tk } := I1.kept hk
  refine ⟨.ref h'.objs.size, upd H1 h'.objs.size (.tup (rgN i (i - j).toNat)), I2.laid (t' := tk) (fun c o e => Heap.get?_push_of_some _ e) (Nat.le_refl _) (show ObjOk X.prog X.w _ _ _ (.tup (rgN i (i - j).toNat)) from ⟨?_, acc.toList, vals_rgN hi, ?_⟩), rfl, q _ (I2.hok.fresh (Nat.le_refl _))⟩
  · unfold rgN
    rw [List.length_map, List.length_range, sizeLine_eq]; omega
  · rw [Array.toArray_toList]; exact IsTup.new _ _
end
end L2
namespace DL
open PySem PySem.Spec PyProof.Rows L2
section
variable {X : Cx} {g : Gx} {e : En} {W : WX} {a b c : Expr} {pos pos2 p p2 : Pos} {u : DA} {f f' : DE}
def rngN (hi : Int) (n : Nat) : List D := (List.range n).map fun (i : Nat) => D.int (hi - i)
theorem walks_rngN {lo : Int} {n : Nat} {Hi : Hp} : Walks g e (Itc lo (-1) n) Hi (rngN lo n) := by
  intro i H2 Hi2 S2 i2 s2
  refine ⟨fun h => (show n ≤ i by simpa [rngN] using h), fun d hd => ?_⟩
  unfold rngN at hd
  rw [List.getElem?_map] at hd
  cases q : (List.range n)[i]? with
  | none => rw [q] at hd; cases hd
  | some j =>
    rw [q] at hd
    have hj := List.getElem?_eq_some_iff.mp q
    obtain ⟨hlt, ej⟩ := hj
    rw [List.getElem_range] at ej
    subst ej
    have hd := Option.some.inj hd
    subst hd
    refine ⟨(show i < n by simpa using hlt), fun x H3 ⟨e3, y3⟩ => ?_⟩
    subst e3
    have y4 : x = .int (lo - i) := by rw [y3]; congr 1; omega
    subst y4
    exact ⟨Hi2, i2, Same.refl _, rfl, Ext.refl⟩
def wRngN (u : DA) : DA := fun ρ S k E => u ρ S (fun ds S1 => ∃ i j, ds = [.int i, .int j, .int (-1)] ∧ (-(2 ^ 62) ≤ i ∧ i < 2 ^ 62 ∧ -(2 ^ 62) ≤ j ∧ j < 2 ^ 62) ∧ k (rngN i (i - j).toNat) S1) E
theorem reps3 {H : Hp} {vs : List V} {x y z : D} (h : Reps g H vs [x, y, z]) : ∃ u v w, vs = [u, v, w] ∧ Rep g H u x ∧ Rep g H v y ∧ Rep g H w z := by
  match vs, h with
  | [u, v, w], ⟨h1, h2, h3, _⟩ => exact ⟨u, v, w, rfl, h1, h2, h3⟩
theorem di_rngN {tg : Expr} (C : Cxt X g e W) (hg : Gl X "range") (hm : g.mg "range" = none) (ha : PA X [a, b, c] (liftA g e W u)) (hs : starEach [a, b, c] X.env = (false, eval a X.env) :: starEach [b, c] X.env := by rfl) (hpl : (backTo pos (starEach [b, c] X.env)).any (·.1) = false := by rfl) :
    PI X tg (.Call (.Name "range" p) [a, b, c] [] pos) (liftI g e W (wRngN u)) :=
  (pi_range3 hg (by rw [C.mg]; exact hm) ha hs hpl).imp fun σ H R ⟨ρ, Hi, S, k, E, i, sl, q, hk, hx⟩ => by
    refine ⟨ρ, Hi, S, _, E, i, sl, q, fun ds S1 vs H1 Hi1 i1 s1 r1 ⟨m, n, e1, h1, q1⟩ => ?_, hx⟩
    subst e1
    obtain ⟨x, y, z, rfl, rx, ry, rz⟩ := reps3 r1
    obtain rfl : x = V.int m := rx
    obtain rfl : y = V.int n := ry
    obtain rfl : z = V.int (-1) := rz
    obtain ⟨b1, b2, b3, b4⟩ := h1
    exact ⟨m, n, -1, (m - n).toNat, rfl, RgC.neg b1 b2 b3 b4, hk _ S1 _ H1 Hi1 i1 s1 (fun e' => walks_rngN) q1⟩
def dTupRN (u : DA) : DE := fun ρ S k E => u ρ S (fun ds S1 => ∃ i j, ds = [.int i, .int j, .int (-1)] ∧ (-(2 ^ 62) ≤ i ∧ i < 2 ^ 62 ∧ -(2 ^ 62) ≤ j ∧ j < 2 ^ 62) ∧ (i - j).toNat ≤ 2 ^ 24 ∧ k (.tup (rngN i (i - j).toNat)) S1) E
@[simp] theorem q_wRngN : type_of% @DL.wRngN.eq_1 := @DL.wRngN.eq_1
@[simp] theorem q_dTupRN : type_of% @DL.dTupRN.eq_1 := @DL.dTupRN.eq_1
theorem reps_rgN {H : Hp} {i : Int} {n : Nat} : Reps g H (rgN i n) (rngN i n) := by
  unfold rgN rngN
  generalize List.range n = l
  induction l with
  | nil => trivial
  | cons x l ih => exact ⟨rfl, ih⟩
theorem de_tupRN (C : Cxt X g e W) (hgt : Gl X "tuple") (hmt : g.mg "tuple" = none) (hg : Gl X "range") (hm : g.mg "range" = none) (ha : PA X [a, b, c] (liftA g e W u))
    (na : starEach [Expr.Call (.Name "range" p2) [a, b, c] [] pos2] X.env = (false, eval (.Call (.Name "range" p2) [a, b, c] [] pos2) X.env) :: starEach [] X.env := by rfl)
    (hs : starEach [a, b, c] X.env = (false, eval a X.env) :: starEach [b, c] X.env := by rfl) (hpl : (backTo pos2 (starEach [b, c] X.env)).any (·.1) = false := by rfl) :
    PE X (.Call (.Name "tuple" p) [.Call (.Name "range" p2) [a, b, c] [] pos2] [] pos) (lift g e W (dTupRN u)) :=
  (pe_tupRN C.calm hgt (by rw [C.mg]; exact hmt) hg (by rw [C.mg]; exact hm) ha na hs hpl).imp fun σ H Q ⟨ρ, Hi, S, k, E, i, sl, q, hk, hx⟩ => by
    refine ⟨ρ, Hi, S, _, E, i, sl, q, fun ds S1 vs H1 Hi1 i1 s1 r1 ⟨m, n, e1, h1, h2, q1⟩ => ?_, hx⟩
    subst e1
    obtain ⟨x, y, z, rfl, rx, ry, rz⟩ := reps3 r1
    obtain rfl : x = V.int m := rx
    obtain rfl : y = V.int n := ry
    obtain rfl : z = V.int (-1) := rz
    refine ⟨m, n, rfl, h1, h2, fun p hp => ?_⟩
    obtain ⟨i2, s2⟩ := isNew (o := .tup (rgN m (m - n).toNat)) i1 hp
    exact hk (.tup (rngN m (m - n).toNat)) S1 (.ref p) _ _ i2 (s1.trans s2) ⟨p, _, rfl, upd_same, reps_rgN⟩ q1
end
end DL
end
/-! ## DL36 -/
section
set_option Elab.async false
set_option linter.all false
set_option maxRecDepth 100000
set_option maxHeartbeats 4000000
namespace L2
open PySem PySem.Spec PyProof.Rows
/-! tuple * 1 -/
theorem tuple_mul1 (l : Addr) (items : Array Value) (n : Nat) (dd : Option Addr) (sl : Array (Option Value)) (u : Tok) :
    Meets (Builtin.«tuple.__mul__» ⟨[.ref l, .int 1 u], []⟩) (fun _ R s => s.heap.get? l = some { cls := .type "tuple", dict := dd, data := .seq items n, slots := sl } ∧ R (.ok (.ret (Value.ref l))) s) :=
  .of_wp fun prog w A R s h => by
    obtain ⟨hp, g, d, tk, os⟩ := s
    obtain ⟨hl, h⟩ := h
    have f1 := AutoSeq1.idx_int
    have c0 : (decide ((1 : Int) < -(2 ^ 63)) || decide ((1 : Int) ≥ 2 ^ 63)) = false := by decide
    have c1 : (items.isEmpty || (1 : Int) == 1) = true := by simp
    wp_walk using wpAny_loadPart' hl
    repeat (first
      | (refine wpAny_ite_false (decide_eq_false (by rw [c0]; exact Bool.false_ne_true)) ?_; wp_walk using wpAny_loadPart' hl)
      | (refine wpAny_ite_true (decide_eq_true c1) ?_; wp_walk using wpAny_loadPart' hl))
    exact ⟨_, rfl, h⟩
def rRepT1 (K : PySem.W.Frag) : R2 := fun x y H Q => (∃ l xs, x = .ref l ∧ y = .int 1 ∧ SqT K H l xs ∧ Q (.ref l) H) ∨ rRepT K x y H Q
section
variable {X : Cx}
theorem op_repT1 : OpR X (binaryOp .Mult) (rRepT1 X.K) := by
  intro pins s σ H x y v u Q I rx ry h
  rcases h with ⟨l, xs, rfl, rfl, hT, q⟩ | h
  · cases rx
    obtain ⟨t, rfl⟩ := ry
    obtain ⟨its, r, ⟨⟨cls, dd, data, sl⟩, ho, hc, n, hd⟩, hs⟩ := I.tuple hT
    simp only at hc hd
    subst hc hd
    exact wpAny_binaryOp_repeat_ref (T := "tuple") (U := "int") (by decide) ⟨_, ho, rfl⟩ (fun s' => typeIs_int s' 1 t) noFill_tuple_mul F.fills_int_mul F.slot_int_rmul repeat_tuple F.slot_int_index.lookup
      (call_meets F.slot_int_rmul (typeIs_int s 1 t) F.entry_int_rmul (F.args_int_rmul_2 _ _) (int_rmul_tuple 1 t l its.toArray n dd sl)
        ⟨ho, rfl, ⟨_, ho, rfl⟩, call_meets F.slot_tuple_mul ⟨_, ho, rfl⟩ F.entry_tuple_mul (F.args_tuple_mul_2 _ _) (tuple_mul1 l its.toArray n dd sl t) ⟨ho, .ref l, H, I, rfl, q⟩⟩)
  · exact op_repT pins s σ H x y v u Q I rx ry h
/-! list < list, of ints -/
theorem firstLt_lex : ∀ (ns ms : List Int) (e r : Nat → Bool) (k : Nat), (∀ j, j < min ns.length ms.length → e (k + j) = decide (ns.getD j 0 = ms.getD j 0) ∧ r (k + j) = decide (ns.getD j 0 < ms.getD j 0)) →
    SeqAt.firstLt e r (decide (ns.length < ms.length)) ((List.range (min ns.length ms.length)).map (k + ·)) = HT.lexLt ns ms
  | [], [], _, _, _, _ => rfl
  | [], _ :: _, _, _, _, _ => by simp [SeqAt.firstLt, HT.lexLt]
  | _ :: _, [], _, _, _, _ => by simp [SeqAt.firstLt, HT.lexLt]
  | x :: ns, y :: ms, e, r, k, h => by
    have ih := firstLt_lex ns ms e r (k + 1) fun j hj => by
      have := h (j + 1) (by simp at hj ⊢; omega)
      rw [show k + 1 + j = k + (j + 1) by omega]
      simpa using this
    have h0 := h 0 (by simp)
    have em : min (x :: ns).length (y :: ms).length = min ns.length ms.length + 1 := by simp only [List.length_cons]; omega
    rw [em, List.range_succ_eq_map, List.map_cons, List.map_map, SeqAt.firstLt, HT.lexLt_cons]
    have ef : ((k + ·) ∘ Nat.succ : Nat → Nat) = (k + 1 + ·) := by funext j; simp only [Function.comp]; omega
    rw [ef]
    have el : decide ((x :: ns).length < (y :: ms).length) = decide (ns.length < ms.length) := by simp
    rw [el, ih]
    simp at h0
    rw [show k + 0 = k by omega, h0.1, h0.2]
    by_cases q : x = y <;> simp [q]
def rLtL (K : PySem.W.Frag) : R2 := fun x y H Q => ∃ a b ns ms, x = .ref a ∧ y = .ref b ∧ SqL K H a (ns.map V.int) ∧ SqL K H b (ms.map V.int) ∧ Q (.bl (HT.lexLt ns ms)) H
theorem ints_get : ∀ {vs : List Value} {ns : List Int}, IntsAre vs ns → ∀ (j : Nat) (h : j < vs.length), ∃ t, vs[j] = .int (ns.getD j 0) t
  | _, _, .nil, _, h => absurd h (by simp)
  | _, _, .cons a t r, 0, _ => ⟨t, by simp⟩
  | _, _, .cons a t r, j + 1, h => by
    obtain ⟨u, e⟩ := ints_get r j (by simpa using h)
    exact ⟨u, by simpa using e⟩
theorem op_ltL (hu : X.A.units < cLine) : OpR X (compareOp .Lt) (rLtL X.K) := by
  intro pins s σ H x y v u Q I rx ry h
  obtain ⟨a, b, ns, ms, rfl, rfl, ha, hb, q⟩ := h
  cases rx
  cases ry
  obtain ⟨its, r1, p1, _⟩ := I.list ha
  obtain ⟨its2, r2, p2, _⟩ := I.list hb
  have i1 : IntsAre its ns := intsAre_of r1
  have i2 : IntsAre its2 ms := intsAre_of r2
  have n1 := i1.length
  have n2 := i2.length
  have key := firstLt_lex ns ms (fun j => decide (ns.getD j 0 = ms.getD j 0)) (fun j => decide (ns.getD j 0 < ms.getD j 0)) 0 fun j _ => by simp
  have ek : ((List.range (min ns.length ms.length)).map (0 + ·)) = List.range (min ns.length ms.length) := by simp
  rw [ek] at key
  refine SeqAt.RcLt.lists (e := fun j => decide (ns.getD j 0 = ms.getD j 0)) (r := fun j => decide (ns.getD j 0 < ms.getD j 0)) p1.isList p2.isList hu (fun j h1 h2 => ?_) (fun j h1 h2 _ => ?_) X.prog X.w X.xe _ ?_
  · obtain ⟨t, e1⟩ := ints_get i1 j (by simpa using h1)
    obtain ⟨t2, e2⟩ := ints_get i2 j (by simpa using h2)
    obtain ⟨e, he, hiff⟩ := HT.eqAt_int X.A.in1 s (ns.getD j 0) t (ms.getD j 0) t2
    have : e = decide (ns.getD j 0 = ms.getD j 0) := by
      rw [Bool.eq_iff_iff, hiff]; simp
    rw [← this]
    simp only [List.getElem_toArray]
    rw [e1, e2]
    exact he
  · obtain ⟨t, e1⟩ := ints_get i1 j (by simpa using h1)
    obtain ⟨t2, e2⟩ := ints_get i2 j (by simpa using h2)
    simp only [List.getElem_toArray]
    rw [e1, e2]
    exact fun prog w E Q hq => HT.rcLt_int X.A.in1 s _ t _ t2 prog w E Q hq
  · have es : min its.toArray.size its2.toArray.size = min ns.length ms.length := by simp [n1, n2]
    have el : decide (its.toArray.size < its2.toArray.size) = decide (ns.length < ms.length) := by simp [n1, n2]
    rw [es, el, key]
    exact ⟨.bl (HT.lexLt ns ms), H, I, rfl, q⟩
end
end L2
namespace DL
open PySem PySem.Spec PyProof.Rows L2
section
variable {X : Cx} {g : Gx} {e : En} {W : WX} {a b : Expr} {pos : Pos} {f f' : DE}
/-- a tuple, repeated once or more -/
def fRepT : DOp := fun x y S k => ∃ (xs : List D) (n : Int), x = .tup xs ∧ y = .int n ∧ xs ≠ [] ∧ 1 ≤ n ∧ n ≤ 1000 ∧ xs.length ≤ 1000 ∧ k (.tup (List.replicate n.toNat xs).flatten) S
@[simp] theorem q_fRepT : type_of% @DL.fRepT.eq_1 := @DL.fRepT.eq_1
theorem reps_rep {H : Hp} {vs : List V} {ds : List D} (h : Reps g H vs ds) : ∀ n : Nat, Reps g H (List.replicate n vs).flatten (List.replicate n ds).flatten
  | 0 => trivial
  | n + 1 => by
    rw [List.replicate_succ, List.replicate_succ, List.flatten_cons, List.flatten_cons]
    exact h.append (reps_rep h n)
theorem ok_repT (K : g.K = g.K) : OpOk g e (rRepT1 g.K) fRepT := by
  rintro H Hi S v w x y k Q i rv rw' ⟨xs, n, rfl, rfl, h1, h2, h3, h4, q⟩ hk
  obtain ⟨l, vs, rfl, hl, rs⟩ := rv
  obtain rfl : w = V.int n := rw'
  by_cases c : n = 1
  · subst c
    exact .inl ⟨l, vs, rfl, rfl, SqT.of (i.ok.sub _ _ hl), hk (.tup (List.replicate (1 : Int).toNat xs).flatten) S _ H Hi i (Same.refl _) ⟨l, vs, rfl, hl, by simpa using rs⟩ q⟩
  · refine .inr ⟨l, n, vs, rfl, rfl, SqT.of (i.ok.sub _ _ hl), fun z => h1 ?_, by omega, h3, by rw [rs.length]; exact h4, fun p hp => ?_⟩
    · subst z
      have := rs.length
      exact List.eq_nil_of_length_eq_zero (by simpa using this.symm)
    · obtain ⟨i2, s2⟩ := isNew (o := .tup (List.replicate n.toNat vs).flatten) i hp
      exact hk (.tup (List.replicate n.toNat xs).flatten) S (.ref p) _ _ i2 s2 ⟨p, _, rfl, upd_same, (reps_rep rs n.toNat).mono s2⟩ q
theorem de_repT (C : Cxt X g e W) (ha : PE X a (lift g e W f)) (hb : PE X b (lift g e W f')) : PE X (.BinOp a .Mult b pos) (lift g e W (d2 fRepT f f')) := de_op (by rw [← C.K]; exact op_repT1) (ok_repT rfl) ha hb
def fLtL : DOp := fun x y S k => ∃ ns ms, lstOrScr S x = some (ns.map .int) ∧ lstOrScr S y = some (ms.map .int) ∧ k (.bl (HT.lexLt ns ms)) S
@[simp] theorem q_fLtL : type_of% @DL.fLtL.eq_1 := @DL.fLtL.eq_1
theorem ok_ltL : OpOk g e (rLtL g.K) fLtL := by
  rintro H Hi S v w x y k Q i rv rw' ⟨ns, ms, h1, h2, q⟩ hk
  obtain ⟨p, us, rfl, e1, r1⟩ := lsOf_rep i.ok rv h1
  obtain ⟨p2, us2, rfl, e2, r2⟩ := lsOf_rep i.ok rw' h2
  have z1 := r1.of_int
  have z2 := r2.of_int
  subst z1 z2
  exact ⟨p, p2, ns, ms, rfl, rfl, e1, e2, hk (.bl (HT.lexLt ns ms)) S _ H Hi i (Same.refl _) rfl q⟩
theorem de_ltL (C : Cxt X g e W) (hu : X.A.units + 64 < cLine) (ha : PE X a (lift g e W f)) (hb : PE X b (lift g e W f')) : PE X (.Compare a [.Lt] [b] pos) (lift g e W (d2 fLtL f f')) := de_cmp (by rw [← C.K]; exact op_ltL (by omega)) ok_ltL ha hb (nomark _)
theorem dt_ltL (C : Cxt X g e W) (hu : X.A.units + 64 < cLine) (ha : PE X a (lift g e W f)) (hb : PE X b (lift g e W f')) : PT X (.Compare a [.Lt] [b] pos) (liftT g e W (dTst (d2 fLtL f f'))) := dt_cmp (by rw [← C.K]; exact op_ltL (by omega)) ok_ltL ha hb (nomark _)
end
end DL
end
/-! ## DL37 -/
section
set_option Elab.async false
set_option linter.all false
set_option maxRecDepth 100000
set_option maxHeartbeats 4000000
/-! calls with keywords alone, all parameters given in their order -/
namespace DL
open PySem PySem.Spec PyProof.Rows L2
theorem FnB.mono {P : Program} {w : World} {K : PySem.W.Frag} {mg : Str → Option Value} {base : Heap} {j k : Nat} {f : Addr} {fd : FuncData} {ps : List Str} {sp : Sp} (F : FnB P w K mg base j f fd ps sp) (h : j ≤ k) : FnB P w K mg base k f fd ps sp :=
  fun A outer s H args us vs Q E hr hg e0 b r l q => F A outer s H args us vs Q E (hr.mono h) hg e0 b r l q
theorem bindsK {K : PySem.W.Frag} {x qual : Str} {params : Arguments} {body : List Stmt} {scope : Scope} {kws : List (Str × V)} {f : Addr} {fd : FuncData} {ps : List Str} (F : FunD K x qual params body scope [] kws f fd)
    (h : ∀ (kV doc pm : Value) (an : Option Addr) (cdv ct : Value) (us : List Value), us.length = ps.length → bindArgs (PySem.W.fnOf x qual params body scope .none kV doc pm an cdv ct) ⟨[], ps.zip us⟩ = pure (ps.zip us)) (s : Shared) (us : List Value) (hl : us.length = ps.length) : BindsTo s fd ⟨[], ps.zip us⟩ (ps.zip us) := by
  obtain ⟨oc, od, dV, kV, doc, pm, an, cdv, ct, osl, rfl, lk, hcd, hD, hK⟩ := F.ex
  rcases hD with ⟨_, rfl⟩ | ⟨e, _⟩
  · exact .of_eq (h kV doc pm an cdv ct us hl)
  · exact absurd rfl e
section
variable {X : Cx} {g : Gx} {e : En} {W : WX} {a : Expr} {pos kpos p : Pos} {nm : Option Str} {kws : List Keyword} {f : DE} {u : DA}
theorem dk_nil : PK X [] (liftA g e W dNil) := ⟨fun pos pins s σ H Q I h => pk_nil.run pos pins s σ H Q I (by
  obtain ⟨ρ, Hi, S, k, E, i, sl, q, hk, hx⟩ := h
  exact hk [] S [] H Hi i (Same.refl _) trivial q)⟩
theorem dk_cons (ha : PE X a (lift g e W f)) (hr : PK X kws (liftA g e W u)) : PK X (⟨nm, a, kpos⟩ :: kws) (liftA g e W (dCons f u)) :=
  ⟨fun pos pins s σ H Q I h => (pk_cons ha hr).run pos pins s σ H Q I (liftCons σ H Q h)⟩
theorem de_callK {k n : Nat} {fa : Addr} {fd : FuncData} {ps : List Str} {t : DS} {wf : DFn} {x : Str} (C : Cxt X g e W) (F : DFnB g X.prog X.w X.base k fa fd ps (dBody n t)) (hw : ∀ ds S k E, wf ds S k E → ds.length = ps.length ∧ dBody n t ds S k E) (hr : Room k X.A) (hg : Gl X x) (hm : g.mg x = some (.ref fa)) (hkp : PySem.W.keepIn g.K (.ref fa) = true)
    (hb : ∀ (s : Shared) (ws : List Value), ws.length = ps.length → BindsTo s fd ⟨[], ps.zip ws⟩ (ps.zip ws)) (ha : PK X kws (liftA g e W u))
    (hall : (backToKw pos (keywordEach kws X.env)).all (·.1.isSome) = true := by rfl) (hks : (backToKw pos (keywordEach kws X.env)).filterMap (·.1) = ps := by rfl)
    (hdb : (x == ("__debug__" : Str)) = false := by decide) (hpl : ((backTo pos (starEach [] X.env)).any (·.1) || (backToKw pos (keywordEach kws X.env)).any (·.1.isNone)) = false := by rfl) :
    PE X (.Call (.Name x p) [] kws pos) (lift g e W (dCall wf u)) := by
  refine ⟨fun pins s σ H Q I ⟨ρ, Hi, S, k1, E, i, sl, q, hQ, hx⟩ => ?_⟩
  refine wpAny_Call_Name_kw (ld_glob I hg (by rw [C.mg]; exact hm) ?_ hdb)
  refine PySem.W.callWith_KW0 (h₀ := X.base) I.ok.mod.kin (by rw [C.K]; exact hkp) hall (thn (ha.run pos pins s σ H _ I (liftA_of i sl q hx)) fun ws s1 ⟨vs, H1, I1, r, ds, S1, Hi1, i1, s1', r1, q1⟩ => ⟨I1.kIn, ?_⟩) hpl
  rw [hks]
  obtain ⟨hl, q2⟩ := hw _ _ _ _ q1
  have F' : FnB X.prog X.w X.K X.mg X.base k fa fd ps (spD g (dBody n t)) := by rw [C.K, C.mg]; exact F
  have lv : vs.length = ps.length := by rw [r1.length]; exact hl
  refine wpAny_call (codeAny_mono (F' X.A X.stack s1 H1 ⟨[] ++ [], ps.zip ws⟩ ws vs Q (WE W σ) hr C.gd I1.env0 (hb s1 ws (by rw [← r.length]; exact lv)) r lv (spD_of i1 r1 q2 (KOk.mono hQ s1') (hx.mono s1'))) fun r' s' z => ?_)
  match r', z with
  | .error e', z => exact C.pass σ pins H1 s1 e' s' I1 z
  | .ok (.ret u), z => exact I1.after z
  | .ok .next, z => exact z.elim
  | .ok .brk, z => exact z.elim
  | .ok .cont, z => exact z.elim
end
end DL
end
/-! ## DL38 -/
section
set_option Elab.async false
set_option linter.all false
set_option maxRecDepth 100000
set_option maxHeartbeats 4000000
/-! repr of an int -/
namespace L2
open PySem PySem.Spec PyProof.Rows
theorem cr_reprI {X : Cx} : CallR X (.builtin "repr") (fun xs H Q => ∃ a : Int, xs = [.int a] ∧ a.natAbs.log2 < 1920 ∧ Q (.str (toString a)) H) := by
  intro pins s σ H xs us Q I r h
  obtain ⟨a, rfl, hl, q⟩ := h
  obtain ⟨u, rfl, e⟩ := vals1 r
  obtain ⟨t, rfl⟩ : ∃ t, u = Value.int a t := e
  exact PySem.P.repr_of_int hl ⟨.str _, H, I.tok _, ⟨_, rfl⟩, q⟩
end L2
namespace DL
open PySem PySem.Spec PyProof.Rows L2
def bReprI : DBi := fun ds S k => ∃ a : Int, ds = [.int a] ∧ a.natAbs.log2 < 1920 ∧ k (.str (toString a)) S
@[simp] theorem q_bReprI : type_of% @DL.bReprI.eq_1 := @DL.bReprI.eq_1
theorem ok_reprI {g : Gx} {e : En} : BiOk g e (fun xs H Q => ∃ a : Int, xs = [V.int a] ∧ a.natAbs.log2 < 1920 ∧ Q (.str (toString a)) H) bReprI := by
  rintro H Hi S vs ds k Q i r ⟨a, rfl, hl, q⟩ hk
  obtain ⟨v, rfl, rv⟩ := r.one
  obtain rfl : v = V.int a := rv
  exact ⟨a, rfl, hl, hk (.str (toString a)) S _ H Hi i (Same.refl _) rfl q⟩
end DL
end
/-! ## DL39 -/
section
set_option Elab.async false
set_option linter.all false
set_option maxRecDepth 100000
set_option maxHeartbeats 4000000
/-! sorted(list of pairs of ints); extend with a tuple; `in` of nested data -/
namespace L2
open PySem PySem.Spec PyProof.Rows
abbrev Asc (qs : List (Int × Int)) : Prop := qs.Pairwise fun a b => SrtO.lexB b a = false
def rSortedPA (K : PySem.W.Frag) : List V → Hp → VK → Prop := fun vs H Q => ∃ (a : Addr) (L : List (V × (Int × Int))), vs = [V.ref a] ∧ SqL K H a (L.map (·.1)) ∧ (∀ x ∈ L, ∃ t, x.1 = V.ref t ∧ SqT K H t [.int x.2.1, .int x.2.2]) ∧
  ∀ (L' : List (V × (Int × Int))) p, L'.Perm L → Asc (L'.map (·.2)) → H p = none → Q (.ref p) (upd H p (.lst (L'.map (·.1))))
section
variable {X : Cx}
theorem cr_sortedPA : CallR X (.builtin "sorted") (rSortedPA X.K) := by
  intro pins s σ H vs us Q I r h
  obtain ⟨a, L, rfl, hs, hx, q⟩ := h
  obtain ⟨its, rv, hl, hz⟩ := I.list hs
  obtain rfl := Vals.ref1 r
  obtain ⟨e1, e2⟩ := refs_back rv fun x m => by
    obtain ⟨y, hy, rfl⟩ := List.mem_map.mp m
    obtain ⟨t, e, _⟩ := hx y hy
    exact ⟨t, e⟩
  have pr : ∀ x ∈ L, Srt.IsPair s.heap (toV x.1) x.2.1 x.2.2 := fun x hxl => by
    obtain ⟨t, e, ht⟩ := hx x hxl
    obtain ⟨its2, r2, tup, _⟩ := I.tuple ht
    obtain ⟨u1, u2, rfl, ri, rj⟩ := vals2 r2
    obtain ⟨t1, rfl⟩ := ri
    obtain ⟨t2, rfl⟩ := rj
    obtain ⟨o, ho, hc, n, hd⟩ := tup
    rw [e]
    exact ⟨t, o, t1, t2, n, rfl, ho, hc, hd⟩
  have eL : L = its.map fun u => (backV u, pairK s.heap u) := by
    have c1 : L = L.map fun x => (backV (toV x.1), pairK s.heap (toV x.1)) := by
      conv => lhs; rw [← List.map_id L]
      refine List.map_congr_left fun x hxl => ?_
      rw [pairK_eq (pr x hxl)]
      obtain ⟨t, e, _⟩ := hx x hxl
      show x = _
      rw [show backV (toV x.1) = x.1 by rw [e]; rfl]
    have c2 : (L.map fun x => (backV (toV x.1), pairK s.heap (toV x.1))) = (L.map (·.1)).map fun v => (backV (toV v), pairK s.heap (toV v)) := by rw [List.map_map]; rfl
    rw [c1, c2, e1, List.map_map]
    refine List.map_congr_left fun u hu => ?_
    obtain ⟨t, rfl⟩ := e2 u hu
    rfl
  have hp : ∀ v ∈ its, Srt.IsPair s.heap v (pairK s.heap v).1 (pairK s.heap v).2 := fun v hv => by
    have m : (backV v, pairK s.heap v) ∈ L := by rw [eL]; exact List.mem_map.mpr ⟨v, hv, rfl⟩
    obtain ⟨t, rfl⟩ := e2 v hv
    exact pr _ m
  refine SrtO.sorted_ord (ltv := fun v u => SrtO.lexB (pairK s.heap v) (pairK s.heap u)) (SrtO.swo_lex (pairK s.heap)) hl.isList (by rw [← rv.length]; exact hz) (fun h2 h₁ a' ha kp => ?_) fun out h1 h2 => ?_
  · refine SrtO.pairs_sortableO (s := { s with heap := h₁ }) (k := pairK s.heap) (by omega) (fun v hm => (hp v hm).keeps fun b o e _ => (kp b o e).2) fun o e => ?_
    have e' : some o = some (seqObj "list" its.toArray 0) := e.symm.trans ha
    cases e'
    intro c
    exact absurd (Value.type.inj c) (by decide)
  · have pm : out.Perm its := h2.perm
    have h3 : ∀ u ∈ out, ∃ a, u = Value.ref a := fun u hu => e2 u (pm.mem_iff.mp hu)
    obtain ⟨ep, he'⟩ := PyProof.Rows.sortedAll_at s.heap its out.toArray
    have pL : (out.map fun u => (backV u, pairK s.heap u)).Perm L := by
      conv => rhs; rw [eL]
      exact pm.map _
    have f1 : (out.map fun u => (backV u, pairK s.heap u)).map (·.1) = out.map backV := by rw [List.map_map]; rfl
    have f2 : (out.map fun u => (backV u, pairK s.heap u)).map (·.2) = out.map (pairK s.heap) := by rw [List.map_map]; rfl
    have srt : Asc ((out.map fun u => (backV u, pairK s.heap u)).map (·.2)) := by
      rw [f2]
      exact List.pairwise_map.mpr h1
    have := q _ (s.heap.objs.size + 1) pL srt (I.hok.fresh (Nat.le_succ _))
    rw [f1] at this
    refine ⟨.ref _, upd H (s.heap.objs.size + 1) (.lst (out.map backV)), I.laid (t' := s.toks) (fun _ _ => PyProof.Rows.sortedAll_old) (Nat.le_succ _) ⟨?_, out, ep, vals_back h3, he'⟩, rfl, this⟩
    rw [List.length_map, pm.length_eq]
    have := rv.length
    omega
/-! extend with a tuple -/
theorem list_extend_tup (l : Addr) (items : Array Value) (n : Nat) (b : Addr) (items2 : Array Value) (n2 : Nat) (dd : Option Addr) (sl : Array (Option Value)) (hs0 : ¬(!items.isEmpty && Builtin.List.listTooLong (items.size + items2.size)) = true) (hs1 : items.size ≤ sizeLine) (hs2 : items.size + items2.size ≤ sizeLine + 1) :
    Meets (Builtin.«list.extend» ⟨[.ref l, .ref b], []⟩) (fun _ R s => s.heap.get? l = some { cls := .type "list", dict := none, data := .seq items n, slots := #[] } ∧ s.heap.get? b = some { cls := .type "tuple", dict := dd, data := .seq items2 n2, slots := sl } ∧ R (.ok (.ret Value.none)) { s with heap := s.heap.update l (Obj.mapSeq fun x => x ++ items2), toks := s.toks }) :=
  .of_wp fun prog w A R s h => by
    obtain ⟨hp, g, d, tk, os⟩ := s; obtain ⟨hl, hb, h⟩ := h; have f1 := AutoSeq1.idx_int; have f2 := AutoSeq1.sub_tuple_tuple; have f3 := AutoSeq1.sub_list_list; have f4 := AutoSeq1.sub_tuple_list; have f5 := AutoSeq1.sub_list_tuple;
    have hz' : (items ++ items2).size ≤ sizeLine + 1 := by rw [Array.size_append]; exact hs2
    wp_walk using (wpAny_updateSeq hl rfl (hz := hs1) (_hz' := hz')), wpAny_loadPart' hl, wpAny_loadPart' hb; exact ⟨_, rfl, h⟩
def rExtendT (K : PySem.W.Frag) : V → List V → Hp → VK → Prop := fun x vs H Q => ∃ l b xs zs, x = .ref l ∧ vs = [.ref b] ∧ H l = some (.lst xs) ∧ SqT K H b zs ∧ xs.length + zs.length ≤ sizeLine ∧ Q .non (upd H l (.lst (xs ++ zs)))
theorem mt_extendT : MtM X "list.extend" (rExtendT X.K) := by
  intro pins s σ H x vs v us Q I rx rv h
  obtain ⟨l, b, xs, zs, rfl, rfl, hH, hB, hz, q⟩ := h
  cases rx
  obtain ⟨u, rfl, ru⟩ := rv.one
  cases ru
  obtain ⟨z, its, n, r, hl, e⟩ := I.lstM hH
  obtain ⟨its2, r2, ⟨⟨cls, dd, data, sl⟩, ho, hc, n2, hd⟩, hl2⟩ := I.tuple hB
  simp only at hc hd
  subst hc hd
  have l2 : zs.length = its2.length := r2.length
  have hsz : its.toArray.size + its2.toArray.size ≤ sizeLine := by rw [List.size_toArray, List.size_toArray]; omega
  have hlong : ¬ (!its.toArray.isEmpty && Builtin.List.listTooLong (its.toArray.size + its2.toArray.size)) = true := by
    rw [notLongL hsz, Bool.and_false]
    exact Bool.false_ne_true
  refine call_meets F.slot_list_extend ⟨_, e, rfl⟩ F.entry_list_extend (F.args_list_extend_2 _ _)
    (list_extend_tup l its.toArray n b its2.toArray n2 dd sl hlong (by rw [List.size_toArray]; omega) (by omega)) ⟨e, ho, ?_⟩
  refine ⟨.non, _, I.lset (its' := its ++ its2) hH e (by simp) (r.append r2) ?_, rfl, q⟩
  rw [List.length_append]
  omega
/-! in -/
def rInX (K : PySem.W.Frag) (neg : Bool) : R2 := fun x y H Q => ∃ d ds, Dp K H x d ∧ (Dp K H y (.list ds) ∨ Dp K H y (.tuple ds)) ∧ PyData.canLayAll0 ds = true ∧ d.canLay0 = true ∧ d.depth ≤ 20 ∧ Q (.bl (neg ^^ ds.any fun q => PyData.eqv q d)) H
theorem op_inX_ (hu : X.A.units + 64 < cLine) : OpR X (compareOp .In) (rInX X.K false) := by
  intro pins s σ H x y v u Q I rx ry h
  obtain ⟨d, ds, hd, he, c1, c2, dp, q⟩ := h
  obtain ⟨as, r1⟩ := Dp.reads I d x v hd rx
  have hu2 : X.A.units + 1 + min (PyData.depthAll ds) d.depth < cLine := by omega
  rcases he with he | he
  · obtain ⟨bs, r2⟩ := Dp.reads I (.list ds) y u he ry
    exact SeqAt.in_list_reads r2 r1 c1 c2 hu2 ⟨.bl _, H, I, rfl, by simpa using q⟩
  · obtain ⟨bs, r2⟩ := Dp.reads I (.tuple ds) y u he ry
    exact SeqAt.in_tuple_reads r2 r1 c1 c2 hu2 ⟨.bl _, H, I, rfl, by simpa using q⟩
theorem op_ninX_ (hu : X.A.units + 64 < cLine) : OpR X (compareOp .NotIn) (rInX X.K true) := by
  intro pins s σ H x y v u Q I rx ry h
  obtain ⟨d, ds, hd, he, c1, c2, dp, q⟩ := h
  obtain ⟨as, r1⟩ := Dp.reads I d x v hd rx
  have hu2 : X.A.units + 1 + min (PyData.depthAll ds) d.depth < cLine := by omega
  rcases he with he | he
  · obtain ⟨bs, r2⟩ := Dp.reads I (.list ds) y u he ry
    exact SeqAt.notIn_list_reads r2 r1 c1 c2 hu2 ⟨.bl _, H, I, rfl, by simpa using q⟩
  · obtain ⟨bs, r2⟩ := Dp.reads I (.tuple ds) y u he ry
    exact SeqAt.notIn_tuple_reads r2 r1 c1 c2 hu2 ⟨.bl _, H, I, rfl, by simpa using q⟩
end
end L2
namespace DL
open PySem PySem.Spec PyProof.Rows L2
section
variable {X : Cx} {g : Gx} {e : En} {W : WX} {a b : Expr} {pos : Pos} {f f' : DE}
/-- x in a list or a tuple, of nested data -/
def fInX (neg : Bool) : DOp := fun x y S k => ∃ d ds, pyT S x = some d ∧ (pyT S y = some (.list ds) ∨ pyT S y = some (.tuple ds)) ∧ PyData.canLayAll0 ds = true ∧ d.canLay0 = true ∧ d.depth ≤ 20 ∧ k (.bl (neg ^^ ds.any fun q => PyData.eqv q d)) S
theorem q_fInX : type_of% @DL.fInX.eq_1 := @DL.fInX.eq_1
theorem ok_inX {neg : Bool} : OpOk g e (rInX g.K neg) (fInX neg) := by
  rintro H Hi S v w x y k Q i rv rw' ⟨d, ds, h1, h2, c1, c2, dp, q⟩ hk
  exact ⟨d, ds, pyT_rep i.ok rv h1, h2.imp (fun z => pyT_rep i.ok rw' z) (fun z => pyT_rep i.ok rw' z), c1, c2, dp, hk (.bl _) S _ H Hi i (Same.refl _) rfl q⟩
theorem de_inX (C : Cxt X g e W) (hu : X.A.units + 64 < cLine) (ha : PE X a (lift g e W f)) (hb : PE X b (lift g e W f')) (hm : behindInMarks .In b = false := by rfl) : PE X (.Compare a [.In] [b] pos) (lift g e W (d2 (fInX false) f f')) := de_cmp (by rw [← C.K]; exact op_inX_ hu) ok_inX ha hb hm
theorem de_ninX (C : Cxt X g e W) (hu : X.A.units + 64 < cLine) (ha : PE X a (lift g e W f)) (hb : PE X b (lift g e W f')) (hm : behindInMarks .NotIn b = false := by rfl) : PE X (.Compare a [.NotIn] [b] pos) (lift g e W (d2 (fInX true) f f')) := de_cmp (by rw [← C.K]; exact op_ninX_ hu) ok_inX ha hb hm
theorem dt_inX (C : Cxt X g e W) (hu : X.A.units + 64 < cLine) (ha : PE X a (lift g e W f)) (hb : PE X b (lift g e W f')) (hm : behindInMarks .In b = false := by rfl) : PT X (.Compare a [.In] [b] pos) (liftT g e W (dTst (d2 (fInX false) f f'))) := dt_cmp (by rw [← C.K]; exact op_inX_ hu) ok_inX ha hb hm
theorem dt_ninX (C : Cxt X g e W) (hu : X.A.units + 64 < cLine) (ha : PE X a (lift g e W f)) (hb : PE X b (lift g e W f')) (hm : behindInMarks .NotIn b = false := by rfl) : PT X (.Compare a [.NotIn] [b] pos) (liftT g e W (dTst (d2 (fInX true) f f'))) := dt_cmp (by rw [← C.K]; exact op_ninX_ hu) ok_inX ha hb hm
def lExtendT : List D → List D → (D → List D → Prop) → Prop := fun xs ds k => ∃ zs, ds = [.tup zs] ∧ xs.length + zs.length ≤ 16777216 ∧ k .non (xs ++ zs)
@[simp] theorem q_lExtendT : type_of% @DL.lExtendT.eq_1 := @DL.lExtendT.eq_1
theorem ok_extendT {g : Gx} : MtOk g (rExtendT g.K) lExtendT := by
  rintro H Hi S p us vs xs ds Q k o h1 r1 r2 ⟨zs, rfl, hl, q⟩ hk
  obtain ⟨v, rfl, rv⟩ := Reps.one r2
  obtain ⟨b, ws, rfl, hb, rw_⟩ := rv
  exact ⟨p, b, us, ws, rfl, rfl, h1, SqT.of (o.sub _ _ hb), by rw [r1.length, rw_.length]; exact sz_of hl, hk _ _ _ _ q rfl (r1.append rw_)⟩
theorem mt_extendTX (C : Cxt X g e W) : MtM X "list.extend" (rExtendT g.K) := by rw [← C.K]; exact mt_extendT
/-- sorted: pairs of ints -/
def bSortedPA : DBiM := fun ds S k => ∃ (d : D) (ps : List (Int × Int)), ds = [d] ∧ lstOrScr S d = some (ps.map pii) ∧ ∀ qs : List (Int × Int), qs.Perm ps → Asc qs → k (qs.map pii) S
@[simp] theorem q_bSortedPA : type_of% @DL.bSortedPA.eq_1 := @DL.bSortedPA.eq_1
theorem call_sortedPAX (C : Cxt X g e W) : CallR X (.builtin "sorted") (rSortedPA g.K) := by rw [← C.K]; exact cr_sortedPA
theorem ok_sortedPA : BiOkM g e (rSortedPA g.K) bSortedPA := by
  rintro H Hi S vs ds k Q i r ⟨d, ps, rfl, hd, q⟩ hk
  obtain ⟨v, rfl, rv⟩ := r.one
  obtain ⟨a, us, rfl, h1, h2⟩ := lsOf_rep i.ok rv hd
  obtain ⟨z1, z2, z3⟩ := reps_zip h2
  refine ⟨a, us.zip ps, rfl, by rw [z1]; exact h1, fun x hx => ?_, fun L' p hp hs hn => ?_⟩
  · obtain ⟨t, e1, e2⟩ := rep_pii (z3 x hx)
    exact ⟨t, e1, Same.tup i.ok.sub e2⟩
  · have rl := reps_of (g := g) (H := Hi) L' fun x hx => z3 x (hp.subset hx)
    have pp : (L'.map (·.2)).Perm ps := by rw [← z2]; exact hp.map _
    obtain ⟨n2, i2⟩ := isNewC i hn rl
    exact hk _ S p _ Hi n2 i2 (Same.refl _) (q _ pp hs)
end
end DL
end
/-! ## DL40 -/
section
set_option Elab.async false
set_option linter.all false
set_option maxRecDepth 100000
set_option maxHeartbeats 4000000
/-! over a list or a tuple -/
namespace DL
open PySem PySem.Spec PyProof.Rows L2
section
variable {X : Cx} {g : Gx} {e : En} {W : WX} {a tg : Expr}
def wOr (u w : DA) : DA := fun ρ S k E => u ρ S k E ∨ w ρ S k E
@[simp] theorem q_wOr : type_of% @DL.wOr.eq_1 := @DL.wOr.eq_1
theorem di_or {u w : DA} (h1 : PI X tg a (liftI g e W u)) (h2 : PI X tg a (liftI g e W w)) : PI X tg a (liftI g e W (wOr u w)) :=
  ⟨fun pins s σ H R I ⟨ρ, Hi, S, k, E, i, sl, q, hk, hx⟩ => q.elim (fun q => h1.run pins s σ H R I ⟨ρ, Hi, S, k, E, i, sl, q, hk, hx⟩) fun q => h2.run pins s σ H R I ⟨ρ, Hi, S, k, E, i, sl, q, hk, hx⟩⟩
end
end DL
end
/-! ## DL41 -/
section
set_option Elab.async false
set_option linter.all false
set_option maxRecDepth 100000
set_option maxHeartbeats 4000000
/-! from here on a name's list changes no more -/
namespace DL
open PySem PySem.Spec PyProof.Rows L2
def dFzv (n : Nat) (t : DS) : DS := fun ρ S D => ∃ p ds, ρ[n]? = some (some (.mu p)) ∧ S p = some (.lst ds) ∧ t (ρ.set n (some (.lst ds))) (S.del p) D
@[simp] theorem q_dFzv : type_of% @DL.dFzv.eq_1 := @DL.dFzv.eq_1
section
variable {X : Cx} {g : Gx} {e : En} {W : WX} {a : Stmt}
theorem fzv_imp {n : Nat} {t : DS} {D : Ends} {σ : L2.St} {H : Hp} (h : liftS g e W (dFzv n t) D σ H) : liftS g e W t D σ H := by
  obtain ⟨ρ, Hi, S, DD, i, sl, ⟨p, ds, hρ, hS, q⟩, ok⟩ := h
  obtain ⟨o, ho, hp, ⟨xs, hc, rs⟩, s2, k2, x2⟩ := i.ok.freeze hS
  rw [hc] at ho
  cases ho
  refine ⟨ρ.set n (some (.lst ds)), _, S.del p, DD, i.next k2 x2, ?_, q, ok.mono s2⟩
  obtain ⟨sl1, sl2⟩ := sl
  refine ⟨by rw [List.length_set]; exact sl1, fun j d e => ?_⟩
  by_cases c : n = j
  · subst c
    obtain ⟨v, h1, h2⟩ := sl2 n (.mu p) hρ
    have h2 : v = .ref p := h2
    subst h2
    have hlt : n < ρ.length := by
      rcases Nat.lt_or_ge n ρ.length with q | q
      · exact q
      · rw [List.getElem?_eq_none q] at hρ; cases hρ
    rw [List.getElem?_set_self hlt] at e
    cases e
    exact ⟨_, h1, p, xs, rfl, upd_same, rs.mono s2⟩
  · rw [List.getElem?_set_ne c] at e
    obtain ⟨v, h1, h2⟩ := sl2 j d e
    exact ⟨v, h1, h2.mono s2⟩
theorem ds_fzv {n : Nat} {t : DS} (h : PS X a (liftS g e W t)) : PS X a (liftS g e W (dFzv n t)) := h.imp fun D σ H z => fzv_imp z
end
end DL
end
/-! ## DL42 -/
section
set_option Elab.async false
set_option linter.all false
set_option maxRecDepth 100000
set_option maxHeartbeats 4000000
/-! a op b of two of one own class -/
namespace DL
open PySem PySem.Spec PyProof.Rows L2
section
open PySem.W
variable {prog : Program} {w : World} {A : Around} {E : Value → Shared → Prop} {s : Shared} {K : Frag} {x y C : Addr} {ox oy : Obj} {od od' : Option Obj} {f : Addr}
theorem own_binS {op : Operator} {Q : Value → Shared → Prop} (X : K.In s.heap) (I : InstAt s.heap x ox C od) (J : InstAt s.heap y oy C od') (hc : selfFirst K C = true)
    (hs : findIn K (.ref C) (PySem.dunder op.info.2) = some (some (.ref f))) (hf : isFn K (.ref f) = true)
    (h : wpAny (model prog w) A (call (.ref f) [.ref x, .ref y]) (PySem.W.CmpBack Q) E s) : wpAny (model prog w) A (binaryOp op (.ref x) (.ref y)) Q E s := by
  obtain ⟨cd, rest, hcd, hm⟩ := ksp_first hc
  rcases hi : op.info with ⟨sym, nm'⟩
  rw [hi] at hs
  dsimp only at hs
  have one := ksp_try X I hs hf h
  have K1 : Looks (model prog w) s.heap (typeOf (.ref x)) (.ref C) := I.type
  have K2 : Looks (model prog w) s.heap (typeOf (.ref y)) (.ref C) := J.type
  have K3 : Looks (model prog w) s.heap (fillsNumberSlot (.ref C) nm') true := fills_K X hcd hm hs
  simp only [binaryOp, hi]
  refine wpAny_holding (wpAny_bind ?_)
  unfold binaryOp1
  refine wpAny_bind (K1.here (wpAny_bind (K2.here (wpAny_bind (K3.here ?_)))))
  simp only [beq_self_eq_true, if_true]
  refine wpAny_bind (wpAny_pure ?_)
  simp only [Bool.and_false, Bool.false_and, Bool.false_eq_true, if_false]
  refine wpAny_bind (wpAny_pure ?_)
  simp only [Bool.false_eq_true, if_false, if_true]
  refine wpAny_bind (wpAny_mono one (fun r s' hr => ?_) fun _ _ z => z)
  obtain ⟨v, rfl, hq⟩ := hr
  exact wpAny_pure (wpAny_pure hq)
end
section
variable {X : Cx} {g : Gx} {e : En} {W : WX} {a b c : Expr} {pos : Pos} {f f' : DE} {k : Nat} {op : Operator} {ms : List (Nat × DFn)}
structure BinSOk (g : Gx) (P : Program) (w : World) (base : Heap) (k : Nat) (op : Operator) (ms : List (Nat × DFn)) : Prop where
  ok : ∀ c wf, ms.lookup c = some wf → ∃ f, PySem.W.selfFirst g.K (g.ca c) = true ∧ PySem.W.findIn g.K (.ref (g.ca c)) (PySem.dunder op.info.2) = some (some (.ref f)) ∧ PySem.W.isFn g.K (.ref f) = true ∧ DFnR g P w base k f wf
theorem BinSOk.one {g : Gx} {P : Program} {w : World} {base : Heap} {k : Nat} {op : Operator} {c0 : Nat} {wf0 : DFn} (h : ∃ f, PySem.W.selfFirst g.K (g.ca c0) = true ∧ PySem.W.findIn g.K (.ref (g.ca c0)) (PySem.dunder op.info.2) = some (some (.ref f)) ∧ PySem.W.isFn g.K (.ref f) = true ∧ DFnR g P w base k f wf0) : BinSOk g P w base k op [(c0, wf0)] :=
  ⟨fun c wf h1 => by obtain ⟨rfl, rfl⟩ := lk1 h1; exact h⟩
/-- a op b, both of one class -/
def dBinS (ms : List (Nat × DFn)) (fa fb : DE) : DE := fun ρ S k E => fa ρ S (fun x S1 => fb ρ S1 (fun y S2 => ∃ c fs fs' wf, insOf S2 x = some (c, fs) ∧ insOf S2 y = some (c, fs') ∧ ms.lookup c = some wf ∧ wf [x, y] S2 k E) E) E
@[simp] theorem q_dBinS : type_of% @DL.dBinS.eq_1 := @DL.dBinS.eq_1
theorem de_binS (C : Cxt X g e W) (B : BinSOk g X.prog X.w X.base k op ms) (hr : Room k X.A) (ha : PE X a (lift g e W f)) (hb : PE X b (lift g e W f')) : PE X (.BinOp a op b pos) (lift g e W (dBinS ms f f')) := by
  refine ⟨fun pins s σ H Q I ⟨ρ, Hi, S, k1, E, i, sl, q, hQ, hx⟩ => ?_⟩
  refine wpAny_BinOp (thn (ha.run pins s σ H (fun x H1 => ∃ dx S1 Hi1, Is g e H1 Hi1 S1 ∧ Same Hi Hi1 ∧ Rep g Hi1 x dx ∧ f' ρ S1 (fun y S2 => ∃ c fs fs' wf, insOf S2 dx = some (c, fs) ∧ insOf S2 y = some (c, fs') ∧ ms.lookup c = some wf ∧ wf [dx, y] S2 k1 E) E) I
    ⟨ρ, Hi, S, _, E, i, sl, q, fun d S' v H' Hi' i' s' r' q' => ⟨d, S', Hi', i', s', r', q'⟩, hx⟩) fun v s1 ⟨x, H1, I1, rx, dx, S1, Hi1, i1, s1', r1, q1⟩ => ?_)
  refine thn (hb.run pins s1 σ H1 (fun y H2 => ∃ dy S2 Hi2, Is g e H2 Hi2 S2 ∧ Same Hi1 Hi2 ∧ Rep g Hi2 y dy ∧ ∃ c fs fs' wf, insOf S2 dx = some (c, fs) ∧ insOf S2 dy = some (c, fs') ∧ ms.lookup c = some wf ∧ wf [dx, dy] S2 k1 E) I1
    ⟨ρ, Hi1, S1, _, E, i1, sl.mono s1', q1, fun d S' v H' Hi' i' s' r' q' => ⟨d, S', Hi', i', s', r', q'⟩, hx.mono s1'⟩) fun u s2 ⟨y, H2, I2, ry, dy, S2, Hi2, i2, s2', r2, c, fs, fs', wf, h1, h2, h3, q2⟩ => ?_
  obtain ⟨px, dx1, vs1, rfl, e1, _⟩ := insOf_rep i2.ok (r1.mono s2') h1
  obtain ⟨py, dy1, vs2, rfl, e2, _⟩ := insOf_rep i2.ok r2 h2
  obtain rfl : v = Value.ref px := rx
  obtain rfl : u = Value.ref py := ry
  obtain ⟨fa, hsf, hs, hf, F⟩ := B.ok c wf h3
  obtain ⟨_, O1, _⟩ := ins_get I2.hok e1
  obtain ⟨_, O2, _⟩ := ins_get I2.hok e2
  obtain ⟨od1, J1, _⟩ := O1.look
  obtain ⟨od2, J2, _⟩ := O2.look
  have hk : g.K.In s2.heap := by rw [← C.K]; exact I2.kIn
  refine own_binS hk J1 J2 hsf hs hf (thn (run_d (us := [.ref px, .ref py]) (vs := [.ref px, .ref py]) (ds := [dx, dy]) C F hr I2 (.cons rfl (.cons rfl .nil)) i2 ⟨r1.mono s2', r2, trivial⟩ q2 (KOk.mono hQ (s1'.trans s2')) ((hx.mono s1').mono s2')) fun _ _ z => back_of z)
end
end DL
end
/-! ## DL43 -/
section
set_option Elab.async false
set_option linter.all false
set_option maxRecDepth 100000
set_option maxHeartbeats 4000000
/-! methods called with keywords alone, in the parameters' order -/
namespace DL
open PySem PySem.Spec PyProof.Rows L2
structure MethK (g : Gx) (P : Program) (w : World) (base : Heap) (k : Nat) (m : Str) (c : Nat) (wf : DFn) (ks : List Str) : Prop where
  no : ∀ i, i < g.nA → g.an i ≠ m
  ok : ∃ n t fa fd ps, Cls g.K (g.ca c) ∧ Meth g.K (g.ca c) m fa ∧ DFnB g P w base k fa fd ps (dBody n t) ∧ (∀ ds S k E, wf ds S k E → ds.length = ps.length ∧ dBody n t ds S k E) ∧ ps.length = ks.length + 1 ∧ ∀ (s : Shared) (v : Value) (ws : List Value), ws.length = ks.length → BindsTo s fd ⟨[v], ks.zip ws⟩ (ps.zip (v :: ws))
theorem bindsKM {K : PySem.W.Frag} {x qual : Str} {params : Arguments} {body : List Stmt} {scope : Scope} {kws : List (Str × V)} {f : Addr} {fd : FuncData} {ps ks : List Str} (F : FunD K x qual params body scope [] kws f fd)
    (h : ∀ (kV doc pm : Value) (an : Option Addr) (cdv ct v : Value) (us : List Value), us.length = ks.length → bindArgs (PySem.W.fnOf x qual params body scope .none kV doc pm an cdv ct) ⟨[v], ks.zip us⟩ = pure (ps.zip (v :: us))) (s : Shared) (v : Value) (us : List Value) (hl : us.length = ks.length) : BindsTo s fd ⟨[v], ks.zip us⟩ (ps.zip (v :: us)) := by
  obtain ⟨oc, od, dV, kV, doc, pm, an, cdv, ct, osl, rfl, lk, hcd, hD, hK⟩ := F.ex
  rcases hD with ⟨_, rfl⟩ | ⟨e, _⟩
  · exact .of_eq (h kV doc pm an cdv ct v us hl)
  · exact absurd rfl e
section
variable {X : Cx} {g : Gx} {e : En} {W : WX} {a b : Expr} {pos apos kpos p : Pos} {kws : List Keyword} {f : DE} {u : DA} {m : Str} {k : Nat} {pl : Sem Bool}
theorem de_methK {c0 : Nat} {wf0 : DFn} {ks : List Str} (C : Cxt X g e W) (M : MethK g X.prog X.w X.base k m c0 wf0 ks) (hr : Room k X.A) (hf : PE X b (lift g e W f)) (ha : PK X kws (liftA g e W u))
    (hall : (backToKw pos (keywordEach kws X.env)).all (·.1.isSome) = true := by rfl) (hks : (backToKw pos (keywordEach kws X.env)).filterMap (·.1) = ks := by rfl)
    (hpl : ((backTo pos (starEach [] X.env)).any (·.1) || (backToKw pos (keywordEach kws X.env)).any (·.1.isNone)) = false := by rfl)
    (ht : eval (.Call (.Attribute b m apos) [] kws pos) X.env = (do
      let ov ← eval b X.env
      standAt apos.atName
      let (f, first) ← holding [ov] (getMethod ov m pl)
      callWith pos f first (backTo pos (starEach [] X.env)) (backToKw pos (keywordEach kws X.env))) := by rfl) : PE X (.Call (.Attribute b m apos) [] kws pos) (lift g e W (dMeth [(c0, wf0)] f u)) := by
  refine ⟨fun pins s σ H Q I ⟨ρ, Hi, S, k1, E, i, sl, q, hQ, hx⟩ => ?_⟩
  refine PySem.W.methodCall_KW (pl := pl) (thn (hf.run pins s σ H (fun x H1 => ∃ p c dx vs wf d S1 Hi1, x = .ref p ∧ H1 p = some (.ins (g.ca c) dx vs) ∧ vs.lookup m = none ∧ [(c0, wf0)].lookup c = some wf ∧ Is g e H1 Hi1 S1 ∧ Same Hi Hi1 ∧ Rep g Hi1 (.ref p) d ∧ u ρ S1 (fun ds S2 => wf (d :: ds) S2 k1 E) E) I
    ⟨ρ, Hi, S, _, E, i, sl, q, fun d S1 v H1 Hi1 i1 s1 r1 ⟨c, fs, wf, h1, h2, q1⟩ => ?_, hx⟩) fun v s1 ⟨x, H1, I1, rx, p, c, dx, vs, wf, d, S1, Hi1, ex, ea, hl, hw, i1, s1', r1, q1⟩ => ?_) ht
  · obtain ⟨p, dx, vs, rfl, h4, h5⟩ := insOf_rep i1.ok r1 h1
    exact ⟨p, c, dx, vs, wf, d, S1, Hi1, rfl, h4, h5.no M.no, h2, i1, s1, r1, q1⟩
  · subst ex
    obtain rfl : v = Value.ref p := rx
    obtain ⟨n, t, fa, fd, ps, hc, hm, F, hw0, pl0, hb⟩ := M.ok
    have ec : c = c0 ∧ wf = wf0 := by
      by_cases z : c = c0
      · subst z
        simp at hw
        exact ⟨rfl, hw.symm⟩
      · have b : (c == c0) = false := by simpa using z
        simp [List.lookup, b] at hw
    obtain ⟨rfl, rfl⟩ := ec
    refine getmeth_ok I1 ea (by rw [C.K]; exact hc) (by rw [C.K]; exact hm) hl ?_
    refine PySem.W.callWith_KW0 (first := [.ref p]) (h₀ := X.base) I.ok.mod.kin (by rw [C.K]; exact hm.kp) hall (thn (ha.run pos pins s1 σ H1 _ I1 (liftA_of i1 (sl.mono s1') q1 (hx.mono s1'))) fun ws s2 ⟨vs2, H2, I2, r2, ds, S2, Hi2, i2, s2', r2', q2⟩ => ⟨I2.kIn, ?_⟩) hpl
    rw [hks]
    obtain ⟨hl2, q3⟩ := hw0 _ _ _ _ q2
    have F' : FnB X.prog X.w X.K X.mg X.base k fa fd ps (spD g (dBody n t)) := by rw [C.K, C.mg]; exact F
    have lv : vs2.length = ks.length := by rw [r2'.length]; simp at hl2; omega
    have lw : ws.length = ks.length := by rw [← r2.length]; exact lv
    refine wpAny_call (codeAny_mono (F' X.A X.stack s2 H2 ⟨[.ref p] ++ [], ks.zip ws⟩ (.ref p :: ws) (.ref p :: vs2) Q (WE W σ) hr C.gd I2.env0 (hb s2 (.ref p) ws lw) (.cons rfl r2) (by simp; omega) (spD_of i2 (ds := d :: ds) ⟨r1.mono s2', r2'⟩ q3 (KOk.mono hQ (s1'.trans s2')) ((hx.mono s1').mono s2'))) fun r' s' z => ?_)
    match r', z with
    | .error e', z => exact C.pass σ pins H2 s2 e' s' I2 z
    | .ok (.ret u), z => exact I2.after z
    | .ok .next, z => exact z.elim
    | .ok .brk, z => exact z.elim
    | .ok .cont, z => exact z.elim
end
end DL
end
/-! ## DL44 -/
section
set_option Elab.async false
set_option linter.all false
set_option maxRecDepth 100000
set_option maxHeartbeats 4000000
/-! sorted(a tuple of ints) -/
namespace L2
open PySem PySem.Spec PyProof.Rows
theorem collect_at {prog : Program} {w : World} {A : Around} {E : Value → Shared → Prop} {s : Shared} {Q : List Value → Shared → Prop} (it : Addr) {o : Obj} {items : Array Value} {n : Nat}
    (ho : s.heap.get? it = some o) (hc : o.cls = .type "tuple") (hd : o.data = .seq items n) (hz : items.size ≤ sizeLine)
    (hQ : Q items.toList { s with heap := (s.heap.push { cls := .type "list", data := .seq #[] }).update s.heap.objs.size (Obj.mapSeq fun x => x ++ items) }) :
    wpAny (model prog w) A (collect (.ref it)) Q E s := by
  unfold collect
  have hS : (s.heap.push { cls := .type "list", data := .seq #[] }).get? s.heap.objs.size = some { cls := .type "list", data := .seq #[] } := Heap.get?_push_size s.heap rfl
  have hS2 := Heap.get?_update_self (Obj.mapSeq fun x => x ++ items) hS rfl
  refine wpAny_bind (wpAny_runValue (codeAny_builtin F.entry_proto_collect ?_))
  rw [Around.under_plainId F.plain_proto_collect]
  refine wpAny_bind (wpAny_newObj_type (wpAny_pure ⟨plainId_quiet F.plain_list_iadd _, codeAny_builtin F.entry_list_iadd ?_⟩))
  rw [Around.under_plainId F.plain_list_iadd]
  refine wpAny_mono (wpAny_extend_seq (R := fun r s' => r = Except.ok (Flow.ret (.ref s.heap.objs.size)) ∧ s' = { s with heap := (s.heap.push { cls := .type "list", data := .seq #[] }).update s.heap.objs.size (Obj.mapSeq fun x => x ++ items) }) s.heap.objs.size it (.ref s.heap.objs.size) 0 (.inr rfl) hS (Heap.get?_push_of_some _ ho) hc hd ⟨rfl, rfl⟩ hz) ?_ ?_
  · rintro fin s' h
    have go : wpAny (model prog w) A (do
        let o ← load s.heap.objs.size
        match o.data with
          | .seq xs epoch => pure xs.toList
          | _ => unsupported "internal:collect") Q E { s with heap := (s.heap.push { cls := .type "list", data := .seq #[] }).update s.heap.objs.size (Obj.mapSeq fun x => x ++ items) } := by
      refine wpAny_bind (wpAny_load hS2 (wpAny_pure ?_))
      simpa using hQ
    cases fin with
    | done f =>
      obtain ⟨h1, rfl⟩ := h
      cases h1
      exact go
    | again c =>
      obtain ⟨h1, h2⟩ := h
      refine ⟨h1, codeAny_mono h2 ?_⟩
      rintro r s2 ⟨rfl, rfl⟩
      exact go
  · rintro e s' ⟨h, _⟩
    cases h
theorem sorted_tup {prog : Program} {w : World} {A : Around} {E : Value → Shared → Prop} {s : Shared} {Q : Value → Shared → Prop} (it : Addr) {o : Obj} {vs : List Value} {ns : List Int} {n : Nat}
    (ho : s.heap.get? it = some o) (hc : o.cls = .type "tuple") (hd : o.data = .seq vs.toArray n) (hz : vs.length ≤ sizeLine) (hi : IntsAre vs ns)
    (hQ : ∀ (h' : Heap) (d : Addr) (out : List Value) (ns' : List Int), (∀ b o', s.heap.get? b = some o' → h'.get? b = some o') → s.heap.objs.size ≤ d → (∃ e, h'.get? d = some (seqObj "list" out.toArray e)) → IntsAre out ns' → ns'.Perm ns → ns'.Pairwise (· ≤ ·) → Q (.ref d) { s with heap := h' }) :
    wpAny (model prog w) A (call (.builtin "sorted") [.ref it]) Q E s := by
  refine Calls.call_function_entry kind_sorted plain_sorted entry_sorted (args_sorted1 _) ?_
  have hS : (s.heap.push { cls := .type "list", data := .seq #[] }).get? s.heap.objs.size = some { cls := .type "list", data := .seq #[] } := Heap.get?_push_size s.heap rfl
  refine wpAny_bind (wpAny_pure (wpAny_bind (collect_at it ho hc hd (by rw [List.size_toArray]; exact hz) (wpAny_bind (wpAny_newList ?_ hz)))))
  obtain ⟨h1, e1⟩ : ∃ h1, h1 = (s.heap.push { cls := .type "list", data := .seq #[] }).update s.heap.objs.size (Obj.mapSeq fun x => x ++ vs.toArray) := ⟨_, rfl⟩
  have k1 : ∀ b o', s.heap.get? b = some o' → h1.get? b = some o' := fun b o' hb => by
    rw [e1]
    exact (Heap.get?_update_other _ _ (Nat.ne_of_gt (Heap.lt_size hb))).trans (Heap.get?_push_of_some _ hb)
  have z1 : h1.objs.size = s.heap.objs.size + 1 := by
    rw [e1, Heap.size_update, size_push']
  simp only [← e1]
  have hL : (h1.push { cls := .type "list", data := .seq vs.toArray }).get? h1.objs.size = some (seqObj "list" vs.toArray 0) := Heap.get?_push_size h1 rfl
  have k2 : ∀ b o', s.heap.get? b = some o' → b ≠ h1.objs.size ∧ (h1.push { cls := .type "list", data := .seq vs.toArray }).get? b = some o' := fun b o' hb => by
    have := Heap.lt_size hb
    exact ⟨by rw [z1]; exact Nat.ne_of_lt (Nat.lt_succ_of_lt this), Heap.get?_push_of_some _ (k1 b o' hb)⟩
  refine wpAny_bind (wpAny_holding (wpAny_call_entry slot_list_sort ⟨_, hL, rfl⟩ entry_list_sort ?_ (args_list_sort _)))
  refine SrtO.list_sort_ord (ltv := SrtO.ltIv) SrtO.swo_int hL hz (fun h2 => SrtO.ints_sortable hi h2) fun out g1 g2 => ?_
  refine ⟨_, rfl, wpAny_pure ⟨_, rfl, ?_⟩⟩
  obtain ⟨i1, i2, i3⟩ := SrtO.ints_out hi g1 g2
  obtain ⟨e, he⟩ := sortedHeap_at (out := out.toArray) hL
  refine hQ _ h1.objs.size out _ (fun b o' hb => ?_) (by rw [z1]; exact Nat.le_succ _) ⟨e, he⟩ i1 i2 i3
  obtain ⟨n1, n2⟩ := k2 b o' hb
  rw [sortedHeap_old n1 (by have := Heap.lt_size n2; exact this)]
  exact n2
def rSortedTu (K : PySem.W.Frag) : List V → Hp → VK → Prop := fun vs H Q => ∃ (a : Addr) (ns : List Int), vs = [V.ref a] ∧ SqT K H a (ns.map V.int) ∧ ∀ (ns' : List Int) (p : Addr), ns'.Perm ns → ns'.Pairwise (· ≤ ·) → H p = none → Q (.ref p) (upd H p (.lst (ns'.map V.int)))
section
variable {X : Cx}
theorem cr_sortedTu : CallR X (.builtin "sorted") (rSortedTu X.K) := by
  intro pins s σ H vs us Q I r h
  obtain ⟨a, ns, rfl, hs, q⟩ := h
  obtain ⟨its, rv, ⟨o, ho, hc, n, hd⟩, hz⟩ := I.tuple hs
  obtain rfl := Vals.ref1 r
  have hi : IntsAre its ns := rv.ints
  refine sorted_tup a ho hc hd (by rw [← rv.length]; exact hz) hi fun h' d out ns' k1 k2 he i1 i2 i3 => ?_
  have nl := k2
  obtain ⟨e, he⟩ := he
  refine ⟨.ref _, upd H d (.lst (ns'.map V.int)), I.laid (t' := s.toks) k1 k2 ⟨?_, out, e, vals_of_ints i1, he⟩, rfl, q ns' d i2 i3 (I.hok.fresh k2)⟩
  have := i2.length_eq
  rw [List.length_map] at hz ⊢
  omega
end
end L2
namespace DL
open PySem PySem.Spec PyProof.Rows L2
section
variable {X : Cx} {g : Gx} {e : En} {W : WX} {H Hi : Hp} {S : Sto}
def bSortedTu : DBiM := fun ds S k => ∃ (ns : List Int), ds = [.tup (ns.map D.int)] ∧ ∀ ns' : List Int, ns'.Perm ns → ns'.Pairwise (· ≤ ·) → k (ns'.map D.int) S
theorem ok_sortedTu : BiOkM g e (rSortedTu g.K) bSortedTu := by
  rintro H Hi S vs ds k Q i r ⟨ns, rfl, q⟩ hk
  obtain ⟨v, rfl, rv⟩ := r.one
  obtain ⟨a, us, rfl, h1, h2⟩ := rv
  have e1 := h2.of_int
  subst e1
  refine ⟨a, ns, rfl, SqT.of (i.ok.sub _ _ h1), fun ns' p hp hs hn => ?_⟩
  obtain ⟨n2, i2⟩ := isNewC i hn (Reps.map_int (g := g) (H := Hi) (ns := ns'))
  exact hk _ S p _ Hi n2 i2 (Same.refl _) (q ns' hp hs)
theorem call_sortedTuX (C : Cxt X g e W) : CallR X (.builtin "sorted") (rSortedTu g.K) := by rw [← C.K]; exact cr_sortedTu
end
@[simp] theorem q_bSortedTu : type_of% @DL.bSortedTu.eq_1 := @DL.bSortedTu.eq_1
end DL
end
/-! ## DL45 -/
section
set_option Elab.async false
set_option linter.all false
set_option maxRecDepth 100000
set_option maxHeartbeats 4000000
/-! tuple(range(n)); isinstance with two classes; one reading or another one -/
namespace DL
open PySem PySem.Spec PyProof.Rows L2
section
variable {X : Cx} {g : Gx} {e : En} {W : WX} {a b : Expr} {pos p p1 p2 p3 p4 : Pos} {f f' : DE} {x y : Str}
def dTupRg1 (f : DE) : DE := fun ρ S k E => f ρ S (fun x S1 => ∃ j, x = .int j ∧ RgOk 0 j ∧ k (.tup (rngD 0 (j - 0).toNat)) S1) E
theorem de_tupRg1 (C : Cxt X g e W) (hl : Gl X "tuple") (hml : g.mg "tuple" = none) (hg : Gl X "range") (hm : g.mg "range" = none) (ha : PE X a (lift g e W f)) (na : starEach [a] X.env = (false, eval a X.env) :: starEach [] X.env := by rfl)
    (nb : starEach [.Call (.Name "range" p) [a] [] pos] X.env = (false, eval (.Call (.Name "range" p) [a] [] pos) X.env) :: starEach [] X.env := by rfl) : PE X (.Call (.Name "tuple" p2) [.Call (.Name "range" p) [a] [] pos] [] p3) (lift g e W (dTupRg1 f)) :=
  (pe_tupRg C.calm hl (by rw [C.mg]; exact hml) (prg_1 hg (by rw [C.mg]; exact hm) ha na) nb).imp fun σ H Q ⟨ρ, Hi, S, k, E, i, sl, q, hk, hx⟩ => by
    refine ⟨ρ, Hi, S, _, E, i, sl, q, fun x S1 v H1 Hi1 i1 s1 r1 ⟨j, ex, hj, q1⟩ => ?_, hx⟩
    subst ex
    refine ⟨j, r1, hj, fun q hq => ?_⟩
    obtain ⟨i2, s2⟩ := isNew (o := .tup (rgV 0 j)) i1 hq
    exact hk (.tup (rngD 0 (j - 0).toNat)) S1 (.ref q) _ _ i2 (s1.trans s2) ⟨q, _, rfl, upd_same, rgV_rep (a := 0) (b := j)⟩ q1
@[simp] theorem q_dTupRg1 : type_of% @DL.dTupRg1.eq_1 := @DL.dTupRg1.eq_1
/-- one reading or another one -/
def dEi (f f' : DE) : DE := fun ρ S k E => f ρ S k E ∨ f' ρ S k E
@[simp] theorem q_dEi : type_of% @DL.dEi.eq_1 := @DL.dEi.eq_1
theorem de_ei (h1 : PE X a (lift g e W f)) (h2 : PE X a (lift g e W f')) : PE X a (lift g e W (dEi f f')) :=
  ⟨fun pins s σ H Q I ⟨ρ, Hi, S, k, E, i, sl, q, hk, hx⟩ => q.elim (fun q => h1.run pins s σ H Q I ⟨ρ, Hi, S, k, E, i, sl, q, hk, hx⟩) fun q => h2.run pins s σ H Q I ⟨ρ, Hi, S, k, E, i, sl, q, hk, hx⟩⟩
theorem kitAny2 {K : PySem.W.Frag} {t u v : Value} {b1 b2 : Bool} (h1 : PySem.W.kitOne K t u = some b1) (h2 : PySem.W.kitOne K t v = some b2) : PySem.W.kitAny K t [u, v] = some (b1 || b2) := by
  rw [PySem.W.kitAny.eq_2, h1]
  cases b1 with
  | true => rfl
  | false =>
    show PySem.W.kitAny K t [v] = _
    rw [PySem.W.kitAny.eq_2, h2]
    cases b2 <;> rfl
/-- isinstance(.., (T, U)): an answer for each type -/
structure IsiOk2 (g : Gx) (tab : TyD → Option Bool) (u u' : Value) : Prop where
  ok : ∀ t b, tab t = some b → PySem.W.kitAny g.K (t.v g) [u, u'] = some b ∧ ∀ c, t = .own c → ClsI g c
theorem de_isi2 {c1 c2 : Nat} {tab : TyD → Option Bool} {tx : Nat} (C : Cxt X g e W) (TT : IsiOk2 g tab (.ref (g.ca c1)) (.ref (g.ca c2))) (hg : Gl X "isinstance") (hm : g.mg "isinstance" = none) (hT : Gl X x) (hmT : g.mg x = some (.ref (g.ca c1))) (hU : Gl X y) (hmU : g.mg y = some (.ref (g.ca c2))) (h : PE X a (lift g e W f)) (hdT : (x == ("__debug__" : Str)) = false := by decide) (hdU : (y == ("__debug__" : Str)) = false := by decide)
    (hs : starEach [a, .Tuple [.Name x p2, .Name y p3] tx p4] X.env = (false, eval a X.env) :: starEach [.Tuple [.Name x p2, .Name y p3] tx p4] X.env := by rfl)
    (hs2 : starEach [.Tuple [.Name x p2, .Name y p3] tx p4] X.env = [(false, eval (.Tuple [.Name x p2, .Name y p3] tx p4) X.env)] := by rfl)
    (hs3 : starEach [.Name x p2, .Name y p3] X.env = (false, eval (.Name x p2) X.env) :: starEach [.Name y p3] X.env := by rfl) (hs4 : starEach [.Name y p3] X.env = [(false, eval (.Name y p3) X.env)] := by rfl) :
    PE X (.Call (.Name "isinstance" p1) [a, .Tuple [.Name x p2, .Name y p3] tx p4] [] pos) (lift g e W (dIsi tab f)) :=
  (pe_callB call_isiT hg (by rw [C.mg]; exact hm) PyProof.Rows.boot_isinstance (pa_cons h (pa_cons (pe_tup (pa_cons (pe_glob hT (by rw [C.mg]; exact hmT) (v := .ref (g.ca c1)) rfl hdT) (pa_cons (pe_glob hU (by rw [C.mg]; exact hmU) (v := .ref (g.ca c2)) rfl hdU) pa_nil hs4) hs3)) pa_nil hs2) hs) (by decide) (by decide) hs (by rw [hs2]; rfl)).imp fun σ H Q ⟨ρ, Hi, S, k, E, i, sl, q, hk, hx⟩ => by
    refine ⟨ρ, Hi, S, _, E, i, sl, q, fun d S1 y H1 Hi1 i1 s1 r1 ⟨t, bb, h1, h2, q1⟩ => ?_, hx⟩
    refine ⟨by rw [sizeLine_eq]; simp, fun q hq => ?_⟩
    obtain ⟨i2, s2⟩ := isNew (o := .tup [.ref (g.ca c1), .ref (g.ca c2)]) i1 hq
    obtain ⟨h3, h4⟩ := TT.ok t bb h2
    refine ⟨y, q, [.ref (g.ca c1), .ref (g.ca c2)], t.v g, [.ref (g.ca c1), .ref (g.ca c2)], bb, rfl, upd_same, .cons (.own (g.ca c1)) (.cons (.own (g.ca c2)) .nil), by rw [C.K]; exact tyOf_rep i2.ok (r1.mono s2) h1 h4, by rw [C.K]; exact h3, hk (.bl bb) S1 _ _ _ i2 (s1.trans s2) rfl q1⟩
end
end DL
end
/-! ## DL46 -/
section
set_option Elab.async false
set_option linter.all false
set_option maxRecDepth 100000
set_option maxHeartbeats 4000000
/-! a op b: a's class answers, though b's class could answer the other way round -/
namespace DL
open PySem PySem.Spec PyProof.Rows L2
section
open PySem.W
variable {prog : Program} {w : World} {A : Around} {E : Value → Shared → Prop} {s : Shared} {K : Frag} {x y C C' : Addr} {ox oy : Obj} {od od' : Option Obj} {f f' : Addr}
theorem own_binL {op : Operator} {Q : Value → Shared → Prop} (X : K.In s.heap) (I : InstAt s.heap x ox C od) (J : InstAt s.heap y oy C' od') (hne : C ≠ C') (hc : selfFirst K C = true) (hc' : selfFirst K C' = true) {rc : Option Value}
    (hs : findIn K (.ref C) (PySem.dunder op.info.2) = some (some (.ref f))) (hf : isFn K (.ref f) = true) (hr : findIn K (.ref C) (dunderR op.info.2) = some rc) (hp : rc = none ∨ ∃ z : Addr, rc = some (.ref z))
    (hs' : findIn K (.ref C') (dunderR op.info.2) = some (some (.ref f'))) {fc : Option Value} (hr' : findIn K (.ref C') (PySem.dunder op.info.2) = some fc) (hp' : fc = none ∨ ∃ z : Addr, fc = some (.ref z)) (hsub : subIn K (.ref C') (.ref C) = some false)
    (h : wpAny (model prog w) A (call (.ref f) [.ref x, .ref y]) (PySem.W.CmpBack Q) E s) :
    wpAny (model prog w) A (binaryOp op (.ref x) (.ref y)) Q E s := by
  obtain ⟨cd, rest, hcd, hm⟩ := ksp_first hc
  obtain ⟨cd', rest', hcd', hm'⟩ := ksp_first hc'
  rcases hi : op.info with ⟨sym, nm'⟩
  rw [hi] at hs hr hs' hr'
  dsimp only at hs hr hs' hr'
  have one := ksp_try X I hs hf h
  have K1 : Looks (model prog w) s.heap (typeOf (.ref x)) (.ref C) := I.type
  have K2 : Looks (model prog w) s.heap (typeOf (.ref y)) (.ref C') := J.type
  have K3 : Looks (model prog w) s.heap (fillsNumberSlot (.ref C) nm') true := fills_K X hcd hm hs
  have K4 : Looks (model prog w) s.heap (fillsNumberSlot (.ref C') nm') true := fills_R X hcd' hm' hs' hr' hp'
  have K5 : Looks (model prog w) s.heap (isSubtype (.ref C') (.ref C)) false := looks_subIn X hsub
  have K6 : Looks (model prog w) s.heap (numberSlotInPython (.ref C) nm') true := ksp_inPy X hs hr hp
  have K7 : Looks (model prog w) s.heap (numberSlotInPython (.ref C') nm') true := inPy_R X hs' hr' hp'
  have hne' : (Value.ref C == Value.ref C') = false := by simpa using hne
  simp only [binaryOp, hi]
  refine wpAny_holding (wpAny_bind ?_)
  unfold binaryOp1
  refine wpAny_bind (K1.here (wpAny_bind (K2.here (wpAny_bind (K3.here ?_)))))
  simp only [hne', Bool.false_eq_true, if_false]
  refine wpAny_bind (K4.here ?_)
  simp only [Bool.and_self, if_true]
  refine wpAny_bind (K5.here ?_)
  simp only [Bool.not_false, Bool.and_true, Bool.false_eq_true, if_false, if_true]
  refine wpAny_bind (K6.here ?_)
  simp only [if_true]
  refine wpAny_bind (K7.here ?_)
  simp only [Bool.not_true, Bool.false_eq_true, if_false, if_true]
  refine wpAny_bind (wpAny_mono one (fun r s' hr2 => ?_) fun _ _ z => z)
  obtain ⟨v, rfl, hq⟩ := hr2
  exact wpAny_pure (wpAny_pure hq)
end
section
variable {X : Cx} {g : Gx} {e : En} {W : WX} {a b c : Expr} {pos : Pos} {f f' : DE} {k : Nat} {op : Operator}
structure BinLOk (g : Gx) (P : Program) (w : World) (base : Heap) (k : Nat) (op : Operator) (c d : Nat) (wf : DFn) : Prop where
  ok : ∃ (f f' : Addr) (rc fc : Option Value), g.ca c ≠ g.ca d ∧ PySem.W.selfFirst g.K (g.ca c) = true ∧ PySem.W.selfFirst g.K (g.ca d) = true ∧ PySem.W.findIn g.K (.ref (g.ca c)) (PySem.dunder op.info.2) = some (some (.ref f)) ∧ PySem.W.isFn g.K (.ref f) = true ∧
    PySem.W.findIn g.K (.ref (g.ca c)) (dunderR op.info.2) = some rc ∧ (rc = none ∨ ∃ z : Addr, rc = some (.ref z)) ∧ PySem.W.findIn g.K (.ref (g.ca d)) (dunderR op.info.2) = some (some (.ref f')) ∧
    PySem.W.findIn g.K (.ref (g.ca d)) (PySem.dunder op.info.2) = some fc ∧ (fc = none ∨ ∃ z : Addr, fc = some (.ref z)) ∧ PySem.W.subIn g.K (.ref (g.ca d)) (.ref (g.ca c)) = some false ∧ DFnR g P w base k f wf
def dBinL (c d : Nat) (wf : DFn) (fa fb : DE) : DE := fun ρ S k E => fa ρ S (fun x S1 => fb ρ S1 (fun y S2 => (∃ fs, insOf S2 x = some (c, fs)) ∧ (∃ fs, insOf S2 y = some (d, fs)) ∧ wf [x, y] S2 k E) E) E
@[simp] theorem q_dBinL : type_of% @DL.dBinL.eq_1 := @DL.dBinL.eq_1
theorem de_binL {cn dn : Nat} {wf : DFn} (C : Cxt X g e W) (B : BinLOk g X.prog X.w X.base k op cn dn wf) (hr : Room k X.A) (ha : PE X a (lift g e W f)) (hb : PE X b (lift g e W f')) : PE X (.BinOp a op b pos) (lift g e W (dBinL cn dn wf f f')) := by
  refine ⟨fun pins s σ H Q I ⟨ρ, Hi, S, k1, E, i, sl, q, hQ, hx⟩ => ?_⟩
  refine wpAny_BinOp (thn (ha.run pins s σ H (fun x H1 => ∃ dx S1 Hi1, Is g e H1 Hi1 S1 ∧ Same Hi Hi1 ∧ Rep g Hi1 x dx ∧ f' ρ S1 (fun y S2 => (∃ fs, insOf S2 dx = some (cn, fs)) ∧ (∃ fs, insOf S2 y = some (dn, fs)) ∧ wf [dx, y] S2 k1 E) E) I
    ⟨ρ, Hi, S, _, E, i, sl, q, fun d S' v H' Hi' i' s' r' q' => ⟨d, S', Hi', i', s', r', q'⟩, hx⟩) fun v s1 ⟨x, H1, I1, rx, dx, S1, Hi1, i1, s1', r1, q1⟩ => ?_)
  refine thn (hb.run pins s1 σ H1 (fun y H2 => ∃ dy S2 Hi2, Is g e H2 Hi2 S2 ∧ Same Hi1 Hi2 ∧ Rep g Hi2 y dy ∧ (∃ fs, insOf S2 dx = some (cn, fs)) ∧ (∃ fs, insOf S2 dy = some (dn, fs)) ∧ wf [dx, dy] S2 k1 E) I1
    ⟨ρ, Hi1, S1, _, E, i1, sl.mono s1', q1, fun d S' v H' Hi' i' s' r' q' => ⟨d, S', Hi', i', s', r', q'⟩, hx.mono s1'⟩) fun u s2 ⟨y, H2, I2, ry, dy, S2, Hi2, i2, s2', r2, ⟨fs, h1⟩, ⟨fs', h2⟩, q2⟩ => ?_
  obtain ⟨px, dx1, vs1, rfl, e1, _⟩ := insOf_rep i2.ok (r1.mono s2') h1
  obtain ⟨py, dy1, vs2, rfl, e2, _⟩ := insOf_rep i2.ok r2 h2
  obtain rfl : v = Value.ref px := rx
  obtain rfl : u = Value.ref py := ry
  obtain ⟨fa, fb, rc, fc, hne, z1, z2, z3, z4, z5, z6, z7, z9, z10, z11, F⟩ := B.ok
  obtain ⟨_, O1, _⟩ := ins_get I2.hok e1
  obtain ⟨_, O2, _⟩ := ins_get I2.hok e2
  obtain ⟨od1, J1, _⟩ := O1.look
  obtain ⟨od2, J2, _⟩ := O2.look
  have hk : g.K.In s2.heap := by rw [← C.K]; exact I2.kIn
  refine own_binL hk J1 J2 hne z1 z2 z3 z4 z5 z6 z7 z9 z10 z11 (thn (run_d (us := [.ref px, .ref py]) (vs := [.ref px, .ref py]) (ds := [dx, dy]) C F hr I2 (.cons rfl (.cons rfl .nil)) i2 ⟨r1.mono s2', r2, trivial⟩ q2 (KOk.mono hQ (s1'.trans s2')) ((hx.mono s1').mono s2')) fun _ _ z => back_of z)
end
section
variable {X : Cx} {g : Gx} {e : En} {W : WX} {a b : Expr} {pos : Pos} {f f' : DE}
/-- s[i] of a text -/
def fIxS : DOp := fun x y S k => ∃ z i c, x = .str z ∧ y = .int i ∧ z.length ≤ sizeLine ∧ atI z.cps.toList i = some c ∧ k (.str { cps := #[c] }) S
@[simp] theorem q_fIxS : type_of% @DL.fIxS.eq_1 := @DL.fIxS.eq_1
theorem ok_ixS : OpOk g e rIxS fIxS := by
  rintro H Hi S v w x y k Q i rv rw' ⟨z, n, c, rfl, rfl, hz, hc, q⟩ hk
  obtain rfl : v = V.str z := rv
  obtain rfl : w = V.int n := rw'
  exact ⟨z, n, c, rfl, rfl, hz, hc, hk (.str { cps := #[c] }) S (V.str { cps := #[c] }) H Hi i (Same.refl _) (show V.str _ = V.str _ from rfl) q⟩
theorem de_ixS (C : Cxt X g e W) (ha : PE X a (lift g e W f)) (hb : PE X b (lift g e W f')) (hs : PlainIx b := by intro _ _; rfl) : PE X (.Subscript a b pos) (lift g e W (d2 fIxS f f')) :=
  (pe_ix ix_str ha hb hs).imp (lift2 ok_ixS)
end
end DL
end
/-! ## DL47 -/
section
set_option Elab.async false
set_option linter.all false
set_option maxRecDepth 100000
set_option maxHeartbeats 4000000
/-! C(*x, *y, ..): an instance made of several starred arguments -/
namespace DL
open PySem PySem.Spec PySem.Calls PyProof.Rows L2
theorem evalArgs_many {M : Model} {A : Around} {E : Value → Shared → Prop} {s : Shared} {f : Value} {x : Sem Value} {b : Bool × Sem Value} {rest : List (Bool × Sem Value)} {Q : Args → Shared → Prop}
    (h : wpAny M A (spliced ((true, x) :: b :: rest)) (fun vs s' => Q ⟨vs, []⟩ s') E s) : wpAny M A (evalArgs f true ((true, x) :: b :: rest) []) Q E s := by
  unfold evalArgs
  show wpAny M A (spliced ((true, x) :: b :: rest) >>= _) Q E s
  refine wpAny_bind (wpAny_mono h (fun vs s' h' => ?_) fun _ _ x => x)
  refine wpAny_holding ?_
  exact wpAny_bind (wpAny_pure (wpAny_bind (wpAny_pure (wpAny_pure h'))))
theorem callWith_S3 {M : Model} {A : Around} {E : Value → Shared → Prop} {s : Shared} {K : PySem.W.Frag} {env : PySem.Env} {pos p : Pos} {f : Value} {first : List Value} {Q : Value → Shared → Prop} {e e2 : Expr} {rest : List Expr} {t2 : Bool × Sem Value}
    (hk : PySem.W.keepIn K f = true) (h : wpAny M A (spliced (backTo pos (starEach (.Starred e p :: e2 :: rest) env))) (fun vs s₁ => K.In s₁.heap ∧ wpAny M A (call f (first ++ vs)) Q E s₁) E s)
    (he : starEach (.Starred e p :: e2 :: rest) env = (true, eval e env) :: t2 :: starEach rest env := by rfl) :
    wpAny M A (callWith pos f first (backTo pos (starEach (.Starred e p :: e2 :: rest) env)) []) Q E s := by
  rw [he] at h ⊢
  exact PySem.W.ks_call (by rfl) (PySem.W.keeps_K hk) (evalArgs_many h)
section
variable {X : Cx} {g : Gx} {e : En} {W : WX} {a a2 : Expr} {es : List Expr} {pos p p2 : Pos} {x : Str} {c k : Nat} {f : Addr} {wf : DFn} {u : DA} {imm : Bool} {t2 : Bool × Sem Value}
theorem de_makeSm (C : Cxt X g e W) (M : Mk g.K (g.ca c) f) (F : DFnR g X.prog X.w X.base k f wf) (hr : Room (k + 1) X.A) (hg : Gl X x) (hm : g.mg x = some (.ref (g.ca c))) (ha : PA X (.Starred a p2 :: a2 :: es) (liftA g e W u))
    (hdb : (x == ("__debug__" : Str)) = false := by decide) (he : starEach (.Starred a p2 :: a2 :: es) X.env = (true, eval a X.env) :: t2 :: starEach es X.env := by rfl) :
    PE X (.Call (.Name x p) (.Starred a p2 :: a2 :: es) [] pos) (lift g e W (dCall (dMk c imm wf) u)) := by
  refine ⟨fun pins s σ H Q I ⟨ρ, Hi, S, k1, E, i, sl, q, hQ, hx⟩ => ?_⟩
  refine wpAny_Call_Name_kw (ld_glob I hg (by rw [C.mg]; exact hm) ?_ hdb)
  refine callWith_S3 (t2 := t2) (by rw [C.K]; exact M.kp) (thn (ha.run pos pins s σ H _ I (liftA_of i sl q hx)) fun us s1 ⟨vs, H1, I1, r, ds, S1, Hi1, i1, s1', r1, q1⟩ => ⟨I1.kIn, ?_⟩) he
  exact run_mk C M F hr I1 r i1 r1 q1 (KOk.mono hQ s1') (hx.mono s1')
/-- {} -/
def dDnew : DE := fun _ S k _ => ∀ p, S p = none → k (.mu p) (S.set p (.dct []))
@[simp] theorem q_dDnew : type_of% @DL.dDnew.eq_1 := @DL.dDnew.eq_1
theorem de_dnew : PE X (.Dict [] [] pos) (lift g e W dDnew) := pe_dnewK.imp fun σ H Q ⟨ρ, Hi, S, k, E, i, sl, q, hk, hx⟩ => by
  intro L hL
  obtain ⟨n0, n1, n2⟩ := i.n0 hL
  refine hk (.mu L) _ (.ref L) _ Hi ?_ (Same.refl _) rfl (q L n2)
  have i2 := i.frg (o := .dK []) n0 n1 n2 (noTbl hL)
  refine ⟨⟨i2.ok.sub, fun b c z => ?_, i2.ok.tab⟩, ⟨i2.ext.imm, i2.ext.frm, fun b u z z1 z2 => ?_, i2.ext.kp⟩⟩
  · by_cases hb : b = L
    · subst hb; rw [Sto.set_same] at z; cases z; exact ⟨n1, [], upd_same, trivial⟩
    · rw [Sto.set_ne hb] at z; exact i2.ok.cell b c z
  · rw [Sto.set_ne (ne_of_none z n0)]; exact i2.ext.fre b u z z1 z2
end
end DL
end
/-! ## DL48 -/
section
set_option Elab.async false
set_option linter.all false
set_option maxRecDepth 100000
set_option maxHeartbeats 4000000
/-! tuples of flat values and own objects compared -/
namespace DL
open PySem PySem.Spec PyProof.Rows L2
open AutoSeq1 (wpAny_loadPart')
open MeetsSeq MeetsSeq2 MeetsSeq3 SeqRoads2
def dTMl (ms : List (Nat × DFn)) (rs : List Nat) : List D → List D → Sto → (Bool → Sto → Prop) → X1 → Prop
  | d :: ds, e :: es, S, k, E => (flt d = true ∧ flt e = true ∧ if dEqF d e = true then dTMl ms rs ds es S k E else k false S) ∨ ((May d e → dTMl ms rs ds es S k E) ∧ ∃ c fs d' fs' wf, insOf S d = some (c, fs) ∧ insOf S e = some (d', fs') ∧ ms.lookup c = some wf ∧ rs.contains d' = true ∧
      wf [d, e] S (fun r S' => ∃ b, r = .bl b ∧ if b = true then dTMl ms rs ds es S' k E else k false S') E)
  | _, _, S, k, _ => k true S
section
variable {X : Cx} {g : Gx} {e : En} {W : WX} {a b : Expr} {pos : Pos} {f f' : DE} {k : Nat} {ms : List (Nat × DFn)} {rs : List Nat}
theorem tmv_run (C : Cxt X g e W) (B : EqvOk g X.prog X.w X.base k ms rs) (hr : Room (k + 1) X.A) (hu : X.A.units + 64 < cLine) {pins : List (Addr × Obj)} {s : Shared} {σ : L2.St} {H Hi : Hp} {S : Sto} {Q : Bool → Hp → Prop} {kk : Bool → Sto → Prop} {E : X1} {ta tb : Addr} {ds es : List D}
    (I : Inv X pins σ H s) (i : Is g e H Hi S) (r1 : Rep g Hi (.ref ta) (.tup ds)) (r2 : Rep g Hi (.ref tb) (.tup es)) (q : dTMl ms rs ds es S kk E) (hx : XOk g e W Hi σ E)
    (hk : ∀ b S' H' Hi', Is g e H' Hi' S' → Same Hi Hi' → kk b S' → Q (b && decide (ds.length = es.length)) H') :
    wpAny (model X.prog X.w) X.A (richCompare .Eq (.ref ta) (.ref tb)) (fun r s' => ∃ z, r = .bool z ∧ ∃ H', Inv X pins σ H' s' ∧ Q z H') X.xe s := by
  obtain ⟨_, xs, e1, hx1, rx⟩ := r1
  cases e1
  obtain ⟨_, ys, e2, hy1, ry⟩ := r2
  cases e2
  obtain ⟨its, rv, ht, hz⟩ := I.tuple (SqT.of (i.ok.sub _ _ hx1) : SqT X.K H ta xs)
  obtain ⟨its2, rv2, ht2, hz2⟩ := I.tuple (SqT.of (i.ok.sub _ _ hy1) : SqT X.K H tb ys)
  obtain ⟨⟨cls, dd, data, sl⟩, ho, hc, n, hd⟩ := id ht
  obtain ⟨⟨cls2, dd2, data2, sl2⟩, ho2, hc2, n2, hd2⟩ := id ht2
  simp only at hc hd hc2 hd2
  subst hc hd hc2 hd2
  refine wpAny_richCompare_same_room (T := "tuple") (op := .Eq) ht.typeIs ht2.typeIs PySem.F.slot_tuple_eq (wpAny_call_entry PySem.F.slot_tuple_eq ht.typeIs PySem.F.entry_tuple_eq ?_ (PySem.F.args_tuple_eq_2 _ _)) (by omega)
  have lx := rx.length
  have ly := ry.length
  have l1 := rv.length
  have l2 := rv2.length
  refine tuple_eq_run ho ho2 (fun rest s' => ∃ vs ws us us2 ds' es' H' Hi' S', rest = us.zip us2 ∧ Vals vs us ∧ Vals ws us2 ∧ Inv X pins σ H' s' ∧ Is g e H' Hi' S' ∧ Same Hi Hi' ∧ Reps g Hi' vs ds' ∧ Reps g Hi' ws es' ∧ dTMl ms rs ds' es' S' kk E)
    ⟨xs, ys, its, its2, ds, es, H, Hi, S, by simp, rv, rv2, I, i, Same.refl _, rx, ry, q⟩ (fun y x rest s' h => ?_) fun s' h => ?_
  · obtain ⟨vs, ws, us, us2, ds', es', H', Hi', S', er, va, vb, I', i', sm, ra, rb, q'⟩ := h
    cases va with
    | nil => simp at er
    | @cons v0 u0 vs us h1 t1 =>
      cases vb with
      | nil => simp at er
      | @cons w0 u1 ws us2 h2 t2 =>
        simp only [List.zip_cons_cons, List.cons.injEq, Prod.mk.injEq] at er
        obtain ⟨⟨rfl, rfl⟩, rfl⟩ := er
        match ds', ra with
        | d :: ds', ⟨ra1, ra2⟩ =>
          match es', rb with
          | e' :: es', ⟨rb1, rb2⟩ =>
            rcases q' with ⟨fd, fe, q'⟩ | ⟨q1, c, fs, d2, fs', wf, g1, g2, g3, g4, q2⟩
            · have fv := flt_rep ra1 fd
              have fw := flt_rep rb1 fe
              refine eqAt_V h1 h2 fv fw X.prog X.w X.xe _ ?_
              rw [eqF_rep ra1 rb1 fd fe]
              by_cases z : dEqF d e' = true
              · rw [if_pos z] at q'
                rw [z, if_pos rfl]
                exact ⟨vs, ws, us, us2, ds', es', H', Hi', S', rfl, t1, t2, I', i', sm, ra2, rb2, q'⟩
              · rw [if_neg z] at q'
                have z' : dEqF d e' = false := by simpa using z
                rw [z', if_neg Bool.false_ne_true]
                exact ⟨false, rfl, H', I', by simpa using hk false S' H' Hi' i' sm q'⟩
            obtain ⟨px, dx1, vs1, rfl, a1, _⟩ := insOf_rep i'.ok ra1 g1
            obtain ⟨py, dx2, vs2, rfl, a2, _⟩ := insOf_rep i'.ok rb1 g2
            obtain rfl : y = Value.ref px := h1
            obtain rfl : x = Value.ref py := h2
            unfold eqBool
            refine wpAny_holding (wpAny_ite_split (fun hab => ?_) fun hab => ?_)
            · have eq : px = py := by have := eq_of_beq hab; injection this
              subst eq
              refine wpAny_bind (wpAny_rule (wpAny_pure ?_))
              rw [if_pos rfl]
              exact ⟨vs, ws, us, us2, ds', es', H', Hi', S', rfl, t1, t2, I', i', sm, ra2, rb2, q1 ⟨g, Hi', .ref px, ra1, rb1⟩⟩
            · obtain ⟨fa, hnf, hs, hf, hm, hne, F⟩ := B.ok c wf d2 g3 g4
              obtain ⟨_, O1, _⟩ := ins_get I'.hok a1
              obtain ⟨_, O2, _⟩ := ins_get I'.hok a2
              obtain ⟨od1, J1, _⟩ := O1.look
              obtain ⟨od2, J2, _⟩ := O2.look
              have hkk : g.K.In s'.heap := by rw [← C.K]; exact I'.kIn
              have kk' : KOk g e Hi' (fun r S1 => ∃ b, r = .bl b ∧ if b = true then dTMl ms rs ds' es' S1 kk E else kk false S1) (fun v H1 => ∃ b Hi1 S1, v = .bl b ∧ Is g e H1 Hi1 S1 ∧ Same Hi' Hi1 ∧ if b = true then dTMl ms rs ds' es' S1 kk E else kk false S1) := fun d S1 v H1 Hi1 i1 s1 r1 ⟨z, ed, q'⟩ => by
                subst ed
                exact ⟨z, Hi1, S1, r1, i1, s1, q'⟩
              have run := run_d1 (us := [.ref px, .ref py]) (vs := [.ref px, .ref py]) (ds := [d, e']) C F hr I' (.cons rfl (.cons rfl .nil)) i' ⟨ra1, rb1, trivial⟩ q2 kk' (hx.mono sm)
              obtain ⟨R, hR⟩ : ∃ R : Value → Shared → Prop, R = fun r s3 => ∃ z H3 Hi3 S3, r = .bool z ∧ Inv X pins σ H3 s3 ∧ Is g e H3 Hi3 S3 ∧ Same Hi' Hi3 ∧ if z = true then dTMl ms rs ds' es' S3 kk E else kk false S3 := ⟨_, rfl⟩
              have run2 : wpAny (model X.prog X.w) X.A.in1 (call (.ref fa) [.ref px, .ref py]) (fun r s3 => ∃ z, r = .bool z ∧ R (.bool z) s3) X.xe s' := wpAny_mono run (fun r s3 z => by
                obtain ⟨v3, H3, I3, r3, b3, Hi3, S3, ev, i3, s3', q3⟩ := z
                subst ev
                obtain rfl : r = Value.bool b3 := r3
                exact ⟨b3, rfl, by rw [hR]; exact ⟨b3, H3, Hi3, S3, rfl, I3, i3, s3', q3⟩⟩) fun _ _ z => z
              have hun : X.A.in1.units < cLine := by show X.A.units + 1 < cLine; omega
              have cmp : wpAny (model X.prog X.w) X.A.in1 (richCompare .Eq (.ref px) (.ref py)) R X.xe s' := own_cmp hun hkk J1 J2.type hnf (try_eq hkk J1 hs hf run2)
              refine wpAny_bind (wpAny_mono cmp (fun r s3 z => ?_) fun _ _ z => z)
              rw [hR] at z
              obtain ⟨z, H3, Hi3, S3, rfl, I3, i3, s3', q3⟩ := z
              refine wpAny_truthy_bool ?_
              cases z with
              | true =>
                  rw [if_pos rfl] at q3 ⊢
                  exact ⟨vs, ws, us, us2, ds', es', H3, Hi3, S3, rfl, t1, t2, I3, i3, sm.trans s3', ra2.mono s3', rb2.mono s3', q3⟩
              | false =>
                  rw [if_neg Bool.false_ne_true] at q3 ⊢
                  exact ⟨false, rfl, H3, I3, by simpa using hk false S3 H3 Hi3 i3 (sm.trans s3') q3⟩
  · obtain ⟨vs, ws, us, us2, ds', es', H', Hi', S', er, va, vb, I', i', sm, ra, rb, q'⟩ := h
    have em : us = [] ∨ us2 = [] := by
      cases us with
      | nil => exact .inl rfl
      | cons a l =>
        cases us2 with
        | nil => exact .inr rfl
        | cons b m => simp at er
    have kt : kk true S' := by
      rcases em with z | z
      · subst z
        cases va
        cases ds' with
        | nil => simpa [dTMl] using q'
        | cons => exact ra.elim
      · subst z
        cases vb
        cases es' with
        | nil =>
          cases ds' <;> simpa [dTMl] using q'
        | cons => exact rb.elim
    have := hk true S' H' Hi' i' sm kt
    refine ⟨_, rfl, H', I', ?_⟩
    have e5 : (its.toArray.size == its2.toArray.size) = (true && decide (ds.length = es.length)) := by
      rw [Bool.eq_iff_iff]
      simp
      omega
    rw [e5]
    exact this
def dEqM (ms : List (Nat × DFn)) (rs : List Nat) (fa fb : DE) : DE := fun ρ S k E => fa ρ S (fun x S1 => fb ρ S1 (fun y S2 => ∃ ds es, x = .tup ds ∧ y = .tup es ∧ dTMl ms rs ds es S2 (fun b S3 => k (.bl (b && decide (ds.length = es.length))) S3) E) E) E
@[simp] theorem q_dEqM : type_of% @DL.dEqM.eq_1 := @DL.dEqM.eq_1
theorem eqm_run (C : Cxt X g e W) (B : EqvOk g X.prog X.w X.base k ms rs) (hr : Room (k + 1) X.A) (hu : X.A.units + 64 < cLine) (ha : PE X a (lift g e W f)) (hb : PE X b (lift g e W f'))
    {pins : List (Addr × Obj)} {s : Shared} {σ : L2.St} {H : Hp} {Q : VK} (I : Inv X pins σ H s) (h : lift g e W (dEqM ms rs f f') σ H Q) :
    wpAny (model X.prog X.w) X.A (eval a X.env) (fun v s1 => wpAny (model X.prog X.w) X.A (eval b X.env) (fun u s2 => wpAny (model X.prog X.w) X.A (richCompare .Eq v u) (fun r s' => ∃ z, r = .bool z ∧ EP X pins σ Q (.bool z) s') X.xe s2) X.xe s1) X.xe s := by
  obtain ⟨ρ, Hi, S, k1, E, i, sl, q, hQ, hx⟩ := h
  obtain ⟨ko, hko⟩ : ∃ ko : D → D → Sto → Prop, ko = fun x y S2 => ∃ ds es, x = .tup ds ∧ y = .tup es ∧ dTMl ms rs ds es S2 (fun b S3 => k1 (.bl (b && decide (ds.length = es.length))) S3) E := ⟨_, rfl⟩
  have q : f ρ S (fun x S1 => f' ρ S1 (fun y S2 => ko x y S2) E) E := by rw [hko]; exact q
  refine thn (ha.run pins s σ H (fun x H1 => ∃ dx S1 Hi1, Is g e H1 Hi1 S1 ∧ Same Hi Hi1 ∧ Rep g Hi1 x dx ∧ f' ρ S1 (fun y S2 => ko dx y S2) E) I
    ⟨ρ, Hi, S, _, E, i, sl, q, fun d S' v H' Hi' i' s' r' q' => ⟨d, S', Hi', i', s', r', q'⟩, hx⟩) fun v s1 ⟨x, H1, I1, rx, dx, S1, Hi1, i1, s1', r1, q1⟩ => ?_
  refine thn (hb.run pins s1 σ H1 (fun y H2 => ∃ dy S2 Hi2, Is g e H2 Hi2 S2 ∧ Same Hi1 Hi2 ∧ Rep g Hi2 y dy ∧ ko dx dy S2) I1
    ⟨ρ, Hi1, S1, _, E, i1, sl.mono s1', q1, fun d S' v H' Hi' i' s' r' q' => ⟨d, S', Hi', i', s', r', q'⟩, hx.mono s1'⟩) fun u s2 ⟨y, H2, I2, ry, dy, S2, Hi2, i2, s2', r2, q2⟩ => ?_
  rw [hko] at q2
  obtain ⟨ds, es, rfl, rfl, q2⟩ := q2
  have r1' := r1.mono s2'
  obtain ⟨pa, xs, rfl, _⟩ := id r1'
  obtain ⟨pb, ys, rfl, _⟩ := id r2
  obtain rfl : v = Value.ref pa := rx
  obtain rfl : u = Value.ref pb := ry
  refine wpAny_mono (tmv_run (Q := fun z H' => Q (.bl z) H') C B hr hu I2 i2 r1' r2 q2 ((hx.mono s1').mono s2') fun b S' H' Hi' i' s' q' => hQ (.bl (b && decide (ds.length = es.length))) S' _ H' Hi' i' ((s1'.trans s2').trans s') rfl q') (fun r s' z => ?_) fun _ _ z => z
  obtain ⟨z, rfl, H', I', q'⟩ := z
  exact ⟨z, rfl, .bl z, H', I', rfl, q'⟩
theorem de_eqM (C : Cxt X g e W) (B : EqvOk g X.prog X.w X.base k ms rs) (hr : Room (k + 1) X.A) (hu : X.A.units + 64 < cLine) (ha : PE X a (lift g e W f)) (hb : PE X b (lift g e W f')) : PE X (.Compare a [.Eq] [b] pos) (lift g e W (dEqM ms rs f f')) :=
  ⟨fun pins s σ H Q I h => wpAny_Compare1 (wpAny_mono (eqm_run C B hr hu ha hb I h) (fun v s1 z => wpAny_mono z (fun u s2 z2 => wpAny_mono z2 (fun r s3 ⟨q, er, z3⟩ => by subst er; exact z3) fun _ _ y => y) fun _ _ y => y) fun _ _ y => y) (nomark _)⟩
theorem dt_eqM (C : Cxt X g e W) (B : EqvOk g X.prog X.w X.base k ms rs) (hr : Room (k + 1) X.A) (hu : X.A.units + 64 < cLine) (ha : PE X a (lift g e W f)) (hb : PE X b (lift g e W f')) : PT X (.Compare a [.Eq] [b] pos) (liftT g e W (dTst (dEqM ms rs f f'))) :=
  ⟨fun pins s σ H Q I h => wpAny_isTrue_Compare1 (wpAny_mono (eqm_run C B hr hu ha hb I (liftTst (f := dEqM ms rs f f') σ H Q h)) (fun v s1 z => wpAny_mono z (fun u s2 z2 => wpAny_mono z2 (fun r s3 ⟨q, er, z3⟩ => by subst er; exact bl_of z3 fun H' I' qq => ⟨H', I', qq⟩) fun _ _ y => y) fun _ _ y => y) fun _ _ y => y) (nomark _)⟩
end
/-! ### sorted of a list of texts -/
section
variable {X : Cx} {g : Gx} {e : En} {W : WX}
theorem Reps.of_str {H : Hp} : ∀ {vs : List V} {bs : List Str}, Reps g H vs (bs.map D.str) → vs = bs.map V.str
  | [], [], _ => rfl
  | v :: vs, b :: bs, ⟨h1, h2⟩ => by
    have h1 : v = .str b := h1
    rw [h1, Reps.of_str h2, List.map_cons]
  | [], _ :: _, h => h.elim
  | _ :: _, [], h => h.elim
theorem Reps.map_str {H : Hp} : ∀ {bs : List Str}, Reps g H (bs.map V.str) (bs.map D.str)
  | [] => trivial
  | b :: bs => ⟨rfl, Reps.map_str⟩
def bSortedS : DBiM := fun ds S k => ∃ (d : D) (ns : List Str), ds = [d] ∧ lstOf S d = some (ns.map D.str) ∧ ns.length < 64 ∧ ∀ ns' : List Str, ns'.Perm ns → sortedS ns' = true → k (ns'.map D.str) S
@[simp] theorem q_bSortedS : type_of% @DL.bSortedS.eq_1 := @DL.bSortedS.eq_1
theorem ok_sortedS : BiOkM g e (rSortedS g.K) bSortedS := by
  rintro H Hi S vs ds k Q i r ⟨d, ns, rfl, hd, hl, q⟩ hk
  obtain ⟨v, rfl, rv⟩ := r.one
  obtain ⟨a, us, rfl, h1, h2⟩ := lstOf_rep i.ok rv hd
  have e1 := h2.of_str
  subst e1
  refine ⟨a, ns, rfl, SqL.of h1, hl, fun ns' p hp hs hn => ?_⟩
  obtain ⟨n2, i2⟩ := isNewC i hn (Reps.map_str (g := g) (H := Hi) (bs := ns'))
  exact hk _ S p _ Hi n2 i2 (Same.refl _) (q ns' hp hs)
theorem call_sortedSX (C : Cxt X g e W) : CallR X (.builtin "sorted") (rSortedS g.K) := by rw [← C.K]; exact cr_sortedS
end
end DL
end
/-! ## DL49 -/
section
set_option Elab.async false
set_option linter.all false
set_option maxRecDepth 100000
set_option maxHeartbeats 4000000
/-! a tuple of flat values and own objects among the tuples of a tuple -/
namespace DL
open PySem PySem.Spec PyProof.Rows L2
open AutoSeq1 (wpAny_loadPart')
open MeetsSeq MeetsSeq2 MeetsSeq3 SeqRoads2
theorem tuple_contains_run {prog : Program} {w : World} {A : Around} {s : Shared} {E : Value → Shared → Prop} {Q : Value → Shared → Prop} {l : Addr} {items : Array Value} {n : Nat} {dd : Option Addr} {sl : Array (Option Value)} {x : Value}
    (hl : s.heap.get? l = some { cls := .type "tuple", dict := dd, data := .seq items n, slots := sl })
    (J : List Value → Shared → Prop) (h0 : J items.toList s)
    (step : ∀ y rest s', J (y :: rest) s' → wpAny (model prog w) A (eqBool y x) (fun r s'' => if r = true then Q (.bool true) s'' else J rest s'') E s')
    (fin : ∀ s', J [] s' → Q (.bool false) s') :
    wpAny (model prog w) A (Builtin.«tuple.__contains__» ⟨[.ref l, x], []⟩) (fun f s' => ∃ b : Bool, f = .done (.ret (.bool b)) ∧ Q (.bool b) s') E s := by
  obtain ⟨hp, g, d, tk, os⟩ := s
  wp_walk using wpAny_loadPart' hl, wpAny_forIn_array _ (fun rest b s' => b.1 = none ∧ J rest s') _
  case turn =>
    rintro y rest b s' ⟨hb', hR⟩
    refine wpAny_bind (wpAny_mono (step y rest s' hR) (fun r s'' hr => ?_) fun _ _ z => z)
    cases r with
    | true =>
      rw [if_pos rfl] at hr
      wp_walk
      exact ⟨true, rfl, hr⟩
    | false =>
      rw [if_neg Bool.false_ne_true] at hr
      wp_walk
      exact ⟨rfl, hr⟩
  case fin =>
    rintro ⟨b1, b2⟩ s' ⟨hb', hR⟩
    simp only at hb'
    subst hb'
    have := fin s' hR
    wp_walk
    exact ⟨false, rfl, this⟩
  case h =>
    exact ⟨rfl, h0⟩
section
variable {X : Cx} {g : Gx} {e : En} {W : WX} {a b : Expr} {pos : Pos} {f f' : DE} {k : Nat} {ms : List (Nat × DFn)} {rs : List Nat}
theorem run_d2 {pins : List (Addr × Obj)} {σ : L2.St} {H Hi : Hp} {S : Sto} {s : Shared} {fa : Addr} {wf : DFn} {Q : VK} {us : List Value} {vs : List V} {ds : List D} {k1 : K1} {E1 : X1} (C : Cxt X g e W) (F : DFnR g X.prog X.w X.base k fa wf) (hr : Room (k + 2) X.A) (I : Inv X pins σ H s) (r : Vals vs us)
    (i : Is g e H Hi S) (rs : Reps g Hi vs ds) (q : wf ds S k1 E1) (hk : KOk g e Hi k1 Q) (hx : XOk g e W Hi σ E1) : wpAny (model X.prog X.w) X.A.in1.in1 (call (.ref fa) us) (EP X pins σ Q) X.xe s := by
  have hg : X.A.in1.in1.guards = some [] := by
    have e1 : X.A.in1.in1.guards = X.A.guards := by first | rfl | simp [Around.in1, Around.under, Code.guards, Code.isGuard, guardIds, pushGuards]
    rw [e1]; exact C.gd
  have hsp := spD_of (σ := σ) (W := W) (wf := wf) i rs q hk hx
  refine wpAny_call (codeAny_mono (FnR.to C F X.A.in1.in1 X.stack s H us vs Q _ hr.in1.in1 hg I.env0.in1.in1 r hsp) fun r s' z => ?_)
  match r, z with
  | .error er, z => exact C.pass σ pins H s er s' I z
  | .ok (.ret u), z => exact I.after z
  | .ok .next, z => exact z.elim
  | .ok .brk, z => exact z.elim
  | .ok .cont, z => exact z.elim
theorem tmw_run (C : Cxt X g e W) (B : EqvOk g X.prog X.w X.base k ms rs) (hr : Room (k + 2) X.A) (hu : X.A.units + 64 < cLine) {pins : List (Addr × Obj)} {s : Shared} {σ : L2.St} {H Hi : Hp} {S : Sto} {Q : Bool → Hp → Prop} {kk : Bool → Sto → Prop} {E : X1} {ta tb : Addr} {ds es : List D}
    (I : Inv X pins σ H s) (i : Is g e H Hi S) (r1 : Rep g Hi (.ref ta) (.tup ds)) (r2 : Rep g Hi (.ref tb) (.tup es)) (q : dTMl ms rs ds es S kk E) (hx : XOk g e W Hi σ E)
    (hk : ∀ b S' H' Hi', Is g e H' Hi' S' → Same Hi Hi' → kk b S' → Q (b && decide (ds.length = es.length)) H') :
    wpAny (model X.prog X.w) X.A.in1 (richCompare .Eq (.ref ta) (.ref tb)) (fun r s' => ∃ z, r = .bool z ∧ ∃ H', Inv X pins σ H' s' ∧ Q z H') X.xe s := by
  obtain ⟨_, xs, e1, hx1, rx⟩ := r1
  cases e1
  obtain ⟨_, ys, e2, hy1, ry⟩ := r2
  cases e2
  obtain ⟨its, rv, ht, hz⟩ := I.tuple (SqT.of (i.ok.sub _ _ hx1) : SqT X.K H ta xs)
  obtain ⟨its2, rv2, ht2, hz2⟩ := I.tuple (SqT.of (i.ok.sub _ _ hy1) : SqT X.K H tb ys)
  obtain ⟨⟨cls, dd, data, sl⟩, ho, hc, n, hd⟩ := id ht
  obtain ⟨⟨cls2, dd2, data2, sl2⟩, ho2, hc2, n2, hd2⟩ := id ht2
  simp only at hc hd hc2 hd2
  subst hc hd hc2 hd2
  refine wpAny_richCompare_same_room (T := "tuple") (op := .Eq) ht.typeIs ht2.typeIs PySem.F.slot_tuple_eq (wpAny_call_entry PySem.F.slot_tuple_eq ht.typeIs PySem.F.entry_tuple_eq ?_ (PySem.F.args_tuple_eq_2 _ _)) (by show X.A.units + 1 < cLine; omega)
  have lx := rx.length
  have ly := ry.length
  have l1 := rv.length
  have l2 := rv2.length
  refine tuple_eq_run ho ho2 (fun rest s' => ∃ vs ws us us2 ds' es' H' Hi' S', rest = us.zip us2 ∧ Vals vs us ∧ Vals ws us2 ∧ Inv X pins σ H' s' ∧ Is g e H' Hi' S' ∧ Same Hi Hi' ∧ Reps g Hi' vs ds' ∧ Reps g Hi' ws es' ∧ dTMl ms rs ds' es' S' kk E)
    ⟨xs, ys, its, its2, ds, es, H, Hi, S, by simp, rv, rv2, I, i, Same.refl _, rx, ry, q⟩ (fun y x rest s' h => ?_) fun s' h => ?_
  · obtain ⟨vs, ws, us, us2, ds', es', H', Hi', S', er, va, vb, I', i', sm, ra, rb, q'⟩ := h
    cases va with
    | nil => simp at er
    | @cons v0 u0 vs us h1 t1 =>
      cases vb with
      | nil => simp at er
      | @cons w0 u1 ws us2 h2 t2 =>
        simp only [List.zip_cons_cons, List.cons.injEq, Prod.mk.injEq] at er
        obtain ⟨⟨rfl, rfl⟩, rfl⟩ := er
        match ds', ra with
        | d :: ds', ⟨ra1, ra2⟩ =>
          match es', rb with
          | e' :: es', ⟨rb1, rb2⟩ =>
            rcases q' with ⟨fd, fe, q'⟩ | ⟨q1, c, fs, d2, fs', wf, g1, g2, g3, g4, q2⟩
            · have fv := flt_rep ra1 fd
              have fw := flt_rep rb1 fe
              refine eqAt_V h1 h2 fv fw X.prog X.w X.xe _ ?_
              rw [eqF_rep ra1 rb1 fd fe]
              by_cases z : dEqF d e' = true
              · rw [if_pos z] at q'
                rw [z, if_pos rfl]
                exact ⟨vs, ws, us, us2, ds', es', H', Hi', S', rfl, t1, t2, I', i', sm, ra2, rb2, q'⟩
              · rw [if_neg z] at q'
                have z' : dEqF d e' = false := by simpa using z
                rw [z', if_neg Bool.false_ne_true]
                exact ⟨false, rfl, H', I', by simpa using hk false S' H' Hi' i' sm q'⟩
            obtain ⟨px, dx1, vs1, rfl, a1, _⟩ := insOf_rep i'.ok ra1 g1
            obtain ⟨py, dx2, vs2, rfl, a2, _⟩ := insOf_rep i'.ok rb1 g2
            obtain rfl : y = Value.ref px := h1
            obtain rfl : x = Value.ref py := h2
            unfold eqBool
            refine wpAny_holding (wpAny_ite_split (fun hab => ?_) fun hab => ?_)
            · have eq : px = py := by have := eq_of_beq hab; injection this
              subst eq
              refine wpAny_bind (wpAny_rule (wpAny_pure ?_))
              rw [if_pos rfl]
              exact ⟨vs, ws, us, us2, ds', es', H', Hi', S', rfl, t1, t2, I', i', sm, ra2, rb2, q1 ⟨g, Hi', .ref px, ra1, rb1⟩⟩
            · obtain ⟨fa, hnf, hs, hf, hm, hne, F⟩ := B.ok c wf d2 g3 g4
              obtain ⟨_, O1, _⟩ := ins_get I'.hok a1
              obtain ⟨_, O2, _⟩ := ins_get I'.hok a2
              obtain ⟨od1, J1, _⟩ := O1.look
              obtain ⟨od2, J2, _⟩ := O2.look
              have hkk : g.K.In s'.heap := by rw [← C.K]; exact I'.kIn
              have kk' : KOk g e Hi' (fun r S1 => ∃ b, r = .bl b ∧ if b = true then dTMl ms rs ds' es' S1 kk E else kk false S1) (fun v H1 => ∃ b Hi1 S1, v = .bl b ∧ Is g e H1 Hi1 S1 ∧ Same Hi' Hi1 ∧ if b = true then dTMl ms rs ds' es' S1 kk E else kk false S1) := fun d S1 v H1 Hi1 i1 s1 r1 ⟨z, ed, q'⟩ => by
                subst ed
                exact ⟨z, Hi1, S1, r1, i1, s1, q'⟩
              have run := run_d2 (us := [.ref px, .ref py]) (vs := [.ref px, .ref py]) (ds := [d, e']) C F hr I' (.cons rfl (.cons rfl .nil)) i' ⟨ra1, rb1, trivial⟩ q2 kk' (hx.mono sm)
              obtain ⟨R, hR⟩ : ∃ R : Value → Shared → Prop, R = fun r s3 => ∃ z H3 Hi3 S3, r = .bool z ∧ Inv X pins σ H3 s3 ∧ Is g e H3 Hi3 S3 ∧ Same Hi' Hi3 ∧ if z = true then dTMl ms rs ds' es' S3 kk E else kk false S3 := ⟨_, rfl⟩
              have run2 : wpAny (model X.prog X.w) X.A.in1.in1 (call (.ref fa) [.ref px, .ref py]) (fun r s3 => ∃ z, r = .bool z ∧ R (.bool z) s3) X.xe s' := wpAny_mono run (fun r s3 z => by
                obtain ⟨v3, H3, I3, r3, b3, Hi3, S3, ev, i3, s3', q3⟩ := z
                subst ev
                obtain rfl : r = Value.bool b3 := r3
                exact ⟨b3, rfl, by rw [hR]; exact ⟨b3, H3, Hi3, S3, rfl, I3, i3, s3', q3⟩⟩) fun _ _ z => z
              have hun : X.A.in1.in1.units < cLine := by show X.A.units + 1 + 1 < cLine; omega
              have cmp : wpAny (model X.prog X.w) X.A.in1.in1 (richCompare .Eq (.ref px) (.ref py)) R X.xe s' := own_cmp hun hkk J1 J2.type hnf (try_eq hkk J1 hs hf run2)
              refine wpAny_bind (wpAny_mono cmp (fun r s3 z => ?_) fun _ _ z => z)
              rw [hR] at z
              obtain ⟨z, H3, Hi3, S3, rfl, I3, i3, s3', q3⟩ := z
              refine wpAny_truthy_bool ?_
              cases z with
              | true =>
                  rw [if_pos rfl] at q3 ⊢
                  exact ⟨vs, ws, us, us2, ds', es', H3, Hi3, S3, rfl, t1, t2, I3, i3, sm.trans s3', ra2.mono s3', rb2.mono s3', q3⟩
              | false =>
                  rw [if_neg Bool.false_ne_true] at q3 ⊢
                  exact ⟨false, rfl, H3, I3, by simpa using hk false S3 H3 Hi3 i3 (sm.trans s3') q3⟩
  · obtain ⟨vs, ws, us, us2, ds', es', H', Hi', S', er, va, vb, I', i', sm, ra, rb, q'⟩ := h
    have em : us = [] ∨ us2 = [] := by
      cases us with
      | nil => exact .inl rfl
      | cons a l =>
        cases us2 with
        | nil => exact .inr rfl
        | cons b m => simp at er
    have kt : kk true S' := by
      rcases em with z | z
      · subst z
        cases va
        cases ds' with
        | nil => simpa [dTMl] using q'
        | cons => exact ra.elim
      · subst z
        cases vb
        cases es' with
        | nil =>
          cases ds' <;> simpa [dTMl] using q'
        | cons => exact rb.elim
    have := hk true S' H' Hi' i' sm kt
    refine ⟨_, rfl, H', I', ?_⟩
    have e5 : (its.toArray.size == its2.toArray.size) = (true && decide (ds.length = es.length)) := by
      rw [Bool.eq_iff_iff]
      simp
      omega
    rw [e5]
    exact this
/-- x in (tuples ..) -/
def dInTl (ms : List (Nat × DFn)) (rs : List Nat) (ds : List D) : List D → Sto → (Bool → Sto → Prop) → X1 → Prop
  | [], S, k, _ => k false S
  | e :: items, S, k, E => (May e (.tup ds) → k true S) ∧ ∃ es, e = .tup es ∧ dTMl ms rs es ds S (fun b S' => if (b && decide (es.length = ds.length)) = true then k true S' else dInTl ms rs ds items S' k E) E
theorem inm_run0 (C : Cxt X g e W) (B : EqvOk g X.prog X.w X.base k ms rs) (hr : Room (k + 2) X.A) (hu : X.A.units + 64 < cLine) {pins : List (Addr × Obj)} {s : Shared} {σ : L2.St} {H Hi : Hp} {S : Sto} {Q : Bool → Hp → Prop} {kk : Bool → Sto → Prop} {E : X1} {ta tb : Addr} {ds es : List D}
    (I : Inv X pins σ H s) (i : Is g e H Hi S) (r1 : Rep g Hi (.ref ta) (.tup ds)) (r2 : Rep g Hi (.ref tb) (.tup es)) (q : dInTl ms rs ds es S kk E) (hx : XOk g e W Hi σ E)
    (hk : ∀ b S' H' Hi', Is g e H' Hi' S' → Same Hi Hi' → kk b S' → Q b H') :
    wpAny (model X.prog X.w) X.A (contains (.ref tb) (.ref ta)) (fun z s' => ∃ H', Inv X pins σ H' s' ∧ Q z H') X.xe s := by
  obtain ⟨_, ys, e2, hy1, ry⟩ := id r2
  cases e2
  obtain ⟨its2, rv2, ht2, hz2⟩ := I.tuple (SqT.of (i.ok.sub _ _ hy1) : SqT X.K H tb ys)
  obtain ⟨⟨cls2, dd2, data2, sl2⟩, ho2, hc2, n2, hd2⟩ := id ht2
  simp only at hc2 hd2
  subst hc2 hd2
  refine wpAny_contains_slot ht2.typeIs PySem.F.slot_tuple_contains (wpAny_call_entry PySem.F.slot_tuple_contains ht2.typeIs PySem.F.entry_tuple_contains ?_ (PySem.F.args_tuple_contains_2 _ _))
  refine wpAny_mono (tuple_contains_run (Q := fun v s' => ∃ z, v = .bool z ∧ ∃ H', Inv X pins σ H' s' ∧ Q z H') ho2 (fun rest s' => ∃ ws es' H' Hi' S', Vals ws rest ∧ Inv X pins σ H' s' ∧ Is g e H' Hi' S' ∧ Same Hi Hi' ∧ Reps g Hi' ws es' ∧ dInTl ms rs ds es' S' kk E)
    ⟨ys, es, H, Hi, S, by simpa using rv2, I, i, Same.refl _, ry, q⟩ (fun y rest s' h => ?_) fun s' h => ?_) (fun f s' ⟨b, ef, z, eb, q'⟩ => ?_) fun _ _ z => z
  · obtain ⟨ws, es', H', Hi', S', va, I', i', sm, rb, q'⟩ := h
    cases va with
    | @cons w0 u0 ws us h1 t1 =>
      match es', rb with
      | e0 :: es', ⟨rb1, rb2⟩ =>
        obtain ⟨q1, es0, rfl, q2⟩ := q'
        have r1' := r1.mono sm
        obtain ⟨p, xs0, rfl, hp0, _⟩ := id rb1
        obtain rfl : y = Value.ref p := h1
        unfold eqBool
        refine wpAny_holding (wpAny_ite_split (fun hab => ?_) fun hab => ?_)
        · have eq : p = ta := by have := eq_of_beq hab; injection this
          subst eq
          refine wpAny_bind (wpAny_rule (wpAny_pure ?_))
          rw [if_pos rfl]
          exact ⟨true, rfl, H', I', hk true S' H' Hi' i' sm (q1 ⟨g, Hi', .ref p, rb1, r1'⟩)⟩
        · refine wpAny_bind (wpAny_mono (tmw_run (Q := fun z H3 => ∃ Hi3 S3, Is g e H3 Hi3 S3 ∧ Same Hi' Hi3 ∧ (if z = true then kk true S3 else dInTl ms rs ds es' S3 kk E)) C B hr hu I' i' rb1 r1' q2 (hx.mono sm) fun b S3 H3 Hi3 i3 s3 q3 => ⟨Hi3, S3, i3, s3, q3⟩) (fun r s3 z => ?_) fun _ _ z => z)
          obtain ⟨z, rfl, H3, I3, Hi3, S3, i3, s3, q3⟩ := z
          refine wpAny_truthy_bool ?_
          cases z with
          | true =>
            rw [if_pos rfl] at q3 ⊢
            exact ⟨true, rfl, H3, I3, hk true S3 H3 Hi3 i3 (sm.trans s3) q3⟩
          | false =>
            rw [if_neg Bool.false_ne_true] at q3 ⊢
            exact ⟨ws, es', H3, Hi3, S3, t1, I3, i3, sm.trans s3, rb2.mono s3, q3⟩
  · obtain ⟨ws, es', H', Hi', S', va, I', i', sm, rb, q'⟩ := h
    cases va
    cases es' with
    | nil => exact ⟨false, rfl, H', I', hk false S' H' Hi' i' sm q'⟩
    | cons => exact rb.elim
  · subst ef
    cases eb
    exact ⟨.bool b, rfl, wpAny_truthy_bool q'⟩
def dInM (neg : Bool) (ms : List (Nat × DFn)) (rs : List Nat) (fa fb : DE) : DE := fun ρ S k E => fa ρ S (fun x S1 => fb ρ S1 (fun y S2 => ∃ ds es, x = .tup ds ∧ y = .tup es ∧ dInTl ms rs ds es S2 (fun b S3 => k (.bl (neg ^^ b)) S3) E) E) E
@[simp] theorem q_dInM : type_of% @DL.dInM.eq_1 := @DL.dInM.eq_1
theorem inm_run {neg : Bool} (C : Cxt X g e W) (B : EqvOk g X.prog X.w X.base k ms rs) (hr : Room (k + 2) X.A) (hu : X.A.units + 64 < cLine) (ha : PE X a (lift g e W f)) (hb : PE X b (lift g e W f'))
    {pins : List (Addr × Obj)} {s : Shared} {σ : L2.St} {H : Hp} {Q : VK} (I : Inv X pins σ H s) (h : lift g e W (dInM neg ms rs f f') σ H Q) :
    wpAny (model X.prog X.w) X.A (eval a X.env) (fun v s1 => wpAny (model X.prog X.w) X.A (eval b X.env) (fun u s2 => wpAny (model X.prog X.w) X.A (contains u v) (fun z s' => EP X pins σ Q (.bool (neg ^^ z)) s') X.xe s2) X.xe s1) X.xe s := by
  obtain ⟨ρ, Hi, S, k1, E, i, sl, q, hQ, hx⟩ := h
  obtain ⟨ko, hko⟩ : ∃ ko : D → D → Sto → Prop, ko = fun x y S2 => ∃ ds es, x = .tup ds ∧ y = .tup es ∧ dInTl ms rs ds es S2 (fun b S3 => k1 (.bl (neg ^^ b)) S3) E := ⟨_, rfl⟩
  have q : f ρ S (fun x S1 => f' ρ S1 (fun y S2 => ko x y S2) E) E := by rw [hko]; exact q
  refine thn (ha.run pins s σ H (fun x H1 => ∃ dx S1 Hi1, Is g e H1 Hi1 S1 ∧ Same Hi Hi1 ∧ Rep g Hi1 x dx ∧ f' ρ S1 (fun y S2 => ko dx y S2) E) I
    ⟨ρ, Hi, S, _, E, i, sl, q, fun d S' v H' Hi' i' s' r' q' => ⟨d, S', Hi', i', s', r', q'⟩, hx⟩) fun v s1 ⟨x, H1, I1, rx, dx, S1, Hi1, i1, s1', r1, q1⟩ => ?_
  refine thn (hb.run pins s1 σ H1 (fun y H2 => ∃ dy S2 Hi2, Is g e H2 Hi2 S2 ∧ Same Hi1 Hi2 ∧ Rep g Hi2 y dy ∧ ko dx dy S2) I1
    ⟨ρ, Hi1, S1, _, E, i1, sl.mono s1', q1, fun d S' v H' Hi' i' s' r' q' => ⟨d, S', Hi', i', s', r', q'⟩, hx.mono s1'⟩) fun u s2 ⟨y, H2, I2, ry, dy, S2, Hi2, i2, s2', r2, q2⟩ => ?_
  rw [hko] at q2
  obtain ⟨ds, es, rfl, rfl, q2⟩ := q2
  have r1' := r1.mono s2'
  obtain ⟨pa, xs, rfl, _⟩ := id r1'
  obtain ⟨pb, ys, rfl, _⟩ := id r2
  obtain rfl : v = Value.ref pa := rx
  obtain rfl : u = Value.ref pb := ry
  refine wpAny_mono (inm_run0 (Q := fun z H' => Q (.bl (neg ^^ z)) H') C B hr hu I2 i2 r1' r2 q2 ((hx.mono s1').mono s2') fun b S' H' Hi' i' s' q' => hQ (.bl (neg ^^ b)) S' _ H' Hi' i' ((s1'.trans s2').trans s') rfl q') (fun z s' hz => ?_) fun _ _ z => z
  obtain ⟨H', I', q'⟩ := hz
  exact ⟨.bl (neg ^^ z), H', I', rfl, q'⟩
theorem de_inM (C : Cxt X g e W) (B : EqvOk g X.prog X.w X.base k ms rs) (hr : Room (k + 2) X.A) (hu : X.A.units + 64 < cLine) (ha : PE X a (lift g e W f)) (hb : PE X b (lift g e W f')) (hm : behindInMarks .In b = false := by rfl) : PE X (.Compare a [.In] [b] pos) (lift g e W (dInM false ms rs f f')) :=
  ⟨fun pins s σ H Q I h => wpAny_Compare1 (wpAny_mono (inm_run C B hr hu ha hb I h) (fun v s1 z => wpAny_mono z (fun u s2 z2 => wpAny_bind (wpAny_mono z2 (fun r s3 z3 => wpAny_pure (by simpa using z3)) fun _ _ y => y)) fun _ _ y => y) fun _ _ y => y) hm⟩
theorem de_ninM (C : Cxt X g e W) (B : EqvOk g X.prog X.w X.base k ms rs) (hr : Room (k + 2) X.A) (hu : X.A.units + 64 < cLine) (ha : PE X a (lift g e W f)) (hb : PE X b (lift g e W f')) (hm : behindInMarks .NotIn b = false := by rfl) : PE X (.Compare a [.NotIn] [b] pos) (lift g e W (dInM true ms rs f f')) :=
  ⟨fun pins s σ H Q I h => wpAny_Compare1 (wpAny_mono (inm_run C B hr hu ha hb I h) (fun v s1 z => wpAny_mono z (fun u s2 z2 => wpAny_bind (wpAny_mono z2 (fun r s3 z3 => wpAny_pure (by simpa using z3)) fun _ _ y => y)) fun _ _ y => y) fun _ _ y => y) hm⟩
theorem dt_inM (C : Cxt X g e W) (B : EqvOk g X.prog X.w X.base k ms rs) (hr : Room (k + 2) X.A) (hu : X.A.units + 64 < cLine) (ha : PE X a (lift g e W f)) (hb : PE X b (lift g e W f')) (hm : behindInMarks .In b = false := by rfl) : PT X (.Compare a [.In] [b] pos) (liftT g e W (dTst (dInM false ms rs f f'))) :=
  ⟨fun pins s σ H Q I h => wpAny_isTrue_Compare1 (wpAny_mono (inm_run C B hr hu ha hb I (liftTst (f := dInM false ms rs f f') σ H Q h)) (fun v s1 z => wpAny_mono z (fun u s2 z2 => wpAny_bind (wpAny_mono z2 (fun r s3 z3 => wpAny_pure (by
    have e : (false ^^ r) = r := by cases r <;> rfl
    rw [e] at z3
    exact bl_of z3 fun H' I' qq => ⟨H', I', qq⟩)) fun _ _ y => y)) fun _ _ y => y) fun _ _ y => y) hm⟩
theorem dt_ninM (C : Cxt X g e W) (B : EqvOk g X.prog X.w X.base k ms rs) (hr : Room (k + 2) X.A) (hu : X.A.units + 64 < cLine) (ha : PE X a (lift g e W f)) (hb : PE X b (lift g e W f')) (hm : behindInMarks .NotIn b = false := by rfl) : PT X (.Compare a [.NotIn] [b] pos) (liftT g e W (dTst (dInM true ms rs f f'))) :=
  ⟨fun pins s σ H Q I h => wpAny_isTrue_Compare1 (wpAny_mono (inm_run C B hr hu ha hb I (liftTst (f := dInM true ms rs f f') σ H Q h)) (fun v s1 z => wpAny_mono z (fun u s2 z2 => wpAny_bind (wpAny_mono z2 (fun r s3 z3 => wpAny_pure (by
    have e : (true ^^ r) = !r := by cases r <;> rfl
    rw [e] at z3
    exact bl_of z3 fun H' I' qq => ⟨H', I', qq⟩)) fun _ _ y => y)) fun _ _ y => y) fun _ _ y => y) hm⟩
end
end DL
end
/-! ## DL50 -/
section
set_option Elab.async false
set_option linter.all false
set_option maxRecDepth 100000
set_option maxHeartbeats 4000000
/-! own exceptions: made and raised -/
namespace DL
open PySem PySem.Spec PyProof.Rows L2

/-! ### what the head says of a class of exceptions -/
theorem excB_ok {K : PySem.W.Frag} {C : Addr} (q : excB K C = true) : ∃ nm qn N bs bm sn sub ab col dd k0 k1 k2 k3 k5, K.lookup C = some (excClassObj nm qn C N bs bm true sn sub ab col dd k0 k1 k2 k3 k5 "ValueError.__new__") ∧ PySem.HandSPX.refsVE bm = true := by
  unfold excB at q
  split at q
  · rename_i dd cd sl ho
    split at q
    · rename_i C' bm k0 k1 k2 k3 n k5 hm hs
      obtain ⟨e1, q⟩ := He.ba q
      obtain ⟨e2, q⟩ := He.ba q
      obtain ⟨e3, q⟩ := He.ba q
      obtain ⟨e4, e5⟩ := He.ba q
      obtain ⟨nm, bs, mro, ns, qn, hd, sn, sub, ab, col, del⟩ := cd
      simp only at hm e3 e4
      obtain rfl : C' = C := eq_of_beq e1
      obtain rfl : n = "ValueError.__new__" := eq_of_beq e2
      subst hm e4
      obtain rfl : del = false := by simpa using e3
      obtain ⟨l⟩ := sl
      simp only at hs
      subst hs
      exact ⟨nm, qn, ns, bs, bm, sn, sub, ab, col, dd, k0, k1, k2, k3, k5, ho, e5⟩
    · cases q
  · cases q
/-- .. and all that raising and catching ask -/
structure XcC (K : PySem.W.Frag) (C : Addr) : Prop where
  ox : OexC K C
  xf : XfC K C
  ci : PySem.W.findIn K (.ref C) "__class__" = some (some (.builtin "object.__class__"))
  gi : PySem.W.specialIn K (.builtin "object.__class__") "__get__" = some (some (.builtin "getset_descriptor.__get__"))
  tk : PySem.W.takesIn K (.builtin "object.__class__") = some true
  mo : PySem.W.mroIn K C (.type "object") = some true
theorem xc_ok {K : PySem.W.Frag} {C : Addr} {x : Str} (e : C = He.ga K x) (h : tXc x K = true) : XcC K C := by
  subst e
  obtain ⟨h1, h⟩ := He.ba h
  obtain ⟨h2, h⟩ := He.ba h
  obtain ⟨h3, h⟩ := He.ba h
  obtain ⟨h4, h⟩ := He.ba h
  obtain ⟨h5, h⟩ := He.ba h
  obtain ⟨h6, h⟩ := He.ba h
  obtain ⟨h7, h⟩ := He.ba h
  obtain ⟨h8, h⟩ := He.ba h
  obtain ⟨h9, h⟩ := He.ba h
  obtain ⟨h10, h⟩ := He.ba h
  obtain ⟨h11, h12⟩ := He.ba h
  obtain ⟨nm, qn, N, bs, bm, sn, sub, ab, col, dd, k0, k1, k2, k3, k5, r1, r2⟩ := excB_ok h1
  exact ⟨⟨⟨nm, qn, N, bs, bm, sn, sub, ab, col, dd, k0, k1, k2, k3, k5, r1, r2⟩, He.eqO_ok h2, of_decide_eq_true h3, of_decide_eq_true h4, h5⟩, ⟨He.eqO_ok h6, He.eqO_ok h7, of_decide_eq_true h3, h8⟩, He.eqO_ok h9, He.eqO_ok h10, of_decide_eq_true h11, of_decide_eq_true h12⟩
/-- the base class without own __init__: its __init__ is ValueError's -/
structure XbC (K : PySem.W.Frag) (C : Addr) : Prop where
  rd : PySem.W.readsIn K C (.type "type") = true
  ga : PySem.W.specialIn K (.ref C) "__getattribute__" = some (some (.builtin "type.__getattribute__"))
  at_ : PySem.W.findCls K (.ref C) (.type "type") "__init__" = some (.val (.builtin "ValueError.__init__"))
theorem xb_ok {K : PySem.W.Frag} {C : Addr} {x : Str} (e : C = He.ga K x) (h : tXb x K = true) : XbC K C := by
  subst e
  obtain ⟨h1, h⟩ := He.ba h
  obtain ⟨h2, h⟩ := He.ba h
  refine ⟨h1, He.eqO_ok h2, ?_⟩
  split at h
  · rename_i n hn
    obtain rfl : n = "ValueError.__init__" := eq_of_beq h
    exact hn
  · cases h
section
variable {X : Cx} {x : Str} {B : Addr} {a : Expr} {as : List Expr} {ta : TA} {p1 p2 pos : Pos}
/-- B.__init__(self, ..), B an own class whose __init__ is ValueError's -/
theorem pe_sinit {pl : Sem Bool} (hg : Gl X x) (hm : X.mg x = some (.ref B)) (T : XbC X.K B) (ha : PA X (a :: as) ta) (hdb : (x == ("__debug__" : Str)) = false := by decide)
    (hc : eval (.Call (.Attribute (.Name x p1) "__init__" p2) (a :: as) [] pos) X.env = (do
      let bv ← eval (.Name x p1) X.env
      standAt p2.atName
      let (f, first) ← holding [bv] (getMethod bv "__init__" pl)
      callWith pos f first (backTo pos (starEach (a :: as) X.env)) (backToKw pos (keywordEach [] X.env))) := by rfl)
    (he : starEach (a :: as) X.env = (false, eval a X.env) :: starEach as X.env := by rfl) (hpl : (backTo pos (starEach as X.env)).any (·.1) = false := by rfl) :
    PE X (.Call (.Attribute (.Name x p1) "__init__" p2) (a :: as) [] pos) (tVeI X.K ta) := by
  constructor
  intro pins s σ H Q I h
  refine PySem.W.methodCall_KW (ld_glob I hg hm (PySem.W.method_cls I.kIn T.ga (PySem.W.cls_value I.kIn T.rd T.at_ (by decide +kernel) ?_)) hdb) hc
  show wpAny _ _ (callWith pos (Value.builtin "ValueError.__init__") [] (backTo pos (starEach (a :: as) X.env)) []) _ _ _
  have run := ha.run pos pins _ σ H _ (I.tok (s.toks + 1)) h
  refine PyProof.Rows.callWith_method1 (thn run fun us s1 q1 => ?_) he hpl
  obtain ⟨vs, H1, I1, r1, c, C, ws, e1, hlen, T1, e2, q⟩ := q1
  subst e1
  cases r1 with
  | @cons _ u0 _ ur ra rr =>
    have e3 : u0 = Value.ref c := ra
    subst e3
    have hz : ur.length ≤ sizeLine := by
      have l1 := Paired.length rr
      have l2 := sizeLine_eq
      omega
    exact oinit_ok T1 I1 e2 hz fun s' J => ⟨.non, H1, J, rfl, q⟩
end
/-! ### the __init__ of such classes: no, one, two fields -/
section
variable {CX : CXT} {P : Program} {w : World} {K : PySem.W.Frag} {mg : Str → Option Value} {base : Heap} {k : Nat} {fa B : Addr} {qual bx fx fy : Str} {params : Arguments} {body : List Stmt} {scope : Scope} {dV kV doc pm cdv ct oc : Value} {an od : Option Addr} {osl : Array (Option Value)} {txt : Str}
variable {p1 p2 p3 p4 p5 p6 p7 p8 p9 q1 q2 q3 q4 q5 : Pos} {j : Nat}
abbrev supS (txt : Str) (p1 p2 p3 p4 p5 p6 : Pos) (j : Nat) : Stmt := .Expr (.Call (.Attribute (.Name "SweepError" p1) "__init__" p2) [.Name "self" p3, .Constant (.str txt) j p4] [] p5) p6
abbrev fldS (fx : Str) (p7 p8 p9 q1 : Pos) : Stmt := .Assign [.Attribute (.Name "self" p7) fx p8] (.Name fx p9) q1
theorem gl_of {A : Around} {outer : List PySem.Env} {s : Shared} {H : Hp} {E : XK} {N : List Str} {x : Str} (h : scope.names.lookup x = some .globalImplicit) : Gl (cxOf CX P w K mg base N qual scope fa cdv A outer s H E) x := h
end
section
variable {CX : CXT} {P : Program} {w : World} {K : PySem.W.Frag} {mg : Str → Option Value} {base : Heap} {k : Nat} {fa B : Addr} {qual bx fx fy : Str} {params : Arguments} {scope : Scope} {dV kV doc pm cdv ct oc : Value} {an od : Option Addr} {osl : Array (Option Value)} {txt : Str}
variable {p1 p2 p3 p4 p5 p6 p7 p8 p9 q1 q2 q3 q4 q5 : Pos} {j : Nat} {N ps : List Str}
theorem vis_par {N ps : List Str} {scope : Scope} (S : FnScope N ps scope) {x : Str} (h : x ∈ ps) : Vis scope x := (S.par x h).elim (fun z => .inl z) fun z => .inr (.inl z)
/-- how such a row is read -/
abbrev SupRow (CX : CXT) (P : Program) (w : World) (K : PySem.W.Frag) (mg : Str → Option Value) (base : Heap) (N : List Str) (qual : Str) (scope : Scope) (fa : Addr) (cdv : Value) (txt : Str) (p1 p2 p3 p4 p5 : Pos) (j : Nat) : Prop :=
  ∀ (A : Around) (outer : List PySem.Env) (s : Shared) (H : Hp) (E : XK), ∃ pl : Sem Bool, eval (.Call (.Attribute (.Name "SweepError" p1) "__init__" p2) [.Name "self" p3, .Constant (.str txt) j p4] [] p5) (cxOf CX P w K mg base N qual scope fa cdv A outer s H E).env = (do
      let bv ← eval (.Name "SweepError" p1) (cxOf CX P w K mg base N qual scope fa cdv A outer s H E).env
      standAt p2.atName
      let (f, first) ← holding [bv] (getMethod bv "__init__" pl)
      callWith p5 f first (backTo p5 (starEach [.Name "self" p3, .Constant (.str txt) j p4] (cxOf CX P w K mg base N qual scope fa cdv A outer s H E).env)) (backToKw p5 (keywordEach [] (cxOf CX P w K mg base N qual scope fa cdv A outer s H E).env)))
theorem ps_sup {A : Around} {outer : List PySem.Env} {s : Shared} {H : Hp} {E : XK} {i : Nat} (hN : N[i]? = some ("self" : Str)) (hv : Vis scope "self") (hb : scope.names.lookup ("SweepError" : Str) = some .globalImplicit) (hm : mg "SweepError" = some (.ref B)) (T : XbC K B) (hr : SupRow CX P w K mg base N qual scope fa cdv txt p1 p2 p3 p4 p5 j) :
    PS (cxOf CX P w K mg base N qual scope fa cdv A outer s H E) (supS txt p1 p2 p3 p4 p5 p6 j) (fun D σ H' => ∃ a C, σ[i]? = some (some (.ref a)) ∧ OexC K C ∧ H' a = some (exo a C none) ∧ D.nx σ H') :=
  let ⟨_, hc⟩ := hr A outer s H E
  (ps_expr (pe_sinit (gl_of hb) hm T (pa_cons (pe_var (i := i) hN hv) (pa_cons pe_str pa_nil)) (by decide) hc)).imp fun D σ H' ⟨a, C, h1, h2, h3, h4⟩ =>
    ⟨.ref a, h1, a, C, [.str txt], rfl, by simp, h2, h3, h4⟩
theorem ps_fld1 {A : Around} {outer : List PySem.Env} {s : Shared} {H : Hp} {E : XK} {i i2 : Nat} (hN : N[i]? = some ("self" : Str)) (hv : Vis scope "self") (hN2 : N[i2]? = some fx) (hv2 : Vis scope fx) (hd : (fx == ("__debug__" : Str)) = false) (hcd : (fx == ("__classdict__" : Str)) = false) :
    PS (cxOf CX P w K mg base N qual scope fa cdv A outer s H E) (fldS fx p7 p8 p9 q1) (tOst K fx (tVar i) (tVar i2)) := ps_ost (pe_var hN hv) (pe_var hN2 hv2 hd hcd)
/-- no field -/
theorem xi0 (lk : K.lookup fa = some ⟨oc, od, .func (PySem.W.fnOf "__init__" qual params [supS txt p1 p2 p3 p4 p5 p6 j] scope dV kV doc pm an cdv ct), osl⟩) (hcd : PySem.W.codeIn K cdv qual = true) (S : FnScope N ["self"] scope) (hN : N[0]? = some ("self" : Str))
    (hb : scope.names.lookup ("SweepError" : Str) = some .globalImplicit) (hm : mg "SweepError" = some (.ref B)) (T : XbC K B) (hrow : SupRow CX P w K mg base N qual scope fa cdv txt p1 p2 p3 p4 p5 j) :
    FnOk P w K mg base CX (k + 1) fa (PySem.W.fnOf "__init__" qual params [supS txt p1 p2 p3 p4 p5 p6 j] scope dV kV doc pm an cdv ct) ["self"] (fun vs H Q _ => ∃ a C, vs = [.ref a] ∧ OexC K C ∧ H a = some (exo a C none) ∧ Q .non H) := by
  refine fn_of lk hcd S (fun vs H Q E h => ?_) fun A outer s H vs Q E hr h => ?_
  · obtain ⟨a, C, rfl, _⟩ := h
    rfl
  · obtain ⟨a, C, rfl, h1, h2, h3⟩ := h
    exact ⟨_, pss_one (ps_sup hN (vis_par S (by simp)) hb hm T hrow), a, C, rfl, h1, h2, h3⟩
/-- one field -/
theorem xi1 (lk : K.lookup fa = some ⟨oc, od, .func (PySem.W.fnOf "__init__" qual params [supS txt p1 p2 p3 p4 p5 p6 j, fldS fx p7 p8 p9 q1] scope dV kV doc pm an cdv ct), osl⟩) (hcd : PySem.W.codeIn K cdv qual = true) (S : FnScope N ["self", fx] scope) (hN : N[0]? = some ("self" : Str)) (hN1 : N[1]? = some fx)
    (hb : scope.names.lookup ("SweepError" : Str) = some .globalImplicit) (hm : mg "SweepError" = some (.ref B)) (T : XbC K B) (hrow : SupRow CX P w K mg base N qual scope fa cdv txt p1 p2 p3 p4 p5 j) (hd : (fx == ("__debug__" : Str)) = false) (hcx : (fx == ("__classdict__" : Str)) = false) :
    FnOk P w K mg base CX (k + 1) fa (PySem.W.fnOf "__init__" qual params [supS txt p1 p2 p3 p4 p5 p6 j, fldS fx p7 p8 p9 q1] scope dV kV doc pm an cdv ct) ["self", fx]
      (fun vs H Q _ => ∃ a C y, vs = [.ref a, y] ∧ OexC K C ∧ H a = some (exo a C none) ∧ PySem.W.findIn K (.ref C) fx = some none ∧ ∀ dx, H dx = none → dx ≠ a → Q .non (upd (upd H dx (exd dx [(fx, y)])) a (exo a C (some dx)))) := by
  refine fn_of lk hcd S (fun vs H Q E h => ?_) fun A outer s H vs Q E hr h => ?_
  · obtain ⟨a, C, y, rfl, _⟩ := h
    rfl
  · obtain ⟨a, C, y, rfl, h1, h2, h3, h4⟩ := h
    refine ⟨_, pss_cons (ps_sup hN (vis_par S (by simp)) hb hm T hrow) (pss_one (ps_fld1 hN (vis_par S (by simp)) hN1 (vis_par S (by simp)) hd hcx)), ?_⟩
    exact ⟨a, C, rfl, h1, h2, y, rfl, .ref a, rfl, a, C, rfl, h1, h3, .inl ⟨h2, h4⟩⟩
/-- two fields -/
theorem xi2 (lk : K.lookup fa = some ⟨oc, od, .func (PySem.W.fnOf "__init__" qual params [supS txt p1 p2 p3 p4 p5 p6 j, fldS fx p7 p8 p9 q1, fldS fy q2 q3 q4 q5] scope dV kV doc pm an cdv ct), osl⟩) (hcd : PySem.W.codeIn K cdv qual = true) (S : FnScope N ["self", fx, fy] scope) (hN : N[0]? = some ("self" : Str)) (hN1 : N[1]? = some fx) (hN2 : N[2]? = some fy)
    (hb : scope.names.lookup ("SweepError" : Str) = some .globalImplicit) (hm : mg "SweepError" = some (.ref B)) (T : XbC K B) (hrow : SupRow CX P w K mg base N qual scope fa cdv txt p1 p2 p3 p4 p5 j) (hd : (fx == ("__debug__" : Str)) = false) (hcx : (fx == ("__classdict__" : Str)) = false) (hd2 : (fy == ("__debug__" : Str)) = false) (hcx2 : (fy == ("__classdict__" : Str)) = false) :
    FnOk P w K mg base CX (k + 1) fa (PySem.W.fnOf "__init__" qual params [supS txt p1 p2 p3 p4 p5 p6 j, fldS fx p7 p8 p9 q1, fldS fy q2 q3 q4 q5] scope dV kV doc pm an cdv ct) ["self", fx, fy]
      (fun vs H Q _ => ∃ a C y z, vs = [.ref a, y, z] ∧ OexC K C ∧ H a = some (exo a C none) ∧ PySem.W.findIn K (.ref C) fx = some none ∧ PySem.W.findIn K (.ref C) fy = some none ∧
        ∀ dx, H dx = none → dx ≠ a → Q .non (upd (upd (upd H dx (exd dx [(fx, y)])) a (exo a C (some dx))) dx (exd dx [(fy, z), (fx, y)]))) := by
  refine fn_of lk hcd S (fun vs H Q E h => ?_) fun A outer s H vs Q E hr h => ?_
  · obtain ⟨a, C, y, z, rfl, _⟩ := h
    rfl
  · obtain ⟨a, C, y, z, rfl, h1, h2, h3, h3', h4⟩ := h
    refine ⟨_, pss_cons (ps_sup hN (vis_par S (by simp)) hb hm T hrow) (pss_cons (ps_fld1 hN (vis_par S (by simp)) hN1 (vis_par S (by simp)) hd hcx) (pss_one (ps_fld1 hN (vis_par S (by simp)) hN2 (vis_par S (by simp)) hd2 hcx2))), ?_⟩
    refine ⟨a, C, rfl, h1, h2, y, rfl, .ref a, rfl, a, C, rfl, h1, h3, .inl ⟨h2, fun dx n ne => ?_⟩⟩
    exact ⟨z, rfl, .ref a, rfl, a, C, rfl, h1, h3', .inr ⟨dx, [(fx, y)], upd_same, by rw [upd_ne ne, upd_same], by simp, h4 dx n ne⟩⟩
end
/-! ### C(..) in a raise -/
/-- what the __init__ of such a class hands on -/
def xEnd (g : Gx) (a C : Addr) (Q : VK) (H : Hp) : List Nat → List V → Prop
  | [], [] => Q .non H
  | [i], [y] => ∀ dx, H dx = none → dx ≠ a → Q .non (upd (upd H dx (exd dx [(g.an i, y)])) a (exo a C (some dx)))
  | [i, j], [y, z] => ∀ dx, H dx = none → dx ≠ a → Q .non (upd (upd (upd H dx (exd dx [(g.an i, y)])) a (exo a C (some dx))) dx (exd dx [(g.an j, z), (g.an i, y)]))
  | _, _ => False
def xSp (g : Gx) (C : Addr) (is : List Nat) : Sp := fun vs H Q _ => ∃ a ys, vs = .ref a :: ys ∧ H a = some (exo a C none) ∧ xEnd g a C Q H is ys
/-- the fields by their numbers -/
def xFs (is : List Nat) (ds : List D) : List (Nat × D) := (is.zip ds).reverse
structure XiOk (g : Gx) (P : Program) (w : World) (base : Heap) (k c : Nat) (is : List Nat) : Prop where
  lt : ∀ i ∈ is, i < g.nA
  xc : XcC g.K (g.ca c)
  ok : ∃ fI fd ps, PySem.W.findIn g.K (.ref (g.ca c)) "__init__" = some (some (.ref fI)) ∧ PySem.W.typeIn g.K (.ref fI) = some (.type "function") ∧ FnOk P w g.K g.mg base (L2.CX P w) k fI fd ps (xSp g (g.ca c) is) ∧ Binds g.K fd ps [] ∧ ps.length = is.length + 1
def DX := Env → Sto → (Nat → List (Nat × D) → Sto → Prop) → X1 → Prop
def dMkE (c : Nat) (is : List Nat) (u : DA) : DX := fun ρ S kx E => u ρ S (fun ds S1 => ds.length = is.length ∧ kx c (xFs is ds) S1) E
def liftX (g : Gx) (e : En) (W : WX) (f : DX) : L2.St → Hp → XK → Prop := fun σ H Q => ∃ ρ Hi S kx E, Is g e H Hi S ∧ Slots g Hi σ ρ ∧ f ρ S kx E ∧
  (∀ c fs S' H' Hi' cls dx, Is g e H' Hi' S' → Same Hi Hi' → ExRep g H' Hi' c fs cls dx → kx c fs S' → Q cls dx H') ∧ XOk g e W Hi σ E
section
variable {X : Cx} {g : Gx} {e : En} {W : WX} {k c : Nat} {is : List Nat} {u : DA} {x : Str} {p pos : Pos} {a : Expr} {as : List Expr}
theorem exd_fields {Hi H : Hp} {S : Sto} {dx : Addr} {fs : List (Nat × D)} {vs : List (Str × V)} (i : Is g e H Hi S) (n : H dx = none) (r : RepF g Hi vs fs) : Is g e (upd H dx (.xd vs)) (upd Hi dx (.xd vs)) S ∧ Same Hi (upd Hi dx (.xd vs)) ∧ ExF g (upd Hi dx (.xd vs)) fs (some dx) := by
  obtain ⟨o1, x1, s1, _⟩ := i.ok.new (o := .xd vs) n
  exact ⟨i.next o1 x1, s1, .inr ⟨dx, vs, rfl, upd_same, r.mono s1⟩⟩
theorem del_upd {H : Hp} {a d : Addr} {o u : HO} (n : H a = none) (ne : d ≠ a) : upd (del (upd (upd H d o) a u) a) d = upd H d := by
  funext v b
  by_cases q : b = d
  · rw [q, upd_same, upd_same]
  · rw [upd_ne q, upd_ne q]
    by_cases z : b = a
    · rw [z, del_same, n]
    · rw [del_ne z, upd_ne z, upd_ne q]
theorem pmk_x (C : Cxt X g e W) (T : XiOk g X.prog X.w X.base k c is) (hn : is ≠ []) (h2l : is.length ≤ 2) (hr : Room (k + 1) X.A) (hg : Gl X x) (hm : g.mg x = some (.ref (g.ca c))) (ha : PA X (a :: as) (liftA g e W u))
    (hdb : (x == ("__debug__" : Str)) = false := by decide) (he : starEach (a :: as) X.env = (false, eval a X.env) :: starEach as X.env := by rfl) (hpl : (backTo pos (starEach as X.env)).any (·.1) = false := by rfl) :
    PMk X (.Call (.Name x p) (a :: as) [] pos) (liftX g e W (dMkE c is u)) := by
  obtain ⟨fI, fd, ps, h1, h2, F, hb, hps⟩ := T.ok
  have F' : FnOk X.prog X.w X.K X.mg X.base (L2.CX X.prog X.w) k fI fd ps (xSp g (g.ca c) is) := by rw [C.K, C.mg]; exact F
  have np : Passes (L2.CX X.prog X.w) X (fun _ _ _ => False) := fun pins σ H s er s' I z => by
    obtain ⟨_, _, _, _, _, _, _, _, _, _, _, _, z⟩ := z
    exact z.elim
  have M := pmk_oex (p := p) (sp := xSp g (g.ca c) is) (ds := []) (dvs := []) (T := (by rw [C.K]; exact T.xc.ox : OexC X.K (g.ca c))) (iC := by rw [C.K]; exact h1) (tI := by rw [C.K]; exact h2) F' hr (by rw [C.K]; exact hb) .nil np hg (by rw [C.mg]; exact hm) ha hdb he hpl
  intro pins s σ H Q I ⟨ρ, Hi, S, kx, E, i0, sl, q, hk, hx⟩
  refine M pins s σ H Q I ⟨ρ, Hi, S, _, E, i0, sl, q, fun ds S1 vs H1 Hi1 i1 s1 r1 ⟨hl, q1⟩ => ?_, hx⟩
  have lv := r1.length
  have fin : ∀ (d : Addr) (fs : List (Nat × D)) (ws : List (Str × V)), H1 d = none → RepF g Hi1 ws fs → kx c fs S1 → Q (.ref (g.ca c)) (some d) (upd H1 d (.xd ws)) := fun d fs ws n r z => by
    obtain ⟨i2, s2, x2⟩ := exd_fields i1 n r
    exact hk c fs S1 _ _ _ _ i2 (s1.trans s2) ⟨rfl, x2⟩ z
  match is, ds, vs, hl, hn, h2l, r1, T.lt, q1 with
  | [i], [y], [v], _, _, _, ⟨ry, _⟩, lt, q1 =>
    refine ⟨by simp, fun b hb => ⟨b, [v], rfl, upd_same, fun dx nd ne => ⟨rfl, dx, [(g.an i, v)], by rw [upd_same], by rw [upd_ne ne, upd_same], ?_, ?_⟩⟩⟩
    · rw [upd_ne ne] at nd; exact nd
    · have e1 : upd (del (upd (upd (upd H1 b (exo b (g.ca c) none)) dx (exd dx [(g.an i, v)])) b (exo b (g.ca c) (some dx))) b) dx (.xd [(g.an i, v)]) = upd H1 dx (.xd [(g.an i, v)]) := by
        funext z
        by_cases q : z = dx
        · rw [q, upd_same, upd_same]
        · rw [upd_ne q, upd_ne q]
          by_cases q2 : z = b
          · rw [q2, del_same, hb]
          · rw [del_ne q2, upd_ne q2, upd_ne q, upd_ne q2]
      rw [e1]
      rw [upd_ne ne] at nd
      exact fin dx [(i, y)] _ nd ⟨rfl, lt i (by simp), ry, trivial⟩ q1
  | [i, j], [y, z], [v, v2], _, _, _, ⟨ry, rz, _⟩, lt, q1 =>
    refine ⟨by simp, fun b hb => ⟨b, [v, v2], rfl, upd_same, fun dx nd ne => ⟨rfl, dx, [(g.an j, v2), (g.an i, v)], by rw [upd_ne (Ne.symm ne), upd_same], by rw [upd_same], ?_, ?_⟩⟩⟩
    · rw [upd_ne ne] at nd; exact nd
    · have e1 : upd (del (upd (upd (upd (upd H1 b (exo b (g.ca c) none)) dx (exd dx [(g.an i, v)])) b (exo b (g.ca c) (some dx))) dx (exd dx [(g.an j, v2), (g.an i, v)])) b) dx (.xd [(g.an j, v2), (g.an i, v)]) = upd H1 dx (.xd [(g.an j, v2), (g.an i, v)]) := by
        funext z
        by_cases q : z = dx
        · rw [q, upd_same, upd_same]
        · rw [upd_ne q, upd_ne q]
          by_cases q2 : z = b
          · rw [q2, del_same, hb]
          · rw [del_ne q2, upd_ne q, upd_ne q2, upd_ne q, upd_ne q2]
      rw [e1]
      rw [upd_ne ne] at nd
      exact fin dx [(j, z), (i, y)] _ nd ⟨rfl, lt j (by simp), rz, rfl, lt i (by simp), ry, trivial⟩ q1
  | [], _, _, _, hn, _, _, _, _ => exact absurd rfl hn
  | _ :: _ :: _ :: _, _, _, _, _, hz, _, _, _ => simp at hz
/-! ### raise -/
def dRaise (f : DX) : DS := fun ρ S DD => f ρ S (fun c fs S1 => DD.xe c fs ρ S1) (fun c fs S1 => DD.xe c fs ρ S1)
theorem ds_raise {f : DX} (C : Cxt X g e W) (h : PMk X a (liftX g e W f)) : PS X (.Raise (some a) none pos) (liftS g e W (dRaise f)) :=
  (ps_raise C.calm C.tk h).imp fun D σ H ⟨ρ, Hi, S, DD, i, sl, q, ok⟩ =>
    ⟨ρ, Hi, S, _, _, i, sl, q, fun c fs S' H' Hi' cls dx i' s' x' q' => ok.xe c fs ρ S' σ H' Hi' cls dx i' s' (sl.mono s') x' q', ok.x sl⟩
end
/-! ### C() -/
section
variable {X : Cx} {g : Gx} {e : En} {W : WX} {k c : Nat} {x : Str} {p pos : Pos}
/-- the exception without a dict is let go of -/
theorem let_go {pins : List (Addr × Obj)} {σ : L2.St} {H1 : Hp} {hp hp2 h2 : Heap} {g1 g2 : Array GenState} {d1 d2 : Drawn} {t1 t2 : Nat} {os1 os2 : OsState} {a C : Addr} (I1 : Inv X pins σ H1 ⟨hp, g1, d1, t1, os1⟩)
    (ha : hp.objs.size ≤ a) (kp : ∀ b o, hp.get? b = some o → hp2.get? b = some o) (un : Un (frs X.stack) [] (upd H1 a (exo a C none)) (upd H1 a (exo a C none)) hp2 h2) (hok : HOk X.prog X.w (upd H1 a (exo a C none)) h2) (ho : os2 = os1) (hb : AllBare g2) :
    ∃ (t0 : Addr) (G : Heap), Inv X pins σ H1 ⟨G, g2, d2, t2, os2⟩ ∧ (∀ b o, G.get? b = some o → h2.get? b = some o) ∧ G.get? a = none ∧ h2.get? a = some ({ cls := .ref C, dict := none, data := .fields #[.ref t0, .none, .none, .none, .bool false, .none] } : Obj) := by
  obtain ⟨t0, hoe⟩ := exo_at hok (e := a) (C := C) (d := none) upd_same
  have n1 : H1 a = none := I1.hok.fresh ha
  obtain ⟨G, r1, r2⟩ := restrict h2 fun b => decide (b ≠ a)
  have same : ∀ b, b ≠ a → G.get? b = h2.get? b := fun b q => r1 b (decide_eq_true q)
  have gone : G.get? a = none := r2 a (by simp)
  have ne0 : ∀ {b : Addr} {o : Obj}, hp.get? b = some o → b ≠ a := fun {b o} z => Nat.ne_of_lt (Nat.lt_of_lt_of_le (Heap.lt_size z) ha)
  have off : ∀ {b : Addr} {u : Option HO}, b ≠ a → H1 b = u → upd H1 a (exo a C none) b = u := fun {b u} q z => by rw [upd_ne q]; exact z
  have U : Un (frs X.stack) [] H1 H1 hp G := by
    refine ⟨fun b o z n hf hx => ?_, fun b o z n hf hx => ?_, fun b o z n hx => n, fun b o z hx => ?_, fun b xs z => z, fun b o v z => z, fun b ps z => ⟨#[], by simpa using z⟩⟩
    · rw [same b (ne0 z)]; exact un.keep b o (kp b o z) (off (ne0 z) n) hf hx
    · rw [same b (ne0 z)]; exact un.slot b o (kp b o z) (off (ne0 z) n) hf hx
    · rw [same b (ne0 z)]; exact un.there b o (kp b o z) hx
  have hok3 : HOk X.prog X.w H1 G := fun b o z => by
    have nb : b ≠ a := fun q => by rw [q, n1] at z; cases z
    have own : ∀ {d : Addr}, H1 d = some (.own b) → d ≠ a := fun {d} q r => by rw [r, n1] at q; cases q
    refine (hok b o (off nb z)).stay (fun d v hd y => ?_) (fun d hd => ?_) (fun d xs hd => ?_)
    · have nd : d ≠ a := by
        rcases hd with q | q
        · rw [q]; exact nb
        · by_cases r : d = a
          · subst r; rw [upd_same] at q; exact absurd (Option.some.inj q) exo_own
          · exact r
      rw [same d nd]; exact y
    · by_cases r : d = a
      · subst r; rw [upd_same] at hd; exact absurd (Option.some.inj hd) exo_own
      · rw [upd_ne r] at hd; exact hd
    · by_cases r : d = a
      · subst r; rw [upd_same] at hd; exact absurd (Option.some.inj hd) exo_tup
      · rw [upd_ne r] at hd; exact hd
  refine ⟨t0, G, I1.call' (ch := []) ho U hok3 hb (fun b z => absurd z (by simp)), fun b o z => ?_, gone, hoe⟩
  by_cases q : b = a
  · rw [q, gone] at z; cases z
  · rw [← same b q]; exact z
theorem pmk_x0 (C : Cxt X g e W) (T : XiOk g X.prog X.w X.base k c []) (hr : Room (k + 1) X.A) (hg : Gl X x) (hm : g.mg x = some (.ref (g.ca c)))
    (hdb : (x == ("__debug__" : Str)) = false := by decide) : PMk X (.Call (.Name x p) [] [] pos) (liftX g e W (dMkE c [] dNil)) := by
  obtain ⟨fI, fd, ps, h1, h2, F, hb, hps⟩ := T.ok
  have F' : FnOk X.prog X.w X.K X.mg X.base (L2.CX X.prog X.w) k fI fd ps (xSp g (g.ca c) []) := by rw [C.K, C.mg]; exact F
  have T1 : OexC X.K (g.ca c) := by rw [C.K]; exact T.xc.ox
  obtain ⟨nm, q, N, bs, bm, sn, sub, ab, col, dd, k0, k1, k2, k3, k5, hC, hbm⟩ := T1.cls
  intro pins s σ H Q I ⟨ρ, Hi, S, kx, E, i0, sl, ⟨_, qq⟩, hk, hx⟩
  refine wpAny_Call_Name_kw (ld_glob I hg (by rw [C.mg]; exact hm) ?_ hdb)
  refine PySem.W.callWith_K0 I.kIn T1.kC ?_
  obtain ⟨hp, gs, dr, tk, os⟩ := s
  have hsz : hp.objs.size ≤ hp.objs.size + 1 := Nat.le_succ _
  have hn : H (hp.objs.size + 1) = none := I.hok.fresh hsz
  have grow : ∀ b o, hp.get? b = some o → ((hp.push (PySem.W.kdv_tup [])).push (PySem.HandSPX.excO (g.ca c) hp.objs.size)).get? b = some o := fun b o z => Heap.get?_push_of_some _ (Heap.get?_push_of_some _ z)
  have hnew : ((hp.push (PySem.W.kdv_tup [])).push (PySem.HandSPX.excO (g.ca c) hp.objs.size)).get? (hp.objs.size + 1) = some (PySem.HandSPX.excO (g.ca c) hp.objs.size) := by heap_get
  have I2 : Inv X pins σ (upd H (hp.objs.size + 1) (exo (hp.objs.size + 1) (g.ca c) none)) ⟨(hp.push (PySem.W.kdv_tup [])).push (PySem.HandSPX.excO (g.ca c) hp.objs.size), gs, dr, tk, os⟩ :=
    I.laid (t' := tk) (o := exo (hp.objs.size + 1) (g.ca c) none) grow hsz (exo_ok hnew)
  have r2 : Vals [V.ref (hp.objs.size + 1)] [Value.ref (hp.objs.size + 1)] := .cons rfl .nil
  have hlen : ([Value.ref (hp.objs.size + 1)] ++ ([] : List Value)).length = ps.length := by rw [hps]; rfl
  have sp : xSp g (g.ca c) [] [V.ref (hp.objs.size + 1)] (upd H (hp.objs.size + 1) (exo (hp.objs.size + 1) (g.ca c) none)) (fun v H2 => v = .non ∧ H2 = upd H (hp.objs.size + 1) (exo (hp.objs.size + 1) (g.ca c) none)) (fun _ _ _ => False) :=
    ⟨_, [], rfl, upd_same, rfl, rfl⟩
  refine wpAny_call (PySem.HandSPX.call_own PySem.F.excBase_ValueError (fun Y => PySem.HandSPX.refsVE_contains Y bm hbm) (I.kIn _ _ hC) (PySem.W.looks_findIn I.kIn (by rw [C.K]; exact h1)) (fun self => PySem.W.bind_fn I.kIn self (by rw [C.K]; exact h2)) (by simp)
    (codeAny_mono (F'.run _ X.stack _ _ ⟨[Value.ref (hp.objs.size + 1)], []⟩ _ _ _ (fun _ _ _ => False) (hr.make (g.ca c) [] []) (I2.env0.make (g.ca c) [] []) ((by rw [C.K]; exact hb : L2.Binds X.K fd ps []) _ [Value.ref (hp.objs.size + 1)] I2.kIn hlen) r2 sp) fun r s' z => ?_))
  cases r with
  | error er =>
    obtain ⟨_, _, _, _, _, _, _, _, _, _, _, _, z⟩ := z
    exact z.elim
  | ok fl =>
    cases fl with
    | ret u =>
      obtain ⟨v, H2, os2, bare2, un2, hok2, rv, ev, e2⟩ := z
      subst ev e2
      obtain ⟨h2', g2, d2, t2, os'⟩ := s'
      refine ⟨rv, ?_⟩
      obtain ⟨t0, G, J, kG, ge, hoe⟩ := let_go (d2 := d2) (t2 := t2) I hsz grow un2 hok2 os2 bare2
      exact ⟨_, _, _, ⟨G, g2, d2, t2, os'⟩, H, .ref (g.ca c), none, rfl, J, kG, ge, hoe, ⟨rfl, rfl⟩, rfl, rfl, hn, rfl, bare2, raises_own T1.exC T1.tyC, hk c [] _ _ _ _ _ i0 (Same.refl _) ⟨rfl, .inl ⟨rfl, rfl⟩⟩ qq⟩
    | next => exact z.elim
    | brk => exact z.elim
    | cont => exact z.elim
end
end DL
end
/-! ## DL51 -/
section
set_option Elab.async false
set_option linter.all false
set_option maxRecDepth 100000
set_option maxHeartbeats 4000000
/-! try: body, except X as n: suite, ..: what was caught stands in the store -/
namespace DL
open PySem PySem.Spec PyProof.Rows L2
section
variable {X : Cx} {pins : List (Addr × Obj)} {σ : L2.St} {H : Hp} {s : Shared} {a : Addr}
/-- a record that no one tracks is tracked from now on -/
theorem track {cls : Value} {dx : Option Addr} {oe : Obj} {vs : Array Value} (I : Inv X pins σ H s) (ha : s.heap.get? a = some oe) (hz : Zc cls dx oe) (hd : oe.data = .fields vs) (n0 : X.s_0.heap.get? a = none) (na : H a = none) (nL : a ≠ X.env.locals) (np : ∀ p ∈ X.pn ++ pins, p.1 ≠ a) :
    Inv X pins σ (upd H a (ExcO a cls dx)) s := by
  have nC : ∀ x c, X.env.cells.lookup x = some c → c ≠ a := fun x c q z => by
    obtain ⟨v, o, ho, hv⟩ := I.cell x c q
    rw [z, ha] at ho
    obtain rfl := Option.some.inj ho
    rw [hd] at hv
    cases hv
  have up : ∀ {b : Addr} {u : Option HO}, b ≠ a → H b = u → upd H a (ExcO a cls dx) b = u := fun {b u} q z => by rw [upd_ne q]; exact z
  have some_ne : ∀ {b : Addr} {u : HO}, H b = some u → b ≠ a := fun {b u} z q => by rw [q, na] at z; cases z
  refine ⟨I.ok, I.os, I.bare, ⟨I.base.keep, I.base.slot, fun b o z n hx => ?_, I.base.there, fun b xs z => ?_, fun b o v z => ?_, fun b ps z => ?_⟩, I.loc, I.cell, up (Ne.symm nL) I.free, fun x c q => up (nC x c q) (I.freeC x c q), fun p hp => ?_, fun b o z => ?_, I.len⟩
  · exact up (fun q => by rw [q, n0] at z; cases z) (I.base.free b o z n hx)
  · have y := I.base.tups b xs z
    exact up (some_ne y) y
  · have y := I.base.frzs b o v z
    exact up (some_ne y) y
  · obtain ⟨m, y⟩ := I.base.tbls b ps z
    exact ⟨m, up (some_ne y) y⟩
  · obtain ⟨r1, r2, r3⟩ := I.pin p hp
    exact ⟨r1, up (np p hp) r2, r3⟩
  · by_cases q : b = a
    · subst q
      rw [upd_same] at z
      cases z
      exact ⟨⟨oe, vs, ha, hz, hd⟩, ⟨oe, ha⟩, fun _ _ ⟨o, v, e1, e2⟩ k => ⟨o, v, k o e1, e2⟩⟩
    · rw [upd_ne q] at z
      exact (I.hok b o z).stay (fun _ _ _ y => y) (fun d y => up (some_ne y) y) fun d xs y => up (some_ne y) y
theorem to_suite (I : Inv X pins σ H s) : Inv (X.suite a (X.pn ++ pins)) [] σ H s :=
  ⟨I.ok.suite _ _, I.os, I.bare, I.base, I.loc, I.cell, I.free, I.freeC, fun p hp => I.pin p (by simpa using hp), I.hok, I.len⟩
theorem of_suite {pn' : List (Addr × Obj)} (I : Inv (X.suite a (X.pn ++ pins)) pn' σ H s) (ok : X.Ok) : Inv X pins σ H s :=
  ⟨ok, I.os, I.bare, I.base, I.loc, I.cell, I.free, I.freeC, fun p hp => I.pin p (List.mem_append_left _ hp), I.hok, I.len⟩
end
/-- which classes of exceptions a clause takes -/
abbrev TabH := Nat → Option Bool
structure ExmOk (g : Gx) (tab : TabH) (cn : Nat) : Prop where
  ok : ∀ c b, tab c = some b → PySem.W.exmOne g.K (.ref (g.ca c)) (.ref (g.ca cn)) = some b
/-- the clauses, one after the other -/
def dHs : List (TabH × Option Nat × DS) → Nat → List (Nat × D) → Env → Sto → DEnds → Prop
  | [], c, fs, ρ, S, DD => DD.xe c fs ρ S
  | (tab, none, t) :: r, c, fs, ρ, S, DD => ∃ b, tab c = some b ∧ if b = true then t ρ S { DD with xe := fun _ _ _ _ => False } else dHs r c fs ρ S DD
  | (tab, some i, t) :: r, c, fs, ρ, S, DD => ∃ b, tab c = some b ∧ if b = true then
      (∀ a, S a = none → t (ρ.set i (some (.mu a))) (S.set a (.exc c fs)) { nx := fun ρ' S' => DD.nx (ρ'.set i none) S', rt := DD.rt, bk := fun ρ' S' => DD.bk (ρ'.set i none) S', ct := fun ρ' S' => DD.ct (ρ'.set i none) S', xe := fun _ _ _ _ => False }) else dHs r c fs ρ S DD
def dTry (t : DS) (hs : List (TabH × Option Nat × DS)) : DS := fun ρ S DD => t ρ S { DD with xe := fun c fs ρ' S' => dHs hs c fs ρ' S' DD }
abbrev W9 : WX := fun _ _ _ _ => False
inductive HdsL (X : Cx) (g : Gx) (e : En) : List ExceptHandler → List (TabH × Option Nat × DS) → Prop
  | nil : HdsL X g e [] []
  | plain {x : Str} {cn : Nat} {tab : TabH} {t : DS} {b0 : Stmt} {bs : List Stmt} {np p' : Pos} {hds : List ExceptHandler} {l : List (TabH × Option Nat × DS)} (hc : Names X x (.ref (g.ca cn))) (ht : ExmOk g tab cn)
      (hsu : ∀ (a : Addr) (pn : List (Addr × Obj)), PSs (X.suite a pn) (b0 :: bs) (liftS g e W9 t)) (r : HdsL X g e hds l) : HdsL X g e (.ExceptHandler (some (.Name x np)) none (b0 :: bs) p' :: hds) ((tab, none, t) :: l)
  | named {x n : Str} {i cn : Nat} {tab : TabH} {t : DS} {b0 : Stmt} {bs : List Stmt} {np p' : Pos} {hds : List ExceptHandler} {l : List (TabH × Option Nat × DS)} (hi : X.N[i]? = some n) (hl : X.env.kindOf n = some .local) (hc : Names X x (.ref (g.ca cn))) (ht : ExmOk g tab cn)
      (hsu : ∀ (a : Addr) (pn : List (Addr × Obj)), PSs (X.suite a pn) (b0 :: bs) (liftS g e W9 t)) (r : HdsL X g e hds l) : HdsL X g e (.ExceptHandler (some (.Name x np)) (some n) (b0 :: bs) p' :: hds) ((tab, some i, t) :: l)
theorem Slots.drop {g : Gx} {Hi : Hp} {σ : L2.St} {ρ : Env} (h : Slots g Hi σ ρ) (i : Nat) : Slots g Hi (σ.set i none) (ρ.set i none) := by
  refine ⟨by simp [h.1], fun j d q => ?_⟩
  by_cases c : i = j
  · subst c
    rw [List.getElem?_set] at q
    simp only [if_true] at q
    split at q <;> cases q
  · rw [List.getElem?_set_ne c] at q ⊢
    exact h.2 j d q
section
variable {X : Cx} {g : Gx} {e : En} {W : WX} {t : DS} {body : List Stmt} {h0 : ExceptHandler} {hds : List ExceptHandler} {l : List (TabH × Option Nat × DS)} {pos : Pos}
theorem ds_try (C : Cxt X g e W) (hst : X.stack = X.env :: X.outer) (hfl : X.env.frame = some X.env.locals) (hex : X.ex = []) (hN : X.N.Nodup)
    (hb : ∀ (W' : WX) (pn : List (Addr × Obj)) (xe : Value → Shared → Prop), Cxt (X.tr pn xe) g e W' → PSs (X.tr pn xe) body (liftS g e W' t)) (hh : HdsL X g e (h0 :: hds) l) : PS X (.Try body (h0 :: hds) [] [] pos) (liftS g e W (dTry t l)) := by
  constructor
  intro pins s σ H D I ⟨ρ, Hi, S, DD, i, sl, q, ok⟩
  have xok := I.ok
  have frm : X.A.frames = some (X.env :: X.outer) := by rw [xok.frames, hst]
  obtain ⟨WB, hWB⟩ : ∃ WB : WX, WB = fun cls dx σ' H' => ∃ c fs ρ' S' Hi', Is g e H' Hi' S' ∧ Same Hi Hi' ∧ Slots g Hi' σ' ρ' ∧ ExRep g H' Hi' c fs cls dx ∧ dHs l c fs ρ' S' DD := ⟨_, rfl⟩
  refine wpAny_Try_except (wpAny_mono ((hb WB (X.pn ++ pins) _ ⟨C.K, C.mg, C.calm, C.gd, fun u s' xx => ?_⟩).run [] s σ H D (I.toTry _) ⟨ρ, Hi, S, _, i, sl, q, ⟨ok.nx, ok.rt, ok.bk, ok.ct, fun c fs ρ' S' σ' H' Hi' cls dx i' s' sl' x' q' => by rw [hWB]; exact ⟨c, fs, ρ', S', Hi', i', s', sl', x', q'⟩⟩⟩) (fun f s1 r => ?_) fun er s1 z => z)
  · rw [hWB] at xx
    obtain ⟨a, B, sI, pins', σ', H', cls, d, rfl, J', nb, up, sky, na, os, ag, c, fs, ρ', S', Hi', i', sm', sl', x', q'⟩ := xx
    have J : Inv X pins σ' H' sI := J'.ofTry xok
    have sky2 : Sky B (X.env :: X.outer) a (Zc cls d) X.env.locals s'.heap := by rw [← hst]; exact sky
    refine Sky.land Zc.steady frm hfl sky2 fun h3 fl3 up3 => ?_
    have J3 : Inv X pins σ' H' { s' with heap := h3 } := J.landed nb fl3.1 (up.trans up3) os ag
    obtain ⟨oe3, vs3, he3, hz3, hd3⟩ := fl3.there
    have nfr : a ∉ frs (X.env :: X.outer) := fun hm => by
      obtain ⟨_, o', e', hnf⟩ := fl3.2.2.1.mem hm
      rw [he3] at e'
      obtain rfl := Option.some.inj e'
      exact hnf _ hd3
    have noI : sI.heap.get? a = none := by
      cases z : sI.heap.get? a with
      | none => rfl
      | some o =>
        have y := nb a o z (by rw [hst]; exact nfr)
        rw [fl3.2.1] at y
        cases y
    have nL : a ≠ X.env.locals := fun z => nfr (List.mem_filterMap.mpr ⟨X.env, List.mem_cons_self, by rw [hfl, z]⟩)
    have n0 : X.s_0.heap.get? a = none := by
      cases z : X.s_0.heap.get? a with
      | none => rfl
      | some o =>
        obtain ⟨o', y⟩ := J.base.there a o z (by rw [hex]; exact fun y => nomatch y)
        rw [noI] at y
        cases y
    have np : ∀ p ∈ X.pn ++ pins, p.1 ≠ a := fun p hp z => by
      have y := (J.pin p hp).1
      rw [z, noI] at y
      cases y
    have LT : PySem.W.Looks (model X.prog X.w) h3 (typeOf (.ref a)) cls := fun A Q E s k y => wpAny_typeOf_ref (k _ _ he3) (by rw [hz3.1]; exact y)
    have T3 := J3.toTry (X := X) (pins := pins) (fun _ _ => True)
    have test : ∀ {x : Str} {cv : Value} {np : Pos} {Q E : Value → Shared → Prop}, Names X x cv → Q cv { s' with heap := h3 } → wpAny (model X.prog X.w) (X.A.mark (some (.ref a))) (eval (.Name x np) X.env) Q E { s' with heap := h3 } := fun {x cv np Q E} hc y => by
      obtain ⟨hg, hdb, hm | ⟨hm, hv, hnn⟩⟩ := hc
      · exact ld_glob (X := X.suite a (X.pn ++ pins)) (to_suite J3) hg hm y hdb
      · exact ld_blt (X := X.suite a (X.pn ++ pins)) (to_suite J3) hg hm hv y hnn hdb
    have go : ∀ {hds' : List ExceptHandler} {l' : List (TabH × Option Nat × DS)}, HdsL X g e hds' l' → dHs l' c fs ρ' S' DD → wpAny (model X.prog X.w) X.A (handleBy (.ref a) X.env hds') (SP X pins D) X.xe { s' with heap := h3 } := by
      intro hds' l' hk
      induction hk with
      | nil =>
        intro y
        refine wpAny_handleBy_nil ?_
        obtain ⟨k1, k2, k3, oe, vs, T, oT, ts, he, hz, hd, hT, hr⟩ := id fl3
        unfold PySem.passOn
        refine wpAny_bind (wpAny_field he hd hT ?_)
        rw [if_neg (show ¬ (Value.ref T == Value.none) = true by simp)]
        have fin : wpAny (model X.prog X.w) X.A (setFlight (.ref a) X.env.frame) (fun _ s4 => wpAny (model X.prog X.w) X.A (throw (.ref a) : Sem Flow) (SP X pins D) X.xe s4) X.xe { s' with heap := h3 } := by
          rw [hfl]
          refine HandSPX.setFlight_upZ fl3 fun h4 hh4 up4 => wpAny_throw (C.tk _ _ ⟨a, B, sI, pins, σ', H', cls, d, rfl, J, nb, (up.trans up3).trans up4, .inr (.inr (by rw [hst]; exact hh4)), na, os, ag, ?_⟩)
          exact ok.xe c fs ρ' S' σ' H' Hi' cls d i' sm' sl' x' y
        first
          | exact wpAny_bind (wpAny_pure (wpAny_bind fin))
          | exact wpAny_bind fin
      | @plain x cn tab t1 b0 bs np' p' hds2 l2 hc ht hsu r ih =>
        rintro ⟨b, e1, y⟩
        have e2 : PySem.W.exmOne X.K cls (.ref (g.ca cn)) = some b := by rw [C.K, x'.1]; exact ht.ok c b e1
        refine wpAny_handleBy_cons (codeAny_handlers_test (test hc ((PySem.W.exm_one (M := model X.prog X.w) J3.kIn LT e2).here ?_))) (fun z => nomatch z)
        cases b with
        | false => exact ih y
        | true =>
          refine codeAny_handlers_suite (HandSPX.lands_againZ fl3 fun h4 fl4 up4 => ?_)
          have J4 : Inv X pins σ' H' { s' with heap := h4 } := J.landed nb fl4.1 ((up.trans up3).trans up4) os ag
          refine wpAny_mono ((hsu a (X.pn ++ pins)).run [] _ σ' H' D (to_suite J4) ⟨ρ', Hi', S', _, i', sl', y, ?_⟩) (fun f s6 hs6 => ?_) (fun _ _ z => z.elim)
          · have o2 := ok.mono sm'
            exact ⟨o2.nx, o2.rt, o2.bk, o2.ct, fun _ _ _ _ _ _ _ _ _ _ _ _ _ z => z.elim⟩
          · cases f with
            | next =>
              obtain ⟨σ6, H6, S6, q6⟩ := hs6
              exact ⟨_, _, of_suite S6 xok, q6⟩
            | brk =>
              obtain ⟨σ6, H6, S6, q6⟩ := hs6
              exact ⟨_, _, of_suite S6 xok, q6⟩
            | cont =>
              obtain ⟨σ6, H6, S6, q6⟩ := hs6
              exact ⟨_, _, of_suite S6 xok, q6⟩
            | ret u =>
              obtain ⟨v6, σ6, H6, S6, r6, q6⟩ := hs6
              exact ⟨_, _, _, of_suite S6 xok, r6, q6⟩
      | @named x n i cn tab t1 b0 bs np' p' hds2 l2 hi hln hc ht hsu r ih =>
        rintro ⟨b, e1, y⟩
        have e2 : PySem.W.exmOne X.K cls (.ref (g.ca cn)) = some b := by rw [C.K, x'.1]; exact ht.ok c b e1
        refine wpAny_handleBy_cons (codeAny_handlers_test (test hc ((PySem.W.exm_one (M := model X.prog X.w) J3.kIn LT e2).here ?_))) (fun z => nomatch z)
        cases b with
        | false => exact ih y
        | true =>
          refine codeAny_handlers_suite_as (HandSPX.lands_againZ fl3 fun h4 fl4 up4 => ?_)
          have J4 : Inv X pins σ' H' { s' with heap := h4 } := J.landed nb fl4.1 ((up.trans up3).trans up4) os ag
          obtain ⟨oe4, vs4, he4, hz4, hd4⟩ := fl4.there
          have J5 := track J4 he4 hz4 hd4 n0 na nL np
          have ex : ExF g Hi' fs d := x'.2
          obtain ⟨o5, x5, sp⟩ := i'.ok.newC (o := ExcO a cls d) (c := .exc c fs) na ⟨d, by rw [upd_same, x'.1], ex⟩
          have i5 := i'.next o5 x5
          refine store_ok (X := X.suite a (X.pn ++ pins)) (v := .ref a) (to_suite J5) hN hi (.inl hln) rfl (fun s5 S5 => ?_) (.inr hln)
          refine wpAny_mono ((hsu a (X.pn ++ pins)).run [] s5 _ _ { nx := fun σ' H' => D.nx (σ'.set i none) H', rt := D.rt, bk := fun σ' H' => D.bk (σ'.set i none) H', ct := fun σ' H' => D.ct (σ'.set i none) H' } S5
            ⟨_, Hi', _, _, i5, sl'.set (show Rep g Hi' (.ref a) (.mu a) from rfl), (if_pos rfl).mp y a sp, ?_⟩) (fun f s6 hs6 => ?_) (fun _ _ z => z.elim)
          · have o2 := ok.mono sm'
            exact ⟨fun ρ1 S1 σ1 H1 Hi1 i1 s1 sl1 q1 => o2.nx _ S1 _ H1 Hi1 i1 s1 (sl1.drop i) q1, o2.rt, fun ρ1 S1 σ1 H1 Hi1 i1 s1 sl1 q1 => o2.bk _ S1 _ H1 Hi1 i1 s1 (sl1.drop i) q1, fun ρ1 S1 σ1 H1 Hi1 i1 s1 sl1 q1 => o2.ct _ S1 _ H1 Hi1 i1 s1 (sl1.drop i) q1, fun _ _ _ _ _ _ _ _ _ _ _ _ _ z => z.elim⟩
          · cases f with
            | next =>
              obtain ⟨σ6, H6, S6, q6⟩ := hs6
              exact gone_ok (of_suite S6 xok) hN hi hln fun s7 J7 => ⟨_, _, J7, q6⟩
            | brk =>
              obtain ⟨σ6, H6, S6, q6⟩ := hs6
              exact gone_ok (of_suite S6 xok) hN hi hln fun s7 J7 => ⟨_, _, J7, q6⟩
            | cont =>
              obtain ⟨σ6, H6, S6, q6⟩ := hs6
              exact gone_ok (of_suite S6 xok) hN hi hln fun s7 J7 => ⟨_, _, J7, q6⟩
            | ret u =>
              obtain ⟨v6, σ6, H6, S6, r6, q6⟩ := hs6
              exact gone_ok (of_suite S6 xok) hN hi hln fun s7 J7 => ⟨_, _, _, J7, r6, q6⟩
    exact go hh q'
  · cases f with
    | next =>
      obtain ⟨σ', H', J', y⟩ := r
      exact wpAny_execs_nil ⟨σ', H', J'.ofTry xok, y⟩
    | brk =>
      obtain ⟨σ', H', J', y⟩ := r
      exact ⟨σ', H', J'.ofTry xok, y⟩
    | cont =>
      obtain ⟨σ', H', J', y⟩ := r
      exact ⟨σ', H', J'.ofTry xok, y⟩
    | ret u =>
      obtain ⟨v, σ', H', J', r1, y⟩ := r
      exact ⟨v, σ', H', J'.ofTry xok, r1, y⟩
end
end DL
end
/-! ## DL52 -/
section
set_option Elab.async false
set_option linter.all false
set_option maxRecDepth 100000
set_option maxHeartbeats 4000000
/-! what was caught: its fields, isinstance -/
namespace DL
open PySem PySem.Spec PyProof.Rows L2
/-- the record of what was caught, as an instance -/
theorem exc_inst {g : Gx} {P : Program} {w : World} {H Hi : Hp} {S : Sto} {h : Heap} {a : Addr} {c : Nat} {fs : List (Nat × D)} (k : Ok g H Hi S) (hok : HOk P w H h) (hS : S a = some (.exc c fs)) :
    ∃ oe od, PySem.W.InstAt h a oe (g.ca c) od ∧ ((od = none ∧ fs = []) ∨ ∃ (o : Obj) (vs : List (Str × V)) (mA : Str → Option Value), od = some o ∧ (∀ n, PySem.W.lookIn n o = some (mA n)) ∧ (∀ n, RelO (vs.lookup n) (mA n)) ∧ RepF g Hi vs fs) := by
  obtain ⟨_, dx, h1, h2⟩ := k.cell a _ hS
  obtain ⟨⟨oe, vs, e1, e2, e3⟩, _⟩ := hok a _ h1
  have nc : PySem.W.notCls oe = true := by unfold PySem.W.notCls; rw [e3]
  rcases h2 with ⟨rfl, rfl⟩ | ⟨d, ws, rfl, h3, h4⟩
  · exact ⟨oe, none, ⟨e1, e2.1, nc, by rw [e2.2]; trivial⟩, .inl ⟨rfl, rfl⟩⟩
  · have hx : ObjOk P w H h d (.xd ws) := hok d _ (k.sub _ _ h3)
    obtain ⟨mA, hns, hr⟩ := hx
    obtain ⟨od, ho, hl⟩ := lookIn_ns hns
    exact ⟨oe, some od, ⟨e1, e2.1, nc, by rw [e2.2]; exact ho⟩, .inr ⟨od, ws, mA, rfl, hl, hr, h4⟩⟩
section
variable {X : Cx} {g : Gx} {e : En} {W : WX} {o b : Expr} {pos p1 p2 : Pos} {f : DE} {i : Nat} {n x : Str} {cs : List Nat} {tab : TabH}
/-- o.n, a field of what was caught -/
structure XfOk (g : Gx) (cs : List Nat) (i : Nat) (n : Str) : Prop where
  lt : i < g.nA
  an : g.an i = n
  ok : ∀ c, c ∈ cs → XcC g.K (g.ca c) ∧ PySem.W.findIn g.K (.ref (g.ca c)) n = some none
def dXfl (cs : List Nat) (i : Nat) (f : DE) : DE := fun ρ S k E => f ρ S (fun x S1 => ∃ a c fs d, x = .mu a ∧ S1 a = some (.exc c fs) ∧ c ∈ cs ∧ fs.lookup i = some d ∧ k d S1) E
@[simp] theorem q_dXfl : type_of% @DL.dXfl.eq_1 := @DL.dXfl.eq_1
theorem de_xfl (hK : X.K = g.K) (T : XfOk g cs i n) (he : PE X o (lift g e W f)) (hab : attributeBase o n X.env (eval o X.env) = eval o X.env := by rfl) : PE X (.Attribute o n pos) (lift g e W (dXfl cs i f)) := by
  constructor
  intro pins s σ H Q I ⟨ρ, Hi, S, k, E, i0, sl, q, hk, hx⟩
  refine attr_of hab (thn (he.run pins s σ H (fun v H1 => ∃ d S1 Hi1, Is g e H1 Hi1 S1 ∧ Same Hi Hi1 ∧ Rep g Hi1 v d ∧ ∃ a c fs y, d = .mu a ∧ S1 a = some (.exc c fs) ∧ c ∈ cs ∧ fs.lookup i = some y ∧ k y S1) I ⟨ρ, Hi, S, _, E, i0, sl, q, fun d S' v H' Hi' i' s' r' q' => ⟨d, S', Hi', i', s', r', q'⟩, hx⟩) fun u s1 ⟨v, H1, I1, rv, d, S1, Hi1, i1, s1', r1, a, c, fs, y, e1, e2, hc, e3, q1⟩ => ?_)
  subst e1
  obtain rfl : v = .ref a := r1
  obtain rfl : u = Value.ref a := rv
  obtain ⟨oe, od, J, z⟩ := exc_inst i1.ok I1.hok e2
  obtain ⟨xc, hno⟩ := T.ok c hc
  rcases z with ⟨_, rfl⟩ | ⟨ob, vs, mA, rfl, hl, hr, rf⟩
  · cases e3
  · obtain ⟨u, l1, ru⟩ := repF_look T.lt rf e3
    rw [T.an] at l1
    obtain ⟨w, hw, rw'⟩ := RelO.some_of (v := u) (o := mA n) (by rw [← l1]; exact hr n)
    have kin : g.K.In s1.heap := by rw [← hK]; exact I1.kIn
    exact HandSPX.exc_get kin J xc.xf.ga xc.xf.gg xc.xf.exC (PySem.W.findObj_own xc.xf.hdC hno rfl (by rw [hl, hw])) (handed_of rw') ⟨u, H1, I1.tok _, rw', hk y S1 u H1 Hi1 i1 s1' ru q1⟩
/-- isinstance(o, x), o what was caught -/
structure IxOk (g : Gx) (tab : TabH) (u : Value) : Prop where
  ok : ∀ c r, tab c = some r → PySem.W.kitOne g.K (.ref (g.ca c)) u = some r ∧ XcC g.K (g.ca c)
def dIsX (tab : TabH) (f : DE) : DE := fun ρ S k E => f ρ S (fun x S1 => ∃ a c fs r, x = .mu a ∧ S1 a = some (.exc c fs) ∧ tab c = some r ∧ k (.bl r) S1) E
@[simp] theorem q_dIsX : type_of% @DL.dIsX.eq_1 := @DL.dIsX.eq_1
def rIxE (g : Gx) (e : En) (tab : TabH) (k : D → Sto → Prop) (u : Value) : List V → Hp → VK → Prop := fun xs H Q => ∃ (a : Addr) (c : V) (cn : Nat) (fs : List (Nat × D)) (r : Bool) (S : Sto) (Hi : Hp), xs = [.ref a, c] ∧ ClsV c u ∧ Is g e H Hi S ∧ S a = some (.exc cn fs) ∧ tab cn = some r ∧ Q (.bl r) H
theorem call_ix {u : Value} {k : D → Sto → Prop} (hK : X.K = g.K) (T : IxOk g tab u) : CallR X (.builtin "isinstance") (rIxE g e tab k u) := by
  intro pins s σ H xs us Q I r h
  obtain ⟨a, cv, cn, fs, b, S, Hi, rfl, hcv, i0, hS, ht, q⟩ := h
  obtain ⟨u1, u2, rfl, r1, r2⟩ := vals2 r
  obtain rfl : u1 = Value.ref a := r1
  have e2 := hcv.eq r2
  subst e2
  obtain ⟨oe, od, J, _⟩ := exc_inst i0.ok I.hok hS
  obtain ⟨hk, xc⟩ := T.ok cn b ht
  have kin : g.K.In s.heap := by rw [← hK]; exact I.kIn
  have hcl : (PySem.W.clsIn g.K (g.ca cn)).isSome = true := by
    obtain ⟨cd, hc, _⟩ := PySem.W.any_some xc.xf.hdC
    rw [hc]; rfl
  exact PySem.W.kia_one (PySem.W.kitx_exc hcl xc.xf.ga xc.xf.gg xc.xf.exC xc.ci xc.gi xc.tk xc.mo) kin J hk (fun z => nomatch z) fun tk => ⟨.bl b, H, I.kept (t' := tk) fun _ _ z => z, rfl, q⟩
theorem de_isX {cn : Nat} (C : Cxt X g e W) (T : IxOk g tab (.ref (g.ca cn))) (hg : Gl X "isinstance") (hm : g.mg "isinstance" = none) (hT : Gl X x) (hmT : g.mg x = some (.ref (g.ca cn))) (h : PE X o (lift g e W f)) (hdT : (x == ("__debug__" : Str)) = false := by decide)
    (hs : starEach [o, .Name x p2] X.env = (false, eval o X.env) :: starEach [.Name x p2] X.env := by rfl) (hs2 : starEach [.Name x p2] X.env = [(false, eval (.Name x p2) X.env)] := by rfl) : PE X (.Call (.Name "isinstance" p1) [o, .Name x p2] [] pos) (lift g e W (dIsX tab f)) :=
  (pe_callB (call_ix (e := e) (k := fun _ _ => True) C.K T) hg (by rw [C.mg]; exact hm) PyProof.Rows.boot_isinstance (pa_cons h (pa_cons (pe_glob hT (by rw [C.mg]; exact hmT) (v := .ref (g.ca cn)) rfl hdT) pa_nil hs2) hs) (by decide) (by decide) hs (by rw [hs2]; rfl)).imp fun σ H Q ⟨ρ, Hi, S, k, E, i0, sl, q, hk, hx⟩ =>
    ⟨ρ, Hi, S, _, E, i0, sl, q, fun d S1 y H1 Hi1 i1 s1 r1 ⟨a, c, fs, r, e1, e2, e3, q1⟩ => by
      subst e1
      obtain rfl : y = .ref a := r1
      exact ⟨a, .ref (g.ca cn), c, fs, r, S1, Hi1, rfl, .own (g.ca cn), i1, e2, e3, hk (.bl r) S1 _ H1 Hi1 i1 s1 rfl q1⟩, hx⟩
end
end DL
end
/-! ## DL53 -/
section
set_option Elab.async false
set_option linter.all false
set_option maxRecDepth 100000
set_option maxHeartbeats 4000000
/-! f(lambda: e): a def that is handed a lambda and calls it -/
namespace DL
open PySem PySem.Spec PyProof.Rows L2 LamX
/-- the code object and the table of a def -/
theorem lcAd_of {K : PySem.W.Frag} {f : Addr} {oc : Value} {od : Option Addr} {osl : Array (Option Value)} {fd : FuncData} {q : Str} (lk : K.lookup f = some ⟨oc, od, .func fd, osl⟩) (h : PySem.W.codeIn K fd.code q = true) : fd.code = .ref (lcAd K f) := by
  obtain ⟨c, e⟩ : ∃ c, fd.code = .ref c := by
    cases z : fd.code with
    | ref c => exact ⟨c, rfl⟩
    | _ => rw [z] at h; cases h
  unfold lcAd
  rw [lk]
  simp only [e]
/-- what the base says of the lambda makers: fs, their addresses -/
structure TabsL (g : Gx) (base : Heap) (fs : List (Addr × Str)) : Prop where
  tb : ∀ p ∈ fs, TabB base g.mg (lcAd g.K p.1) (ltAd g.K p.1)
  mem : ∀ p ∈ fs, (ltAd g.K p.1, p.2) ∈ g.T
  uniq : ∀ p ∈ fs, ∀ r ∈ g.T, r.1 = ltAd g.K p.1 → r.2 = p.2
section
variable {X : Cx} {g : Gx} {e : En} {W : WX} {pins : List (Addr × Obj)} {σ : L2.St} {H Hi : Hp} {S : Sto} {s : Shared}
/-- a new code object in the table: the state goes on -/
theorem is_table {P c : Addr} {q : Str} {ps more : Array Value} (i : Is g e H Hi S) (hP : H P = some (.tbl ps)) (nP : Hi P = none) (nc : H c = none) (hp : (P, q) ∈ g.T) (hu : ∀ r ∈ g.T, r.1 = P → r.2 = q) (ht : TriplesOk (ps ++ more).toList)
    (hm : ∀ pos cv, codeAmong pos (ps ++ more).toList = some cv → codeAmong pos ps.toList = some cv ∨ cv = .ref c) :
    Is g e (upd (upd H P (.tbl (ps ++ more))) c (CodeO c q)) (upd Hi c (CodeO c q)) S ∧ Same Hi (upd Hi c (CodeO c q)) := by
  have hc : Hi c = none := by
    cases z : Hi c with
    | none => rfl
    | some u => rw [i.ok.sub c u z] at nc; cases nc
  have sP : S P = none := by
    cases z : S P with
    | none => rfl
    | some u => exact absurd hP ((i.ok.cell P u z).2.notTbl ps)
  have nPc : P ≠ c := ne_of_none hP nc
  have s1 : Same Hi (upd Hi c (CodeO c q)) := fun b u z => by rw [upd_ne (ne_of_none z hc)]; exact z
  have at_ : ∀ {b : Addr}, b ≠ P → b ≠ c → upd (upd H P (.tbl (ps ++ more))) c (CodeO c q) b = H b := fun h1 h2 => by rw [upd_ne h2, upd_ne h1]
  have atP : upd (upd H P (.tbl (ps ++ more))) c (CodeO c q) P = some (.tbl (ps ++ more)) := by rw [upd_ne nPc, upd_same]
  have o1 : Ok g (upd (upd H P (.tbl (ps ++ more))) c (CodeO c q)) (upd Hi c (CodeO c q)) S := by
    refine ⟨fun b u z => ?_, fun b d z => ?_, fun r hr => ?_⟩
    · by_cases hb : b = c
      · subst hb; rw [upd_same] at z ⊢; exact z
      · rw [upd_ne hb] at z
        have nb : b ≠ P := fun y => by rw [y, nP] at z; cases z
        rw [at_ nb hb]; exact i.ok.sub b u z
    · obtain ⟨h1, h2⟩ := i.ok.cell b d z
      have nb : b ≠ P := fun y => by rw [y, sP] at z; cases z
      obtain ⟨u, h3⟩ := h2.some
      have nb2 : b ≠ c := ne_of_none h3 nc
      exact ⟨by rw [upd_ne nb2]; exact h1, h2.mono (at_ nb nb2) s1⟩
    · obtain ⟨r0, rs, r1, r2, r3⟩ := i.ok.tab r hr
      by_cases hb : r.1 = P
      · have e1 := hu r hr hb
        rw [hb] at r1 r0 ⊢
        rw [hP] at r1
        obtain rfl : rs = ps := (HO.tbl.inj (Option.some.inj r1)).symm
        refine ⟨by rw [upd_ne nPc]; exact nP, _, atP, ht, fun pos cv z => ?_⟩
        rcases hm pos cv z with y | y
        · obtain ⟨c0, y1, y2⟩ := r3 pos cv y
          exact ⟨c0, y1, s1 _ _ y2⟩
        · exact ⟨c, y, by rw [e1]; exact upd_same⟩
      · have nb2 : r.1 ≠ c := ne_of_none r1 nc
        refine ⟨by rw [upd_ne nb2]; exact r0, rs, by rw [at_ hb nb2]; exact r1, r2, fun pos cv z => ?_⟩
        obtain ⟨c0, y1, y2⟩ := r3 pos cv z
        exact ⟨c0, y1, s1 _ _ y2⟩
  refine ⟨i.next o1 ⟨s1, fun b u z _ nt => ?_, fun b u z h1 h2 => ⟨by rw [upd_ne (ne_of_none z nc)]; exact h1, h2⟩, fun b u z => ?_⟩, s1⟩
  · have nb : b ≠ P := fun y => by rw [y, hP] at z; exact nt ps (Option.some.inj z).symm
    rw [at_ nb (ne_of_none z nc)]; exact z
  · by_cases hb : b = P
    · exact ⟨_, by rw [hb]; exact atP⟩
    · exact ⟨u, by rw [at_ hb (ne_of_none z nc)]; exact z⟩
/-- the lambda as it stands -/
abbrev lamO (X : Cx) (params : Arguments) (body : Expr) (scope : Scope) (pm : Value) (c' : Addr) (ctv : Value) : Obj := PySem.W.kla_obj "<lambda>" (X.env.qual ++ "<lambda>") params body scope (cloFrom X.env.cells scope.names []) pm c' ctv
theorem lam_new {c P : Addr} {params : Arguments} {body : Expr} {scope : Scope} {pos : Pos} {E : Value → Shared → Prop} {Q : Value → Shared → Prop} (I : Inv X pins σ H s) (i : Is g e H Hi S) (TB : TabB X.base X.mg c P) (hcode : X.env.code = .ref c)
    (hp : (P, X.env.qual ++ "<lambda>") ∈ g.T) (hu : ∀ r ∈ g.T, r.1 = P → r.2 = X.env.qual ++ "<lambda>") (hdef : defaultsOf params X.env = ([], [])) (hfree : ∀ y ∈ scope.names, y.2 = .free → ∃ c, X.env.cells.lookup y.1 = some c)
    (h : ∀ (f c' : Addr) (pm ctv : Value) (H1 Hi1 : Hp) (s' : Shared), Inv X pins σ H1 s' → Is g e H1 Hi1 S → Same Hi Hi1 → s'.heap.get? f = some (lamO X params body scope pm c' ctv) → H1 f = none → f ∉ frs X.stack → Hi1 c' = some (CodeO c' (X.env.qual ++ "<lambda>")) → Q (.ref f) s') :
    wpAny (model X.prog X.w) X.A (eval (.Lambda params body scope pos) X.env) Q E s := by
  obtain ⟨nP, ps, hP, ht, ha⟩ := i.ok.tab _ hp
  refine PySem.W.kla_eval hdef ?_
  have bP : s.heap.BuiltinsAt X.mg P := TB.bm.keeps I.bk
  have hP' : s.heap.get? P = some { cls := .none, data := .fields ps } := I.hok P _ hP
  have nofr : ∀ f, s.heap.objs.size ≤ f → f ∉ frs X.stack := fun f hf z => by
    rcases List.mem_cons.mp (I.stkSub _ z) with y | y
    · have h1 : f < s.heap.objs.size := by rw [y]; exact I.lt
      omega
    · exact I.nofs hf y
  cases hc : codeAmong pos ps.toList with
  | some cv =>
    obtain ⟨c', z, hco⟩ := ha pos cv hc
    subst z
    refine PySem.W.kla_makeFunctionHit (mg := X.mg) (c := c) (P := P) (ps := ps) (closure_ok hfree) I.ok.glob (I.mod.glob.keeps I.bk) hcode (TB.code.keeps I.bk) hP' ht hc bP fun ctv h' tk hx hsz => ?_
    exact h h'.objs.size c' _ ctv H Hi _ (I.kept fun b o z => Heap.get?_push_of_some _ (hx b o z)) i (Same.refl _) (Heap.get?_push_size _ rfl) (I.hok.fresh hsz) (nofr _ hsz) hco
  | none =>
    refine PySem.W.kla_makeFunction (mg := X.mg) (c := c) (P := P) (ps := ps) (closure_ok hfree) I.ok.glob (I.mod.glob.keeps I.bk) hcode (TB.code.keeps I.bk) hP' ht hc TB.gP bP fun c' ctv h' tk hx hge hlt hrec htb => ?_
    obtain ⟨c2, oc, vs, t, e2, hoc, hd, hv⟩ := hrec
    cases e2
    have hsz : s.heap.objs.size ≤ h'.objs.size := Nat.le_trans hge (Nat.le_of_lt hlt)
    have nC : H c' = none := I.hok.fresh hge
    have e5 : (ps ++ #[rawInt pos.line, rawInt pos.col, .ref c']).toList = ps.toList ++ [rawInt pos.line, rawInt pos.col, .ref c'] := by simp
    obtain ⟨i1, s1⟩ := is_table (more := #[rawInt pos.line, rawInt pos.col, .ref c']) i hP nP nC hp hu (by rw [e5]; exact PySem.TriplesOk_snoc _ _ _ _ ht) fun p' cv z => among_app _ ht (by rw [e5] at z; exact z)
    have I1 := inv_table (t' := tk) (q := X.env.qual ++ "<lambda>") (more := #[rawInt pos.line, rawInt pos.col, .ref c']) (h' := h'.push (lamO X params body scope ((X.mg "__name__").getD .none) c' ctv)) I hP
      (fun b o hb z => Heap.get?_push_of_some _ (hx b o hb z)) (Heap.get?_push_of_some _ htb) hge ⟨oc, vs, t, Heap.get?_push_of_some _ hoc, hd, hv⟩
    refine h h'.objs.size c' _ ctv _ _ _ I1 i1 s1 (Heap.get?_push_size _ rfl) ?_ (nofr _ hsz) upd_same
    have n1 : h'.objs.size ≠ c' := Nat.ne_of_gt hlt
    have n2 : h'.objs.size ≠ P := Nat.ne_of_gt (Nat.lt_of_lt_of_le (Heap.lt_size hP') hsz)
    rw [upd_ne n1, upd_ne n2]
    exact I.hok.fresh hsz
end
/-! ### the lambda called by its def -/
/-- x() where slot i holds the function at f, of which wr is known -/
def dAct (i : Nat) (f : Addr) (wr : DFn) : DE := fun ρ S k E => ρ[i]? = some (some (.mu f)) ∧ wr [] S k E
@[simp] theorem q_dAct : type_of% @DL.dAct.eq_1 := @DL.dAct.eq_1
def ActD (X : Cx) (g : Gx) (e : En) (a : Str) (i : Nat) (f : Addr) (wr : DFn) : Prop :=
  ∀ (W : WX) (pn : List (Addr × Obj)) (xe : Value → Shared → Prop) (p1 p2 : Pos), Cxt (X.tr pn xe) g e W → PE (X.tr pn xe) (.Call (.Name a p1) [] [] p2) (lift g e W (dAct i f wr))
section
variable {X : Cx} {g : Gx} {e : En} {W : WX} {pins : List (Addr × Obj)} {σ : L2.St} {H Hi : Hp} {S : Sto} {s : Shared} {ρ : Env}
theorem cxt_lam (C : Cxt X g e W) {A : Around} {outer : List PySem.Env} {s : Shared} {H : Hp} {E : XK} {scope : Scope} {f c' : Addr} {e3 : En} (hg : A.guards = some []) : Cxt (lamCx X A outer s H E scope f c') g e3 (wX E) :=
  ⟨C.K, C.mg, rfl, hg, takes_of rfl rfl rfl rfl⟩
/-- how a lambda's body is told: in any frame of its own -/
abbrev LamD (X : Cx) (g : Gx) (k : Nat) (scope : Scope) (f c' : Addr) (body : Expr) (tb : DE) : Prop :=
  ∀ (A : Around) (outer : List PySem.Env) (s : Shared) (H : Hp) (E : XK), Room k (A.deeper (lamEnv X scope s.heap.objs.size f c')) → A.guards = some [] → ∀ e3 : En, PE (lamCx X A outer s H E scope f c') body (lift g e3 (wX E) tb)
theorem act_ok {Ng : List Str} {qg : Str} {sg : Scope} {ga f c' : Addr} {cdg pm ctv : Value} {params : Arguments} {body : Expr} {scope : Scope} {k i : Nat} {a : Str} {E : XK} {tb : DE} {e2 : En} (C : Cxt X g e W) (I : Inv X pins σ H s) (sl : Slots g Hi σ ρ) (L : LamS X.env.scope scope)
    (hf : s.heap.get? f = some (lamO X params body scope pm c' ctv)) (hfn : H f = none) (hfr : f ∉ frs X.stack) (hco : Hi c' = some (CodeO c' (X.env.qual ++ "<lambda>"))) (e2i : e2.Hi = Hi)
    (hbind : bindArgs (PySem.W.kla_fn "<lambda>" (X.env.qual ++ "<lambda>") params body scope (cloFrom X.env.cells scope.names []) pm (.ref c') ctv) ⟨[], []⟩ = pure []) (hr : Room (k + 1) (X.A.deeper (envOfC qg sg s.heap.objs.size ga cdg)))
    (hbody : LamD X g k scope f c' body tb) (hN : Ng[i]? = some a) (hv : Vis sg a) (hd : (a == ("__debug__" : Str)) = false := by decide) (hcd : (a == ("__classdict__" : Str)) = false := by decide) :
    ActD (cxD g X.prog X.w X.base Ng qg sg ga cdg X.A X.stack s H E) g e2 a i f (fun _ S' k' E' => tb ρ S' k' E') := by
  intro W2 pn xe p1 p2 C2
  constructor
  intro pinsZ sZ σZ HZ Q IZ ⟨ρZ, HiZ, SZ, kk, E1, iZ, slZ, ⟨hs, q⟩, hk, hx⟩
  obtain ⟨v0, hs0, r0⟩ := slZ.2 i _ hs
  obtain rfl : v0 = .ref f := r0
  refine wpAny_Call_Name_kw (thn ((pe_var (pos := p1) (i := i) hN hv hd hcd).run pinsZ sZ σZ HZ (fun v H1 => v = .ref f ∧ H1 = HZ) IZ ⟨.ref f, hs0, rfl, rfl⟩) fun u s1 ⟨v, H1, I1, r1, e3, e4⟩ => ?_)
  subst e3 e4
  obtain rfl : u = Value.ref f := r1
  have here : s1.heap.get? f = some (lamO X params body scope pm c' ctv) := I1.base.keep f _ hf hfn hfr (fun z => nomatch (show f ∈ ([] : List Addr) from z))
  refine PySem.W.callWith_F0 ⟨_, _, _, _, here⟩ ?_
  have un : Un (frs X.stack) [] H H1 s.heap s1.heap := I1.base
  have imm : Same Hi HiZ := by rw [← e2i]; exact iZ.ext.imm
  have hcz : H1 c' = some (CodeO c' (X.env.qual ++ "<lambda>")) := iZ.ok.sub _ _ (imm _ _ hco)
  obtain ⟨⟨oc, vs, t, hoc, hdc, hvc⟩, _, _⟩ := I1.hok c' _ hcz
  have gz : (X.A.deeper (envOfC qg sg s.heap.objs.size ga cdg)).guards = some [] := C2.gd
  have run : codeAny (model X.prog X.w) (X.A.deeper (envOfC qg sg s.heap.objs.size ga cdg)) (.call (.ref f) ⟨[], []⟩) (CR (L2.CX X.prog X.w) (envOfC qg sg s.heap.objs.size ga cdg :: X.stack) X.prog X.w H1 s1 Q (WE W2 σZ)) s1 := by
    refine PySem.W.kla_callFunE hr.depth here rfl L.co L.gen rfl ⟨c', oc, vs, t, rfl, hoc, hdc, hvc⟩ ?_
    rw [hbind]
    refine wpAny_pure (wpAny_newFunctionEnv (fun y hy => (L.own y hy).2) (fun y hy => absurd hy (by simp)) (fun h1 hns hsb => ⟨I1.nolimit.fresh _ hsb, ?_⟩) L.kind)
    show codeAny _ _ (.expr body (lamEnv X scope s1.heap.objs.size f c')) _ _
    have kp : ∀ b o, s1.heap.get? b = some o → h1.get? b = some o := fun b o z => hsb.extBut b o (Nat.ne_of_lt (Heap.lt_size z)) (Heap.get?_push_of_some _ z)
    have J : Inv (lamCx X (X.A.deeper (envOfC qg sg s.heap.objs.size ga cdg)) (envOfC qg sg s.heap.objs.size ga cdg :: X.stack) s1 H1 (WE W2 σZ) scope f c') [] σ H1 { s1 with heap := h1, toks := s1.toks + ([] : List (Str × Value)).length } :=
      lam_start2 I L (by rw [C.K, C.mg]; exact I1.env0) hr.hd un hns kp
    have z := (hbody (X.A.deeper (envOfC qg sg s.heap.objs.size ga cdg)) (envOfC qg sg s.heap.objs.size ga cdg :: X.stack) s1 H1 (WE W2 σZ) (hr.deeper _) gz ⟨H1, HiZ, SZ, iZ.ok.sub⟩).run [] _ σ H1 Q J
      ⟨ρ, HiZ, SZ, kk, E1, ⟨iZ.ok, Ext.refl⟩, sl.mono imm, q, fun d S' v H' Hi' i' s' r' q' => hk d S' v H' Hi' (iZ.next i'.ok i'.ext) s' r' q', fun c fs S' H' Hi' cls dx i' s' x' q' => hx c fs S' H' Hi' cls dx (iZ.next i'.ok i'.ext) s' x' q'⟩
    refine PySem.W.kla_codeExpr (wpAny_mono z (fun v s' hq => ?_) fun er s' hq => hq)
    obtain ⟨w', H', J', rv, y⟩ := hq
    exact ⟨w', H', J'.os, J'.bare, J'.base, J'.hok, rv, y⟩
  have pass := passAt C2.tk σZ
  refine wpAny_call (codeAny_mono run fun r s' hq => ?_)
  match r, hq with
  | .error er, hq => exact pass pinsZ H1 s1 er s' I1 hq
  | .ok (.ret u), hq => exact I1.after hq
  | .ok .next, hq => exact hq.elim
  | .ok .brk, hq => exact hq.elim
  | .ok .cont, hq => exact hq.elim
end
/-! ### x(lambda: body) -/
/-- the def that calls its parameter a (slot 0): its body, whatever it is handed -/
abbrev BodyH (g : Gx) (P : Program) (w : World) (base : Heap) (k : Nat) (N : List Str) (qual : Str) (scope : Scope) (body : List Stmt) (ga : Addr) (a : Str) (t : Addr → DFn → DS) : Prop :=
  ∀ (cdv : Value) (A : Around) (outer : List PySem.Env) (s : Shared) (H : Hp) (E : XK) (fv : Addr) (wr : DFn), Room k (A.deeper (envOfC qual scope s.heap.objs.size ga cdv)) → A.guards = some [] → ∀ e : En,
    ActD (cxD g P w base N qual scope ga cdv A outer s H E) g e a 0 fv wr → PSs (cxD g P w base N qual scope ga cdv A outer s H E) body (liftS g e (wX E) (t fv wr))
def dHand (n : Nat) (t : Addr → DFn → DS) (fv : Addr) (wr : DFn) : DFn := dGc (dBody n (t fv wr))
def dLamC (wh : Addr → DFn → DFn) (tb : DE) : DE := fun ρ S k E => ∀ fv, wh fv (fun _ S' k' E' => tb ρ S' k' E') [.mu fv] S k E
@[simp] theorem q_dLamC : type_of% @DL.dLamC.eq_1 := @DL.dLamC.eq_1
section
variable {X : Cx} {g : Gx} {e : En} {W : WX}
theorem de_lamC {fs : List (Addr × Str)} {mk ga : Addr} {x a : Str} {pg params : Arguments} {bg : List Stmt} {sg scope : Scope} {fd : FuncData} {Ng : List Str} {body : Expr} {t : Addr → DFn → DS} {tb : DE} {k kg : Nat} {p lpos pos : Pos} (C : Cxt X g e W)
    (F : FunD g.K x x pg bg sg [] [] ga fd) (Sg : FnScope Ng [a] sg) (hbg : BodyH g X.prog X.w X.base kg Ng x sg bg ga a t)
    (hbindg : ∀ (kV doc pm : Value) (an : Option Addr) (cdv ct : Value) (us : List Value), us.length = ([a] : List Str).length → bindArgs (PySem.W.fnOf x x pg bg sg .none kV doc pm an cdv ct) { pos := us, kw := [] } = pure (([a] : List Str).zip us))
    (hkg : kg ≤ k + 1) (hr : Room (k + 2) X.A) (hg : Gl X x) (hm : g.mg x = some (.ref ga)) (hk : PySem.W.keepIn g.K (.ref ga) = true) (hNg : Ng[0]? = some a) (hva : Vis sg a)
    (LT : TabsL g X.base fs) (hin : (mk, X.env.qual ++ "<lambda>") ∈ fs) (hcode : X.env.code = .ref (lcAd g.K mk)) (L : LamS X.env.scope scope) (hdef : defaultsOf params X.env = ([], []))
    (hbind : ∀ (q : Str) (cl : List (Str × Addr)) (pm cv ctv : Value), bindArgs (PySem.W.kla_fn "<lambda>" q params body scope cl pm cv ctv) ⟨[], []⟩ = pure []) (hbody : ∀ (f c' : Addr), LamD X g k scope f c' body tb)
    (hdb : (x == ("__debug__" : Str)) = false := by decide) (hd : (a == ("__debug__" : Str)) = false := by decide) (hcd : (a == ("__classdict__" : Str)) = false := by decide)
    (hs : starEach [.Lambda params body scope lpos] X.env = (false, eval (.Lambda params body scope lpos) X.env) :: starEach [] X.env := by rfl) :
    PE X (.Call (.Name x p) [.Lambda params body scope lpos] [] pos) (lift g e W (dLamC (dHand Ng.length t) tb)) := by
  constructor
  intro pins s σ H Q I ⟨ρ, Hi, S, k1, E1, i, sl, q, hQ, hx⟩
  obtain ⟨oc, od, dV, kV, doc, pm, an, cdv, ct, osl, efd, lk, hcdg, hdV, _⟩ := F.ex
  obtain rfl : dV = .none := by
    rcases hdV with ⟨_, z⟩ | ⟨z, _⟩
    · exact z
    · exact absurd rfl z
  have Bg := F.bindsN hbindg
  subst efd
  refine wpAny_Call_Name_kw (ld_glob I hg (by rw [C.mg]; exact hm) ?_ hdb)
  refine PySem.W.callWith_K (h₀ := X.base) I.ok.mod.kin (by rw [C.K]; exact hk) ?_ hs (by rfl)
  rw [hs]
  show wpAny _ _ (spliced ((false, eval (.Lambda params body scope lpos) X.env) :: backTo pos (starEach [] X.env))) _ _ s
  have TB : TabB X.base X.mg (lcAd g.K mk) (ltAd g.K mk) := by rw [C.mg]; exact LT.tb _ hin
  refine Calls.spliced_cons (lam_new I i TB hcode (LT.mem _ hin) (LT.uniq _ hin) hdef (L.has I.ok) fun f c' pm' ctv H1 Hi1 s1 I1 i1 s1' hf hfn hfr hco => ?_)
  refine Calls.spliced_nil ⟨I1.kIn, ?_⟩
  have sl1 := sl.mono s1'
  have kok : KOk g e Hi1 k1 Q := KOk.mono hQ s1'
  have xok := hx.mono s1'
  have run : codeAny (model X.prog X.w) X.A (.call (.ref ga) ⟨[.ref f], []⟩) (CR (L2.CX X.prog X.w) X.stack X.prog X.w H1 s1 Q (WE W σ)) s1 := by
    have E0 : Env0 X.prog X.w g.K g.mg X.base X.A X.stack s1 H1 := by
      have z := I1.env0
      rw [C.K, C.mg] at z
      exact z
    have kin : g.K.In s1.heap := by rw [← C.K]; exact I1.kIn
    refine LamX.run_ofS (CX := L2.CX X.prog X.w) (N := Ng) (ps := [a]) (us := [.ref f]) (vs := [.ref f]) lk hcdg Sg (hr : Room (k + 1 + 1) X.A) E0 (Bg s1 [.ref f] kin rfl) (.cons rfl .nil) rfl fun hr' => ?_
    have act : ActD (cxD g X.prog X.w X.base Ng x sg ga cdv X.A X.stack s1 H1 (WE W σ)) g ⟨H1, Hi1, S, i1.ok.sub⟩ a 0 f (fun _ S' k' E' => tb ρ S' k' E') :=
      act_ok C I1 sl1 L hf hfn hfr hco rfl (hbind _ _ _ _ _) hr' (hbody f c') hNg hva hd hcd
    have bd := fun (e0 : En) (z : e0 = ⟨H1, Hi1, S, i1.ok.sub⟩) => hbg cdv X.A X.stack s1 H1 (WE W σ) f (fun _ S' k' E' => tb ρ S' k' E') (hr'.mono hkg) C.gd e0 (by rw [z]; exact act)
    refine ⟨_, bd _ rfl, denv Ng.length [.mu f], Hi1, S, _, ⟨i1.ok, Ext.refl⟩, slots_start ⟨rfl, trivial⟩, q f, ?_⟩
    refine ⟨fun ρ' S' σ' H' Hi' i' s' sl' ⟨S2, z, q'⟩ => ?_, fun d S' v H' Hi' i' s' r' ⟨S2, z, q'⟩ => ?_, fun _ _ _ _ _ _ _ _ z => z.elim, fun _ _ _ _ _ _ _ _ z => z.elim, fun c fs ρ' S' σ' H' Hi' cls dx i' s' sl' x' ⟨S2, z, q'⟩ => ?_⟩
    · exact kok .non S2 .non H' Hi' ((i1.next i'.ok i'.ext).sub_ z) s' rfl q'
    · exact kok d S2 v H' Hi' ((i1.next i'.ok i'.ext).sub_ z) s' r' q'
    · exact xok c fs S2 H' Hi' cls dx ((i1.next i'.ok i'.ext).sub_ z) s' x' q'
  have pass := C.pass σ
  refine wpAny_call (codeAny_mono run fun r s2 hq => ?_)
  match r, hq with
  | .error er, hq => exact pass pins H1 s1 er s2 I1 hq
  | .ok (.ret u), hq => exact I1.after hq
  | .ok .next, hq => exact hq.elim
  | .ok .brk, hq => exact hq.elim
  | .ok .cont, hq => exact hq.elim
end
end DL
end
/-! ## DL54 -/
section
set_option Elab.async false
set_option linter.all false
set_option maxRecDepth 100000
set_option maxHeartbeats 4000000
/-! the law's end where defs make lambdas -/
namespace DL
open PySem PySem.Spec PyProof.Rows L2 LamX
/-- what may be tracked at the law's entry: the script, locked, and the empty tables -/
def scrT (K : PySem.W.Frag) (a : Addr) (ob : Obj) (ns : List Int) (Ts : List Addr) : Hp := fun b => if b ∈ Ts then some (.tbl #[]) else scrH K a ob ns b
theorem law_runT {P : Program} {w : World} {g : Gx} {mb : Str → Option Value} {k : Nat} {fa a : Addr} {wf : DFn} {s1 : Shared} {vs : List Value} {ns : List Int} {fs : List (Addr × Str)}
    (KX : g.K.In s1.heap) (hns : s1.heap.Ns mainGlobals g.mg) (hb : s1.heap.Ns builtinsNs mb) (hbb : ∀ x : Str, x ≠ "__name__" → mb x = bootBuiltins x) (hlim : s1.heap.NoLimit) (hgen : s1.gens = #[])
    (ha : s1.heap.get? a = some { cls := .type "list", data := .seq vs.toArray }) (hi : IntsAre vs ns) (hl : ns.length ≤ sizeLine) (hr : Room k callerA)
    (hbm : ∃ (bm : Addr) (ob : Obj), g.mg "__builtins__" = some (.ref bm) ∧ bm ≠ builtinsNs ∧ s1.heap.get? bm = some ob ∧ ob.cls = .type "module" ∧ ob.dict = some builtinsNs ∧ ob.data = .plain)
    (hT : ∀ p ∈ fs, s1.heap.get? (ltAd g.K p.1) = some { cls := .none, data := .fields #[] } ∧ g.K.lookup (ltAd g.K p.1) = none ∧ PySem.W.CodeHd s1.heap (lcAd g.K p.1) (ltAd g.K p.1))
    (hgT : g.T = fs.map fun p => (ltAd g.K p.1, p.2)) (hinj : ∀ p ∈ fs, ∀ r ∈ fs, ltAd g.K p.1 = ltAd g.K r.1 → p.2 = r.2)
    (F : ∀ base : Heap, g.K.In base → base.Ns mainGlobals g.mg → TabsL g base fs → DFnR g P w base k fa wf)
    (hwf : wf [.scr (ns.map D.int)] (fun _ => none) (fun d _ => d = .bl true) (fun _ _ _ => False)) :
    codeAny (model P w) callerA (.call (.ref fa) { pos := [.ref a], kw := [] }) (fun r s' => r = .ok (.ret (.bool true)) ∧ OldK s1.heap s'.heap ∧ s'.os = s1.os ∧ AllBare s'.gens) s1 := by
  have rv := vals_ints hi
  have hlv := hi.length
  obtain ⟨Ts, eTs⟩ : ∃ Ts, Ts = fs.map fun p => ltAd g.K p.1 := ⟨_, rfl⟩
  obtain ⟨H, eH⟩ : ∃ H, H = scrT g.K a { cls := .type "list", data := .seq vs.toArray } ns Ts := ⟨_, rfl⟩
  have isT : ∀ b ∈ Ts, s1.heap.get? b = some { cls := .none, data := .fields #[] } ∧ g.K.lookup b = none := fun b hb => by
    rw [eTs] at hb
    obtain ⟨p, hp, rfl⟩ := List.mem_map.mp hb
    exact ⟨(hT p hp).1, (hT p hp).2.1⟩
  have aT : a ∉ Ts := fun z => by
    have y := (isT a z).1
    rw [ha] at y
    have y2 := congrArg Obj.data (Option.some.inj y)
    cases y2
  have here : ∀ b u, H b = some u → (b ∈ Ts ∧ u = .tbl #[]) ∨ (b = a ∧ g.K.lookup a = none ∧ u = .frz { cls := .type "list", data := .seq vs.toArray } (.lst (ns.map V.int))) := fun b u q => by
    rw [eH] at q
    unfold scrT at q
    split at q
    · exact .inl ⟨by assumption, (Option.some.inj q).symm⟩
    · exact .inr (scrH_some q)
  have tbl : ∀ b ∈ Ts, H b = some (.tbl #[]) := fun b hb => by rw [eH]; exact if_pos hb
  have free : ∀ {b : Addr} {o : Obj}, s1.heap.get? b = some o → (b = a → g.K.lookup a = none → False) → o.data ≠ .fields #[] → H b = none := fun {b o} q n nf => by
    cases z : H b with
    | none => rfl
    | some u =>
      rcases here b u z with ⟨h1, _⟩ | ⟨h1, h2, _⟩
      · have y := (isT b h1).1
        rw [q] at y
        exact (nf (by rw [Option.some.inj y])).elim
      · exact (n h1 h2).elim
  have kept : ∀ {b : Addr} {o : Obj}, s1.heap.get? b = some o → (b = a → g.K.lookup a = none → False) → o.data ≠ .fields #[] → (hidT s1.heap H).get? b = some o := fun {b o} q n nf => hidT_get q (free q n nf)
  have nsK : ∀ {b : Addr} {m : Str → Option Value}, s1.heap.Ns b m → (hidT s1.heap H).Ns b m := fun {b m} ⟨o, es, ep, q, d, r⟩ => ⟨o, es, ep, kept q (fun z _ => by
    rw [z, ha] at q
    rw [← Option.some.inj q] at d
    cases d) (fun z => by rw [d] at z; cases z), d, r⟩
  have inK : g.K.In (hidT s1.heap H) := fun b o q => by
    have y := KX b o q
    refine hidT_get y ?_
    cases z : H b with
    | none => rfl
    | some u =>
      rcases here b u z with ⟨h1, _⟩ | ⟨h1, h2, _⟩
      · rw [(isT b h1).2] at q; cases q
      · rw [h1, h2] at q; cases q
  have seq : SqL g.K H a (ns.map V.int) := by
    cases q : g.K.lookup a with
    | none =>
      refine .inl (.inr ⟨{ cls := .type "list", data := .seq vs.toArray }, ?_⟩)
      rw [eH]
      unfold scrT scrH
      rw [if_neg aT]
      exact if_pos ⟨rfl, q⟩
    | some o =>
      have z := KX a o q
      rw [ha] at z
      have z := Option.some.inj z
      subst z
      exact .inr ⟨_, vs.toArray, _, q, rfl, rfl, rfl, by rw [List.size_toArray, hlv]; exact hl, by simpa using rv⟩
  have hok : HOk P w H s1.heap := fun b u q => by
    rcases here b u q with ⟨h1, e2⟩ | ⟨e1, _, e2⟩
    · subst e2
      exact (show ObjOk P w H s1.heap b (.tbl #[]) from (isT b h1).1)
    · subst e1 e2
      exact ⟨ha, by rw [List.length_map]; exact hl, vs, _, rv, ha⟩
  have e0 : Env0 P w g.K g.mg (hidT s1.heap H) callerA [] s1 H :=
    ⟨rfl, ⟨inK, nsK hns, ⟨mb, nsK hb, hbb⟩, let ⟨mc, h1, h2⟩ := hlim; ⟨mc, nsK h1, h2⟩⟩, fun b o q => of_hidT q, Nat.le_of_eq (hidT_size _ _), trivial, fun b z => (List.not_mem_nil z).elim, hok, .of_eq hgen⟩
  -- the unchanging part: the script alone
  obtain ⟨Hi, eHi⟩ : ∃ Hi, Hi = scrH g.K a { cls := .type "list", data := .seq vs.toArray } ns := ⟨_, rfl⟩
  have sub : Same Hi H := fun b u q => by
    rw [eHi] at q
    obtain ⟨e1, _, _⟩ := scrH_some q
    rw [eH]
    unfold scrT
    rw [if_neg (by rw [e1]; exact aT)]
    exact q
  have seqI : SqL g.K Hi a (ns.map V.int) := by
    rcases seq with (h | ⟨o, h⟩) | h
    · rcases here a _ h with ⟨h1, _⟩ | ⟨_, _, h3⟩
      · exact absurd h1 aT
      · cases h3
    · rcases here a _ h with ⟨h1, _⟩ | ⟨_, h2, h3⟩
      · exact absurd h1 aT
      · refine .inl (.inr ⟨{ cls := .type "list", data := .seq vs.toArray }, ?_⟩)
        rw [eHi]
        unfold scrH
        exact if_pos ⟨rfl, h2⟩
    · exact .inr h
  have tabs : TabsD g.T H Hi := fun p hp => by
    rw [hgT] at hp
    obtain ⟨r, hr', rfl⟩ := List.mem_map.mp hp
    have inT : ltAd g.K r.1 ∈ Ts := by rw [eTs]; exact List.mem_map.mpr ⟨r, hr', rfl⟩
    refine ⟨?_, #[], tbl _ inT, trivial, fun pos cv z => ?_⟩
    · cases z : Hi (ltAd g.K r.1) with
      | none => rfl
      | some u =>
        rw [eHi] at z
        obtain ⟨e1, _, _⟩ := scrH_some z
        exact absurd (e1 ▸ inT) aT
    · simp [codeAmong] at z
  have hsp : spD g wf [V.ref a] H (fun v _ => v = .bl true) (fun _ _ _ => False) :=
    ⟨[.scr (ns.map D.int)], Hi, fun _ => none, _, _, ⟨sub, (fun _ _ z => by cases z), tabs⟩, ⟨⟨a, _, rfl, seqI, Reps.map_int⟩, trivial⟩, hwf, fun d S' v H' Hi' _ _ r q => by
      have q' : d = .bl true := q
      subst q'
      exact r, fun c fs S' H' Hi' cls dx _ _ _ z => z⟩
  have notT : ∀ {b : Addr} {o : Obj}, s1.heap.get? b = some o → o.data ≠ .fields #[] → b ∉ Ts := fun {b o} q n hm => by
    have y := (isT b hm).1
    rw [q] at y
    exact n (by rw [Option.some.inj y])
  have LT : TabsL g (hidT s1.heap H) fs := by
    refine ⟨fun p hp => ?_, fun p hp => by rw [hgT]; exact List.mem_map.mpr ⟨p, hp, rfl⟩, fun p hp r hr' e => ?_⟩
    · obtain ⟨h1, h2, o, vs', file, tf, flags, tg, inF, text, tt, c1, c2, c3, c4, c5⟩ := hT p hp
      have nC : (o.data ≠ .fields #[]) := fun z => by
        rw [c3] at z
        have z2 := Data.fields.inj z
        rw [z2] at c4
        simp at c4
      refine ⟨⟨o, vs', file, tf, flags, tg, inF, text, tt, kept c1 (fun z _ => ?_) nC, c2, c3, c4, c5⟩, ?_, ?_⟩
      · rw [z, ha] at c1
        rw [← Option.some.inj c1] at c3
        cases c3
      · obtain ⟨bm, ob, m1, m2, m3, m4, m5, m6⟩ := hbm
        refine ⟨bm, ob, m1, m2, ?_, ?_, kept m3 (fun z _ => ?_) (fun z => by rw [m6] at z; cases z), m4, m5, m6⟩
        · intro z
          obtain ⟨og, _, _, g1, g2, _⟩ := id hns
          rw [z, g1] at m3
          rw [Option.some.inj m3, m6] at g2
          cases g2
        · intro z
          rw [z, h1] at m3
          rw [← Option.some.inj m3] at m6
          cases m6
        · rw [z, ha] at m3
          rw [← Option.some.inj m3] at m6
          cases m6
      · intro z
        obtain ⟨og, _, _, g1, g2, _⟩ := id hns
        rw [z, h1] at g1
        rw [← Option.some.inj g1] at g2
        cases g2
    · rw [hgT] at hr'
      obtain ⟨q, hq, rfl⟩ := List.mem_map.mp hr'
      exact (hinj p hp q hq e.symm).symm
  refine codeAny_mono (F _ inK (nsK hns) LT callerA [] s1 H [.ref a] [.ref a] _ _ hr rfl e0 (.cons rfl .nil) hsp) fun r s' z => ?_
  match r, z with
  | .error er, z =>
    obtain ⟨_, _, _, _, _, _, _, _, _, _, _, _, z⟩ := z
    exact z.elim
  | .ok .next, z => exact z.elim
  | .ok .brk, z => exact z.elim
  | .ok .cont, z => exact z.elim
  | .ok (.ret u), z =>
    obtain ⟨v, H', os, bare, un, hok', r', q⟩ := z
    have q : v = .bl true := q
    subst q
    have r' : u = .bool true := r'
    subst r'
    have key : ∀ b o, b ∉ Ts → s1.heap.get? b = some o → s'.heap.get? b = some o := fun b o nb q => by
      cases z : H b with
      | none => exact un.keep b o q z (List.not_mem_nil) (List.not_mem_nil)
      | some u =>
        rcases here b u z with ⟨h1, _⟩ | ⟨_, _, e2⟩
        · exact absurd h1 nb
        · subst e2
          obtain ⟨e3, _⟩ := hok b _ z
          obtain ⟨e4, _⟩ := hok' b _ (un.frzs b _ _ z)
          rw [q] at e3
          rw [Option.some.inj e3]
          exact e4
    have grown : ∀ b ∈ Ts, ∃ more, s'.heap.get? b = some { cls := .none, data := .fields (#[] ++ more) } := fun b hb => by
      obtain ⟨more, y⟩ := un.tbls b #[] (tbl b hb)
      exact ⟨more, hok' b _ y⟩
    refine ⟨rfl, ⟨fun b o q => ?_, fun b o q => ?_⟩, os, bare⟩
    · by_cases hb : b ∈ Ts
      · obtain ⟨more, hm⟩ := grown b hb
        have y := (isT b hb).1
        rw [y] at q
        obtain rfl := Option.some.inj q
        rw [eTs] at hb
        obtain ⟨p, hp, rfl⟩ := List.mem_map.mp hb
        exact .inr (.inl ⟨((hT p hp).2.2.tab (hT p hp).1).isCodeTable, rfl, #[], more, rfl, hm⟩)
      · exact .inl (key b o hb q)
    · by_cases hb : b ∈ Ts
      · obtain ⟨more, hm⟩ := grown b hb
        exact ⟨_, hm⟩
      · exact ⟨o, key b o hb q⟩
end DL
end
/-! ## DL55 -/
section
set_option Elab.async false
set_option linter.all false
set_option maxRecDepth 100000
set_option maxHeartbeats 4000000
/-! the head where defs make lambdas: empty tables stay out of K -/
namespace DL
open PySem PySem.Spec PyProof.Rows L2
/-- the law by the data of its def -/
theorem walk_dT {l : PySem.W.OpenLaw} {n k : Nat} {q : Program} {loose : List Str} {XP : (Str → Option Value) → Heap → Prop} {YP : World → Heap → Prop} {d : DefRec}
    (hn : l.most = some n) (hn2 : n ≤ sizeLine) (hdf : d.params.defaults = []) (hr : Room k callerA)
    (F : ∀ (w : World) (mg : Str → Option Value) (fa : Addr) (h : Heap), YP w h → h.Ns mainGlobals mg → mg d.name = some (.ref fa) →
      ∃ (g : Gx) (wf : DFn) (fs : List (Addr × Str)), g.mg = mg ∧ g.K.In h ∧ g.T = (fs.map fun p => (ltAd g.K p.1, p.2)) ∧ (∀ p ∈ fs, ∀ r ∈ fs, ltAd g.K p.1 = ltAd g.K r.1 → p.2 = r.2) ∧
        (∀ p ∈ fs, PySem.W.codeHdIn g.K (lcAd g.K p.1) (ltAd g.K p.1) = true) ∧ (∀ p ∈ fs, g.K.lookup (ltAd g.K p.1) = none) ∧ (∀ p ∈ fs, h.get? (ltAd g.K p.1) = some { cls := .none, data := .fields #[] }) ∧
        (∀ ns : List Int, ns.length ≤ n → wf [.scr (ns.map D.int)] (fun _ => none) (fun d _ => d = .bl true) (fun _ _ _ => False)) ∧
        ∀ base : Heap, g.K.In base → base.Ns mainGlobals mg → TabsL g base fs → DFnR g l.prog w base k fa wf) :
    PySem.W.WalkO q loose XP YP l.row.toRowW d [] (fun f vs => PySem.call f vs) := by
  refine Att.attach_call hn hdf fun w s₀ s₁ mg mb fa o pm cd doc a vs ns G Y ho hd hcd hmg hobj hints hlen hg => ?_
  obtain ⟨g, wf, fs, eg, KX, eT, inj, h1, h2, h3, hwf, hF⟩ := F w mg fa _ Y G.T.g hmg
  subst eg
  exact law_runT KX G.T.g G.T.b G.T.builtins G.T.nolimit hg hobj hints (Nat.le_trans hlen hn2) hr G.T.bmain (fun p hp => ⟨h3 p hp, h2 p hp, PySem.W.codeHd_of_K KX (h1 p hp)⟩) eT inj hF (hwf ns hlen)
end DL
end
/-! ## DL56 -/
section
set_option Elab.async false
set_option linter.all false
set_option maxRecDepth 100000
set_option maxHeartbeats 4000000
/-! f(lambda p=0: e) -/
namespace DL
open PySem PySem.Spec PyProof.Rows L2 LamX
theorem bindP {s : Shared} {fd : FuncData} {t : Addr} {u : Value} {a : Arg} {d : List Expr} {cl : Value} (hp : fd.params = ⟨[], [a], none, [], [], none, d⟩) (hdv : fd.defaults = .ref t) (ht : s.heap.get? t = some { cls := cl, data := .seq #[u] }) : BindsTo s fd ⟨[], []⟩ [(a.arg, u)] := by
  intro M A E Q q
  unfold bindArgs
  rw [hp, hdv]
  simp only [List.map_nil, List.map_cons, List.nil_append, List.zip_nil_right, List.length_cons, List.length_nil]
  refine wpAny_bind ?_
  simp
  refine wpAny_pure (wpAny_bind (wpAny_seqItems ht rfl ?_))
  simp
  exact wpAny_pure q
/-! ### made -/
abbrev ldFn (q : Str) (params : Arguments) (body : Expr) (scope : Scope) (cl : List (Str × Addr)) (dv pm cdv ct : Value) : FuncData :=
  { PySem.W.kla_fn "<lambda>" q params body scope cl pm cdv ct with defaults := dv }
abbrev ldO (X : Cx) (params : Arguments) (body : Expr) (scope : Scope) (dv pm : Value) (c' : Addr) (ctv : Value) : Obj :=
  { cls := .type "function", data := .func (ldFn (X.env.qual ++ "<lambda>") params body scope (cloFrom X.env.cells scope.names []) dv pm (.ref c') ctv) }
section
variable {M : Model} {A : Around} {E : Value → Shared → Prop} {s : Shared} {q : Str} {params : Arguments} {body : Expr} {scope : Scope} {env : PySem.Env} {c P : Addr} {ps : Array Value} {pos : Pos} {fl : Nat} {mg : Str → Option Value} {cl : List (Str × Addr)} {dv : Value} {Q : Value → Shared → Prop}
theorem tail_new (e1 : closureFor scope env = pure cl) (e2 : env.globals = mainGlobals) (hg : s.heap.Ns mainGlobals mg) (e3 : env.code = .ref c) (C : PySem.W.CodeHd s.heap c P) (hP : s.heap.get? P = some { cls := .none, data := .fields ps }) (ht : TriplesOk ps.toList)
    (hn : codeAmong pos ps.toList = none) (gP : mainGlobals ≠ P) (B : s.heap.BuiltinsAt mg P)
    (h : ∀ c' ctv h' tk, Heap.ExtBut P s.heap h' → s.heap.objs.size ≤ c' → c' < h'.objs.size → h'.CodeRec (.ref c') q → h'.get? P = some { cls := .none, data := .fields (ps ++ #[rawInt pos.line, rawInt pos.col, .ref c']) } →
      Q (.ref h'.objs.size) { s with heap := h'.push { cls := .type "function", data := .func (ldFn q params body scope cl dv ((mg "__name__").getD .none) (.ref c') ctv) }, toks := tk }) :
    wpAny M A (makeTail "<lambda>" q params (.expr body) scope env dv .none none pos fl) Q E s := by
  obtain ⟨bm, ob, n1, n2, _, n3, n4, n5, n6, n7⟩ := B
  have grown : ∀ {oT : Obj} {b : Addr} {o : Obj}, s.heap.get? b = some o → (s.heap.push oT).get? b = some o := fun z => Heap.get?_push_of_some _ z
  simp only [makeTail, e1, e2]
  refine wpAny_bind (wpAny_pure ?_)
  rcases cl with _ | ⟨y, r⟩
  · rw [if_pos (show List.isEmpty ([] : List (Str × Addr)) = true from rfl)]
    refine wpAny_bind (wpAny_pure (wpAny_bind (wpAny_functionCodeX e3 (C.code hP ht) (C.tab hP) hn fun c' h' tk hx k1 k2 _ k3 k4 _ => ?_)))
    exact wpAny_bind (wpAny_builtinsFor (hg.extBut hx gP) n1 n2 (hx _ _ n3 n4) n5 n6 n7 (wpAny_bind (wpAny_nsGet (hg.extBut hx gP) (wpAny_bind (wpAny_pure (wpAny_newObj_type (h c' .none h' tk hx k1 k2 k3 k4.2) (by size_fits)))))))
  · rw [if_neg (show ¬ List.isEmpty (y :: r) = true from fun z => by cases z)]
    refine wpAny_bind (wpAny_newTextTuple (wpAny_bind (wpAny_functionCodeX e3 ((C.keeps fun b o z => grown z).code (grown hP) ht) ((C.keeps fun b o z => grown z).tab (grown hP)) hn fun c' h' tk hx k1 k2 _ k3 k4 _ => ?_)))
    have hy : Heap.ExtBut P s.heap h' := fun b o nb z => hx b o nb (grown z)
    have k0 : s.heap.objs.size ≤ c' := by
      have z := k1
      rw [Heap.size_push] at z
      omega
    exact wpAny_bind (wpAny_builtinsFor (hg.extBut hy gP) n1 n2 (hy _ _ n3 n4) n5 n6 n7 (wpAny_bind (wpAny_nsGet (hg.extBut hy gP) (wpAny_bind (wpAny_pure (wpAny_newObj_type (h c' _ h' tk hy k0 k2 k3 k4.2) (by size_fits)))))))
theorem tail_old {cv : Value} (e1 : closureFor scope env = pure cl) (e2 : env.globals = mainGlobals) (hg : s.heap.Ns mainGlobals mg) (e3 : env.code = .ref c) (C : PySem.W.CodeHd s.heap c P) (hP : s.heap.get? P = some { cls := .none, data := .fields ps }) (ht : TriplesOk ps.toList)
    (hf : codeAmong pos ps.toList = some cv) (B : s.heap.BuiltinsAt mg P)
    (h : ∀ (ctv : Value) (h' : Heap) (tk : Tok), (∀ b o, s.heap.get? b = some o → h'.get? b = some o) → s.heap.objs.size ≤ h'.objs.size →
      Q (.ref h'.objs.size) { s with heap := h'.push { cls := .type "function", data := .func (ldFn q params body scope cl dv ((mg "__name__").getD .none) cv ctv) }, toks := tk }) :
    wpAny M A (makeTail "<lambda>" q params (.expr body) scope env dv .none none pos fl) Q E s := by
  obtain ⟨bm, ob, n1, n2, _, n3, n4, n5, n6, n7⟩ := B
  have grown : ∀ {oT : Obj} {b : Addr} {o : Obj}, s.heap.get? b = some o → (s.heap.push oT).get? b = some o := fun z => Heap.get?_push_of_some _ z
  simp only [makeTail, e1, e2]
  refine wpAny_bind (wpAny_pure ?_)
  rcases cl with _ | ⟨y, r⟩
  · rw [if_pos (show List.isEmpty ([] : List (Str × Addr)) = true from rfl)]
    exact wpAny_bind (wpAny_pure (wpAny_bind (wpAny_functionCode_hit e3 (C.code hP ht) hf (wpAny_bind (wpAny_builtinsFor hg n1 n2 n4 n5 n6 n7 (wpAny_bind (wpAny_nsGet hg (wpAny_bind (wpAny_pure (wpAny_newObj_type (h .none s.heap s.toks (fun _ _ z => z) (Nat.le_refl _)) (by size_fits)))))))))))
  · rw [if_neg (show ¬ List.isEmpty (y :: r) = true from fun z => by cases z)]
    exact wpAny_bind (wpAny_newTextTuple (wpAny_bind (wpAny_functionCode_hit e3 ((C.keeps fun b o z => grown z).code (grown hP) ht) hf (wpAny_bind (wpAny_builtinsFor (hg.push _) n1 n2 (grown n4) n5 n6 n7 (wpAny_bind (wpAny_nsGet (hg.push _) (wpAny_bind (wpAny_pure (wpAny_newObj_type (h _ _ s.toks (fun b o z => grown z) (by rw [Heap.size_push]; omega)) (by size_fits)))))))))))
end
section
variable {X : Cx} {g : Gx} {e : En} {W : WX} {pins : List (Addr × Obj)} {σ : L2.St} {H Hi : Hp} {S : Sto} {s : Shared}
theorem lamP_new {c P : Addr} {a : Arg} {n : Int} {j : Nat} {dp : Pos} {params : Arguments} {body : Expr} {scope : Scope} {pos : Pos} {E : Value → Shared → Prop} {Q : Value → Shared → Prop} (I : Inv X pins σ H s) (i : Is g e H Hi S) (TB : TabB X.base X.mg c P) (hcode : X.env.code = .ref c)
    (hp : (P, X.env.qual ++ "<lambda>") ∈ g.T) (hu : ∀ r ∈ g.T, r.1 = P → r.2 = X.env.qual ++ "<lambda>") (hpar : params = ⟨[], [a], none, [], [], none, [.Constant (.int n) j dp]⟩) (hfree : ∀ y ∈ scope.names, y.2 = .free → ∃ c, X.env.cells.lookup y.1 = some c)
    (h : ∀ (f c' t : Addr) (u pm ctv : Value) (H1 Hi1 : Hp) (s' : Shared), Inv X pins σ H1 s' → Is g e H1 Hi1 S → Same Hi Hi1 → s'.heap.get? f = some (ldO X params body scope (.ref t) pm c' ctv) → H1 f = none → f ∉ frs X.stack →
      s'.heap.get? t = some { cls := .type "tuple", data := .seq #[u] } → H1 t = none → t ∉ frs X.stack → Hi1 c' = some (CodeO c' (X.env.qual ++ "<lambda>")) → Q (.ref f) s') :
    wpAny (model X.prog X.w) X.A (eval (.Lambda params body scope pos) X.env) Q E s := by
  rw [arm_eval_Lambda, hpar]
  have nofr : ∀ {s1 : Shared} {H1 : Hp}, Inv X pins σ H1 s1 → ∀ f, s1.heap.objs.size ≤ f → f ∉ frs X.stack := fun {s1 H1} J f hf z => by
    rcases List.mem_cons.mp (J.stkSub _ z) with y | y
    · have h1 : f < s1.heap.objs.size := by rw [y]; exact J.lt
      omega
    · exact J.nofs hf y
  refine wpAny_bind (wpAny_bind (wpAny_mono (wpAny_Constant_int (Q := fun _ s1 => Inv X pins σ H s1) (I.tok _)) (fun u s1 J => ?_) fun _ _ z => z))
  refine wpAny_bind (wpAny_holding (wpAny_pure (wpAny_pure (wpAny_bind (wpAny_holding (wpAny_pure ?_))))))
  rw [makeFunction_eq]
  simp only [List.zip_nil_right, List.filterMap_nil, List.isEmpty_nil, if_true, pure_bind]
  rw [if_neg (show ¬ List.isEmpty [u] = true from fun z => by cases z)]
  refine wpAny_bind (wpAny_newTextTuple ?_)
  obtain ⟨t, et⟩ : ∃ t, t = s1.heap.objs.size := ⟨_, rfl⟩
  have nt : H t = none := J.hok.fresh (Nat.le_of_eq et.symm)
  have ft := nofr J t (Nat.le_of_eq et.symm)
  have J2 : Inv X pins σ H { s1 with heap := s1.heap.push { cls := .type "tuple", data := .seq [u].toArray } } := J.kept fun b o z => Heap.get?_push_of_some _ z
  have gt : ({ s1 with heap := s1.heap.push { cls := .type "tuple", data := .seq [u].toArray } } : Shared).heap.get? t = some { cls := .type "tuple", data := .seq #[u] } := by rw [et]; exact Heap.get?_push_size _ rfl
  rw [← et]
  obtain ⟨s2, e2⟩ : ∃ s2 : Shared, s2 = { s1 with heap := s1.heap.push { cls := .type "tuple", data := .seq [u].toArray } } := ⟨_, rfl⟩
  rw [← e2] at J2 gt ⊢
  obtain ⟨nP, ps, hP, ht, ha⟩ := i.ok.tab _ hp
  have bP : s2.heap.BuiltinsAt X.mg P := TB.bm.keeps J2.bk
  have hP' : s2.heap.get? P = some { cls := .none, data := .fields ps } := J2.hok P _ hP
  have tP : t ≠ P := fun z => by rw [z, hP] at nt; cases nt
  have tl : t < s2.heap.objs.size := Heap.lt_size gt
  cases hc : codeAmong pos ps.toList with
  | some cv =>
    obtain ⟨c', z, hco⟩ := ha pos cv hc
    subst z
    refine tail_old (mg := X.mg) (c := c) (P := P) (ps := ps) (closure_ok hfree) J2.ok.glob (J2.mod.glob.keeps J2.bk) hcode (TB.code.keeps J2.bk) hP' ht hc bP fun ctv h' tk hx hsz => ?_
    refine h h'.objs.size c' t u ((X.mg "__name__").getD .none) ctv H Hi _ (J2.kept fun b o z => Heap.get?_push_of_some _ (hx b o z)) i (Same.refl _) ?_ (J2.hok.fresh hsz) (nofr J2 _ hsz) (Heap.get?_push_of_some _ (hx _ _ gt)) nt ft hco
    rw [hpar]
    exact Heap.get?_push_size _ rfl
  | none =>
    refine tail_new (mg := X.mg) (c := c) (P := P) (ps := ps) (closure_ok hfree) J2.ok.glob (J2.mod.glob.keeps J2.bk) hcode (TB.code.keeps J2.bk) hP' ht hc TB.gP bP fun c' ctv h' tk hx hge hlt hrec htb => ?_
    obtain ⟨c2, oc, vs, tq, e3, hoc, hd, hv⟩ := hrec
    cases e3
    have hsz : s2.heap.objs.size ≤ h'.objs.size := Nat.le_trans hge (Nat.le_of_lt hlt)
    have nC : H c' = none := J2.hok.fresh hge
    have e5 : (ps ++ #[rawInt pos.line, rawInt pos.col, .ref c']).toList = ps.toList ++ [rawInt pos.line, rawInt pos.col, .ref c'] := by simp
    obtain ⟨i1, s1'⟩ := is_table (more := #[rawInt pos.line, rawInt pos.col, .ref c']) i hP nP nC hp hu (by rw [e5]; exact PySem.TriplesOk_snoc _ _ _ _ ht) fun p' cv z => among_app _ ht (by rw [e5] at z; exact z)
    have I1 := inv_table (t' := tk) (q := X.env.qual ++ "<lambda>") (more := #[rawInt pos.line, rawInt pos.col, .ref c']) (h' := h'.push { cls := .type "function", data := .func (ldFn (X.env.qual ++ "<lambda>") ⟨[], [a], none, [], [], none, [.Constant (.int n) j dp]⟩ body scope (cloFrom X.env.cells scope.names []) (.ref t) ((X.mg "__name__").getD .none) (.ref c') ctv) }) J2 hP
      (fun b o hb z => Heap.get?_push_of_some _ (hx b o hb z)) (Heap.get?_push_of_some _ htb) hge ⟨oc, vs, tq, Heap.get?_push_of_some _ hoc, hd, hv⟩
    have off : ∀ {b : Addr}, b ≠ c' → b ≠ P → H b = none → upd (upd H P (.tbl (ps ++ #[rawInt pos.line, rawInt pos.col, .ref c']))) c' (CodeO c' (X.env.qual ++ "<lambda>")) b = none := fun h1 h2 z => by rw [upd_ne h1, upd_ne h2]; exact z
    refine h h'.objs.size c' t u ((X.mg "__name__").getD .none) ctv _ _ _ I1 i1 s1' ?_ (off (Nat.ne_of_gt hlt) (Nat.ne_of_gt (Nat.lt_of_lt_of_le (Heap.lt_size hP') hsz)) (J2.hok.fresh hsz)) (nofr J2 _ hsz) (Heap.get?_push_of_some _ (hx _ _ tP gt)) (off (Nat.ne_of_lt (Nat.lt_of_lt_of_le tl hge)) tP nt) ft upd_same
    rw [hpar]
    exact Heap.get?_push_size _ rfl
end
/-! ### entered -/
/-- the parameter p, no other own name -/
structure LamP (sc scope : Scope) (p : Str) : Prop where
  kind : scope.kind = .function
  co : scope.isCoroutine = false
  gen : scope.isGenerator = false
  loc : scope.names.lookup p = some .local
  own : ∀ y ∈ scope.names, y.2 ≠ .cell ∧ (y.2 = .local → y.1 = p)
  free : ∀ y ∈ scope.names, y.2 = .free → sc.names.lookup y.1 = some .cell ∨ sc.names.lookup y.1 = some .free
def lamPB (sc scope : Scope) (p : Str) : Bool :=
  decide (scope.kind = .function) && (!scope.isCoroutine && (!scope.isGenerator && (decide (scope.names.lookup p = some .local) && scope.names.all fun y => !decide (y.2 = .cell) && ((!decide (y.2 = .local) || decide (y.1 = p)) && (!decide (y.2 = .free) || (decide (sc.names.lookup y.1 = some .cell) || decide (sc.names.lookup y.1 = some .free)))))))
theorem lamP_by {sc scope : Scope} {p : Str} (h : lamPB sc scope p = true) : LamP sc scope p := by
  obtain ⟨h1, h⟩ := He.ba h
  obtain ⟨h2, h⟩ := He.ba h
  obtain ⟨h3, h⟩ := He.ba h
  obtain ⟨h4, h5⟩ := He.ba h
  have key := fun y (hy : y ∈ scope.names) => List.all_eq_true.mp h5 y hy
  refine ⟨of_decide_eq_true h1, by simpa using h2, by simpa using h3, of_decide_eq_true h4, fun y hy => ?_, fun y hy z => ?_⟩
  · obtain ⟨k1, k2⟩ := He.ba (key y hy)
    obtain ⟨k2, _⟩ := He.ba k2
    refine ⟨by simpa using k1, fun z => ?_⟩
    rw [z] at k2
    simpa using k2
  · obtain ⟨_, k2⟩ := He.ba (key y hy)
    obtain ⟨_, k3⟩ := He.ba k2
    rw [z] at k3
    simpa using k3
/-- the names that the lambda's body sees of the def's -/
structure HideN (N N2 : List Str) (scope : Scope) (p : Str) : Prop where
  len : N2.length = N.length
  ok : ∀ (i : Nat) (y : Str), N2[i]? = some y → Vis scope y → N[i]? = some y ∧ y ≠ p
def hideB (scope : Scope) (p : Str) : List Str → List Str → Bool
  | [], [] => true
  | a :: r, b :: r' => ((decide (a = b) && !decide (b = p)) || decide (scope.names.lookup b = none)) && hideB scope p r r'
  | _, _ => false
theorem hide_by {scope : Scope} {p : Str} : ∀ {N N2 : List Str}, hideB scope p N N2 = true → HideN N N2 scope p
  | [], [], _ => ⟨rfl, fun i y h => by simp at h⟩
  | a :: r, b :: r', h => by
    obtain ⟨h1, h2⟩ := He.ba h
    have ih := hide_by h2
    refine ⟨by simp [ih.len], fun i y q v => ?_⟩
    cases i with
    | succ i => exact ih.ok i y (by simpa using q) v
    | zero =>
      obtain rfl : b = y := by simpa using q
      rcases (Bool.or_eq_true _ _).mp h1 with k | k
      · obtain ⟨k1, k2⟩ := He.ba k
        obtain rfl := of_decide_eq_true k1
        exact ⟨rfl, by simpa using k2⟩
      · have k := of_decide_eq_true k
        rcases v with z | z | z <;> rw [k] at z <;> cases z
  | [], _ :: _, h => by cases h
  | _ :: _, [], h => by cases h
def lamCxP (X : Cx) (N2 : List Str) (A : Around) (outer : List PySem.Env) (s : Shared) (H : Hp) (E : XK) (scope : Scope) (f c' : Addr) : Cx := { lamCx X A outer s H E scope f c' with N := N2 }
section
variable {X : Cx} {pins : List (Addr × Obj)} {σ : L2.St} {H HZ : Hp} {s s1 : Shared}
theorem lamP_start {A : Around} {outer : List PySem.Env} {E : XK} {scope : Scope} {f c' : Addr} {h1 : Heap} {tk : Nat} {p : Str} {u : Value} {N2 : List Str} (I : Inv X pins σ H s) (L : LamP X.env.scope scope p) (hN : HideN X.N N2 scope p) (e0 : Env0 X.prog X.w X.K X.mg X.base A outer s1 HZ) (hd : A.handled = none)
    (un : Un (frs X.stack) [] H HZ s.heap s1.heap) (hns : h1.Ns s1.heap.objs.size fun y => [(p, u)].reverse.lookup y) (kp : ∀ b o, s1.heap.get? b = some o → h1.get? b = some o) :
    Inv (lamCxP X N2 A outer s1 HZ E scope f c') [] σ HZ { s1 with heap := h1, toks := tk } := by
  have has : ∀ y ∈ scope.names, y.2 = .free → ∃ c, X.env.cells.lookup y.1 = some c := fun y hy z => (L.free y hy z).elim (fun k => I.ok.has _ (.inl k)) fun k => I.ok.has _ (.inr k)
  have back : ∀ {y c}, (cloFrom X.env.cells scope.names []).lookup y = some c → X.env.cells.lookup y = some c := fun {y c} z => by
    rcases cloFrom_mem (PySem.mem_of_lookup z) with q | ⟨q1, q2⟩
    · cases q
    · obtain ⟨b, hb⟩ := has _ q1 rfl
      have hb : X.env.cells.lookup y = some b := hb
      have : c = b := by rw [q2, hb] <;> rfl
      rw [this, hb]
  have into : ∀ {y}, scope.names.lookup y = some .free → ∃ c, (cloFrom X.env.cells scope.names []).lookup y = some c := fun {y} z => mem_lookup (cloFrom_has (cells := X.env.cells) (acc := []) (PySem.mem_of_lookup z))
  have stays : ∀ {c : Addr} {v : Option Value}, H c = none → s.heap.IsCell c v → h1.IsCell c v := fun {c v} n ⟨o, q1, q2⟩ => by
    obtain ⟨sl, q⟩ := un.any q1 n (by simp)
    exact ⟨_, kp _ _ q, q2⟩
  have nox : ∀ b : Addr, b ∉ (lamCxP X N2 A outer s1 HZ E scope f c').ex := fun b z => absurd (show b ∈ ([] : List Addr) from z) (by simp)
  have okX : (lamCxP X N2 A outer s1 HZ E scope f c').Ok := by
    refine ⟨e0.mod, L.kind, rfl, rfl, Nat.le_refl _, fun y z c q1 q2 => I.ok.inj y z c (back q1) (back q2), fun y hy => ?_, fun y c z _ => absurd (show false = true from z) (by decide), fun _ => hd, Around.frames_deeper e0.frames, .inr ⟨rfl, rfl⟩, fun b z => absurd z (nox b), e0.bs, e0.bsz, fun b _ _ => nox b, fun b z => absurd z (nox b), e0.funs, e0.frf⟩
    rcases (show scope.names.lookup y = some .cell ∨ scope.names.lookup y = some .free from hy) with q | q
    · exact absurd rfl (L.own _ (PySem.mem_of_lookup q)).1
    · exact into q
  refine ⟨okX, rfl, e0.bare, Un.kept kp, ⟨_, hns, fun i y v q1 q2 q3 => ?_⟩, fun y c z => ?_, e0.hok.fresh (Nat.le_refl _), fun y c z => ?_, fun r hr => absurd (show r ∈ ([] : List (Addr × Obj)) ++ [] from hr) (by simp), e0.hok.kept kp, I.len.trans hN.len.symm⟩
  · have q3 : Vis scope y := q3
    obtain ⟨q1, np⟩ := hN.ok i y q1 q3
    rcases q3 with k | k | k
    · exact absurd ((L.own _ (PySem.mem_of_lookup k)).2 rfl) np
    · exact absurd rfl (L.own _ (PySem.mem_of_lookup k)).1
    · obtain ⟨m, _, hl⟩ := I.loc
      have fr := L.free _ (PySem.mem_of_lookup k) rfl
      obtain ⟨w', r, q⟩ := hl i y v q1 q2 (fr.elim (fun z => .inr (.inl z)) fun z => .inr (.inr z))
      obtain ⟨c2, h2⟩ := into k
      have k1 := back h2
      refine ⟨w', r, .inr ⟨.inr k, c2, h2, ?_⟩⟩
      rcases q with ⟨k', _⟩ | ⟨_, c3, e', z⟩
      · have k' : X.env.scope.names.lookup y = some .local := k'
        rcases fr with k2 | k2 <;> rw [show X.env.scope.names.lookup y = _ from k2] at k' <;> cases k'
      · rw [k1] at e'
        obtain rfl := Option.some.inj e'
        exact stays (I.freeC y _ k1) z
  · obtain ⟨w', q⟩ := I.cell y c (back z)
    exact ⟨w', stays (I.freeC y c (back z)) q⟩
  · obtain ⟨v, o, q1, q2⟩ := I.cell y c (back z)
    exact un.free c o q1 (I.freeC y c (back z)) (by simp)
end
/-! ### called -/
section
variable {X : Cx} {g : Gx} {e : En} {W : WX} {pins : List (Addr × Obj)} {σ : L2.St} {H Hi : Hp} {S : Sto} {s : Shared} {ρ : Env}
theorem cxt_lamP (C : Cxt X g e W) {N2 : List Str} {A : Around} {outer : List PySem.Env} {s : Shared} {H : Hp} {E : XK} {scope : Scope} {f c' : Addr} {e3 : En} (hg : A.guards = some []) : Cxt (lamCxP X N2 A outer s H E scope f c') g e3 (wX E) :=
  ⟨C.K, C.mg, rfl, hg, takes_of rfl rfl rfl rfl⟩
abbrev LamDP (X : Cx) (g : Gx) (k : Nat) (N2 : List Str) (scope : Scope) (f c' : Addr) (body : Expr) (tb : DE) : Prop :=
  ∀ (A : Around) (outer : List PySem.Env) (s : Shared) (H : Hp) (E : XK), Room k (A.deeper (lamEnv X scope s.heap.objs.size f c')) → A.guards = some [] → ∀ e3 : En, PE (lamCxP X N2 A outer s H E scope f c') body (lift g e3 (wX E) tb)
theorem actP_ok {Ng N2 : List Str} {qg : Str} {sg : Scope} {ga f c' t : Addr} {cdg pm ctv u0 : Value} {params : Arguments} {pa : Arg} {pd : List Expr} {body : Expr} {scope : Scope} {k i : Nat} {a : Str} {E : XK} {tb : DE} {e2 : En} (C : Cxt X g e W) (I : Inv X pins σ H s) (sl : Slots g Hi σ ρ) (hpar : params = ⟨[], [pa], none, [], [], none, pd⟩) (L : LamP X.env.scope scope pa.arg) (hN2 : HideN X.N N2 scope pa.arg)
    (hf : s.heap.get? f = some (ldO X params body scope (.ref t) pm c' ctv)) (hfn : H f = none) (hfr : f ∉ frs X.stack) (ht : s.heap.get? t = some { cls := .type "tuple", data := .seq #[u0] }) (htn : H t = none) (htr : t ∉ frs X.stack) (hco : Hi c' = some (CodeO c' (X.env.qual ++ "<lambda>"))) (e2i : e2.Hi = Hi)
    (hr : Room (k + 1) (X.A.deeper (envOfC qg sg s.heap.objs.size ga cdg))) (hbody : LamDP X g k N2 scope f c' body tb) (hN : Ng[i]? = some a) (hv : Vis sg a) (hd : (a == ("__debug__" : Str)) = false := by decide) (hcd : (a == ("__classdict__" : Str)) = false := by decide) :
    ActD (cxD g X.prog X.w X.base Ng qg sg ga cdg X.A X.stack s H E) g e2 a i f (fun _ S' k' E' => tb ρ S' k' E') := by
  intro W2 pn xe p1 p2 C2
  constructor
  intro pinsZ sZ σZ HZ Q IZ ⟨ρZ, HiZ, SZ, kk, E1, iZ, slZ, ⟨hs, q⟩, hk, hx⟩
  obtain ⟨v0, hs0, r0⟩ := slZ.2 i _ hs
  obtain rfl : v0 = .ref f := r0
  refine wpAny_Call_Name_kw (thn ((pe_var (pos := p1) (i := i) hN hv hd hcd).run pinsZ sZ σZ HZ (fun v H1 => v = .ref f ∧ H1 = HZ) IZ ⟨.ref f, hs0, rfl, rfl⟩) fun u s1 ⟨v, H1, I1, r1, e3, e4⟩ => ?_)
  subst e3 e4
  obtain rfl : u = Value.ref f := r1
  have here : s1.heap.get? f = some (ldO X params body scope (.ref t) pm c' ctv) := I1.base.keep f _ hf hfn hfr (fun z => nomatch (show f ∈ ([] : List Addr) from z))
  have tup : s1.heap.get? t = some { cls := .type "tuple", data := .seq #[u0] } := I1.base.keep t _ ht htn htr (fun z => nomatch (show t ∈ ([] : List Addr) from z))
  refine PySem.W.callWith_F0 ⟨_, _, _, _, here⟩ ?_
  have un : Un (frs X.stack) [] H H1 s.heap s1.heap := I1.base
  have imm : Same Hi HiZ := by rw [← e2i]; exact iZ.ext.imm
  have hcz : H1 c' = some (CodeO c' (X.env.qual ++ "<lambda>")) := iZ.ok.sub _ _ (imm _ _ hco)
  obtain ⟨⟨oc, vs, tq, hoc, hdc, hvc⟩, _, _⟩ := I1.hok c' _ hcz
  have gz : (X.A.deeper (envOfC qg sg s.heap.objs.size ga cdg)).guards = some [] := C2.gd
  have run : codeAny (model X.prog X.w) (X.A.deeper (envOfC qg sg s.heap.objs.size ga cdg)) (.call (.ref f) ⟨[], []⟩) (CR (L2.CX X.prog X.w) (envOfC qg sg s.heap.objs.size ga cdg :: X.stack) X.prog X.w H1 s1 Q (WE W2 σZ)) s1 := by
    refine PySem.W.kla_callFunE hr.depth here rfl L.co L.gen rfl ⟨c', oc, vs, tq, rfl, hoc, hdc, hvc⟩ ?_
    refine bindP (a := pa) (d := pd) hpar rfl tup _ _ _ _ ?_
    refine wpAny_newFunctionEnv (fun y hy => (L.own y hy).1) (fun y hy => by rw [List.mem_singleton.mp hy]; exact L.loc) (fun h1 hns hsb => ⟨I1.nolimit.fresh _ hsb, ?_⟩) L.kind
    show codeAny _ _ (.expr body (lamEnv X scope s1.heap.objs.size f c')) _ _
    have J : Inv (lamCxP X N2 (X.A.deeper (envOfC qg sg s.heap.objs.size ga cdg)) (envOfC qg sg s.heap.objs.size ga cdg :: X.stack) s1 H1 (WE W2 σZ) scope f c') [] σ H1 { s1 with heap := h1, toks := s1.toks + [(pa.arg, u0)].length } :=
      lamP_start I L hN2 (by rw [C.K, C.mg]; exact I1.env0) hr.hd un hns fun b o z => hsb.extBut b o (Nat.ne_of_lt (Heap.lt_size z)) (Heap.get?_push_of_some _ z)
    have z := (hbody (X.A.deeper (envOfC qg sg s.heap.objs.size ga cdg)) (envOfC qg sg s.heap.objs.size ga cdg :: X.stack) s1 H1 (WE W2 σZ) (hr.deeper _) gz ⟨H1, HiZ, SZ, iZ.ok.sub⟩).run [] _ σ H1 Q J
      ⟨ρ, HiZ, SZ, kk, E1, ⟨iZ.ok, Ext.refl⟩, sl.mono imm, q, fun d S' v H' Hi' i' s' r' q' => hk d S' v H' Hi' (iZ.next i'.ok i'.ext) s' r' q', fun c fs S' H' Hi' cls dx i' s' x' q' => hx c fs S' H' Hi' cls dx (iZ.next i'.ok i'.ext) s' x' q'⟩
    refine PySem.W.kla_codeExpr (wpAny_mono z (fun v s' hq => ?_) fun er s' hq => hq)
    obtain ⟨w', H', J', rv, y⟩ := hq
    exact ⟨w', H', J'.os, J'.bare, J'.base, J'.hok, rv, y⟩
  have pass := passAt C2.tk σZ
  refine wpAny_call (codeAny_mono run fun r s' hq => ?_)
  match r, hq with
  | .error er, hq => exact pass pinsZ H1 s1 er s' I1 hq
  | .ok (.ret u), hq => exact I1.after hq
  | .ok .next, hq => exact hq.elim
  | .ok .brk, hq => exact hq.elim
  | .ok .cont, hq => exact hq.elim
theorem de_lamP {fs : List (Addr × Str)} {mk ga : Addr} {x a : Str} {pg params : Arguments} {bg : List Stmt} {sg scope : Scope} {fd : FuncData} {Ng N2 : List Str} {pa : Arg} {n : Int} {j : Nat} {dp : Pos} {body : Expr} {t : Addr → DFn → DS} {tb : DE} {k kg : Nat} {p lpos pos : Pos} (C : Cxt X g e W)
    (F : FunD g.K x x pg bg sg [] [] ga fd) (Sg : FnScope Ng [a] sg) (hbg : BodyH g X.prog X.w X.base kg Ng x sg bg ga a t)
    (hbindg : ∀ (kV doc pm : Value) (an : Option Addr) (cdv ct : Value) (us : List Value), us.length = ([a] : List Str).length → bindArgs (PySem.W.fnOf x x pg bg sg .none kV doc pm an cdv ct) { pos := us, kw := [] } = pure (([a] : List Str).zip us))
    (hkg : kg ≤ k + 1) (hr : Room (k + 2) X.A) (hg : Gl X x) (hm : g.mg x = some (.ref ga)) (hk : PySem.W.keepIn g.K (.ref ga) = true) (hNg : Ng[0]? = some a) (hva : Vis sg a)
    (LT : TabsL g X.base fs) (hin : (mk, X.env.qual ++ "<lambda>") ∈ fs) (hcode : X.env.code = .ref (lcAd g.K mk)) (hpar : params = ⟨[], [pa], none, [], [], none, [.Constant (.int n) j dp]⟩) (L : LamP X.env.scope scope pa.arg) (hN2 : HideN X.N N2 scope pa.arg) (hbody : ∀ (f c' : Addr), LamDP X g k N2 scope f c' body tb)
    (hdb : (x == ("__debug__" : Str)) = false := by decide) (hd : (a == ("__debug__" : Str)) = false := by decide) (hcd : (a == ("__classdict__" : Str)) = false := by decide)
    (hs : starEach [.Lambda params body scope lpos] X.env = (false, eval (.Lambda params body scope lpos) X.env) :: starEach [] X.env := by rfl) :
    PE X (.Call (.Name x p) [.Lambda params body scope lpos] [] pos) (lift g e W (dLamC (dHand Ng.length t) tb)) := by
  constructor
  intro pins s σ H Q I ⟨ρ, Hi, S, k1, E1, i, sl, q, hQ, hx⟩
  obtain ⟨oc, od, dV, kV, doc, pm, an, cdv, ct, osl, efd, lk, hcdg, hdV, _⟩ := F.ex
  obtain rfl : dV = .none := by
    rcases hdV with ⟨_, z⟩ | ⟨z, _⟩
    · exact z
    · exact absurd rfl z
  have Bg := F.bindsN hbindg
  subst efd
  refine wpAny_Call_Name_kw (ld_glob I hg (by rw [C.mg]; exact hm) ?_ hdb)
  refine PySem.W.callWith_K (h₀ := X.base) I.ok.mod.kin (by rw [C.K]; exact hk) ?_ hs (by rfl)
  rw [hs]
  show wpAny _ _ (spliced ((false, eval (.Lambda params body scope lpos) X.env) :: backTo pos (starEach [] X.env))) _ _ s
  have TB : TabB X.base X.mg (lcAd g.K mk) (ltAd g.K mk) := by rw [C.mg]; exact LT.tb _ hin
  refine Calls.spliced_cons (lamP_new I i TB hcode (LT.mem _ hin) (LT.uniq _ hin) hpar (fun y hy z => (L.free y hy z).elim (fun k => I.ok.has _ (.inl k)) fun k => I.ok.has _ (.inr k)) fun f c' tt u0 pm' ctv H1 Hi1 s1 I1 i1 s1' hf hfn hfr htt htn htr hco => ?_)
  refine Calls.spliced_nil ⟨I1.kIn, ?_⟩
  have sl1 := sl.mono s1'
  have kok : KOk g e Hi1 k1 Q := KOk.mono hQ s1'
  have xok := hx.mono s1'
  have run : codeAny (model X.prog X.w) X.A (.call (.ref ga) ⟨[.ref f], []⟩) (CR (L2.CX X.prog X.w) X.stack X.prog X.w H1 s1 Q (WE W σ)) s1 := by
    have E0 : Env0 X.prog X.w g.K g.mg X.base X.A X.stack s1 H1 := by
      have z := I1.env0
      rw [C.K, C.mg] at z
      exact z
    have kin : g.K.In s1.heap := by rw [← C.K]; exact I1.kIn
    refine LamX.run_ofS (CX := L2.CX X.prog X.w) (N := Ng) (ps := [a]) (us := [.ref f]) (vs := [.ref f]) lk hcdg Sg (hr : Room (k + 1 + 1) X.A) E0 (Bg s1 [.ref f] kin rfl) (.cons rfl .nil) rfl fun hr' => ?_
    have act : ActD (cxD g X.prog X.w X.base Ng x sg ga cdv X.A X.stack s1 H1 (WE W σ)) g ⟨H1, Hi1, S, i1.ok.sub⟩ a 0 f (fun _ S' k' E' => tb ρ S' k' E') :=
      actP_ok C I1 sl1 hpar L hN2 hf hfn hfr htt htn htr hco rfl hr' (hbody f c') hNg hva hd hcd
    have bd := fun (e0 : En) (z : e0 = ⟨H1, Hi1, S, i1.ok.sub⟩) => hbg cdv X.A X.stack s1 H1 (WE W σ) f (fun _ S' k' E' => tb ρ S' k' E') (hr'.mono hkg) C.gd e0 (by rw [z]; exact act)
    refine ⟨_, bd _ rfl, denv Ng.length [.mu f], Hi1, S, _, ⟨i1.ok, Ext.refl⟩, slots_start ⟨rfl, trivial⟩, q f, ?_⟩
    refine ⟨fun ρ' S' σ' H' Hi' i' s' sl' ⟨S2, z, q'⟩ => ?_, fun d S' v H' Hi' i' s' r' ⟨S2, z, q'⟩ => ?_, fun _ _ _ _ _ _ _ _ z => z.elim, fun _ _ _ _ _ _ _ _ z => z.elim, fun c fs ρ' S' σ' H' Hi' cls dx i' s' sl' x' ⟨S2, z, q'⟩ => ?_⟩
    · exact kok .non S2 .non H' Hi' ((i1.next i'.ok i'.ext).sub_ z) s' rfl q'
    · exact kok d S2 v H' Hi' ((i1.next i'.ok i'.ext).sub_ z) s' r' q'
    · exact xok c fs S2 H' Hi' cls dx ((i1.next i'.ok i'.ext).sub_ z) s' x' q'
  have pass := C.pass σ
  refine wpAny_call (codeAny_mono run fun r s2 hq => ?_)
  match r, hq with
  | .error er, hq => exact pass pins H1 s1 er s2 I1 hq
  | .ok (.ret u), hq => exact I1.after hq
  | .ok .next, hq => exact hq.elim
  | .ok .brk, hq => exact hq.elim
  | .ok .cont, hq => exact hq.elim
end
end DL
end
/-! ## DL57 -/
section
set_option Elab.async false
set_option linter.all false
set_option maxRecDepth 100000
set_option maxHeartbeats 4000000
/-! own exceptions by their defs; defs that make lambdas -/
namespace DL
open PySem PySem.Spec PyProof.Rows L2
section
variable {g : Gx} {P : Program} {w : World} {base : Heap}
/-! ### a def that makes lambdas: its code object is known -/
abbrev BodyDL (g : Gx) (P : Program) (w : World) (base : Heap) (k : Nat) (N : List Str) (qual : Str) (scope : Scope) (body : List Stmt) (f : Addr) (t : DS) : Prop :=
  ∀ (cdv : Value) (A : Around) (outer : List PySem.Env) (s : Shared) (H : Hp) (E : XK), Room k (A.deeper (envOfC qual scope s.heap.objs.size f cdv)) → A.guards = some [] → cdv = .ref (lcAd g.K f) → ∀ e : En, PSs (cxD g P w base N qual scope f cdv A outer s H E) body (liftS g e (wX E) t)
theorem fn_bL {x qual : Str} {params : Arguments} {body : List Stmt} {scope : Scope} {dvs : List V} {kws : List (Str × V)} {N ps : List Str} {k : Nat} {f : Addr} {fd : FuncData} {t : DS}
    (F : FunD g.K x qual params body scope dvs kws f fd) (Sc : FnScope N ps scope) (hb : BodyDL g P w base k N qual scope body f t) : DFnB g P w base (k + 1) f fd ps (dBody N.length t) := by
  intro A outer s H args us vs Q E hr hg e0 hbind r hl h
  obtain ⟨ds, Hi, S, k1, E1, o, rs, q, hk, hx⟩ := h
  obtain ⟨oc, od, dV, kV, doc, pm, an, cdv, ct, osl, rfl, lk, hcd, _, _⟩ := F.ex
  refine StX.run_bnd lk hcd Sc hr e0 (G := fun xs H2 => xs = vs ∧ H2 = H) (fun A' Ex Q' h' => hbind _ A' Ex Q' (h' s H vs us e0 Un.refl rfl (fun _ _ z => z) r hl ⟨rfl, rfl⟩)) fun s2 H2 xs ⟨ex, eH⟩ hr' => ?_
  subst ex eH
  exact body_ok (fun e => hb cdv A outer s2 _ E hr' hg (lcAd_of lk hcd) e) o rs q hk hx
theorem fn_dL {x qual : Str} {params : Arguments} {body : List Stmt} {scope : Scope} {kws : List (Str × V)} {N ps : List Str} {k : Nat} {f : Addr} {fd : FuncData} {t : DS}
    (F : FunD g.K x qual params body scope [] kws f fd) (Sc : FnScope N ps scope) (hb : BodyDL g P w base k N qual scope body f t)
    (hbind : ∀ (kV doc pm : Value) (an : Option Addr) (cdv ct : Value) (us : List Value), us.length = ps.length → bindArgs (PySem.W.fnOf x qual params body scope .none kV doc pm an cdv ct) { pos := us, kw := [] } = pure (ps.zip us)) :
    DFnR g P w base (k + 1) f (fun ds S k' E => ds.length = ps.length ∧ dBody N.length t ds S k' E) := by
  refine ((fn_bL F Sc hb).raw (F.bindsN hbind) .nil).imp fun vs H Q E ⟨ds, Hi, S, k1, E1, o, r, ⟨hl, q⟩, hk, hx⟩ => ?_
  rw [List.append_nil]
  exact ⟨by rw [r.length]; exact hl, ds, Hi, S, k1, E1, o, r, q, hk, hx⟩
/-- the lambdas' makers -/
theorem fsOf_mem {tf : Tfs} {K : PySem.W.Frag} {p : (PySem.W.Frag → Addr) × Str} (i : Nat) (h : tf[i]? = some p) : (p.1 K, p.2) ∈ fsOf tf K := List.mem_map.mpr ⟨p, List.mem_of_getElem? h, rfl⟩
/-! ### C.__init__ -/
variable {qual bx fx fy txt : Str} {params : Arguments} {scope : Scope} {fI B : Addr} {fd : FuncData} {c i1 i2 j : Nat} {N : List Str} {p1 p2 p3 p4 p5 p6 p7 p8 p9 q1 q2 q3 q4 q5 : Pos}
theorem xiOk0 (F : FunD g.K "__init__" qual params [supS txt p1 p2 p3 p4 p5 p6 j] scope [] [] fI fd) (S : FnScope N ["self"] scope) (hN : N[0]? = some ("self" : Str)) (hb : scope.names.lookup ("SweepError" : Str) = some .globalImplicit) (hm : g.mg "SweepError" = some (.ref B)) (T : XbC g.K B) (X : XcC g.K (g.ca c)) (M : Meth g.K (g.ca c) "__init__" fI)
    (hrow : ∀ cdv, SupRow (L2.CX P w) P w g.K g.mg base N qual scope fI cdv txt p1 p2 p3 p4 p5 j)
    (hbind : ∀ (kV doc pm : Value) (an : Option Addr) (cdv ct : Value) (us : List Value), us.length = (["self"] : List Str).length → bindArgs (PySem.W.fnOf "__init__" qual params [supS txt p1 p2 p3 p4 p5 p6 j] scope .none kV doc pm an cdv ct) { pos := us, kw := [] } = pure ((["self"] : List Str).zip us)) : XiOk g P w base 1 c [] := by
  refine ⟨by simp, X, fI, fd, ["self"], M.at_, eq_of_beq M.fn, ?_, F.bindsN hbind, rfl⟩
  obtain ⟨oc, od, dV, kV, doc, pm, an, cdv, ct, osl, rfl, lk, hcd, _, _⟩ := F.ex
  refine (xi0 (k := 0) lk hcd S hN hb hm T (hrow cdv)).imp fun vs H Q E ⟨a, ys, e1, e2, e3⟩ => ?_
  match ys, e3 with
  | [], e3 => exact ⟨a, g.ca c, e1, X.ox, e2, e3⟩
theorem xiOk1 (F : FunD g.K "__init__" qual params [supS txt p1 p2 p3 p4 p5 p6 j, fldS fx p7 p8 p9 q1] scope [] [] fI fd) (S : FnScope N ["self", fx] scope) (hN : N[0]? = some ("self" : Str)) (hN1 : N[1]? = some fx) (hb : scope.names.lookup ("SweepError" : Str) = some .globalImplicit) (hm : g.mg "SweepError" = some (.ref B)) (T : XbC g.K B) (X : XcC g.K (g.ca c)) (M : Meth g.K (g.ca c) "__init__" fI)
    (n1 : NoAttr g.K (g.ca c) fx) (a1 : g.an i1 = fx) (l1 : i1 < g.nA) (hrow : ∀ cdv, SupRow (L2.CX P w) P w g.K g.mg base N qual scope fI cdv txt p1 p2 p3 p4 p5 j)
    (hbind : ∀ (kV doc pm : Value) (an : Option Addr) (cdv ct : Value) (us : List Value), us.length = (["self", fx] : List Str).length → bindArgs (PySem.W.fnOf "__init__" qual params [supS txt p1 p2 p3 p4 p5 p6 j, fldS fx p7 p8 p9 q1] scope .none kV doc pm an cdv ct) { pos := us, kw := [] } = pure ((["self", fx] : List Str).zip us))
    (hd : (fx == ("__debug__" : Str)) = false := by decide) (hcx : (fx == ("__classdict__" : Str)) = false := by decide) : XiOk g P w base 1 c [i1] := by
  refine ⟨fun i hi => by rw [List.mem_singleton.mp hi]; exact l1, X, fI, fd, ["self", fx], M.at_, eq_of_beq M.fn, ?_, F.bindsN hbind, rfl⟩
  obtain ⟨oc, od, dV, kV, doc, pm, an, cdv, ct, osl, rfl, lk, hcd, _, _⟩ := F.ex
  refine (xi1 (k := 0) lk hcd S hN hN1 hb hm T (hrow cdv) hd hcx).imp fun vs H Q E ⟨a, ys, e1, e2, e3⟩ => ?_
  match ys, e3 with
  | [y], e3 => exact ⟨a, g.ca c, y, e1, X.ox, e2, n1, by rw [← a1]; exact e3⟩
theorem xiOk2 (F : FunD g.K "__init__" qual params [supS txt p1 p2 p3 p4 p5 p6 j, fldS fx p7 p8 p9 q1, fldS fy q2 q3 q4 q5] scope [] [] fI fd) (S : FnScope N ["self", fx, fy] scope) (hN : N[0]? = some ("self" : Str)) (hN1 : N[1]? = some fx) (hN2 : N[2]? = some fy) (hb : scope.names.lookup ("SweepError" : Str) = some .globalImplicit) (hm : g.mg "SweepError" = some (.ref B)) (T : XbC g.K B) (X : XcC g.K (g.ca c)) (M : Meth g.K (g.ca c) "__init__" fI)
    (n1 : NoAttr g.K (g.ca c) fx) (n2 : NoAttr g.K (g.ca c) fy) (a1 : g.an i1 = fx) (l1 : i1 < g.nA) (a2 : g.an i2 = fy) (l2 : i2 < g.nA) (hrow : ∀ cdv, SupRow (L2.CX P w) P w g.K g.mg base N qual scope fI cdv txt p1 p2 p3 p4 p5 j)
    (hbind : ∀ (kV doc pm : Value) (an : Option Addr) (cdv ct : Value) (us : List Value), us.length = (["self", fx, fy] : List Str).length → bindArgs (PySem.W.fnOf "__init__" qual params [supS txt p1 p2 p3 p4 p5 p6 j, fldS fx p7 p8 p9 q1, fldS fy q2 q3 q4 q5] scope .none kV doc pm an cdv ct) { pos := us, kw := [] } = pure ((["self", fx, fy] : List Str).zip us))
    (hd : (fx == ("__debug__" : Str)) = false := by decide) (hcx : (fx == ("__classdict__" : Str)) = false := by decide) (hd2 : (fy == ("__debug__" : Str)) = false := by decide) (hcx2 : (fy == ("__classdict__" : Str)) = false := by decide) : XiOk g P w base 1 c [i1, i2] := by
  refine ⟨fun i hi => ?_, X, fI, fd, ["self", fx, fy], M.at_, eq_of_beq M.fn, ?_, F.bindsN hbind, rfl⟩
  · rcases List.mem_cons.mp hi with rfl | hi
    · exact l1
    · rw [List.mem_singleton.mp hi]; exact l2
  obtain ⟨oc, od, dV, kV, doc, pm, an, cdv, ct, osl, rfl, lk, hcd, _, _⟩ := F.ex
  refine (xi2 (k := 0) lk hcd S hN hN1 hN2 hb hm T (hrow cdv) hd hcx hd2 hcx2).imp fun vs H Q E ⟨a, ys, e1, e2, e3⟩ => ?_
  match ys, e3 with
  | [y, z], e3 => exact ⟨a, g.ca c, y, z, e1, X.ox, e2, n1, n2, by rw [← a1, ← a2]; exact e3⟩
end
section
variable {X : Cx} {g : Gx} {e : En} {W : WX} {k : Nat} {scope : Scope} {body : Expr} {tb : DE} {N2 : List Str}
theorem lamD_by (C : Cxt X g e W) (h : ∀ (f c' : Addr) (A : Around) (outer : List PySem.Env) (s : Shared) (H : Hp) (E : XK) (e3 : En), Room k (A.deeper (LamX.lamEnv X scope s.heap.objs.size f c')) → Cxt (LamX.lamCx X A outer s H E scope f c') g e3 (wX E) → PE (LamX.lamCx X A outer s H E scope f c') body (lift g e3 (wX E) tb)) (f c' : Addr) : LamD X g k scope f c' body tb :=
  fun A outer s H E hr hg e3 => h f c' A outer s H E e3 hr (cxt_lam C hg)
theorem lamDP_by (C : Cxt X g e W) (h : ∀ (f c' : Addr) (A : Around) (outer : List PySem.Env) (s : Shared) (H : Hp) (E : XK) (e3 : En), Room k (A.deeper (LamX.lamEnv X scope s.heap.objs.size f c')) → Cxt (lamCxP X N2 A outer s H E scope f c') g e3 (wX E) → PE (lamCxP X N2 A outer s H E scope f c') body (lift g e3 (wX E) tb)) (f c' : Addr) : LamDP X g k N2 scope f c' body tb :=
  fun A outer s H E hr hg e3 => h f c' A outer s H E e3 hr (cxt_lamP C hg)
end
/-! ### tests -/
/-- what the walk reads of exceptions -/
@[simp] theorem q_dMkE : type_of% @DL.dMkE.eq_1 := @DL.dMkE.eq_1
@[simp] theorem q_dRaise : type_of% @DL.dRaise.eq_1 := @DL.dRaise.eq_1
@[simp] theorem q_dTry : type_of% @DL.dTry.eq_1 := @DL.dTry.eq_1
end DL
end
/-! ## DL58 -/
section
set_option Elab.async false
set_option linter.all false
set_option maxRecDepth 100000
set_option maxHeartbeats 4000000
/-! own objects times ints; bool(o); numbers held by classes -/
namespace DL
open PySem PySem.Spec PyProof.Rows L2
theorem imul_own (a : Int) (t : Tok) (l : Addr) (o : Obj) (hd : o.data = .plain) : Meets (Builtin.«int.__mul__» ⟨[.int a t, .ref l], []⟩) (fun _ R s => s.heap.get? l = some o ∧ R (.ok (.ret Value.notImplemented)) s) :=
  .of_wp fun prog w A R s h => by
    obtain ⟨hp, g, d, tk, os⟩ := s
    obtain ⟨hl, h⟩ := h
    obtain ⟨c1, c2, c3, c4⟩ := o
    simp only at hd
    subst hd
    wp_walk
    exact ⟨_, rfl, h⟩
section
open PySem.W
variable {prog : Program} {w : World} {A : Around} {E : Value → Shared → Prop} {s : Shared} {K : Frag} {y C : Addr} {oy : Obj} {od : Option Obj} {f f' : Addr}
theorem own_imul {n : Int} {t : Tok} {Q : Value → Shared → Prop} (X : K.In s.heap) (I : InstAt s.heap y oy C od) (hd : oy.data = .plain) (hc : selfFirst K C = true) (hs : findIn K (.ref C) (dunderR "mul") = some (some (.ref f))) (hf : isFn K (.ref f) = true)
    (hm : findIn K (.ref C) (PySem.dunder "mul") = some (some (.ref f'))) (hsub : subIn K (.ref C) (.type "int") = some false)
    (h : wpAny (model prog w) A (call (.ref f) [.ref y, .int n t]) (PySem.W.CmpBack Q) E s) : wpAny (model prog w) A (binaryOp .Mult (.int n t) (.ref y)) Q E s := by
  obtain ⟨cd, rest, hcd, hmr⟩ := ksp_first hc
  have one := ksp_try X I hs hf h
  have K1 : Looks (model prog w) s.heap (typeOf (.ref y)) (.ref C) := I.type
  have K2 : Looks (model prog w) s.heap (typeOf (.int n t)) (.type "int") := Looks.of_pure rfl
  have K3 : Looks (model prog w) s.heap (fillsNumberSlot (.ref C) "mul") true := fills_K X hcd hmr hm
  have K4 : Looks (model prog w) s.heap (fillsNumberSlot (.type "int") "mul") true := Looks.of_pure F.fills_int_mul
  have K5 : Looks (model prog w) s.heap (isSubtype (.ref C) (.type "int")) false := looks_subIn X hsub
  have K6 : Looks (model prog w) s.heap (numberSlotInPython (.type "int") "mul") false := Looks.of_pure rfl
  have cm : wpAny (model prog w) A (call (.builtin "int.__mul__") [.int n t, .ref y]) (fun v s' => v = .notImplemented ∧ s' = s) E s := by
    refine call_meetsIn (S := fun _ R s' => s'.heap.get? y = some oy ∧ R (.ok (.ret Value.notImplemented)) s') F.slot_int_mul (typeIs_int s n t) F.entry_int_mul (F.args_int_mul_2 _ _) ((imul_own n t y oy hd).inModel prog w) ?_
    exact ⟨I.1, rfl, rfl⟩
  have dm : wpAny (model prog w) A (tryMethod (.int n t) (PySem.dunder "mul") (.ref y)) (fun r s' => r = none ∧ s' = s) E s := by
    have sl : Slot "int" (PySem.dunder "mul") "int.__mul__" := F.slot_int_mul
    have c2 : wpAny (model prog w) A (call (.builtin "int.__mul__") [.int n t, .ref y]) (fun v s' => v = .notImplemented ∧ ((none : Option Value) = none ∧ s' = s)) E s := wpAny_mono cm (fun v s' hv => ⟨hv.1, rfl, hv.2⟩) fun _ _ z => z
    exact wpAny_tryMethod_declines (Q := fun r s' => r = none ∧ s' = s) (T := "int") (id := "int.__mul__") (name := PySem.dunder "mul") (self := .int n t) (other := .ref y) (typeIs_int s n t) sl c2
  have hne : (Value.type "int" == Value.ref C) = false := Bool.eq_false_iff.mpr fun q => by cases beq_iff_eq.mp q
  show wpAny _ _ (binaryOp .Mult (.int n t) (.ref y)) _ _ _
  unfold binaryOp
  refine wpAny_holding (wpAny_bind ?_)
  unfold binaryOp1
  refine wpAny_bind (K2.here (wpAny_bind (K1.here (wpAny_bind (K4.here ?_)))))
  simp only [hne, Bool.false_eq_true, if_false]
  refine wpAny_bind (K3.here ?_)
  simp only [Bool.and_self, if_true]
  refine wpAny_bind (K5.here ?_)
  have hpy : numberSlotInPython (.type "int") "mul" = pure false := rfl
  simp only [Bool.false_eq_true, if_false, pure_bind, Bool.not_false, Bool.and_self, if_true, hpy]
  refine wpAny_bind (m := tryMethod (.int n t) (PySem.dunder "mul") (.ref y)) ?_
  refine wpAny_mono dm (fun r s' hv => ?_) fun _ _ z => z
  obtain ⟨hv1, hv2⟩ := hv
  subst hv1 hv2
  simp only []
  refine wpAny_bind (m := tryMethod (.ref y) (dunderR "mul") (.int n t)) ?_
  refine wpAny_mono one (fun r s' hr => ?_) fun _ _ z => z
  obtain ⟨v, rfl, hq⟩ := hr
  exact wpAny_bind (wpAny_rule (wpAny_pure (wpAny_pure hq)))
/-- o * n -/
theorem own_muli {n : Int} {t : Tok} {fo ro : Option Value} {h₀ : Heap} {L : Addr} {m : Str → Option Value} {Q : Value → Shared → Prop} (Fr0 : Fr h₀ L s.heap m) (X : K.In h₀) (I : InstAt s.heap y oy C od) (hc : selfFirst K C = true)
    (hs : findIn K (.ref C) (PySem.dunder "mul") = some (some (.ref f))) (hf : isFn K (.ref f) = true) (hr : findIn K (.ref C) (dunderR "mul") = some (some (.ref f'))) (h1 : findIn K (.type "int") (PySem.dunder "mul") = some fo) (h2 : findIn K (.type "int") (dunderR "mul") = some ro) (hsub : subIn K (.type "int") (.ref C) = some false)
    (h : wpAny (model prog w) A (call (.ref f) [.ref y, .int n t]) (PySem.W.CmpBack Q) E s) : wpAny (model prog w) A (binaryOp .Mult (.ref y) (.int n t)) Q E s :=
  ksp_binT (op := .Mult) Fr0 X I rfl hc hs hf hr (.inr ⟨_, rfl⟩) h1 h2 hsub h
end
/-- the tests: __mul__ and __rmul__ of the class x, no number's class -/
structure MulC (K : PySem.W.Frag) (C fm fr : Addr) : Prop where
  h1 : ∃ fo, PySem.W.findIn K (.type "int") (PySem.dunder "mul") = some fo
  h2 : ∃ ro, PySem.W.findIn K (.type "int") (PySem.dunderR "mul") = some ro
  s1 : PySem.W.subIn K (.type "int") (.ref C) = some false
  s2 : PySem.W.subIn K (.ref C) (.type "int") = some false
  m1 : PySem.W.findIn K (.ref C) (PySem.dunder "mul") = some (some (.ref fm))
  m2 : PySem.W.findIn K (.ref C) (PySem.dunderR "mul") = some (some (.ref fr))
  f1 : PySem.W.isFn K (.ref fm) = true
  f2 : PySem.W.isFn K (.ref fr) = true
  sf : PySem.W.selfFirst K C = true
theorem mul_ok {K : PySem.W.Frag} {C : Addr} {x : Str} (e : C = He.ga K x) (h : tMul x K = true) : MulC K C (meAd x "__mul__" K) (meAd x "__rmul__" K) := by
  subst e
  obtain ⟨h1, h⟩ := He.ba h
  obtain ⟨h2, h⟩ := He.ba h
  obtain ⟨h3, h⟩ := He.ba h
  obtain ⟨h4, h⟩ := He.ba h
  obtain ⟨h5, h⟩ := He.ba h
  obtain ⟨h6, h⟩ := He.ba h
  obtain ⟨h7, h⟩ := He.ba h
  obtain ⟨h8, h9⟩ := He.ba h
  exact ⟨Option.isSome_iff_exists.mp h1, Option.isSome_iff_exists.mp h2, of_decide_eq_true h3, of_decide_eq_true h4, He.eqO_ok h5, He.eqO_ok h6, h7, h8, h9⟩
section
variable {X : Cx} {g : Gx} {e : En} {W : WX} {a b : Expr} {pos : Pos} {f f' : DE} {k c : Nat} {wf : DFn}
theorem inv_fr {pins : List (Addr × Obj)} {σ : L2.St} {H : Hp} {s : Shared} (I : Inv X pins σ H s) : ∃ m, Fr X.base X.env.locals s.heap m := by
  obtain ⟨m, h, _⟩ := I.loc
  exact ⟨m, h, I.bk, Nat.le_trans I.ok.bsz I.ok.above⟩
structure MulOk (g : Gx) (P : Program) (w : World) (base : Heap) (k c : Nat) (refl : Bool) (wf : DFn) : Prop where
  ok : ∃ fm fr, MulC g.K (g.ca c) fm fr ∧ DFnR g P w base k (if refl = true then fr else fm) wf
def dMulI (c : Nat) (wf : DFn) (fa fb : DE) : DE := fun ρ S k E => fa ρ S (fun x S1 => fb ρ S1 (fun y S2 => ∃ fs n, insOf S2 x = some (c, fs) ∧ y = .int n ∧ wf [x, y] S2 k E) E) E
def dIMul (c : Nat) (wf : DFn) (fa fb : DE) : DE := fun ρ S k E => fa ρ S (fun x S1 => fb ρ S1 (fun y S2 => ∃ fs n, insOf S2 y = some (c, fs) ∧ x = .int n ∧ wf [y, x] S2 k E) E) E
@[simp] theorem q_dMulI : type_of% @DL.dMulI.eq_1 := @DL.dMulI.eq_1
@[simp] theorem q_dIMul : type_of% @DL.dIMul.eq_1 := @DL.dIMul.eq_1
theorem de_mulI (C : Cxt X g e W) (B : MulOk g X.prog X.w X.base k c false wf) (hr : Room k X.A) (ha : PE X a (lift g e W f)) (hb : PE X b (lift g e W f')) : PE X (.BinOp a .Mult b pos) (lift g e W (dMulI c wf f f')) := by
  refine ⟨fun pins s σ H Q I ⟨ρ, Hi, S, k1, E, i, sl, q, hQ, hx⟩ => ?_⟩
  refine wpAny_BinOp (thn (ha.run pins s σ H (fun x H1 => ∃ dx S1 Hi1, Is g e H1 Hi1 S1 ∧ Same Hi Hi1 ∧ Rep g Hi1 x dx ∧ f' ρ S1 (fun y S2 => ∃ fs n, insOf S2 dx = some (c, fs) ∧ y = .int n ∧ wf [dx, y] S2 k1 E) E) I
    ⟨ρ, Hi, S, _, E, i, sl, q, fun d S' v H' Hi' i' s' r' q' => ⟨d, S', Hi', i', s', r', q'⟩, hx⟩) fun v s1 ⟨x, H1, I1, rx, dx, S1, Hi1, i1, s1', r1, q1⟩ => ?_)
  refine thn (hb.run pins s1 σ H1 (fun y H2 => ∃ dy S2 Hi2, Is g e H2 Hi2 S2 ∧ Same Hi1 Hi2 ∧ Rep g Hi2 y dy ∧ ∃ fs n, insOf S2 dx = some (c, fs) ∧ dy = .int n ∧ wf [dx, dy] S2 k1 E) I1
    ⟨ρ, Hi1, S1, _, E, i1, sl.mono s1', q1, fun d S' v H' Hi' i' s' r' q' => ⟨d, S', Hi', i', s', r', q'⟩, hx.mono s1'⟩) fun u s2 ⟨y, H2, I2, ry, dy, S2, Hi2, i2, s2', r2, fs, n, h1, h2, q2⟩ => ?_
  obtain ⟨px, dx1, vs1, rfl, e1, _⟩ := insOf_rep i2.ok (r1.mono s2') h1
  subst h2
  obtain rfl : v = Value.ref px := rx
  obtain rfl : y = .int n := r2
  obtain ⟨t, rfl⟩ : ∃ t, u = Value.int n t := ry
  obtain ⟨fm, fr, M, F⟩ := B.ok
  obtain ⟨_, O1, _⟩ := ins_get I2.hok e1
  obtain ⟨od1, J1, _⟩ := O1.look
  obtain ⟨m, fr0⟩ := inv_fr I2
  obtain ⟨fo, hfo⟩ := M.h1
  obtain ⟨ro, hro⟩ := M.h2
  have hk : g.K.In X.base := by rw [← C.K]; exact I2.ok.mod.kin
  exact own_muli fr0 hk J1 M.sf M.m1 M.f1 M.m2 hfo hro M.s1 (thn (run_d (us := [.ref px, .int n t]) (vs := [.ref px, .int n]) (ds := [dx, .int n]) C (F : DFnR g X.prog X.w X.base k fm wf) hr I2 (.cons rfl (.cons ⟨t, rfl⟩ .nil)) i2 ⟨r1.mono s2', rfl, trivial⟩ q2 (KOk.mono hQ (s1'.trans s2')) ((hx.mono s1').mono s2')) fun _ _ z => back_of z)
theorem de_iMul (C : Cxt X g e W) (B : MulOk g X.prog X.w X.base k c true wf) (hr : Room k X.A) (ha : PE X a (lift g e W f)) (hb : PE X b (lift g e W f')) : PE X (.BinOp a .Mult b pos) (lift g e W (dIMul c wf f f')) := by
  refine ⟨fun pins s σ H Q I ⟨ρ, Hi, S, k1, E, i, sl, q, hQ, hx⟩ => ?_⟩
  refine wpAny_BinOp (thn (ha.run pins s σ H (fun x H1 => ∃ dx S1 Hi1, Is g e H1 Hi1 S1 ∧ Same Hi Hi1 ∧ Rep g Hi1 x dx ∧ f' ρ S1 (fun y S2 => ∃ fs n, insOf S2 y = some (c, fs) ∧ dx = .int n ∧ wf [y, dx] S2 k1 E) E) I
    ⟨ρ, Hi, S, _, E, i, sl, q, fun d S' v H' Hi' i' s' r' q' => ⟨d, S', Hi', i', s', r', q'⟩, hx⟩) fun v s1 ⟨x, H1, I1, rx, dx, S1, Hi1, i1, s1', r1, q1⟩ => ?_)
  refine thn (hb.run pins s1 σ H1 (fun y H2 => ∃ dy S2 Hi2, Is g e H2 Hi2 S2 ∧ Same Hi1 Hi2 ∧ Rep g Hi2 y dy ∧ ∃ fs n, insOf S2 dy = some (c, fs) ∧ dx = .int n ∧ wf [dy, dx] S2 k1 E) I1
    ⟨ρ, Hi1, S1, _, E, i1, sl.mono s1', q1, fun d S' v H' Hi' i' s' r' q' => ⟨d, S', Hi', i', s', r', q'⟩, hx.mono s1'⟩) fun u s2 ⟨y, H2, I2, ry, dy, S2, Hi2, i2, s2', r2, fs, n, h1, h2, q2⟩ => ?_
  obtain ⟨py, dy1, vs1, rfl, e1, _⟩ := insOf_rep i2.ok r2 h1
  subst h2
  obtain rfl : u = Value.ref py := ry
  obtain rfl : x = .int n := r1
  obtain ⟨t, rfl⟩ : ∃ t, v = Value.int n t := rx
  obtain ⟨fm, fr, M, F⟩ := B.ok
  obtain ⟨_, O1, _⟩ := ins_get I2.hok e1
  obtain ⟨od1, J1, _⟩ := O1.look
  have hk : g.K.In s2.heap := by rw [← C.K]; exact I2.kIn
  exact own_imul hk J1 rfl M.sf M.m2 M.f2 M.m1 M.s2 (thn (run_d (us := [.ref py, .int n t]) (vs := [.ref py, .int n]) (ds := [dy, .int n]) C (F : DFnR g X.prog X.w X.base k fr wf) hr I2 (.cons rfl (.cons ⟨t, rfl⟩ .nil)) i2 ⟨r2, rfl, trivial⟩ q2 (KOk.mono hQ (s1'.trans s2')) ((hx.mono s1').mono s2')) fun _ _ z => back_of z)
/-! ### C.x, a number -/
structure ClsN (K : PySem.W.Frag) (C : Addr) (m : Str) (n : Int) : Prop where
  rd : PySem.W.readsIn K C (.type "type") = true
  ga : PySem.W.specialIn K (.ref C) "__getattribute__" = some (some (.builtin "type.__getattribute__"))
  at_ : ∃ t, PySem.W.findCls K (.ref C) (.type "type") m = some (.val (.int n t))
theorem clsN_ok {K : PySem.W.Frag} {C : Addr} {x m : Str} {n : Int} (e : C = He.ga K x) (h : tClsN x m n K = true) : ClsN K C m n := by
  subst e
  obtain ⟨h1, h⟩ := He.ba h
  obtain ⟨h2, h⟩ := He.ba h
  refine ⟨h1, He.eqO_ok h2, ?_⟩
  split at h
  · rename_i i t hn
    obtain rfl := of_decide_eq_true h
    exact ⟨t, hn⟩
  · cases h
theorem de_clsN {n : Int} {x m : Str} {p : Pos} (C : Cxt X g e W) (T : ClsN g.K (g.ca c) m n) (hg : Gl X x) (hm : g.mg x = some (.ref (g.ca c))) (hdb : (x == ("__debug__" : Str)) = false := by decide)
    (hab : attributeBase (.Name x p) m X.env (eval (.Name x p) X.env) = eval (.Name x p) X.env := by rfl) : PE X (.Attribute (.Name x p) m pos) (lift g e W (dC (.int n))) := by
  constructor
  intro pins s σ H Q I ⟨ρ, Hi, S, k, E, i, sl, q, hk, hx⟩
  obtain ⟨t, h3⟩ := T.at_
  have kin : ∀ {s1 : Shared}, Inv X pins σ H s1 → g.K.In s1.heap := fun J => by rw [← C.K]; exact J.kIn
  refine attr_of hab (ld_glob I hg (by rw [C.mg]; exact hm) (PySem.W.cls_value (kin I) T.rd h3 rfl ⟨.int n, H, I.tok _, ⟨t, rfl⟩, hk (.int n) S _ _ _ i (Same.refl _) rfl q⟩) hdb)
end
end DL
end
/-! ## DL59 -/
section
set_option Elab.async false
set_option linter.all false
set_option maxRecDepth 100000
set_option maxHeartbeats 4000000
/-! bool(o) -/
namespace DL
open PySem PySem.Spec PyProof.Rows L2
section
variable {prog : Program} {w : World}
theorem bnew_own (y : Addr) : MeetsIn prog w (Builtin.«bool.__new__» ⟨[.type "bool", .ref y], []⟩) (fun A R s => wpAny (model prog w) A.in1 (truthy (.ref y)) (fun b s' => R (.ok (.ret (.bool b))) s') (fun e s' => R (.error e) s') s) :=
  .of_wp fun A R s h => by
    have hsub := F.conv_sub_bool
    obtain ⟨hp, g, d, tk, os⟩ := s
    have tr : ∀ {Q : Bool → Shared → Prop}, (∀ b s', R (.ok (.ret (.bool b))) s' → Q b s') → wpAny (model prog w) A.in1 (truthy (.ref y)) Q (fun e s' => R (.error e) s') ⟨hp, g, d, tk, os⟩ := fun hq => wpAny_mono h hq fun _ _ z => z
    repeat (any_goals (first | assumption | with_reducible apply tr | wp_step))
    all_goals first | (intro b s' hr; first | exact ⟨_, rfl, hr⟩ | exact wpAny_bind (wpAny_pure (wpAny_pure ⟨_, rfl, hr⟩)) | exact wpAny_pure ⟨_, rfl, hr⟩) | skip
    trace_state
end
section
variable {X : Cx} {g : Gx} {e : En} {W : WX} {k : Nat} {ms : List (Nat × DFn)}
theorem run_din2 {pins : List (Addr × Obj)} {σ : L2.St} {H Hi : Hp} {S : Sto} {s : Shared} {fa : Addr} {wf : DFn} {Q : VK} {us : List Value} {vs : List V} {ds : List D} {k1 : K1} {E1 : X1} (C : Cxt X g e W) (F : DFnR g X.prog X.w X.base k fa wf) (hr : Room (k + 2) X.A) (I : Inv X pins σ H s) (r : Vals vs us)
    (i : Is g e H Hi S) (rs : Reps g Hi vs ds) (q : wf ds S k1 E1) (hk : KOk g e Hi k1 Q) (hx : XOk g e W Hi σ E1) : wpAny (model X.prog X.w) X.A.in1.in1 (call (.ref fa) us) (EP X pins σ Q) X.xe s := by
  have gd : X.A.in1.in1.guards = some [] := by
    have z : X.A.in1.in1.guards = X.A.guards := by first | rfl | simp [Around.in1, Around.under, Code.guards, Code.isGuard, guardIds, pushGuards]
    rw [z, C.gd]
  refine wpAny_call (codeAny_mono (FnR.to C F X.A.in1.in1 X.stack s H us vs Q _ hr.in1.in1 gd I.env0.in1.in1 r (spD_of (σ := σ) (W := W) (wf := wf) i rs q hk hx)) fun r s' z => ?_)
  match r, z with
  | .ok (.ret u), z => exact I.after z
  | .error er, z => exact C.pass σ pins H s er s' I z
  | .ok .brk, z => exact z.elim
  | .ok .cont, z => exact z.elim
  | .ok .next, z => exact z.elim
/-- bool of an own object -/
def boolO (ms : List (Nat × DFn)) (ds : List D) (S : Sto) (kk : K1) : Prop := ∃ d c fs wf, ds = [d] ∧ insOf S d = some (c, fs) ∧ ms.lookup c = some wf ∧ wf [d] S (fun r S' => ∃ b : Bool, r = .bl b ∧ kk (.bl b) S') fun _ _ _ => False
def rBoolO (g : Gx) (e : En) (ms : List (Nat × DFn)) : List V → Hp → VK → Prop := fun vs H Q => ∃ Hi S ds kk, Is g e H Hi S ∧ Reps g Hi vs ds ∧ boolO ms ds S kk ∧ KOk g e Hi kk Q
theorem call_boolO (C : Cxt X g e W) (B : SpcOk g X.prog X.w X.base k "__bool__" ms) (hr : Room (k + 2) X.A) : CallR X (.type "bool") (rBoolO g e ms) := by
  rintro pins s σ H vs us Q I r ⟨Hi, S, ds, kk, i, rs, ⟨d, c, fs, wf, rfl, h1, h2, q⟩, hk⟩
  obtain ⟨v, rfl, rv⟩ := rs.one
  obtain ⟨p, dx, vs1, rfl, e1, _⟩ := insOf_rep i.ok rv h1
  rw [Vals.ref1 r]
  obtain ⟨fa, hs, hf, FF⟩ := B.ok c wf h2
  obtain ⟨_, O, _⟩ := ins_get I.hok e1
  obtain ⟨od, J, _⟩ := O.look
  obtain ⟨m, fr0⟩ := inv_fr I
  have hk0 : g.K.In X.base := by rw [← C.K]; exact I.ok.mod.kin
  have kb : KOk g e Hi (fun r S' => ∃ b : Bool, r = .bl b ∧ kk (.bl b) S') (fun v H' => ∃ b : Bool, v = .bl b ∧ Q (.bl b) H') := fun d S' v H' Hi' i' s' r' ⟨b, ed, q'⟩ => by
    subst ed
    exact ⟨b, r', hk (.bl b) S' _ H' Hi' i' s' rfl q'⟩
  have run := run_din2 (us := [Value.ref p]) (vs := [.ref p]) (ds := [d]) C FF hr I (.cons rfl .nil) i ⟨rv, trivial⟩ q kb (fun _ _ _ _ _ _ _ _ _ _ z => z.elim)
  refine callType_newIn F.called_bool F.newNe_bool (F.typeCall_bool_1 _) (F.newCall_bool_1 _) (fun obj => F.args_object_init_2 obj _) F.entry_bool_new (bnew_own p) ?_
  refine PySem.W.truthy_K fr0 hk0 J hs hf (wpAny_mono run (fun u s' z => ?_) fun _ _ y => y)
  obtain ⟨v2, H2, I2, r2, b, rfl, q2⟩ := z
  obtain rfl : u = Value.bool b := r2
  exact ⟨rfl, .bl b, H2, I2, rfl, q2⟩
theorem ok_boolO : BiOk g e (rBoolO g e ms) (boolO ms) := fun H Hi S vs ds k Q i r h hk => ⟨Hi, S, ds, k, i, r, h, hk⟩
@[simp] theorem q_boolO : type_of% @DL.boolO.eq_1 := @DL.boolO.eq_1
end
end DL
end
/-! ## W -/
section
set_option Elab.async false
set_option linter.all false
set_option maxRecDepth 100000
set_option maxHeartbeats 4000000
namespace Z
open PySem PySem.Spec PyProof.Rows L2 DL
def anT (i : Nat) : Str := (["own_numbers", "own_forward", "own_backward", "own_size", "own_small", "own_held", "own_place", "own_bound", "own_loads", "own_rows", "own_word", "own_budget", "own_prices", "own_answers", "own_many", "own_log", "at_forward", "at_backward", "own_question", "ahead", "back", "position", "value", "load", "limit", "direction", "key"] : List Str).getD i ""
structure Tp (g : Gx) (base : Heap) : Prop where
  nA : g.nA = 27
  an : ∀ i, g.an i = anT i
  m_range : g.mg "range" = none
  m_enumerate : g.mg "enumerate" = none
  m_int : g.mg "int" = none
  m__law_folded : g.mg "_law_folded" = some (.ref (glAd "_law_folded" g.K))
  m__law_begun : g.mg "_law_begun" = some (.ref (glAd "_law_begun" g.K))
  v_Load_MOST : ClsN g.K (g.ca 32) "MOST" 1200
  m_Load : g.mg "Load" = some (.ref (g.ca 32))
  m_repr : g.mg "repr" = none
  m_len : g.mg "len" = none
  m__law_mixed : g.mg "_law_mixed" = some (.ref (glAd "_law_mixed" g.K))
  m__law_draw : g.mg "_law_draw" = some (.ref (glAd "_law_draw" g.K))
  m__law_pick : g.mg "_law_pick" = some (.ref (glAd "_law_pick" g.K))
  m__law_near : g.mg "_law_near" = some (.ref (glAd "_law_near" g.K))
  m_max : g.mg "max" = none
  m_min : g.mg "min" = none
  q_int_int : PySem.W.kitOne g.K (.type "int") (.type "int") = some true
  m_isinstance : g.mg "isinstance" = none
  q_int_bool : PySem.W.kitOne g.K (.type "int") (.type "bool") = some false
  m_bool : g.mg "bool" = none
  i_MOST_LOAD : ∃ t, g.mg "MOST_LOAD" = some (.int 1200 t)
  m_is_from : g.mg "is_from" = some (.ref (glAd "is_from" g.K))
  m_SweepError : g.mg "SweepError" = some (.ref (g.ca 0))
  xb : XbC g.K (g.ca 0)
  x_InvalidLoad : XcC g.K (g.ca 4)
  h_InvalidLoad___init__ : Meth g.K (g.ca 4) "__init__" (meAd "InvalidLoad" "__init__" g.K)
  m_InvalidLoad : g.mg "InvalidLoad" = some (.ref (g.ca 4))
  n_InvalidLoad_value : NoAttr g.K (g.ca 4) "value"
  c_Load : Cls g.K (g.ca 32)
  n_Load_own_forward : NoAttr g.K (g.ca 32) "own_forward"
  n_Load_own_backward : NoAttr g.K (g.ca 32) "own_backward"
  k_Load : Mk g.K (g.ca 32) (meAd "Load" "__init__" g.K)
  m__law_due : g.mg "_law_due" = some (.ref (glAd "_law_due" g.K))
  m_InvalidSize : g.mg "InvalidSize" = some (.ref (g.ca 3))
  y_InvalidSize_SweepError : PySem.W.exmOne g.K (.ref (g.ca 3)) (.ref (g.ca 0)) = some true
  m_InvalidRow : g.mg "InvalidRow" = some (.ref (g.ca 1))
  y_InvalidRow_SweepError : PySem.W.exmOne g.K (.ref (g.ca 1)) (.ref (g.ca 0)) = some true
  m_InvalidPlace : g.mg "InvalidPlace" = some (.ref (g.ca 2))
  y_InvalidPlace_SweepError : PySem.W.exmOne g.K (.ref (g.ca 2)) (.ref (g.ca 0)) = some true
  m_LimitExceeded : g.mg "LimitExceeded" = some (.ref (g.ca 11))
  y_LimitExceeded_SweepError : PySem.W.exmOne g.K (.ref (g.ca 11)) (.ref (g.ca 0)) = some true
  y_InvalidLoad_SweepError : PySem.W.exmOne g.K (.ref (g.ca 4)) (.ref (g.ca 0)) = some true
  j_Load : ClsI g 32
  q_Load_Load : PySem.W.kitOne g.K (.ref (g.ca 32)) (.ref (g.ca 32)) = some true
  p_Load_forward : PropOf g.K (g.ca 32) "forward" (meAd "Load" "forward" g.K) (pgAd "Load" "forward" g.K)
  p_Load_backward : PropOf g.K (g.ca 32) "backward" (meAd "Load" "backward" g.K) (pgAd "Load" "backward" g.K)
  x_InvalidSize : XcC g.K (g.ca 3)
  q_InvalidSize_LimitExceeded : PySem.W.kitOne g.K (.ref (g.ca 3)) (.ref (g.ca 11)) = some false
  x_InvalidRow : XcC g.K (g.ca 1)
  q_InvalidRow_LimitExceeded : PySem.W.kitOne g.K (.ref (g.ca 1)) (.ref (g.ca 11)) = some false
  x_InvalidPlace : XcC g.K (g.ca 2)
  q_InvalidPlace_LimitExceeded : PySem.W.kitOne g.K (.ref (g.ca 2)) (.ref (g.ca 11)) = some false
  x_LimitExceeded : XcC g.K (g.ca 11)
  q_LimitExceeded_LimitExceeded : PySem.W.kitOne g.K (.ref (g.ca 11)) (.ref (g.ca 11)) = some true
  q_InvalidLoad_LimitExceeded : PySem.W.kitOne g.K (.ref (g.ca 4)) (.ref (g.ca 11)) = some false
  n_LimitExceeded_limit : NoAttr g.K (g.ca 11) "limit"
  m__law_told : g.mg "_law_told" = some (.ref (glAd "_law_told" g.K))
  h_LimitExceeded___init__ : Meth g.K (g.ca 11) "__init__" (meAd "LimitExceeded" "__init__" g.K)
  m_checked_load : g.mg "checked_load" = some (.ref (glAd "checked_load" g.K))
  s1_Load : PySem.W.selfFirst g.K (g.ca 32) = true
  h_Load___add__ : Meth g.K (g.ca 32) "__add__" (meAd "Load" "__add__" g.K)
  h_Load___and__ : Meth g.K (g.ca 32) "__and__" (meAd "Load" "__and__" g.K)
  h_Load___or__ : Meth g.K (g.ca 32) "__or__" (meAd "Load" "__or__" g.K)
  h_Load_covers : Meth g.K (g.ca 32) "covers" (meAd "Load" "covers" g.K)
  h_Load___eq__ : Meth g.K (g.ca 32) "__eq__" (meAd "Load" "__eq__" g.K)
  on_Load : PySem.W.findIn g.K (.ref (g.ca 32)) "__ne__" = some (some (.builtin "object.__ne__"))
  nf_Load_Load : PySem.W.notFirst g.K (g.ca 32) (.ref (g.ca 32)) = true
  m_list : g.mg "list" = none
  m__law_two_right : g.mg "_law_two_right" = some (.ref (glAd "_law_two_right" g.K))
  q_bool_int : PySem.W.kitOne g.K (.type "bool") (.type "int") = some true
  q_bool_bool : PySem.W.kitOne g.K (.type "bool") (.type "bool") = some true
  mu_Load : MulC g.K (g.ca 32) (meAd "Load" "__mul__" g.K) (meAd "Load" "__rmul__" g.K)
  h_Load___neg__ : Meth g.K (g.ca 32) "__neg__" (meAd "Load" "__neg__" g.K)
  h_Load___bool__ : Meth g.K (g.ca 32) "__bool__" (meAd "Load" "__bool__" g.K)
  m__law_one_right : g.mg "_law_one_right" = some (.ref (glAd "_law_one_right" g.K))
  m_law : g.mg "law" = some (.ref (glAd "law" g.K))
  d__law_folded : ∃ fd, FunD g.K "_law_folded" "_law_folded" (defArgs (topS 26)) (defBody (topS 26)) (defScope (topS 26)) [] [] (glAd "_law_folded" g.K) fd
  d__law_begun : ∃ fd, FunD g.K "_law_begun" "_law_begun" (defArgs (topS 28)) (defBody (topS 28)) (defScope (topS 28)) [] [] (glAd "_law_begun" g.K) fd
  d__law_mixed : ∃ fd, FunD g.K "_law_mixed" "_law_mixed" (defArgs (topS 25)) (defBody (topS 25)) (defScope (topS 25)) [] [] (glAd "_law_mixed" g.K) fd
  d__law_draw : ∃ fd, FunD g.K "_law_draw" "_law_draw" (defArgs (topS 27)) (defBody (topS 27)) (defScope (topS 27)) [] [] (glAd "_law_draw" g.K) fd
  d__law_pick : ∃ fd, FunD g.K "_law_pick" "_law_pick" (defArgs (topS 29)) (defBody (topS 29)) (defScope (topS 29)) [] [] (glAd "_law_pick" g.K) fd
  d__law_near : ∃ fd, FunD g.K "_law_near" "_law_near" (defArgs (topS 30)) (defBody (topS 30)) (defScope (topS 30)) [] [] (glAd "_law_near" g.K) fd
  d_is_from : ∃ fd, FunD g.K "is_from" "is_from" (defArgs (topS 10)) (defBody (topS 10)) (defScope (topS 10)) [] [] (glAd "is_from" g.K) fd
  d_InvalidLoad___init__ : ∃ fd, FunD g.K "__init__" "InvalidLoad.__init__" (defArgs (inClass (topS 6) 0)) (defBody (inClass (topS 6) 0)) (defScope (inClass (topS 6) 0)) [] [] (meAd "InvalidLoad" "__init__" g.K) fd
  d_Load___init__ : ∃ fd, FunD g.K "__init__" "Load.__init__" (defArgs (inClass (topS 23) 1)) (defBody (inClass (topS 23) 1)) (defScope (inClass (topS 23) 1)) [] [] (meAd "Load" "__init__" g.K) fd
  d__law_due : ∃ fd, FunD g.K "_law_due" "_law_due" (defArgs (topS 32)) (defBody (topS 32)) (defScope (topS 32)) [] [] (glAd "_law_due" g.K) fd
  d_Load_forward : ∃ fd, FunD g.K "forward" "Load.forward" (defArgs (inClass (topS 23) 2)) (defBody (inClass (topS 23) 2)) (defScope (inClass (topS 23) 2)) [] [] (pgAd "Load" "forward" g.K) fd
  d_Load_backward : ∃ fd, FunD g.K "backward" "Load.backward" (defArgs (inClass (topS 23) 3)) (defBody (inClass (topS 23) 3)) (defScope (inClass (topS 23) 3)) [] [] (pgAd "Load" "backward" g.K) fd
  d__law_told : ∃ fd, FunD g.K "_law_told" "_law_told" (defArgs (topS 31)) (defBody (topS 31)) (defScope (topS 31)) [] [] (glAd "_law_told" g.K) fd
  d_LimitExceeded___init__ : ∃ fd, FunD g.K "__init__" "LimitExceeded.__init__" (defArgs (inClass (topS 7) 0)) (defBody (inClass (topS 7) 0)) (defScope (inClass (topS 7) 0)) [] [] (meAd "LimitExceeded" "__init__" g.K) fd
  d_checked_load : ∃ fd, FunD g.K "checked_load" "checked_load" (defArgs (topS 20)) (defBody (topS 20)) (defScope (topS 20)) [] [] (glAd "checked_load" g.K) fd
  d_Load___add__ : ∃ fd, FunD g.K "__add__" "Load.__add__" (defArgs (inClass (topS 23) 7)) (defBody (inClass (topS 23) 7)) (defScope (inClass (topS 23) 7)) [] [] (meAd "Load" "__add__" g.K) fd
  d_Load___and__ : ∃ fd, FunD g.K "__and__" "Load.__and__" (defArgs (inClass (topS 23) 10)) (defBody (inClass (topS 23) 10)) (defScope (inClass (topS 23) 10)) [] [] (meAd "Load" "__and__" g.K) fd
  d_Load___or__ : ∃ fd, FunD g.K "__or__" "Load.__or__" (defArgs (inClass (topS 23) 11)) (defBody (inClass (topS 23) 11)) (defScope (inClass (topS 23) 11)) [] [] (meAd "Load" "__or__" g.K) fd
  d_Load_covers : ∃ fd, FunD g.K "covers" "Load.covers" (defArgs (inClass (topS 23) 4)) (defBody (inClass (topS 23) 4)) (defScope (inClass (topS 23) 4)) [] [] (meAd "Load" "covers" g.K) fd
  d_Load___eq__ : ∃ fd, FunD g.K "__eq__" "Load.__eq__" (defArgs (inClass (topS 23) 5)) (defBody (inClass (topS 23) 5)) (defScope (inClass (topS 23) 5)) [] [] (meAd "Load" "__eq__" g.K) fd
  d__law_two_right : ∃ fd, FunD g.K "_law_two_right" "_law_two_right" (defArgs (topS 33)) (defBody (topS 33)) (defScope (topS 33)) [] [] (glAd "_law_two_right" g.K) fd
  d_Load___mul__ : ∃ fd, FunD g.K "__mul__" "Load.__mul__" (defArgs (inClass (topS 23) 8)) (defBody (inClass (topS 23) 8)) (defScope (inClass (topS 23) 8)) [] [] (meAd "Load" "__mul__" g.K) fd
  d_Load___rmul__ : ∃ fd, FunD g.K "__rmul__" "Load.__rmul__" (defArgs (inClass (topS 23) 9)) (defBody (inClass (topS 23) 9)) (defScope (inClass (topS 23) 9)) [] [] (meAd "Load" "__rmul__" g.K) fd
  d_Load___neg__ : ∃ fd, FunD g.K "__neg__" "Load.__neg__" (defArgs (inClass (topS 23) 12)) (defBody (inClass (topS 23) 12)) (defScope (inClass (topS 23) 12)) [] [] (meAd "Load" "__neg__" g.K) fd
  d_Load___bool__ : ∃ fd, FunD g.K "__bool__" "Load.__bool__" (defArgs (inClass (topS 23) 6)) (defBody (inClass (topS 23) 6)) (defScope (inClass (topS 23) 6)) [] [] (meAd "Load" "__bool__" g.K) fd
  d__law_one_right : ∃ fd, FunD g.K "_law_one_right" "_law_one_right" (defArgs (topS 34)) (defBody (topS 34)) (defScope (topS 34)) [] [] (glAd "_law_one_right" g.K) fd
  d_law : ∃ fd, FunD g.K "law" "law" (defArgs (topS 35)) (defBody (topS 35)) (defScope (topS 35)) [] [] (glAd "law" g.K) fd
  lt : TabsL g base (fsOf tf g.K)
theorem no_of {g : Gx} {n : Nat} {m : Str} (hn : g.nA = n) (ha : ∀ i, g.an i = anT i) (h : ∀ i, i < n → anT i ≠ m) : ∀ i, i < g.nA → g.an i ≠ m := fun i hi => by rw [ha]; exact h i (by rw [← hn]; exact hi)
section
variable {g : Gx} {P : Program} {w : World} {base : Heap}
theorem f_Load_own_forward (T : Tp g base) : FldOk g [32] 1 "own_forward" := ⟨by rw [T.nA]; decide, by rw [T.an]; rfl, fun c h => by
  rcases mem1 h with rfl <;> first | exact ⟨T.c_Load, T.n_Load_own_forward⟩⟩
theorem f_Load_own_backward (T : Tp g base) : FldOk g [32] 2 "own_backward" := ⟨by rw [T.nA]; decide, by rw [T.an]; rfl, fun c h => by
  rcases mem1 h with rfl <;> first | exact ⟨T.c_Load, T.n_Load_own_backward⟩⟩
/-! ### _law_folded -/
abbrev s__law_folded : Stmt := (topS 26)
theorem sc__law_folded : FnScope ["_law_script", "_law_found", "_law_n", "_law_cell", "_law_at"] ["_law_script"] (defScope s__law_folded) := ⟨rfl, rfl, rfl, by decide +kernel, rfl, by decide +kernel, by decide +kernel⟩
def t__law_folded : DS :=
  dSeq (dSet 1 (dMut (dLc (wRng1 (dCons (dC (.int 64)) dNil)) (dgN 2) dYes (d2 fAdd (dC (.int 17)) (dVar 2)) [2])))
    (dSeq (dFgt [2, 3, 4] [] (dFor (wEnum (dCons (dVar 0) dNil)) (dgT 2 (dgsC (dgN 2) (dgsC (dgN 3) dgsN))) (dFgtB [2, 3, 4] (dSeq (dSet 4 (d2 fMod (dBi bInt (dCons (dVar 2) dNil)) (dC (.int 64))))
    (dAsg (d2 fMod (dBi bInt (dCons (d2 fAdd (d2 fMul (d2 fIx (dVar 1) (dVar 4)) (dC (.int 48271))) (dVar 3)) dNil)) (dC (.int 2147483647))) (dgQ (dLPut (dVar 1) (dVar 4))))))))
    (dSeq (dFgt [2] [] (dFor (wRng2 (dCons (dC (.int 1)) (dCons (dC (.int 64)) dNil))) (dgN 2) (dFgtB [2] (dAsg (d2 fMod (dBi bInt (dCons (d2 fAdd (d2 fIx (dVar 1) (dVar 2)) (d2 fMul (d2 fIx (dVar 1) (d2 fSub (dVar 2) (dC (.int 1)))) (dC (.int 16807)))) dNil)) (dC (.int 2147483647))) (dgQ (dLPut (dVar 1) (dVar 2)))))))
    (dRet (dFz (dVar 1)))))
def w__law_folded : DFn := dGc fun ds S k E => ds.length = 1 ∧ dBody 5 t__law_folded ds S k E
theorem b__law_folded (T : Tp g base) {f : Addr} : BodyD g P w base 0 ["_law_script", "_law_found", "_law_n", "_law_cell", "_law_at"] "_law_folded" (defScope s__law_folded) (defBody s__law_folded) f t__law_folded := by
  intro cdv A outer s H E hr hgd e
  have C := cxt_of (g := g) (P := P) (w := w) (base := base) (N := ["_law_script", "_law_found", "_law_n", "_law_cell", "_law_at"]) (qual := "_law_folded") (scope := defScope s__law_folded) (f := f) (cd := cdv) (outer := outer) (s := s) (H := H) (E := E) (e := e) hgd
  exact dss_cons (ds_setLcM (i := 1) (own := [("_law_n", 2)]) C sc__law_folded.nd rfl rfl (sw_true rfl rfl rfl (by decide +kernel)) (di_rng1 C rfl T.m_range (da_cons de_int da_nil)) ⟨blkOk_by (by rfl), fun _ _ _ _ _ e1 => dw_name sc__law_folded.nd rfl (Or.inl rfl) (by decide), fun _ _ _ _ _ e1 => dts_nil, fun _ _ _ _ _ e1 => de_add de_int (de_var (pv 2))⟩)
    (dss_cons (ds_fgt (ds_for C (passes_of rfl) (di_enum C rfl T.m_enumerate (da_cons (de_var (pv 0)) da_nil)) (dg_tup C (dgs_cons (dg_name sc__law_folded.nd rfl (Or.inl rfl)) (dgs_cons (dg_name sc__law_folded.nd rfl (Or.inl rfl)) dgs_nil))) (dss_fgt (dss_cons (ds_set (i := 4) sc__law_folded.nd rfl (Or.inl rfl) (de_mod (de_ty C call_int1 ok_int rfl T.m_int PyProof.Rows.boot_int (da_cons (de_var (pv 2)) da_nil)) de_int))
    (dss_one (ds_asg (de_mod (de_ty C call_int1 ok_int rfl T.m_int PyProof.Rows.boot_int (da_cons (de_add (de_mul (de_ix C (de_var (pv 1)) (de_var (pv 4))) de_int) (de_var (pv 3))) da_nil)) de_int) (dg_lput (de_var (pv 1)) (de_var (pv 4)))))))))
    (dss_cons (ds_fgt (ds_for C (passes_of rfl) (di_rng2 C rfl T.m_range (da_cons de_int (da_cons de_int da_nil))) (dg_name sc__law_folded.nd rfl (Or.inl rfl)) (dss_fgt (dss_one (ds_asg (de_mod (de_ty C call_int1 ok_int rfl T.m_int PyProof.Rows.boot_int (da_cons (de_add (de_ix C (de_var (pv 1)) (de_var (pv 2))) (de_mul (de_ix C (de_var (pv 1)) (de_sub (de_var (pv 2)) de_int)) de_int)) da_nil)) de_int) (dg_lput (de_var (pv 1)) (de_var (pv 2))))))))
    (dss_one (ds_ret (de_fz (de_var (pv 1)))))))
theorem F__law_folded (T : Tp g base) {f : Addr} {fd : FuncData} (F : FunD g.K "_law_folded" "_law_folded" (defArgs s__law_folded) (defBody s__law_folded) (defScope s__law_folded) [] [] f fd) : DFnR g P w base 1 f w__law_folded :=
  gcF (fn_d F sc__law_folded (b__law_folded T) fun _ _ _ _ _ _ us hl => match us, hl with | [_], _ => rfl)
/-! ### _law_begun -/
abbrev s__law_begun : Stmt := (topS 28)
theorem sc__law_begun : FnScope ["_law_script", "_law_m", "_law_cell"] ["_law_script"] (defScope s__law_begun) := ⟨rfl, rfl, rfl, by decide +kernel, rfl, by decide +kernel, by decide +kernel⟩
def t__law_begun : DS :=
  dSeq (dSet 1 (dDsp [(.inr "cells", dCall w__law_folded (dCons (dVar 0) dNil)), (.inr "great", dMut (dSz dNil)), (.inr "spot", dC (.int 0))]))
    (dSeq (dDPut (dVar 1) (dC (.str "great")) (dMut (dLc (wList (dVar 0)) (dgN 2) dYes (dIfE (dTst (d2 fGe (dVar 2) (d2 fPow (dC (.int 10)) (dC (.int 18))))) (dVar 2) (dC (.int 0))) [2])))
    (dRet (dVar 1)))
def w__law_begun : DFn := dGc fun ds S k E => ds.length = 1 ∧ dBody 3 t__law_begun ds S k E
theorem b__law_begun (T : Tp g base) {f : Addr} : BodyD g P w base 1 ["_law_script", "_law_m", "_law_cell"] "_law_begun" (defScope s__law_begun) (defBody s__law_begun) f t__law_begun := by
  intro cdv A outer s H E hr hgd e
  have C := cxt_of (g := g) (P := P) (w := w) (base := base) (N := ["_law_script", "_law_m", "_law_cell"]) (qual := "_law_begun") (scope := defScope s__law_begun) (f := f) (cd := cdv) (outer := outer) (s := s) (H := H) (E := E) (e := e) hgd
  exact dss_cons (ds_set (i := 1) sc__law_begun.nd rfl (Or.inl rfl) (de_dsp (prs := [(.inr "cells", dCall w__law_folded (dCons (dVar 0) dNil)), (.inr "great", dMut (dSz dNil)), (.inr "spot", dC (.int 0))]) (pps_cons pe_str (de_any fun _ => de_call (C.en) ((F__law_folded T (T.d__law_folded).choose_spec).mono (by decide)) hr rfl T.m__law_folded (T.d__law_folded).choose_spec.kp (da_cons (de_var (pv 0)) da_nil)) (pps_cons pe_str (de_any fun _ => de_mut (dm_lst da_nil)) (pps_cons pe_str (de_any fun _ => de_int) pps_nil))) rfl (by decide) rfl rfl (by decide) (by decide) (by decide)))
    (dss_cons (ds_dput (units1 hr.units) (de_var (pv 1)) de_str (de_mut (dm_lc (own := [("_law_cell", 2)]) C sc__law_begun.nd (di_list C (de_var (pv 0))) ⟨blkOk_by (by rfl), fun _ _ _ _ _ e1 => dw_name sc__law_begun.nd rfl (Or.inl rfl) (by decide), fun _ _ _ _ _ e1 => dts_nil, fun _ _ _ _ _ e1 => de_if (dt_ge (de_var (pv 2)) (de_pow de_int de_int)) (de_var (pv 2)) de_int⟩)))
    (dss_one (ds_ret (de_var (pv 1)))))
theorem F__law_begun (T : Tp g base) {f : Addr} {fd : FuncData} (F : FunD g.K "_law_begun" "_law_begun" (defArgs s__law_begun) (defBody s__law_begun) (defScope s__law_begun) [] [] f fd) : DFnR g P w base 2 f w__law_begun :=
  gcF (fn_d F sc__law_begun (b__law_begun T) fun _ _ _ _ _ _ us hl => match us, hl with | [_], _ => rfl)
/-! ### _law_mixed -/
abbrev s__law_mixed : Stmt := (topS 25)
theorem sc__law_mixed : FnScope ["_law_cell", "_law_n", "_law_turned"] ["_law_cell", "_law_n"] (defScope s__law_mixed) := ⟨rfl, rfl, rfl, by decide +kernel, rfl, by decide +kernel, by decide +kernel⟩
def t__law_mixed : DS :=
  dSeq (dSet 2 (d2 fAdd (d2 fAdd (d2 fMod (dBi bInt (dCons (d2 fMul (d2 fMul (dVar 0) (d2 fAdd (dC (.int 1)) (d2 fMul (dC (.int 2)) (dVar 1)))) (dC (.int 48271))) dNil)) (dC (.int 2147483647))) (d2 fMul (d2 fMul (dC (.int 7919)) (dVar 1)) (dVar 1))) (d2 fMul (dC (.int 104729)) (dVar 1))))
    (dRet (d2 fDiv (d2 fMod (dBi bInt (dCons (d2 fMul (dVar 2) (dC (.int 69621))) dNil)) (dC (.int 2147483629))) (dC (.int 7))))
def w__law_mixed : DFn := fun ds S k E => ds.length = 2 ∧ dBody 3 t__law_mixed ds S k E
theorem b__law_mixed (T : Tp g base) {f : Addr} : BodyD g P w base 0 ["_law_cell", "_law_n", "_law_turned"] "_law_mixed" (defScope s__law_mixed) (defBody s__law_mixed) f t__law_mixed := by
  intro cdv A outer s H E hr hgd e
  have C := cxt_of (g := g) (P := P) (w := w) (base := base) (N := ["_law_cell", "_law_n", "_law_turned"]) (qual := "_law_mixed") (scope := defScope s__law_mixed) (f := f) (cd := cdv) (outer := outer) (s := s) (H := H) (E := E) (e := e) hgd
  exact dss_cons (ds_set (i := 2) sc__law_mixed.nd rfl (Or.inl rfl) (de_add (de_add (de_mod (de_ty C call_int1 ok_int rfl T.m_int PyProof.Rows.boot_int (da_cons (de_mul (de_mul (de_var (pv 0)) (de_add de_int (de_mul de_int (de_var (pv 1))))) de_int) da_nil)) de_int) (de_mul (de_mul de_int (de_var (pv 1))) (de_var (pv 1)))) (de_mul de_int (de_var (pv 1)))))
    (dss_one (ds_ret (de_div (de_mod (de_ty C call_int1 ok_int rfl T.m_int PyProof.Rows.boot_int (da_cons (de_mul (de_var (pv 2)) de_int) da_nil)) de_int) de_int)))
theorem F__law_mixed (T : Tp g base) {f : Addr} {fd : FuncData} (F : FunD g.K "_law_mixed" "_law_mixed" (defArgs s__law_mixed) (defBody s__law_mixed) (defScope s__law_mixed) [] [] f fd) : DFnR g P w base 1 f w__law_mixed :=
  (fn_d F sc__law_mixed (b__law_mixed T) fun _ _ _ _ _ _ us hl => match us, hl with | [_, _], _ => rfl)
/-! ### _law_draw -/
abbrev s__law_draw : Stmt := (topS 27)
theorem sc__law_draw : FnScope ["_law_m", "_law_top", "_law_n", "_law_at", "_law_cell"] ["_law_m", "_law_top"] (defScope s__law_draw) := ⟨rfl, rfl, rfl, by decide +kernel, rfl, by decide +kernel, by decide +kernel⟩
def t__law_draw : DS :=
  dSeq (dSet 2 (d2 fDGet (dVar 0) (dC (.str "spot"))))
    (dSeq (dDPut (dVar 0) (dC (.str "spot")) (d2 fAdd (dVar 2) (dC (.int 1))))
    (dSeq (dIf (dTst (d2 fNe (d2 fDGet (dVar 0) (dC (.str "great"))) (dFrz (dSz dNil)))) (dSeq (dSet 3 (d2 fMod (dBi bInt (dCons (dVar 2) dNil)) (dBi bLen (dCons (d2 fDGet (dVar 0) (dC (.str "great"))) dNil))))
    (dSeq (dSet 4 (d2 fIx (d2 fDGet (dVar 0) (dC (.str "great"))) (dVar 3)))
    (dIf (dTst (d2 fGt (dVar 4) (dC (.int 0)))) (dSeq (dAsg (d2 fDiv (dVar 4) (dVar 1)) (dgQ (dLPut (d2 fDGet (dVar 0) (dC (.str "great"))) (dVar 3))))
    (dRet (d2 fMod (dBi bInt (dCons (dVar 4) dNil)) (dVar 1)))) dSkip))) dSkip)
    (dSeq (dSet 4 (d2 fIx (d2 fDGet (dVar 0) (dC (.str "cells"))) (d2 fMod (dBi bInt (dCons (dVar 2) dNil)) (dC (.int 64)))))
    (dRet (d2 fMod (dBi bInt (dCons (dCall w__law_mixed (dCons (dCall w__law_mixed (dCons (d2 fAdd (dVar 4) (d2 fMul (dC (.int 31)) (d2 fDiv (dVar 2) (dC (.int 64))))) (dCons (dVar 2) dNil))) (dCons (d2 fAdd (dVar 2) (dC (.int 7))) dNil))) dNil)) (dVar 1))))))
def w__law_draw : DFn := dGc fun ds S k E => ds.length = 2 ∧ dBody 5 t__law_draw ds S k E
theorem b__law_draw (T : Tp g base) {f : Addr} : BodyD g P w base 1 ["_law_m", "_law_top", "_law_n", "_law_at", "_law_cell"] "_law_draw" (defScope s__law_draw) (defBody s__law_draw) f t__law_draw := by
  intro cdv A outer s H E hr hgd e
  have C := cxt_of (g := g) (P := P) (w := w) (base := base) (N := ["_law_m", "_law_top", "_law_n", "_law_at", "_law_cell"]) (qual := "_law_draw") (scope := defScope s__law_draw) (f := f) (cd := cdv) (outer := outer) (s := s) (H := H) (E := E) (e := e) hgd
  exact dss_cons (ds_set (i := 2) sc__law_draw.nd rfl (Or.inl rfl) (de_dget (units1 hr.units) (de_var (pv 0)) de_str))
    (dss_cons (ds_dput (units1 hr.units) (de_var (pv 0)) de_str (de_add (de_var (pv 2)) de_int))
    (dss_cons (ds_if (dt_ne C hr.units (de_dget (units1 hr.units) (de_var (pv 0)) de_str) (de_frz (dm_lst da_nil))) (dss_cons (ds_set (i := 3) sc__law_draw.nd rfl (Or.inl rfl) (de_mod (de_ty C call_int1 ok_int rfl T.m_int PyProof.Rows.boot_int (da_cons (de_var (pv 2)) da_nil)) (de_bi C (call_lenX C) ok_len rfl T.m_len boot_len (da_cons (de_dget (units1 hr.units) (de_var (pv 0)) de_str) da_nil))))
    (dss_cons (ds_set (i := 4) sc__law_draw.nd rfl (Or.inl rfl) (de_ix C (de_dget (units1 hr.units) (de_var (pv 0)) de_str) (de_var (pv 3))))
    (dss_one (ds_if (dt_gt (de_var (pv 4)) de_int) (dss_cons (ds_asg (de_div (de_var (pv 4)) (de_var (pv 1))) (dg_lput (de_dget (units1 hr.units) (de_var (pv 0)) de_str) (de_var (pv 3))))
    (dss_one (ds_ret (de_mod (de_ty C call_int1 ok_int rfl T.m_int PyProof.Rows.boot_int (da_cons (de_var (pv 4)) da_nil)) (de_var (pv 1)))))) dss_nil)))) dss_nil)
    (dss_cons (ds_set (i := 4) sc__law_draw.nd rfl (Or.inl rfl) (de_ix C (de_dget (units1 hr.units) (de_var (pv 0)) de_str) (de_mod (de_ty C call_int1 ok_int rfl T.m_int PyProof.Rows.boot_int (da_cons (de_var (pv 2)) da_nil)) de_int)))
    (dss_one (ds_ret (de_mod (de_ty C call_int1 ok_int rfl T.m_int PyProof.Rows.boot_int (da_cons (de_call C ((F__law_mixed T (T.d__law_mixed).choose_spec).mono (by decide)) hr rfl T.m__law_mixed (T.d__law_mixed).choose_spec.kp (da_cons (de_call C ((F__law_mixed T (T.d__law_mixed).choose_spec).mono (by decide)) hr rfl T.m__law_mixed (T.d__law_mixed).choose_spec.kp (da_cons (de_add (de_var (pv 4)) (de_mul de_int (de_div (de_var (pv 2)) de_int))) (da_cons (de_var (pv 2)) da_nil))) (da_cons (de_add (de_var (pv 2)) de_int) da_nil))) da_nil)) (de_var (pv 1))))))))
theorem F__law_draw (T : Tp g base) {f : Addr} {fd : FuncData} (F : FunD g.K "_law_draw" "_law_draw" (defArgs s__law_draw) (defBody s__law_draw) (defScope s__law_draw) [] [] f fd) : DFnR g P w base 2 f w__law_draw :=
  gcF (fn_d F sc__law_draw (b__law_draw T) fun _ _ _ _ _ _ us hl => match us, hl with | [_, _], _ => rfl)
/-! ### _law_pick -/
abbrev s__law_pick : Stmt := (topS 29)
theorem sc__law_pick : FnScope ["_law_m", "_law_some"] ["_law_m", "_law_some"] (defScope s__law_pick) := ⟨rfl, rfl, rfl, by decide +kernel, rfl, by decide +kernel, by decide +kernel⟩
def t__law_pick : DS :=
  dRet (d2 fIx (dVar 1) (dCall w__law_draw (dCons (dVar 0) (dCons (dBi bLen (dCons (dVar 1) dNil)) dNil))))
def w__law_pick : DFn := fun ds S k E => ds.length = 2 ∧ dBody 2 t__law_pick ds S k E
theorem b__law_pick (T : Tp g base) {f : Addr} : BodyD g P w base 2 ["_law_m", "_law_some"] "_law_pick" (defScope s__law_pick) (defBody s__law_pick) f t__law_pick := by
  intro cdv A outer s H E hr hgd e
  have C := cxt_of (g := g) (P := P) (w := w) (base := base) (N := ["_law_m", "_law_some"]) (qual := "_law_pick") (scope := defScope s__law_pick) (f := f) (cd := cdv) (outer := outer) (s := s) (H := H) (E := E) (e := e) hgd
  exact dss_one (ds_ret (de_ix C (de_var (pv 1)) (de_call C ((F__law_draw T (T.d__law_draw).choose_spec).mono (by decide)) hr rfl T.m__law_draw (T.d__law_draw).choose_spec.kp (da_cons (de_var (pv 0)) (da_cons (de_bi C (call_lenX C) ok_len rfl T.m_len boot_len (da_cons (de_var (pv 1)) da_nil)) da_nil)))))
theorem F__law_pick (T : Tp g base) {f : Addr} {fd : FuncData} (F : FunD g.K "_law_pick" "_law_pick" (defArgs s__law_pick) (defBody s__law_pick) (defScope s__law_pick) [] [] f fd) : DFnR g P w base 3 f w__law_pick :=
  (fn_d F sc__law_pick (b__law_pick T) fun _ _ _ _ _ _ us hl => match us, hl with | [_, _], _ => rfl)
/-! ### _law_near -/
abbrev s__law_near : Stmt := (topS 30)
theorem sc__law_near : FnScope ["_law_m"] ["_law_m"] (defScope s__law_near) := ⟨rfl, rfl, rfl, by decide +kernel, rfl, by decide +kernel, by decide +kernel⟩
def t__law_near : DS :=
  dRet (dCall w__law_pick (dCons (dVar 0) (dCons (dFrz (dSz (dCons (dC (.int 0)) (dCons (dC (.int 0)) (dCons (dC (.int 1)) (dCons (dC (.int 2)) (dCons (dC (.int 599)) (dCons (dC (.int 600)) (dCons (dC (.int 601)) (dCons (dC (.int 1199)) (dCons (dC (.int 1200)) (dCons (dCall w__law_draw (dCons (dVar 0) (dCons (dC (.int 1201)) dNil))) (dCons (dCall w__law_draw (dCons (dVar 0) (dCons (dC (.int 30)) dNil))) dNil))))))))))))) dNil)))
def w__law_near : DFn := fun ds S k E => ds.length = 1 ∧ dBody 1 t__law_near ds S k E
theorem b__law_near (T : Tp g base) {f : Addr} : BodyD g P w base 3 ["_law_m"] "_law_near" (defScope s__law_near) (defBody s__law_near) f t__law_near := by
  intro cdv A outer s H E hr hgd e
  have C := cxt_of (g := g) (P := P) (w := w) (base := base) (N := ["_law_m"]) (qual := "_law_near") (scope := defScope s__law_near) (f := f) (cd := cdv) (outer := outer) (s := s) (H := H) (E := E) (e := e) hgd
  exact dss_one (ds_ret (de_call C ((F__law_pick T (T.d__law_pick).choose_spec).mono (by decide)) hr rfl T.m__law_pick (T.d__law_pick).choose_spec.kp (da_cons (de_var (pv 0)) (da_cons (de_frz (dm_lst (da_cons de_int (da_cons de_int (da_cons de_int (da_cons de_int (da_cons de_int (da_cons de_int (da_cons de_int (da_cons de_int (da_cons de_int (da_cons (de_call C ((F__law_draw T (T.d__law_draw).choose_spec).mono (by decide)) hr rfl T.m__law_draw (T.d__law_draw).choose_spec.kp (da_cons (de_var (pv 0)) (da_cons de_int da_nil))) (da_cons (de_call C ((F__law_draw T (T.d__law_draw).choose_spec).mono (by decide)) hr rfl T.m__law_draw (T.d__law_draw).choose_spec.kp (da_cons (de_var (pv 0)) (da_cons de_int da_nil))) da_nil))))))))))))) da_nil))))
theorem F__law_near (T : Tp g base) {f : Addr} {fd : FuncData} (F : FunD g.K "_law_near" "_law_near" (defArgs s__law_near) (defBody s__law_near) (defScope s__law_near) [] [] f fd) : DFnR g P w base 4 f w__law_near :=
  (fn_d F sc__law_near (b__law_near T) fun _ _ _ _ _ _ us hl => match us, hl with | [_], _ => rfl)
def tab_is_is_from_int : TyD → Option Bool
  | .b "int" => some true
  | _ => none
theorem is_is_from_int (T : Tp g base) : IsiOk g tab_is_is_from_int (.type "int") := ⟨fun t b h => by
  unfold tab_is_is_from_int at h
  split at h
  · cases h; exact ⟨T.q_int_int, fun c z => nomatch z⟩
  · cases h⟩
def tab_is_is_from_bool : TyD → Option Bool
  | .b "int" => some false
  | _ => none
theorem is_is_from_bool (T : Tp g base) : IsiOk g tab_is_is_from_bool (.type "bool") := ⟨fun t b h => by
  unfold tab_is_is_from_bool at h
  split at h
  · cases h; exact ⟨T.q_int_bool, fun c z => nomatch z⟩
  · cases h⟩
/-! ### is_from -/
abbrev s_is_from : Stmt := (topS 10)
theorem sc_is_from : FnScope ["value", "least", "most"] ["value", "least", "most"] (defScope s_is_from) := ⟨rfl, rfl, rfl, by decide +kernel, rfl, by decide +kernel, by decide +kernel⟩
def t_is_from : DS :=
  dRet (dAndV (dIsi tab_is_is_from_int (dVar 0)) (dAndV (dNotV (dIsi tab_is_is_from_bool (dVar 0))) (dChn fLe fLe (dVar 1) (dVar 0) (dVar 2))))
def w_is_from : DFn := fun ds S k E => ds.length = 3 ∧ dBody 3 t_is_from ds S k E
theorem b_is_from (T : Tp g base) {f : Addr} : BodyD g P w base 0 ["value", "least", "most"] "is_from" (defScope s_is_from) (defBody s_is_from) f t_is_from := by
  intro cdv A outer s H E hr hgd e
  have C := cxt_of (g := g) (P := P) (w := w) (base := base) (N := ["value", "least", "most"]) (qual := "is_from") (scope := defScope s_is_from) (f := f) (cd := cdv) (outer := outer) (s := s) (H := H) (E := E) (e := e) hgd
  exact dss_one (ds_ret (de_and (de_isiB C (is_is_from_int T) rfl T.m_isinstance rfl T.m_int PyProof.Rows.boot_int (de_var (pv 0))) (de_and (de_not (de_isiB C (is_is_from_bool T) rfl T.m_isinstance rfl T.m_bool PyProof.Rows.boot_bool (de_var (pv 0)))) (de_one (de_chn op_le ok_le op_le ok_le (de_var (pv 1)) (de_var (pv 0)) (de_var (pv 2)))))))
theorem F_is_from (T : Tp g base) {f : Addr} {fd : FuncData} (F : FunD g.K "is_from" "is_from" (defArgs s_is_from) (defBody s_is_from) (defScope s_is_from) [] [] f fd) : DFnR g P w base 1 f w_is_from :=
  (fn_d F sc_is_from (b_is_from T) fun _ _ _ _ _ _ us hl => match us, hl with | [_, _, _], _ => rfl)
abbrev s_InvalidLoad___init__ : Stmt := (inClass (topS 6) 0)
theorem sc_InvalidLoad___init__ : FnScope ["self", "value"] ["self", "value"] (defScope s_InvalidLoad___init__) := ⟨rfl, rfl, rfl, by decide +kernel, rfl, by decide +kernel, by decide +kernel⟩
theorem xi_InvalidLoad (T : Tp g base) : XiOk g P w base 1 4 [22] :=
  xiOk1 (T.d_InvalidLoad___init__).choose_spec sc_InvalidLoad___init__ rfl rfl rfl T.m_SweepError T.xb T.x_InvalidLoad T.h_InvalidLoad___init__ T.n_InvalidLoad_value (by rw [T.an]; rfl) (by rw [T.nA]; decide) (fun _ _ _ _ _ _ => ⟨_, rfl⟩) fun _ _ _ _ _ _ us hl => match us, hl with | [_, _], _ => rfl
/-! ### Load.__init__ -/
abbrev s_Load___init__ : Stmt := (inClass (topS 23) 1)
theorem sc_Load___init__ : FnScope ["self", "forward", "backward", "value"] ["self", "forward", "backward"] (defScope s_Load___init__) := ⟨rfl, rfl, rfl, by decide +kernel, rfl, by decide +kernel, by decide +kernel⟩
def t_Load___init__ : DS :=
  dSeq (dFgt [3] [] (dFor (wTup (dTup (dCons (dVar 1) (dCons (dVar 2) dNil)))) (dgN 3) (dFgtB [3] (dIf (dNot (dTst (dCall w_is_from (dCons (dVar 3) (dCons (dC (.int 0)) (dCons (dC (.int 1200)) dNil)))))) (dRaise (dMkE 4 [22] (dCons (dVar 3) dNil))) dSkip))))
    (dSeq (dPutF [32] 1 (dVar 0) (dVar 1))
    (dPutF [32] 2 (dVar 0) (dVar 2)))
def w_Load___init__ : DFn := fun ds S k E => ds.length = 3 ∧ dBody 4 t_Load___init__ ds S k E
theorem b_Load___init__ (T : Tp g base) {f : Addr} : BodyD g P w base 2 ["self", "forward", "backward", "value"] "Load.__init__" (defScope s_Load___init__) (defBody s_Load___init__) f t_Load___init__ := by
  intro cdv A outer s H E hr hgd e
  have C := cxt_of (g := g) (P := P) (w := w) (base := base) (N := ["self", "forward", "backward", "value"]) (qual := "Load.__init__") (scope := defScope s_Load___init__) (f := f) (cd := cdv) (outer := outer) (s := s) (H := H) (E := E) (e := e) hgd
  exact dss_cons (ds_fgt (ds_for C (passes_of rfl) (di_tup C (de_tup (da_cons (de_var (pv 1)) (da_cons (de_var (pv 2)) da_nil)))) (dg_name sc_Load___init__.nd rfl (Or.inl rfl)) (dss_fgt (dss_one (ds_if (dt_not (dt_val (de_call C ((F_is_from T (T.d_is_from).choose_spec).mono (by decide)) hr rfl T.m_is_from (T.d_is_from).choose_spec.kp (da_cons (de_var (pv 3)) (da_cons de_int (da_cons (de_gint C rfl T.i_MOST_LOAD) da_nil)))))) (dss_one (ds_raise C (pmk_x C (xi_InvalidLoad T) (by simp) (by decide) (hr.mono (by decide)) rfl T.m_InvalidLoad (da_cons (de_var (pv 3)) da_nil)))) dss_nil)))))
    (dss_cons (ds_fld C (f_Load_own_forward T) (de_var (pv 0)) (de_var (pv 1)))
    (dss_one (ds_fld C (f_Load_own_backward T) (de_var (pv 0)) (de_var (pv 2)))))
theorem F_Load___init__ (T : Tp g base) {f : Addr} {fd : FuncData} (F : FunD g.K "__init__" "Load.__init__" (defArgs s_Load___init__) (defBody s_Load___init__) (defScope s_Load___init__) [] [] f fd) : DFnR g P w base 3 f w_Load___init__ :=
  (fn_d F sc_Load___init__ (b_Load___init__ T) fun _ _ _ _ _ _ us hl => match us, hl with | [_, _, _], _ => rfl)
/-! ### _law_due -/
abbrev s__law_due : Stmt := (topS 32)
theorem sc__law_due : FnScope ["_law_a", "_law_b"] ["_law_a", "_law_b"] (defScope s__law_due) := ⟨rfl, rfl, rfl, by decide +kernel, rfl, by decide +kernel, by decide +kernel⟩
def t__law_due : DS :=
  dRet (dIfE (dTst (d2 fLe (dBi bMax2 (dCons (dVar 0) (dCons (dVar 1) dNil))) (dC (.int 1200)))) (dTup (dCons (dVar 0) (dCons (dVar 1) dNil))) (dTup (dCons (dC (.str "great")) (dCons (dC (.int 1200)) dNil))))
def w__law_due : DFn := fun ds S k E => ds.length = 2 ∧ dBody 2 t__law_due ds S k E
theorem b__law_due (T : Tp g base) {f : Addr} : BodyD g P w base 0 ["_law_a", "_law_b"] "_law_due" (defScope s__law_due) (defBody s__law_due) f t__law_due := by
  intro cdv A outer s H E hr hgd e
  have C := cxt_of (g := g) (P := P) (w := w) (base := base) (N := ["_law_a", "_law_b"]) (qual := "_law_due") (scope := defScope s__law_due) (f := f) (cd := cdv) (outer := outer) (s := s) (H := H) (E := E) (e := e) hgd
  exact dss_one (ds_ret (de_if (dt_le (de_bi C (call_max2 C.calm) ok_max2 rfl T.m_max PyProof.Rows.boot_max (da_cons (de_var (pv 0)) (da_cons (de_var (pv 1)) da_nil))) de_int) (de_tup (da_cons (de_var (pv 0)) (da_cons (de_var (pv 1)) da_nil))) (de_tup (da_cons de_str (da_cons de_int da_nil)))))
theorem F__law_due (T : Tp g base) {f : Addr} {fd : FuncData} (F : FunD g.K "_law_due" "_law_due" (defArgs s__law_due) (defBody s__law_due) (defScope s__law_due) [] [] f fd) : DFnR g P w base 1 f w__law_due :=
  (fn_d F sc__law_due (b__law_due T) fun _ _ _ _ _ _ us hl => match us, hl with | [_, _], _ => rfl)
def tab_ex_SweepError : TabH := fun c => match c with | 3 => some true | 1 => some true | 2 => some true | 11 => some true | 4 => some true | _ => none
theorem ex_SweepError (T : Tp g base) : ExmOk g tab_ex_SweepError 0 := ⟨fun c b h => by
  unfold tab_ex_SweepError at h
  split at h
  · cases h; exact T.y_InvalidSize_SweepError
  · cases h; exact T.y_InvalidRow_SweepError
  · cases h; exact T.y_InvalidPlace_SweepError
  · cases h; exact T.y_LimitExceeded_SweepError
  · cases h; exact T.y_InvalidLoad_SweepError
  · cases h⟩
def tab_is__law_told_Load : TyD → Option Bool
  | .own 32 => some true
  | _ => none
theorem is__law_told_Load (T : Tp g base) : IsiOk g tab_is__law_told_Load (.ref (g.ca 32)) := ⟨fun t b h => by
  unfold tab_is__law_told_Load at h
  split at h
  · cases h; exact ⟨T.q_Load_Load, fun c z => by cases z; exact T.j_Load⟩
  · cases h⟩
/-! ### Load.forward -/
abbrev s_Load_forward : Stmt := (inClass (topS 23) 2)
theorem sc_Load_forward : FnScope ["self"] ["self"] (defScope s_Load_forward) := ⟨rfl, rfl, rfl, by decide +kernel, rfl, by decide +kernel, by decide +kernel⟩
def t_Load_forward : DS :=
  dRet (dFld [32] 1 (dVar 0))
def w_Load_forward : DFn := fun ds S k E => ds.length = 1 ∧ dBody 1 t_Load_forward ds S k E
theorem b_Load_forward (T : Tp g base) {f : Addr} : BodyD g P w base 0 ["self"] "Load.forward" (defScope s_Load_forward) (defBody s_Load_forward) f t_Load_forward := by
  intro cdv A outer s H E hr hgd e
  have C := cxt_of (g := g) (P := P) (w := w) (base := base) (N := ["self"]) (qual := "Load.forward") (scope := defScope s_Load_forward) (f := f) (cd := cdv) (outer := outer) (s := s) (H := H) (E := E) (e := e) hgd
  exact dss_one (ds_ret (de_fld C (f_Load_own_forward T) (de_var (pv 0))))
theorem F_Load_forward (T : Tp g base) {f : Addr} {fd : FuncData} (F : FunD g.K "forward" "Load.forward" (defArgs s_Load_forward) (defBody s_Load_forward) (defScope s_Load_forward) [] [] f fd) : DFnR g P w base 1 f w_Load_forward :=
  (fn_d F sc_Load_forward (b_Load_forward T) fun _ _ _ _ _ _ us hl => match us, hl with | [_], _ => rfl)
theorem pr_Load_forward (T : Tp g base) {k : Nat} (hl : 1 ≤ k) : PropOk g P w base k "forward" [(32, w_Load_forward)] :=
  .cons ⟨_, _, T.c_Load, T.p_Load_forward, (F_Load_forward T (T.d_Load_forward).choose_spec).mono (Nat.le_trans (by decide) hl)⟩ (.nil)
/-! ### Load.backward -/
abbrev s_Load_backward : Stmt := (inClass (topS 23) 3)
theorem sc_Load_backward : FnScope ["self"] ["self"] (defScope s_Load_backward) := ⟨rfl, rfl, rfl, by decide +kernel, rfl, by decide +kernel, by decide +kernel⟩
def t_Load_backward : DS :=
  dRet (dFld [32] 2 (dVar 0))
def w_Load_backward : DFn := fun ds S k E => ds.length = 1 ∧ dBody 1 t_Load_backward ds S k E
theorem b_Load_backward (T : Tp g base) {f : Addr} : BodyD g P w base 0 ["self"] "Load.backward" (defScope s_Load_backward) (defBody s_Load_backward) f t_Load_backward := by
  intro cdv A outer s H E hr hgd e
  have C := cxt_of (g := g) (P := P) (w := w) (base := base) (N := ["self"]) (qual := "Load.backward") (scope := defScope s_Load_backward) (f := f) (cd := cdv) (outer := outer) (s := s) (H := H) (E := E) (e := e) hgd
  exact dss_one (ds_ret (de_fld C (f_Load_own_backward T) (de_var (pv 0))))
theorem F_Load_backward (T : Tp g base) {f : Addr} {fd : FuncData} (F : FunD g.K "backward" "Load.backward" (defArgs s_Load_backward) (defBody s_Load_backward) (defScope s_Load_backward) [] [] f fd) : DFnR g P w base 1 f w_Load_backward :=
  (fn_d F sc_Load_backward (b_Load_backward T) fun _ _ _ _ _ _ us hl => match us, hl with | [_], _ => rfl)
theorem pr_Load_backward (T : Tp g base) {k : Nat} (hl : 1 ≤ k) : PropOk g P w base k "backward" [(32, w_Load_backward)] :=
  .cons ⟨_, _, T.c_Load, T.p_Load_backward, (F_Load_backward T (T.d_Load_backward).choose_spec).mono (Nat.le_trans (by decide) hl)⟩ (.nil)
def tab_ix_LimitExceeded : TabH := fun c => match c with | 3 => some false | 1 => some false | 2 => some false | 11 => some true | 4 => some false | _ => none
theorem ix_LimitExceeded (T : Tp g base) : IxOk g tab_ix_LimitExceeded (.ref (g.ca 11)) := ⟨fun c b h => by
  unfold tab_ix_LimitExceeded at h
  split at h
  · cases h; exact ⟨T.q_InvalidSize_LimitExceeded, T.x_InvalidSize⟩
  · cases h; exact ⟨T.q_InvalidRow_LimitExceeded, T.x_InvalidRow⟩
  · cases h; exact ⟨T.q_InvalidPlace_LimitExceeded, T.x_InvalidPlace⟩
  · cases h; exact ⟨T.q_LimitExceeded_LimitExceeded, T.x_LimitExceeded⟩
  · cases h; exact ⟨T.q_InvalidLoad_LimitExceeded, T.x_InvalidLoad⟩
  · cases h⟩
theorem xf_limit (T : Tp g base) : XfOk g [11] 24 "limit" := ⟨by rw [T.nA]; decide, by rw [T.an]; rfl, fun c h => by
  simp only [List.mem_cons, List.not_mem_nil, or_false] at h
  rcases h with rfl <;> first | exact ⟨T.x_LimitExceeded, T.n_LimitExceeded_limit⟩⟩
/-! ### _law_told: is handed a lambda -/
abbrev s__law_told : Stmt := (topS 31)
theorem sc__law_told : FnScope ["_law_deed", "_law_caught", "_law_found", "error"] ["_law_deed"] (defScope s__law_told) := ⟨rfl, rfl, rfl, by decide +kernel, rfl, by decide +kernel, by decide +kernel⟩
def t__law_told (fv : Addr) (wr : DFn) : DS :=
  dSeq (dAsg (dTup (dCons (dC .non) (dCons (dC .non) dNil))) (dgQ (dgT 2 (dgsC (dgN 1) (dgsC (dgN 2) dgsN)))))
    (dSeq (dTry (dSet 2 (dAct 0 fv wr)) [(tab_ex_SweepError, some 3, dSet 1 (dVar 3))])
    (dSeq (dIf (dTst (d2 (fIsN false) (dVar 1) (dC .non))) (dRet (dIfE (dTst (dIsi tab_is__law_told_Load (dVar 2))) (dTup (dCons (dProp [(32, w_Load_forward)] (dVar 2)) (dCons (dProp [(32, w_Load_backward)] (dVar 2)) dNil))) (dTup (dCons (dC (.str "no load")) (dCons (dC .non) dNil))))) dSkip)
    (dRet (dIfE (dTst (dIsX tab_ix_LimitExceeded (dVar 1))) (dTup (dCons (dC (.str "great")) (dCons (dXfl [11] 24 (dVar 1)) dNil))) (dTup (dCons (dC (.str "else")) (dCons (dC .non) dNil)))))))
theorem b__law_told (T : Tp g base) {f : Addr} : BodyH g P w base 2 ["_law_deed", "_law_caught", "_law_found", "error"] "_law_told" (defScope s__law_told) (defBody s__law_told) f "_law_deed" t__law_told := by
  intro cdv A outer s H E fv wr hr hgd e hact
  have C := cxt_of (g := g) (P := P) (w := w) (base := base) (N := ["_law_deed", "_law_caught", "_law_found", "error"]) (qual := "_law_told") (scope := defScope s__law_told) (f := f) (cd := cdv) (outer := outer) (s := s) (H := H) (E := E) (e := e) hgd
  exact dss_cons (ds_asg (de_tup (da_cons de_non (da_cons de_non da_nil))) (dg_tup C (dgs_cons (dg_name sc__law_told.nd rfl (Or.inl rfl)) (dgs_cons (dg_name sc__law_told.nd rfl (Or.inl rfl)) dgs_nil))))
    (dss_cons (ds_try C rfl rfl rfl sc__law_told.nd (fun W1 n1 x1 C1 => dss_one (ds_set (i := 2) sc__law_told.nd rfl (Or.inl rfl) (hact _ _ _ _ _ C1))) (.named (i := 3) rfl rfl (⟨rfl, by decide, .inl T.m_SweepError⟩) (ex_SweepError T) (fun a9 p9 => dss_one (ds_set (i := 1) sc__law_told.nd rfl (Or.inl rfl) (de_var (pv 3)))) (.nil)))
    (dss_cons (ds_if (dt_isN (de_var (pv 1)) de_non) (dss_one (ds_ret (de_if (dt_val (de_isiC C (is__law_told_Load T) rfl T.m_isinstance rfl T.m_Load (de_var (pv 2)))) (de_tup (da_cons (de_prop C (pr_Load_forward T (by decide)) hr (de_var (pv 2))) (da_cons (de_prop C (pr_Load_backward T (by decide)) hr (de_var (pv 2))) da_nil))) (de_tup (da_cons de_str (da_cons de_non da_nil)))))) dss_nil)
    (dss_one (ds_ret (de_if (dt_val (de_isX C (ix_LimitExceeded T) rfl T.m_isinstance rfl T.m_LimitExceeded (de_var (pv 1)))) (de_tup (da_cons de_str (da_cons (de_xfl C.K (xf_limit T) (de_var (pv 1))) da_nil))) (de_tup (da_cons de_str (da_cons de_non da_nil))))))))
def tab_is_Load___add___Load : TyD → Option Bool
  | .own 32 => some true
  | _ => none
theorem is_Load___add___Load (T : Tp g base) : IsiOk g tab_is_Load___add___Load (.ref (g.ca 32)) := ⟨fun t b h => by
  unfold tab_is_Load___add___Load at h
  split at h
  · cases h; exact ⟨T.q_Load_Load, fun c z => by cases z; exact T.j_Load⟩
  · cases h⟩
abbrev s_LimitExceeded___init__ : Stmt := (inClass (topS 7) 0)
theorem sc_LimitExceeded___init__ : FnScope ["self", "limit"] ["self", "limit"] (defScope s_LimitExceeded___init__) := ⟨rfl, rfl, rfl, by decide +kernel, rfl, by decide +kernel, by decide +kernel⟩
theorem xi_LimitExceeded (T : Tp g base) : XiOk g P w base 1 11 [24] :=
  xiOk1 (T.d_LimitExceeded___init__).choose_spec sc_LimitExceeded___init__ rfl rfl rfl T.m_SweepError T.xb T.x_LimitExceeded T.h_LimitExceeded___init__ T.n_LimitExceeded_limit (by rw [T.an]; rfl) (by rw [T.nA]; decide) (fun _ _ _ _ _ _ => ⟨_, rfl⟩) fun _ _ _ _ _ _ us hl => match us, hl with | [_, _], _ => rfl
/-! ### checked_load -/
abbrev s_checked_load : Stmt := (topS 20)
theorem sc_checked_load : FnScope ["forward", "backward"] ["forward", "backward"] (defScope s_checked_load) := ⟨rfl, rfl, rfl, by decide +kernel, rfl, by decide +kernel, by decide +kernel⟩
def t_checked_load : DS :=
  dSeq (dIf (dOr (dTst (d2 fGt (dVar 0) (dC (.int 1200)))) (dTst (d2 fGt (dVar 1) (dC (.int 1200))))) (dRaise (dMkE 11 [24] (dCons (dC (.int 1200)) dNil))) dSkip)
    (dRet (dCall (dMk 32 true w_Load___init__) (dCons (dVar 0) (dCons (dVar 1) dNil))))
def w_checked_load : DFn := fun ds S k E => ds.length = 2 ∧ dBody 2 t_checked_load ds S k E
theorem b_checked_load (T : Tp g base) {f : Addr} : BodyD g P w base 4 ["forward", "backward"] "checked_load" (defScope s_checked_load) (defBody s_checked_load) f t_checked_load := by
  intro cdv A outer s H E hr hgd e
  have C := cxt_of (g := g) (P := P) (w := w) (base := base) (N := ["forward", "backward"]) (qual := "checked_load") (scope := defScope s_checked_load) (f := f) (cd := cdv) (outer := outer) (s := s) (H := H) (E := E) (e := e) hgd
  exact dss_cons (ds_if (PW.pt (dw_or (dt_gt (de_var (pv 0)) (de_gint C rfl T.i_MOST_LOAD)) (dw_or1 (dt_gt (de_var (pv 1)) (de_gint C rfl T.i_MOST_LOAD))))) (dss_one (ds_raise C (pmk_x C (xi_LimitExceeded T) (by simp) (by decide) (hr.mono (by decide)) rfl T.m_LimitExceeded (da_cons (de_gint C rfl T.i_MOST_LOAD) da_nil)))) dss_nil)
    (dss_one (ds_ret (de_make (imm := true) C T.k_Load ((F_Load___init__ T (T.d_Load___init__).choose_spec).mono (by decide)) hr rfl T.m_Load (da_cons (de_var (pv 0)) (da_cons (de_var (pv 1)) da_nil)))))
theorem F_checked_load (T : Tp g base) {f : Addr} {fd : FuncData} (F : FunD g.K "checked_load" "checked_load" (defArgs s_checked_load) (defBody s_checked_load) (defScope s_checked_load) [] [] f fd) : DFnR g P w base 5 f w_checked_load :=
  (fn_d F sc_checked_load (b_checked_load T) fun _ _ _ _ _ _ us hl => match us, hl with | [_, _], _ => rfl)
/-! ### Load.__add__ -/
abbrev s_Load___add__ : Stmt := (inClass (topS 23) 7)
theorem sc_Load___add__ : FnScope ["self", "other"] ["self", "other"] (defScope s_Load___add__) := ⟨rfl, rfl, rfl, by decide +kernel, rfl, by decide +kernel, by decide +kernel⟩
def t_Load___add__ : DS :=
  dSeq (dIf (dNot (dTst (dIsi tab_is_Load___add___Load (dVar 1)))) dNev dSkip)
    (dRet (dCall w_checked_load (dCons (d2 fAdd (dFld [32] 1 (dVar 0)) (dFld [32] 1 (dVar 1))) (dCons (d2 fAdd (dFld [32] 2 (dVar 0)) (dFld [32] 2 (dVar 1))) dNil))))
def w_Load___add__ : DFn := fun ds S k E => ds.length = 2 ∧ dBody 2 t_Load___add__ ds S k E
theorem b_Load___add__ (T : Tp g base) {f : Addr} : BodyD g P w base 5 ["self", "other"] "Load.__add__" (defScope s_Load___add__) (defBody s_Load___add__) f t_Load___add__ := by
  intro cdv A outer s H E hr hgd e
  have C := cxt_of (g := g) (P := P) (w := w) (base := base) (N := ["self", "other"]) (qual := "Load.__add__") (scope := defScope s_Load___add__) (f := f) (cd := cdv) (outer := outer) (s := s) (H := H) (E := E) (e := e) hgd
  exact dss_cons (ds_if (dt_not (dt_val (de_isiC C (is_Load___add___Load T) rfl T.m_isinstance rfl T.m_Load (de_var (pv 1))))) dss_never dss_nil)
    (dss_one (ds_ret (de_call C ((F_checked_load T (T.d_checked_load).choose_spec).mono (by decide)) hr rfl T.m_checked_load (T.d_checked_load).choose_spec.kp (da_cons (de_add (de_fld C (f_Load_own_forward T) (de_var (pv 0))) (de_fld C (f_Load_own_forward T) (de_var (pv 1)))) (da_cons (de_add (de_fld C (f_Load_own_backward T) (de_var (pv 0))) (de_fld C (f_Load_own_backward T) (de_var (pv 1)))) da_nil)))))
theorem F_Load___add__ (T : Tp g base) {f : Addr} {fd : FuncData} (F : FunD g.K "__add__" "Load.__add__" (defArgs s_Load___add__) (defBody s_Load___add__) (defScope s_Load___add__) [] [] f fd) : DFnR g P w base 6 f w_Load___add__ :=
  (fn_d F sc_Load___add__ (b_Load___add__ T) fun _ _ _ _ _ _ us hl => match us, hl with | [_, _], _ => rfl)
theorem bs_add_Load (T : Tp g base) {k : Nat} (hl : 6 ≤ k) : BinSOk g P w base k .Add [(32, w_Load___add__)] := .one ⟨_, T.s1_Load, T.h_Load___add__.at_, T.h_Load___add__.fn, (F_Load___add__ T (T.d_Load___add__).choose_spec).mono (Nat.le_trans (by decide) hl)⟩
def tab_is_Load___and___Load : TyD → Option Bool
  | .own 32 => some true
  | _ => none
theorem is_Load___and___Load (T : Tp g base) : IsiOk g tab_is_Load___and___Load (.ref (g.ca 32)) := ⟨fun t b h => by
  unfold tab_is_Load___and___Load at h
  split at h
  · cases h; exact ⟨T.q_Load_Load, fun c z => by cases z; exact T.j_Load⟩
  · cases h⟩
/-! ### Load.__and__ -/
abbrev s_Load___and__ : Stmt := (inClass (topS 23) 10)
theorem sc_Load___and__ : FnScope ["self", "other"] ["self", "other"] (defScope s_Load___and__) := ⟨rfl, rfl, rfl, by decide +kernel, rfl, by decide +kernel, by decide +kernel⟩
def t_Load___and__ : DS :=
  dSeq (dIf (dNot (dTst (dIsi tab_is_Load___and___Load (dVar 1)))) dNev dSkip)
    (dRet (dCall (dMk 32 true w_Load___init__) (dCons (dBi bMin2 (dCons (dFld [32] 1 (dVar 0)) (dCons (dFld [32] 1 (dVar 1)) dNil))) (dCons (dBi bMin2 (dCons (dFld [32] 2 (dVar 0)) (dCons (dFld [32] 2 (dVar 1)) dNil))) dNil))))
def w_Load___and__ : DFn := fun ds S k E => ds.length = 2 ∧ dBody 2 t_Load___and__ ds S k E
theorem b_Load___and__ (T : Tp g base) {f : Addr} : BodyD g P w base 4 ["self", "other"] "Load.__and__" (defScope s_Load___and__) (defBody s_Load___and__) f t_Load___and__ := by
  intro cdv A outer s H E hr hgd e
  have C := cxt_of (g := g) (P := P) (w := w) (base := base) (N := ["self", "other"]) (qual := "Load.__and__") (scope := defScope s_Load___and__) (f := f) (cd := cdv) (outer := outer) (s := s) (H := H) (E := E) (e := e) hgd
  exact dss_cons (ds_if (dt_not (dt_val (de_isiC C (is_Load___and___Load T) rfl T.m_isinstance rfl T.m_Load (de_var (pv 1))))) dss_never dss_nil)
    (dss_one (ds_ret (de_make (imm := true) C T.k_Load ((F_Load___init__ T (T.d_Load___init__).choose_spec).mono (by decide)) hr rfl T.m_Load (da_cons (de_bi C (call_min2 C.calm) ok_min2 rfl T.m_min PyProof.Rows.boot_min (da_cons (de_fld C (f_Load_own_forward T) (de_var (pv 0))) (da_cons (de_fld C (f_Load_own_forward T) (de_var (pv 1))) da_nil))) (da_cons (de_bi C (call_min2 C.calm) ok_min2 rfl T.m_min PyProof.Rows.boot_min (da_cons (de_fld C (f_Load_own_backward T) (de_var (pv 0))) (da_cons (de_fld C (f_Load_own_backward T) (de_var (pv 1))) da_nil))) da_nil)))))
theorem F_Load___and__ (T : Tp g base) {f : Addr} {fd : FuncData} (F : FunD g.K "__and__" "Load.__and__" (defArgs s_Load___and__) (defBody s_Load___and__) (defScope s_Load___and__) [] [] f fd) : DFnR g P w base 5 f w_Load___and__ :=
  (fn_d F sc_Load___and__ (b_Load___and__ T) fun _ _ _ _ _ _ us hl => match us, hl with | [_, _], _ => rfl)
theorem bs_and_Load (T : Tp g base) {k : Nat} (hl : 5 ≤ k) : BinSOk g P w base k .BitAnd [(32, w_Load___and__)] := .one ⟨_, T.s1_Load, T.h_Load___and__.at_, T.h_Load___and__.fn, (F_Load___and__ T (T.d_Load___and__).choose_spec).mono (Nat.le_trans (by decide) hl)⟩
def tab_is_Load___or___Load : TyD → Option Bool
  | .own 32 => some true
  | _ => none
theorem is_Load___or___Load (T : Tp g base) : IsiOk g tab_is_Load___or___Load (.ref (g.ca 32)) := ⟨fun t b h => by
  unfold tab_is_Load___or___Load at h
  split at h
  · cases h; exact ⟨T.q_Load_Load, fun c z => by cases z; exact T.j_Load⟩
  · cases h⟩
/-! ### Load.__or__ -/
abbrev s_Load___or__ : Stmt := (inClass (topS 23) 11)
theorem sc_Load___or__ : FnScope ["self", "other"] ["self", "other"] (defScope s_Load___or__) := ⟨rfl, rfl, rfl, by decide +kernel, rfl, by decide +kernel, by decide +kernel⟩
def t_Load___or__ : DS :=
  dSeq (dIf (dNot (dTst (dIsi tab_is_Load___or___Load (dVar 1)))) dNev dSkip)
    (dRet (dCall (dMk 32 true w_Load___init__) (dCons (dBi bMax2 (dCons (dFld [32] 1 (dVar 0)) (dCons (dFld [32] 1 (dVar 1)) dNil))) (dCons (dBi bMax2 (dCons (dFld [32] 2 (dVar 0)) (dCons (dFld [32] 2 (dVar 1)) dNil))) dNil))))
def w_Load___or__ : DFn := fun ds S k E => ds.length = 2 ∧ dBody 2 t_Load___or__ ds S k E
theorem b_Load___or__ (T : Tp g base) {f : Addr} : BodyD g P w base 4 ["self", "other"] "Load.__or__" (defScope s_Load___or__) (defBody s_Load___or__) f t_Load___or__ := by
  intro cdv A outer s H E hr hgd e
  have C := cxt_of (g := g) (P := P) (w := w) (base := base) (N := ["self", "other"]) (qual := "Load.__or__") (scope := defScope s_Load___or__) (f := f) (cd := cdv) (outer := outer) (s := s) (H := H) (E := E) (e := e) hgd
  exact dss_cons (ds_if (dt_not (dt_val (de_isiC C (is_Load___or___Load T) rfl T.m_isinstance rfl T.m_Load (de_var (pv 1))))) dss_never dss_nil)
    (dss_one (ds_ret (de_make (imm := true) C T.k_Load ((F_Load___init__ T (T.d_Load___init__).choose_spec).mono (by decide)) hr rfl T.m_Load (da_cons (de_bi C (call_max2 C.calm) ok_max2 rfl T.m_max PyProof.Rows.boot_max (da_cons (de_fld C (f_Load_own_forward T) (de_var (pv 0))) (da_cons (de_fld C (f_Load_own_forward T) (de_var (pv 1))) da_nil))) (da_cons (de_bi C (call_max2 C.calm) ok_max2 rfl T.m_max PyProof.Rows.boot_max (da_cons (de_fld C (f_Load_own_backward T) (de_var (pv 0))) (da_cons (de_fld C (f_Load_own_backward T) (de_var (pv 1))) da_nil))) da_nil)))))
theorem F_Load___or__ (T : Tp g base) {f : Addr} {fd : FuncData} (F : FunD g.K "__or__" "Load.__or__" (defArgs s_Load___or__) (defBody s_Load___or__) (defScope s_Load___or__) [] [] f fd) : DFnR g P w base 5 f w_Load___or__ :=
  (fn_d F sc_Load___or__ (b_Load___or__ T) fun _ _ _ _ _ _ us hl => match us, hl with | [_, _], _ => rfl)
theorem bs_or_Load (T : Tp g base) {k : Nat} (hl : 5 ≤ k) : BinSOk g P w base k .BitOr [(32, w_Load___or__)] := .one ⟨_, T.s1_Load, T.h_Load___or__.at_, T.h_Load___or__.fn, (F_Load___or__ T (T.d_Load___or__).choose_spec).mono (Nat.le_trans (by decide) hl)⟩
/-! ### Load.covers -/
abbrev s_Load_covers : Stmt := (inClass (topS 23) 4)
theorem sc_Load_covers : FnScope ["self", "other"] ["self", "other"] (defScope s_Load_covers) := ⟨rfl, rfl, rfl, by decide +kernel, rfl, by decide +kernel, by decide +kernel⟩
def t_Load_covers : DS :=
  dRet (dAndV (d2 fGe (dFld [32] 1 (dVar 0)) (dFld [32] 1 (dVar 1))) (d2 fGe (dFld [32] 2 (dVar 0)) (dFld [32] 2 (dVar 1))))
def w_Load_covers : DFn := fun ds S k E => ds.length = 2 ∧ dBody 2 t_Load_covers ds S k E
theorem b_Load_covers (T : Tp g base) {f : Addr} : BodyD g P w base 0 ["self", "other"] "Load.covers" (defScope s_Load_covers) (defBody s_Load_covers) f t_Load_covers := by
  intro cdv A outer s H E hr hgd e
  have C := cxt_of (g := g) (P := P) (w := w) (base := base) (N := ["self", "other"]) (qual := "Load.covers") (scope := defScope s_Load_covers) (f := f) (cd := cdv) (outer := outer) (s := s) (H := H) (E := E) (e := e) hgd
  exact dss_one (ds_ret (de_and (de_ge (de_fld C (f_Load_own_forward T) (de_var (pv 0))) (de_fld C (f_Load_own_forward T) (de_var (pv 1)))) (de_one (de_ge (de_fld C (f_Load_own_backward T) (de_var (pv 0))) (de_fld C (f_Load_own_backward T) (de_var (pv 1)))))))
theorem F_Load_covers (T : Tp g base) {f : Addr} {fd : FuncData} (F : FunD g.K "covers" "Load.covers" (defArgs s_Load_covers) (defBody s_Load_covers) (defScope s_Load_covers) [] [] f fd) : DFnR g P w base 1 f w_Load_covers :=
  (fn_d F sc_Load_covers (b_Load_covers T) fun _ _ _ _ _ _ us hl => match us, hl with | [_, _], _ => rfl)
theorem no_covers (T : Tp g base) : ∀ i, i < g.nA → g.an i ≠ "covers" := no_of T.nA T.an (by decide)
theorem me_Load_covers (T : Tp g base) {k : Nat} (hl : 1 ≤ k) : MethOk g P w base k "covers" [(32, w_Load_covers)] :=
  .cons ⟨_, T.c_Load, T.h_Load_covers, (F_Load_covers T (T.d_Load_covers).choose_spec).mono (Nat.le_trans (by decide) hl)⟩ (.nil (no_covers T))
def tab_is_Load___eq___Load : TyD → Option Bool
  | .own 32 => some true
  | _ => none
theorem is_Load___eq___Load (T : Tp g base) : IsiOk g tab_is_Load___eq___Load (.ref (g.ca 32)) := ⟨fun t b h => by
  unfold tab_is_Load___eq___Load at h
  split at h
  · cases h; exact ⟨T.q_Load_Load, fun c z => by cases z; exact T.j_Load⟩
  · cases h⟩
/-! ### Load.__eq__ -/
abbrev s_Load___eq__ : Stmt := (inClass (topS 23) 5)
theorem sc_Load___eq__ : FnScope ["self", "other"] ["self", "other"] (defScope s_Load___eq__) := ⟨rfl, rfl, rfl, by decide +kernel, rfl, by decide +kernel, by decide +kernel⟩
def t_Load___eq__ : DS :=
  dSeq (dIf (dNot (dTst (dIsi tab_is_Load___eq___Load (dVar 1)))) (dRet (dC (.bl false))) dSkip)
    (dRet (dAndV (d2 fEq (dFld [32] 1 (dVar 0)) (dFld [32] 1 (dVar 1))) (d2 fEq (dFld [32] 2 (dVar 0)) (dFld [32] 2 (dVar 1)))))
def w_Load___eq__ : DFn := fun ds S k E => ds.length = 2 ∧ dBody 2 t_Load___eq__ ds S k E
theorem b_Load___eq__ (T : Tp g base) {f : Addr} : BodyD g P w base 0 ["self", "other"] "Load.__eq__" (defScope s_Load___eq__) (defBody s_Load___eq__) f t_Load___eq__ := by
  intro cdv A outer s H E hr hgd e
  have C := cxt_of (g := g) (P := P) (w := w) (base := base) (N := ["self", "other"]) (qual := "Load.__eq__") (scope := defScope s_Load___eq__) (f := f) (cd := cdv) (outer := outer) (s := s) (H := H) (E := E) (e := e) hgd
  exact dss_cons (ds_if (dt_not (dt_val (de_isiC C (is_Load___eq___Load T) rfl T.m_isinstance rfl T.m_Load (de_var (pv 1))))) (dss_one (ds_ret de_bl)) dss_nil)
    (dss_one (ds_ret (de_and (de_eq C hr.units (de_fld C (f_Load_own_forward T) (de_var (pv 0))) (de_fld C (f_Load_own_forward T) (de_var (pv 1)))) (de_one (de_eq C hr.units (de_fld C (f_Load_own_backward T) (de_var (pv 0))) (de_fld C (f_Load_own_backward T) (de_var (pv 1))))))))
theorem F_Load___eq__ (T : Tp g base) {f : Addr} {fd : FuncData} (F : FunD g.K "__eq__" "Load.__eq__" (defArgs s_Load___eq__) (defBody s_Load___eq__) (defScope s_Load___eq__) [] [] f fd) : DFnR g P w base 1 f w_Load___eq__ :=
  (fn_d F sc_Load___eq__ (b_Load___eq__ T) fun _ _ _ _ _ _ us hl => match us, hl with | [_, _], _ => rfl)
theorem oe_Load_Load (T : Tp g base) {k : Nat} (hl : 1 ≤ k) : EqvOk g P w base k [(32, w_Load___eq__)] [32] := ⟨fun c wf d h1 h2 => by
  obtain ⟨rfl, rfl⟩ := lk1 h1
  rcases mem1 h2 with rfl
  · exact ⟨_, T.nf_Load_Load, T.h_Load___eq__.at_, T.h_Load___eq__.fn, T.j_Load.hm, T.on_Load, (F_Load___eq__ T (T.d_Load___eq__).choose_spec).mono (Nat.le_trans (by decide) hl)⟩⟩
/-! ### _law_two_right -/
abbrev s__law_two_right : Stmt := (topS 33)
theorem sc__law_two_right : FnScope ["_law_some", "_law_others", "_law_one", "_law_other", "_law_due_here", "_law_low", "_law_high", "_law_found"] ["_law_some", "_law_others"] (defScope s__law_two_right) := ⟨rfl, rfl, rfl, by decide +kernel, rfl, by decide +kernel, by decide +kernel⟩
def t__law_two_right : DS :=
  dSeq (dAsg (dTup (dCons (dCall (dMk 32 true w_Load___init__) (dCons (d2 fIx (dVar 0) (dC (.int 0))) (dCons (d2 fIx (dVar 0) (dC (.int 1))) dNil))) (dCons (dCall (dMk 32 true w_Load___init__) (dCons (d2 fIx (dVar 1) (dC (.int 0))) (dCons (d2 fIx (dVar 1) (dC (.int 1))) dNil))) dNil))) (dgQ (dgT 2 (dgsC (dgN 2) (dgsC (dgN 3) dgsN)))))
    (dSeq (dSet 4 (dCall w__law_due (dCons (d2 fAdd (d2 fIx (dVar 0) (dC (.int 0))) (d2 fIx (dVar 1) (dC (.int 0)))) (dCons (d2 fAdd (d2 fIx (dVar 0) (dC (.int 1))) (d2 fIx (dVar 1) (dC (.int 1)))) dNil))))
    (dSeq (dIf (dTst (d2 fNe (dBi bRepr (dCons (dFrz (dSz (dCons (dLamC (dHand 4 t__law_told) (dBinS [(32, w_Load___add__)] (dVar 2) (dVar 3))) (dCons (dLamC (dHand 4 t__law_told) (dBinS [(32, w_Load___add__)] (dVar 3) (dVar 2))) dNil)))) dNil)) (dBi bRepr (dCons (dFrz (dSz (dCons (dVar 4) (dCons (dVar 4) dNil)))) dNil)))) (dRet (dC (.bl false))) dSkip)
    (dSeq (dSet 5 (dTup (dCons (dBi bMin2 (dCons (d2 fIx (dVar 0) (dC (.int 0))) (dCons (d2 fIx (dVar 1) (dC (.int 0))) dNil))) (dCons (dBi bMin2 (dCons (d2 fIx (dVar 0) (dC (.int 1))) (dCons (d2 fIx (dVar 1) (dC (.int 1))) dNil))) dNil))))
    (dSeq (dSet 6 (dTup (dCons (dBi bMax2 (dCons (d2 fIx (dVar 0) (dC (.int 0))) (dCons (d2 fIx (dVar 1) (dC (.int 0))) dNil))) (dCons (dBi bMax2 (dCons (d2 fIx (dVar 0) (dC (.int 1))) (dCons (d2 fIx (dVar 1) (dC (.int 1))) dNil))) dNil))))
    (dSeq (dSet 7 (dFrz (dSz (dCons (dLamC (dHand 4 t__law_told) (dBinS [(32, w_Load___and__)] (dVar 2) (dVar 3))) (dCons (dLamC (dHand 4 t__law_told) (dBinS [(32, w_Load___and__)] (dVar 3) (dVar 2))) dNil)))))
    (dSeq (dSet 7 (dFrz (dM2 fCat (dVar 7) (dFrz (dSz (dCons (dLamC (dHand 4 t__law_told) (dBinS [(32, w_Load___or__)] (dVar 2) (dVar 3))) (dCons (dLamC (dHand 4 t__law_told) (dBinS [(32, w_Load___or__)] (dVar 3) (dVar 2))) dNil)))))))
    (dSeq (dIf (dTst (d2 fNe (dBi bRepr (dCons (dVar 7) dNil)) (dBi bRepr (dCons (dFrz (dSz (dCons (dVar 5) (dCons (dVar 5) (dCons (dVar 6) (dCons (dVar 6) dNil)))))) dNil)))) (dRet (dC (.bl false))) dSkip)
    (dSeq (dSet 7 (dFrz (dSz (dCons (dMeth [(32, w_Load_covers)] (dVar 2) (dCons (dVar 3) dNil)) (dCons (dMeth [(32, w_Load_covers)] (dVar 3) (dCons (dVar 2) dNil)) (dCons (dOEq false [(32, w_Load___eq__)] [32] (dVar 2) (dVar 3)) (dCons (dOEq true [(32, w_Load___eq__)] [32] (dVar 3) (dVar 2)) (dCons (dMeth [(32, w_Load_covers)] (dVar 2) (dCons (dVar 2) dNil)) dNil))))))))
    (dSeq (dIf (dTst (d2 fNe (dBi bRepr (dCons (dVar 7) dNil)) (dBi bRepr (dCons (dFrz (dSz (dCons (d2 fEq (dVar 5) (dVar 1)) (dCons (d2 fEq (dVar 5) (dVar 0)) (dCons (d2 fEq (dVar 0) (dVar 1)) (dCons (d2 fNe (dVar 0) (dVar 1)) (dCons (dC (.bl true)) dNil))))))) dNil)))) (dRet (dC (.bl false))) dSkip)
    (dRet (d2 fEq (dBi bRepr (dCons (dFrz (dSz (dCons (dProp [(32, w_Load_forward)] (dVar 2)) (dCons (dProp [(32, w_Load_backward)] (dVar 2)) (dCons (dProp [(32, w_Load_forward)] (dVar 3)) (dCons (dProp [(32, w_Load_backward)] (dVar 3)) dNil)))))) dNil)) (dBi bRepr (dCons (dFrz (dBiM bList (dCons (d2 fCatT (dVar 0) (dVar 1)) dNil))) dNil)))))))))))))
def w__law_two_right : DFn := fun ds S k E => ds.length = 2 ∧ dBody 8 t__law_two_right ds S k E
theorem b__law_two_right (T : Tp g base) : BodyDL g P w base 8 ["_law_some", "_law_others", "_law_one", "_law_other", "_law_due_here", "_law_low", "_law_high", "_law_found"] "_law_two_right" (defScope s__law_two_right) (defBody s__law_two_right) (glAd "_law_two_right" g.K) t__law_two_right := by
  intro cdv A outer s H E hr hgd hcd e
  have C := cxt_of (g := g) (P := P) (w := w) (base := base) (N := ["_law_some", "_law_others", "_law_one", "_law_other", "_law_due_here", "_law_low", "_law_high", "_law_found"]) (qual := "_law_two_right") (scope := defScope s__law_two_right) (f := glAd "_law_two_right" g.K) (cd := cdv) (outer := outer) (s := s) (H := H) (E := E) (e := e) hgd
  exact dss_cons (ds_asg (de_tup (da_cons (de_make (imm := true) C T.k_Load ((F_Load___init__ T (T.d_Load___init__).choose_spec).mono (by decide)) hr rfl T.m_Load (da_cons (de_ix C (de_var (pv 0)) de_int) (da_cons (de_ix C (de_var (pv 0)) de_int) da_nil))) (da_cons (de_make (imm := true) C T.k_Load ((F_Load___init__ T (T.d_Load___init__).choose_spec).mono (by decide)) hr rfl T.m_Load (da_cons (de_ix C (de_var (pv 1)) de_int) (da_cons (de_ix C (de_var (pv 1)) de_int) da_nil))) da_nil))) (dg_tup C (dgs_cons (dg_name sc__law_two_right.nd rfl (Or.inr rfl)) (dgs_cons (dg_name sc__law_two_right.nd rfl (Or.inr rfl)) dgs_nil))))
    (dss_cons (ds_set (i := 4) sc__law_two_right.nd rfl (Or.inl rfl) (de_call C ((F__law_due T (T.d__law_due).choose_spec).mono (by decide)) hr rfl T.m__law_due (T.d__law_due).choose_spec.kp (da_cons (de_add (de_ix C (de_var (pv 0)) de_int) (de_ix C (de_var (pv 1)) de_int)) (da_cons (de_add (de_ix C (de_var (pv 0)) de_int) (de_ix C (de_var (pv 1)) de_int)) da_nil))))
    (dss_cons (ds_if (dt_ne C hr.units (de_bi C (cr_reprD C hr.units) ok_repr rfl T.m_repr PyProof.Rows.boot_repr (da_cons (de_frz (dm_lst (da_cons (de_lamC (k := 6) C (T.d__law_told).choose_spec sc__law_told (b__law_told T) (fun _ _ _ _ _ _ us hl => match us, hl with | [_], _ => rfl) (by decide) (hr.mono (by decide)) rfl T.m__law_told (T.d__law_told).choose_spec.kp rfl (by first | exact Or.inl rfl | exact Or.inr (Or.inl rfl)) T.lt (fsOf_mem (tf := tf) 0 rfl) hcd (LamX.lamS_by (sc := defScope s__law_two_right) (by decide +kernel)) rfl (fun _ _ _ _ _ => rfl) (lamD_by C fun _ _ _ _ _ _ _ _ hr C9 => de_binS C9 (bs_add_Load T (by decide)) hr (de_var (pv 2)) (de_var (pv 3)))) (da_cons (de_lamP (k := 6) C (T.d__law_told).choose_spec sc__law_told (b__law_told T) (fun _ _ _ _ _ _ us hl => match us, hl with | [_], _ => rfl) (by decide) (hr.mono (by decide)) rfl T.m__law_told (T.d__law_told).choose_spec.kp rfl (by first | exact Or.inl rfl | exact Or.inr (Or.inl rfl)) T.lt (fsOf_mem (tf := tf) 0 rfl) hcd rfl (lamP_by (sc := defScope s__law_two_right) (by decide +kernel)) (hide_by (N := ["_law_some", "_law_others", "_law_one", "_law_other", "_law_due_here", "_law_low", "_law_high", "_law_found"]) (N2 := ["_law_some", "_law_others", "_law_one", "_law_other", "_law_due_here", "_law_low", "_law_high", "_law_found"]) (by decide +kernel)) (lamDP_by C fun _ _ _ _ _ _ _ _ hr C9 => de_binS C9 (bs_add_Load T (by decide)) hr (de_var (pv 3)) (de_var (pv 2)))) da_nil)))) da_nil)) (de_bi C (cr_reprD C hr.units) ok_repr rfl T.m_repr PyProof.Rows.boot_repr (da_cons (de_frz (dm_lst (da_cons (de_var (pv 4)) (da_cons (de_var (pv 4)) da_nil)))) da_nil))) (dss_one (ds_ret de_bl)) dss_nil)
    (dss_cons (ds_set (i := 5) sc__law_two_right.nd rfl (Or.inl rfl) (de_tup (da_cons (de_bi C (call_min2 C.calm) ok_min2 rfl T.m_min PyProof.Rows.boot_min (da_cons (de_ix C (de_var (pv 0)) de_int) (da_cons (de_ix C (de_var (pv 1)) de_int) da_nil))) (da_cons (de_bi C (call_min2 C.calm) ok_min2 rfl T.m_min PyProof.Rows.boot_min (da_cons (de_ix C (de_var (pv 0)) de_int) (da_cons (de_ix C (de_var (pv 1)) de_int) da_nil))) da_nil))))
    (dss_cons (ds_set (i := 6) sc__law_two_right.nd rfl (Or.inl rfl) (de_tup (da_cons (de_bi C (call_max2 C.calm) ok_max2 rfl T.m_max PyProof.Rows.boot_max (da_cons (de_ix C (de_var (pv 0)) de_int) (da_cons (de_ix C (de_var (pv 1)) de_int) da_nil))) (da_cons (de_bi C (call_max2 C.calm) ok_max2 rfl T.m_max PyProof.Rows.boot_max (da_cons (de_ix C (de_var (pv 0)) de_int) (da_cons (de_ix C (de_var (pv 1)) de_int) da_nil))) da_nil))))
    (dss_cons (ds_set (i := 7) sc__law_two_right.nd rfl (Or.inl rfl) (de_frz (dm_lst (da_cons (de_lamC (k := 5) C (T.d__law_told).choose_spec sc__law_told (b__law_told T) (fun _ _ _ _ _ _ us hl => match us, hl with | [_], _ => rfl) (by decide) (hr.mono (by decide)) rfl T.m__law_told (T.d__law_told).choose_spec.kp rfl (by first | exact Or.inl rfl | exact Or.inr (Or.inl rfl)) T.lt (fsOf_mem (tf := tf) 0 rfl) hcd (LamX.lamS_by (sc := defScope s__law_two_right) (by decide +kernel)) rfl (fun _ _ _ _ _ => rfl) (lamD_by C fun _ _ _ _ _ _ _ _ hr C9 => de_binS C9 (bs_and_Load T (by decide)) hr (de_var (pv 2)) (de_var (pv 3)))) (da_cons (de_lamP (k := 5) C (T.d__law_told).choose_spec sc__law_told (b__law_told T) (fun _ _ _ _ _ _ us hl => match us, hl with | [_], _ => rfl) (by decide) (hr.mono (by decide)) rfl T.m__law_told (T.d__law_told).choose_spec.kp rfl (by first | exact Or.inl rfl | exact Or.inr (Or.inl rfl)) T.lt (fsOf_mem (tf := tf) 0 rfl) hcd rfl (lamP_by (sc := defScope s__law_two_right) (by decide +kernel)) (hide_by (N := ["_law_some", "_law_others", "_law_one", "_law_other", "_law_due_here", "_law_low", "_law_high", "_law_found"]) (N2 := ["_law_some", "_law_others", "_law_one", "_law_other", "_law_due_here", "_law_low", "_law_high", "_law_found"]) (by decide +kernel)) (lamDP_by C fun _ _ _ _ _ _ _ _ hr C9 => de_binS C9 (bs_and_Load T (by decide)) hr (de_var (pv 3)) (de_var (pv 2)))) da_nil)))))
    (dss_cons (ds_set (i := 7) sc__law_two_right.nd rfl (Or.inl rfl) (de_frz (dm_cat (de_var (pv 7)) (de_frz (dm_lst (da_cons (de_lamC (k := 5) C (T.d__law_told).choose_spec sc__law_told (b__law_told T) (fun _ _ _ _ _ _ us hl => match us, hl with | [_], _ => rfl) (by decide) (hr.mono (by decide)) rfl T.m__law_told (T.d__law_told).choose_spec.kp rfl (by first | exact Or.inl rfl | exact Or.inr (Or.inl rfl)) T.lt (fsOf_mem (tf := tf) 0 rfl) hcd (LamX.lamS_by (sc := defScope s__law_two_right) (by decide +kernel)) rfl (fun _ _ _ _ _ => rfl) (lamD_by C fun _ _ _ _ _ _ _ _ hr C9 => de_binS C9 (bs_or_Load T (by decide)) hr (de_var (pv 2)) (de_var (pv 3)))) (da_cons (de_lamP (k := 5) C (T.d__law_told).choose_spec sc__law_told (b__law_told T) (fun _ _ _ _ _ _ us hl => match us, hl with | [_], _ => rfl) (by decide) (hr.mono (by decide)) rfl T.m__law_told (T.d__law_told).choose_spec.kp rfl (by first | exact Or.inl rfl | exact Or.inr (Or.inl rfl)) T.lt (fsOf_mem (tf := tf) 0 rfl) hcd rfl (lamP_by (sc := defScope s__law_two_right) (by decide +kernel)) (hide_by (N := ["_law_some", "_law_others", "_law_one", "_law_other", "_law_due_here", "_law_low", "_law_high", "_law_found"]) (N2 := ["_law_some", "_law_others", "_law_one", "_law_other", "_law_due_here", "_law_low", "_law_high", "_law_found"]) (by decide +kernel)) (lamDP_by C fun _ _ _ _ _ _ _ _ hr C9 => de_binS C9 (bs_or_Load T (by decide)) hr (de_var (pv 3)) (de_var (pv 2)))) da_nil)))))))
    (dss_cons (ds_if (dt_ne C hr.units (de_bi C (cr_reprD C hr.units) ok_repr rfl T.m_repr PyProof.Rows.boot_repr (da_cons (de_var (pv 7)) da_nil)) (de_bi C (cr_reprD C hr.units) ok_repr rfl T.m_repr PyProof.Rows.boot_repr (da_cons (de_frz (dm_lst (da_cons (de_var (pv 5)) (da_cons (de_var (pv 5)) (da_cons (de_var (pv 6)) (da_cons (de_var (pv 6)) da_nil)))))) da_nil))) (dss_one (ds_ret de_bl)) dss_nil)
    (dss_cons (ds_set (i := 7) sc__law_two_right.nd rfl (Or.inl rfl) (de_frz (dm_lst (da_cons (de_meth C (me_Load_covers T (by decide)) hr (de_var (pv 2)) (da_cons (de_var (pv 3)) da_nil)) (da_cons (de_meth C (me_Load_covers T (by decide)) hr (de_var (pv 3)) (da_cons (de_var (pv 2)) da_nil)) (da_cons (de_oeq C (oe_Load_Load T (by decide)) hr hr.units (de_var (pv 2)) (de_var (pv 3))) (da_cons (de_one_ C (oe_Load_Load T (by decide)) hr hr.units (de_var (pv 3)) (de_var (pv 2))) (da_cons (de_meth C (me_Load_covers T (by decide)) hr (de_var (pv 2)) (da_cons (de_var (pv 2)) da_nil)) da_nil))))))))
    (dss_cons (ds_if (dt_ne C hr.units (de_bi C (cr_reprD C hr.units) ok_repr rfl T.m_repr PyProof.Rows.boot_repr (da_cons (de_var (pv 7)) da_nil)) (de_bi C (cr_reprD C hr.units) ok_repr rfl T.m_repr PyProof.Rows.boot_repr (da_cons (de_frz (dm_lst (da_cons (de_eq C hr.units (de_var (pv 5)) (de_var (pv 1))) (da_cons (de_eq C hr.units (de_var (pv 5)) (de_var (pv 0))) (da_cons (de_eq C hr.units (de_var (pv 0)) (de_var (pv 1))) (da_cons (de_ne C hr.units (de_var (pv 0)) (de_var (pv 1))) (da_cons de_bl da_nil))))))) da_nil))) (dss_one (ds_ret de_bl)) dss_nil)
    (dss_one (ds_ret (de_eq C hr.units (de_bi C (cr_reprD C hr.units) ok_repr rfl T.m_repr PyProof.Rows.boot_repr (da_cons (de_frz (dm_lst (da_cons (de_prop C (pr_Load_forward T (by decide)) hr (de_var (pv 2))) (da_cons (de_prop C (pr_Load_backward T (by decide)) hr (de_var (pv 2))) (da_cons (de_prop C (pr_Load_forward T (by decide)) hr (de_var (pv 3))) (da_cons (de_prop C (pr_Load_backward T (by decide)) hr (de_var (pv 3))) da_nil)))))) da_nil)) (de_bi C (cr_reprD C hr.units) ok_repr rfl T.m_repr PyProof.Rows.boot_repr (da_cons (de_frz (dm_ty C (call_listX C) ok_list rfl T.m_list PyProof.Rows.boot_list (da_cons (de_catT C (de_var (pv 0)) (de_var (pv 1))) da_nil))) da_nil))))))))))))))
theorem F__law_two_right (T : Tp g base) {fd : FuncData} (F : FunD g.K "_law_two_right" "_law_two_right" (defArgs s__law_two_right) (defBody s__law_two_right) (defScope s__law_two_right) [] [] (glAd "_law_two_right" g.K) fd) : DFnR g P w base 9 (glAd "_law_two_right" g.K) w__law_two_right :=
  (fn_dL F sc__law_two_right (b__law_two_right T) fun _ _ _ _ _ _ us hl => match us, hl with | [_, _], _ => rfl)
def tab_is_Load___mul___int : TyD → Option Bool
  | .b "int" => some true
  | .b "bool" => some true
  | _ => none
theorem is_Load___mul___int (T : Tp g base) : IsiOk g tab_is_Load___mul___int (.type "int") := ⟨fun t b h => by
  unfold tab_is_Load___mul___int at h
  split at h
  · cases h; exact ⟨T.q_int_int, fun c z => nomatch z⟩
  · cases h; exact ⟨T.q_bool_int, fun c z => nomatch z⟩
  · cases h⟩
def tab_is_Load___mul___bool : TyD → Option Bool
  | .b "int" => some false
  | .b "bool" => some true
  | _ => none
theorem is_Load___mul___bool (T : Tp g base) : IsiOk g tab_is_Load___mul___bool (.type "bool") := ⟨fun t b h => by
  unfold tab_is_Load___mul___bool at h
  split at h
  · cases h; exact ⟨T.q_int_bool, fun c z => nomatch z⟩
  · cases h; exact ⟨T.q_bool_bool, fun c z => nomatch z⟩
  · cases h⟩
/-! ### Load.__mul__ -/
abbrev s_Load___mul__ : Stmt := (inClass (topS 23) 8)
theorem sc_Load___mul__ : FnScope ["self", "times"] ["self", "times"] (defScope s_Load___mul__) := ⟨rfl, rfl, rfl, by decide +kernel, rfl, by decide +kernel, by decide +kernel⟩
def t_Load___mul__ : DS :=
  dSeq (dIf (dOr (dNot (dTst (dIsi tab_is_Load___mul___int (dVar 1)))) (dOr (dTst (dIsi tab_is_Load___mul___bool (dVar 1))) (dTst (d2 fLt (dVar 1) (dC (.int 0)))))) dNev dSkip)
    (dRet (dCall w_checked_load (dCons (d2 fMul (dFld [32] 1 (dVar 0)) (dVar 1)) (dCons (d2 fMul (dFld [32] 2 (dVar 0)) (dVar 1)) dNil))))
def w_Load___mul__ : DFn := fun ds S k E => ds.length = 2 ∧ dBody 2 t_Load___mul__ ds S k E
theorem b_Load___mul__ (T : Tp g base) {f : Addr} : BodyD g P w base 5 ["self", "times"] "Load.__mul__" (defScope s_Load___mul__) (defBody s_Load___mul__) f t_Load___mul__ := by
  intro cdv A outer s H E hr hgd e
  have C := cxt_of (g := g) (P := P) (w := w) (base := base) (N := ["self", "times"]) (qual := "Load.__mul__") (scope := defScope s_Load___mul__) (f := f) (cd := cdv) (outer := outer) (s := s) (H := H) (E := E) (e := e) hgd
  exact dss_cons (ds_if (PW.pt (dw_or (dt_not (dt_val (de_isiB C (is_Load___mul___int T) rfl T.m_isinstance rfl T.m_int PyProof.Rows.boot_int (de_var (pv 1))))) (dw_or (dt_val (de_isiB C (is_Load___mul___bool T) rfl T.m_isinstance rfl T.m_bool PyProof.Rows.boot_bool (de_var (pv 1)))) (dw_or1 (dt_lt (de_var (pv 1)) de_int))))) dss_never dss_nil)
    (dss_one (ds_ret (de_call C ((F_checked_load T (T.d_checked_load).choose_spec).mono (by decide)) hr rfl T.m_checked_load (T.d_checked_load).choose_spec.kp (da_cons (de_mul (de_fld C (f_Load_own_forward T) (de_var (pv 0))) (de_var (pv 1))) (da_cons (de_mul (de_fld C (f_Load_own_backward T) (de_var (pv 0))) (de_var (pv 1))) da_nil)))))
theorem F_Load___mul__ (T : Tp g base) {f : Addr} {fd : FuncData} (F : FunD g.K "__mul__" "Load.__mul__" (defArgs s_Load___mul__) (defBody s_Load___mul__) (defScope s_Load___mul__) [] [] f fd) : DFnR g P w base 6 f w_Load___mul__ :=
  (fn_d F sc_Load___mul__ (b_Load___mul__ T) fun _ _ _ _ _ _ us hl => match us, hl with | [_, _], _ => rfl)
theorem mo_Load___mul__ (T : Tp g base) {k : Nat} (hl : 6 ≤ k) : MulOk g P w base k 32 false w_Load___mul__ := ⟨_, _, T.mu_Load, (F_Load___mul__ T (T.d_Load___mul__).choose_spec).mono (Nat.le_trans (by decide) hl)⟩
def tab_is_Load___rmul___int : TyD → Option Bool
  | .b "int" => some true
  | .b "bool" => some true
  | _ => none
theorem is_Load___rmul___int (T : Tp g base) : IsiOk g tab_is_Load___rmul___int (.type "int") := ⟨fun t b h => by
  unfold tab_is_Load___rmul___int at h
  split at h
  · cases h; exact ⟨T.q_int_int, fun c z => nomatch z⟩
  · cases h; exact ⟨T.q_bool_int, fun c z => nomatch z⟩
  · cases h⟩
def tab_is_Load___rmul___bool : TyD → Option Bool
  | .b "int" => some false
  | .b "bool" => some true
  | _ => none
theorem is_Load___rmul___bool (T : Tp g base) : IsiOk g tab_is_Load___rmul___bool (.type "bool") := ⟨fun t b h => by
  unfold tab_is_Load___rmul___bool at h
  split at h
  · cases h; exact ⟨T.q_int_bool, fun c z => nomatch z⟩
  · cases h; exact ⟨T.q_bool_bool, fun c z => nomatch z⟩
  · cases h⟩
/-! ### Load.__rmul__ -/
abbrev s_Load___rmul__ : Stmt := (inClass (topS 23) 9)
theorem sc_Load___rmul__ : FnScope ["self", "times"] ["self", "times"] (defScope s_Load___rmul__) := ⟨rfl, rfl, rfl, by decide +kernel, rfl, by decide +kernel, by decide +kernel⟩
def t_Load___rmul__ : DS :=
  dSeq (dIf (dOr (dNot (dTst (dIsi tab_is_Load___rmul___int (dVar 1)))) (dOr (dTst (dIsi tab_is_Load___rmul___bool (dVar 1))) (dTst (d2 fLt (dVar 1) (dC (.int 0)))))) dNev dSkip)
    (dRet (dCall w_checked_load (dCons (d2 fMul (dFld [32] 1 (dVar 0)) (dVar 1)) (dCons (d2 fMul (dFld [32] 2 (dVar 0)) (dVar 1)) dNil))))
def w_Load___rmul__ : DFn := fun ds S k E => ds.length = 2 ∧ dBody 2 t_Load___rmul__ ds S k E
theorem b_Load___rmul__ (T : Tp g base) {f : Addr} : BodyD g P w base 5 ["self", "times"] "Load.__rmul__" (defScope s_Load___rmul__) (defBody s_Load___rmul__) f t_Load___rmul__ := by
  intro cdv A outer s H E hr hgd e
  have C := cxt_of (g := g) (P := P) (w := w) (base := base) (N := ["self", "times"]) (qual := "Load.__rmul__") (scope := defScope s_Load___rmul__) (f := f) (cd := cdv) (outer := outer) (s := s) (H := H) (E := E) (e := e) hgd
  exact dss_cons (ds_if (PW.pt (dw_or (dt_not (dt_val (de_isiB C (is_Load___rmul___int T) rfl T.m_isinstance rfl T.m_int PyProof.Rows.boot_int (de_var (pv 1))))) (dw_or (dt_val (de_isiB C (is_Load___rmul___bool T) rfl T.m_isinstance rfl T.m_bool PyProof.Rows.boot_bool (de_var (pv 1)))) (dw_or1 (dt_lt (de_var (pv 1)) de_int))))) dss_never dss_nil)
    (dss_one (ds_ret (de_call C ((F_checked_load T (T.d_checked_load).choose_spec).mono (by decide)) hr rfl T.m_checked_load (T.d_checked_load).choose_spec.kp (da_cons (de_mul (de_fld C (f_Load_own_forward T) (de_var (pv 0))) (de_var (pv 1))) (da_cons (de_mul (de_fld C (f_Load_own_backward T) (de_var (pv 0))) (de_var (pv 1))) da_nil)))))
theorem F_Load___rmul__ (T : Tp g base) {f : Addr} {fd : FuncData} (F : FunD g.K "__rmul__" "Load.__rmul__" (defArgs s_Load___rmul__) (defBody s_Load___rmul__) (defScope s_Load___rmul__) [] [] f fd) : DFnR g P w base 6 f w_Load___rmul__ :=
  (fn_d F sc_Load___rmul__ (b_Load___rmul__ T) fun _ _ _ _ _ _ us hl => match us, hl with | [_, _], _ => rfl)
theorem mo_Load___rmul__ (T : Tp g base) {k : Nat} (hl : 6 ≤ k) : MulOk g P w base k 32 true w_Load___rmul__ := ⟨_, _, T.mu_Load, (F_Load___rmul__ T (T.d_Load___rmul__).choose_spec).mono (Nat.le_trans (by decide) hl)⟩
/-! ### Load.__neg__ -/
abbrev s_Load___neg__ : Stmt := (inClass (topS 23) 12)
theorem sc_Load___neg__ : FnScope ["self"] ["self"] (defScope s_Load___neg__) := ⟨rfl, rfl, rfl, by decide +kernel, rfl, by decide +kernel, by decide +kernel⟩
def t_Load___neg__ : DS :=
  dRet (dCall (dMk 32 true w_Load___init__) (dCons (dFld [32] 2 (dVar 0)) (dCons (dFld [32] 1 (dVar 0)) dNil)))
def w_Load___neg__ : DFn := fun ds S k E => ds.length = 1 ∧ dBody 1 t_Load___neg__ ds S k E
theorem b_Load___neg__ (T : Tp g base) {f : Addr} : BodyD g P w base 4 ["self"] "Load.__neg__" (defScope s_Load___neg__) (defBody s_Load___neg__) f t_Load___neg__ := by
  intro cdv A outer s H E hr hgd e
  have C := cxt_of (g := g) (P := P) (w := w) (base := base) (N := ["self"]) (qual := "Load.__neg__") (scope := defScope s_Load___neg__) (f := f) (cd := cdv) (outer := outer) (s := s) (H := H) (E := E) (e := e) hgd
  exact dss_one (ds_ret (de_make (imm := true) C T.k_Load ((F_Load___init__ T (T.d_Load___init__).choose_spec).mono (by decide)) hr rfl T.m_Load (da_cons (de_fld C (f_Load_own_backward T) (de_var (pv 0))) (da_cons (de_fld C (f_Load_own_forward T) (de_var (pv 0))) da_nil))))
theorem F_Load___neg__ (T : Tp g base) {f : Addr} {fd : FuncData} (F : FunD g.K "__neg__" "Load.__neg__" (defArgs s_Load___neg__) (defBody s_Load___neg__) (defScope s_Load___neg__) [] [] f fd) : DFnR g P w base 5 f w_Load___neg__ :=
  (fn_d F sc_Load___neg__ (b_Load___neg__ T) fun _ _ _ _ _ _ us hl => match us, hl with | [_], _ => rfl)
theorem sp_Load___neg__ (T : Tp g base) {k : Nat} (hl : 5 ≤ k) : SpcOk g P w base k "__neg__" [(32, w_Load___neg__)] :=
  .cons ⟨_, T.h_Load___neg__.at_, T.h_Load___neg__.fn, (F_Load___neg__ T (T.d_Load___neg__).choose_spec).mono (Nat.le_trans (by decide) hl)⟩ (.nil)
/-! ### Load.__bool__ -/
abbrev s_Load___bool__ : Stmt := (inClass (topS 23) 6)
theorem sc_Load___bool__ : FnScope ["self"] ["self"] (defScope s_Load___bool__) := ⟨rfl, rfl, rfl, by decide +kernel, rfl, by decide +kernel, by decide +kernel⟩
def t_Load___bool__ : DS :=
  dRet (dOrV (dBi bBool (dCons (d2 fGt (dFld [32] 1 (dVar 0)) (dC (.int 0))) dNil)) (dBi bBool (dCons (d2 fGt (dFld [32] 2 (dVar 0)) (dC (.int 0))) dNil)))
def w_Load___bool__ : DFn := fun ds S k E => ds.length = 1 ∧ dBody 1 t_Load___bool__ ds S k E
theorem b_Load___bool__ (T : Tp g base) {f : Addr} : BodyD g P w base 0 ["self"] "Load.__bool__" (defScope s_Load___bool__) (defBody s_Load___bool__) f t_Load___bool__ := by
  intro cdv A outer s H E hr hgd e
  have C := cxt_of (g := g) (P := P) (w := w) (base := base) (N := ["self"]) (qual := "Load.__bool__") (scope := defScope s_Load___bool__) (f := f) (cd := cdv) (outer := outer) (s := s) (H := H) (E := E) (e := e) hgd
  exact dss_one (ds_ret (de_or (de_ty C call_bool1 ok_bool rfl T.m_bool PyProof.Rows.boot_bool (da_cons (de_gt (de_fld C (f_Load_own_forward T) (de_var (pv 0))) de_int) da_nil)) (de_one (de_ty C call_bool1 ok_bool rfl T.m_bool PyProof.Rows.boot_bool (da_cons (de_gt (de_fld C (f_Load_own_backward T) (de_var (pv 0))) de_int) da_nil)))))
theorem F_Load___bool__ (T : Tp g base) {f : Addr} {fd : FuncData} (F : FunD g.K "__bool__" "Load.__bool__" (defArgs s_Load___bool__) (defBody s_Load___bool__) (defScope s_Load___bool__) [] [] f fd) : DFnR g P w base 1 f w_Load___bool__ :=
  (fn_d F sc_Load___bool__ (b_Load___bool__ T) fun _ _ _ _ _ _ us hl => match us, hl with | [_], _ => rfl)
theorem sp_Load___bool__ (T : Tp g base) {k : Nat} (hl : 1 ≤ k) : SpcOk g P w base k "__bool__" [(32, w_Load___bool__)] :=
  .cons ⟨_, T.h_Load___bool__.at_, T.h_Load___bool__.fn, (F_Load___bool__ T (T.d_Load___bool__).choose_spec).mono (Nat.le_trans (by decide) hl)⟩ (.nil)
/-! ### _law_one_right -/
abbrev s__law_one_right : Stmt := (topS 34)
theorem sc__law_one_right : FnScope ["_law_some", "_law_times_so", "_law_one", "_law_due_here"] ["_law_some", "_law_times_so"] (defScope s__law_one_right) := ⟨rfl, rfl, rfl, by decide +kernel, rfl, by decide +kernel, by decide +kernel⟩
def t__law_one_right : DS :=
  dSeq (dAsg (dTup (dCons (dCall (dMk 32 true w_Load___init__) (dCons (d2 fIx (dVar 0) (dC (.int 0))) (dCons (d2 fIx (dVar 0) (dC (.int 1))) dNil))) (dCons (dCall w__law_due (dCons (d2 fMul (d2 fIx (dVar 0) (dC (.int 0))) (dVar 1)) (dCons (d2 fMul (d2 fIx (dVar 0) (dC (.int 1))) (dVar 1)) dNil))) dNil))) (dgQ (dgT 2 (dgsC (dgN 2) (dgsC (dgN 3) dgsN)))))
    (dSeq (dIf (dTst (d2 fNe (dBi bRepr (dCons (dFrz (dSz (dCons (dLamC (dHand 4 t__law_told) (dMulI 32 w_Load___mul__ (dVar 2) (dVar 1))) (dCons (dLamC (dHand 4 t__law_told) (dIMul 32 w_Load___rmul__ (dVar 1) (dVar 2))) dNil)))) dNil)) (dBi bRepr (dCons (dFrz (dSz (dCons (dVar 3) (dCons (dVar 3) dNil)))) dNil)))) (dRet (dC (.bl false))) dSkip)
    (dSeq (dIf (dOr (dTst (d2 fNe (dBi bRepr (dCons (dLamC (dHand 4 t__law_told) (dNegO [(32, w_Load___neg__)] (dVar 2))) dNil)) (dBi bRepr (dCons (dBackT (dVar 0)) dNil)))) (dNot (dTst (dOEq false [(32, w_Load___eq__)] [32] (dNegO [(32, w_Load___neg__)] (dNegO [(32, w_Load___neg__)] (dVar 2))) (dVar 2))))) (dRet (dC (.bl false))) dSkip)
    (dRet (d2 fEq (dBi bRepr (dCons (dFrz (dSz (dCons (dBi (boolO [(32, w_Load___bool__)]) (dCons (dVar 2) dNil)) (dCons (dOEq false [(32, w_Load___eq__)] [32] (dVar 2) (dCall (dMk 32 true w_Load___init__) (dCons (d2 fIx (dVar 0) (dC (.int 0))) (dCons (d2 fIx (dVar 0) (dC (.int 1))) dNil)))) (dCons (dOEq true [(32, w_Load___eq__)] [32] (dVar 2) (dVar 2)) dNil))))) dNil)) (dBi bRepr (dCons (dFrz (dSz (dCons (d2 fNe (dVar 0) (dTup (dCons (dC (.int 0)) (dCons (dC (.int 0)) dNil)))) (dCons (dC (.bl true)) (dCons (dC (.bl false)) dNil))))) dNil))))))
def w__law_one_right : DFn := fun ds S k E => ds.length = 2 ∧ dBody 4 t__law_one_right ds S k E
theorem b__law_one_right (T : Tp g base) : BodyDL g P w base 8 ["_law_some", "_law_times_so", "_law_one", "_law_due_here"] "_law_one_right" (defScope s__law_one_right) (defBody s__law_one_right) (glAd "_law_one_right" g.K) t__law_one_right := by
  intro cdv A outer s H E hr hgd hcd e
  have C := cxt_of (g := g) (P := P) (w := w) (base := base) (N := ["_law_some", "_law_times_so", "_law_one", "_law_due_here"]) (qual := "_law_one_right") (scope := defScope s__law_one_right) (f := glAd "_law_one_right" g.K) (cd := cdv) (outer := outer) (s := s) (H := H) (E := E) (e := e) hgd
  exact dss_cons (ds_asg (de_tup (da_cons (de_make (imm := true) C T.k_Load ((F_Load___init__ T (T.d_Load___init__).choose_spec).mono (by decide)) hr rfl T.m_Load (da_cons (de_ix C (de_var (pv 0)) de_int) (da_cons (de_ix C (de_var (pv 0)) de_int) da_nil))) (da_cons (de_call C ((F__law_due T (T.d__law_due).choose_spec).mono (by decide)) hr rfl T.m__law_due (T.d__law_due).choose_spec.kp (da_cons (de_mul (de_ix C (de_var (pv 0)) de_int) (de_var (pv 1))) (da_cons (de_mul (de_ix C (de_var (pv 0)) de_int) (de_var (pv 1))) da_nil))) da_nil))) (dg_tup C (dgs_cons (dg_name sc__law_one_right.nd rfl (Or.inr rfl)) (dgs_cons (dg_name sc__law_one_right.nd rfl (Or.inl rfl)) dgs_nil))))
    (dss_cons (ds_if (dt_ne C hr.units (de_bi C (cr_reprD C hr.units) ok_repr rfl T.m_repr PyProof.Rows.boot_repr (da_cons (de_frz (dm_lst (da_cons (de_lamC (k := 6) C (T.d__law_told).choose_spec sc__law_told (b__law_told T) (fun _ _ _ _ _ _ us hl => match us, hl with | [_], _ => rfl) (by decide) (hr.mono (by decide)) rfl T.m__law_told (T.d__law_told).choose_spec.kp rfl (by first | exact Or.inl rfl | exact Or.inr (Or.inl rfl)) T.lt (fsOf_mem (tf := tf) 1 rfl) hcd (LamX.lamS_by (sc := defScope s__law_one_right) (by decide +kernel)) rfl (fun _ _ _ _ _ => rfl) (lamD_by C fun _ _ _ _ _ _ _ _ hr C9 => de_mulI C9 (mo_Load___mul__ T (by decide)) hr (de_var (pv 2)) (de_var (pv 1)))) (da_cons (de_lamP (k := 6) C (T.d__law_told).choose_spec sc__law_told (b__law_told T) (fun _ _ _ _ _ _ us hl => match us, hl with | [_], _ => rfl) (by decide) (hr.mono (by decide)) rfl T.m__law_told (T.d__law_told).choose_spec.kp rfl (by first | exact Or.inl rfl | exact Or.inr (Or.inl rfl)) T.lt (fsOf_mem (tf := tf) 1 rfl) hcd rfl (lamP_by (sc := defScope s__law_one_right) (by decide +kernel)) (hide_by (N := ["_law_some", "_law_times_so", "_law_one", "_law_due_here"]) (N2 := ["_law_some", "_law_times_so", "_law_one", "_law_due_here"]) (by decide +kernel)) (lamDP_by C fun _ _ _ _ _ _ _ _ hr C9 => de_iMul C9 (mo_Load___rmul__ T (by decide)) hr (de_var (pv 1)) (de_var (pv 2)))) da_nil)))) da_nil)) (de_bi C (cr_reprD C hr.units) ok_repr rfl T.m_repr PyProof.Rows.boot_repr (da_cons (de_frz (dm_lst (da_cons (de_var (pv 3)) (da_cons (de_var (pv 3)) da_nil)))) da_nil))) (dss_one (ds_ret de_bl)) dss_nil)
    (dss_cons (ds_if (PW.pt (dw_or (dt_ne C hr.units (de_bi C (cr_reprD C hr.units) ok_repr rfl T.m_repr PyProof.Rows.boot_repr (da_cons (de_lamC (k := 5) C (T.d__law_told).choose_spec sc__law_told (b__law_told T) (fun _ _ _ _ _ _ us hl => match us, hl with | [_], _ => rfl) (by decide) (hr.mono (by decide)) rfl T.m__law_told (T.d__law_told).choose_spec.kp rfl (by first | exact Or.inl rfl | exact Or.inr (Or.inl rfl)) T.lt (fsOf_mem (tf := tf) 1 rfl) hcd (LamX.lamS_by (sc := defScope s__law_one_right) (by decide +kernel)) rfl (fun _ _ _ _ _ => rfl) (lamD_by C fun _ _ _ _ _ _ _ _ hr C9 => de_negO C9 (sp_Load___neg__ T (by decide)) hr (de_var (pv 2)))) da_nil)) (de_bi C (cr_reprD C hr.units) ok_repr rfl T.m_repr PyProof.Rows.boot_repr (da_cons (de_backT C (de_var (pv 0))) da_nil))) (dw_or1 (dt_not (dt_oeq C (oe_Load_Load T (by decide)) hr hr.units (de_negO C (sp_Load___neg__ T (by decide)) hr (de_negO C (sp_Load___neg__ T (by decide)) hr (de_var (pv 2)))) (de_var (pv 2))))))) (dss_one (ds_ret de_bl)) dss_nil)
    (dss_one (ds_ret (de_eq C hr.units (de_bi C (cr_reprD C hr.units) ok_repr rfl T.m_repr PyProof.Rows.boot_repr (da_cons (de_frz (dm_lst (da_cons (de_ty C (call_boolO C (sp_Load___bool__ T (by decide)) hr) ok_boolO rfl T.m_bool PyProof.Rows.boot_bool (da_cons (de_var (pv 2)) da_nil)) (da_cons (de_oeq C (oe_Load_Load T (by decide)) hr hr.units (de_var (pv 2)) (de_make (imm := true) C T.k_Load ((F_Load___init__ T (T.d_Load___init__).choose_spec).mono (by decide)) hr rfl T.m_Load (da_cons (de_ix C (de_var (pv 0)) de_int) (da_cons (de_ix C (de_var (pv 0)) de_int) da_nil)))) (da_cons (de_one_ C (oe_Load_Load T (by decide)) hr hr.units (de_var (pv 2)) (de_var (pv 2))) da_nil))))) da_nil)) (de_bi C (cr_reprD C hr.units) ok_repr rfl T.m_repr PyProof.Rows.boot_repr (da_cons (de_frz (dm_lst (da_cons (de_ne C hr.units (de_var (pv 0)) (de_tup (da_cons de_int (da_cons de_int da_nil)))) (da_cons de_bl (da_cons de_bl da_nil))))) da_nil)))))))
theorem F__law_one_right (T : Tp g base) {fd : FuncData} (F : FunD g.K "_law_one_right" "_law_one_right" (defArgs s__law_one_right) (defBody s__law_one_right) (defScope s__law_one_right) [] [] (glAd "_law_one_right" g.K) fd) : DFnR g P w base 9 (glAd "_law_one_right" g.K) w__law_one_right :=
  (fn_dL F sc__law_one_right (b__law_one_right T) fun _ _ _ _ _ _ us hl => match us, hl with | [_, _], _ => rfl)
/-! ### law -/
abbrev s_law : Stmt := (topS 35)
theorem sc_law : FnScope ["_law_script", "_law_m", "_law_turn", "_law_some", "_law_others", "_law_times_so"] ["_law_script"] (defScope s_law) := ⟨rfl, rfl, rfl, by decide +kernel, rfl, by decide +kernel, by decide +kernel⟩
def t_law : DS :=
  dSeq (dSet 1 (dCall w__law_begun (dCons (dVar 0) dNil)))
    (dSeq (dIf (dTst (d2 fNe (dBi bReprI (dCons (dC (.int 1200)) dNil)) (dC (.str "1200")))) (dRet (dC (.bl false))) dSkip)
    (dSeq (dFgt [2, 3, 4, 5] [] (dFor (wRng1 (dCons (dC (.int 8)) dNil)) (dgN 2) (dFgtB [2, 3, 4, 5] (dSeq (dPar 3 4 (dCons (dTup (dCons (dCall w__law_near (dCons (dVar 1) dNil)) (dCons (dCall w__law_near (dCons (dVar 1) dNil)) dNil))) (dCons (dTup (dCons (dCall w__law_near (dCons (dVar 1) dNil)) (dCons (dCall w__law_near (dCons (dVar 1) dNil)) dNil))) dNil)))
    (dSeq (dIf (dTst (d2 fEq (dCall w__law_draw (dCons (dVar 1) (dCons (dC (.int 3)) dNil))) (dC (.int 0)))) (dSeq (dSet 4 (dTup (dCons (d2 fAdd (d2 fSub (dC (.int 1200)) (d2 fIx (dVar 3) (dC (.int 0)))) (dCall w__law_draw (dCons (dVar 1) (dCons (dC (.int 2)) dNil)))) (dCons (dBi bMax2 (dCons (dC (.int 0)) (dCons (d2 fSub (d2 fSub (dC (.int 1200)) (d2 fIx (dVar 3) (dC (.int 1)))) (dCall w__law_draw (dCons (dVar 1) (dCons (dC (.int 2)) dNil)))) dNil))) dNil))))
    (dSet 4 (dTup (dCons (dBi bMin2 (dCons (dC (.int 1200)) (dCons (d2 fIx (dVar 4) (dC (.int 0))) dNil))) (dCons (d2 fIx (dVar 4) (dC (.int 1))) dNil))))) dSkip)
    (dSeq (dSet 5 (dCall w__law_pick (dCons (dVar 1) (dCons (dFrz (dSz (dCons (dC (.int 0)) (dCons (dC (.int 1)) (dCons (dC (.int 2)) (dCons (dC (.int 3)) (dCons (dCall w__law_draw (dCons (dVar 1) (dCons (dC (.int 40)) dNil))) (dCons (dC (.int 1200)) (dCons (dC (.int 1201)) (dCons (d2 fPow (dC (.int 10)) (dC (.int 20))) dNil)))))))))) dNil))))
    (dIf (dOr (dNot (dTst (dCall w__law_two_right (dCons (dVar 3) (dCons (dVar 4) dNil))))) (dNot (dTst (dCall w__law_one_right (dCons (dVar 3) (dCons (dVar 5) dNil)))))) (dRet (dC (.bl false))) dSkip)))))))
    (dRet (dC (.bl true)))))
def w_law : DFn := fun ds S k E => ds.length = 1 ∧ dBody 6 t_law ds S k E
theorem b_law (T : Tp g base) {f : Addr} : BodyD g P w base 9 ["_law_script", "_law_m", "_law_turn", "_law_some", "_law_others", "_law_times_so"] "law" (defScope s_law) (defBody s_law) f t_law := by
  intro cdv A outer s H E hr hgd e
  have C := cxt_of (g := g) (P := P) (w := w) (base := base) (N := ["_law_script", "_law_m", "_law_turn", "_law_some", "_law_others", "_law_times_so"]) (qual := "law") (scope := defScope s_law) (f := f) (cd := cdv) (outer := outer) (s := s) (H := H) (E := E) (e := e) hgd
  exact dss_cons (ds_set (i := 1) sc_law.nd rfl (Or.inl rfl) (de_call C ((F__law_begun T (T.d__law_begun).choose_spec).mono (by decide)) hr rfl T.m__law_begun (T.d__law_begun).choose_spec.kp (da_cons (de_var (pv 0)) da_nil)))
    (dss_cons (ds_if (dt_ne C hr.units (de_bi C cr_reprI ok_reprI rfl T.m_repr PyProof.Rows.boot_repr (da_cons (de_clsN C T.v_Load_MOST rfl T.m_Load) da_nil)) de_str) (dss_one (ds_ret de_bl)) dss_nil)
    (dss_cons (ds_fgt (ds_for C (passes_of rfl) (di_rng1 C rfl T.m_range (da_cons de_int da_nil)) (dg_name sc_law.nd rfl (Or.inl rfl)) (dss_fgt (dss_cons (ds_par C sc_law.nd rfl rfl (by decide) rfl rfl (da_cons (de_tup (da_cons (de_call C ((F__law_near T (T.d__law_near).choose_spec).mono (by decide)) hr rfl T.m__law_near (T.d__law_near).choose_spec.kp (da_cons (de_var (pv 1)) da_nil)) (da_cons (de_call C ((F__law_near T (T.d__law_near).choose_spec).mono (by decide)) hr rfl T.m__law_near (T.d__law_near).choose_spec.kp (da_cons (de_var (pv 1)) da_nil)) da_nil))) (da_cons (de_tup (da_cons (de_call C ((F__law_near T (T.d__law_near).choose_spec).mono (by decide)) hr rfl T.m__law_near (T.d__law_near).choose_spec.kp (da_cons (de_var (pv 1)) da_nil)) (da_cons (de_call C ((F__law_near T (T.d__law_near).choose_spec).mono (by decide)) hr rfl T.m__law_near (T.d__law_near).choose_spec.kp (da_cons (de_var (pv 1)) da_nil)) da_nil))) da_nil)) rfl)
    (dss_cons (ds_if (dt_eq C hr.units (de_call C ((F__law_draw T (T.d__law_draw).choose_spec).mono (by decide)) hr rfl T.m__law_draw (T.d__law_draw).choose_spec.kp (da_cons (de_var (pv 1)) (da_cons de_int da_nil))) de_int) (dss_cons (ds_set (i := 4) sc_law.nd rfl (Or.inl rfl) (de_tup (da_cons (de_add (de_sub de_int (de_ix C (de_var (pv 3)) de_int)) (de_call C ((F__law_draw T (T.d__law_draw).choose_spec).mono (by decide)) hr rfl T.m__law_draw (T.d__law_draw).choose_spec.kp (da_cons (de_var (pv 1)) (da_cons de_int da_nil)))) (da_cons (de_bi C (call_max2 C.calm) ok_max2 rfl T.m_max PyProof.Rows.boot_max (da_cons de_int (da_cons (de_sub (de_sub de_int (de_ix C (de_var (pv 3)) de_int)) (de_call C ((F__law_draw T (T.d__law_draw).choose_spec).mono (by decide)) hr rfl T.m__law_draw (T.d__law_draw).choose_spec.kp (da_cons (de_var (pv 1)) (da_cons de_int da_nil)))) da_nil))) da_nil))))
    (dss_one (ds_set (i := 4) sc_law.nd rfl (Or.inl rfl) (de_tup (da_cons (de_bi C (call_min2 C.calm) ok_min2 rfl T.m_min PyProof.Rows.boot_min (da_cons de_int (da_cons (de_ix C (de_var (pv 4)) de_int) da_nil))) (da_cons (de_ix C (de_var (pv 4)) de_int) da_nil)))))) dss_nil)
    (dss_cons (ds_set (i := 5) sc_law.nd rfl (Or.inl rfl) (de_call C ((F__law_pick T (T.d__law_pick).choose_spec).mono (by decide)) hr rfl T.m__law_pick (T.d__law_pick).choose_spec.kp (da_cons (de_var (pv 1)) (da_cons (de_frz (dm_lst (da_cons de_int (da_cons de_int (da_cons de_int (da_cons de_int (da_cons (de_call C ((F__law_draw T (T.d__law_draw).choose_spec).mono (by decide)) hr rfl T.m__law_draw (T.d__law_draw).choose_spec.kp (da_cons (de_var (pv 1)) (da_cons de_int da_nil))) (da_cons de_int (da_cons de_int (da_cons (de_pow de_int de_int) da_nil)))))))))) da_nil))))
    (dss_one (ds_if (PW.pt (dw_or (dt_not (dt_val (de_call C ((F__law_two_right T (T.d__law_two_right).choose_spec).mono (by decide)) hr rfl T.m__law_two_right (T.d__law_two_right).choose_spec.kp (da_cons (de_var (pv 3)) (da_cons (de_var (pv 4)) da_nil))))) (dw_or1 (dt_not (dt_val (de_call C ((F__law_one_right T (T.d__law_one_right).choose_spec).mono (by decide)) hr rfl T.m__law_one_right (T.d__law_one_right).choose_spec.kp (da_cons (de_var (pv 3)) (da_cons (de_var (pv 5)) da_nil)))))))) (dss_one (ds_ret de_bl)) dss_nil))))))))
    (dss_one (ds_ret de_bl))))
theorem F_law (T : Tp g base) {f : Addr} {fd : FuncData} (F : FunD g.K "law" "law" (defArgs s_law) (defBody s_law) (defScope s_law) [] [] f fd) : DFnR g P w base 10 f w_law :=
  (fn_d F sc_law (b_law T) fun _ _ _ _ _ _ us hl => match us, hl with | [_], _ => rfl)
end
/-! ### the head's facts -/
def gx (K : PySem.W.Frag) (mg : Str → Option Value) : Gx := { K := K, mg := mg, ca := fun c => match c with | 0 => He.ga K "SweepError" | 1 => He.ga K "InvalidRow" | 2 => He.ga K "InvalidPlace" | 3 => He.ga K "InvalidSize" | 4 => He.ga K "InvalidLoad" | 11 => He.ga K "LimitExceeded" | 32 => He.ga K "Load" | _ => 0, an := anT, nA := 27, inj := fun i j hi hj => (by decide +kernel : ∀ i, i < 27 → ∀ j, j < 27 → anT i = anT j → i = j) i hi j hj, T := (fsOf tf K).map fun p => (ltAd K p.1, p.2) }
theorem tp {K : PySem.W.Frag} {mg : Str → Option Value} {h : Heap} (X : K.In h) (G : h.Ns mainGlobals mg) (c : SaysX ts fn K) {base : Heap} (LT : TabsL (gx K mg) base (fsOf tf K)) : Tp (gx K mg) base where
  nA := rfl
  an := fun _ => rfl
  m_range := He.free_ok X G (c.tst 0 (t := (He.Fa.free "range").ok) rfl)
  m_enumerate := He.free_ok X G (c.tst 1 (t := (He.Fa.free "enumerate").ok) rfl)
  m_int := He.free_ok X G (c.tst 2 (t := (He.Fa.free "int").ok) rfl)
  m__law_folded := He.glo_ok X G (c.tst 3 (t := (He.Fa.glo "_law_folded").ok) rfl)
  m__law_begun := He.glo_ok X G (c.tst 4 (t := (He.Fa.glo "_law_begun").ok) rfl)
  v_Load_MOST := clsN_ok rfl (c.tst 5 (t := tClsN "Load" "MOST" 1200) rfl)
  m_Load := He.glo_ok X G (c.tst 6 (t := (He.Fa.glo "Load").ok) rfl)
  m_repr := He.free_ok X G (c.tst 7 (t := (He.Fa.free "repr").ok) rfl)
  m_len := He.free_ok X G (c.tst 8 (t := (He.Fa.free "len").ok) rfl)
  m__law_mixed := He.glo_ok X G (c.tst 9 (t := (He.Fa.glo "_law_mixed").ok) rfl)
  m__law_draw := He.glo_ok X G (c.tst 10 (t := (He.Fa.glo "_law_draw").ok) rfl)
  m__law_pick := He.glo_ok X G (c.tst 11 (t := (He.Fa.glo "_law_pick").ok) rfl)
  m__law_near := He.glo_ok X G (c.tst 12 (t := (He.Fa.glo "_law_near").ok) rfl)
  m_max := He.free_ok X G (c.tst 13 (t := (He.Fa.free "max").ok) rfl)
  m_min := He.free_ok X G (c.tst 14 (t := (He.Fa.free "min").ok) rfl)
  q_int_int := kit_ok (c.tst 15 (t := tKit (.b "int") (.b "int") true) rfl)
  m_isinstance := He.free_ok X G (c.tst 16 (t := (He.Fa.free "isinstance").ok) rfl)
  q_int_bool := kit_ok (c.tst 17 (t := tKit (.b "int") (.b "bool") false) rfl)
  m_bool := He.free_ok X G (c.tst 18 (t := (He.Fa.free "bool").ok) rfl)
  i_MOST_LOAD := He.int_ok X G (c.tst 19 (t := (He.Fa.int "MOST_LOAD" 1200).ok) rfl)
  m_is_from := He.glo_ok X G (c.tst 20 (t := (He.Fa.glo "is_from").ok) rfl)
  m_SweepError := He.glo_ok X G (c.tst 21 (t := (He.Fa.glo "SweepError").ok) rfl)
  xb := xb_ok rfl (c.tst 22 (t := tXb "SweepError") rfl)
  x_InvalidLoad := xc_ok rfl (c.tst 23 (t := tXc "InvalidLoad") rfl)
  h_InvalidLoad___init__ := He.meth_ok (c.tst 24 (t := (He.Fa.meth "InvalidLoad" "__init__").ok) rfl)
  m_InvalidLoad := He.glo_ok X G (c.tst 25 (t := (He.Fa.glo "InvalidLoad").ok) rfl)
  n_InvalidLoad_value := He.noat_ok (c.tst 26 (t := (He.Fa.noat "InvalidLoad" "value").ok) rfl)
  c_Load := He.cls_ok (c.tst 27 (t := (He.Fa.cls "Load").ok) rfl)
  n_Load_own_forward := He.noat_ok (c.tst 28 (t := (He.Fa.noat "Load" "own_forward").ok) rfl)
  n_Load_own_backward := He.noat_ok (c.tst 29 (t := (He.Fa.noat "Load" "own_backward").ok) rfl)
  k_Load := He.mkr_ok (c.tst 30 (t := (He.Fa.mkr "Load").ok) rfl)
  m__law_due := He.glo_ok X G (c.tst 31 (t := (He.Fa.glo "_law_due").ok) rfl)
  m_InvalidSize := He.glo_ok X G (c.tst 32 (t := (He.Fa.glo "InvalidSize").ok) rfl)
  y_InvalidSize_SweepError := of_decide_eq_true (c.tst 33 (t := tExm "InvalidSize" "SweepError" true) rfl)
  m_InvalidRow := He.glo_ok X G (c.tst 34 (t := (He.Fa.glo "InvalidRow").ok) rfl)
  y_InvalidRow_SweepError := of_decide_eq_true (c.tst 35 (t := tExm "InvalidRow" "SweepError" true) rfl)
  m_InvalidPlace := He.glo_ok X G (c.tst 36 (t := (He.Fa.glo "InvalidPlace").ok) rfl)
  y_InvalidPlace_SweepError := of_decide_eq_true (c.tst 37 (t := tExm "InvalidPlace" "SweepError" true) rfl)
  m_LimitExceeded := He.glo_ok X G (c.tst 38 (t := (He.Fa.glo "LimitExceeded").ok) rfl)
  y_LimitExceeded_SweepError := of_decide_eq_true (c.tst 39 (t := tExm "LimitExceeded" "SweepError" true) rfl)
  y_InvalidLoad_SweepError := of_decide_eq_true (c.tst 40 (t := tExm "InvalidLoad" "SweepError" true) rfl)
  j_Load := clsI_ok rfl (c.tst 41 (t := tClsI "Load") rfl)
  q_Load_Load := kit_ok (c.tst 42 (t := tKit (.own "Load") (.own "Load") true) rfl)
  p_Load_forward := prop_ok (c.tst 43 (t := tProp "Load" "forward") rfl)
  p_Load_backward := prop_ok (c.tst 44 (t := tProp "Load" "backward") rfl)
  x_InvalidSize := xc_ok rfl (c.tst 45 (t := tXc "InvalidSize") rfl)
  q_InvalidSize_LimitExceeded := kit_ok (c.tst 46 (t := tKit (.own "InvalidSize") (.own "LimitExceeded") false) rfl)
  x_InvalidRow := xc_ok rfl (c.tst 47 (t := tXc "InvalidRow") rfl)
  q_InvalidRow_LimitExceeded := kit_ok (c.tst 48 (t := tKit (.own "InvalidRow") (.own "LimitExceeded") false) rfl)
  x_InvalidPlace := xc_ok rfl (c.tst 49 (t := tXc "InvalidPlace") rfl)
  q_InvalidPlace_LimitExceeded := kit_ok (c.tst 50 (t := tKit (.own "InvalidPlace") (.own "LimitExceeded") false) rfl)
  x_LimitExceeded := xc_ok rfl (c.tst 51 (t := tXc "LimitExceeded") rfl)
  q_LimitExceeded_LimitExceeded := kit_ok (c.tst 52 (t := tKit (.own "LimitExceeded") (.own "LimitExceeded") true) rfl)
  q_InvalidLoad_LimitExceeded := kit_ok (c.tst 53 (t := tKit (.own "InvalidLoad") (.own "LimitExceeded") false) rfl)
  n_LimitExceeded_limit := He.noat_ok (c.tst 54 (t := (He.Fa.noat "LimitExceeded" "limit").ok) rfl)
  m__law_told := He.glo_ok X G (c.tst 55 (t := (He.Fa.glo "_law_told").ok) rfl)
  h_LimitExceeded___init__ := He.meth_ok (c.tst 56 (t := (He.Fa.meth "LimitExceeded" "__init__").ok) rfl)
  m_checked_load := He.glo_ok X G (c.tst 57 (t := (He.Fa.glo "checked_load").ok) rfl)
  s1_Load := id (c.tst 58 (t := tFirst "Load") rfl)
  h_Load___add__ := He.meth_ok (c.tst 59 (t := (He.Fa.meth "Load" "__add__").ok) rfl)
  h_Load___and__ := He.meth_ok (c.tst 60 (t := (He.Fa.meth "Load" "__and__").ok) rfl)
  h_Load___or__ := He.meth_ok (c.tst 61 (t := (He.Fa.meth "Load" "__or__").ok) rfl)
  h_Load_covers := He.meth_ok (c.tst 62 (t := (He.Fa.meth "Load" "covers").ok) rfl)
  h_Load___eq__ := He.meth_ok (c.tst 63 (t := (He.Fa.meth "Load" "__eq__").ok) rfl)
  on_Load := He.eqO_ok (c.tst 64 (t := tObjNe "Load") rfl)
  nf_Load_Load := id (c.tst 65 (t := tNotFirst "Load" "Load") rfl)
  m_list := He.free_ok X G (c.tst 66 (t := (He.Fa.free "list").ok) rfl)
  m__law_two_right := He.glo_ok X G (c.tst 67 (t := (He.Fa.glo "_law_two_right").ok) rfl)
  q_bool_int := kit_ok (c.tst 68 (t := tKit (.b "bool") (.b "int") true) rfl)
  q_bool_bool := kit_ok (c.tst 69 (t := tKit (.b "bool") (.b "bool") true) rfl)
  mu_Load := mul_ok rfl (c.tst 70 (t := tMul "Load") rfl)
  h_Load___neg__ := He.meth_ok (c.tst 71 (t := (He.Fa.meth "Load" "__neg__").ok) rfl)
  h_Load___bool__ := He.meth_ok (c.tst 72 (t := (He.Fa.meth "Load" "__bool__").ok) rfl)
  m__law_one_right := He.glo_ok X G (c.tst 73 (t := (He.Fa.glo "_law_one_right").ok) rfl)
  m_law := He.glo_ok X G (c.tst 74 (t := (He.Fa.glo "law").ok) rfl)
  d__law_folded := c.def_ 0 (d := xd__law_folded) rfl
  d__law_begun := c.def_ 1 (d := xd__law_begun) rfl
  d__law_mixed := c.def_ 2 (d := xd__law_mixed) rfl
  d__law_draw := c.def_ 3 (d := xd__law_draw) rfl
  d__law_pick := c.def_ 4 (d := xd__law_pick) rfl
  d__law_near := c.def_ 5 (d := xd__law_near) rfl
  d_is_from := c.def_ 6 (d := xd_is_from) rfl
  d_InvalidLoad___init__ := c.def_ 7 (d := xd_InvalidLoad___init__) rfl
  d_Load___init__ := c.def_ 8 (d := xd_Load___init__) rfl
  d__law_due := c.def_ 9 (d := xd__law_due) rfl
  d_Load_forward := c.def_ 10 (d := xd_Load_forward) rfl
  d_Load_backward := c.def_ 11 (d := xd_Load_backward) rfl
  d__law_told := c.def_ 12 (d := xd__law_told) rfl
  d_LimitExceeded___init__ := c.def_ 13 (d := xd_LimitExceeded___init__) rfl
  d_checked_load := c.def_ 14 (d := xd_checked_load) rfl
  d_Load___add__ := c.def_ 15 (d := xd_Load___add__) rfl
  d_Load___and__ := c.def_ 16 (d := xd_Load___and__) rfl
  d_Load___or__ := c.def_ 17 (d := xd_Load___or__) rfl
  d_Load_covers := c.def_ 18 (d := xd_Load_covers) rfl
  d_Load___eq__ := c.def_ 19 (d := xd_Load___eq__) rfl
  d__law_two_right := c.def_ 20 (d := xd__law_two_right) rfl
  d_Load___mul__ := c.def_ 21 (d := xd_Load___mul__) rfl
  d_Load___rmul__ := c.def_ 22 (d := xd_Load___rmul__) rfl
  d_Load___neg__ := c.def_ 23 (d := xd_Load___neg__) rfl
  d_Load___bool__ := c.def_ 24 (d := xd_Load___bool__) rfl
  d__law_one_right := c.def_ 25 (d := xd__law_one_right) rfl
  d_law := c.def_ 26 (d := xd_law) rfl
  lt := LT
end Z
end
/-! ## H -/
section
set_option Elab.async false
set_option linter.all false
set_option maxRecDepth 100000
set_option maxHeartbeats 0
namespace Z
open PySem PySem.Spec PyProof.Rows L2 DL
end Z
open PySem PySem.W PySem.Calls PyProof.Rows
theorem Z.holds_of (main : ∀ ns : List Int, ns.length ≤ 63 → Z.w_law [.scr (ns.map DL.D.int)] (fun _ => none) (fun d _ => d = .bl true) (fun _ _ _ => False)) : PySem.Challenge.rw_handsweeps_k08_loads_reckoned.Holds := by
  w_on; o_law
  refine HandSHeadRun.head_any (r := OpenLaw.row PySem.Challenge.rw_handsweeps_k08_loads_reckoned) (q := view (OpenLaw.row PySem.Challenge.rw_handsweeps_k08_loads_reckoned).prog [35]) (H := Z.hk) (ob := Z.ob) (M := 60000) (loose := Z.loose) (d := HandSHeadRun.topDef (OpenLaw.row PySem.Challenge.rw_handsweeps_k08_loads_reckoned).prog 35) (kwd := []) Z.ob_eq
    (by kernel_rfl) (fun s => by kernel_rfl) Z.run (by kernel_rfl) (by kernel_rfl) (by kernel_rfl) (by rfl) (by first | assumption | decide +kernel) (by decide +kernel) ⟨rfl, rfl, rfl, rfl, rfl, by decide +kernel⟩ ?hw ?hc
  case hw => w_witness2
  case hc =>
    refine DL.walk_dT (l := PySem.Challenge.rw_handsweeps_k08_loads_reckoned) (n := 63) (k := 10) rfl (by decide) (by kernel_rfl) ⟨rfl, by decide, by decide⟩ ?F
    intro w mg fa h Y G hmg0
    obtain ⟨K, KX, c⟩ := Y
    have hmg : mg ("law" : PySem.Str) = some (.ref fa) := by
      have e : (HandSHeadRun.topDef (OpenLaw.row PySem.Challenge.rw_handsweeps_k08_loads_reckoned).prog 35).name = ("law" : PySem.Str) := by kernel_rfl
      rw [← e]
      exact hmg0
    refine ⟨Z.gx K mg, Z.w_law, DL.fsOf Z.tf K, rfl, KX, rfl, c.inj, c.hd, c.out, c.empty, main, fun base _ _ LT => ?_⟩
    have T := Z.tp KX G c.x LT
    have e0 : fa = DL.glAd "law" K := by
      have z := hmg.symm.trans T.m_law
      exact Value.ref.inj (Option.some.inj z)
    subst e0
    obtain ⟨fd, F⟩ := T.d_law
    exact Z.F_law T F
end
/-! ## DLP -/
section
set_option Elab.async false
set_option linter.all false
set_option maxRecDepth 100000
set_option maxHeartbeats 1000000
/-! plain laws about the data's readings -/
namespace DL
open PySem PySem.Spec PyProof.Rows L2
/-- a comprehension, by an invariant over what is left and what is there -/
theorem lc_inv {t : DG} {ts : DT} {el : DE} {ρw : Env} (P : List D → List D → Sto → Prop)
    (step : ∀ d rest acc S, P (d :: rest) acc S → ∀ (K1 : D → Sto → Prop) (K2 : Sto → Prop), (∀ y S', P rest (acc ++ [y]) S' → K1 y S') → (∀ S', P rest acc S' → K2 S') → t d ρw S (fun ρ1 S1 => ts ρ1 S1 (fun b S2 => if b = true then el ρ1 S2 K1 noX else K2 S2) noX) noX)
    {k : List D → Sto → Prop} (fin : ∀ acc S, P [] acc S → k acc S) : ∀ (ds acc : List D) (S : Sto), P ds acc S → dLcL t ts el ρw ds acc S k
  | [], acc, S, h => fin acc S h
  | d :: ds, acc, S, h => step d ds acc S h _ _ (fun y S' h' => lc_inv P step fin ds (acc ++ [y]) S' h') (fun S' h' => lc_inv P step fin ds acc S' h')
/-- .. that changes nothing: each element by itself -/
theorem lc_pure {t : DG} {ts : DT} {el : DE} {ρw : Env} {S : Sto} (R : D → Option D) {k : List D → Sto → Prop} : ∀ (ds acc : List D),
    (∀ d ∈ ds, ∀ (K1 : D → Sto → Prop) (K2 : Sto → Prop), (match R d with | some y => K1 y S | none => K2 S) → t d ρw S (fun ρ1 S1 => ts ρ1 S1 (fun b S2 => if b = true then el ρ1 S2 K1 noX else K2 S2) noX) noX) →
    k (acc ++ ds.filterMap R) S → dLcL t ts el ρw ds acc S k
  | [], acc, _, h => by simpa [dLcL] using h
  | d :: ds, acc, hs, h => by
    show t d ρw S _ _
    refine hs d List.mem_cons_self _ _ ?_
    rw [List.filterMap_cons] at h
    cases q : R d with
    | none =>
      rw [q] at h
      exact lc_pure R ds acc (fun x hx => hs x (List.mem_cons_of_mem _ hx)) h
    | some y =>
      rw [q] at h
      exact lc_pure R ds (acc ++ [y]) (fun x hx => hs x (List.mem_cons_of_mem _ hx)) (by simpa using h)
/-- .. of ints -/
theorem sc_pure {t : DG} {ts : DT} {el : DE} {ρw : Env} {S : Sto} (R : D → Option Int) {k : List Int → Sto → Prop} : ∀ (ds : List D) (acc : List Int),
    (∀ d ∈ ds, ∀ (K1 : D → Sto → Prop) (K2 : Sto → Prop), (match R d with | some y => K1 (.int y) S | none => K2 S) → t d ρw S (fun ρ1 S1 => ts ρ1 S1 (fun b S2 => if b = true then el ρ1 S2 K1 noX else K2 S2) noX) noX) →
    k (acc ++ ds.filterMap R) S → dScL t ts el ρw ds acc S k
  | [], acc, _, h => by simpa [dScL] using h
  | d :: ds, acc, hs, h => by
    show t d ρw S _ _
    refine hs d List.mem_cons_self _ _ ?_
    rw [List.filterMap_cons] at h
    cases q : R d with
    | none =>
      rw [q] at h
      exact sc_pure R ds acc (fun x hx => hs x (List.mem_cons_of_mem _ hx)) h
    | some y =>
      rw [q] at h
      exact ⟨y, rfl, sc_pure R ds (acc ++ [y]) (fun x hx => hs x (List.mem_cons_of_mem _ hx)) (by simpa using h)⟩
/-- a for, by an invariant over what is left -/
theorem for_inv {t : DG} {body : DS} {DD : DEnds} (P : List D → Env → Sto → Prop)
    (step : ∀ d rest ρ S, P (d :: rest) ρ S → ∀ (K : Env → Sto → Prop), (∀ ρ' S', P rest ρ' S' → K ρ' S') → t d ρ S (fun ρ1 S1 => body ρ1 S1 { DD with nx := K, ct := K, bk := DD.nx }) fun _ _ _ => False)
    (fin : ∀ ρ S, P [] ρ S → DD.nx ρ S) : ∀ (ds : List D) (ρ : Env) (S : Sto), P ds ρ S → dForL t body ds ρ S DD
  | [], ρ, S, h => fin ρ S h
  | d :: ds, ρ, S, h => step d ds ρ S h _ fun ρ' S' h' => for_inv P step fin ds ρ' S' h'
theorem rng_length {lo : Int} {n : Nat} : (rngD lo n).length = n := by simp [rngD]
theorem rng_succ {lo : Int} {n : Nat} : rngD lo (n + 1) = .int lo :: rngD (lo + 1) n := by
  unfold rngD
  rw [List.range_succ_eq_map, List.map_cons, List.map_map]
  congr 1
  · simp
  · refine List.map_congr_left fun i _ => ?_
    show D.int (lo + ((i + 1 : Nat) : Int)) = D.int (lo + 1 + (i : Int))
    congr 1
    omega
theorem rng_mem {lo : Int} {n : Nat} {d : D} (h : d ∈ rngD lo n) : ∃ i : Int, d = .int i ∧ lo ≤ i ∧ i < lo + n := by
  unfold rngD at h
  obtain ⟨i, hi, rfl⟩ := List.mem_map.mp h
  exact ⟨_, rfl, by omega, by have := List.mem_range.mp hi; omega⟩
theorem ints_mem {ns : List Int} {d : D} (h : d ∈ ns.map D.int) : ∃ i, i ∈ ns ∧ d = .int i := by
  obtain ⟨i, hi, rfl⟩ := List.mem_map.mp h
  exact ⟨i, hi, rfl⟩
theorem ixN_nat {n : Nat} {i : Int} (h0 : 0 ≤ i) (h1 : i < n) : ixN n i = some i.toNat := by
  unfold ixN
  rw [if_pos h0, if_pos h1]
theorem atI_nat {α : Type} {xs : List α} {i : Int} (h0 : 0 ≤ i) (h1 : i < xs.length) : atI xs i = xs[i.toNat]? := by
  unfold atI
  rw [ixN_nat h0 h1]
  rfl
theorem atI_int {ns : List Int} {i : Int} (h0 : 0 ≤ i) (h1 : i < ns.length) : ∃ z, z ∈ ns ∧ atI (ns.map D.int) i = some (.int z) := by
  have hz : i.toNat < ns.length := by omega
  refine ⟨ns[i.toNat], List.getElem_mem hz, ?_⟩
  rw [atI_nat h0 (by simpa using h1), List.getElem?_map, List.getElem?_eq_getElem hz]
  rfl
theorem sg_cons {t : DG} {u : DGs} {d : D} {r : List D} {ρ : Env} {S : Sto} {k : Env → Sto → Prop} {E : X1} : dgsC t u (d :: r) ρ S k E = t d ρ S (fun ρ' S' => u r ρ' S' k E) E :=
  propext ⟨fun ⟨_, _, e, h⟩ => by cases e; exact h, fun h => ⟨d, r, rfl, h⟩⟩
theorem sg_nil {ρ : Env} {S : Sto} {k : Env → Sto → Prop} {E : X1} : dgsN [] ρ S k E = k ρ S := propext ⟨fun h => h.2, fun h => ⟨rfl, h⟩⟩
theorem sg_tup {n : Nat} {t : DGs} {ds : List D} {ρ : Env} {S : Sto} {k : Env → Sto → Prop} {E : X1} : dgT n t (.tup ds) ρ S k E = (ds.length = n ∧ t ds ρ S k E) :=
  propext ⟨fun ⟨_, e, h⟩ => by cases e; exact h, fun h => ⟨ds, rfl, h⟩⟩
theorem s_int {i : Int} {S : Sto} {k : K1} : bInt [.int i] S k = k (.int i) S := by
  refine propext ⟨fun h => ?_, fun h => .inl ⟨i, rfl, h⟩⟩
  rcases h with ⟨j, e, h⟩ | ⟨j, e, h⟩
  · cases e; exact h
  · cases e
theorem s_intb {b : Bool} {S : Sto} {k : K1} : bInt [.bl b] S k = k (.int (if b then 1 else 0)) S := by
  refine propext ⟨fun h => ?_, fun h => .inr ⟨b, rfl, h⟩⟩
  rcases h with ⟨j, e, h⟩ | ⟨j, e, h⟩
  · cases e
  · cases e; exact h
theorem map_erase {α β : Type} {F : α → β} : ∀ (l : List α) (i : Nat), (l.map F).eraseIdx i = (l.eraseIdx i).map F
  | [], _ => rfl
  | _ :: _, 0 => rfl
  | a :: l, i + 1 => by simp [map_erase l i]
def irng (lo : Int) (n : Nat) : List Int := (List.range n).map fun (i : Nat) => lo + (i : Int)
theorem irng_length {lo : Int} {n : Nat} : (irng lo n).length = n := by simp [irng]
theorem rng_map {lo : Int} {n : Nat} : rngD lo n = (irng lo n).map D.int := by
  unfold rngD irng
  rw [List.map_map]
  rfl
theorem irng_mem {lo i : Int} {n : Nat} : i ∈ irng lo n ↔ lo ≤ i ∧ i < lo + n := by
  unfold irng
  constructor
  · intro h
    obtain ⟨j, hj, rfl⟩ := List.mem_map.mp h
    have := List.mem_range.mp hj
    exact ⟨by omega, by omega⟩
  · intro ⟨h1, h2⟩
    exact List.mem_map.mpr ⟨(i - lo).toNat, List.mem_range.mpr (by omega), by omega⟩
theorem Sto.set_set {S : Sto} {p : Addr} {c c' : Cell} : (S.set p c).set p c' = S.set p c' := by
  funext b
  by_cases h : b = p
  · subst h; rw [Sto.set_same, Sto.set_same]
  · rw [Sto.set_ne h, Sto.set_ne h, Sto.set_ne h]
theorem Sto.set_comm {S : Sto} {p q : Addr} {c c' : Cell} (h : p ≠ q) : (S.set p c).set q c' = (S.set q c').set p c := by
  funext b
  by_cases h1 : b = p
  · subst h1; rw [Sto.set_same, Sto.set_ne h, Sto.set_same]
  · by_cases h2 : b = q
    · subst h2; rw [Sto.set_same, Sto.set_ne h1, Sto.set_same]
    · rw [Sto.set_ne h2, Sto.set_ne h1, Sto.set_ne h1, Sto.set_ne h2]
/-- over ints, nothing changed -/
theorem lc_ints {t : DG} {ts : DT} {el : DE} {ρw : Env} {S : Sto} (R : Int → Option D) {k : List D → Sto → Prop} : ∀ (is : List Int) (acc : List D),
    (∀ i ∈ is, ∀ (K1 : D → Sto → Prop) (K2 : Sto → Prop), (match R i with | some y => K1 y S | none => K2 S) → t (.int i) ρw S (fun ρ1 S1 => ts ρ1 S1 (fun b S2 => if b = true then el ρ1 S2 K1 noX else K2 S2) noX) noX) →
    k (acc ++ is.filterMap R) S → dLcL t ts el ρw (is.map D.int) acc S k
  | [], acc, _, h => by simpa [dLcL] using h
  | i :: is, acc, hs, h => by
    show t (.int i) ρw S _ _
    refine hs i List.mem_cons_self _ _ ?_
    rw [List.filterMap_cons] at h
    cases q : R i with
    | none =>
      rw [q] at h
      exact lc_ints R is acc (fun x hx => hs x (List.mem_cons_of_mem _ hx)) h
    | some y =>
      rw [q] at h
      exact lc_ints R is (acc ++ [y]) (fun x hx => hs x (List.mem_cons_of_mem _ hx)) (by simpa using h)
theorem lc_map {t : DG} {ts : DT} {el : DE} {ρw : Env} {S : Sto} (F : Int → D) {k : List D → Sto → Prop} {is : List Int} {acc : List D}
    (hs : ∀ i ∈ is, ∀ (K1 : D → Sto → Prop) (K2 : Sto → Prop), K1 (F i) S → t (.int i) ρw S (fun ρ1 S1 => ts ρ1 S1 (fun b S2 => if b = true then el ρ1 S2 K1 noX else K2 S2) noX) noX)
    (h : k (acc ++ is.map F) S) : dLcL t ts el ρw (is.map D.int) acc S k :=
  lc_ints (fun i => some (F i)) is acc hs (by rw [List.filterMap_eq_map']; exact h)
/-! ### lists of ints, of bools, compared -/
theorem pys_ints {S : Sto} : ∀ ns : List Int, pysOf S (ns.map D.int) = some (ns.map PyData.int)
  | [] => rfl
  | n :: ns => by simp [pysOf, pyOf, pys_ints ns]
theorem pys_bools {S : Sto} : ∀ ns : List Bool, pysOf S (ns.map D.bl) = some (ns.map PyData.bool)
  | [] => rfl
  | n :: ns => by simp [pysOf, pyOf, pys_bools ns]
theorem eqv_bools : ∀ ns ms : List Bool, PyData.eqvAll (ns.map PyData.bool) (ms.map PyData.bool) = decide (ns = ms)
  | [], [] => by simp [PyData.eqvAll]
  | [], _ :: _ => by simp [PyData.eqvAll]
  | _ :: _, [] => by simp [PyData.eqvAll]
  | a :: r, b :: t => by
    simp only [List.map_cons, PyData.eqvAll, PyData.eqv, eqv_bools r t]
    cases a <;> cases b <;> simp
theorem eqv_ints : ∀ ns ms : List Int, PyData.eqvAll (ns.map PyData.int) (ms.map PyData.int) = decide (ns = ms)
  | [], [] => by simp [PyData.eqvAll]
  | [], _ :: _ => by simp [PyData.eqvAll]
  | _ :: _, [] => by simp [PyData.eqvAll]
  | a :: r, b :: t => by
    simp only [List.map_cons, PyData.eqvAll, PyData.eqv, eqv_ints r t]
    by_cases h : a = b <;> by_cases h' : r = t <;> simp [h, h']
theorem lay_ints : ∀ ns : List Int, PyData.canLayAll0 (ns.map PyData.int) = true ∧ PyData.depthAll (ns.map PyData.int) = 0
  | [] => ⟨rfl, rfl⟩
  | n :: ns => by
    obtain ⟨h1, h2⟩ := lay_ints ns
    exact ⟨by simp [PyData.canLayAll0, PyData.canLay0, h1], by simp [PyData.depthAll, PyData.depth, h2]⟩
theorem lay_bools : ∀ ns : List Bool, PyData.canLayAll0 (ns.map PyData.bool) = true ∧ PyData.depthAll (ns.map PyData.bool) = 0
  | [] => ⟨rfl, rfl⟩
  | n :: ns => by
    obtain ⟨h1, h2⟩ := lay_bools ns
    exact ⟨by simp [PyData.canLayAll0, PyData.canLay0, h1], by simp [PyData.depthAll, PyData.depth, h2]⟩
theorem shaped_ints (ns : List Int) : SeqAt.shaped (.list (ns.map .int)) = true ∧ SeqAt.shaped (.tuple (ns.map .int)) = true := by
  obtain ⟨h1, h2⟩ := lay_ints ns
  exact ⟨by simp [SeqAt.shaped, PyData.canLay0, PyData.depth, h1, h2], by simp [SeqAt.shaped, PyData.canLay0, PyData.depth, h1, h2]⟩
theorem shaped_bools (ns : List Bool) : SeqAt.shaped (.list (ns.map .bool)) = true := by
  obtain ⟨h1, h2⟩ := lay_bools ns
  simp [SeqAt.shaped, PyData.canLay0, PyData.depth, h1, h2]
/-- a list of ints, however it is held -/
def IsInts (S : Sto) (d : D) (ns : List Int) : Prop := pyT S d = some (.list (ns.map .int))
theorem isInts_lst {S : Sto} {ns : List Int} : IsInts S (.lst (ns.map .int)) ns := by
  show (pysOf S (ns.map D.int)).map PyData.list = _
  rw [pys_ints]; rfl
theorem isInts_mu {S : Sto} {p : Addr} {ns : List Int} (h : S p = some (.lst (ns.map .int))) : IsInts S (.mu p) ns := by
  show (match S p with
    | some (.lst ds) => (pysOf S ds).map PyData.list
    | _ => none) = _
  rw [h]
  simp only
  rw [pys_ints]; rfl
theorem isInts_nil {S : Sto} : IsInts S (.lst []) [] := rfl
theorem ne_ints {S : Sto} {x y : D} {ns ms : List Int} {k : K1} (hx : IsInts S x ns) (hy : IsInts S y ms) (h : k (.bl (!decide (ns = ms))) S) : fNe x y S k :=
  .inr ⟨_, _, hx, hy, (shaped_ints ns).1, (shaped_ints ms).1, by
    have e : PyData.eqv (.list (ns.map .int)) (.list (ms.map .int)) = decide (ns = ms) := by simp only [PyData.eqv]; exact eqv_ints ns ms
    rw [e]
    simpa using h⟩
theorem eq_ints {S : Sto} {x y : D} {ns ms : List Int} {k : K1} (hx : IsInts S x ns) (hy : IsInts S y ms) (h : k (.bl (decide (ns = ms))) S) : fEq x y S k :=
  .inr ⟨_, _, hx, hy, (shaped_ints ns).1, (shaped_ints ms).1, by
    have e : PyData.eqv (.list (ns.map .int)) (.list (ms.map .int)) = decide (ns = ms) := by simp only [PyData.eqv]; exact eqv_ints ns ms
    rw [e]
    simpa using h⟩
theorem pyT_tup {S : Sto} {ns : List Int} : pyT S (.tup (ns.map .int)) = some (.tuple (ns.map .int)) := by
  show (pysOf S (ns.map D.int)).map PyData.tuple = _
  rw [pys_ints]; rfl
theorem ne_tups {S : Sto} {ns ms : List Int} {k : K1} (h : k (.bl (!decide (ns = ms))) S) : fNe (.tup (ns.map .int)) (.tup (ms.map .int)) S k :=
  .inr ⟨_, _, pyT_tup, pyT_tup, (shaped_ints ns).2, (shaped_ints ms).2, by
    have e : PyData.eqv (.tuple (ns.map .int)) (.tuple (ms.map .int)) = decide (ns = ms) := by simp only [PyData.eqv]; exact eqv_ints ns ms
    rw [e]
    simpa using h⟩
theorem eq_tups {S : Sto} {ns ms : List Int} {k : K1} (h : k (.bl (decide (ns = ms))) S) : fEq (.tup (ns.map .int)) (.tup (ms.map .int)) S k :=
  .inr ⟨_, _, pyT_tup, pyT_tup, (shaped_ints ns).2, (shaped_ints ms).2, by
    have e : PyData.eqv (.tuple (ns.map .int)) (.tuple (ms.map .int)) = decide (ns = ms) := by simp only [PyData.eqv]; exact eqv_ints ns ms
    rw [e]
    simpa using h⟩
theorem eq_int {S : Sto} {a b : Int} {k : K1} (h : k (.bl (decide (a = b))) S) : fEq (.int a) (.int b) S k := .inl ⟨_, rfl, by simpa using h⟩
theorem ne_int {S : Sto} {a b : Int} {k : K1} (h : k (.bl (!decide (a = b))) S) : fNe (.int a) (.int b) S k := .inl ⟨_, rfl, by simpa using h⟩
theorem ne_str {S : Sto} {a b : Str} {k : K1} (h : k (.bl (!decide (a = b))) S) : fNe (.str a) (.str b) S k := .inl ⟨_, rfl, by simpa using h⟩
theorem str_ne : (Str.ofString "cells" = Str.ofString "spot") = False ∧ (Str.ofString "cells" = Str.ofString "great") = False ∧ (Str.ofString "great" = Str.ofString "spot") = False ∧ (Str.ofString "great" = Str.ofString "cells") = False ∧ (Str.ofString "spot" = Str.ofString "great") = False ∧ (Str.ofString "spot" = Str.ofString "cells") = False := by
  refine ⟨?_, ?_, ?_, ?_, ?_, ?_⟩ <;> exact eq_false (by decide)
/-- the law's dict -/
def mDct (c g s : D) : List (Key × D) := [(.inr "cells", c), (.inr "great", g), (.inr "spot", s)]
theorem mD_cells {c g s : D} : getK (mDct c g s) (.inr "cells") = some c := by simp [getK, mDct]
theorem mD_great {c g s : D} : getK (mDct c g s) (.inr "great") = some g := by simp [getK, mDct, str_ne]
theorem mD_spot {c g s : D} : getK (mDct c g s) (.inr "spot") = some s := by simp [getK, mDct, str_ne]
theorem mP_spot {c g s x : D} : putD (mDct c g s) (.inr "spot") x = mDct c g x := by simp [putD, mDct, str_ne]
theorem mP_great {c g s x : D} : putD (mDct c g s) (.inr "great") x = mDct c x s := by simp [putD, mDct, str_ne]
theorem mD_len {c g s : D} : (mDct c g s).length = 3 := rfl
theorem s_eqI {S : Sto} {a b : Int} {k : K1} : fEq (.int a) (.int b) S k = k (.bl (decide (a = b))) S := by
  refine propext ⟨fun h => ?_, DL.eq_int⟩
  rcases h with ⟨r, h1, h2⟩ | ⟨p, q, h1, h2, _, _, h3⟩
  · cases h1
    simpa using h2
  · cases h1
    cases h2
    have e : (a == b) = decide (a = b) := by by_cases h : a = b <;> simp [h]
    simpa [PyData.eqv, e] using h3
theorem s_neI {S : Sto} {a b : Int} {k : K1} : fNe (.int a) (.int b) S k = k (.bl (!decide (a = b))) S := by
  refine propext ⟨fun h => ?_, DL.ne_int⟩
  rcases h with ⟨r, h1, h2⟩ | ⟨p, q, h1, h2, _, _, h3⟩
  · cases h1
    simpa using h2
  · cases h1
    cases h2
    have e : (a == b) = decide (a = b) := by by_cases h : a = b <;> simp [h]
    simpa [PyData.eqv, e] using h3
/-! ### the law's draws: m its dict, gp its list of great numbers, f how many draws it has left -/
def DrI (S : Sto) (m gp : Addr) (f : Nat) : Prop := m ≠ gp ∧ ∃ (cs gs : List Int) (n : Int), S m = some (.dct (mDct (.lst (cs.map .int)) (.mu gp) (.int n))) ∧ S gp = some (.lst (gs.map .int)) ∧ cs.length = 64 ∧ 0 ≤ n ∧ n + (f : Int) ≤ 2 ^ 40
theorem DrI.less {S : Sto} {m gp : Addr} {f f' : Nat} (h : DrI S m gp f) (l : f' ≤ f) : DrI S m gp f' := by
  obtain ⟨h0, cs, gs, n, h1, h2, h3, h4, h5⟩ := h
  exact ⟨h0, cs, gs, n, h1, h2, h3, h4, by omega⟩
/-- what a piece that draws leaves alone -/
def Off (m gp : Addr) (S S' : Sto) : Prop := ∀ b c, b ≠ m → b ≠ gp → S b = some c → S' b = some c
theorem Off.refl {m gp : Addr} {S : Sto} : Off m gp S S := fun _ _ _ _ h => h
theorem Off.trans {m gp : Addr} {S S1 S2 : Sto} (a : Off m gp S S1) (b : Off m gp S1 S2) : Off m gp S S2 := fun x c h1 h2 h => b x c h1 h2 (a x c h1 h2 h)
theorem Off.new {m gp : Addr} {S : Sto} {p : Addr} {c : Cell} (n : S p = none) : Off m gp S (S.set p c) := fun b u _ _ h => by rw [Sto.set_ne (fun q => by rw [q, n] at h; cases h)]; exact h
theorem Off.del {m gp : Addr} {S S' : Sto} {p : Addr} (o : Off m gp S S') (n : S p = none) : Off m gp S (S'.del p) := fun b u h1 h2 h => by rw [Sto.del_ne (fun q => by rw [q, n] at h; cases h)]; exact o b u h1 h2 h
theorem Off.put {m gp : Addr} {S S' : Sto} {p : Addr} {c : Cell} (o : Off m gp S S') (n : S p = none) : Off m gp S (S'.set p c) := fun b u h1 h2 h => by rw [Sto.set_ne (fun q => by rw [q, n] at h; cases h)]; exact o b u h1 h2 h
theorem DrI.off {S : Sto} {m gp : Addr} {f : Nat} {p : Addr} {c : Cell} (h : DrI S m gp f) (n : S p = none) : DrI (S.set p c) m gp f ∧ p ≠ m ∧ p ≠ gp := by
  obtain ⟨h0, cs, gs, n', h1, h2, h3⟩ := h
  have a : m ≠ p := fun q => by rw [← q, h1] at n; cases n
  have b : gp ≠ p := fun q => by rw [← q, h2] at n; cases n
  exact ⟨⟨h0, cs, gs, n', by rw [Sto.set_ne a]; exact h1, by rw [Sto.set_ne b]; exact h2, h3⟩, Ne.symm a, Ne.symm b⟩
theorem DrI.keep {S S' : Sto} {m gp : Addr} {f : Nat} (h : DrI S m gp f) (e1 : S' m = S m) (e2 : S' gp = S gp) : DrI S' m gp f := by
  obtain ⟨h0, cs, gs, n', h1, h2, h3⟩ := h
  exact ⟨h0, cs, gs, n', by rw [e1]; exact h1, by rw [e2]; exact h2, h3⟩
/-- a list drawn, each number by one draw -/
theorem draws_ok {t : DG} {ts : DT} {el : DE} {ρw : DL.Env} {m gp : Addr} {S0 : Sto} {lo hi : Int} {k : List D → Sto → Prop}
    (step : ∀ (i : Int) (f : Nat) (S : Sto) (K1 : D → Sto → Prop) (K2 : Sto → Prop), DrI S m gp (f + 1) → (∀ r S', lo ≤ r → r < hi → DrI S' m gp f → Off m gp S S' → K1 (.int r) S') → t (.int i) ρw S (fun ρ1 S1 => ts ρ1 S1 (fun b S2 => if b = true then el ρ1 S2 K1 noX else K2 S2) noX) noX) :
    ∀ (is : List Int) (acc : List Int) (f : Nat) (S : Sto), (∀ z ∈ acc, lo ≤ z ∧ z < hi) → DrI S m gp (f + is.length) → Off m gp S0 S →
      (∀ (zs : List Int) (S' : Sto), zs.length = acc.length + is.length → (∀ z ∈ zs, lo ≤ z ∧ z < hi) → DrI S' m gp f → Off m gp S0 S' → k (zs.map .int) S') → dLcL t ts el ρw (is.map D.int) (acc.map .int) S k
  | [], acc, f, S, ha, hd, ho, hk => hk acc S rfl ha hd ho
  | i :: is, acc, f, S, ha, hd, ho, hk => by
    show t (.int i) ρw S _ _
    refine step i (f + is.length) S _ _ hd fun r S' h1 h2 hd' ho' => ?_
    have e : acc.map D.int ++ [.int r] = (acc ++ [r]).map D.int := by simp
    rw [e]
    refine draws_ok step is (acc ++ [r]) f S' (fun z hz => ?_) hd' (ho.trans ho') fun zs S2 hl hz => hk zs S2 (by simp at hl ⊢; omega) hz
    rcases List.mem_append.mp hz with hz | hz
    · exact ha z hz
    · obtain rfl : z = r := by simpa using hz
      exact ⟨h1, h2⟩
end DL
end
/-! ## DLS -/
section
set_option Elab.async false
set_option linter.all false
set_option maxRecDepth 100000
set_option maxHeartbeats 1000000
/-! a tuple of small ints is shown -/
namespace DL
open PySem PySem.Spec PyProof.Rows L2
theorem int_short {z : Int} (h : -999 ≤ z ∧ z ≤ 999) : (PyData.shown (.int z)).length ≤ 4 ∧ PyData.showable (.int z) = true := by
  have h1 : z.natAbs < 10 ^ 3 := by omega
  refine ⟨?_, ?_⟩
  · have := int_text_length_le10 (a := z) (k := 3) (by decide) h1
    simp only [PyData.shown]
    rw [PySem.ofString_length]
    exact this
  · simp only [PyData.showable, decide_eq_true_eq]
    have : z.natAbs.log2 < 1920 := by
      by_cases q : z.natAbs = 0
      · rw [q]; decide
      · exact (Nat.log2_lt q).mpr (Nat.lt_of_lt_of_le h1 (by
          exact Nat.le_trans (show 10 ^ 3 ≤ 2 ^ 10 by decide) (Nat.pow_le_pow_right (by decide) (by decide))))
    exact this
theorem show_ints : ∀ ns : List Int, (∀ z ∈ ns, -999 ≤ z ∧ z ≤ 999) → PyData.showableAll (ns.map PyData.int) = true ∧ PyData.hasDictAll (ns.map PyData.int) = false ∧ ((PyData.shownAll (ns.map PyData.int)).map (·.length)).sum ≤ 4 * ns.length ∧ (PyData.shownAll (ns.map PyData.int)).length = ns.length
  | [], _ => ⟨rfl, rfl, by simp [PyData.shownAll], rfl⟩
  | n :: ns, h => by
    obtain ⟨h1, h2, h3, h4⟩ := show_ints ns fun z hz => h z (List.mem_cons_of_mem _ hz)
    obtain ⟨a, b⟩ := int_short (h n List.mem_cons_self)
    refine ⟨by simp [PyData.showableAll, h1, b], by simp [PyData.hasDictAll, h2, PyData.hasDict], ?_, ?_⟩
    · simp only [List.map_cons, PyData.shownAll, List.sum_cons, List.length_cons]
      omega
    · simp only [List.map_cons, PyData.shownAll, List.length_cons, h4]
theorem shows_ints {ns : List Int} (hl : ns.length ≤ 20) (h : ∀ z ∈ ns, -999 ≤ z ∧ z ≤ 999) : shows (.tuple (ns.map .int)) = true := by
  obtain ⟨h1, h2, h3, h4⟩ := show_ints ns h
  have h5 := tupleText_len_le (PyData.shownAll (ns.map PyData.int))
  have d1 := (lay_ints ns).2
  have h6 : (PyData.shown (.tuple (ns.map .int))).length ≤ 16777216 := by
    simp only [PyData.shown]
    omega
  unfold shows
  simp only [PyData.showable, h1, PyData.hasDict, h2, PyData.depth, d1, h6]
  decide
theorem repr_tup {ns : List Int} {S : Sto} {k : K1} (hl : ns.length ≤ 20) (h : ∀ z ∈ ns, -999 ≤ z ∧ z ≤ 999) (hk : k (.str (PyData.shown (.tuple (ns.map .int)))) S) : bRepr [.tup (ns.map .int)] S k :=
  ⟨_, _, rfl, pyT_tup, ⟨_, rfl⟩, shows_ints hl h, hk⟩
end DL
end
/-! ## DLQ -/
section
set_option Elab.async false
set_option linter.all false
set_option maxRecDepth 100000
set_option maxHeartbeats 1000000
/-! typed readings of loops and comprehensions -/
namespace DL
open PySem PySem.Spec PyProof.Rows L2
@[simp] theorem q_dBody : type_of% @DL.dBody.eq_1 := @DL.dBody.eq_1
@[simp] theorem q_denv : type_of% @DL.denv.eq_1 := @DL.denv.eq_1
@[simp] theorem q_dSeq : type_of% @DL.dSeq.eq_1 := @DL.dSeq.eq_1
@[simp] theorem q_dSet : type_of% @DL.dSet.eq_1 := @DL.dSet.eq_1
@[simp] theorem q_dRet : type_of% @DL.dRet.eq_1 := @DL.dRet.eq_1
@[simp] theorem q_dRetN : type_of% @DL.dRetN.eq_1 := @DL.dRetN.eq_1
@[simp] theorem q_dDrop : type_of% @DL.dDrop.eq_1 := @DL.dDrop.eq_1
@[simp] theorem q_dIf : type_of% @DL.dIf.eq_1 := @DL.dIf.eq_1
@[simp] theorem q_dBrk : type_of% @DL.dBrk.eq_1 := @DL.dBrk.eq_1
@[simp] theorem q_dCnt : type_of% @DL.dCnt.eq_1 := @DL.dCnt.eq_1
@[simp] theorem q_dNev : type_of% @DL.dNev.eq_1 := @DL.dNev.eq_1
@[simp] theorem q_dSkip : type_of% @DL.dSkip.eq_1 := @DL.dSkip.eq_1
@[simp] theorem q_d2 : type_of% @DL.d2.eq_1 := @DL.d2.eq_1
@[simp] theorem q_d1 : type_of% @DL.d1.eq_1 := @DL.d1.eq_1
@[simp] theorem q_dVar : type_of% @DL.dVar.eq_1 := @DL.dVar.eq_1
@[simp] theorem q_dC : type_of% @DL.dC.eq_1 := @DL.dC.eq_1
@[simp] theorem q_dNot : type_of% @DL.dNot.eq_1 := @DL.dNot.eq_1
@[simp] theorem q_dAnd : type_of% @DL.dAnd.eq_1 := @DL.dAnd.eq_1
@[simp] theorem q_dOr : type_of% @DL.dOr.eq_1 := @DL.dOr.eq_1
@[simp] theorem q_dIfE : type_of% @DL.dIfE.eq_1 := @DL.dIfE.eq_1
@[simp] theorem q_dNil : type_of% @DL.dNil.eq_1 := @DL.dNil.eq_1
@[simp] theorem q_dCons : type_of% @DL.dCons.eq_1 := @DL.dCons.eq_1
@[simp] theorem q_dStar : type_of% @DL.dStar.eq_1 := @DL.dStar.eq_1
@[simp] theorem q_dTup : type_of% @DL.dTup.eq_1 := @DL.dTup.eq_1
@[simp] theorem q_dSz : type_of% @DL.dSz.eq_1 := @DL.dSz.eq_1
@[simp] theorem q_dFrz : type_of% @DL.dFrz.eq_1 := @DL.dFrz.eq_1
@[simp] theorem q_dMut : type_of% @DL.dMut.eq_1 := @DL.dMut.eq_1
@[simp] theorem q_dFz : type_of% @DL.dFz.eq_1 := @DL.dFz.eq_1
@[simp] theorem q_dCall : type_of% @DL.dCall.eq_1 := @DL.dCall.eq_1
@[simp] theorem q_dStr1 : type_of% @DL.dStr1.eq_1 := @DL.dStr1.eq_1
@[simp] theorem q_iOp : type_of% @DL.iOp.eq_1 := @DL.iOp.eq_1
@[simp] theorem q_iOp0 : type_of% @DL.iOp0.eq_1 := @DL.iOp0.eq_1
@[simp] theorem q_fNeg : type_of% @DL.fNeg.eq_1 := @DL.fNeg.eq_1
@[simp] theorem q_fIsN : type_of% @DL.fIsN.eq_1 := @DL.fIsN.eq_1
@[simp] theorem q_dM2 : type_of% @DL.dM2.eq_1 := @DL.dM2.eq_1
@[simp] theorem q_fCat : type_of% @DL.fCat.eq_1 := @DL.fCat.eq_1
@[simp] theorem q_fRepL : type_of% @DL.fRepL.eq_1 := @DL.fRepL.eq_1
@[simp] theorem q_fCatT : type_of% @DL.fCatT.eq_1 := @DL.fCatT.eq_1
@[simp] theorem q_fIx : type_of% @DL.fIx.eq_1 := @DL.fIx.eq_1
@[simp] theorem q_dBi : type_of% @DL.dBi.eq_1 := @DL.dBi.eq_1
@[simp] theorem q_dBiM : type_of% @DL.dBiM.eq_1 := @DL.dBiM.eq_1
@[simp] theorem q_bLen : type_of% @DL.bLen.eq_1 := @DL.bLen.eq_1
@[simp] theorem q_s_int : type_of% @DL.s_int := @DL.s_int
@[simp] theorem q_s_intb : type_of% @DL.s_intb := @DL.s_intb
@[simp] theorem q_bBool : type_of% @DL.bBool.eq_1 := @DL.bBool.eq_1
@[simp] theorem q_bList : type_of% @DL.bList.eq_1 := @DL.bList.eq_1
@[simp] theorem q_bTuple : type_of% @DL.bTuple.eq_1 := @DL.bTuple.eq_1
@[simp] theorem q_bMax2 : type_of% @DL.bMax2.eq_1 := @DL.bMax2.eq_1
@[simp] theorem q_bMin2 : type_of% @DL.bMin2.eq_1 := @DL.bMin2.eq_1
@[simp] theorem q_bSorted : type_of% @DL.bSorted.eq_1 := @DL.bSorted.eq_1
@[simp] theorem q_dgN : type_of% @DL.dgN.eq_1 := @DL.dgN.eq_1
@[simp] theorem q_sg_cons : type_of% @DL.sg_cons := @DL.sg_cons
@[simp] theorem q_sg_nil : type_of% @DL.sg_nil := @DL.sg_nil
@[simp] theorem q_sg_tup : type_of% @DL.sg_tup := @DL.sg_tup
@[simp] theorem q_wipeE : type_of% @DL.wipeE.eq_1 := @DL.wipeE.eq_1
@[simp] theorem q_wipeE_1 : type_of% @DL.wipeE.eq_2 := @DL.wipeE.eq_2
@[simp] theorem q_dgQ : type_of% @DL.dgQ.eq_1 := @DL.dgQ.eq_1
@[simp] theorem q_dAsg : type_of% @DL.dAsg.eq_1 := @DL.dAsg.eq_1
@[simp] theorem q_dPar : type_of% @DL.dPar.eq_1 := @DL.dPar.eq_1
@[simp] theorem q_wList : type_of% @DL.wList.eq_1 := @DL.wList.eq_1
@[simp] theorem q_wTup : type_of% @DL.wTup.eq_1 := @DL.wTup.eq_1
@[simp] theorem q_wRng1 : type_of% @DL.wRng1.eq_1 := @DL.wRng1.eq_1
@[simp] theorem q_wRng2 : type_of% @DL.wRng2.eq_1 := @DL.wRng2.eq_1
@[simp] theorem q_wEnum : type_of% @DL.wEnum.eq_1 := @DL.wEnum.eq_1
@[simp] theorem q_wEnumT : type_of% @DL.wEnumT.eq_1 := @DL.wEnumT.eq_1
@[simp] theorem q_dFor : type_of% @DL.dFor.eq_1 := @DL.dFor.eq_1
@[simp] theorem q_fDGet : type_of% @DL.fDGet.eq_1 := @DL.fDGet.eq_1
@[simp] theorem q_dDPut : type_of% @DL.dDPut.eq_1 := @DL.dDPut.eq_1
@[simp] theorem q_dLPut : type_of% @DL.dLPut.eq_1 := @DL.dLPut.eq_1
@[simp] theorem q_dMt : type_of% @DL.dMt.eq_1 := @DL.dMt.eq_1
@[simp] theorem q_lAppend : type_of% @DL.lAppend.eq_1 := @DL.lAppend.eq_1
@[simp] theorem q_lPop : type_of% @DL.lPop.eq_1 := @DL.lPop.eq_1
@[simp] theorem q_lPopAt : type_of% @DL.lPopAt.eq_1 := @DL.lPopAt.eq_1
@[simp] theorem q_lInsert : type_of% @DL.lInsert.eq_1 := @DL.lInsert.eq_1
@[simp] theorem q_dLRg1 : type_of% @DL.dLRg1.eq_1 := @DL.dLRg1.eq_1
@[simp] theorem q_dLRg2 : type_of% @DL.dLRg2.eq_1 := @DL.dLRg2.eq_1
@[simp] theorem q_CMulX : type_of% @DL.CMulX.eq_1 := @DL.CMulX.eq_1
@[simp] theorem q_CMul : type_of% @L2.CMul.eq_1 := @L2.CMul.eq_1
@[simp] theorem q_CMulW : type_of% @L2.CMulW.eq_1 := @L2.CMulW.eq_1
@[simp] theorem q_CDivX : type_of% @DL.CDivX.eq_1 := @DL.CDivX.eq_1
@[simp] theorem q_CDiv : type_of% @L2.CDiv.eq_1 := @L2.CDiv.eq_1
@[simp] theorem q_CPow : type_of% @L2.CPow.eq_1 := @L2.CPow.eq_1
@[simp] theorem q_dctOf : type_of% @DL.dctOf.eq_1 := @DL.dctOf.eq_1
@[simp] theorem q_dctOf_1 : type_of% @DL.dctOf.eq_2 := @DL.dctOf.eq_2
@[simp] theorem q_dctOf_2 : type_of% @DL.dctOf.eq_3 := @DL.dctOf.eq_3
@[simp] theorem q_keyD : type_of% @DL.keyD.eq_1 := @DL.keyD.eq_1
@[simp] theorem q_keyD_1 : type_of% @DL.keyD.eq_2 := @DL.keyD.eq_2
@[simp] theorem q_keyD_2 : type_of% @DL.keyD.eq_3 := @DL.keyD.eq_3
@[simp] theorem q_lstOf : type_of% @DL.lstOf.eq_1 := @DL.lstOf.eq_1
@[simp] theorem q_lstOf_1 : type_of% @DL.lstOf.eq_2 := @DL.lstOf.eq_2
@[simp] theorem q_lstOf_2 : type_of% @DL.lstOf.eq_3 := @DL.lstOf.eq_3
@[simp] theorem q_seqOf : type_of% @DL.seqOf.eq_1 := @DL.seqOf.eq_1
@[simp] theorem q_seqOf_1 : type_of% @DL.seqOf.eq_2 := @DL.seqOf.eq_2
@[simp] theorem q_seqOf_2 : type_of% @DL.seqOf.eq_3 := @DL.seqOf.eq_3
@[simp] theorem q_lstOrScr : type_of% @DL.lstOrScr.eq_1 := @DL.lstOrScr.eq_1
@[simp] theorem q_lstOrScr_1 : type_of% @DL.lstOrScr.eq_2 := @DL.lstOrScr.eq_2
@[simp] theorem q_dLc : type_of% @DL.dLc.eq_1 := @DL.dLc.eq_1
@[simp] theorem q_dYes : type_of% @DL.dYes.eq_1 := @DL.dYes.eq_1
@[simp] theorem q_dDsp : type_of% @DL.dDsp.eq_1 := @DL.dDsp.eq_1
@[simp] theorem q_dPrs : type_of% @DL.dPrs.eq_1 := @DL.dPrs.eq_1
@[simp] theorem q_dPrs_1 : type_of% @DL.dPrs.eq_2 := @DL.dPrs.eq_2
@[simp] theorem q_mD_cells : type_of% @DL.mD_cells := @DL.mD_cells
@[simp] theorem q_mD_great : type_of% @DL.mD_great := @DL.mD_great
@[simp] theorem q_mD_spot : type_of% @DL.mD_spot := @DL.mD_spot
@[simp] theorem q_mP_spot : type_of% @DL.mP_spot := @DL.mP_spot
@[simp] theorem q_mP_great : type_of% @DL.mP_great := @DL.mP_great
@[simp] theorem q_mD_len : type_of% @DL.mD_len := @DL.mD_len
@[simp] theorem q_dProp : type_of% @DL.dProp.eq_1 := @DL.dProp.eq_1
@[simp] theorem q_dFld : type_of% @DL.dFld.eq_1 := @DL.dFld.eq_1
@[simp] theorem q_dPutF : type_of% @DL.dPutF.eq_1 := @DL.dPutF.eq_1
@[simp] theorem q_dIsi : type_of% @DL.dIsi.eq_1 := @DL.dIsi.eq_1
@[simp] theorem q_dMkLS : type_of% @DL.dMkLS.eq_1 := @DL.dMkLS.eq_1
@[simp] theorem q_dCMeth : type_of% @DL.dCMeth.eq_1 := @DL.dCMeth.eq_1
@[simp] theorem q_dBinB : type_of% @DL.dBinB.eq_1 := @DL.dBinB.eq_1
@[simp] theorem q_dSlM : type_of% @DL.dSlM.eq_1 := @DL.dSlM.eq_1
@[simp] theorem q_dONone : type_of% @DL.dONone.eq_1 := @DL.dONone.eq_1
@[simp] theorem q_dOSome : type_of% @DL.dOSome.eq_1 := @DL.dOSome.eq_1
@[simp] theorem q_dBackL : type_of% @DL.dBackL.eq_1 := @DL.dBackL.eq_1
@[simp] theorem q_dBackT : type_of% @DL.dBackT.eq_1 := @DL.dBackT.eq_1
@[simp] theorem q_dSl : type_of% @DL.dSl.eq_1 := @DL.dSl.eq_1
@[simp] theorem q_fSlT : type_of% @DL.fSlT.eq_1 := @DL.fSlT.eq_1
@[simp] theorem q_insOf : type_of% @DL.insOf.eq_1 := @DL.insOf.eq_1
@[simp] theorem q_insOf_1 : type_of% @DL.insOf.eq_2 := @DL.insOf.eq_2
@[simp] theorem q_insOf_2 : type_of% @DL.insOf.eq_3 := @DL.insOf.eq_3
@[simp] theorem q_tyOf : type_of% @DL.tyOf.eq_1 := @DL.tyOf.eq_1
@[simp] theorem q_tyOf_1 : type_of% @DL.tyOf.eq_2 := @DL.tyOf.eq_2
@[simp] theorem q_tyOf_2 : type_of% @DL.tyOf.eq_3 := @DL.tyOf.eq_3
@[simp] theorem q_tyOf_3 : type_of% @DL.tyOf.eq_4 := @DL.tyOf.eq_4
@[simp] theorem q_tyOf_4 : type_of% @DL.tyOf.eq_5 := @DL.tyOf.eq_5
@[simp] theorem q_tyOf_5 : type_of% @DL.tyOf.eq_6 := @DL.tyOf.eq_6
@[simp] theorem q_tyOf_6 : type_of% @DL.tyOf.eq_7 := @DL.tyOf.eq_7
@[simp] theorem q_tyOf_7 : type_of% @DL.tyOf.eq_8 := @DL.tyOf.eq_8
@[simp] theorem q_tyOf_8 : type_of% @DL.tyOf.eq_9 := @DL.tyOf.eq_9
@[simp] theorem q_tyOf_9 : type_of% @DL.tyOf.eq_10 := @DL.tyOf.eq_10
@[simp] theorem q_tyOf_10 : type_of% @DL.tyOf.eq_11 := @DL.tyOf.eq_11
@[simp] theorem q_dSortSC : type_of% @DL.dSortSC.eq_1 := @DL.dSortSC.eq_1
@[simp] theorem q_dSortS : type_of% @DL.dSortS.eq_1 := @DL.dSortS.eq_1
@[simp] theorem q_s_eqI : type_of% @DL.s_eqI := @DL.s_eqI
@[simp] theorem q_s_neI : type_of% @DL.s_neI := @DL.s_neI
@[simp] theorem q_wZip : type_of% @DL.wZip.eq_1 := @DL.wZip.eq_1
@[simp] theorem q_bMin : type_of% @DL.bMin.eq_1 := @DL.bMin.eq_1
@[simp] theorem q_dGc : type_of% @DL.dGc.eq_1 := @DL.dGc.eq_1
@[simp] theorem q_dFgt : type_of% @DL.dFgt.eq_1 := @DL.dFgt.eq_1
@[simp] theorem q_dFgtB : type_of% @DL.dFgtB.eq_1 := @DL.dFgtB.eq_1
@[simp] theorem q_dgSF : type_of% @DL.dgSF.eq_1 := @DL.dgSF.eq_1
@[simp] theorem q_dgSL : type_of% @DL.dgSL.eq_1 := @DL.dgSL.eq_1
@[simp] theorem q_dPar3 : type_of% @DL.dPar3.eq_1 := @DL.dPar3.eq_1
@[simp] theorem q_dSup : type_of% @DL.dSup.eq_1 := @DL.dSup.eq_1
@[simp] theorem q_dMeth : type_of% @DL.dMeth.eq_1 := @DL.dMeth.eq_1
@[simp] theorem q_dBinA : type_of% @DL.dBinA.eq_1 := @DL.dBinA.eq_1
@[simp] theorem q_bSum : type_of% @DL.bSum.eq_1 := @DL.bSum.eq_1
@[simp] theorem q_bAny : type_of% @DL.bAny.eq_1 := @DL.bAny.eq_1
@[simp] theorem q_bAll : type_of% @DL.bAll.eq_1 := @DL.bAll.eq_1
@[simp] theorem q_bMax : type_of% @DL.bMax.eq_1 := @DL.bMax.eq_1
@[simp] theorem q_fCatS : type_of% @DL.fCatS.eq_1 := @DL.fCatS.eq_1
@[simp] theorem q_fIn : type_of% @DL.fIn.eq_1 := @DL.fIn.eq_1
@[simp] theorem q_fRep : type_of% @DL.fRep.eq_1 := @DL.fRep.eq_1
/-- a bool, and what is so of it -/
def isB (x : D) (P : Bool → Prop) : Prop := ∃ b, x = .bl b ∧ P b
@[simp] theorem isB_bl {b : Bool} {P : Bool → Prop} : isB (.bl b) P = P b := propext ⟨fun ⟨_, e, h⟩ => by cases e; exact h, fun h => ⟨b, rfl, h⟩⟩
@[simp] theorem isB_ite {c : Prop} [Decidable c] {x y : D} {P : Bool → Prop} : isB (if c then x else y) P = if c then isB x P else isB y P := by split <;> rfl
@[simp] theorem q_dTst (f : DE) (ρ : DL.Env) (S : Sto) (k : Bool → Sto → Prop) (E : X1) : dTst f ρ S k E = (f ρ S (fun x S1 => isB x fun b => k b S1) E) := rfl
@[simp] theorem q_dAndV (f f' : DE) (ρ : DL.Env) (S : Sto) (k : K1) (E : X1) : dAndV f f' ρ S k E = (f ρ S (fun x S1 => isB x fun b => if b = true then f' ρ S1 k E else k (.bl false) S1) E) := rfl
@[simp] theorem q_dOrV (f f' : DE) (ρ : DL.Env) (S : Sto) (k : K1) (E : X1) : dOrV f f' ρ S k E = (f ρ S (fun x S1 => isB x fun b => if b = true then k (.bl true) S1 else f' ρ S1 k E) E) := rfl
@[simp] theorem q_dNotV (f : DE) (ρ : DL.Env) (S : Sto) (k : K1) (E : X1) : dNotV f ρ S k E = (f ρ S (fun x S1 => isB x fun b => k (.bl (!b)) S1) E) := rfl
@[simp] theorem q_dChn (h h' : DOp) (f f' f'' : DE) (ρ : DL.Env) (S : Sto) (k : K1) (E : X1) : dChn h h' f f' f'' ρ S k E = (f ρ S (fun x S1 => f' ρ S1 (fun y S2 => h x y S2 fun z S3 => isB z fun b => if b = true then f'' ρ S3 (fun u S4 => h' y u S4 k) E else k (.bl false) S3) E) E) := rfl
@[simp] theorem q_dOEq (neg : Bool) (ms : List (Nat × DFn)) (rs : List Nat) (fa fb : DE) (ρ : DL.Env) (S : Sto) (k : K1) (E : X1) : dOEq neg ms rs fa fb ρ S k E = (fa ρ S (fun x S1 => fb ρ S1 (fun y S2 => ∃ c fs d fs' wf, insOf S2 x = some (c, fs) ∧ insOf S2 y = some (d, fs') ∧ ms.lookup c = some wf ∧ rs.contains d = true ∧ wf [x, y] S2 (fun r S3 => isB r fun b => k (.bl (neg ^^ b)) S3) E) E) E) := rfl
@[simp] theorem q_dInO (neg : Bool) (ms : List (Nat × DFn)) (fa fb : DE) (ρ : DL.Env) (S : Sto) (k : K1) (E : X1) : dInO neg ms fa fb ρ S k E = (fa ρ S (fun x S1 => fb ρ S1 (fun y S2 => ∃ c fs wf, insOf S2 y = some (c, fs) ∧ ms.lookup c = some wf ∧ wf [y, x] S2 (fun r S3 => isB r fun b => k (.bl (neg ^^ b)) S3) E) E) E) := rfl
@[simp] theorem q_and_assoc : type_of% @and_assoc := @and_assoc
@[simp] theorem sz_zero : sz 0 = True := eq_true (sz_of (by omega))
@[simp] theorem sz_le {n : Nat} (h : n ≤ 16777216) : sz n = True := eq_true (sz_of h)
@[simp] theorem lookup_miss {β : Type} {a k : Nat} {b : β} {l : List (Nat × β)} (h : (a == k) = false) : List.lookup a ((k, b) :: l) = List.lookup a l := by simp [List.lookup, h]
theorem map_int_inj : ∀ {a b : List Int}, a.map D.int = b.map D.int → a = b
  | [], [], _ => rfl
  | [], _ :: _, h => by simp at h
  | _ :: _, [], h => by simp at h
  | x :: a, y :: b, h => by
    simp only [List.map_cons, List.cons.injEq, D.int.injEq] at h
    rw [h.1, map_int_inj h.2]
@[simp] theorem ints_inj {a b : List Int} : (a.map D.int = b.map D.int) = (a = b) := propext ⟨map_int_inj, fun h => by rw [h]⟩
@[simp] theorem ints_app {xs : List Int} {x : Int} {a : List Int} : (xs.map D.int ++ [D.int x] = a.map D.int) = (xs ++ [x] = a) := by
  have e : xs.map D.int ++ [D.int x] = (xs ++ [x]).map D.int := by simp
  rw [e, ints_inj]
@[simp] theorem ints_app2 {xs ys : List Int} {a : List Int} : (xs.map D.int ++ ys.map D.int = a.map D.int) = (xs ++ ys = a) := by
  have e : xs.map D.int ++ ys.map D.int = (xs ++ ys).map D.int := by simp
  rw [e, ints_inj]
@[simp] theorem ints_rev {xs : List Int} {a : List Int} : ((xs.map D.int).reverse = a.map D.int) = (xs.reverse = a) := by
  have e : (xs.map D.int).reverse = xs.reverse.map D.int := by simp
  rw [e, ints_inj]
theorem map_bl_inj : ∀ {a b : List Bool}, a.map D.bl = b.map D.bl → a = b
  | [], [], _ => rfl
  | [], _ :: _, h => by simp at h
  | _ :: _, [], h => by simp at h
  | x :: a, y :: b, h => by
    simp only [List.map_cons, List.cons.injEq, D.bl.injEq] at h
    rw [h.1, map_bl_inj h.2]
@[simp] theorem bls_inj {a b : List Bool} : (a.map D.bl = b.map D.bl) = (a = b) := propext ⟨map_bl_inj, fun h => by rw [h]⟩
theorem fEq_iff {x y : D} {p q : PyData} {S : Sto} {k : K1} (h0 : scl x y = none) (h1 : pyT S x = some p) (h2 : pyT S y = some q) (h3 : SeqAt.shaped p = true) (h4 : SeqAt.shaped q = true) : fEq x y S k = k (.bl (PyData.eqv p q)) S := by
  refine propext ⟨fun h => ?_, fun h => .inr ⟨p, q, h1, h2, h3, h4, by simpa using h⟩⟩
  rcases h with ⟨b, e, _⟩ | ⟨p', q', e1, e2, _, _, h⟩
  · rw [h0] at e; cases e
  · rw [h1] at e1; rw [h2] at e2; cases e1; cases e2; simpa using h
theorem fNe_iff {x y : D} {p q : PyData} {S : Sto} {k : K1} (h0 : scl x y = none) (h1 : pyT S x = some p) (h2 : pyT S y = some q) (h3 : SeqAt.shaped p = true) (h4 : SeqAt.shaped q = true) : fNe x y S k = k (.bl (!PyData.eqv p q)) S := by
  refine propext ⟨fun h => ?_, fun h => .inr ⟨p, q, h1, h2, h3, h4, by simpa using h⟩⟩
  rcases h with ⟨b, e, _⟩ | ⟨p', q', e1, e2, _, _, h⟩
  · rw [h0] at e; cases e
  · rw [h1] at e1; rw [h2] at e2; cases e1; cases e2; simpa using h
theorem eqv_L (a b : List Int) : PyData.eqv (.list (a.map .int)) (.list (b.map .int)) = decide (a = b) := by simp only [PyData.eqv]; exact eqv_ints a b
theorem eqv_T (a b : List Int) : PyData.eqv (.tuple (a.map .int)) (.tuple (b.map .int)) = decide (a = b) := by simp only [PyData.eqv]; exact eqv_ints a b
@[simp] theorem s_eqL {a b : List Int} {S : Sto} {k : K1} : fEq (.lst (a.map .int)) (.lst (b.map .int)) S k = k (.bl (decide (a = b))) S := by rw [fEq_iff rfl isInts_lst isInts_lst (shaped_ints a).1 (shaped_ints b).1, eqv_L]
@[simp] theorem s_neL {a b : List Int} {S : Sto} {k : K1} : fNe (.lst (a.map .int)) (.lst (b.map .int)) S k = k (.bl (!decide (a = b))) S := by rw [fNe_iff rfl isInts_lst isInts_lst (shaped_ints a).1 (shaped_ints b).1, eqv_L]
@[simp] theorem s_eqL0 {a : List Int} {S : Sto} {k : K1} : fEq (.lst (a.map .int)) (.lst []) S k = k (.bl (decide (a = []))) S := s_eqL (b := [])
@[simp] theorem s_neL0 {a : List Int} {S : Sto} {k : K1} : fNe (.lst (a.map .int)) (.lst []) S k = k (.bl (!decide (a = []))) S := s_neL (b := [])
@[simp] theorem s_eqL00 {S : Sto} {k : K1} : fEq (.lst []) (.lst []) S k = k (.bl true) S := s_eqL (a := []) (b := [])
@[simp] theorem s_neL00 {S : Sto} {k : K1} : fNe (.lst []) (.lst []) S k = k (.bl false) S := s_neL (a := []) (b := [])
@[simp] theorem s_eqTT {a b : List Int} {S : Sto} {k : K1} : fEq (.tup (a.map .int)) (.tup (b.map .int)) S k = k (.bl (decide (a = b))) S := by rw [fEq_iff rfl pyT_tup pyT_tup (shaped_ints a).2 (shaped_ints b).2, eqv_T]
@[simp] theorem s_neTT {a b : List Int} {S : Sto} {k : K1} : fNe (.tup (a.map .int)) (.tup (b.map .int)) S k = k (.bl (!decide (a = b))) S := by rw [fNe_iff rfl pyT_tup pyT_tup (shaped_ints a).2 (shaped_ints b).2, eqv_T]
@[simp] theorem seqOf_lst {S : Sto} {ds : List D} : seqOf S (.lst ds) = some ds := rfl
@[simp] theorem seqOf_tup {S : Sto} {ds : List D} : seqOf S (.tup ds) = some ds := rfl
@[simp] theorem seqOf_scr {S : Sto} {ds : List D} : seqOf S (.scr ds) = some ds := rfl
@[simp] theorem q_dRem : type_of% @DL.dRem.eq_1 := @DL.dRem.eq_1
@[simp] theorem q_lExtend : type_of% @DL.lExtend.eq_1 := @DL.lExtend.eq_1
@[simp] theorem q_lenO : type_of% @DL.lenO.eq_1 := @DL.lenO.eq_1
@[simp] theorem q_dNegO : type_of% @DL.dNegO.eq_1 := @DL.dNegO.eq_1
@[simp] theorem atI_0 {α : Type} {x : α} {xs : List α} : atI (x :: xs) 0 = some x := by rw [atI_nat (by omega) (by simp)]; rfl
@[simp] theorem atI_1 {α : Type} {x y : α} {xs : List α} : atI (x :: y :: xs) 1 = some y := by rw [atI_nat (by omega) (by simp; omega)]; rfl
@[simp] theorem atI_2 {α : Type} {x y z : α} {xs : List α} : atI (x :: y :: z :: xs) 2 = some z := by rw [atI_nat (by omega) (by simp; omega)]; rfl
@[simp] theorem s_eqB {a b : Bool} {S : Sto} {k : K1} : fEq (.bl a) (.bl b) S k = k (.bl (decide (a = b))) S := by
  refine propext ⟨fun h => ?_, fun h => .inl ⟨_, rfl, by simpa using h⟩⟩
  rcases h with ⟨r, h1, h2⟩ | ⟨p, q, h1, h2, _, _, h3⟩
  · cases h1
    simpa using h2
  · cases h1; cases h2
    have e : PyData.eqv (.bool a) (.bool b) = decide (a = b) := by cases a <;> cases b <;> rfl
    simpa [e] using h3
@[simp] theorem s_neB {a b : Bool} {S : Sto} {k : K1} : fNe (.bl a) (.bl b) S k = k (.bl (!decide (a = b))) S := by
  refine propext ⟨fun h => ?_, fun h => .inl ⟨_, rfl, by simpa using h⟩⟩
  rcases h with ⟨r, h1, h2⟩ | ⟨p, q, h1, h2, _, _, h3⟩
  · cases h1
    simpa using h2
  · cases h1; cases h2
    have e : PyData.eqv (.bool a) (.bool b) = decide (a = b) := by cases a <;> cases b <;> rfl
    simpa [e] using h3
@[simp] theorem ofS_inj {a b : String} : (Str.ofString a = Str.ofString b) = (a = b) := by
  refine propext ⟨fun h => ?_, fun h => by rw [h]⟩
  rw [Str.ofString_eq_toList, Str.ofString_eq_toList] at h
  have h2 : a.toList.map Char.toNat = b.toList.map Char.toNat := by simpa using h
  have inj : ∀ l m : List Char, l.map Char.toNat = m.map Char.toNat → l = m := by
    intro l
    induction l with
    | nil => intro m h; cases m with | nil => rfl | cons _ _ => simp at h
    | cons c l ih =>
      intro m h
      cases m with
      | nil => simp at h
      | cons d m =>
        simp only [List.map_cons, List.cons.injEq] at h
        rw [ih m h.2, Char.toNat_inj.mp h.1]
  exact String.toList_inj.mp (inj _ _ h2)
@[simp] theorem s_eqS {a b : Str} {S : Sto} {k : K1} : fEq (.str a) (.str b) S k = k (.bl (decide (a = b))) S := by
  refine propext ⟨fun h => ?_, fun h => .inl ⟨_, rfl, by simpa using h⟩⟩
  rcases h with ⟨r, h1, h2⟩ | ⟨p, q, h1, h2, _, _, h3⟩
  · cases h1
    simpa using h2
  · cases h1; cases h2
    have e : PyData.eqv (.str a) (.str b) = decide (a = b) := by
      simp only [PyData.eqv]
      by_cases q : a = b <;> simp [q]
    simpa [e] using h3
@[simp] theorem s_neS {a b : Str} {S : Sto} {k : K1} : fNe (.str a) (.str b) S k = k (.bl (!decide (a = b))) S := by
  refine propext ⟨fun h => ?_, fun h => .inl ⟨_, rfl, by simpa using h⟩⟩
  rcases h with ⟨r, h1, h2⟩ | ⟨p, q, h1, h2, _, _, h3⟩
  · cases h1
    simpa using h2
  · cases h1; cases h2
    have e : PyData.eqv (.str a) (.str b) = decide (a = b) := by
      simp only [PyData.eqv]
      by_cases q : a = b <;> simp [q]
    simpa [e] using h3
@[simp] theorem q_dgTL : type_of% @DL.dgTL.eq_1 := @DL.dgTL.eq_1
@[simp] theorem lstOrScr_lst {S : Sto} {ds : List D} : lstOrScr S (.lst ds) = some ds := rfl
@[simp] theorem lstOrScr_scr {S : Sto} {ds : List D} : lstOrScr S (.scr ds) = some ds := rfl
@[simp] theorem lstOf_lst {S : Sto} {ds : List D} : lstOf S (.lst ds) = some ds := rfl
@[simp] theorem s_eqT2 {a b c d : Int} {S : Sto} {k : K1} : fEq (.tup [.int a, .int b]) (.tup [.int c, .int d]) S k = k (.bl (decide (a = c ∧ b = d))) S := by
  have := s_eqTT (a := [a, b]) (b := [c, d]) (S := S) (k := k)
  simpa using this
theorem repr_cl {d : D} {p : PyData} {xs : List D} {S : Sto} {k : K1} (h1 : pyT S d = some p) (h2 : seqOf S d = some xs) (h3 : shows p = true) (h : k (.str p.shown) S) : bRepr [d] S k := ⟨d, p, rfl, h1, ⟨xs, h2⟩, h3, h⟩
theorem gc {P : Sto → Prop} {S S' : Sto} (s : Sub S S') (h : P S) : ∃ S2, Sub S2 S' ∧ P S2 := ⟨S, s, h⟩
/-- a for over values of one type, by an invariant over what is left and the state -/
theorem for_st {α σ : Type} {enc : α → D} {env : σ → DL.Env} {sto : σ → Sto} (I : List α → σ → Prop) {t : DG} {body : DS} {DD : DEnds}
    (step : ∀ x xs st, I (x :: xs) st → ∀ K : DL.Env → Sto → Prop, (∀ st', I xs st' → K (env st') (sto st')) → t (enc x) (env st) (sto st) (fun ρ1 S1 => body ρ1 S1 { DD with nx := K, ct := K, bk := DD.nx }) fun _ _ _ => False)
    (fin : ∀ st, I [] st → DD.nx (env st) (sto st)) : ∀ (xs : List α) (st : σ), I xs st → dForL t body (xs.map enc) (env st) (sto st) DD
  | [], st, h => fin st h
  | x :: xs, st, h => step x xs st h _ fun st' h' => for_st I step fin xs st' h'
/-- a comprehension that changes nothing -/
theorem lc_fm {α : Type} {enc : α → D} (p : α → Bool) (f : α → D) {t : DG} {ts : DT} {el : DE} {ρw : DL.Env} {S : Sto} {k : List D → Sto → Prop} : ∀ {xs : List α} {acc : List D},
    (∀ x ∈ xs, ∀ (K1 : D → Sto → Prop) (K2 : Sto → Prop), (p x = true → K1 (f x) S) → (p x = false → K2 S) → t (enc x) ρw S (fun ρ1 S1 => ts ρ1 S1 (fun b S2 => if b = true then el ρ1 S2 K1 noX else K2 S2) noX) noX) →
    k (acc ++ (xs.filter p).map f) S → dLcL t ts el ρw (xs.map enc) acc S k
  | [], acc, _, h => by simpa [dLcL] using h
  | x :: xs, acc, hs, h => by
    show t (enc x) ρw S _ _
    cases q : p x with
    | true =>
      have h' : k ((acc ++ [f x]) ++ (xs.filter p).map f) S := by simpa [List.filter_cons, q] using h
      exact hs x List.mem_cons_self _ _ (fun _ => lc_fm p f (fun y hy => hs y (List.mem_cons_of_mem _ hy)) h') (fun z => by rw [q] at z; cases z)
    | false =>
      have h' : k (acc ++ (xs.filter p).map f) S := by simpa [List.filter_cons, q] using h
      exact hs x List.mem_cons_self _ _ (fun z => by rw [q] at z; cases z) (fun _ => lc_fm p f (fun y hy => hs y (List.mem_cons_of_mem _ hy)) h')
theorem lc_f {α : Type} {enc : α → D} (f : α → D) {t : DG} {ts : DT} {el : DE} {ρw : DL.Env} {S : Sto} {k : List D → Sto → Prop} {xs : List α} {acc : List D}
    (hs : ∀ x ∈ xs, ∀ (K1 : D → Sto → Prop) (K2 : Sto → Prop), K1 (f x) S → t (enc x) ρw S (fun ρ1 S1 => ts ρ1 S1 (fun b S2 => if b = true then el ρ1 S2 K1 noX else K2 S2) noX) noX)
    (h : k (acc ++ xs.map f) S) : dLcL t ts el ρw (xs.map enc) acc S k :=
  lc_fm (fun _ => true) f (fun x hx K1 K2 h1 _ => hs x hx K1 K2 (h1 rfl)) (by rw [List.filter_eq_self.mpr (fun _ _ => rfl)]; exact h)
theorem lc_p {α : Type} {enc : α → D} (p : α → Bool) {t : DG} {ts : DT} {el : DE} {ρw : DL.Env} {S : Sto} {k : List D → Sto → Prop} {xs : List α} {acc : List D}
    (hs : ∀ x ∈ xs, ∀ (K1 : D → Sto → Prop) (K2 : Sto → Prop), (if p x = true then K1 (enc x) S else K2 S) → t (enc x) ρw S (fun ρ1 S1 => ts ρ1 S1 (fun b S2 => if b = true then el ρ1 S2 K1 noX else K2 S2) noX) noX)
    (h : k (acc ++ (xs.filter p).map enc) S) : dLcL t ts el ρw (xs.map enc) acc S k :=
  lc_fm p enc (fun x hx K1 K2 h1 h2 => hs x hx K1 K2 (by cases q : p x with | true => rw [if_pos rfl]; exact h1 q | false => rw [if_neg (by decide)]; exact h2 q)) h
/-- a comprehension with a state -/
theorem lc_st {α σ : Type} {enc : α → D} {sto : σ → Sto} (I : List α → List D → σ → Prop) {t : DG} {ts : DT} {el : DE} {ρw : DL.Env} {k : List D → Sto → Prop}
    (step : ∀ x xs acc st, I (x :: xs) acc st → ∀ (K1 : D → Sto → Prop) (K2 : Sto → Prop), (∀ y st', I xs (acc ++ [y]) st' → K1 y (sto st')) → (∀ st', I xs acc st' → K2 (sto st')) → t (enc x) ρw (sto st) (fun ρ1 S1 => ts ρ1 S1 (fun b S2 => if b = true then el ρ1 S2 K1 noX else K2 S2) noX) noX)
    (fin : ∀ acc st, I [] acc st → k acc (sto st)) : ∀ (xs : List α) (acc : List D) (st : σ), I xs acc st → dLcL t ts el ρw (xs.map enc) acc (sto st) k
  | [], acc, st, h => fin acc st h
  | x :: xs, acc, st, h => step x xs acc st h _ _ (fun y st' h' => lc_st I step fin xs (acc ++ [y]) st' h') fun st' h' => lc_st I step fin xs acc st' h'
def enI {α : Type} : Int → List α → List (Int × α)
  | _, [] => []
  | j, x :: xs => (j, x) :: enI (j + 1) xs
@[simp] theorem enumD_map {α : Type} {f : α → D} : ∀ {j : Nat} {xs : List α}, enumD j (xs.map f) = (enI (j : Int) xs).map fun p => .tup [.int p.1, f p.2]
  | j, [] => rfl
  | j, x :: xs => by
    have ih := enumD_map (f := f) (j := j + 1) (xs := xs)
    simp only [List.map_cons, enumD, enI, ih]
    rfl
theorem enI_mem {α : Type} {x : Int × α} : ∀ {xs : List α} {j : Int}, x ∈ enI j xs → x.2 ∈ xs
  | [], _, h => by cases h
  | y :: ys, j, h => by
    rcases List.mem_cons.mp h with rfl | h
    · exact List.mem_cons_self
    · exact List.mem_cons_of_mem _ (enI_mem h)
@[simp] theorem zipD_map {α β : Type} {f : α → D} {h : β → D} : ∀ {xs : List α} {ys : List β}, zipD (xs.map f) (ys.map h) = (xs.zip ys).map fun p => .tup [f p.1, h p.2]
  | [], ys => by simp [zipD]
  | x :: xs, [] => by simp [zipD]
  | x :: xs, y :: ys => by simp [zipD, zipD_map (xs := xs) (ys := ys)]
theorem atI_map {α β : Type} {f : α → β} {xs : List α} {i : Int} : atI (xs.map f) i = (atI xs i).map f := by
  unfold atI
  rw [List.length_map]
  cases ixN xs.length i with
  | none => rfl
  | some n => simp [Option.bind]
theorem atI_ok {α : Type} {xs : List α} {i : Int} (h0 : 0 ≤ i) (h1 : i < xs.length) : atI xs i = some (xs[i.toNat]'(by omega)) := by
  rw [atI_nat h0 h1, List.getElem?_eq_getElem]
theorem atI_neg {α : Type} {xs : List α} {i : Int} (h0 : i < 0) (h1 : 0 ≤ i + xs.length) : atI xs i = some (xs[(i + xs.length).toNat]'(by omega)) := by
  unfold atI ixN
  rw [if_neg (by omega), if_pos (by omega)]
  exact List.getElem?_eq_getElem (by omega)
theorem cutD_map {α : Type} {f : α → D} {xs : List α} {lo hi : Option Int} : cutD (xs.map f) lo hi = ((xs.drop (HT.sIx xs.length 0 lo)).take (HT.sIx xs.length xs.length hi - HT.sIx xs.length 0 lo)).map f := by
  unfold cutD
  rw [List.length_map, ← List.map_drop, ← List.map_take]
theorem cut_to {α : Type} {f : α → D} {xs : List α} {a : Int} (h : 0 ≤ a) : cutD (xs.map f) none (some a) = (xs.take a.toNat).map f := by
  rw [cutD_map]
  have e2 : HT.sIx xs.length xs.length (some a) = min a.toNat xs.length := by
    show (if a < 0 then _ else _) = _
    rw [if_neg (by omega)]
  have e1 : HT.sIx xs.length 0 none = 0 := rfl
  rw [e1, e2, List.drop_zero, Nat.sub_zero]
  congr 1
  rw [List.take_eq_take_iff]
  omega
theorem cut_from {α : Type} {f : α → D} {xs : List α} {z : Int} (h : 0 ≤ z) : cutD (xs.map f) (some z) none = (xs.drop z.toNat).map f := by
  rw [cutD_map]
  have e1 : HT.sIx xs.length 0 (some z) = min z.toNat xs.length := by
    show (if z < 0 then _ else _) = _
    rw [if_neg (by omega)]
  have e2 : HT.sIx xs.length xs.length none = xs.length := rfl
  rw [e1, e2, List.take_of_length_le (by rw [List.length_drop]; omega)]
  congr 1
  by_cases c : z.toNat ≤ xs.length
  · rw [Nat.min_eq_left c]
  · rw [Nat.min_eq_right (by omega), List.drop_length, List.drop_of_length_le (by omega)]
theorem cut_both {α : Type} {f : α → D} {xs : List α} {a z : Int} (h0 : 0 ≤ a) (h1 : 0 ≤ z) : cutD (xs.map f) (some a) (some z) = ((xs.drop a.toNat).take (z.toNat - a.toNat)).map f := by
  rw [cutD_map]
  have e1 : HT.sIx xs.length 0 (some a) = min a.toNat xs.length := by
    show (if a < 0 then _ else _) = _
    rw [if_neg (by omega)]
  have e2 : HT.sIx xs.length xs.length (some z) = min z.toNat xs.length := by
    show (if z < 0 then _ else _) = _
    rw [if_neg (by omega)]
  rw [e1, e2]
  congr 1
  by_cases c : a.toNat ≤ xs.length
  · rw [Nat.min_eq_left c, List.take_eq_take_iff, List.length_drop]
    omega
  · have z1 : min a.toNat xs.length = xs.length := Nat.min_eq_right (by omega)
    have z2 : xs.drop xs.length = [] := List.drop_length
    have z3 : xs.drop a.toNat = [] := List.drop_of_length_le (by omega)
    rw [z1, z2, z3, List.take_nil, List.take_nil]
theorem bls_map {α : Type} {p : α → Bool} {xs : List α} : xs.map (fun x => D.bl (p x)) = (xs.map p).map D.bl := by rw [List.map_map]; rfl
theorem ints_map {α : Type} {p : α → Int} {xs : List α} : xs.map (fun x => D.int (p x)) = (xs.map p).map D.int := by rw [List.map_map]; rfl
theorem rep_bls {n : Nat} {b : Bool} : (List.replicate n [D.bl b]).flatten = (List.replicate n b).map D.bl := by
  induction n with
  | zero => rfl
  | succ n ih => rw [List.replicate_succ, List.flatten_cons, ih, List.replicate_succ]; rfl
theorem isIx {n : Nat} {i : Int} (h0 : 0 ≤ i) (h1 : i < n) : ixN n i = some i.toNat := ixN_nat h0 h1
@[simp] theorem rng_map_s {lo : Int} {n : Nat} : rngD lo n = (irng lo n).map D.int := rng_map
end DL
end
/-! ## DLR -/
section
set_option Elab.async false
set_option linter.all false
set_option maxRecDepth 100000
set_option maxHeartbeats 1000000
/-! the law's draws: what they leave alone -/
namespace DL
open PySem PySem.Spec PyProof.Rows L2
/-- all but the law's dict and its list are as they were -/
def Fr (m gp : Addr) (S S' : Sto) : Prop := ∀ b, b ≠ m → b ≠ gp → S' b = S b
theorem Fr.refl {m gp : Addr} {S : Sto} : Fr m gp S S := fun _ _ _ => rfl
theorem Fr.trans {m gp : Addr} {S S1 S2 : Sto} (a : Fr m gp S S1) (b : Fr m gp S1 S2) : Fr m gp S S2 := fun x h1 h2 => (b x h1 h2).trans (a x h1 h2)
theorem DrI.ne {S : Sto} {m gp : Addr} {f : Nat} {p : Addr} (h : DrI S m gp f) (n : S p = none) : p ≠ m ∧ p ≠ gp := by
  obtain ⟨h0, cs, gs, n', h1, h2, h3⟩ := h
  exact ⟨fun q => (by rw [q, h1] at n; cases n), fun q => (by rw [q, h2] at n; cases n)⟩
theorem DrI.put {S : Sto} {m gp : Addr} {f : Nat} {p : Addr} {c : Cell} (h : DrI S m gp f) (n : p ≠ m ∧ p ≠ gp) : DrI (S.set p c) m gp f := h.keep (Sto.set_ne (Ne.symm n.1)) (Sto.set_ne (Ne.symm n.2))
theorem DrI.rm {S : Sto} {m gp : Addr} {f : Nat} {p : Addr} (h : DrI S m gp f) (n : p ≠ m ∧ p ≠ gp) : DrI (S.del p) m gp f := h.keep (Sto.del_ne (Ne.symm n.1)) (Sto.del_ne (Ne.symm n.2))
theorem Fr.get {m gp : Addr} {S S' : Sto} {p : Addr} (h : Fr m gp S S') (n : p ≠ m ∧ p ≠ gp) : S' p = S p := h p n.1 n.2
/-- what was there is there, but for the draws' own -/
theorem Fr.off {m gp : Addr} {S S' : Sto} (h : Fr m gp S S') : Off m gp S S' := fun b c h1 h2 q => by rw [h b h1 h2]; exact q
theorem gc_dr {P : Sto → Prop} {S S' : Sto} {m gp : Addr} {f : Nat} (hd : DrI S' m gp f) (o : Off m gp S S') (h : ∀ S2, DrI S2 m gp f → Fr m gp S S2 → P S2) : ∃ S2, Sub S2 S' ∧ P S2 := by
  refine ⟨fun b => if b = m ∨ b = gp then S' b else S b, fun b c q => ?_, h _ (hd.keep (if_pos (.inl rfl)) (if_pos (.inr rfl))) fun b h1 h2 => if_neg fun z => z.elim h1 h2⟩
  by_cases z : b = m ∨ b = gp
  · have e : (fun b => if b = m ∨ b = gp then S' b else S b) b = S' b := if_pos z
    rw [e] at q
    exact q
  · have e : (fun b => if b = m ∨ b = gp then S' b else S b) b = S b := if_neg z
    rw [e] at q
    exact o b c (fun w => z (.inl w)) (fun w => z (.inr w)) q
/-- a comprehension that draws -/
theorem lc_dr {α : Type} {enc : α → D} (c : Nat) (R : α → D → Prop) {t : DG} {ts : DT} {el : DE} {ρw : DL.Env} {m gp : Addr} {k : List D → Sto → Prop} : ∀ {xs : List α} {acc : List D} {S : Sto} {f : Nat},
    (∀ x ∈ xs, ∀ (f : Nat) (S1 : Sto) (K1 : D → Sto → Prop) (K2 : Sto → Prop), DrI S1 m gp f → c ≤ f → (∀ y S2, R x y → DrI S2 m gp (f - c) → Fr m gp S1 S2 → K1 y S2) → t (enc x) ρw S1 (fun ρ1 S1 => ts ρ1 S1 (fun b S2 => if b = true then el ρ1 S2 K1 noX else K2 S2) noX) noX) →
    DrI S m gp f → c * xs.length ≤ f → (∀ ys S2, ys.length = xs.length → (∀ y ∈ ys, ∃ x, x ∈ xs ∧ R x y) → DrI S2 m gp (f - c * xs.length) → Fr m gp S S2 → k (acc ++ ys) S2) → dLcL t ts el ρw (xs.map enc) acc S k
  | [], acc, S, f, _, hd, _, hk => by
    have := hk [] S rfl (fun _ h => (List.not_mem_nil h).elim) (by simpa using hd) .refl
    simpa [dLcL] using this
  | x :: xs, acc, S, f, hs, hd, hf, hk => by
    show t (enc x) ρw S _ _
    have e : c * (x :: xs).length = c * xs.length + c := by rw [List.length_cons, Nat.mul_add, Nat.mul_one]
    rw [e] at hf
    refine hs x List.mem_cons_self f S _ _ hd (by omega) fun y S2 r hd2 f2 => ?_
    refine lc_dr c R (fun z hz => hs z (List.mem_cons_of_mem _ hz)) hd2 (by omega) fun ys S3 hl hr hd3 f3 => ?_
    rw [List.append_assoc]
    refine hk (y :: ys) S3 (by simp [hl]) (fun z hz => ?_) (hd3.less (by omega)) (f2.trans f3)
    rcases List.mem_cons.mp hz with rfl | hz
    · exact ⟨x, List.mem_cons_self, r⟩
    · obtain ⟨w, hw, rw_⟩ := hr z hz
      exact ⟨w, List.mem_cons_of_mem _ hw, rw_⟩
theorem erase_perm {α : Type} : ∀ (l : List α) (i : Nat) (h : i < l.length), (l[i] :: l.eraseIdx i).Perm l
  | x :: xs, 0, _ => .refl _
  | x :: xs, i + 1, h => by
    have ih := erase_perm xs i (by simpa using h)
    exact (List.Perm.swap x _ _).trans (ih.cons x)
theorem ints_of {R : Int → Prop} : ∀ {ys : List D}, (∀ y ∈ ys, ∃ r, y = .int r ∧ R r) → ∃ zs : List Int, ys = zs.map .int ∧ ∀ z ∈ zs, R z
  | [], _ => ⟨[], rfl, fun _ h => (List.not_mem_nil h).elim⟩
  | y :: ys, h => by
    obtain ⟨r, rfl, hr⟩ := h y List.mem_cons_self
    obtain ⟨zs, rfl, hz⟩ := ints_of fun z hz => h z (List.mem_cons_of_mem _ hz)
    refine ⟨r :: zs, rfl, fun z hz' => ?_⟩
    rcases List.mem_cons.mp hz' with rfl | hz'
    · exact hr
    · exact hz z hz'
end DL
end
/-! ## DLT -/
section
set_option Elab.async false
set_option linter.all false
set_option maxRecDepth 100000
set_option maxHeartbeats 1000000
/-! what may be shown, by its parts -/
namespace DL
open PySem PySem.Spec PyProof.Rows L2
/-- data of little bulk (n) and depth (d) -/
structure RP (n d : Nat) (p : PyData) : Prop where
  sh : PyData.showable p = true
  nd : PyData.hasDict p = false
  lv : PyData.leavesShort 13 p = true
  bk : PyData.bulk p ≤ n
  dp : PyData.depth p ≤ d
theorem RP.mono {n d n' d' : Nat} {p : PyData} (h : RP n d p) (a : n ≤ n') (b : d ≤ d') : RP n' d' p := ⟨h.sh, h.nd, h.lv, Nat.le_trans h.bk a, Nat.le_trans h.dp b⟩
theorem RP.shows {n d : Nat} {p : PyData} (h : RP n d p) (hn : n ≤ 1048576) (hd : d ≤ 59) : shows p = true := by
  have l := PyData.shown_le_bulk 13 (by decide) p h.lv
  have e := h.bk
  have f := h.dp
  have h6 : (PyData.shown p).length ≤ 16777216 := by omega
  unfold DL.shows
  simp [h.sh, h.nd, h6]
  omega
theorem RP.int {i : Int} (h : i.natAbs < 10 ^ 12) : RP 0 0 (.int i) := by
  refine ⟨?_, rfl, ?_, Nat.le_refl _, Nat.le_refl _⟩
  · simp only [PyData.showable, decide_eq_true_eq]
    by_cases q : i.natAbs = 0
    · rw [q]; decide
    · exact (Nat.log2_lt q).mpr (Nat.lt_of_lt_of_le h (Nat.le_trans (show 10 ^ 12 ≤ 2 ^ 60 by decide) (Nat.pow_le_pow_right (by decide) (by decide))))
  · simp only [PyData.leavesShort, decide_eq_true_eq]
    exact PyData.shown_int_le h
theorem RP.bl {b : Bool} : RP 0 0 (.bool b) := ⟨rfl, rfl, rfl, Nat.le_refl _, Nat.le_refl _⟩
theorem RP.all {n d : Nat} : ∀ {xs : List PyData}, (∀ x ∈ xs, RP n d x) → PyData.showableAll xs = true ∧ PyData.hasDictAll xs = false ∧ PyData.leavesShortAll 13 xs = true ∧ PyData.bulkAll xs ≤ (n + 1) * xs.length ∧ PyData.depthAll xs ≤ d
  | [], _ => ⟨rfl, rfl, rfl, Nat.zero_le _, Nat.zero_le _⟩
  | x :: xs, h => by
    obtain ⟨h1, h2, h3, h4, h5⟩ := RP.all fun y hy => h y (List.mem_cons_of_mem _ hy)
    obtain ⟨g1, g2, g3, g4, g5⟩ := h x List.mem_cons_self
    refine ⟨by simp [PyData.showableAll, h1, g1], by simp [PyData.hasDictAll, h2, g2], by simp [PyData.leavesShortAll, h3, g3], ?_, ?_⟩
    · simp only [PyData.bulkAll, List.length_cons, Nat.mul_add, Nat.mul_one]
      omega
    · simp only [PyData.depthAll]
      omega
theorem RP.lst {n d : Nat} {xs : List PyData} (h : ∀ x ∈ xs, RP n d x) : RP ((n + 1) * xs.length) (d + 1) (.list xs) := by
  obtain ⟨h1, h2, h3, h4, h5⟩ := RP.all h
  exact ⟨h1, h2, h3, h4, Nat.succ_le_succ h5⟩
theorem RP.tup {n d : Nat} {xs : List PyData} (h : ∀ x ∈ xs, RP n d x) : RP ((n + 1) * xs.length) (d + 1) (.tuple xs) := by
  obtain ⟨h1, h2, h3, h4, h5⟩ := RP.all h
  exact ⟨h1, h2, h3, h4, Nat.succ_le_succ h5⟩
theorem pys_map {α : Type} {S : Sto} {f : α → D} {q : α → PyData} : ∀ {xs : List α}, (∀ x ∈ xs, pyOf S (f x) = some (q x)) → pysOf S (xs.map f) = some (xs.map q)
  | [], _ => rfl
  | x :: xs, h => by
    have e1 := h x List.mem_cons_self
    have e2 := pys_map (f := f) (q := q) fun y hy => h y (List.mem_cons_of_mem _ hy)
    show (match pyOf S (f x), pysOf S (xs.map f) with
      | some x, some xs => some (x :: xs)
      | _, _ => none) = _
    rw [e1, e2]
    rfl
theorem repr_lstM {α : Type} {S : Sto} {f : α → D} {q : α → PyData} {xs : List α} {n d : Nat} {k : K1} (hp : ∀ x ∈ xs, pyOf S (f x) = some (q x)) (hr : ∀ x ∈ xs, RP n d (q x)) (hn : (n + 1) * xs.length ≤ 1048576) (hd : d ≤ 58) (hk : k (.str (PyData.shown (.list (xs.map q)))) S) : bRepr [.lst (xs.map f)] S k := by
  refine repr_cl (p := .list (xs.map q)) ?_ rfl (RP.shows (n := (n + 1) * (xs.map q).length) (d := d + 1) (RP.lst fun y hy => ?_) (by simpa using hn) (by omega)) hk
  · show (pysOf S (xs.map f)).map PyData.list = _
    rw [pys_map hp]; rfl
  · obtain ⟨x, hx, rfl⟩ := List.mem_map.mp hy
    exact hr x hx
theorem repr_tupM {α : Type} {S : Sto} {f : α → D} {q : α → PyData} {xs : List α} {n d : Nat} {k : K1} (hp : ∀ x ∈ xs, pyOf S (f x) = some (q x)) (hr : ∀ x ∈ xs, RP n d (q x)) (hn : (n + 1) * xs.length ≤ 1048576) (hd : d ≤ 58) (hk : k (.str (PyData.shown (.tuple (xs.map q)))) S) : bRepr [.tup (xs.map f)] S k := by
  refine repr_cl (p := .tuple (xs.map q)) ?_ rfl (RP.shows (n := (n + 1) * (xs.map q).length) (d := d + 1) (RP.tup fun y hy => ?_) (by simpa using hn) (by omega)) hk
  · show (pysOf S (xs.map f)).map PyData.tuple = _
    rw [pys_map hp]; rfl
  · obtain ⟨x, hx, rfl⟩ := List.mem_map.mp hy
    exact hr x hx
/-- a tuple of pairs of small ints -/
theorem repr_pairs {S : Sto} {r : List (Int × Int)} {k : K1} (hl : r.length ≤ 1000) (h : ∀ c ∈ r, c.1.natAbs < 10 ^ 12 ∧ c.2.natAbs < 10 ^ 12) (hk : k (.str (PyData.shown (.tuple (r.map fun c => PyData.tuple [.int c.1, .int c.2])))) S) : bRepr [.tup (r.map pii)] S k := by
  refine repr_tupM (n := 2) (d := 1) (fun c _ => by show pyOf S (.tup [.int c.1, .int c.2]) = _; simp [pyOf, pysOf]) (fun c hc => ?_) (by omega) (by omega) hk
  refine (RP.tup (n := 0) (d := 0) (xs := [.int c.1, .int c.2]) fun x hx => ?_).mono (by simp) (Nat.le_refl _)
  have := h c hc
  rcases List.mem_cons.mp hx with rfl | hx
  · exact RP.int this.1
  · obtain rfl : x = .int c.2 := by simpa using hx
    exact RP.int this.2
theorem repr_bls {S : Sto} {bs : List Bool} {k : K1} (hl : bs.length ≤ 1000) (hk : k (.str (PyData.shown (.list (bs.map .bool)))) S) : bRepr [.lst (bs.map .bl)] S k :=
  repr_lstM (n := 0) (d := 0) (fun _ _ => by rw [pyOf]) (fun _ _ => RP.bl) (by omega) (by omega) hk
theorem repr_ints {S : Sto} {ns : List Int} {k : K1} (hl : ns.length ≤ 1000) (h : ∀ z ∈ ns, z.natAbs < 10 ^ 12) (hk : k (.str (PyData.shown (.list (ns.map .int)))) S) : bRepr [.lst (ns.map .int)] S k :=
  repr_lstM (n := 0) (d := 0) (fun _ _ => by rw [pyOf]) (fun z hz => RP.int (h z hz)) (by omega) (by omega) hk
theorem repr_intsT {S : Sto} {ns : List Int} {k : K1} (hl : ns.length ≤ 1000) (h : ∀ z ∈ ns, z.natAbs < 10 ^ 12) (hk : k (.str (PyData.shown (.tuple (ns.map .int)))) S) : bRepr [.tup (ns.map .int)] S k :=
  repr_tupM (n := 0) (d := 0) (fun _ _ => by rw [pyOf]) (fun z hz => RP.int (h z hz)) (by omega) (by omega) hk
theorem pyT_bls {S : Sto} {bs : List Bool} : pyT S (.lst (bs.map .bl)) = some (.list (bs.map .bool)) := by
  show (pysOf S (bs.map D.bl)).map PyData.list = _
  rw [pys_bools]; rfl
theorem eqv_LB (a b : List Bool) : PyData.eqv (.list (a.map .bool)) (.list (b.map .bool)) = decide (a = b) := by simp only [PyData.eqv]; exact eqv_bools a b
theorem s_neBL {a b : List Bool} {S : Sto} {k : K1} : fNe (.lst (a.map .bl)) (.lst (b.map .bl)) S k = k (.bl (!decide (a = b))) S := by rw [fNe_iff rfl pyT_bls pyT_bls (shaped_bools a) (shaped_bools b), eqv_LB]
theorem s_eqBL {a b : List Bool} {S : Sto} {k : K1} : fEq (.lst (a.map .bl)) (.lst (b.map .bl)) S k = k (.bl (decide (a = b))) S := by rw [fEq_iff rfl pyT_bls pyT_bls (shaped_bools a) (shaped_bools b), eqv_LB]
/-- general == of shaped data -/
theorem eq_data {x y : D} {p q : PyData} {S : Sto} {k : K1} (h1 : pyT S x = some p) (h2 : pyT S y = some q) (h3 : SeqAt.shaped p = true) (h4 : SeqAt.shaped q = true) (h : k (.bl (PyData.eqv p q)) S) : fEq x y S k := .inr ⟨p, q, h1, h2, h3, h4, by simpa using h⟩
theorem ne_data {x y : D} {p q : PyData} {S : Sto} {k : K1} (h1 : pyT S x = some p) (h2 : pyT S y = some q) (h3 : SeqAt.shaped p = true) (h4 : SeqAt.shaped q = true) (h : k (.bl (!PyData.eqv p q)) S) : fNe x y S k := .inr ⟨p, q, h1, h2, h3, h4, by simpa using h⟩
end DL
end
/-! ## M13 -/
section
set_option linter.all false
/-! letters that are moved: the plain law -/
namespace M13
def cT : List Bool → Nat
  | [] => 0
  | true :: l => cT l + 1
  | false :: l => cT l
def cF : List Bool → Nat
  | [] => 0
  | true :: l => cF l
  | false :: l => cF l + 1
/-- without the first n of 1 -/
def mvT : Nat → List Bool → List Bool
  | _, [] => []
  | n, false :: l => false :: mvT n l
  | 0, true :: l => true :: mvT 0 l
  | n + 1, true :: l => mvT n l
def mvF : Nat → List Bool → List Bool
  | _, [] => []
  | n, true :: l => true :: mvF n l
  | 0, false :: l => false :: mvF 0 l
  | n + 1, false :: l => mvF n l
/-- without the first a of 1, and with the first z of 0 alone -/
def can : Nat → Nat → List Bool → List Bool
  | _, _, [] => []
  | 0, z, true :: l => true :: can 0 z l
  | a + 1, z, true :: l => can a z l
  | a, 0, false :: l => can a 0 l
  | a, z + 1, false :: l => false :: can a z l
theorem can_mvT : ∀ (l : List Bool) (a z : Nat), can a z l = can 0 z (mvT a l)
  | [], a, z => by cases a <;> simp [can, mvT]
  | true :: l, 0, z => by simp [can, mvT, ← can_mvT l 0 z]
  | true :: l, a + 1, z => by simp [can, mvT, can_mvT l a z]
  | false :: l, a, 0 => by cases a <;> simp [can, mvT, ← can_mvT l]
  | false :: l, a, z + 1 => by cases a <;> simp [can, mvT, ← can_mvT l]
theorem cF_append : ∀ (u v : List Bool), cF (u ++ v) = cF u + cF v
  | [], v => by simp [cF]
  | true :: u, v => by simp [cF, cF_append u v]
  | false :: u, v => by simp [cF, cF_append u v]; omega
theorem cF_reverse (l : List Bool) : cF l.reverse = cF l := by
  induction l with
  | nil => rfl
  | cons x l ih => cases x <;> simp [cF_append, ih, cF]
theorem mvF_append : ∀ (u v : List Bool) (s : Nat), mvF s (u ++ v) = mvF s u ++ mvF (s - cF u) v
  | [], v, s => by simp [mvF, cF]
  | true :: u, v, s => by simp [mvF, cF, mvF_append u v s]
  | false :: u, v, 0 => by
    have := mvF_append u v 0
    simp at this
    simp [mvF, cF, this]
  | false :: u, v, s + 1 => by
    have e : s + 1 - (cF u + 1) = s - cF u := by omega
    simp [mvF, cF, mvF_append u v s, e]
theorem mvF_back (l : List Bool) : ∀ s : Nat, (mvF s l.reverse).reverse = can 0 (cF l - s) l := by
  induction l with
  | nil => intro s; simp [mvF, can]
  | cons x l ih =>
    intro s
    rw [List.reverse_cons, mvF_append, List.reverse_append, ih s, cF_reverse]
    cases x with
    | true =>
      have e : mvF (s - cF l) [true] = [true] := by simp [mvF]
      rw [e]
      simp [can, cF]
    | false =>
      by_cases h : s ≤ cF l
      · have e1 : s - cF l = 0 := by omega
        have e2 : cF (false :: l) - s = (cF l - s) + 1 := by simp [cF]; omega
        rw [e1, e2]
        simp [mvF, can]
      · obtain ⟨d, hd⟩ : ∃ d, s - cF l = d + 1 := ⟨s - cF l - 1, by omega⟩
        have e2 : cF (false :: l) - s = 0 := by simp [cF]; omega
        have e3 : cF l - s = 0 := by omega
        rw [hd, e2, e3]
        simp [mvF, can]
theorem cF_mvT : ∀ (l : List Bool) (a : Nat), cF (mvT a l) = cF l
  | [], a => by simp [mvT, cF]
  | true :: l, 0 => by simp [mvT, cF, cF_mvT l 0]
  | true :: l, a + 1 => by simp [mvT, cF, cF_mvT l a]
  | false :: l, a => by simp [mvT, cF, cF_mvT l a]
theorem two_ways (l : List Bool) (a s : Nat) : (mvF s (mvT a l).reverse).reverse = can a (cF l - s) l := by
  rw [mvF_back, cF_mvT, can_mvT l a]
theorem can_min : ∀ (l : List Bool) (a z : Nat), can a z l = can (min a (cT l)) z l
  | [], a, z => by simp [can]
  | true :: l, 0, z => by simp
  | true :: l, a + 1, z => by
    have e : min (a + 1) (cT (true :: l)) = min a (cT l) + 1 := by simp [cT]
    rw [e]
    simp [can, can_min l a z]
  | false :: l, a, 0 => by
    have h := can_min l a 0
    simp only [cT]
    have e : ∀ n, can n 0 (false :: l) = can n 0 l := fun n => by cases n <;> simp [can]
    rw [e, e, h]
  | false :: l, a, z + 1 => by
    have h := can_min l a z
    simp only [cT]
    have e : ∀ n, can n (z + 1) (false :: l) = false :: can n z l := fun n => by cases n <;> simp [can]
    rw [e, e, h]
/-- the places of 1, of 0 -/
def iT : Nat → List Bool → List Nat
  | _, [] => []
  | j, true :: l => j :: iT (j + 1) l
  | j, false :: l => iT (j + 1) l
def iF : Nat → List Bool → List Nat
  | _, [] => []
  | j, true :: l => iF (j + 1) l
  | j, false :: l => j :: iF (j + 1) l
theorem iT_ge : ∀ (l : List Bool) (j n : Nat), n ∈ iT j l → j ≤ n
  | [], _, _, h => by simp [iT] at h
  | true :: l, j, n, h => by
    rcases List.mem_cons.mp (show n ∈ j :: iT (j + 1) l from h) with h | h
    · omega
    · have := iT_ge l (j + 1) n h; omega
  | false :: l, j, n, h => by have := iT_ge l (j + 1) n h; omega
theorem iF_ge : ∀ (l : List Bool) (j n : Nat), n ∈ iF j l → j ≤ n
  | [], _, _, h => by simp [iF] at h
  | false :: l, j, n, h => by
    rcases List.mem_cons.mp (show n ∈ j :: iF (j + 1) l from h) with h | h
    · omega
    · have := iF_ge l (j + 1) n h; omega
  | true :: l, j, n, h => by have := iF_ge l (j + 1) n h; omega
theorem iT_len : ∀ (l : List Bool) (j : Nat), (iT j l).length = cT l
  | [], _ => rfl
  | true :: l, j => by simp [iT, cT, iT_len l]
  | false :: l, j => by simp [iT, cT, iT_len l]
theorem iF_len : ∀ (l : List Bool) (j : Nat), (iF j l).length = cF l
  | [], _ => rfl
  | true :: l, j => by simp [iF, cF, iF_len l]
  | false :: l, j => by simp [iF, cF, iF_len l]
/-- those whose place is not among ks -/
def keep (ks : List Nat) : Nat → List Bool → List Bool
  | _, [] => []
  | j, x :: l => if j ∈ ks then keep ks (j + 1) l else x :: keep ks (j + 1) l
theorem keep_congr {ks ks' : List Nat} : ∀ (l : List Bool) (j : Nat), (∀ n, j ≤ n → (n ∈ ks ↔ n ∈ ks')) → keep ks j l = keep ks' j l
  | [], _, _ => rfl
  | x :: l, j, h => by
    have ih := keep_congr l (j + 1) fun n hn => h n (by omega)
    have hj := h j (Nat.le_refl _)
    unfold keep
    by_cases c : j ∈ ks
    · rw [if_pos c, if_pos (hj.mp c), ih]
    · rw [if_neg c, if_neg (fun q => c (hj.mpr q)), ih]
theorem keep_can : ∀ (l : List Bool) (j a z : Nat), keep ((iT j l).take a ++ (iF j l).drop z) j l = can a z l
  | [], j, a, z => by simp [keep, can]
  | true :: l, j, 0, z => by
    have ih := keep_can l (j + 1) 0 z
    have nj : j ∉ (iT j (true :: l)).take 0 ++ (iF j (true :: l)).drop z := by
      simp [iF]
      intro h
      have := iF_ge l (j + 1) j (List.mem_of_mem_drop h)
      omega
    rw [keep, if_neg nj]
    simp only [can]
    rw [← ih]
    simp [iF]
  | true :: l, j, a + 1, z => by
    have ih := keep_can l (j + 1) a z
    have nj : j ∈ (iT j (true :: l)).take (a + 1) ++ (iF j (true :: l)).drop z := by simp [iT]
    rw [keep, if_pos nj]
    have e : can (a + 1) z (true :: l) = can a z l := by simp [can]
    rw [e, ← ih]
    refine keep_congr l (j + 1) fun n hn => ?_
    simp [iT, iF]
    intro h
    omega
  | false :: l, j, a, 0 => by
    have ih := keep_can l (j + 1) a 0
    have nj : j ∈ (iT j (false :: l)).take a ++ (iF j (false :: l)).drop 0 := by simp [iF]
    rw [keep, if_pos nj]
    have e : can a 0 (false :: l) = can a 0 l := by cases a <;> simp [can]
    rw [e, ← ih]
    refine keep_congr l (j + 1) fun n hn => ?_
    have nj2 : n ≠ j := by omega
    simp [iT, iF, nj2]
  | false :: l, j, a, z + 1 => by
    have ih := keep_can l (j + 1) a z
    have nj : j ∉ (iT j (false :: l)).take a ++ (iF j (false :: l)).drop (z + 1) := by
      simp [iT, iF]
      refine ⟨fun h => ?_, fun h => ?_⟩
      · have := iT_ge l (j + 1) j (List.mem_of_mem_take h); omega
      · have := iF_ge l (j + 1) j (List.mem_of_mem_drop h); omega
    rw [keep, if_neg nj]
    have e : can a (z + 1) (false :: l) = false :: can a z l := by cases a <;> simp [can]
    rw [e, ← ih]
    simp [iT, iF]
/-- the letters after a load -/
def mv (a b : Nat) (l : List Bool) : List Bool := List.replicate (min b (cF l)) false ++ (can a (cF l - min b (cF l)) l ++ List.replicate (min a (cT l)) true)
theorem can_len : ∀ (l : List Bool) (a z : Nat), a ≤ cT l → z ≤ cF l → (can a z l).length + a + (cF l - z) = l.length
  | [], a, z, h1, h2 => by simp [cT, cF] at h1 h2; subst h1 h2; simp [can, cF]
  | true :: l, 0, z, h1, h2 => by
    have := can_len l 0 z (by omega) h2
    simp [can, cF] at this ⊢
    omega
  | true :: l, a + 1, z, h1, h2 => by
    have := can_len l a z (by simp [cT] at h1; omega) h2
    simp [can, cF] at this ⊢
    omega
  | false :: l, a, 0, h1, h2 => by
    have := can_len l a 0 h1 (by omega)
    have e : can a 0 (false :: l) = can a 0 l := by cases a <;> simp [can]
    rw [e]
    simp [cF] at this ⊢
    omega
  | false :: l, a, z + 1, h1, h2 => by
    have := can_len l a z h1 (by simp [cF] at h2; omega)
    have e : can a (z + 1) (false :: l) = false :: can a z l := by cases a <;> simp [can]
    rw [e]
    simp [cF] at this ⊢
    omega
theorem mv_len (a b : Nat) (l : List Bool) : (mv a b l).length = l.length := by
  unfold mv
  rw [can_min]
  have h := can_len l (min a (cT l)) (cF l - min b (cF l)) (by omega) (by omega)
  simp at h ⊢
  omega
theorem can_all : ∀ l : List Bool, can 0 (cF l) l = l
  | [] => rfl
  | true :: l => by simp [can, cF, can_all l]
  | false :: l => by simp [can, cF, can_all l]
theorem mv_zero (l : List Bool) : mv 0 0 l = l := by simp [mv, can_all]
/-- the row after a load, bound by bound -/
def ld (a b : Nat) (ns : List Int) : List Int → List Int → List Int
  | [], found => found
  | t :: ts, found => ld a b ns ts (((mv a b (ns.map fun n => decide (t ≤ n))).zip found).map fun p => if p.1 = true then t else p.2)
theorem ld_len (a b : Nat) (ns : List Int) : ∀ (ts found : List Int), found.length = ns.length → (ld a b ns ts found).length = ns.length
  | [], found, h => h
  | t :: ts, found, h => ld_len a b ns ts _ (by simp [mv_len, h])
theorem ld_mem (a b : Nat) (ns : List Int) (R : Int → Prop) : ∀ (ts found : List Int), (∀ x ∈ found, R x) → (∀ t ∈ ts, R t) → ∀ x ∈ ld a b ns ts found, R x
  | [], found, h, _, x, hx => h x hx
  | t :: ts, found, h, ht, x, hx => by
    refine ld_mem a b ns R ts _ (fun y hy => ?_) (fun y hy => ht y (List.mem_cons_of_mem _ hy)) x hx
    obtain ⟨p, hp, rfl⟩ := List.mem_map.mp hy
    by_cases c : p.1 = true
    · rw [if_pos c]; exact ht t List.mem_cons_self
    · rw [if_neg c]; exact h _ (List.of_mem_zip hp).2
/-- nothing moved: the row itself -/
def upto (ts : List Int) (n o : Int) : Int := ts.foldl (fun r t => if t ≤ n then t else r) o
theorem ld_zero (ns : List Int) : ∀ (ts found : List Int), found.length = ns.length → ld 0 0 ns ts found = (ns.zip found).map fun p => upto ts p.1 p.2
  | [], found, h => by
    show found = _
    have : (fun p : Int × Int => upto [] p.1 p.2) = Prod.snd := rfl
    rw [this, List.map_snd_zip (by omega)]
  | t :: ts, found, h => by
    show ld 0 0 ns ts _ = _
    rw [mv_zero, ld_zero ns ts _ (by simp [h])]
    have go : ∀ (ns found : List Int), found.length = ns.length → (ns.zip (((ns.map fun n => decide (t ≤ n)).zip found).map fun p => if p.1 = true then t else p.2)).map (fun p => upto ts p.1 p.2) = (ns.zip found).map fun p => upto (t :: ts) p.1 p.2 := by
      intro ns
      induction ns with
      | nil => intro found _; rfl
      | cons n ns ih =>
        intro found hf
        cases found with
        | nil => simp at hf
        | cons o found =>
          simp only [List.map_cons, List.zip_cons_cons]
          rw [ih found (by simpa using hf)]
          congr 1
          by_cases c : t ≤ n <;> simp [upto, c]
    exact go ns found h
theorem upto_big : ∀ (ts : List Int) (n o : Int), (∀ t ∈ ts, n < t) → upto ts n o = o
  | [], _, _, _ => rfl
  | t :: ts, n, o, h => by
    have h1 := h t List.mem_cons_self
    show upto ts n (if t ≤ n then t else o) = o
    rw [if_neg (by omega)]
    exact upto_big ts n o fun x hx => h x (List.mem_cons_of_mem _ hx)
theorem upto_mem : ∀ (ts : List Int) (n o : Int), ts.Pairwise (· < ·) → n ∈ ts → upto ts n o = n
  | [], _, _, _, h => by simp at h
  | t :: ts, n, o, hp, h => by
    obtain ⟨h1, h2⟩ := List.pairwise_cons.mp hp
    show upto ts n (if t ≤ n then t else o) = n
    rcases List.mem_cons.mp h with h | h
    · subst h
      rw [if_pos (Int.le_refl _)]
      exact upto_big ts n n h1
    · exact upto_mem ts n _ h2 h
theorem ld_same (ns ts found : List Int) (h : found.length = ns.length) (hp : ts.Pairwise (· < ·)) (hm : ∀ n ∈ ns, n ∈ ts) : ld 0 0 ns ts found = ns := by
  rw [ld_zero ns ts found h]
  have go : ∀ (ns found : List Int), found.length = ns.length → (∀ n ∈ ns, n ∈ ts) → (ns.zip found).map (fun p => upto ts p.1 p.2) = ns := by
    intro ns
    induction ns with
    | nil => intro _ _ _; rfl
    | cons n ns ih =>
      intro found hf hm
      cases found with
      | nil => simp at hf
      | cons o found =>
        simp only [List.map_cons, List.zip_cons_cons]
        rw [ih found (by simpa using hf) (fun x hx => hm x (List.mem_cons_of_mem _ hx)), upto_mem ts n o hp (hm n List.mem_cons_self)]
  exact go ns found h hm
/-- rising lists with the same members -/
theorem rising_eq : ∀ (as bs : List Int), as.Pairwise (· < ·) → bs.Pairwise (· < ·) → (∀ z, z ∈ as ↔ z ∈ bs) → as = bs
  | [], [], _, _, _ => rfl
  | [], b :: bs, _, _, h => by have := (h b).mpr List.mem_cons_self; simp at this
  | a :: as, [], _, _, h => by have := (h a).mp List.mem_cons_self; simp at this
  | a :: as, b :: bs, ha, hb, h => by
    obtain ⟨a1, a2⟩ := List.pairwise_cons.mp ha
    obtain ⟨b1, b2⟩ := List.pairwise_cons.mp hb
    have e : a = b := by
      rcases List.mem_cons.mp ((h a).mp List.mem_cons_self) with q | q
      · exact q
      · rcases List.mem_cons.mp ((h b).mpr List.mem_cons_self) with q' | q'
        · exact q'.symm
        · have := b1 a q; have := a1 b q'; omega
    subst e
    rw [rising_eq as bs a2 b2 fun z => ?_]
    constructor
    · intro hz
      rcases List.mem_cons.mp ((h z).mp (List.mem_cons_of_mem _ hz)) with q | q
      · have := a1 z hz; omega
      · exact q
    · intro hz
      rcases List.mem_cons.mp ((h z).mpr (List.mem_cons_of_mem _ hz)) with q | q
      · have := b1 z hz; omega
      · exact q
end M13
end
/-! ## M07 -/
section
set_option linter.all false
/-! a hand, seen through the letters -/
namespace M07
open M13
abbrev L (t : Int) (xs : List Int) : List Bool := xs.map fun x => decide (t ≤ x)
def ins (held : List Int) (x : Int) : List Int := (held.filter fun y => decide (y ≤ x)) ++ x :: (held.filter fun y => decide (¬ y ≤ x))
theorem cT_append : ∀ (u v : List Bool), cT (u ++ v) = cT u + cT v
  | [], v => by simp [cT]
  | true :: u, v => by simp [cT, cT_append u v]; omega
  | false :: u, v => by simp [cT, cT_append u v]
theorem cT_reverse (l : List Bool) : cT l.reverse = cT l := by
  induction l with
  | nil => rfl
  | cons x l ih => cases x <;> simp [cT_append, ih, cT]
theorem cTF : ∀ l : List Bool, cT l + cF l = l.length
  | [] => rfl
  | true :: l => by have := cTF l; simp [cT, cF]; omega
  | false :: l => by have := cTF l; simp [cT, cF]; omega
theorem cut_at : ∀ (held : List Int) (x : Int), held.Pairwise (· ≤ ·) → held.take (held.filter fun y => decide (y ≤ x)).length = (held.filter fun y => decide (y ≤ x)) ∧ held.drop (held.filter fun y => decide (y ≤ x)).length = held.filter fun y => decide (¬ y ≤ x)
  | [], x, _ => ⟨rfl, rfl⟩
  | h :: hs, x, p => by
    obtain ⟨p1, p2⟩ := List.pairwise_cons.mp p
    obtain ⟨e1, e2⟩ := cut_at hs x p2
    by_cases c : h ≤ x
    · have n : ¬ x < h := by omega
      simp [List.filter_cons, c, n] at e1 e2 ⊢
      exact ⟨e1, e2⟩
    · have z : (hs.filter fun y => decide (y ≤ x)) = [] := by
        rw [List.filter_eq_nil_iff]
        intro y hy
        have := p1 y hy
        simp; omega
      have z2 : (hs.filter fun y => decide (x < y)) = hs := by
        rw [List.filter_eq_self]
        intro y hy
        have := p1 y hy
        simp; omega
      have n : x < h := by omega
      simp [List.filter_cons, c, z, z2, n]
theorem ins_perm (held : List Int) (x : Int) : (ins held x).Perm (x :: held) := by
  unfold ins
  refine List.perm_middle.trans ?_
  refine List.Perm.cons x ?_
  have := List.filter_append_perm (fun y => decide (y ≤ x)) held
  have e : (fun y : Int => !decide (y ≤ x)) = fun y => decide (¬ y ≤ x) := by funext y; simp only [decide_not]
  rw [e] at this
  exact this
theorem ins_sorted (held : List Int) (x : Int) (p : held.Pairwise (· ≤ ·)) : (ins held x).Pairwise (· ≤ ·) := by
  unfold ins
  refine List.pairwise_append.mpr ⟨p.filter _, List.pairwise_cons.mpr ⟨?_, p.filter _⟩, ?_⟩
  · intro y hy
    have := (List.mem_filter.mp hy).2
    simp at this
    omega
  · intro a ha b hb
    have h1 := (List.mem_filter.mp ha).2
    simp at h1
    rcases List.mem_cons.mp hb with hb | hb
    · omega
    · have h2 := (List.mem_filter.mp hb).2
      simp at h2
      omega
theorem ins_len (held : List Int) (x : Int) : (ins held x).length = held.length + 1 := by
  have := (ins_perm held x).length_eq
  simpa using this
theorem cT_perm {t : Int} {xs ys : List Int} (h : xs.Perm ys) : cT (L t xs) = cT (L t ys) := by
  induction h with
  | nil => rfl
  | cons x _ ih => cases q : decide (t ≤ x) <;> simp [L, cT, q] at ih ⊢ <;> exact ih
  | swap x y l => cases q : decide (t ≤ x) <;> cases q2 : decide (t ≤ y) <;> simp [L, cT, q, q2]
  | trans _ _ h1 h2 => exact h1.trans h2
theorem cF_perm {t : Int} {xs ys : List Int} (h : xs.Perm ys) : cF (L t xs) = cF (L t ys) := by
  have h1 := cTF (L t xs)
  have h2 := cTF (L t ys)
  have h3 := cT_perm (t := t) h
  have h4 := h.length_eq
  simp at h1 h2
  omega
/-- a rising list's letters -/
theorem L_sorted : ∀ (t : Int) (xs : List Int), xs.Pairwise (· ≤ ·) → L t xs = List.replicate (cF (L t xs)) false ++ List.replicate (cT (L t xs)) true
  | t, [], _ => rfl
  | t, x :: xs, p => by
    obtain ⟨p1, p2⟩ := List.pairwise_cons.mp p
    have ih := L_sorted t xs p2
    by_cases c : t ≤ x
    · have all : ∀ y ∈ L t xs, y = true := by
        intro y hy
        obtain ⟨z, hz, rfl⟩ := List.mem_map.mp hy
        have := p1 z hz
        simp; omega
      have z : L t xs = List.replicate (L t xs).length true := List.eq_replicate_of_mem all
      have f0 : cF (L t xs) = 0 := by
        rw [z]
        generalize (L t xs).length = n
        induction n with
        | zero => rfl
        | succ n ih => simpa [List.replicate_succ, cF] using ih
      have c1 : cT (L t xs) = (L t xs).length := by have := cTF (L t xs); omega
      have e : L t (x :: xs) = true :: L t xs := by simp [L, c]
      rw [e]
      simp only [cT, cF, f0, List.replicate_zero, List.nil_append, List.replicate_succ]
      rw [c1, ← z]
    · have e : L t (x :: xs) = false :: L t xs := by simp [L, c]
      rw [e]
      simp only [cT, cF, List.replicate_succ, List.cons_append]
      rw [← ih]
theorem mvT_append : ∀ (u v : List Bool) (s : Nat), mvT s (u ++ v) = mvT s u ++ mvT (s - cT u) v
  | [], v, s => by simp [mvT, cT]
  | false :: u, v, s => by simp [mvT, cT, mvT_append u v s]
  | true :: u, v, 0 => by
    have := mvT_append u v 0
    simp at this
    simp [mvT, cT, this]
  | true :: u, v, s + 1 => by
    have e : s + 1 - (cT u + 1) = s - cT u := by omega
    simp [mvT, cT, mvT_append u v s, e]
theorem repl_snoc (n : Nat) (b : Bool) : List.replicate n b ++ [b] = List.replicate (n + 1) b := by
  rw [List.replicate_succ']
/-- the state of a hand for great numbers -/
structure FInv (k : Nat) (done found held : List Int) : Prop where
  srt : held.Pairwise (· ≤ ·)
  len : held.length ≤ k
  prm : (found ++ held).Perm done
  let_ : ∀ t, L t found ++ List.replicate (cF (L t held)) false = mvT k (L t done) ∧ cT (L t held) = min k (cT (L t done))
theorem FInv.start (k : Nat) : FInv k [] [] [] := ⟨.nil, Nat.zero_le _, .nil, fun t => by simp [L, cF, cT, mvT]⟩
theorem cT_ins {t : Int} {held : List Int} {x : Int} : cT (L t (ins held x)) = cT (L t held) + (if t ≤ x then 1 else 0) := by
  rw [cT_perm (ins_perm held x)]
  by_cases c : t ≤ x <;> simp [L, cT, c]
theorem cF_ins {t : Int} {held : List Int} {x : Int} : cF (L t (ins held x)) = cF (L t held) + (if t ≤ x then 0 else 1) := by
  rw [cF_perm (ins_perm held x)]
  by_cases c : t ≤ x <;> simp [L, cF, c]
theorem L_snoc {t : Int} {xs : List Int} {x : Int} : L t (xs ++ [x]) = L t xs ++ [decide (t ≤ x)] := by simp [L]
theorem cT_snoc {t : Int} {xs : List Int} {x : Int} : cT (L t (xs ++ [x])) = cT (L t xs) + (if t ≤ x then 1 else 0) := by
  rw [L_snoc, cT_append]
  by_cases c : t ≤ x <;> simp [c, cT]
theorem cF_snoc {t : Int} {xs : List Int} {x : Int} : cF (L t (xs ++ [x])) = cF (L t xs) + (if t ≤ x then 0 else 1) := by
  rw [L_snoc, cF_append]
  by_cases c : t ≤ x <;> simp [c, cF]
theorem FInv.keep {k : Nat} {done found held : List Int} {x : Int} (h : FInv k done found held) (hl : held.length < k) : FInv k (done ++ [x]) found (ins held x) := by
  refine ⟨ins_sorted _ _ h.srt, by rw [ins_len]; omega, ?_, fun t => ?_⟩
  · refine ((List.Perm.append_left found (ins_perm held x)).trans ?_)
    refine (List.perm_middle.trans ((h.prm.cons x).trans ?_))
    exact (List.perm_append_comm (l₁ := [x]) (l₂ := done))
  · obtain ⟨h1, h2⟩ := h.let_ t
    have b := cTF (L t held)
    have bl : (L t held).length = held.length := by simp
    rw [cT_ins, cF_ins, cT_snoc, L_snoc, mvT_append, ← h1]
    by_cases c : t ≤ x
    · obtain ⟨m, hm⟩ : ∃ m, k - cT (L t done) = m + 1 := ⟨k - cT (L t done) - 1, by omega⟩
      simp [c, hm, mvT]
      omega
    · simp [c, mvT, List.replicate_succ', h2]
theorem FInv.lay {k : Nat} {done found held : List Int} {x y : Int} {ys : List Int} (h : FInv k done found held) (hl : held.length = k) (e : ins held x = y :: ys) : FInv k (done ++ [x]) (found ++ [y]) ys := by
  have s := ins_sorted held x h.srt
  have pm := ins_perm held x
  have ln := ins_len held x
  have ct := fun t => cT_ins (t := t) (held := held) (x := x)
  have cf := fun t => cF_ins (t := t) (held := held) (x := x)
  rw [e] at s pm ln ct cf
  obtain ⟨s1, s2⟩ := List.pairwise_cons.mp s
  refine ⟨s2, by simp at ln; omega, ?_, fun t => ?_⟩
  · rw [List.append_assoc]
    refine ((List.Perm.append_left found pm).trans ?_)
    refine (List.perm_middle.trans ((h.prm.cons x).trans ?_))
    exact (List.perm_append_comm (l₁ := [x]) (l₂ := done))
  · obtain ⟨h1, h2⟩ := h.let_ t
    have b := cTF (L t held)
    have bl : (L t held).length = held.length := by simp
    have b2 := cTF (L t ys)
    have bl2 : (L t ys).length = ys.length := by simp
    have ct := ct t
    have cf := cf t
    rw [cT_snoc, L_snoc, L_snoc, mvT_append, ← h1]
    by_cases c : t ≤ y
    · have f0 : cF (L t ys) = 0 := by
        have all : ∀ z ∈ ys, t ≤ z := fun z hz => by have := s1 z hz; omega
        have : ∀ zs : List Int, (∀ z ∈ zs, t ≤ z) → cF (L t zs) = 0 := by
          intro zs
          induction zs with
          | nil => intro _; rfl
          | cons z zs ih =>
            intro hz
            have hz1 := hz z List.mem_cons_self
            have := ih fun w hw => hz w (List.mem_cons_of_mem _ hw)
            simpa [L, cF, hz1] using this
        exact this ys all
      have cx : t ≤ x := by
        have := pm.symm.subset List.mem_cons_self
        rcases List.mem_cons.mp this with q | q
        · omega
        · have := s1 x q; omega
      simp [L, cF, cT, c, cx] at cf ct f0 ⊢
      simp [L] at b bl b2 bl2 h2
      have g0 : cF (List.map (fun x => decide (t ≤ x)) held) = 0 := by omega
      have k0 : k - cT (List.map (fun x => decide (t ≤ x)) done) = 0 := by omega
      simp [f0, g0, k0, mvT]
      omega
    · have e2 : cF (L t (y :: ys)) = cF (L t ys) + 1 := by simp [L, cF, c]
      have e3 : cT (L t (y :: ys)) = cT (L t ys) := by simp [L, cT, c]
      rw [e2] at cf
      rw [e3] at ct
      have er : L t found ++ [decide (t ≤ y)] ++ List.replicate (cF (L t ys)) false = L t found ++ List.replicate (cF (L t ys) + 1) false := by
        simp [c, List.replicate_succ]
      rw [er, cf, ct, h2]
      by_cases cx : t ≤ x
      · obtain ⟨m, hm⟩ : ∃ m, k - cT (L t done) = m + 1 := ⟨k - cT (L t done) - 1, by simp [cx] at cf; omega⟩
        simp [cx, hm, mvT]
        omega
      · simp [cx, mvT, List.replicate_succ']
/-- the letters behind a forward sweep -/
def fwd (k : Nat) (l : List Bool) : List Bool := mvT k l ++ List.replicate (min k (cT l)) true
theorem FInv.fin {k : Nat} {done found held : List Int} (h : FInv k done found held) (t : Int) : L t (found ++ held) = fwd k (L t done) := by
  obtain ⟨h1, h2⟩ := h.let_ t
  unfold fwd
  rw [← h1, ← h2, List.append_assoc, ← L_sorted t held h.srt]
  simp [L]
/-- the state of a hand for small numbers -/
structure BInv (k : Nat) (done found held : List Int) : Prop where
  srt : held.Pairwise (· ≤ ·)
  len : held.length ≤ k
  prm : (found ++ held).Perm done
  let_ : ∀ t, L t found ++ List.replicate (cT (L t held)) true = mvF k (L t done) ∧ cF (L t held) = min k (cF (L t done))
theorem BInv.start (k : Nat) : BInv k [] [] [] := ⟨.nil, Nat.zero_le _, .nil, fun t => by simp [L, cF, cT, mvF]⟩
theorem BInv.keep {k : Nat} {done found held : List Int} {x : Int} (h : BInv k done found held) (hl : held.length < k) : BInv k (done ++ [x]) found (ins held x) := by
  refine ⟨ins_sorted _ _ h.srt, by rw [ins_len]; omega, ?_, fun t => ?_⟩
  · refine ((List.Perm.append_left found (ins_perm held x)).trans ?_)
    refine (List.perm_middle.trans ((h.prm.cons x).trans ?_))
    exact (List.perm_append_comm (l₁ := [x]) (l₂ := done))
  · obtain ⟨h1, h2⟩ := h.let_ t
    have b := cTF (L t held)
    have bl : (L t held).length = held.length := by simp
    rw [cT_ins, cF_ins, cF_snoc, L_snoc, mvF_append, ← h1]
    by_cases c : t ≤ x
    · simp [c, mvF, List.replicate_succ', h2]
    · obtain ⟨m, hm⟩ : ∃ m, k - cF (L t done) = m + 1 := ⟨k - cF (L t done) - 1, by omega⟩
      simp [c, hm, mvF]
      omega
theorem BInv.lay {k : Nat} {done found held : List Int} {x y : Int} {ys : List Int} (h : BInv k done found held) (hl : held.length = k) (e : ins held x = ys ++ [y]) : BInv k (done ++ [x]) (found ++ [y]) ys := by
  have s := ins_sorted held x h.srt
  have pm := ins_perm held x
  have ln := ins_len held x
  have ct := fun t => cT_ins (t := t) (held := held) (x := x)
  have cf := fun t => cF_ins (t := t) (held := held) (x := x)
  rw [e] at s pm ln ct cf
  obtain ⟨s2, _, s1⟩ := List.pairwise_append.mp s
  have s1 : ∀ z ∈ ys, z ≤ y := fun z hz => s1 z hz y (by simp)
  refine ⟨s2, by simp at ln; omega, ?_, fun t => ?_⟩
  · rw [List.append_assoc]
    have pm2 : ([y] ++ ys).Perm (x :: held) := (List.perm_append_comm).trans pm
    refine ((List.Perm.append_left found pm2).trans ?_)
    refine (List.perm_middle.trans ((h.prm.cons x).trans ?_))
    exact (List.perm_append_comm (l₁ := [x]) (l₂ := done))
  · obtain ⟨h1, h2⟩ := h.let_ t
    have b := cTF (L t held)
    have bl : (L t held).length = held.length := by simp
    have b2 := cTF (L t ys)
    have bl2 : (L t ys).length = ys.length := by simp
    have ct := ct t
    have cf := cf t
    rw [cT_snoc] at ct
    rw [cF_snoc] at cf
    rw [cF_snoc, L_snoc, L_snoc, mvF_append, ← h1]
    by_cases c : t ≤ y
    · have er : L t found ++ [decide (t ≤ y)] ++ List.replicate (cT (L t ys)) true = L t found ++ List.replicate (cT (L t ys) + 1) true := by
        simp [c, List.replicate_succ]
      rw [er]
      simp [c] at ct cf
      rw [ct, cf, h2]
      by_cases cx : t ≤ x
      · simp [cx, mvF, List.replicate_succ']
      · obtain ⟨m, hm⟩ : ∃ m, k - cF (L t done) = m + 1 := ⟨k - cF (L t done) - 1, by simp [cx] at ct; omega⟩
        simp [cx, hm, mvF]
        omega
    · have t0 : cT (L t ys) = 0 := by
        have : ∀ zs : List Int, (∀ z ∈ zs, ¬ t ≤ z) → cT (L t zs) = 0 := by
          intro zs
          induction zs with
          | nil => intro _; rfl
          | cons z zs ih =>
            intro hz
            have hz1 := hz z List.mem_cons_self
            have := ih fun w hw => hz w (List.mem_cons_of_mem _ hw)
            simpa [L, cT, hz1] using this
        exact this ys fun z hz => by have := s1 z hz; omega
      have cx : ¬ t ≤ x := by
        have := pm.symm.subset List.mem_cons_self
        rcases List.mem_append.mp this with q | q
        · have := s1 x q; omega
        · have : x = y := by simpa using q
          omega
      simp [c, cx] at ct cf ⊢
      simp [L] at b bl b2 bl2 h2 t0 ct cf ⊢
      have g0 : cT (List.map (fun x => decide (t ≤ x)) held) = 0 := by omega
      have k0 : k - cF (List.map (fun x => decide (t ≤ x)) done) = 0 := by omega
      simp [t0, g0, k0, mvF]
      omega
def bwd (k : Nat) (l : List Bool) : List Bool := (mvF k l.reverse ++ List.replicate (min k (cF l)) false).reverse
theorem BInv.fin {k : Nat} {done found held : List Int} (h : BInv k done found held) (t : Int) : L t (found ++ held.reverse).reverse = bwd k (L t done.reverse) := by
  obtain ⟨h1, h2⟩ := h.let_ t
  unfold bwd
  have e1 : (L t done.reverse).reverse = L t done := by simp [L]
  have e2 : cF (L t done.reverse) = cF (L t done) := by rw [← cF_reverse, e1]
  rw [e1, e2, ← h1, ← h2]
  have e3 : L t (found ++ held.reverse).reverse = (L t found ++ (L t held).reverse).reverse := by simp [L]
  have e4 : (L t held).reverse = List.replicate (cT (L t held)) true ++ List.replicate (cF (L t held)) false := by
    have := congrArg List.reverse (L_sorted t held h.srt)
    simpa using this
  rw [e3, e4, List.append_assoc]
/-- what a sweep makes of a row, by numbers and letters -/
def Swept (b : Bool) (n : Nat) (ns ms : List Int) : Prop := ms.Perm ns ∧ ∀ t, L t ms = if b = true then bwd n (L t ns) else fwd n (L t ns)
theorem Swept.of_f {n : Nat} {ns found held : List Int} (h : FInv n ns found held) : Swept false n ns (found ++ held) := ⟨h.prm, fun t => h.fin t⟩
theorem Swept.of_b {n : Nat} {ns found held : List Int} (h : BInv n ns.reverse found held) : Swept true n ns (found ++ held.reverse).reverse := by
  refine ⟨?_, fun t => ?_⟩
  · refine (List.reverse_perm _).trans ?_
    refine ((List.Perm.append_left found (List.reverse_perm held)).trans h.prm).trans (List.reverse_perm ns)
  · have := h.fin t
    rw [List.reverse_reverse] at this
    exact this
theorem sorted_eq : ∀ {xs ys : List Int}, xs.Perm ys → xs.Pairwise (· ≤ ·) → ys.Pairwise (· ≤ ·) → xs = ys
  | [], ys, h, _, _ => h.nil_eq
  | x :: xs, [], h, _, _ => absurd h.length_eq (by simp)
  | x :: xs, y :: ys, h, h1, h2 => by
    obtain ⟨a1, a2⟩ := List.pairwise_cons.mp h1
    obtain ⟨b1, b2⟩ := List.pairwise_cons.mp h2
    have e : x = y := by
      have p : x ≤ y := by
        rcases List.mem_cons.mp (h.symm.subset List.mem_cons_self) with q | q
        · omega
        · exact a1 y q
      have p2 : y ≤ x := by
        rcases List.mem_cons.mp (h.subset List.mem_cons_self) with q | q
        · omega
        · exact b1 x q
      omega
    subst e
    rw [sorted_eq h.cons_inv a2 b2]
theorem nodup_len : ∀ (us ns : List Int), us.Nodup → (∀ z ∈ us, z ∈ ns) → us.length ≤ ns.length
  | [], _, _, _ => Nat.zero_le _
  | u :: us, ns, h, hs => by
    obtain ⟨h1, h2⟩ := List.nodup_cons.mp h
    have m := hs u List.mem_cons_self
    have ih := nodup_len us (ns.erase u) h2 fun z hz => (List.mem_erase_of_ne (fun e => h1 (by rw [← e]; exact hz))).mpr (hs z (List.mem_cons_of_mem _ hz))
    have := List.length_erase_of_mem m
    have p := List.length_pos_of_mem m
    simp only [List.length_cons]
    omega
theorem rising_len {us ns : List Int} (h : us.Pairwise (· < ·)) (hs : ∀ z ∈ us, z ∈ ns) : us.length ≤ ns.length :=
  nodup_len us ns (h.imp fun q => by omega) hs
end M07
end
/-! ## M12 -/
section
set_option linter.all false
/-! sweeps and loads -/
namespace M12
open M13 M07
theorem cT_rep (n : Nat) : cT (List.replicate n true) = n := by induction n with | zero => rfl | succ n ih => simp [List.replicate_succ, cT, ih]
theorem cF_rep (n : Nat) : cF (List.replicate n true) = 0 := by induction n with | zero => rfl | succ n ih => simp [List.replicate_succ, cF, ih]
theorem cT_repF (n : Nat) : cT (List.replicate n false) = 0 := by induction n with | zero => rfl | succ n ih => simp [List.replicate_succ, cT, ih]
theorem cF_repF (n : Nat) : cF (List.replicate n false) = n := by induction n with | zero => rfl | succ n ih => simp [List.replicate_succ, cF, ih]
theorem cT_mvT : ∀ (l : List Bool) (a : Nat), cT (mvT a l) = cT l - a
  | [], a => by simp [mvT, cT]
  | true :: l, 0 => by simp [mvT, cT, cT_mvT l 0]
  | true :: l, a + 1 => by simp [mvT, cT, cT_mvT l a]
  | false :: l, a => by simp [mvT, cT, cT_mvT l a]
theorem cF_mvF : ∀ (l : List Bool) (a : Nat), cF (mvF a l) = cF l - a
  | [], a => by simp [mvF, cF]
  | false :: l, 0 => by simp [mvF, cF, cF_mvF l 0]
  | false :: l, a + 1 => by simp [mvF, cF, cF_mvF l a]
  | true :: l, a => by simp [mvF, cF, cF_mvF l a]
theorem cT_mvF : ∀ (l : List Bool) (a : Nat), cT (mvF a l) = cT l
  | [], a => by simp [mvF, cT]
  | false :: l, 0 => by simp [mvF, cT, cT_mvF l 0]
  | false :: l, a + 1 => by simp [mvF, cT, cT_mvF l a]
  | true :: l, a => by simp [mvF, cT, cT_mvF l a]
theorem mvT_rep : ∀ (j m : Nat), mvT j (List.replicate m true) = List.replicate (m - j) true
  | j, 0 => by simp [mvT]
  | 0, m + 1 => by have := mvT_rep 0 m; simp at this; simp [List.replicate_succ, mvT, this]
  | j + 1, m + 1 => by simp [List.replicate_succ, mvT, mvT_rep j m]
theorem mvF_rep : ∀ (j m : Nat), mvF j (List.replicate m false) = List.replicate (m - j) false
  | j, 0 => by simp [mvF]
  | 0, m + 1 => by have := mvF_rep 0 m; simp at this; simp [List.replicate_succ, mvF, this]
  | j + 1, m + 1 => by simp [List.replicate_succ, mvF, mvF_rep j m]
theorem mvT_repF : ∀ (j m : Nat) (l : List Bool), mvT j (List.replicate m false ++ l) = List.replicate m false ++ mvT j l
  | j, 0, l => by simp
  | j, m + 1, l => by simp [List.replicate_succ, mvT, mvT_repF j m l]
theorem mvT_mvT : ∀ (l : List Bool) (a k : Nat), mvT k (mvT a l) = mvT (a + k) l
  | [], a, k => by simp [mvT]
  | true :: l, 0, 0 => by simp [mvT, mvT_mvT l 0 0]
  | true :: l, 0, k + 1 => by simp [mvT, mvT_mvT l 0 k]
  | true :: l, a + 1, k => by rw [show a + 1 + k = (a + k) + 1 by omega]; simp [mvT, mvT_mvT l a k]
  | false :: l, a, k => by simp [mvT, mvT_mvT l a k]
theorem mvF_mvF : ∀ (l : List Bool) (a k : Nat), mvF k (mvF a l) = mvF (a + k) l
  | [], a, k => by simp [mvF]
  | false :: l, 0, 0 => by simp [mvF, mvF_mvF l 0 0]
  | false :: l, 0, k + 1 => by simp [mvF, mvF_mvF l 0 k]
  | false :: l, a + 1, k => by rw [show a + 1 + k = (a + k) + 1 by omega]; simp [mvF, mvF_mvF l a k]
  | true :: l, a, k => by simp [mvF, mvF_mvF l a k]
theorem cT_fwd (a : Nat) (l : List Bool) : cT (fwd a l) = cT l := by
  unfold fwd; rw [cT_append, cT_mvT, cT_rep]; omega
theorem cF_fwd (a : Nat) (l : List Bool) : cF (fwd a l) = cF l := by
  unfold fwd; rw [cF_append, cF_mvT, cF_rep]; omega
theorem fwd_fwd (a k : Nat) (l : List Bool) : fwd k (fwd a l) = fwd (a + k) l := by
  have e : cT (fwd a l) = cT l := cT_fwd a l
  unfold fwd at e ⊢
  rw [e, mvT_append, mvT_mvT, cT_mvT, mvT_rep, List.append_assoc, List.replicate_append_replicate]
  congr 2
  omega
def bw (k : Nat) (r : List Bool) : List Bool := mvF k r ++ List.replicate (min k (cF r)) false
theorem bwd_bw (k : Nat) (l : List Bool) : bwd k l = (bw k l.reverse).reverse := by unfold bwd bw; rw [cF_reverse]
theorem cF_bw (a : Nat) (l : List Bool) : cF (bw a l) = cF l := by
  unfold bw; rw [cF_append, cF_mvF, cF_repF]; omega
theorem bw_bw (a k : Nat) (l : List Bool) : bw k (bw a l) = bw (a + k) l := by
  have e : cF (bw a l) = cF l := cF_bw a l
  unfold bw at e ⊢
  rw [e, mvF_append, mvF_mvF, cF_mvF, mvF_rep, List.append_assoc, List.replicate_append_replicate]
  congr 2
  omega
theorem bwd_bwd (a k : Nat) (l : List Bool) : bwd k (bwd a l) = bwd (a + k) l := by
  rw [bwd_bw, bwd_bw, List.reverse_reverse, bw_bw, ← bwd_bw]
theorem bwd_can (b : Nat) (l : List Bool) : bwd b l = List.replicate (min b (cF l)) false ++ can 0 (cF l - b) l := by
  unfold bwd
  rw [List.reverse_append, mvF_back, List.reverse_replicate]
theorem can0_rep : ∀ (l : List Bool) (z m : Nat), can 0 z (l ++ List.replicate m true) = can 0 z l ++ List.replicate m true
  | [], z, 0 => by simp [can]
  | [], z, m + 1 => by have := can0_rep [] z m; simp [can] at this; simp [List.replicate_succ, can, this]
  | true :: l, z, m => by simp [can, can0_rep l z m]
  | false :: l, 0, m => by simp [can, can0_rep l 0 m]
  | false :: l, z + 1, m => by simp [can, can0_rep l z m]
theorem mvT_can : ∀ (l : List Bool) (a z : Nat), mvT a (can 0 z l) = can a z l
  | [], a, z => by cases a <;> simp [can, mvT]
  | true :: l, 0, z => by simp [can, mvT, mvT_can l 0 z]
  | true :: l, a + 1, z => by simp [can, mvT, mvT_can l a z]
  | false :: l, a, 0 => by cases a <;> simp [can, mvT_can l]
  | false :: l, a, z + 1 => by cases a <;> simp [can, mvT, mvT_can l]
theorem cT_can : ∀ (l : List Bool) (z : Nat), cT (can 0 z l) = cT l
  | [], z => by simp [can]
  | true :: l, z => by simp [can, cT, cT_can l z]
  | false :: l, 0 => by simp [can, cT, cT_can l 0]
  | false :: l, z + 1 => by simp [can, cT, cT_can l z]
theorem mv_bf (a b : Nat) (l : List Bool) : mv a b l = bwd b (fwd a l) := by
  rw [bwd_can, cF_fwd]
  unfold fwd mv
  rw [can0_rep, ← can_mvT]
  congr 3
  omega
theorem mv_fb (a b : Nat) (l : List Bool) : mv a b l = fwd a (bwd b l) := by
  have e : cT (bwd b l) = cT l := by rw [bwd_can, cT_append, cT_repF, cT_can]; omega
  unfold fwd
  rw [e, bwd_can, mvT_repF, mvT_can]
  unfold mv
  have : cF l - min b (cF l) = cF l - b := by omega
  rw [this, List.append_assoc]
theorem fwd_mv (k a b : Nat) (l : List Bool) : fwd k (mv a b l) = mv (a + k) b l := by rw [mv_fb, fwd_fwd, ← mv_fb]
theorem bwd_mv (k a b : Nat) (l : List Bool) : bwd k (mv a b l) = mv a (b + k) l := by rw [mv_bf, bwd_bwd, ← mv_bf]
theorem mv_mv (a b c d : Nat) (l : List Bool) : mv c d (mv a b l) = mv (a + c) (b + d) l := by rw [mv_fb c d, bwd_mv, fwd_mv]
/-! ### rows by their letters -/
theorem L_get {t : Int} {ms : List Int} {i : Nat} : (L t ms)[i]? = ms[i]?.map fun x => decide (t ≤ x) := by simp [L]
theorem by_letters {ms ns : List Int} (h : ∀ t, L t ms = L t ns) : ms = ns := by
  refine List.ext_getElem? fun i => ?_
  have g := fun t => congrArg (fun l => l[i]?) (h t)
  simp only [L_get] at g
  cases e1 : ms[i]? with
  | none =>
    cases e2 : ns[i]? with
    | none => rfl
    | some y => have := g y; rw [e1, e2] at this; simp at this
  | some x =>
    cases e2 : ns[i]? with
    | none => have := g x; rw [e1, e2] at this; simp at this
    | some y =>
      have h1 := g x
      have h2 := g y
      rw [e1, e2] at h1 h2
      simp at h1 h2
      congr 1
      omega
theorem Swept.uniq {b : Bool} {n : Nat} {ns ms ms' : List Int} (h : Swept b n ns ms) (h' : Swept b n ns ms') : ms = ms' := by_letters fun t => (h.2 t).trans (h'.2 t).symm
theorem f_exists (k : Nat) : ∀ (ns done found held : List Int), FInv k done found held → ∃ found' held', FInv k (done ++ ns) found' held'
  | [], done, found, held, h => ⟨found, held, by simpa using h⟩
  | x :: ns, done, found, held, h => by
    have e : done ++ x :: ns = (done ++ [x]) ++ ns := by simp
    rw [e]
    by_cases c : held.length < k
    · exact f_exists k ns _ _ _ (h.keep c)
    · have hl : held.length = k := by have := h.len; omega
      have li := ins_len held x
      cases hi : ins held x with
      | nil => rw [hi] at li; simp at li
      | cons y ys => exact f_exists k ns _ _ _ (h.lay hl hi)
theorem b_exists (k : Nat) : ∀ (ns done found held : List Int), BInv k done found held → ∃ found' held', BInv k (done ++ ns) found' held'
  | [], done, found, held, h => ⟨found, held, by simpa using h⟩
  | x :: ns, done, found, held, h => by
    have e : done ++ x :: ns = (done ++ [x]) ++ ns := by simp
    rw [e]
    by_cases c : held.length < k
    · exact b_exists k ns _ _ _ (h.keep c)
    · have hl : held.length = k := by have := h.len; omega
      have li := ins_len held x
      obtain ⟨ys, y, hi⟩ : ∃ ys y, ins held x = ys ++ [y] := by
        cases hi : ins held x with
        | nil => rw [hi] at li; simp at li
        | cons a as => exact ⟨_, _, (List.dropLast_concat_getLast (by simp : a :: as ≠ [])).symm⟩
      exact b_exists k ns _ _ _ (h.lay hl hi)
theorem Swept.exists (b : Bool) (n : Nat) (ns : List Int) : ∃ ms, Swept b n ns ms := by
  cases b with
  | false =>
    obtain ⟨f, h, i⟩ := f_exists n ns [] [] [] (.start n)
    exact ⟨_, Swept.of_f i⟩
  | true =>
    obtain ⟨f, h, i⟩ := b_exists n ns.reverse [] [] [] (.start n)
    exact ⟨_, Swept.of_b i⟩
/-- the row after a load -/
def Loaded (a b : Nat) (ns ms : List Int) : Prop := ms.Perm ns ∧ ∀ t, L t ms = mv a b (L t ns)
theorem Loaded.uniq {a b : Nat} {ns ms ms' : List Int} (h : Loaded a b ns ms) (h' : Loaded a b ns ms') : ms = ms' := by_letters fun t => (h.2 t).trans (h'.2 t).symm
theorem Loaded.exists (a b : Nat) (ns : List Int) : ∃ ms, Loaded a b ns ms := by
  obtain ⟨x, hx⟩ := Swept.exists false a ns
  obtain ⟨y, hy⟩ := Swept.exists true b x
  refine ⟨y, hy.1.trans hx.1, fun t => ?_⟩
  rw [hy.2, hx.2, mv_bf]
  rfl
theorem Loaded.zero (ns : List Int) : Loaded 0 0 ns ns := ⟨.refl _, fun t => (mv_zero _).symm⟩
theorem Loaded.trans {a b c d : Nat} {ns x ms : List Int} (h : Loaded a b ns x) (h' : Loaded c d x ms) : Loaded (a + c) (b + d) ns ms := ⟨h'.1.trans h.1, fun t => by rw [h'.2, h.2, mv_mv]⟩
theorem Loaded.of_swept {b : Bool} {n : Nat} {ns ms : List Int} (h : Swept b n ns ms) : Loaded (if b = true then 0 else n) (if b = true then n else 0) ns ms := by
  refine ⟨h.1, fun t => ?_⟩
  rw [h.2]
  cases b with
  | false =>
    have := fwd_mv n 0 0 (L t ns)
    rw [mv_zero] at this
    simpa using this
  | true =>
    have := bwd_mv n 0 0 (L t ns)
    rw [mv_zero] at this
    simpa using this
/-- one sweep after the other -/
def SweptAll : List (Int × Bool) → List Int → List Int → Prop
  | [], ns, ms => ms = ns
  | (k, b) :: r, ns, ms => ∃ x, Swept b k.toNat ns x ∧ SweptAll r x ms
theorem SweptAll.exists : ∀ (sw : List (Int × Bool)) (ns : List Int), ∃ ms, SweptAll sw ns ms
  | [], ns => ⟨ns, rfl⟩
  | (k, b) :: r, ns => by
    obtain ⟨x, hx⟩ := Swept.exists b k.toNat ns
    obtain ⟨ms, h⟩ := SweptAll.exists r x
    exact ⟨ms, x, hx, h⟩
/-- the row after a word -/
noncomputable def aft (sw : List (Int × Bool)) (ns : List Int) : List Int := Classical.choose (SweptAll.exists sw ns)
theorem aft_ok (sw : List (Int × Bool)) (ns : List Int) : SweptAll sw ns (aft sw ns) := Classical.choose_spec (SweptAll.exists sw ns)
def sumF (sw : List (Int × Bool)) : Nat := (sw.map fun p => if p.2 = true then 0 else p.1.toNat).sum
def sumB (sw : List (Int × Bool)) : Nat := (sw.map fun p => if p.2 = true then p.1.toNat else 0).sum
theorem SweptAll.loaded : ∀ {sw : List (Int × Bool)} {ns ms : List Int}, SweptAll sw ns ms → Loaded (sumF sw) (sumB sw) ns ms
  | [], ns, ms, h => by
    have h : ms = ns := h
    subst h
    exact .zero ms
  | (k, b) :: r, ns, ms, ⟨x, h1, h2⟩ => by
    have := (Loaded.of_swept h1).trans (SweptAll.loaded h2)
    simpa [sumF, sumB] using this
/-- the row after a load, bound by bound, as the package makes it -/
theorem ld_loaded {a b : Nat} {ns bs found : List Int} {m : Int} (hp : bs.Pairwise (· < ·)) (hm : ∀ z, z ∈ bs ↔ z ∈ ns) (h1 : ∀ y ∈ ns, m ≤ y) : Loaded a b ns (ld a b ns bs (ns.map fun _ => m)) := by
  obtain ⟨ms, h⟩ := Loaded.exists a b ns
  have lm := h.1.length_eq
  suffices e : ld a b ns bs (ns.map fun _ => m) = ms by rw [e]; exact h
  have go : ∀ (ts found : List Int), found.length = ms.length → ld a b ns ts found = (ms.zip found).map fun p => upto ts p.1 p.2 := by
    intro ts
    induction ts with
    | nil =>
      intro found hf
      show found = _
      have : (fun p : Int × Int => upto [] p.1 p.2) = Prod.snd := rfl
      rw [this, List.map_snd_zip (by omega)]
    | cons t ts ih =>
      intro found hf
      show ld a b ns ts _ = _
      have et : mv a b (ns.map fun n => decide (t ≤ n)) = ms.map fun x => decide (t ≤ x) := (h.2 t).symm
      rw [et, ih _ (by simp [hf])]
      have go2 : ∀ (ms found : List Int), found.length = ms.length → (ms.zip (((ms.map fun n => decide (t ≤ n)).zip found).map fun p => if p.1 = true then t else p.2)).map (fun p => upto ts p.1 p.2) = (ms.zip found).map fun p => upto (t :: ts) p.1 p.2 := by
        intro ms
        induction ms with
        | nil => intro found _; rfl
        | cons n ms ih =>
          intro found hf
          cases found with
          | nil => simp at hf
          | cons o found =>
            simp only [List.map_cons, List.zip_cons_cons]
            rw [ih found (by simpa using hf)]
            congr 1
            by_cases c : t ≤ n <;> simp [upto, c]
      exact go2 ms found hf
  rw [go bs _ (by simp [lm])]
  have go3 : ∀ (ms found : List Int), found.length = ms.length → (∀ n ∈ ms, n ∈ bs) → (ms.zip found).map (fun p => upto bs p.1 p.2) = ms := by
    intro ms
    induction ms with
    | nil => intro _ _ _; rfl
    | cons n ms ih =>
      intro found hf hm
      cases found with
      | nil => simp at hf
      | cons o found =>
        simp only [List.map_cons, List.zip_cons_cons]
        rw [ih found (by simpa using hf) (fun x hx => hm x (List.mem_cons_of_mem _ hx)), upto_mem bs n o hp (hm n List.mem_cons_self)]
  exact go3 ms _ (by simp [lm]) fun n hn => (hm n).mpr (h.1.subset hn)
theorem SweptAll.eq_aft {sw : List (Int × Bool)} {ns ms : List Int} (h : SweptAll sw ns ms) : ms = aft sw ns := h.loaded.uniq (aft_ok sw ns).loaded
end M12
end
/-! ## M16 -/
section
set_option linter.all false
/-! cuts and decisions -/
namespace M16
open M13 M07 M12
abbrev SB (l : List Bool) : Prop := l.Pairwise fun x y => x = true → y = true
def bad (a b : Nat) (l : List Bool) : Prop := ∃ c, a < cT (l.take c) ∧ b < cF (l.drop c)
theorem SB_pre (n m : Nat) (u : List Bool) : SB (List.replicate n false ++ (u ++ List.replicate m true)) ↔ SB u := by
  constructor
  · intro h
    exact (List.pairwise_append.mp (List.pairwise_append.mp h).2.1).1
  · intro h
    refine List.pairwise_append.mpr ⟨List.pairwise_replicate.mpr (.inr (by simp)), List.pairwise_append.mpr ⟨h, List.pairwise_replicate.mpr (.inr (by simp)), fun x _ y hy _ => List.eq_of_mem_replicate hy⟩, fun x hx y _ q => ?_⟩
    have := List.eq_of_mem_replicate hx
    rw [this] at q
    cases q
theorem SB_false (u : List Bool) : SB (false :: u) ↔ SB u := by simp [SB, List.pairwise_cons]
theorem SB_can0 : ∀ (l : List Bool) (a : Nat), SB (can a 0 l)
  | [], a => by simp [can]
  | true :: l, 0 => by
    have all : ∀ (l : List Bool), ∀ y ∈ can 0 0 l, y = true := by
      intro l
      induction l with
      | nil => intro y h; simp [can] at h
      | cons x l ih =>
        intro y h
        cases x with
        | true => rcases List.mem_cons.mp (show y ∈ true :: can 0 0 l from h) with q | q; exact q; exact ih y q
        | false => exact ih y (by simpa [can] using h)
    have : can 0 0 (true :: l) = true :: can 0 0 l := rfl
    rw [this]
    exact List.pairwise_cons.mpr ⟨fun y hy _ => all l y hy, SB_can0 l 0⟩
  | true :: l, a + 1 => by simpa [can] using SB_can0 l a
  | false :: l, a => by cases a <;> simpa [can] using SB_can0 l _
theorem cF_le (l : List Bool) : cF l ≤ l.length := by have := cTF l; omega
theorem cF_drop_le (l : List Bool) (c : Nat) : cF (l.drop c) ≤ cF l := by
  have := cF_append (l.take c) (l.drop c)
  rw [List.take_append_drop] at this
  omega
theorem cF_can0 : ∀ (l : List Bool) (z : Nat), z ≤ cF l → cF (can 0 z l) = z
  | [], z, h => by simp [cF] at h; subst h; simp [can, cF]
  | true :: l, z, h => by simp [can, cF]; exact cF_can0 l z (by simpa [cF] using h)
  | false :: l, 0, h => by
    have := cF_can0 l 0 (Nat.zero_le _)
    simpa [can] using this
  | false :: l, z + 1, h => by simp [can, cF]; exact cF_can0 l z (by simp [cF] at h; omega)
theorem cF_pos_mem : ∀ (l : List Bool), 0 < cF l → false ∈ l
  | [], h => by simp [cF] at h
  | true :: l, h => List.mem_cons_of_mem _ (cF_pos_mem l (by simpa [cF] using h))
  | false :: l, h => List.mem_cons_self
theorem can_sorted : ∀ (l : List Bool) (a z : Nat), z ≤ cF l → (SB (can a z l) ↔ ¬ bad a (cF l - z) l)
  | [], a, z, h => by
    simp [can, bad, cT]
  | true :: l, 0, z, h => by
    have e : can 0 z (true :: l) = true :: can 0 z l := rfl
    have hc : z ≤ cF l := by simpa [cF] using h
    have ec := cF_can0 l z hc
    rw [e]
    constructor
    · intro s ⟨c, h1, h2⟩
      have := (List.pairwise_cons.mp s).1
      have le := cF_drop_le (true :: l) c
      simp [cF] at h2 le
      have zp : 0 < cF (can 0 z l) := by omega
      have := this false (cF_pos_mem _ zp) rfl
      cases this
    · intro nb
      have z0 : z = 0 := by
        by_cases q : z = 0
        · exact q
        · exact absurd ⟨1, by simp [cT], by simp [cF]; omega⟩ nb
      subst z0
      exact SB_can0 (true :: l) 0
  | true :: l, a + 1, z, h => by
    have e : can (a + 1) z (true :: l) = can a z l := rfl
    have ih := can_sorted l a z (by simpa [cF] using h)
    rw [e, ih]
    have : bad a (cF l - z) l ↔ bad (a + 1) (cF (true :: l) - z) (true :: l) := by
      constructor
      · rintro ⟨c, h1, h2⟩
        exact ⟨c + 1, by simpa [cT] using h1, by simpa [cF] using h2⟩
      · rintro ⟨c, h1, h2⟩
        cases c with
        | zero => simp [cT] at h1
        | succ c => exact ⟨c, by simpa [cT] using h1, by simpa [cF] using h2⟩
    rw [this]
  | false :: l, a, 0, h => by
    refine iff_of_true (SB_can0 _ a) fun ⟨c, h1, h2⟩ => ?_
    have := cF_drop_le (false :: l) c
    omega
  | false :: l, a, z + 1, h => by
    have e : can a (z + 1) (false :: l) = false :: can a z l := by cases a <;> rfl
    have ih := can_sorted l a z (by simp [cF] at h; omega)
    rw [e, SB_false, ih]
    have : bad a (cF l - z) l ↔ bad a (cF (false :: l) - (z + 1)) (false :: l) := by
      have e2 : cF (false :: l) - (z + 1) = cF l - z := by simp [cF]
      rw [e2]
      constructor
      · rintro ⟨c, h1, h2⟩
        exact ⟨c + 1, by simpa [cT] using h1, by simpa using h2⟩
      · rintro ⟨c, h1, h2⟩
        cases c with
        | zero => simp [cT] at h1
        | succ c => exact ⟨c, by simpa [cT] using h1, by simpa using h2⟩
    rw [this]
theorem mv_sorted (a b : Nat) (l : List Bool) : SB (mv a b l) ↔ ¬ bad a b l := by
  unfold mv
  rw [SB_pre, can_sorted l a _ (by omega)]
  have : ∀ c, b < cF (l.drop c) ↔ cF l - (cF l - min b (cF l)) < cF (l.drop c) := by
    intro c
    have := cF_drop_le l c
    omega
  constructor
  · rintro h ⟨c, h1, h2⟩
    exact h ⟨c, h1, (this c).mp h2⟩
  · rintro h ⟨c, h1, h2⟩
    exact h ⟨c, h1, (this c).mpr h2⟩
theorem sorted_letters (ms : List Int) : ms.Pairwise (· ≤ ·) ↔ ∀ t, SB (L t ms) := by
  constructor
  · intro h t
    refine List.pairwise_map.mpr (h.imp fun {x y} q z => ?_)
    simp at z ⊢
    omega
  · intro h
    rw [List.pairwise_iff_getElem]
    intro i j hi hj hij
    have := (List.pairwise_iff_getElem.mp (h ms[i])) i j (by simpa using hi) (by simpa using hj) hij
    simpa [L] using this
theorem least_above (t : Int) : ∀ (ns : List Int), (∃ x ∈ ns, t ≤ x) → ∃ u ∈ ns, t ≤ u ∧ ∀ x ∈ ns, t ≤ x → u ≤ x
  | [], ⟨_, h, _⟩ => by cases h
  | n :: ns, h => by
    by_cases c : ∃ x ∈ ns, t ≤ x
    · obtain ⟨u, hu, h1, h2⟩ := least_above t ns c
      by_cases d : t ≤ n ∧ n ≤ u
      · exact ⟨n, List.mem_cons_self, d.1, fun x hx hx2 => by
          rcases List.mem_cons.mp hx with q | q
          · omega
          · have := h2 x q hx2; omega⟩
      · exact ⟨u, List.mem_cons_of_mem _ hu, h1, fun x hx hx2 => by
          rcases List.mem_cons.mp hx with q | q
          · omega
          · exact h2 x q hx2⟩
    · obtain ⟨x, hx, hx2⟩ := h
      rcases List.mem_cons.mp hx with q | q
      · subst q
        exact ⟨x, List.mem_cons_self, hx2, fun y hy hy2 => by
          rcases List.mem_cons.mp hy with q | q
          · omega
          · exact absurd ⟨y, q, hy2⟩ c⟩
      · exact absurd ⟨x, q, hx2⟩ c
/-- the counts of a cut -/
def p_ (ns : List Int) (c : Nat) (t : Int) : Nat := ((ns.take c).filter fun x => decide (t ≤ x)).length
def q_ (ns : List Int) (c : Nat) (t : Int) : Nat := ((ns.drop c).filter fun x => decide (x < t)).length
theorem len_ge (t : Int) : ∀ xs : List Int, (xs.filter fun x => decide (t ≤ x)).length = cT (L t xs)
  | [] => rfl
  | x :: xs => by
    have ih := len_ge t xs
    by_cases c : t ≤ x <;> simp [L, cT, c] at ih ⊢ <;> exact ih
theorem len_lt (t : Int) : ∀ xs : List Int, (xs.filter fun x => decide (x < t)).length = cF (L t xs)
  | [] => rfl
  | x :: xs => by
    have ih := len_lt t xs
    by_cases c : t ≤ x
    · have d : ¬ x < t := by omega
      simp [L, cF, c, d] at ih ⊢
      exact ih
    · have d : x < t := by omega
      simp [L, cF, c, d] at ih ⊢
      exact ih
theorem p_eq (ns : List Int) (c : Nat) (t : Int) : p_ ns c t = cT ((L t ns).take c) := by unfold p_; rw [len_ge]; simp [L]
theorem q_eq (ns : List Int) (c : Nat) (t : Int) : q_ ns c t = cF ((L t ns).drop c) := by unfold q_; rw [len_lt]; simp [L]
theorem cT_pos : ∀ (l : List Bool), 0 < cT l → true ∈ l
  | [], h => by simp [cT] at h
  | false :: l, h => List.mem_cons_of_mem _ (cT_pos l (by simpa [cT] using h))
  | true :: l, h => List.mem_cons_self
/-- a row is in order after a load exactly if no cut says otherwise -/
theorem dec {a b : Nat} {ns ms : List Int} (h : Loaded a b ns ms) : ms.Pairwise (· ≤ ·) ↔ ∀ t ∈ ns, ∀ c, c ≤ ns.length → ¬ (a < p_ ns c t ∧ b < q_ ns c t) := by
  rw [sorted_letters]
  constructor
  · intro s t _ c _ ⟨h1, h2⟩
    have := s t
    rw [h.2 t, mv_sorted] at this
    exact this ⟨c, by rw [← p_eq]; exact h1, by rw [← q_eq]; exact h2⟩
  · intro nb t
    rw [h.2 t, mv_sorted]
    rintro ⟨c, h1, h2⟩
    have tm := cT_pos _ (Nat.lt_of_le_of_lt (Nat.zero_le _) h1)
    obtain ⟨x, hx, hxt⟩ := List.mem_map.mp (List.mem_of_mem_take tm)
    obtain ⟨u, hu, u1, u2⟩ := least_above t ns ⟨x, hx, by simpa using hxt⟩
    have eL : L u ns = L t ns := by
      refine List.map_congr_left fun y hy => ?_
      have := u2 y hy
      by_cases q : t ≤ y
      · simp [q, this q]
      · have : ¬ u ≤ y := by omega
        simp [q, this]
    have lc : c ≤ ns.length := by
      by_cases q : c ≤ ns.length
      · exact q
      · have : (L t ns).drop c = [] := List.drop_of_length_le (by simp; omega)
        rw [this] at h2
        simp [cF] at h2
    exact nb u hu c lc ⟨by rw [p_eq, eL]; exact h1, by rw [q_eq, eL]; exact h2⟩
theorem p_le (ns : List Int) (c : Nat) (t : Int) : p_ ns c t ≤ ns.length := by
  unfold p_
  have := List.length_filter_le (fun x => decide (t ≤ x)) (ns.take c)
  have : (ns.take c).length ≤ ns.length := by rw [List.length_take]; omega
  omega
theorem q_le (ns : List Int) (c : Nat) (t : Int) : q_ ns c t ≤ ns.length := by
  unfold q_
  have := List.length_filter_le (fun x => decide (x < t)) (ns.drop c)
  simp at this ⊢
  omega
theorem adj_iff : ∀ ns : List Int, (∀ p ∈ ns.zip (ns.drop 1), p.1 ≤ p.2) ↔ ns.Pairwise (· ≤ ·)
  | [] => by simp
  | [a] => by simp
  | a :: b :: r => by
    have ih := adj_iff (b :: r)
    have e : (a :: b :: r).zip ((a :: b :: r).drop 1) = (a, b) :: (b :: r).zip ((b :: r).drop 1) := by simp
    rw [e]
    constructor
    · intro h
      have h1 := h (a, b) List.mem_cons_self
      have h2 := ih.mp fun p hp => h p (List.mem_cons_of_mem _ hp)
      refine List.pairwise_cons.mpr ⟨fun y hy => ?_, h2⟩
      rcases List.mem_cons.mp hy with q | q
      · subst q; exact h1
      · have := (List.pairwise_cons.mp h2).1 y q
        exact Int.le_trans h1 this
    · intro h p hp
      obtain ⟨h1, h2⟩ := List.pairwise_cons.mp h
      rcases List.mem_cons.mp hp with q | q
      · subst q; exact h1 b List.mem_cons_self
      · exact ih.mpr h2 p q
instance (ns : List Int) : Decidable (ns.Pairwise (· ≤ ·)) := inferInstance
theorem adj_all (ns : List Int) : ((ns.zip (ns.drop 1)).all fun p => decide (p.1 ≤ p.2)) = decide (ns.Pairwise (· ≤ ·)) := by
  rw [Bool.eq_iff_iff, List.all_eq_true, decide_eq_true_iff, ← adj_iff]
  simp
theorem adj_none (ns : List Int) : decide (((ns.zip (ns.drop 1)).filter fun p => decide (p.2 < p.1)) = []) = decide (ns.Pairwise (· ≤ ·)) := by
  rw [Bool.eq_iff_iff, decide_eq_true_iff, decide_eq_true_iff, ← adj_iff, List.filter_eq_nil_iff]
  simp
def rng (n : Nat) : List Int := (List.range n).map fun (i : Nat) => (i : Int)
theorem rng_mem {n : Nat} {i : Int} : i ∈ rng n ↔ 0 ≤ i ∧ i < n := by
  unfold rng
  constructor
  · intro h
    obtain ⟨j, hj, rfl⟩ := List.mem_map.mp h
    have := List.mem_range.mp hj
    omega
  · intro h
    exact List.mem_map.mpr ⟨i.toNat, List.mem_range.mpr (by omega), by omega⟩
/-- all cuts with their counts -/
def cut1 (ns : List Int) (t : Int) (cs : List Int) : List (Int × Int × Int × Int) := cs.map fun c => (c, t, (p_ ns c.toNat t : Int), (q_ ns c.toNat t : Int))
def cuts (ns : List Int) : List Int → List (Int × Int × Int × Int)
  | [] => []
  | t :: bs => cut1 ns t (rng (ns.length + 1)) ++ cuts ns bs
theorem cuts_len (ns : List Int) : ∀ bs : List Int, (cuts ns bs).length = bs.length * (ns.length + 1)
  | [] => by simp [cuts]
  | t :: bs => by
    have ih := cuts_len ns bs
    simp [cuts, cut1, rng, ih, Nat.add_mul]
    omega
theorem cuts_mem (ns : List Int) : ∀ (bs : List Int) (x : Int × Int × Int × Int), x ∈ cuts ns bs → x.2.1 ∈ bs ∧ 0 ≤ x.1 ∧ x.1 ≤ ns.length ∧ x.2.2.1 = p_ ns x.1.toNat x.2.1 ∧ x.2.2.2 = q_ ns x.1.toNat x.2.1
  | [], x, h => by cases h
  | t :: bs, x, h => by
    rcases List.mem_append.mp (show x ∈ cut1 ns t _ ++ cuts ns bs from h) with h | h
    · obtain ⟨c, hc, rfl⟩ := List.mem_map.mp h
      have := rng_mem.mp hc
      exact ⟨List.mem_cons_self, this.1, by simp; omega, rfl, rfl⟩
    · obtain ⟨h1, h2⟩ := cuts_mem ns bs x h
      exact ⟨List.mem_cons_of_mem _ h1, h2⟩
theorem mem_cuts (ns : List Int) : ∀ (bs : List Int) (t : Int) (c : Nat), t ∈ bs → c ≤ ns.length → ((c : Int), t, (p_ ns c t : Int), (q_ ns c t : Int)) ∈ cuts ns bs
  | [], _, _, h, _ => by cases h
  | u :: bs, t, c, h, hc => by
    rcases List.mem_cons.mp h with q | q
    · subst q
      refine List.mem_append_left _ (List.mem_map.mpr ⟨(c : Int), rng_mem.mpr ⟨by omega, by omega⟩, by simp⟩)
    · exact List.mem_append_right _ (mem_cuts ns bs t c q hc)
/-- the cuts that speak against a load -/
def against (a b : Int) (x : Int × Int × Int × Int) : Bool := decide (a < x.2.2.1) && decide (b < x.2.2.2)
theorem dec_cuts {a b : Int} {ns bs ms : List Int} (ha : 0 ≤ a) (hb : 0 ≤ b) (hm : ∀ z, z ∈ bs ↔ z ∈ ns) (h : Loaded a.toNat b.toNat ns ms) : ms.Pairwise (· ≤ ·) ↔ (cuts ns bs).filter (against a b) = [] := by
  rw [dec h, List.filter_eq_nil_iff]
  constructor
  · intro nb x hx
    obtain ⟨h1, h2, h3, h4, h5⟩ := cuts_mem ns bs x hx
    have := nb x.2.1 ((hm _).mp h1) x.1.toNat (by omega)
    rw [← Int.ofNat_lt, ← Int.ofNat_lt, ← h4, ← h5] at this
    simp [against]
    omega
  · intro nb t ht c hc ⟨h1, h2⟩
    have := nb _ (mem_cuts ns bs t c ((hm t).mpr ht) hc)
    simp [against] at this
    omega
end M16
end
/-! ## M27 -/
section
set_option linter.all false
/-! loads that are enough, rows that are hard -/
namespace M27
open M13 M07 M12 M16
theorem p_le_c (ns : List Int) (c : Nat) (t : Int) : p_ ns c t ≤ c := by
  unfold p_
  have := List.length_filter_le (fun x => decide (t ≤ x)) (ns.take c)
  have : (ns.take c).length ≤ c := by rw [List.length_take]; omega
  omega
theorem q_le_c (ns : List Int) (c : Nat) (t : Int) : q_ ns c t ≤ ns.length - c := by
  unfold q_
  have := List.length_filter_le (fun x => decide (x < t)) (ns.drop c)
  rw [List.length_drop] at this
  exact this
/-- a load that is enough brings every row in order -/
theorem enough {a b : Nat} {ns ms : List Int} (h : Loaded a b ns ms) (e : ns.length ≤ a + b + 1) : ms.Pairwise (· ≤ ·) := by
  rw [dec h]
  intro t _ c hc ⟨h1, h2⟩
  have := p_le_c ns c t
  have := q_le_c ns c t
  omega
/-- the row that is hard for (p, q) -/
def hard (p q r : Nat) : List Int := List.replicate (p + 1) 1 ++ List.replicate (q + 1) 0 ++ List.replicate r 1
theorem hard_bad {p q r a b : Nat} (h1 : a ≤ p) (h2 : b ≤ q) {ms : List Int} (h : Loaded a b (hard p q r) ms) : ¬ ms.Pairwise (· ≤ ·) := by
  rw [dec h]
  intro nb
  refine nb 1 (by simp [hard]) (p + 1) (by simp [hard]) ⟨?_, ?_⟩
  · have : (hard p q r).take (p + 1) = List.replicate (p + 1) 1 := by
      unfold hard
      rw [List.append_assoc, List.take_left' (by simp)]
    unfold p_
    rw [this, List.filter_eq_self.mpr (by intro x hx; rw [List.eq_of_mem_replicate hx]; decide)]
    simp
    omega
  · have : (hard p q r).drop (p + 1) = List.replicate (q + 1) 0 ++ List.replicate r 1 := by
      unfold hard
      rw [List.append_assoc, List.drop_left' (by simp)]
    unfold q_
    rw [this, List.filter_append, List.filter_eq_self.mpr (by intro x hx; rw [List.eq_of_mem_replicate hx]; decide)]
    simp
    omega
theorem hard_good {p q r a b : Nat} (h0 : p < a ∨ q < b) {ms : List Int} (h : Loaded a b (hard p q r) ms) : ms.Pairwise (· ≤ ·) := by
  rw [dec h]
  rintro t ht c hc ⟨h1, h2⟩
  have mem : t = 1 ∨ t = 0 := by
    simp [hard] at ht
    omega
  have low : ∀ x ∈ hard p q r, x = 1 ∨ x = 0 := by
    intro x hx
    simp [hard] at hx
    omega
  rcases mem with rfl | rfl
  · have ones : ∀ n : Nat, ((List.replicate n (1 : Int)).filter fun x => decide (x < 1)) = [] := fun n => by
      rw [List.filter_eq_nil_iff]; intro x hx; rw [List.eq_of_mem_replicate hx]; decide
    have zeros : ∀ n : Nat, ((List.replicate n (0 : Int)).filter fun x => decide (1 ≤ x)) = [] := fun n => by
      rw [List.filter_eq_nil_iff]; intro x hx; rw [List.eq_of_mem_replicate hx]; decide
    have b2 : q_ (hard p q r) c 1 ≤ q + 1 := by
      have e : ((hard p q r).filter fun x => decide (x < 1)).length = q + 1 := by
        unfold hard
        rw [List.filter_append, List.filter_append, ones, ones, List.filter_eq_self.mpr (by intro x hx; rw [List.eq_of_mem_replicate hx]; decide)]
        simp
      have s : ((hard p q r).drop c).Sublist (hard p q r) := List.drop_sublist _ _
      have := (s.filter fun x => decide (x < 1)).length_le
      unfold q_
      omega
    rcases h0 with h0 | h0
    · by_cases d : c ≤ p + 1 + (q + 1)
      · have : p_ (hard p q r) c 1 ≤ p + 1 := by
          have t1 : (hard p q r).take c = (List.replicate (p + 1) (1 : Int) ++ List.replicate (q + 1) 0).take c := by
            unfold hard
            rw [List.take_append_of_le_length (by simp; omega)]
          unfold p_
          rw [t1]
          have s : ((List.replicate (p + 1) (1 : Int) ++ List.replicate (q + 1) 0).take c).Sublist (List.replicate (p + 1) (1 : Int) ++ List.replicate (q + 1) 0) := List.take_sublist _ _
          have l := (s.filter fun x => decide (1 ≤ x)).length_le
          rw [List.filter_append, zeros] at l
          have l2 := List.length_filter_le (fun x : Int => decide (1 ≤ x)) (List.replicate (p + 1) (1 : Int))
          simp only [List.append_nil, List.length_replicate] at l l2
          omega
        omega
      · have d1 : (hard p q r).drop c = (List.replicate r (1 : Int)).drop (c - (p + 1 + (q + 1))) := by
          unfold hard
          rw [List.drop_append, List.drop_of_length_le (by simp; omega)]
          simp
        have : q_ (hard p q r) c 1 = 0 := by
          unfold q_
          rw [d1]
          have s : ((List.replicate r (1 : Int)).drop (c - (p + 1 + (q + 1)))).Sublist (List.replicate r (1 : Int)) := List.drop_sublist _ _
          have l := (s.filter fun x => decide (x < 1)).length_le
          rw [ones] at l
          simpa using l
        omega
    · omega
  · have : q_ (hard p q r) c 0 = 0 := by
      unfold q_
      rw [List.filter_eq_nil_iff.mpr, List.length_nil]
      intro x hx
      have := low x (List.mem_of_mem_drop hx)
      simp; omega
    omega
/-- all rows of 0 and 1 -/
def bits : Nat → List (List Int)
  | 0 => [[]]
  | n + 1 => (bits n).map (· ++ [0]) ++ (bits n).map (· ++ [1])
theorem bits_len : ∀ (n : Nat) (x : List Int), x ∈ bits n → x.length = n ∧ ∀ z ∈ x, z = 0 ∨ z = 1
  | 0, x, h => by
    have : x = [] := by simpa [bits] using h
    subst this
    exact ⟨rfl, fun z h => by cases h⟩
  | n + 1, x, h => by
    rcases List.mem_append.mp (show x ∈ (bits n).map (· ++ [0]) ++ (bits n).map (· ++ [1]) from h) with h | h
    · obtain ⟨y, hy, rfl⟩ := List.mem_map.mp h
      obtain ⟨h1, h2⟩ := bits_len n y hy
      exact ⟨by simp [h1], fun z hz => by
        rcases List.mem_append.mp hz with q | q
        · exact h2 z q
        · left; simpa using q⟩
    · obtain ⟨y, hy, rfl⟩ := List.mem_map.mp h
      obtain ⟨h1, h2⟩ := bits_len n y hy
      exact ⟨by simp [h1], fun z hz => by
        rcases List.mem_append.mp hz with q | q
        · exact h2 z q
        · right; simpa using q⟩
theorem bits_all : ∀ (n : Nat) (x : List Int), x.length = n → (∀ z ∈ x, z = 0 ∨ z = 1) → x ∈ bits n
  | 0, x, h, _ => by simp [bits, List.eq_nil_of_length_eq_zero h]
  | n + 1, x, h, h2 => by
    have ne : x ≠ [] := fun z => by rw [z] at h; simp at h
    have e := List.dropLast_concat_getLast ne
    have ih := bits_all n x.dropLast (by simp [h]) fun z hz => h2 z (List.dropLast_subset x hz)
    show x ∈ (bits n).map (· ++ [0]) ++ (bits n).map (· ++ [1])
    rcases h2 _ (List.getLast_mem ne) with q | q
    · exact List.mem_append_left _ (List.mem_map.mpr ⟨_, ih, by rw [← q]; exact e⟩)
    · exact List.mem_append_right _ (List.mem_map.mpr ⟨_, ih, by rw [← q]; exact e⟩)
theorem bits_count : ∀ n : Nat, (bits n).length = 2 ^ n
  | 0 => rfl
  | n + 1 => by simp [bits, bits_count n, Nat.pow_succ]; omega
theorem hard_bits {p q r : Nat} : hard p q r ∈ bits (p + 1 + (q + 1) + r) := bits_all _ _ (by simp [hard]; omega) fun z hz => by
  simp [hard] at hz
  omega
end M27
end
/-! ## M18 -/
section
set_option linter.all false
/-! greatest pairs: sorted descending, those whose second number is a new maximum -/
namespace M18
def ge_ (d x : Int × Int) : Prop := x.1 < d.1 ∨ (x.1 = d.1 ∧ x.2 ≤ d.2)
structure GInv (done f : List (Int × Int)) (h : Int) : Prop where
  mem : ∀ c ∈ f, c ∈ done ∧ 0 < c.1 ∧ 0 < c.2
  mono : f.Pairwise fun a b => b.1 < a.1 ∧ a.2 < b.2
  last : (f = [] ∧ h = 0) ∨ ∃ f' c, f = f' ++ [c] ∧ h = c.2
  cov : ∀ p ∈ done, 0 < p.1 → 0 < p.2 → ∃ c ∈ f, p.1 ≤ c.1 ∧ p.2 ≤ c.2
theorem GInv.nil : GInv [] [] 0 := ⟨fun _ h => absurd h (by simp), List.Pairwise.nil, .inl ⟨rfl, rfl⟩, fun _ h => absurd h (by simp)⟩
theorem GInv.top {done f : List (Int × Int)} {h : Int} (i : GInv done f h) : 0 ≤ h ∧ ∀ c ∈ f, c.2 ≤ h := by
  rcases i.last with ⟨rfl, rfl⟩ | ⟨f', c, rfl, rfl⟩
  · exact ⟨by omega, fun _ h => absurd h (by simp)⟩
  · have hc := i.mem c (by simp)
    refine ⟨by omega, fun d hd => ?_⟩
    rcases List.mem_append.mp hd with q | q
    · have := (List.pairwise_append.mp i.mono).2.2 d q c (by simp)
      omega
    · obtain rfl : d = c := by simpa using q
      omega
theorem GInv.take {done f : List (Int × Int)} {h : Int} {x : Int × Int} (i : GInv done f h) (hd : ∀ d ∈ done, ge_ d x) (h1 : 0 < x.1) (h2 : h < x.2) : GInv (done ++ [x]) (f ++ [x]) x.2 := by
  have tp := i.top
  refine ⟨fun c hc => ?_, ?_, .inr ⟨f, x, rfl, rfl⟩, fun p hp p1 p2 => ?_⟩
  · rcases List.mem_append.mp hc with q | q
    · have := i.mem c q
      exact ⟨List.mem_append_left _ this.1, this.2⟩
    · obtain rfl : c = x := by simpa using q
      exact ⟨by simp, h1, by omega⟩
  · refine List.pairwise_append.mpr ⟨i.mono, List.pairwise_singleton .., fun a ha b hb => ?_⟩
    obtain rfl : b = x := by simpa using hb
    have m := i.mem a ha
    have t := tp.2 a ha
    have g := hd a m.1
    unfold ge_ at g
    omega
  · rcases List.mem_append.mp hp with q | q
    · obtain ⟨c, c1, c2⟩ := i.cov p q p1 p2
      exact ⟨c, List.mem_append_left _ c1, c2⟩
    · obtain rfl : p = x := by simpa using q
      exact ⟨p, by simp, by omega, by omega⟩
theorem GInv.skip {done f : List (Int × Int)} {h : Int} {x : Int × Int} (i : GInv done f h) (hd : ∀ d ∈ done, ge_ d x) (hx : ¬ (0 < x.1 ∧ h < x.2)) : GInv (done ++ [x]) f h := by
  refine ⟨fun c hc => ⟨List.mem_append_left _ (i.mem c hc).1, (i.mem c hc).2⟩, i.mono, i.last, fun p hp p1 p2 => ?_⟩
  rcases List.mem_append.mp hp with q | q
  · exact i.cov p q p1 p2
  · obtain rfl : p = x := by simpa using q
    rcases i.last with ⟨rfl, rfl⟩ | ⟨f', c, rfl, rfl⟩
    · omega
    · have m := i.mem c (by simp)
      have g := hd c m.1
      unfold ge_ at g
      exact ⟨c, by simp, by omega, by omega⟩
/-- what is told of some pairs: ascending, none below another, each pair of two numbers above 0 below one of them -/
structure Front (ps r : List (Int × Int)) : Prop where
  mem : ∀ c ∈ r, c ∈ ps ∧ 0 < c.1 ∧ 0 < c.2
  mono : r.Pairwise fun a b => a.1 < b.1 ∧ b.2 < a.2
  cov : ∀ p ∈ ps, 0 < p.1 → 0 < p.2 → ∃ c ∈ r, p.1 ≤ c.1 ∧ p.2 ≤ c.2
theorem GInv.front {qs f ps : List (Int × Int)} {h : Int} (i : GInv qs f h) (p : qs.Perm ps) : Front ps f.reverse := by
  refine ⟨fun c hc => ?_, ?_, fun x hx h1 h2 => ?_⟩
  · have := i.mem c (List.mem_reverse.mp hc)
    exact ⟨p.subset this.1, this.2⟩
  · exact List.pairwise_reverse.mpr (i.mono.imp fun h => h)
  · obtain ⟨c, c1, c2⟩ := i.cov x (p.symm.subset hx) h1 h2
    exact ⟨c, List.mem_reverse.mpr c1, c2⟩
theorem Front.length {ps r : List (Int × Int)} {m : Nat} (h : Front ps r) (hm : ∀ p ∈ ps, p.1 ≤ m) : r.length ≤ m := by
  have key : ∀ (r : List (Int × Int)) (k : Nat), (r.Pairwise fun a b => a.1 < b.1 ∧ b.2 < a.2) → (∀ c ∈ r, (k : Int) < c.1 ∧ c.1 ≤ m) → r.length + k ≤ m ∨ r = [] := by
    intro r
    induction r with
    | nil => intro k _ _; exact .inr rfl
    | cons c r ih =>
      intro k hp hc
      have hc0 := hc c (by simp)
      rcases ih (k + 1) (List.pairwise_cons.mp hp).2 (fun d hd => by
        have a := (List.pairwise_cons.mp hp).1 d hd
        have b := hc d (List.mem_cons_of_mem _ hd)
        omega) with q | q
      · left; simp; omega
      · left; subst q; simp; omega
  rcases key r 0 h.mono (fun c hc => by
    have a := h.mem c hc
    have b := hm c a.1
    omega) with q | q
  · omega
  · subst q; simp
/-- one pair above all the others -/
theorem Front.one {ps r : List (Int × Int)} {a b : Int} (h : Front ps r) (ha : 0 < a) (hb : 0 < b) (hm : (a, b) ∈ ps) (hall : ∀ p ∈ ps, 0 < p.1 → 0 < p.2 → p.1 ≤ a ∧ p.2 ≤ b) : r = [(a, b)] := by
  obtain ⟨c, c1, c2, c3⟩ := h.cov (a, b) hm ha hb
  have all : ∀ d ∈ r, d = (a, b) := by
    intro d hd
    have md := h.mem d hd
    have ud := hall d md.1 md.2.1 md.2.2
    have mc := h.mem c c1
    have uc := hall c mc.1 mc.2.1 mc.2.2
    by_cases e : d = c
    · subst e
      refine Prod.ext ?_ ?_ <;> simp at c2 c3 ⊢ <;> omega
    · exfalso
      obtain ⟨s, t, rfl⟩ := List.append_of_mem c1
      simp at c2 c3
      rcases List.mem_append.mp hd with q | q
      · have := (List.pairwise_append.mp h.mono).2.2 d q c (by simp)
        omega
      · rcases List.mem_cons.mp q with q | q
        · exact e q
        · have := (List.pairwise_cons.mp (List.pairwise_append.mp h.mono).2.1).1 d q
          omega
  match r, c1, all, h.mono with
  | [d], _, all, _ => rw [all d (by simp)]
  | d :: e :: r, _, all, mono =>
    have := (List.pairwise_cons.mp mono).1 e (by simp)
    rw [all d (by simp), all e (by simp)] at this
    simp at this
  | [], c1, _, _ => exact absurd c1 (by simp)
end M18
end
/-! ## M19 -/
section
set_option linter.all false
/-! the corner of the hard row -/
namespace M18
open M07 M12 M13 M16 M27
theorem hard_all {p q r : Nat} {t : Int} {c : Nat} (ht : t ∈ hard p q r) (hc : c ≤ (hard p q r).length) (h1 : 0 < p_ (hard p q r) c t) (h2 : 0 < q_ (hard p q r) c t) : p_ (hard p q r) c t ≤ p + 1 ∧ q_ (hard p q r) c t ≤ q + 1 := by
  obtain ⟨ms, l1⟩ := Loaded.exists (p + 1) 0 (hard p q r)
  obtain ⟨ms2, l2⟩ := Loaded.exists 0 (q + 1) (hard p q r)
  have s1 := (dec l1).mp (hard_good (Or.inl (Nat.lt_succ_self p)) l1) t ht c hc
  have s2 := (dec l2).mp (hard_good (Or.inr (Nat.lt_succ_self q)) l2) t ht c hc
  omega
theorem hard_one {p q r : Nat} : (1 : Int) ∈ hard p q r ∧ p + 1 ≤ (hard p q r).length ∧ p + 1 ≤ p_ (hard p q r) (p + 1) 1 ∧ q + 1 ≤ q_ (hard p q r) (p + 1) 1 := by
  refine ⟨by simp [hard], by simp [hard], ?_, ?_⟩
  · have : (hard p q r).take (p + 1) = List.replicate (p + 1) 1 := by
      unfold hard
      rw [List.append_assoc, List.take_left' (by simp)]
    unfold p_
    rw [this, List.filter_eq_self.mpr (by intro x hx; rw [List.eq_of_mem_replicate hx]; decide)]
    simp
  · have : (hard p q r).drop (p + 1) = List.replicate (q + 1) 0 ++ List.replicate r 1 := by
      unfold hard
      rw [List.append_assoc, List.drop_left' (by simp)]
    unfold q_
    rw [this, List.filter_append, List.filter_eq_self.mpr (by intro x hx; rw [List.eq_of_mem_replicate hx]; decide)]
    simp
theorem hard_front {p q r : Nat} {bs : List Int} {rs : List (Int × Int)} (hm : ∀ z, z ∈ bs ↔ z ∈ hard p q r) (fr : Front ((cuts (hard p q r) bs).map fun x => (x.2.2.1, x.2.2.2)) rs) : rs = [((p : Int) + 1, (q : Int) + 1)] := by
  obtain ⟨o1, o2, o3, o4⟩ := @hard_one p q r
  have al := hard_all o1 o2 (by omega) (by omega)
  refine fr.one (by omega) (by omega) ?_ fun x hx h1 h2 => ?_
  · have m := mem_cuts (hard p q r) bs 1 (p + 1) ((hm 1).mpr o1) o2
    refine List.mem_map.mpr ⟨_, m, ?_⟩
    refine Prod.ext ?_ ?_ <;> simp only <;> omega
  · obtain ⟨y, hy, rfl⟩ := List.mem_map.mp hx
    obtain ⟨m0, m1, m2, m3, m4⟩ := cuts_mem (hard p q r) bs y hy
    simp only at h1 h2 ⊢
    have := hard_all (t := y.2.1) (c := y.1.toNat) ((hm _).mp m0) (by omega) (by omega) (by omega)
    omega
end M18
end
/-! ## Q -/
section
set_option Elab.async false
set_option linter.all false
set_option maxRecDepth 100000
set_option maxHeartbeats 1000000
namespace Z
open PySem PySem.Spec PyProof.Rows L2 DL
theorem mixed_ok {a b : Int} {S : Sto} {k : K1} {E : X1} (hb : 0 ≤ b ∧ b < 2 ^ 42) (h : ∀ r : Int, k (.int r) S) : w__law_mixed [.int a, .int b] S k E := by
  simp [w__law_mixed, t__law_mixed]
  exact ⟨.inl (.inr (by omega)), .inl (.inr (by omega)), h _⟩
theorem draw_ok {m gp : Addr} {S : Sto} {f : Nat} {top : Int} {k : K1} {E : X1} (hd : DrI S m gp f) (hf : 1 ≤ f) (ht : 0 < top ∧ top < 2 ^ 30) (hk : ∀ r S', 0 ≤ r → r < top → DrI S' m gp (f - 1) → Fr m gp S S' → k (.int r) S') : w__law_draw [.mu m, .int top] S k E := by
  have gcl : ∀ {r : Int} {S' : Sto}, 0 ≤ r → r < top → DrI S' m gp (f - 1) → Off m gp S S' → ∃ S2, Sub S2 S' ∧ k (.int r) S2 := fun h0 h1 h2 h3 => gc_dr h2 h3 fun S2 d2 f2 => hk _ S2 h0 h1 d2 f2
  obtain ⟨h0, cs, gs, n, h1, h2, h3, h4, h5⟩ := hd
  have h5' : n + (f : Int) ≤ 1099511627776 := by omega
  have e1 : ∀ c : Cell, (S.set m c) m = some c := fun c => Sto.set_same
  have e1' : (S.set m (.dct (mDct (.lst (cs.map .int)) (.mu gp) (.int (n + 1))))) m = some (.dct (mDct (.lst (cs.map .int)) (.mu gp) (.int (n + 1)))) := Sto.set_same
  have e2 : ∀ c : Cell, (S.set m c) gp = S gp := fun c => Sto.set_ne (Ne.symm h0)
  have dr : ∀ S', S' m = some (.dct (mDct (.lst (cs.map .int)) (.mu gp) (.int (n + 1)))) → (∃ gs' : List Int, S' gp = some (.lst (gs'.map .int))) → DrI S' m gp (f - 1) := fun S' a ⟨gs', b⟩ => ⟨h0, cs, gs', n + 1, a, b, h3, by omega, by omega⟩
  simp [w__law_draw, t__law_draw, h1, e1, e2]
  refine ne_ints (ms := []) (isInts_mu (by rw [e2]; exact h2)) isInts_nil ?_
  have off1 : ∀ c : Cell, Off m gp S (S.set m c) := fun c b u hb _ h => by rw [Sto.set_ne hb]; exact h
  by_cases hg : gs = []
  · subst hg
    simp [e1]
    obtain ⟨z, _, hz⟩ := atI_int (ns := cs) (i := n % 64) (by omega) (by omega)
    refine ⟨_, hz, z, rfl, mixed_ok (by omega) fun r => mixed_ok (by omega) fun r2 => ?_⟩
    rw [s_int]
    exact ⟨r2, rfl, ht.1, gcl (Int.emod_nonneg _ (by omega)) (Int.emod_lt_of_pos _ ht.1) (dr _ e1' ⟨[], by rw [e2]; exact h2⟩) (off1 _)⟩
  · simp [hg, e1, e2, h2]
    have lpos : 0 < gs.length := List.length_pos_iff.mpr hg
    have q0 : 0 ≤ n % (gs.length : Int) := Int.emod_nonneg _ (by omega)
    have q1 : n % (gs.length : Int) < gs.length := Int.emod_lt_of_pos _ (by omega)
    obtain ⟨z, _, hz⟩ := atI_int q0 q1
    refine ⟨lpos, _, hz, z, rfl, ?_⟩
    by_cases hp : 0 < z
    · simp only [hp, if_true]
      refine ⟨z, rfl, .inl ⟨ht.1, ht.2⟩, _, ixN_nat q0 q1, ?_⟩
      rw [s_int]
      refine ⟨z, rfl, ht.1, ?_⟩
      refine gcl (Int.emod_nonneg _ (by omega)) (Int.emod_lt_of_pos _ ht.1) (dr _ (by rw [Sto.set_ne h0]; exact e1') ⟨gs.set (n % (gs.length : Int)).toNat (z / top), by rw [Sto.set_same, List.map_set]⟩) ?_
      exact fun b u hb hb' h => by rw [Sto.set_ne hb', Sto.set_ne hb]; exact h
    · simp only [hp, if_false]
      obtain ⟨z, _, hz⟩ := atI_int (ns := cs) (i := n % 64) (by omega) (by omega)
      refine ⟨_, hz, z, rfl, mixed_ok (by omega) fun r => mixed_ok (by omega) fun r2 => ?_⟩
      rw [s_int]
      exact ⟨r2, rfl, ht.1, gcl (Int.emod_nonneg _ (by omega)) (Int.emod_lt_of_pos _ ht.1) (dr _ e1' ⟨gs, by rw [e2]; exact h2⟩) (off1 _)⟩
theorem folded_ok {ns : List Int} {S : Sto} {k : K1} {E : X1} (hl : ns.length ≤ 63) (h : ∀ cs : List Int, cs.length = 64 → k (.lst (cs.map .int)) S) : w__law_folded [.scr (ns.map .int)] S k E := by
  simp [w__law_folded, t__law_folded]
  refine ⟨sz_of (by simp [irng_length]), lc_f (fun i => .int (17 + i)) (fun i _ K1 K2 h => by simpa using h) fun p hp => ?_⟩
  rw [List.nil_append]
  obtain ⟨c0, ec, lc⟩ : ∃ cs : List Int, (irng 0 64).map (fun i => D.int (17 + i)) = cs.map .int ∧ cs.length = 64 := ⟨(irng 0 64).map fun i => 17 + i, by rw [List.map_map]; rfl, by simp [irng_length]⟩
  rw [ec]
  refine for_st (σ := List Int) (env := fun _ => [some (D.scr (ns.map D.int)), some (D.mu p), none, none, none]) (sto := fun cs => S.set p (.lst (cs.map .int))) (fun xs cs => cs.length = 64 ∧ ∀ x ∈ xs, 0 ≤ x.1) ?_ ?_ (enI 0 ns) c0 ⟨lc, ?_⟩
  · rintro ⟨j, x⟩ xs cs ⟨lcs, hj⟩ K hK
    have j0 : 0 ≤ j := hj _ List.mem_cons_self
    obtain ⟨z, _, hz⟩ := atI_int (ns := cs) (i := j % 64) (by omega) (by omega)
    simp [Sto.set_same, hz, ixN_nat (n := cs.length) (i := j % 64) (by omega) (by omega)]
    have := hK (cs.set (j % 64).toNat ((z * 48271 + x) % 2147483647)) ⟨by simp [lcs], fun y hy => hj y (List.mem_cons_of_mem _ hy)⟩
    rw [List.map_set] at this
    rw [Sto.set_set]
    exact this
  · rintro cs ⟨lcs, _⟩
    simp
    refine for_st (σ := List Int) (env := fun _ => [some (D.scr (ns.map D.int)), some (D.mu p), none, none, none]) (sto := fun cs => S.set p (.lst (cs.map .int))) (fun xs cs => cs.length = 64 ∧ ∀ x ∈ xs, 1 ≤ x ∧ x < 64) ?_ ?_ (irng 1 _) cs ⟨lcs, fun x hx => by have := irng_mem.mp hx; omega⟩
    · rintro x xs cs ⟨lcs, hj⟩ K hK
      have hx1 := hj x List.mem_cons_self
      obtain ⟨z, _, hz⟩ := atI_int (ns := cs) (i := x) (by omega) (by omega)
      obtain ⟨z2, _, hz2⟩ := atI_int (ns := cs) (i := x - 1) (by omega) (by omega)
      simp [Sto.set_same, hz, hz2, ixN_nat (n := cs.length) (i := x) (by omega) (by omega)]
      have := hK (cs.set x.toNat ((z + z2 * 16807) % 2147483647)) ⟨by simp [lcs], fun y hy => hj y (List.mem_cons_of_mem _ hy)⟩
      rw [List.map_set] at this
      rw [Sto.set_set]
      exact this
    · rintro cs ⟨lcs, _⟩
      simp [Sto.set_same, set_del hp]
      exact gc .refl (h cs lcs)
  · intro x hx
    have : ∀ (xs : List Int) (j : Int), 0 ≤ j → ∀ x ∈ enI j xs, 0 ≤ x.1 := by
      intro xs
      induction xs with
      | nil => intro j _ x hx; cases hx
      | cons y ys ih =>
        intro j hj x hx
        rcases List.mem_cons.mp hx with rfl | hx
        · exact hj
        · exact ih (j + 1) (by omega) x hx
    exact this ns 0 (by omega) x hx
theorem begun_ok {ns : List Int} {S : Sto} {k : K1} {E : X1} (hl : ns.length ≤ 63) (h : ∀ m gp S', DrI S' m gp (2 ^ 39) → k (.mu m) S') : w__law_begun [.scr (ns.map .int)] S k E := by
  simp [w__law_begun, t__law_begun]
  refine folded_ok hl fun cs lcs gp hgp m hm => ⟨sz_of (by omega), ?_⟩
  have ne : m ≠ gp := fun q => by rw [q, Sto.set_same] at hm; cases hm
  refine lc_f (fun i => .int (if i ≥ 10 ^ 18 then i else 0)) (fun i _ K1 K2 h => ?_) ?_
  · by_cases hi : (1000000000000000000 : Int) ≤ i
    · simp [hi] at h ⊢; exact h
    · simp [hi] at h ⊢; exact h
  · intro g2 hg2
    have n1 : g2 ≠ m := fun q => by rw [q, Sto.set_same] at hg2; cases hg2
    have e1 : (((S.set gp (.lst [])).set m (.dct (mDct (.lst (cs.map .int)) (.mu gp) (.int 0)))).set g2 (.lst (ns.map fun i => .int (if i ≥ 10 ^ 18 then i else 0)))) m = some (.dct (mDct (.lst (cs.map .int)) (.mu gp) (.int 0))) := by
      rw [Sto.set_ne (Ne.symm n1), Sto.set_same]
    refine ⟨_, e1, by rw [mD_len]; omega, ?_⟩
    rw [mP_great]
    refine gc .refl (h m g2 _ ⟨Ne.symm n1, cs, ns.map fun i => if i ≥ 10 ^ 18 then i else 0, 0, Sto.set_same, ?_, lcs, by omega, by decide⟩)
    rw [Sto.set_ne n1, Sto.set_same, List.map_map]
    rfl

abbrev rowD (ns : List Int) : D := .obj 31 [(0, .tup (ns.map .int))]
abbrev loadD (a b : Int) : D := .obj 32 [(1, .int a), (2, .int b)]
abbrev fwdD (n : Int) : D := .obj 29 [(3, .int n)]
abbrev bwdD (n : Int) : D := .obj 30 [(3, .int n)]
abbrev swD (b : Bool) (n : Int) : D := if b = true then bwdD n else fwdD n
theorem isfrom_ok {v lo hi : Int} {S : Sto} {k : K1} {E : X1} (h : k (.bl (decide (lo ≤ v ∧ v ≤ hi))) S) : w_is_from [.int v, .int lo, .int hi] S k E := by
  simp [w_is_from, t_is_from, tab_is_is_from_int, tab_is_is_from_bool]
  by_cases c : lo ≤ v
  · simp [c] at h ⊢; exact h
  · simp [c] at h ⊢; exact h
def Fine (ns : List Int) : Prop := 1 ≤ ns.length ∧ ns.length ≤ 20 ∧ ∀ z ∈ ns, -999 ≤ z ∧ z ≤ 999
theorem Fine.perm {ns ms : List Int} (h : Fine ns) (p : ms.Perm ns) : Fine ms := ⟨by rw [p.length_eq]; exact h.1, by rw [p.length_eq]; exact h.2.1, fun z hz => h.2.2 z (p.subset hz)⟩
theorem loadmake_ok {a b : Int} {S : Sto} {k : K1} {E : X1} (ha : 0 ≤ a ∧ a ≤ 1200) (hb : 0 ≤ b ∧ b ≤ 1200) (h : k (loadD a b) S) : dMk 32 true w_Load___init__ [.int a, .int b] S k E := by
  intro p hp
  refine ⟨rfl, ?_⟩
  simp [t_Load___init__]
  simp [dForL]
  refine isfrom_ok ?_
  simp [ha.1, ha.2]
  refine isfrom_ok ?_
  simp [hb.1, hb.2, Sto.set_same, Sto.set_set, set_del hp, putN]
  exact h
theorem len_T (l : List Bool) : (l.filter fun x => x).length = M13.cT l := by
  induction l with
  | nil => rfl
  | cons x l ih => cases x <;> simp [M13.cT, ih]
theorem len_F (l : List Bool) : (l.filter fun x => !x).length = M13.cF l := by
  induction l with
  | nil => rfl
  | cons x l ih => cases x <;> simp [M13.cF, ih]
theorem at0 {x : D} {xs : List D} : atI (x :: xs) 0 = some x := by rw [atI_nat (by omega) (by simp)]; rfl
abbrev pw (p : Int × Bool) : D := .tup [.int p.1, .bl p.2]
def SwOk (sw : List (Int × Bool)) : Prop := ∀ p ∈ sw, 1 ≤ p.1 ∧ p.1 ≤ 20
abbrev swP (p : Int × Bool) : D := if p.2 = true then bwdD p.1 else fwdD p.1
theorem sumF_eq : ∀ {sw : List (Int × Bool)}, SwOk sw → ((sw.filter fun x => !x.2).map (·.1)).sum = (M12.sumF sw : Int)
  | [], _ => rfl
  | (a, b) :: sw, h => by
    have ih := sumF_eq (sw := sw) fun p hp => h p (List.mem_cons_of_mem _ hp)
    have := h _ List.mem_cons_self
    cases b with
    | false => simp [M12.sumF] at ih ⊢; rw [ih]; omega
    | true => simpa [M12.sumF] using ih
theorem sumB_eq : ∀ {sw : List (Int × Bool)}, SwOk sw → ((sw.filter fun x => x.2).map (·.1)).sum = (M12.sumB sw : Int)
  | [], _ => rfl
  | (a, b) :: sw, h => by
    have ih := sumB_eq (sw := sw) fun p hp => h p (List.mem_cons_of_mem _ hp)
    have := h _ List.mem_cons_self
    cases b with
    | true => simp [M12.sumB] at ih ⊢; rw [ih]; omega
    | false => simpa [M12.sumB] using ih
theorem sum_le : ∀ {sw : List (Int × Bool)}, SwOk sw → M12.sumF sw ≤ 20 * sw.length ∧ M12.sumB sw ≤ 20 * sw.length
  | [], _ => ⟨Nat.le_refl _, Nat.le_refl _⟩
  | (a, b) :: sw, h => by
    have ih := sum_le (sw := sw) fun p hp => h p (List.mem_cons_of_mem _ hp)
    have := h _ List.mem_cons_self
    cases b <;> simp [M12.sumF, M12.sumB] at ih this ⊢ <;> omega
abbrev cutD_ (c t : Int) : D := .obj 33 [(6, .int c), (7, .int t)]
abbrev c4 (x : Int × Int × Int × Int) : D := .tup [.int x.1, .int x.2.1, .int x.2.2.1, .int x.2.2.2]
theorem irng_rng {n : Nat} : irng 0 n = M16.rng n := by unfold irng M16.rng; refine List.map_congr_left fun i _ => ?_; omega
theorem set_set {S : Sto} {p : Addr} {c d : Cell} : (S.set p c).set p d = S.set p d := by
  funext b
  by_cases e : b = p
  · subst e; rw [Sto.set_same, Sto.set_same]
  · rw [Sto.set_ne e, Sto.set_ne e, Sto.set_ne e]
def loadsOf (r : List (Int × Int)) : List (Int × Int) := (0 :: r.map (·.1)).zip (r.map (·.2) ++ [0])
abbrev loadP (p : Int × Int) : D := loadD p.1 p.2
abbrev stairD (ls : List (Int × Int)) : D := .obj 34 [(8, .tup (ls.map loadP))]
structure Crn (r : List (Int × Int)) : Prop where
  pos : ∀ c ∈ r, 0 < c.1 ∧ 0 < c.2
  mono : r.Pairwise fun a b => a.1 < b.1 ∧ b.2 < a.2
theorem loadsOf_len (r : List (Int × Int)) : (loadsOf r).length = r.length + 1 := by simp [loadsOf]
theorem loadsOf_head (r : List (Int × Int)) : ∀ x, (loadsOf r).head? = some x → x.1 ≤ 0 := by
  intro x hx
  cases r with
  | nil => simp [loadsOf] at hx; rw [← hx]; simp
  | cons c r => simp [loadsOf] at hx; rw [← hx]; simp
theorem loadsOf_last (r : List (Int × Int)) : ∀ x, (loadsOf r).getLast? = some x → x.2 ≤ 0 := by
  intro x hx
  rw [List.getLast?_eq_getElem?, loadsOf_len] at hx
  obtain ⟨hlt, e⟩ := List.getElem?_eq_some_iff.mp hx
  have e2 := congrArg Prod.snd e
  simp only [loadsOf, List.getElem_zip] at e2
  simp at e2
  omega
theorem loadsOf_mono {r : List (Int × Int)} (h : Crn r) : (loadsOf r).Pairwise fun a b => a.1 < b.1 ∧ b.2 < a.2 := by
  have h1 : (0 :: r.map (·.1)).Pairwise (· < ·) := by
    refine List.pairwise_cons.mpr ⟨fun x hx => ?_, List.pairwise_map.mpr (h.mono.imp fun z => z.1)⟩
    obtain ⟨c, hc, rfl⟩ := List.mem_map.mp hx
    exact (h.pos c hc).1
  have h2 : ((r.map fun c : Int × Int => c.2) ++ [0]).Pairwise fun a b => b < a := by
    refine List.pairwise_append.mpr ⟨List.pairwise_map.mpr (h.mono.imp fun z => z.2), List.pairwise_singleton .., fun x hx y hy => ?_⟩
    obtain ⟨c, hc, rfl⟩ := List.mem_map.mp hx
    obtain rfl : y = 0 := by simpa using hy
    exact (h.pos c hc).2
  refine List.pairwise_iff_getElem.mpr fun i j hi hj ij => ?_
  have a := List.pairwise_iff_getElem.mp h1 i j (by simp [loadsOf] at hi; simp; omega) (by simp [loadsOf] at hj; simp; omega) ij
  have b := List.pairwise_iff_getElem.mp h2 i j (by simp [loadsOf] at hi; simp; omega) (by simp [loadsOf] at hj; simp; omega) ij
  simp only [loadsOf, List.getElem_zip]
  exact ⟨a, b⟩
/-- the least loads from a forward number on -/
def lo (f : Int) : List (Int × Int) → List (Int × Int)
  | [] => [(f, 0)]
  | c :: r => (f, c.2) :: lo c.1 r
theorem lo_zip (f : Int) : ∀ r : List (Int × Int), (f :: r.map (·.1)).zip (r.map (·.2) ++ [0]) = lo f r
  | [] => rfl
  | c :: r => by
    have ih := lo_zip c.1 r
    simp only [lo, ← ih]
    rfl
theorem loadsOf_lo (r : List (Int × Int)) : loadsOf r = lo 0 r := lo_zip 0 r
abbrev inL (a b : Int) (x : Int × Int) : Bool := decide (x.1 ≤ a ∧ x.2 ≤ b)
theorem lo_any {a b : Int} (hb : 0 ≤ b) : ∀ {r : List (Int × Int)} {f : Int}, r.Pairwise (fun a b => a.1 < b.1 ∧ b.2 < a.2) → (∀ c ∈ r, f < c.1 ∧ 0 < c.2) → ((lo f r).any (inL a b) = true ↔ f ≤ a ∧ ∀ c ∈ r, ¬ (a < c.1 ∧ b < c.2))
  | [], f, _, _ => by simp [lo, hb]
  | c :: r, f, hp, hc => by
    obtain ⟨p1, p2⟩ := List.pairwise_cons.mp hp
    have c0 := hc c List.mem_cons_self
    have ih := lo_any (a := a) hb (r := r) (f := c.1) p2 fun d hd => ⟨(p1 d hd).1, (hc d (List.mem_cons_of_mem _ hd)).2⟩
    rw [lo, List.any_cons, Bool.or_eq_true, ih]
    simp only [inL, decide_eq_true_eq]
    constructor
    · rintro (⟨h1, h2⟩ | ⟨h1, h2⟩)
      · refine ⟨h1, fun d hd => ?_⟩
        rcases List.mem_cons.mp hd with rfl | hd
        · omega
        · have := p1 d hd; omega
      · refine ⟨by omega, fun d hd => ?_⟩
        rcases List.mem_cons.mp hd with rfl | hd
        · omega
        · exact h2 d hd
    · rintro ⟨h1, h2⟩
      by_cases q : c.1 ≤ a
      · exact .inr ⟨q, fun d hd => h2 d (List.mem_cons_of_mem _ hd)⟩
      · have := h2 c List.mem_cons_self
        exact .inl ⟨h1, by omega⟩
theorem loads_any {r : List (Int × Int)} {a b : Int} (h : Crn r) (ha : 0 ≤ a) (hb : 0 ≤ b) : (loadsOf r).any (inL a b) = true ↔ ∀ c ∈ r, ¬ (a < c.1 ∧ b < c.2) := by
  rw [loadsOf_lo, lo_any hb h.mono fun c hc => h.pos c hc]
  exact ⟨fun z => z.2, fun z => ⟨ha, z⟩⟩
theorem lo_last {a : Int} : ∀ {r : List (Int × Int)} {f : Int}, r.Pairwise (fun a b => a.1 < b.1 ∧ b.2 < a.2) → (∀ c ∈ r, f < c.1 ∧ 0 < c.2) → f ≤ a → ∃ x, ((lo f r).filter fun x => decide (x.1 ≤ a)).getLast? = some x ∧ 0 ≤ x.2 ∧ ∀ b, 0 ≤ b → ((lo f r).any (inL a b) = true ↔ x.2 ≤ b)
  | [], f, _, _, h => ⟨(f, 0), by simp [lo, h], by simp, fun b hb => by simp [lo, hb, h]⟩
  | c :: r, f, hp, hc, h => by
    obtain ⟨p1, p2⟩ := List.pairwise_cons.mp hp
    have c0 := hc c List.mem_cons_self
    have hc2 : ∀ d ∈ r, c.1 < d.1 ∧ 0 < d.2 := fun d hd => ⟨(p1 d hd).1, (hc d (List.mem_cons_of_mem _ hd)).2⟩
    by_cases q : c.1 ≤ a
    · obtain ⟨x, e1, x0, e2⟩ := lo_last (r := r) p2 hc2 q
      refine ⟨x, ?_, x0, fun b hb => ?_⟩
      · rw [lo, List.filter_cons]
        simp only [h, decide_true, if_true]
        rw [List.getLast?_cons, e1]
        rfl
      · rw [← e2 b hb, lo_any hb hp hc, lo_any hb p2 hc2]
        constructor
        · exact fun z => ⟨q, fun d hd => z.2 d (List.mem_cons_of_mem _ hd)⟩
        · rintro ⟨_, z⟩
          refine ⟨h, fun d hd => ?_⟩
          rcases List.mem_cons.mp hd with rfl | hd
          · omega
          · exact z d hd
    · refine ⟨(f, c.2), ?_, by simp only; omega, fun b hb => ?_⟩
      · rw [lo, List.filter_cons]
        simp only [h, decide_true, if_true]
        have e : (lo c.1 r).filter (fun x => decide (x.1 ≤ a)) = [] := by
          have all : ∀ (r : List (Int × Int)) (f : Int), (∀ d ∈ r, f < d.1) → r.Pairwise (fun a b => a.1 < b.1 ∧ b.2 < a.2) → ¬ f ≤ a → ∀ x ∈ lo f r, ¬ x.1 ≤ a := by
            intro r
            induction r with
            | nil => intro f _ _ hf x hx; obtain rfl : x = (f, 0) := by simpa [lo] using hx
                     exact hf
            | cons d r ih =>
              intro f h1 h2 hf x hx
              rcases List.mem_cons.mp hx with rfl | hx
              · exact hf
              · have := h1 d List.mem_cons_self
                exact ih d.1 (fun z hz => ((List.pairwise_cons.mp h2).1 z hz).1) (List.pairwise_cons.mp h2).2 (by omega) x hx
          rw [List.filter_eq_nil_iff]
          intro x hx
          have := all r c.1 (fun d hd => (hc2 d hd).1) p2 q x hx
          simpa using this
        rw [e]
        rfl
      · rw [lo_any hb hp hc]
        constructor
        · rintro ⟨_, z⟩
          have := z c List.mem_cons_self
          omega
        · intro z
          refine ⟨h, fun d hd => ?_⟩
          rcases List.mem_cons.mp hd with rfl | hd
          · omega
          · have := (p1 d hd).2; omega
end Z
end
/-! ## P -/
section
set_option Elab.async false
set_option linter.all false
set_option maxRecDepth 100000
set_option maxHeartbeats 1000000
namespace Z
open PySem PySem.Spec PyProof.Rows L2 DL
/-! what is told: a load, or that it is too great -/
abbrev An := Option (Int × Int)
def anD : An → D
  | some (a, b) => .tup [.int a, .int b]
  | none => .tup [.str "great", .int 1200]
def anP : An → PyData
  | some (a, b) => .tuple [.int a, .int b]
  | none => .tuple [.str "great", .int 1200]
def due (a b : Int) : An := if a ≤ 1200 ∧ b ≤ 1200 then some (a, b) else none
theorem an_py {S : Sto} : ∀ r : An, pyOf S (anD r) = some (anP r)
  | some (a, b) => by show pyOf S (.tup [.int a, .int b]) = _; simp [pyOf, pysOf, anP]
  | none => by show pyOf S (.tup [.str "great", .int 1200]) = _; simp [pyOf, pysOf, anP]
def AnOk : An → Prop
  | some (a, b) => a.natAbs < 10 ^ 12 ∧ b.natAbs < 10 ^ 12
  | none => True
theorem rp_great : RP 16 0 (.str "great") := ⟨by decide +kernel, rfl, by decide +kernel, by decide +kernel, by decide +kernel⟩
theorem an_rp : ∀ {r : An}, AnOk r → RP 40 1 (anP r)
  | some (a, b), h => (RP.tup (n := 0) (d := 0) (xs := [.int a, .int b]) fun x hx => by
      rcases List.mem_cons.mp hx with rfl | hx
      · exact RP.int h.1
      · obtain rfl : x = .int b := by simpa using hx
        exact RP.int h.2).mono (by simp) (Nat.le_refl _)
  | none, _ => (RP.tup (n := 16) (d := 0) (xs := [.str "great", .int 1200]) fun x hx => by
      rcases List.mem_cons.mp hx with rfl | hx
      · exact rp_great
      · obtain rfl : x = .int 1200 := by simpa using hx
        exact (RP.int (by decide)).mono (by decide) (by decide)).mono (by simp) (Nat.le_refl _)
theorem repr_an {S : Sto} {as : List An} {k : K1} (hl : as.length ≤ 1000) (h : ∀ x ∈ as, AnOk x) (hk : k (.str (PyData.shown (.list (as.map anP)))) S) : bRepr [.lst (as.map anD)] S k :=
  repr_lstM (n := 40) (d := 1) (fun r _ => an_py r) (fun r hr => an_rp (h r hr)) (by omega) (by omega) hk
theorem due_ok {a b : Int} {S : Sto} {k : K1} {E : X1} (h : k (anD (due a b)) S) : w__law_due [.int a, .int b] S k E := by
  simp [w__law_due, t__law_due]
  unfold due at h
  by_cases q : a ≤ 1200 ∧ b ≤ 1200
  · rw [if_pos q] at h
    rw [if_pos (by split <;> omega)]
    exact h
  · rw [if_neg q] at h
    rw [if_neg (by split <;> omega)]
    exact h
/-! loads made -/
theorem chk_ok {a b : Int} {S : Sto} {k : K1} {E : X1} (ha : 0 ≤ a) (hb : 0 ≤ b) (hk : due a b = some (a, b) → k (loadD a b) S) (hx : due a b = none → E 11 [(24, .int 1200)] S) : w_checked_load [.int a, .int b] S k E := by
  simp [w_checked_load, t_checked_load]
  unfold due at hk hx
  by_cases q : a ≤ 1200 ∧ b ≤ 1200
  · rw [if_pos q] at hk
    rw [if_neg (by omega), if_neg (by omega)]
    exact loadmake_ok ⟨ha, q.1⟩ ⟨hb, q.2⟩ (hk rfl)
  · rw [if_neg q] at hx
    by_cases q1 : 1200 < a
    · rw [if_pos q1]; exact hx rfl
    · rw [if_neg q1, if_pos (by omega)]; exact hx rfl
theorem fwd_ok {a b : Int} {S : Sto} {k : K1} {E : X1} (h : k (.int a) S) : w_Load_forward [loadD a b] S k E := by
  simpa [w_Load_forward, t_Load_forward] using h
theorem bwd_ok {a b : Int} {S : Sto} {k : K1} {E : X1} (h : k (.int b) S) : w_Load_backward [loadD a b] S k E := by
  simpa [w_Load_backward, t_Load_backward] using h
/-- what a lambda's body does: it makes a load or raises -/
def Gives (wr : DFn) (S : Sto) (r : An) : Prop := ∀ K X, (∀ a b, r = some (a, b) → K (loadD a b) S) → (r = none → X 11 [(24, .int 1200)] S) → wr [] S K X
theorem told_ok {fv : Addr} {wr : DFn} {r : An} {S : Sto} {k : K1} {E : X1} (h : Gives wr S r) (hk : k (anD r) S) : dHand 4 t__law_told fv wr [.mu fv] S k E := by
  unfold dHand dGc
  simp [t__law_told]
  refine h _ _ (fun a b e => ?_) (fun e => ?_)
  · subst e
    refine ⟨rfl, .own 32, rfl, .inr ⟨rfl, 32, ⟨_, rfl⟩, _, rfl, fwd_ok ⟨32, ⟨_, rfl⟩, _, rfl, bwd_ok ⟨S, Sub.refl, hk⟩⟩⟩⟩
  · subst e
    simp [dHs, tab_ex_SweepError]
    intro a ha
    refine .inl ⟨rfl, 11, ⟨_, Sto.set_same⟩, .inr ⟨rfl, 11, _, Sto.set_same, rfl, _, rfl, S, Sub.refl.put ha, hk⟩⟩
/-! the lambdas' bodies -/
theorem add_ok {a b c d : Int} {S : Sto} {k : K1} {E : X1} (ha : 0 ≤ a + c) (hb : 0 ≤ b + d) (hk : due (a + c) (b + d) = some (a + c, b + d) → k (loadD (a + c) (b + d)) S) (hx : due (a + c) (b + d) = none → E 11 [(24, .int 1200)] S) : w_Load___add__ [loadD a b, loadD c d] S k E := by
  simp [w_Load___add__, t_Load___add__]
  exact ⟨rfl, chk_ok ha hb hk hx⟩
theorem and_ok {a b c d : Int} {S : Sto} {k : K1} {E : X1} (h1 : 0 ≤ a ∧ a ≤ 1200) (h2 : 0 ≤ b ∧ b ≤ 1200) (h3 : 0 ≤ c ∧ c ≤ 1200) (h4 : 0 ≤ d ∧ d ≤ 1200) (h : k (loadD (min a c) (min b d)) S) : w_Load___and__ [loadD a b, loadD c d] S k E := by
  simp [w_Load___and__, t_Load___and__]
  have e1 : (if c < a then c else a) = min a c := by split <;> omega
  have e2 : (if d < b then d else b) = min b d := by split <;> omega
  rw [e1, e2]
  exact ⟨rfl, loadmake_ok ⟨by omega, by omega⟩ ⟨by omega, by omega⟩ h⟩
theorem or_ok {a b c d : Int} {S : Sto} {k : K1} {E : X1} (h1 : 0 ≤ a ∧ a ≤ 1200) (h2 : 0 ≤ b ∧ b ≤ 1200) (h3 : 0 ≤ c ∧ c ≤ 1200) (h4 : 0 ≤ d ∧ d ≤ 1200) (h : k (loadD (max a c) (max b d)) S) : w_Load___or__ [loadD a b, loadD c d] S k E := by
  simp [w_Load___or__, t_Load___or__]
  have e1 : (if a < c then c else a) = max a c := by split <;> omega
  have e2 : (if b < d then d else b) = max b d := by split <;> omega
  rw [e1, e2]
  exact ⟨rfl, loadmake_ok ⟨by omega, by omega⟩ ⟨by omega, by omega⟩ h⟩
theorem mul_ok {a b t : Int} {S : Sto} {k : K1} {E : X1} (ha : 0 ≤ a ∧ a ≤ 1200) (hb : 0 ≤ b ∧ b ≤ 1200) (ht : 0 ≤ t ∧ t ≤ 10 ^ 20) (hk : due (a * t) (b * t) = some (a * t, b * t) → k (loadD (a * t) (b * t)) S) (hx : due (a * t) (b * t) = none → E 11 [(24, .int 1200)] S) : w_Load___mul__ [loadD a b, .int t] S k E := by
  simp [w_Load___mul__, t_Load___mul__]
  exact ⟨rfl, rfl, ht.1, .inl (.inl ⟨by omega, by omega⟩), .inl (.inl ⟨by omega, by omega⟩), chk_ok (Int.mul_nonneg ha.1 ht.1) (Int.mul_nonneg hb.1 ht.1) hk hx⟩
theorem rmul_ok {a b t : Int} {S : Sto} {k : K1} {E : X1} (ha : 0 ≤ a ∧ a ≤ 1200) (hb : 0 ≤ b ∧ b ≤ 1200) (ht : 0 ≤ t ∧ t ≤ 10 ^ 20) (hk : due (a * t) (b * t) = some (a * t, b * t) → k (loadD (a * t) (b * t)) S) (hx : due (a * t) (b * t) = none → E 11 [(24, .int 1200)] S) : w_Load___rmul__ [loadD a b, .int t] S k E := by
  simp [w_Load___rmul__, t_Load___rmul__]
  exact ⟨rfl, rfl, ht.1, .inl (.inl ⟨by omega, by omega⟩), .inl (.inl ⟨by omega, by omega⟩), chk_ok (Int.mul_nonneg ha.1 ht.1) (Int.mul_nonneg hb.1 ht.1) hk hx⟩
theorem neg_ok {a b : Int} {S : Sto} {k : K1} {E : X1} (ha : 0 ≤ a ∧ a ≤ 1200) (hb : 0 ≤ b ∧ b ≤ 1200) (h : k (loadD b a) S) : w_Load___neg__ [loadD a b] S k E := by
  simp [w_Load___neg__, t_Load___neg__]
  exact loadmake_ok hb ha h
theorem eq_ok {a b c d : Int} {S : Sto} {k : K1} {E : X1} (h : k (.bl (decide ((a, b) = (c, d)))) S) : w_Load___eq__ [loadD a b, loadD c d] S k E := by
  simp [w_Load___eq__, t_Load___eq__]
  refine .inr ⟨rfl, ?_⟩
  by_cases q : a = c
  · rw [if_pos q]; simpa [q] using h
  · rw [if_neg q]; simpa [q] using h
theorem bool_ok {a b : Int} {S : Sto} {k : K1} {E : X1} (h : k (.bl (decide (0 < a) || decide (0 < b))) S) : w_Load___bool__ [loadD a b] S k E := by
  simp [w_Load___bool__, t_Load___bool__]
  by_cases q : 0 < a
  · exact .inr ⟨q, by simpa [q] using h⟩
  · refine .inl ⟨by omega, ?_⟩
    by_cases q2 : 0 < b
    · exact .inr ⟨q2, by simpa [q, q2] using h⟩
    · exact .inl ⟨by omega, by simpa [q, q2] using h⟩
theorem covers_ok {a b c d : Int} {S : Sto} {k : K1} {E : X1} (h : k (.bl (decide (c ≤ a) && decide (d ≤ b))) S) : w_Load_covers [loadD a b, loadD c d] S k E := by
  simp [w_Load_covers, t_Load_covers]
  by_cases q : c ≤ a
  · rw [if_pos q]; simpa [q] using h
  · rw [if_neg q]; simpa [q] using h
/-! the law's parts -/
end Z
end
/-! ## P2 -/
section
set_option Elab.async false
set_option linter.all false
set_option maxRecDepth 100000
set_option maxHeartbeats 1000000
namespace Z
open PySem PySem.Spec PyProof.Rows L2 DL
theorem due_an {a b : Int} (ha : a.natAbs < 10 ^ 12 ∨ 0 ≤ a) (hb : b.natAbs < 10 ^ 12 ∨ 0 ≤ b) : AnOk (due a b) := by
  unfold due
  by_cases q : a ≤ 1200 ∧ b ≤ 1200
  · rw [if_pos q]
    exact ⟨by omega, by omega⟩
  · rw [if_neg q]
    trivial
theorem repr_T {S : Sto} {r : An} {k : K1} (h : AnOk r) (hk : k (.str (PyData.shown (anP r))) S) : bRepr [anD r] S k := by
  cases r with
  | some p => exact repr_cl (p := anP (some p)) (an_py (S := S) (some p)) rfl ((an_rp h).shows (by omega) (by omega)) hk
  | none => exact repr_cl (p := anP none) (an_py (S := S) none) rfl ((an_rp h).shows (by omega) (by omega)) hk
theorem repr_same {S : Sto} {as : List An} {x y : D} {k : K1} (hx : x = .lst (as.map anD)) (hy : y = .lst (as.map anD)) (hl : as.length ≤ 1000) (h : ∀ r ∈ as, AnOk r) (hk : k (.bl false) S) : bRepr [x] S fun u S1 => bRepr [y] S1 fun v S2 => fNe u v S2 k := by
  subst hx hy
  refine repr_an hl h (repr_an hl h ?_)
  simpa using hk
theorem ne_two {a b c d : Int} {S : Sto} {k : K1} (h : k (.bl (!(decide (a = c) && decide (b = d)))) S) : fNe (.tup [.int a, .int b]) (.tup [.int c, .int d]) S k := by
  refine ne_data (p := .tuple [.int a, .int b]) (q := .tuple [.int c, .int d]) (by simp [pyT, pyOf, pysOf]) (by simp [pyT, pyOf, pysOf]) (by rfl) (by rfl) ?_
  have e : PyData.eqv (.tuple [.int a, .int b]) (.tuple [.int c, .int d]) = (decide (a = c) && decide (b = d)) := by
    have q : ∀ x y : Int, (x == y) = decide (x = y) := fun x y => by rw [Bool.eq_iff_iff]; simp
    simp [PyData.eqv, PyData.eqvAll, q]
  rw [e]
  exact h
theorem bls_same {S : Sto} {bs cs : List Bool} {x y : D} {k : K1} (hx : x = .lst (bs.map .bl)) (hy : y = .lst (cs.map .bl)) (e : bs = cs) (hl : bs.length ≤ 1000) (hk : k (.bl false) S) : bRepr [x] S fun u S1 => bRepr [y] S1 fun v S2 => fNe u v S2 k := by
  subst hx hy e
  refine repr_bls hl (repr_bls hl ?_)
  simpa using hk
theorem oneR_ok {a b t : Int} {S : Sto} {k : K1} {E : X1} (ha : 0 ≤ a ∧ a ≤ 1200) (hb : 0 ≤ b ∧ b ≤ 1200) (ht : 0 ≤ t ∧ t ≤ 10 ^ 20) (h : k (.bl true) S) : w__law_one_right [.tup [.int a, .int b], .int t] S k E := by
  simp [w__law_one_right, t__law_one_right]
  refine loadmake_ok ha hb ?_
  simp
  have an : AnOk (due (a * t) (b * t)) := due_an (.inr (Int.mul_nonneg ha.1 ht.1)) (.inr (Int.mul_nonneg hb.1 ht.1))
  refine ⟨.inl (.inl ⟨by omega, by omega⟩), .inl (.inl ⟨by omega, by omega⟩), due_ok fun fv => ?_⟩
  refine told_ok (r := due (a * t) (b * t)) (fun K X hk hx => mul_ok ha hb ht (fun e => hk _ _ e) hx) fun fv => ?_
  refine told_ok (r := due (a * t) (b * t)) (fun K X hk hx => rmul_ok ha hb ht (fun e => hk _ _ e) hx) ?_
  refine repr_same (as := [due (a * t) (b * t), due (a * t) (b * t)]) rfl rfl (by simp) (fun x hx => ?_) ?_
  · have e : x = due (a * t) (b * t) := by simpa using hx
    rw [e]; exact an
  simp
  intro fv
  have s1 : AnOk (some (b, a)) := ⟨by omega, by omega⟩
  refine told_ok (r := some (b, a)) (fun K X hk hx => neg_ok ha hb (hk _ _ rfl)) (repr_T s1 (repr_T (r := some (b, a)) s1 ?_))
  simp
  refine neg_ok ha hb ⟨32, ⟨_, rfl⟩, _, rfl, neg_ok hb ha ⟨32, ⟨_, rfl⟩, _, rfl, eq_ok ?_⟩⟩
  simp
  refine bool_ok ?_
  have fin : ∀ z : Bool, z = (decide (0 < a) || decide (0 < b)) → dMk 32 true w_Load___init__ [.int a, .int b] S (fun y S2 => ∃ x, (∃ x_1, insOf S2 y = some (x, x_1)) ∧ x = 32 ∧ w_Load___eq__ [loadD a b, y] S2 (fun r S3 => isB r fun b_1 => w_Load___eq__ [loadD a b, loadD a b] S3 (fun r S3 => isB r fun b_2 => bRepr [D.lst [D.bl z, D.bl b_1, D.bl !b_2]] S3 fun x S1 => fNe (D.tup [D.int a, D.int b]) (D.tup [D.int 0, D.int 0]) S1 fun d S1 => bRepr [D.lst [d, D.bl true, D.bl false]] S1 fun y S2 => fEq x y S2 k) fun c fs S' => E c fs S') fun c fs S' => E c fs S') fun c fs S' => E c fs S' := fun z hz => by
    refine loadmake_ok ha hb ⟨32, ⟨_, rfl⟩, rfl, eq_ok ?_⟩
    simp
    refine eq_ok ?_
    simp
    refine repr_bls (bs := [z, true, false]) (by simp) (ne_two ?_)
    have e : (!(decide (a = 0) && decide (b = 0))) = z := by
      rw [hz]
      by_cases q : a = 0
      · by_cases q2 : b = 0
        · simp [q, q2]
        · have : 0 < b := by omega
          simp [q, q2, this]
      · have : 0 < a := by omega
        simp [q, this]
    rw [e]
    refine repr_bls (bs := [z, true, false]) (by simp) ?_
    simpa using h
  cases q : (decide (0 < a) || decide (0 < b)) with
  | false => exact .inl ⟨rfl, fin false q.symm⟩
  | true => exact .inr ⟨rfl, fin true q.symm⟩
def tlC : DS :=
  (dSeq (dSet 7 (dFrz (dSz (dCons (dMeth [(32, w_Load_covers)] (dVar 2) (dCons (dVar 3) dNil)) (dCons (dMeth [(32, w_Load_covers)] (dVar 3) (dCons (dVar 2) dNil)) (dCons (dOEq false [(32, w_Load___eq__)] [32] (dVar 2) (dVar 3)) (dCons (dOEq true [(32, w_Load___eq__)] [32] (dVar 3) (dVar 2)) (dCons (dMeth [(32, w_Load_covers)] (dVar 2) (dCons (dVar 2) dNil)) dNil))))))))
    (dSeq (dIf (dTst (d2 fNe (dBi bRepr (dCons (dVar 7) dNil)) (dBi bRepr (dCons (dFrz (dSz (dCons (d2 fEq (dVar 5) (dVar 1)) (dCons (d2 fEq (dVar 5) (dVar 0)) (dCons (d2 fEq (dVar 0) (dVar 1)) (dCons (d2 fNe (dVar 0) (dVar 1)) (dCons (dC (.bl true)) dNil))))))) dNil)))) (dRet (dC (.bl false))) dSkip)
    (dRet (d2 fEq (dBi bRepr (dCons (dFrz (dSz (dCons (dProp [(32, w_Load_forward)] (dVar 2)) (dCons (dProp [(32, w_Load_backward)] (dVar 2)) (dCons (dProp [(32, w_Load_forward)] (dVar 3)) (dCons (dProp [(32, w_Load_backward)] (dVar 3)) dNil)))))) dNil)) (dBi bRepr (dCons (dFrz (dBiM bList (dCons (d2 fCatT (dVar 0) (dVar 1)) dNil))) dNil))))))
def tlB : DS :=
  (dSeq (dSet 5 (dTup (dCons (dBi bMin2 (dCons (d2 fIx (dVar 0) (dC (.int 0))) (dCons (d2 fIx (dVar 1) (dC (.int 0))) dNil))) (dCons (dBi bMin2 (dCons (d2 fIx (dVar 0) (dC (.int 1))) (dCons (d2 fIx (dVar 1) (dC (.int 1))) dNil))) dNil))))
    (dSeq (dSet 6 (dTup (dCons (dBi bMax2 (dCons (d2 fIx (dVar 0) (dC (.int 0))) (dCons (d2 fIx (dVar 1) (dC (.int 0))) dNil))) (dCons (dBi bMax2 (dCons (d2 fIx (dVar 0) (dC (.int 1))) (dCons (d2 fIx (dVar 1) (dC (.int 1))) dNil))) dNil))))
    (dSeq (dSet 7 (dFrz (dSz (dCons (dLamC (dHand 4 t__law_told) (dBinS [(32, w_Load___and__)] (dVar 2) (dVar 3))) (dCons (dLamC (dHand 4 t__law_told) (dBinS [(32, w_Load___and__)] (dVar 3) (dVar 2))) dNil)))))
    (dSeq (dSet 7 (dFrz (dM2 fCat (dVar 7) (dFrz (dSz (dCons (dLamC (dHand 4 t__law_told) (dBinS [(32, w_Load___or__)] (dVar 2) (dVar 3))) (dCons (dLamC (dHand 4 t__law_told) (dBinS [(32, w_Load___or__)] (dVar 3) (dVar 2))) dNil)))))))
    (dSeq (dIf (dTst (d2 fNe (dBi bRepr (dCons (dVar 7) dNil)) (dBi bRepr (dCons (dFrz (dSz (dCons (dVar 5) (dCons (dVar 5) (dCons (dVar 6) (dCons (dVar 6) dNil)))))) dNil)))) (dRet (dC (.bl false))) dSkip)
    tlC)))))
theorem tlC_ok {a b c d : Int} {S : Sto} {DD : DEnds} {r : An} {x : D} (h1 : 0 ≤ a ∧ a ≤ 1200) (h2 : 0 ≤ b ∧ b ≤ 1200) (h3 : 0 ≤ c ∧ c ≤ 1200) (h4 : 0 ≤ d ∧ d ≤ 1200) (h : DD.rt (.bl true) S) :
    tlC [some (.tup [.int a, .int b]), some (.tup [.int c, .int d]), some (loadD a b), some (loadD c d), some (anD r), some (.tup [.int (min a c), .int (min b d)]), some (.tup [.int (max a c), .int (max b d)]), some x] S DD := by
  simp [tlC]
  refine covers_ok (covers_ok (eq_ok ?_))
  simp
  refine eq_ok ?_
  simp
  refine covers_ok ?_
  refine repr_bls (bs := [decide (c ≤ a) && decide (d ≤ b), decide (a ≤ c) && decide (b ≤ d), decide (a = c) && decide (b = d), !decide (c = a) || !decide (d = b), decide (a ≤ a) && decide (b ≤ b)]) (by simp) (ne_two ?_)
  refine repr_bls (bs := [decide (min a c = c) && decide (min b d = d), decide (min a c = a) && decide (min b d = b), decide (a = c) && decide (b = d), !(decide (a = c) && decide (b = d)), true]) (by simp) ?_
  have q1 : decide (min a c = c) = decide (c ≤ a) := decide_eq_decide.mpr ⟨fun _ => by omega, fun _ => by omega⟩
  have q2 : decide (min b d = d) = decide (d ≤ b) := decide_eq_decide.mpr ⟨fun _ => by omega, fun _ => by omega⟩
  have q3 : decide (min a c = a) = decide (a ≤ c) := decide_eq_decide.mpr ⟨fun _ => by omega, fun _ => by omega⟩
  have q4 : decide (min b d = b) = decide (b ≤ d) := decide_eq_decide.mpr ⟨fun _ => by omega, fun _ => by omega⟩
  have q5 : decide (c = a) = decide (a = c) := decide_eq_decide.mpr ⟨Eq.symm, Eq.symm⟩
  have q6 : decide (d = b) = decide (b = d) := decide_eq_decide.mpr ⟨Eq.symm, Eq.symm⟩
  have e : [decide (c ≤ a) && decide (d ≤ b), decide (a ≤ c) && decide (b ≤ d), decide (a = c) && decide (b = d), !decide (c = a) || !decide (d = b), decide (a ≤ a) && decide (b ≤ b)] = [decide (min a c = c) && decide (min b d = d), decide (min a c = a) && decide (min b d = b), decide (a = c) && decide (b = d), !(decide (a = c) && decide (b = d)), true] := by
    rw [q1, q2, q3, q4, q5, q6, Bool.not_and]
    simp
  rw [e]
  simp
  refine fwd_ok (bwd_ok (fwd_ok (bwd_ok ?_)))
  refine repr_ints (ns := [a, b, c, d]) (by simp) (fun z hz => ?_) (repr_ints (ns := [a, b, c, d]) (by simp) (fun z hz => ?_) ?_)
  · have : z = a ∨ z = b ∨ z = c ∨ z = d := by simpa using hz
    omega
  · have : z = a ∨ z = b ∨ z = c ∨ z = d := by simpa using hz
    omega
  simpa using h
theorem tlB_ok {a b c d : Int} {S : Sto} {DD : DEnds} {r : An} (h1 : 0 ≤ a ∧ a ≤ 1200) (h2 : 0 ≤ b ∧ b ≤ 1200) (h3 : 0 ≤ c ∧ c ≤ 1200) (h4 : 0 ≤ d ∧ d ≤ 1200) (h : DD.rt (.bl true) S) :
    tlB [some (.tup [.int a, .int b]), some (.tup [.int c, .int d]), some (loadD a b), some (loadD c d), some (anD r), none, none, none] S DD := by
  simp [tlB]
  intro fv
  have o1 : ∀ {x y z u : Int}, (0 ≤ x ∧ x ≤ 1200) → (0 ≤ y ∧ y ≤ 1200) → (0 ≤ z ∧ z ≤ 1200) → (0 ≤ u ∧ u ≤ 1200) → AnOk (some (min x z, min y u)) ∧ AnOk (some (max x z, max y u)) := fun p1 p2 p3 p4 => ⟨⟨by omega, by omega⟩, ⟨by omega, by omega⟩⟩
  refine told_ok (r := some (min a c, min b d)) (fun K X hk hx => and_ok h1 h2 h3 h4 (hk _ _ rfl)) fun fv => ?_
  refine told_ok (r := some (min c a, min d b)) (fun K X hk hx => and_ok h3 h4 h1 h2 (hk _ _ rfl)) fun fv => ?_
  refine told_ok (r := some (max a c, max b d)) (fun K X hk hx => or_ok h1 h2 h3 h4 (hk _ _ rfl)) fun fv => ?_
  refine told_ok (r := some (max c a, max d b)) (fun K X hk hx => or_ok h3 h4 h1 h2 (hk _ _ rfl)) ?_
  have e1 : ∀ x y : Int, (if y < x then y else x) = min x y := fun x y => by split <;> omega
  have e2 : ∀ x y : Int, (if x < y then y else x) = max x y := fun x y => by split <;> omega
  rw [e1, e1, e2, e2, Int.min_comm c a, Int.min_comm d b, Int.max_comm c a, Int.max_comm d b]
  refine repr_same (as := [some (min a c, min b d), some (min a c, min b d), some (max a c, max b d), some (max a c, max b d)]) rfl rfl (by simp) (fun x hx => ?_) ?_
  · obtain ⟨p1, p2⟩ := o1 h1 h2 h3 h4
    have : x = some (min a c, min b d) ∨ x = some (max a c, max b d) := by simpa using hx
    rcases this with rfl | rfl
    · exact p1
    · exact p2
  simp
  exact tlC_ok h1 h2 h3 h4 h
theorem twoR_ok {a b c d : Int} {S : Sto} {k : K1} {E : X1} (h1 : 0 ≤ a ∧ a ≤ 1200) (h2 : 0 ≤ b ∧ b ≤ 1200) (h3 : 0 ≤ c ∧ c ≤ 1200) (h4 : 0 ≤ d ∧ d ≤ 1200) (h : k (.bl true) S) : w__law_two_right [.tup [.int a, .int b], .tup [.int c, .int d]] S k E := by
  have e : t__law_two_right =
  dSeq (dAsg (dTup (dCons (dCall (dMk 32 true w_Load___init__) (dCons (d2 fIx (dVar 0) (dC (.int 0))) (dCons (d2 fIx (dVar 0) (dC (.int 1))) dNil))) (dCons (dCall (dMk 32 true w_Load___init__) (dCons (d2 fIx (dVar 1) (dC (.int 0))) (dCons (d2 fIx (dVar 1) (dC (.int 1))) dNil))) dNil))) (dgQ (dgT 2 (dgsC (dgN 2) (dgsC (dgN 3) dgsN)))))
    (dSeq (dSet 4 (dCall w__law_due (dCons (d2 fAdd (d2 fIx (dVar 0) (dC (.int 0))) (d2 fIx (dVar 1) (dC (.int 0)))) (dCons (d2 fAdd (d2 fIx (dVar 0) (dC (.int 1))) (d2 fIx (dVar 1) (dC (.int 1)))) dNil))))
    (dSeq (dIf (dTst (d2 fNe (dBi bRepr (dCons (dFrz (dSz (dCons (dLamC (dHand 4 t__law_told) (dBinS [(32, w_Load___add__)] (dVar 2) (dVar 3))) (dCons (dLamC (dHand 4 t__law_told) (dBinS [(32, w_Load___add__)] (dVar 3) (dVar 2))) dNil)))) dNil)) (dBi bRepr (dCons (dFrz (dSz (dCons (dVar 4) (dCons (dVar 4) dNil)))) dNil)))) (dRet (dC (.bl false))) dSkip)
    tlB)) := rfl
  unfold w__law_two_right
  rw [e]
  simp
  refine loadmake_ok h1 h2 ?_
  simp
  refine loadmake_ok h3 h4 ?_
  simp
  refine due_ok ?_
  have an : AnOk (due (a + c) (b + d)) := due_an (.inr (by omega)) (.inr (by omega))
  intro fv
  refine told_ok (r := due (a + c) (b + d)) (fun K X hk hx => add_ok (by omega) (by omega) (fun e => hk _ _ e) hx) fun fv => ?_
  refine told_ok (r := due (c + a) (d + b)) (fun K X hk hx => add_ok (by omega) (by omega) (fun e => hk _ _ e) hx) ?_
  rw [Int.add_comm c a, Int.add_comm d b]
  refine repr_same (as := [due (a + c) (b + d), due (a + c) (b + d)]) rfl rfl (by simp) (fun x hx => ?_) ?_
  · have e : x = due (a + c) (b + d) := by simpa using hx
    rw [e]; exact an
  simp
  exact tlB_ok h1 h2 h3 h4 h
/-! the law -/
end Z
end
/-! ## P3 -/
section
set_option Elab.async false
set_option linter.all false
set_option maxRecDepth 100000
set_option maxHeartbeats 1000000
namespace Z
open PySem PySem.Spec PyProof.Rows L2 DL
theorem pick_ok {m gp : Addr} {S : Sto} {f : Nat} {ns : List Int} {k : K1} {E : X1} (hd : DrI S m gp f) (hf : 1 ≤ f) (hn : 0 < ns.length ∧ ns.length < 1000) (hk : ∀ r S', r ∈ ns → DrI S' m gp (f - 1) → Fr m gp S S' → k (.int r) S') : w__law_pick [.mu m, .lst (ns.map .int)] S k E := by
  simp [w__law_pick, t__law_pick]
  refine draw_ok hd hf ⟨by omega, by omega⟩ fun r S' h0 h1 hd' fr => ?_
  simp
  have hlt : r.toNat < ns.length := by omega
  refine ⟨.int ns[r.toNat], ?_, hk _ _ (List.getElem_mem hlt) hd' fr⟩
  rw [atI_nat h0 (by simpa using h1), List.getElem?_map, List.getElem?_eq_getElem hlt]
  rfl
theorem near_ok {m gp : Addr} {S : Sto} {f : Nat} {k : K1} {E : X1} (hd : DrI S m gp f) (hf : 3 ≤ f) (hk : ∀ r S', 0 ≤ r → r ≤ 1200 → DrI S' m gp (f - 3) → Fr m gp S S' → k (.int r) S') : w__law_near [.mu m] S k E := by
  simp [w__law_near, t__law_near]
  refine draw_ok hd (by omega) ⟨by omega, by omega⟩ fun r S' h0 h1 hd' fr => ?_
  refine draw_ok hd' (by omega) ⟨by omega, by omega⟩ fun r2 S2 h2 h3 hd2 fr2 => ?_
  refine pick_ok (ns := [0, 0, 1, 2, 599, 600, 601, 1199, 1200, r, r2]) hd2 (by omega) ⟨by simp, by simp⟩ fun z S3 hz hd3 fr3 => ?_
  refine hk z S3 ?_ ?_ hd3 ((fr.trans fr2).trans fr3)
  · simp at hz; omega
  · simp at hz; omega
theorem law_ok (ns : List Int) (hl : ns.length ≤ 63) : w_law [.scr (ns.map D.int)] (fun _ => none) (fun d _ => d = .bl true) (fun _ _ _ => False) := by
  simp [w_law, t_law]
  refine begun_ok hl fun m gp S hd => ?_
  refine ⟨by decide +kernel, by decide +kernel, ?_⟩
  refine for_st (σ := Sto) (env := fun _ => [some (.scr (ns.map D.int)), some (.mu m), none, none, none, none]) (sto := fun st => st) (fun xs st => DrI st m gp (50 * xs.length)) ?_ ?_ (irng 0 8) S (hd.less (by rw [irng_length]; decide))
  · intro x xs S dr K hK
    simp only [List.length_cons] at dr
    simp
    refine near_ok dr (by omega) fun a S1 a0 a1 dr1 _ => ?_
    refine near_ok dr1 (by omega) fun b S2 b0 b1 dr2 _ => ?_
    refine near_ok dr2 (by omega) fun c S3 c0 c1 dr3 _ => ?_
    refine near_ok dr3 (by omega) fun d S4 d0 d1 dr4 _ => ?_
    simp
    refine draw_ok dr4 (by omega) ⟨by omega, by omega⟩ fun r S5 r0 r1 dr5 _ => ?_
    simp
    have fin : ∀ (c d : Int) (S6 : Sto), (0 ≤ c ∧ c ≤ 1200) → (0 ≤ d ∧ d ≤ 1200) → DrI S6 m gp (50 * xs.length + 30) → w__law_draw [D.mu m, D.int 40] S6 (fun d_1 S1 => w__law_pick [D.mu m, D.lst [D.int 0, D.int 1, D.int 2, D.int 3, d_1, D.int 1200, D.int 1201, D.int 100000000000000000000]] S1 (fun d_2 S1 => w__law_two_right [D.tup [D.int a, D.int b], D.tup [D.int c, D.int d]] S1 (fun x S1 => isB x fun b_1 => b_1 = true ∧ w__law_one_right [D.tup [D.int a, D.int b], d_2] S1 (fun x S1 => isB x fun b => b = true ∧ K [some (D.scr (List.map D.int ns)), some (D.mu m), none, none, none, none] S1) fun c fs S' => False) fun c fs S' => False) fun c fs S' => False) fun c fs S' => False := fun c d S6 hc hd dr6 => by
      refine draw_ok dr6 (by omega) ⟨by omega, by omega⟩ fun t S7 t0 t1 dr7 _ => ?_
      refine pick_ok (ns := [0, 1, 2, 3, t, 1200, 1201, 100000000000000000000]) dr7 (by omega) ⟨by simp, by simp⟩ fun z S8 hz dr8 _ => ?_
      have bz : 0 ≤ z ∧ z ≤ 10 ^ 20 := by
        simp at hz
        omega
      refine twoR_ok ⟨a0, a1⟩ ⟨b0, b1⟩ hc hd ?_
      simp
      refine oneR_ok ⟨a0, a1⟩ ⟨b0, b1⟩ bz ?_
      simp
      exact hK S8 (dr8.less (by omega))
    by_cases q : r = 0
    · rw [if_pos q]
      refine draw_ok dr5 (by omega) ⟨by omega, by omega⟩ fun u S6 u0 u1 dr6 _ => ?_
      refine ⟨u, rfl, ?_⟩
      refine draw_ok dr6 (by omega) ⟨by omega, by omega⟩ fun v S7 v0 v1 dr7 _ => ?_
      refine ⟨v, rfl, ?_⟩
      exact fin _ _ S7 (by split <;> omega) (by split <;> omega) (dr7.less (by omega))
    · rw [if_neg q]
      exact fin c d S5 ⟨c0, c1⟩ ⟨d0, d1⟩ (dr5.less (by omega))
  · intro S _
    simp
end Z
end

theorem PySem.Challenge.cw_handsweeps_k08_loads_reckoned_holds : PySem.Challenge.rw_handsweeps_k08_loads_reckoned.Holds := by
  exact Z.holds_of Z.law_ok
