import PyProof.Rows.All
import HandS.ForMost
import HandS.Evl
import HandS.Conv
import HandS.IsInst
import HandS.TupAny
import HandS.Deep
import HandS.Zip
import HandS.Flow
import HandS.Strs
import HandS.Exc
import HandS.ExcOwn
import HandS.ExcInit
import HandS.ExcField
import HandS.TryOnly
import HandS.TryMany
import HandS.CallSlots
import HandS.Lambda
import HandS.Defaults
import KE.GoesEnum
import HandS.Style
import HandS.SortInts
import HandS.SetFor
import KE.KRevSl
import HandS.Ends
import PyProof.ReprRoads
import PyProof.Rows.RegFStrParts
import KE.KTupSum
import KE.DataMinMax
import KE.KUnpack
import KE.SortData
import KE.SortLaws
import HandS.SetBool
import HandS.WordsExc
import HandS.EndTab
import KE.KNestM
import KE.KExcIs
import HandS.DictComp
import HandS.TupMul
import HandS.Star
import HandS.RepeatKit
import HandS.ListItems
import PySem.Challenge.RW_nightloaf_k11_refusals_of_nights
import Wide.All
import OpenK.AllK
import Wide.FinOn
set_option Elab.async false
set_option linter.all false
set_option maxRecDepth 100000
set_option maxHeartbeats 2000000
/-! DL: a layer of data. What a heap value stands for (Rp), what the slots of a frame stand for (SR), what a piece of code does to them (Step); EOk, TOk, AOk, GOk, IOk, SOk tie a reading of HandS to a plain function of data. -/
namespace DL
open PySem L2
/-- what stands around: the tables of code objects that lambdas may lengthen, with the lambdas' names; the exception that a suite holds: where it lies, its class, its dict -/
structure Tb where
  T : List (Addr × Str)
  E : Option (Addr × Addr × Addr)
variable {Θ : Tb} {W : WX}

abbrev D := PyData
abbrev Frag := PySem.W.Frag

/-- a key of a dict as data -/
def keyD : Key → D
  | .inl i => .int i
  | .inr x => .str x

/-- what may not be changed and is no list or tuple of ours (the script) -/
def lkd (d : D) : D := .dict [(.none, d)]

/-- an instance of the class with this name, its attributes in the order in which they came -/
def insD (nm : Str) (fs : List (Str × D)) : D := .dict ((.none, .str nm) :: fs.map fun f => (.str f.1, f.2))
/-- the class with this name stands at C -/
def ClsAt (K : Frag) (nm : Str) (C : Addr) : Prop := PySem.W.nsIn K mainGlobals nm = some (some (.ref C))
/-- a def of the module, as a value -/
def fnD (nm : Str) : D := .dict [(.none, .none), (.none, .str nm)]

mutual
/-- the value v stands, in what is kept (B), for the data d -/
inductive Rp (K : Frag) (B : Hp) : V → D → Prop
  | non : Rp K B .non .none
  | bl (b : Bool) : Rp K B (.bl b) (.bool b)
  | int (i : Int) : Rp K B (.int i) (.int i)
  | str (x : Str) : Rp K B (.str x) (.str x)
  | lst {a : Addr} {vs : List V} {ds : List D} : B a = some (.lst vs) → RpAll K B vs ds → Rp K B (.ref a) (.list ds)
  | tup {a : Addr} {vs : List V} {ds : List D} : B a = some (.tup vs) → RpAll K B vs ds → Rp K B (.ref a) (.tuple ds)
  | dK {a : Addr} {kvs : List (Key × V)} {ds : List D} : B a = some (.dK kvs) → RpAll K B (kvs.map (·.2)) ds → Rp K B (.ref a) (.dict ((kvs.map fun kv => keyD kv.1).zip ds))
  | dT {a : Addr} {kvs : List (List Key × V)} {ds : List D} : B a = some (.dT kvs) → RpAll K B (kvs.map (·.2)) ds → Rp K B (.ref a) (.dict ((kvs.map fun kv => PyData.tuple (kv.1.map keyD)).zip ds))
  | lkl {a : Addr} {vs : List V} {ds : List D} : SqL K B a vs → RpAll K B vs ds → Rp K B (.ref a) (lkd (.list ds))
  | lkt {a : Addr} {vs : List V} {ds : List D} : SqT K B a vs → RpAll K B vs ds → Rp K B (.ref a) (lkd (.tuple ds))
  | ins {a dx C : Addr} {nm : Str} {fs : List (Str × V)} {ds : List D} : B a = some (.ins C dx fs) → B dx = some (.own a) → ClsAt K nm C → RpAll K B (fs.map (·.2)) ds → Rp K B (.ref a) (insD nm ((fs.map (·.1)).zip ds))
  | fn {f : Addr} {nm : Str} : ClsAt K nm f → Rp K B (.ref f) (fnD nm)
inductive RpAll (K : Frag) (B : Hp) : List V → List D → Prop
  | nil : RpAll K B [] []
  | cons {v : V} {vs : List V} {d : D} {ds : List D} : Rp K B v d → RpAll K B vs ds → RpAll K B (v :: vs) (d :: ds)
end

mutual
theorem Rp.mono {K : Frag} {B B' : Hp} (e : Evl.Ex B B') : ∀ {v : V} {d : D}, Rp K B v d → Rp K B' v d
  | _, _, .non => .non
  | _, _, .bl b => .bl b
  | _, _, .int i => .int i
  | _, _, .str x => .str x
  | _, _, .lst h r => .lst (e _ _ h) (RpAll.mono e r)
  | _, _, .tup h r => .tup (e _ _ h) (RpAll.mono e r)
  | _, _, .dK h r => .dK (e _ _ h) (RpAll.mono e r)
  | _, _, .dT h r => .dT (e _ _ h) (RpAll.mono e r)
  | _, _, .lkl h r => .lkl (Evl.ex_l e h) (RpAll.mono e r)
  | _, _, .lkt h r => .lkt (Evl.ex_t e h) (RpAll.mono e r)
  | _, _, .ins h h2 c r => .ins (e _ _ h) (e _ _ h2) c (RpAll.mono e r)
  | _, _, .fn c => .fn c
theorem RpAll.mono {K : Frag} {B B' : Hp} (e : Evl.Ex B B') : ∀ {vs : List V} {ds : List D}, RpAll K B vs ds → RpAll K B' vs ds
  | _, _, .nil => .nil
  | _, _, .cons h r => .cons (Rp.mono e h) (RpAll.mono e r)
end

theorem RpAll.length {K : Frag} {B : Hp} : ∀ {vs : List V} {ds : List D}, RpAll K B vs ds → vs.length = ds.length
  | _, _, .nil => rfl
  | _, _, .cons _ r => congrArg (· + 1) r.length
theorem RpAll.append {K : Frag} {B : Hp} : ∀ {vs ws : List V} {ds es : List D}, RpAll K B vs ds → RpAll K B ws es → RpAll K B (vs ++ ws) (ds ++ es)
  | _, _, _, _, .nil, s => s
  | _, _, _, _, .cons h r, s => .cons h (RpAll.append r s)
theorem RpAll.get {K : Frag} {B : Hp} : ∀ {vs : List V} {ds : List D} {i : Nat} {d : D}, RpAll K B vs ds → ds[i]? = some d → ∃ v, vs[i]? = some v ∧ Rp K B v d
  | _, _, _, _, .nil, e => by simp at e
  | _, _, 0, d, .cons h _, e => by simp at e; subst e; exact ⟨_, rfl, h⟩
  | _, _, i + 1, d, .cons _ r, e => by
    obtain ⟨v, h1, h2⟩ := RpAll.get (i := i) (d := d) r (by simpa using e)
    exact ⟨v, by simpa using h1, h2⟩
theorem RpAll.set {K : Frag} {B : Hp} {v : V} {d : D} (h : Rp K B v d) : ∀ {vs : List V} {ds : List D} (i : Nat), RpAll K B vs ds → RpAll K B (vs.set i v) (ds.set i d)
  | _, _, _, .nil => .nil
  | _, _, 0, .cons _ r => .cons h r
  | _, _, i + 1, .cons q r => .cons q (RpAll.set h i r)
theorem RpAll.take {K : Frag} {B : Hp} : ∀ {vs : List V} {ds : List D} (n : Nat), RpAll K B vs ds → RpAll K B (vs.take n) (ds.take n)
  | _, _, 0, _ => by simp only [List.take_zero]; exact .nil
  | _, _, n + 1, .nil => .nil
  | _, _, n + 1, .cons h r => .cons h (RpAll.take n r)
theorem RpAll.drop {K : Frag} {B : Hp} : ∀ {vs : List V} {ds : List D} (n : Nat), RpAll K B vs ds → RpAll K B (vs.drop n) (ds.drop n)
  | _, _, 0, r => r
  | _, _, n + 1, .nil => .nil
  | _, _, n + 1, .cons _ r => RpAll.drop n r

/-- the content of an owned object -/
inductive OC | lst (ds : List D) | dK (kvs : List (Key × D)) | dT (kvs : List (List Key × D)) | ins (nm : Str) (fs : List (Str × D))
/-- a slot: nothing told; data that are kept; an object of our own, a parameter's (io: it stays in its slot) -/
inductive Sl | no | sh (d : D) | ow (c : OC) | io (c : OC) | er (c : Str) (fs : List (Str × D))
abbrev Rho := List Sl
def Sl.oc : Sl → Option OC
  | .ow c => some c
  | .io c => some c
  | _ => none

/-- what an exception must keep to be let out where X stands -/
def Wof (X : Cx) : WX := fun cls d σ H => ∀ u s', XE X (fun c' d' σ' H' => c' = cls ∧ d' = d ∧ σ' = σ ∧ H' = H) u s' → X.xe u s'
theorem takes_wof {X : Cx} : Takes X (Wof X) := fun u s' ⟨a, B, sI, pins, σ, H, cls, d, e, I, nb, up, sky, na, os, ag, w⟩ =>
  w u s' ⟨a, B, sI, pins, σ, H, cls, d, e, I, nb, up, sky, na, os, ag, rfl, rfl, rfl, rfl⟩
theorem wof_of {X : Cx} {W : WX} (tk : Takes X W) {cls : Value} {d : Option Addr} {σ : St} {H : Hp} (h : W cls d σ H) : Wof X cls d σ H := fun u s' ⟨a, B, sI, pins, σ', H', cls', d', e, I, nb, up, sky, na, os, ag, w⟩ =>
  tk u s' ⟨a, B, sI, pins, σ', H', cls', d', e, I, nb, up, sky, na, os, ag, by obtain ⟨h1, h2, h3, h4⟩ := w; rw [h1, h2, h3, h4]; exact h⟩
/-- no table of code objects, no code object -/
def NT (o : HO) : Prop := (∀ ps, o ≠ .tbl ps) ∧ ∀ c q, o ≠ LamX.CodeO c q
theorem nt_lst {vs : List V} : NT (.lst vs) := ⟨fun _ z => by (cases z), fun _ _ z => by (unfold LamX.CodeO at z; cases z)⟩
theorem nt_dK {vs : List (Key × V)} : NT (.dK vs) := ⟨fun _ z => by (cases z), fun _ _ z => by (unfold LamX.CodeO at z; cases z)⟩
theorem nt_at {H : Hp} {p : Addr} {vs : List V} (h : H p = some (.lst vs)) : ∀ u, H p = some u → NT u := fun u z => by
  rw [h] at z; cases z; exact nt_lst
open Classical in
/-- the heap without tables and code objects -/
noncomputable def strip (H : Hp) : Hp := fun b => match H b with
  | some o => if NT o then some o else none
  | none => none
theorem strip_ex (H : Hp) : Evl.Ex (strip H) H := fun a o z => by
  unfold strip at z
  split at z
  · rename_i h; split at z
    · rw [h]; exact z
    · cases z
  · cases z
theorem strip_nt (H : Hp) : ∀ a o, strip H a = some o → NT o := fun a o z => by
  unfold strip at z
  split at z
  · split at z
    · rename_i h; cases z; exact h
    · cases z
  · cases z
theorem strip_of {H : Hp} {a : Addr} {o : HO} (h : H a = some o) (n : NT o) : strip H a = some o := by
  unfold strip
  rw [h]
  exact if_pos n
theorem strip_l {K : Frag} {H : Hp} {a : Addr} {vs : List V} (h : SqL K H a vs) : SqL K (strip H) a vs := by
  rcases h with (h | ⟨o, h⟩) | h
  · exact .inl (.inl (strip_of h nt_lst))
  · exact .inl (.inr ⟨o, strip_of h ⟨fun _ z => by (cases z), fun _ _ z => by (unfold LamX.CodeO at z; cases z)⟩⟩)
  · exact .inr h
/-- an own object at a -/
def OwAt (K : Frag) (B H : Hp) (a : Addr) : OC → Prop
  | .lst ds => ∃ vs, H a = some (.lst vs) ∧ RpAll K B vs ds
  | .dK kvs => ∃ kv, H a = some (.dK kv) ∧ kv.map (·.1) = kvs.map (·.1) ∧ RpAll K B (kv.map (·.2)) (kvs.map (·.2))
  | .dT kvs => ∃ kv, H a = some (.dT kv) ∧ kv.map (·.1) = kvs.map (·.1) ∧ RpAll K B (kv.map (·.2)) (kvs.map (·.2))
  | .ins nm fs => ∃ C dx kv, H a = some (.ins C dx kv) ∧ B dx = some (.own a) ∧ ClsAt K nm C ∧ kv.map (·.1) = fs.map (·.1) ∧ RpAll K B (kv.map (·.2)) (fs.map (·.2))
theorem OwAt.mono {K : Frag} {B B' H H' : Hp} {a : Addr} {c : OC} (e : Evl.Ex B B') (k : ∀ o, NT o → H a = some o → H' a = some o) (h : OwAt K B H a c) : OwAt K B' H' a c := by
  cases c with
  | lst ds => obtain ⟨vs, h1, h2⟩ := h; exact ⟨vs, k _ ⟨fun _ z => by (cases z), fun _ _ z => by (unfold LamX.CodeO at z; cases z)⟩ h1, h2.mono e⟩
  | dK kvs => obtain ⟨kv, h1, h2, h3⟩ := h; exact ⟨kv, k _ ⟨fun _ z => by (cases z), fun _ _ z => by (unfold LamX.CodeO at z; cases z)⟩ h1, h2, h3.mono e⟩
  | dT kvs => obtain ⟨kv, h1, h2, h3⟩ := h; exact ⟨kv, k _ ⟨fun _ z => by (cases z), fun _ _ z => by (unfold LamX.CodeO at z; cases z)⟩ h1, h2, h3.mono e⟩
  | ins nm fs => obtain ⟨C, dx, kv, h1, h2, h3, h4, h5⟩ := h; exact ⟨C, dx, kv, k _ ⟨fun _ z => by (cases z), fun _ _ z => by (unfold LamX.CodeO at z; cases z)⟩ h1, e _ _ h2, h3, h4, h5.mono e⟩
theorem OwAt.some2 {K : Frag} {B H : Hp} {a : Addr} {c : OC} (h : OwAt K B H a c) : ∃ o, H a = some o ∧ NT o := by
  cases c with
  | lst ds => obtain ⟨vs, h1, h2⟩ := h; exact ⟨_, h1, fun _ z => by (cases z), fun _ _ z => by (unfold LamX.CodeO at z; cases z)⟩
  | dK kvs => obtain ⟨kv, h1, h2, h3⟩ := h; exact ⟨_, h1, fun _ z => by (cases z), fun _ _ z => by (unfold LamX.CodeO at z; cases z)⟩
  | dT kvs => obtain ⟨kv, h1, h2, h3⟩ := h; exact ⟨_, h1, fun _ z => by (cases z), fun _ _ z => by (unfold LamX.CodeO at z; cases z)⟩
  | ins nm fs => obtain ⟨C, dx, kv, h1, h2⟩ := h; exact ⟨_, h1, fun _ z => by (cases z), fun _ _ z => by (unfold LamX.CodeO at z; cases z)⟩
theorem OwAt.some {K : Frag} {B H : Hp} {a : Addr} {c : OC} (h : OwAt K B H a c) : ∃ o, H a = some o := let ⟨o, h1, _⟩ := h.some2; ⟨o, h1⟩
theorem OwAt.nt {K : Frag} {B H : Hp} {a : Addr} {c : OC} (h : OwAt K B H a c) : ∀ u, H a = Option.some u → NT u := fun u hu => by
  obtain ⟨o, h1, h2⟩ := h.some2
  rw [h1] at hu
  cases hu
  exact h2

/-- an exception of the class with this name, its own dict at d -/
def ExAt (K : Frag) (B H : Hp) (C d : Addr) (c : Str) (fs : List (Str × D)) : Prop := ClsAt K c C ∧ ∃ vs : List V, H d = some (.xd ((fs.map (·.1)).zip vs)) ∧ RpAll K B vs (fs.map (·.2))
theorem nt_xd {fs : List (Str × V)} : NT (.xd fs) := ⟨fun _ z => by (cases z), fun _ _ z => by (unfold LamX.CodeO at z; cases z)⟩
theorem ExAt.mono {K : Frag} {B B' H H' : Hp} {C d : Addr} {c : Str} {fs : List (Str × D)} (e : Evl.Ex B B') (k : ∀ o, NT o → H d = some o → H' d = some o) (h : ExAt K B H C d c fs) : ExAt K B' H' C d c fs := by
  obtain ⟨h1, vs, h2, h3⟩ := h
  exact ⟨h1, vs, k _ nt_xd h2, h3.mono e⟩
theorem ExAt.some {K : Frag} {B H : Hp} {C d : Addr} {c : Str} {fs : List (Str × D)} (h : ExAt K B H C d c fs) : ∃ xs, H d = Option.some (.xd xs) := by
  obtain ⟨h1, vs, h2, h3⟩ := h
  exact ⟨_, h2⟩
/-- slot i of σ, ρ is an own object at a -/
def OwnI (σ : St) (ρ : Rho) (i : Nat) (a : Addr) : Prop := ∃ s c, ρ[i]? = some s ∧ s.oc = some c ∧ σ[i]? = some (some (.ref a))
def Own (σ : St) (ρ : Rho) (a : Addr) : Prop := ∃ i, OwnI σ ρ i a

def OwW (σ : St) (ρ : Rho) (a : Addr) : Prop := ∃ (i : Nat) (c : OC), ρ[i]? = some (.ow c) ∧ σ[i]? = some (some (.ref a))

structure SR (Θ : Tb) (K : Frag) (σ : St) (ρ : Rho) (B H : Hp) : Prop where
  ex : Evl.Ex B H
  sh : ∀ (i : Nat) (d : D), ρ[i]? = some (.sh d) → ∃ v, σ[i]? = some (some v) ∧ Rp K B v d
  ow : ∀ (i : Nat) (s : Sl) (c : OC), ρ[i]? = some s → s.oc = some c → ∃ a, σ[i]? = some (some (.ref a)) ∧ B a = none ∧ OwAt K B H a c
  ap : ∀ (i j : Nat) (a : Addr), OwnI σ ρ i a → OwnI σ ρ j a → i = j
  len : σ.length = ρ.length
  tb : LamX.Tabs Θ.T H
  nt : ∀ (a : Addr) (o : HO), B a = some o → NT o
  er : ∀ (i : Nat) (c : Str) (fs : List (Str × D)), ρ[i]? = some (.er c fs) → ∃ a C d, Θ.E = some (a, C, d) ∧ σ[i]? = some (some (.ref a)) ∧ ExAt K B H C d c fs

/-- what holds an exception's dict is no own object -/
theorem SR.notXd {Θ : Tb} {K : Frag} {σ : St} {ρ : Rho} {B H : Hp} {d : Addr} {xs : List (Str × V)} (r : SR Θ K σ ρ B H) (h : H d = some (.xd xs)) : ¬ Own σ ρ d := by
  rintro ⟨i, s, c, h1, h2, h3⟩
  obtain ⟨a, q1, _, q3⟩ := r.ow i s c h1 h2
  rw [h3] at q1
  cases q1
  cases c with
  | lst ds => obtain ⟨vs, z, _⟩ := q3; rw [h] at z; cases z
  | dK kvs => obtain ⟨vs, z, _⟩ := q3; rw [h] at z; cases z
  | dT kvs => obtain ⟨vs, z, _⟩ := q3; rw [h] at z; cases z
  | ins nm fs => obtain ⟨C, dx, kv, z, _⟩ := q3; rw [h] at z; cases z
structure Step (σ : St) (ρ : Rho) (B H : Hp) (σ' : St) (ρ' : Rho) (B' H' : Hp) : Prop where
  ex : Evl.Ex B B'
  keep : ∀ (a : Addr) (o : HO), NT o → H a = some o → ¬ Own σ ρ a → H' a = some o
  dom : ∀ (a : Addr), H' a = none → H a = none
  own : ∀ (a : Addr), Own σ' ρ' a → Own σ ρ a ∨ H a = none
  new : ∀ (a : Addr), B' a ≠ none → B a ≠ none ∨ H a = none ∨ Own σ ρ a
  io : ∀ (i : Nat) (c : OC), ρ[i]? = some (.io c) → σ'[i]? = σ[i]? ∧ ∃ c', ρ'[i]? = some (.io c')
  ow : ∀ (a : Addr), OwW σ' ρ' a → OwW σ ρ a ∨ H a = none

theorem Step.refl {σ : St} {ρ : Rho} {B H : Hp} : Step σ ρ B H σ ρ B H :=
  ⟨Evl.Ex.refl _, fun _ _ _ h _ => h, fun _ h => h, fun _ h => .inl h, fun _ h => .inl h, fun _ c h => ⟨rfl, c, h⟩, fun _ h => .inl h⟩
theorem Step.trans {σ σ1 σ2 : St} {ρ ρ1 ρ2 : Rho} {B B1 B2 H H1 H2 : Hp} (a : Step σ ρ B H σ1 ρ1 B1 H1) (b : Step σ1 ρ1 B1 H1 σ2 ρ2 B2 H2) : Step σ ρ B H σ2 ρ2 B2 H2 where
  ex := a.ex.trans b.ex
  keep := fun x o nt h n => b.keep x o nt (a.keep x o nt h n) fun q => by
    rcases a.own x q with z | z
    · exact n z
    · rw [h] at z; cases z
  dom := fun x h => a.dom x (b.dom x h)
  own := fun x h => by
    rcases b.own x h with z | z
    · exact a.own x z
    · exact .inr (a.dom x z)
  new := fun x h => by
    rcases b.new x h with z | z | z
    · exact a.new x z
    · exact .inr (.inl (a.dom x z))
    · rcases a.own x z with y | y
      · exact .inr (.inr y)
      · exact .inr (.inl y)
  io := fun i c h => by
    obtain ⟨e1, c1, h1⟩ := a.io i c h
    obtain ⟨e2, c2, h2⟩ := b.io i c1 h1
    exact ⟨e2.trans e1, c2, h2⟩
  ow := fun x h => by
    rcases b.ow x h with z | z
    · exact a.ow x z
    · exact .inr (a.dom x z)

/-! ### what a reading does, told by a function of data -/
abbrev ME := Rho → Option (D × Rho)
abbrev MT := Rho → Option (Bool × Rho)
def EOk (Θ : Tb) (K : Frag) (t : TE) (m : ME) : Prop := ∀ (σ : St) (ρ : Rho) (B H : Hp) (d : D) (ρ' : Rho), SR Θ K σ ρ B H → m ρ = some (d, ρ') →
  ∀ Q : VK, (∀ (v : V) (B' H' : Hp), SR Θ K σ ρ' B' H' → Step σ ρ B H σ ρ' B' H' → Rp K B' v d → Q v H') → t σ H Q
def TOk (Θ : Tb) (K : Frag) (t : TT) (m : MT) : Prop := ∀ (σ : St) (ρ : Rho) (B H : Hp) (b : Bool) (ρ' : Rho), SR Θ K σ ρ B H → m ρ = some (b, ρ') →
  ∀ Q : Bool → Hp → Prop, (∀ (B' H' : Hp), SR Θ K σ ρ' B' H' → Step σ ρ B H σ ρ' B' H' → Q b H') → t σ H Q
/-- what comes of a statement -/
inductive Out | nx (ρ : Rho) | rt (d : D) (ρ : Rho) | bk (ρ : Rho) | ct (ρ : Rho) | ro (c : OC) (ρ : Rho) | ex (c : Str) (fs : List (Str × D)) (ρ : Rho)
abbrev MS := Rho → Option Out
def Wish (Θ : Tb) (W : WX) (K : Frag) (σ : St) (ρ : Rho) (B H : Hp) (D' : Ends) : Out → Prop
  | .nx ρ' => ∀ (σ' : St) (B' H' : Hp), SR Θ K σ' ρ' B' H' → Step σ ρ B H σ' ρ' B' H' → D'.nx σ' H'
  | .rt d ρ' => ∀ (v : V) (σ' : St) (B' H' : Hp), SR Θ K σ' ρ' B' H' → Step σ ρ B H σ' ρ' B' H' → Rp K B' v d → D'.rt v H'
  | .bk ρ' => ∀ (σ' : St) (B' H' : Hp), SR Θ K σ' ρ' B' H' → Step σ ρ B H σ' ρ' B' H' → D'.bk σ' H'
  | .ct ρ' => ∀ (σ' : St) (B' H' : Hp), SR Θ K σ' ρ' B' H' → Step σ ρ B H σ' ρ' B' H' → D'.ct σ' H'
  | .ro c ρ' => ∀ (p : Addr) (σ' : St) (B' H' : Hp), SR Θ K σ' ρ' B' H' → Step σ ρ B H σ' ρ' B' H' → B' p = none → ¬ Own σ' ρ' p → (H p = none ∨ OwW σ ρ p) → OwAt K B' H' p c → D'.rt (.ref p) H'
  | .ex c fs ρ' => ∀ (C d : Addr) (σ' : St) (B' H' : Hp), SR Θ K σ' ρ' B' H' → Step σ ρ B H σ' ρ' B' H' → ExAt K B' H' C d c fs → W (.ref C) (some d) σ' H'
def SOk (Θ : Tb) (W : WX) (K : Frag) (t : TS) (m : MS) : Prop := ∀ (σ : St) (ρ : Rho) (B H : Hp) (D' : Ends) (o : Out), SR Θ K σ ρ B H → m ρ = some o → Wish Θ W K σ ρ B H D' o → t D' σ H
theorem Wish.after {K : Frag} {σ σ1 : St} {ρ ρ1 : Rho} {B B1 H H1 : Hp} {D' : Ends} {o : Out} (s : Step σ ρ B H σ1 ρ1 B1 H1) (w : Wish Θ W K σ ρ B H D' o) : Wish Θ W K σ1 ρ1 B1 H1 D' o := by
  cases o with
  | nx ρ' => exact fun σ' B' H' r st => w σ' B' H' r (s.trans st)
  | rt d ρ' => exact fun v σ' B' H' r st => w v σ' B' H' r (s.trans st)
  | bk ρ' => exact fun σ' B' H' r st => w σ' B' H' r (s.trans st)
  | ct ρ' => exact fun σ' B' H' r st => w σ' B' H' r (s.trans st)
  | ro c ρ' => exact fun p σ' B' H' r st hB hn hp ho => w p σ' B' H' r (s.trans st) hB hn (by
      rcases hp with z | z
      · exact .inl (s.dom p z)
      · exact (s.ow p z).symm) ho
  | ex c fs ρ' => exact fun C d σ' B' H' r st => w C d σ' B' H' r (s.trans st)
/-- the tables stand where another object is written -/
theorem tabs_upd {H : Hp} {p : Addr} {o : HO} (t : LamX.Tabs Θ.T H) (hp : ∀ u, H p = some u → NT u) : LamX.Tabs Θ.T (upd H p o) := fun q hq => by
  obtain ⟨ps, h1, h2⟩ := t q hq
  have ne : q.1 ≠ p := fun e => (hp _ (e ▸ h1)).1 ps rfl
  refine ⟨ps, by rw [upd_ne ne]; exact h1, h2.1, fun pos cv hc => ?_⟩
  obtain ⟨c, e1, e2⟩ := h2.2 pos cv hc
  have ne2 : c ≠ p := fun e => (hp _ (e ▸ e2)).2 _ _ rfl
  exact ⟨c, e1, by rw [upd_ne ne2]; exact e2⟩
theorem nt_upd {B : Hp} {p : Addr} {o : HO} (t : ∀ (a : Addr) (o : HO), B a = some o → NT o) (h : NT o) : ∀ (a : Addr) (u : HO), upd B p o a = some u → NT u := fun a u z => by
  by_cases e : a = p
  · subst e; rw [upd_same] at z; cases z; exact h
  · rw [upd_ne e] at z; exact t a u z

section
variable {K : Frag}
/-! ### helpers: a new object that is kept; an own object changed -/
theorem SR.add {σ : St} {ρ : Rho} {B H : Hp} {p : Addr} {o : HO} (r : SR Θ K σ ρ B H) (hp : H p = none) (ho : NT o := by constructor <;> (intros; intro z; (try unfold LamX.CodeO at z); cases z)) : SR Θ K σ ρ (upd B p o) (upd H p o) ∧ Step σ ρ B H σ ρ (upd B p o) (upd H p o) ∧ Evl.Ex B (upd B p o) := by
  have hB : B p = none := by
    cases q : B p with
    | none => rfl
    | some u => rw [r.ex p u q] at hp; cases hp
  have eB : Evl.Ex B (upd B p o) := Evl.Ex.new hB
  refine ⟨⟨fun a u h => ?_, fun i d h => ?_, fun i s c h hc => ?_, r.ap, r.len, tabs_upd r.tb (fun u z => by rw [hp] at z; cases z), nt_upd r.nt ho, fun i c fs h => ?_⟩, ⟨eB, fun a u _ h _ => ?_, fun a h => ?_, fun a h => .inl h, fun a h => ?_, fun i c h => ⟨rfl, c, h⟩, fun a h => .inl h⟩, eB⟩
  · by_cases e : a = p
    · subst e; rw [upd_same] at h ⊢; exact h
    · rw [upd_ne e] at h ⊢; exact r.ex a u h
  · obtain ⟨v, h1, h2⟩ := r.sh i d h
    exact ⟨v, h1, h2.mono eB⟩
  · obtain ⟨a, h1, h2, h3⟩ := r.ow i s c h hc
    obtain ⟨u, hu⟩ := h3.some
    have ne : a ≠ p := fun e => by rw [e, hp] at hu; cases hu
    exact ⟨a, h1, by rw [upd_ne ne]; exact h2, h3.mono eB fun o' _ ho => by rw [upd_ne ne]; exact ho⟩
  · obtain ⟨a, C, d, h1, h2, h3⟩ := r.er i c fs h
    obtain ⟨xs, hx⟩ := h3.some
    have ne : d ≠ p := fun e => by rw [e, hp] at hx; cases hx
    exact ⟨a, C, d, h1, h2, h3.mono eB fun o' _ z => by rw [upd_ne ne]; exact z⟩
  · have ne : a ≠ p := fun e => by rw [e, hp] at h; cases h
    rw [upd_ne ne]; exact h
  · by_cases e : a = p
    · subst e; exact hp
    · rw [upd_ne e] at h; exact h
  · by_cases e : a = p
    · subst e; exact .inr (.inl hp)
    · rw [upd_ne e] at h; exact .inl h
end
end DL
namespace DL
open PySem L2
variable {Θ : Tb} {W : WX}
section
variable {K : Frag}
/-! ### views: kept data, or an own object as it stands -/
def ocD : OC → D
  | .lst ds => .list ds
  | .dK kvs => .dict (kvs.map fun kv => (keyD kv.1, kv.2))
  | .dT kvs => .dict (kvs.map fun kv => (PyData.tuple (kv.1.map keyD), kv.2))
  | .ins nm fs => insD nm fs
def Vw (K : Frag) (B H : Hp) (v : V) (d : D) : Prop := Rp K B v d ∨ ∃ a c, v = .ref a ∧ OwAt K B H a c ∧ d = ocD c
theorem zip_keys {κ : Type} {f : κ → D} : ∀ {kv : List (κ × V)} {kvs : List (κ × D)}, kv.map (·.1) = kvs.map (·.1) → (kvs.map fun q => (f q.1, q.2)) = (kv.map fun q => f q.1).zip (kvs.map (·.2))
  | [], [], _ => rfl
  | [], _ :: _, h => by simp at h
  | _ :: _, [], h => by simp at h
  | a :: r, b :: s, h => by
    simp only [List.map_cons, List.cons.injEq] at h
    simp only [List.map_cons, List.zip_cons_cons, h.1]
    rw [zip_keys h.2]
/-- an own object kept as it stands from now on -/
theorem OwAt.rp {B H : Hp} {a : Addr} {c : OC} (h : OwAt K B H a c) {B' : Hp} (e : Evl.Ex B B') (hb : B' a = H a) : Rp K B' (.ref a) (ocD c) := by
  cases c with
  | lst ds => obtain ⟨vs, h1, h2⟩ := h; exact .lst (hb.trans h1) (h2.mono e)
  | dK kvs =>
    obtain ⟨kv, h1, h2, h3⟩ := h
    show Rp K B' (.ref a) (.dict (kvs.map fun kv => (keyD kv.1, kv.2)))
    rw [zip_keys h2]
    exact .dK (hb.trans h1) (h3.mono e)
  | dT kvs =>
    obtain ⟨kv, h1, h2, h3⟩ := h
    show Rp K B' (.ref a) (.dict (kvs.map fun kv => (PyData.tuple (kv.1.map keyD), kv.2)))
    rw [zip_keys (f := fun k => PyData.tuple (k.map keyD)) h2]
    exact .dT (hb.trans h1) (h3.mono e)
  | ins nm fs =>
    obtain ⟨C, dx, kv, h1, h2, h3, h4, h5⟩ := h
    show Rp K B' (.ref a) (insD nm fs)
    have hz : (kv.map (·.1)).zip (fs.map (·.2)) = fs := by rw [h4, List.zip_map', List.map_id'']; intro x; rfl
    have := Rp.ins (K := K) (B := B') (hb.trans h1) (e _ _ h2) h3 (h5.mono e)
    rw [hz] at this
    exact this

/-! ### operands: data, or the object in an own slot -/
inductive AD | val (d : D) | own (i : Nat)
def AdR (K : Frag) (σ : St) (B : Hp) (v : V) : AD → Prop
  | .val d => Rp K B v d
  | .own i => σ[i]? = some (some v)
theorem AdR.mono {σ : St} {B B' : Hp} {v : V} {x : AD} (e : Evl.Ex B B') (h : AdR K σ B v x) : AdR K σ B' v x := by
  cases x with
  | val d => exact Rp.mono e h
  | own i => exact h
/-- what an operand is worth now -/
def rsv (ρ : Rho) : AD → Option D
  | .val d => some d
  | .own i => (ρ[i]?.bind Sl.oc).map ocD
theorem rsv_vw {σ : St} {ρ : Rho} {B H : Hp} {v : V} {x : AD} {d : D} (r : SR Θ K σ ρ B H) (h : AdR K σ B v x) (e : rsv ρ x = some d) : Vw K B H v d := by
  cases x with
  | val d' => cases e; exact .inl h
  | own i =>
    have h' : σ[i]? = some (some v) := h
    simp only [rsv, Option.map_eq_some_iff, Option.bind_eq_some_iff] at e
    obtain ⟨c, ⟨s, hs, hc⟩, rfl⟩ := e
    obtain ⟨a, h1, h2, h3⟩ := r.ow i s c hs hc
    rw [h'] at h1
    cases h1
    exact .inr ⟨a, c, rfl, h3, rfl⟩
abbrev MP := Rho → Option (AD × Rho)
abbrev MAs := Rho → Option (List AD × Rho)
def POk (Θ : Tb) (K : Frag) (t : TE) (m : MP) : Prop := ∀ (σ : St) (ρ : Rho) (B H : Hp) (d : AD) (ρ' : Rho), SR Θ K σ ρ B H → m ρ = some (d, ρ') →
  ∀ Q : VK, (∀ (v : V) (B' H' : Hp), SR Θ K σ ρ' B' H' → Step σ ρ B H σ ρ' B' H' → AdR K σ B' v d → Q v H') → t σ H Q
def AdAll (K : Frag) (σ : St) (B : Hp) : List V → List AD → Prop
  | [], [] => True
  | v :: vs, x :: xs => AdR K σ B v x ∧ AdAll K σ B vs xs
  | _, _ => False
theorem AdAll.mono {σ : St} {B B' : Hp} (e : Evl.Ex B B') : ∀ {vs : List V} {xs : List AD}, AdAll K σ B vs xs → AdAll K σ B' vs xs
  | [], [], _ => trivial
  | _ :: _, _ :: _, h => ⟨AdR.mono e h.1, AdAll.mono e h.2⟩
  | [], _ :: _, h => h
  | _ :: _, [], h => h
def AsOk (Θ : Tb) (K : Frag) (t : TA) (m : MAs) : Prop := ∀ (σ : St) (ρ : Rho) (B H : Hp) (ds : List AD) (ρ' : Rho), SR Θ K σ ρ B H → m ρ = some (ds, ρ') →
  ∀ Q : List V → Hp → Prop, (∀ (vs : List V) (B' H' : Hp), SR Θ K σ ρ' B' H' → Step σ ρ B H σ ρ' B' H' → AdAll K σ B' vs ds → Q vs H') → t σ H Q

/-- a plain operand -/
def pE (m : ME) : MP := fun ρ => (m ρ).map fun x => (AD.val x.1, x.2)
/-- the object in slot i -/
def pO (i : Nat) : MP := fun ρ => (ρ[i]?.bind Sl.oc).map fun _ => (.own i, ρ)
theorem EOk.p {t : TE} {m : ME} (h : EOk Θ K t m) : POk Θ K t (pE m) := by
  intro σ ρ B H d ρ' r e Q q
  simp only [pE, Option.map_eq_some_iff] at e
  obtain ⟨⟨x, ρ1⟩, e1, e2⟩ := e
  cases e2
  exact h σ ρ B H x ρ1 r e1 Q q
theorem pok_own {i : Nat} : POk Θ K (tVar i) (pO i) := by
  intro σ ρ B H d ρ' r e Q q
  simp only [pO, Option.map_eq_some_iff, Option.bind_eq_some_iff] at e
  obtain ⟨c, ⟨s, hs, hc⟩, e⟩ := e
  cases e
  obtain ⟨a, h1, _, _⟩ := r.ow i s c hs hc
  exact ⟨_, h1, q _ B H r Step.refl h1⟩

/-! ### arguments -/
def aNil : MAs := fun ρ => some ([], ρ)
def aCons (p : MP) (r : MAs) : MAs := fun ρ => (p ρ).bind fun x => (r x.2).map fun y => (x.1 :: y.1, y.2)
theorem asok_nil : AsOk Θ K tNil aNil := by
  intro σ ρ B H ds ρ' r e Q q
  cases e
  exact q [] B H r Step.refl trivial
theorem asok_cons {ta : TE} {tr : TA} {p : MP} {m : MAs} (h1 : POk Θ K ta p) (h2 : AsOk Θ K tr m) : AsOk Θ K (tCons ta tr) (aCons p m) := by
  intro σ ρ B H ds ρ' r e Q q
  simp only [aCons, Option.bind_eq_some_iff, Option.map_eq_some_iff] at e
  obtain ⟨⟨x, ρ1⟩, e1, ⟨y, ρ2⟩, e2, e3⟩ := e
  cases e3
  refine h1 σ ρ B H x ρ1 r e1 _ fun v B1 H1 r1 s1 a1 => ?_
  refine h2 σ ρ1 B1 H1 y ρ2 r1 e2 _ fun vs B2 H2 r2 s2 a2 => ?_
  exact q _ B2 H2 r2 (s1.trans s2) ⟨a1.mono s2.ex, a2⟩
/-- all of them data -/
def vals : List AD → Option (List D)
  | [] => some []
  | .val d :: r => (vals r).map (d :: ·)
  | .own _ :: _ => none
theorem vals_rp {σ : St} {B : Hp} : ∀ {vs : List V} {xs : List AD} {ds : List D}, AdAll K σ B vs xs → vals xs = some ds → RpAll K B vs ds
  | [], [], _, _, e => by cases e; exact .nil
  | v :: vs, .val d :: xs, ds, h, e => by
    simp only [vals, Option.map_eq_some_iff] at e
    obtain ⟨es, e1, rfl⟩ := e
    exact .cons h.1 (vals_rp h.2 e1)
  | _ :: _, .own _ :: _, _, _, e => by cases e
  | [], _ :: _, _, h, _ => h.elim
  | _ :: _, [], _, h, _ => h.elim
def rsvs (ρ : Rho) : List AD → Option (List D)
  | [] => some []
  | x :: r => (rsv ρ x).bind fun d => (rsvs ρ r).map (d :: ·)
inductive VwAll (K : Frag) (B H : Hp) : List V → List D → Prop
  | nil : VwAll K B H [] []
  | cons {v : V} {vs : List V} {d : D} {ds : List D} : Vw K B H v d → VwAll K B H vs ds → VwAll K B H (v :: vs) (d :: ds)
theorem rsvs_vw {σ : St} {ρ : Rho} {B H : Hp} (r : SR Θ K σ ρ B H) : ∀ {vs : List V} {xs : List AD} {ds : List D}, AdAll K σ B vs xs → rsvs ρ xs = some ds → VwAll K B H vs ds
  | [], [], _, _, e => by cases e; exact .nil
  | v :: vs, x :: xs, ds, h, e => by
    simp only [rsvs, Option.bind_eq_some_iff, Option.map_eq_some_iff] at e
    obtain ⟨d, e1, es, e2, rfl⟩ := e
    exact .cons (rsv_vw r h.1 e1) (rsvs_vw r h.2 e2)
  | [], _ :: _, _, h, _ => h.elim
  | _ :: _, [], _, h, _ => h.elim

/-! ### variables, constants -/
def mVar (i : Nat) : ME := fun ρ => match ρ[i]? with
  | some (.sh d) => some (d, ρ)
  | _ => none
theorem eok_var {i : Nat} : EOk Θ K (tVar i) (mVar i) := by
  intro σ ρ B H d ρ' r e Q q
  unfold mVar at e
  split at e
  · rename_i d' hd
    cases e
    obtain ⟨v, h1, h2⟩ := r.sh i d hd
    exact ⟨v, h1, q v B H r Step.refl h2⟩
  · cases e
def mC (d : D) : ME := fun ρ => some (d, ρ)
theorem eok_c {v : V} {d : D} (h : ∀ B : Hp, Rp K B v d) : EOk Θ K (tC v) (mC d) := by
  intro σ ρ B H d' ρ' r e Q q
  cases e
  exact q v B H r Step.refl (h B)

/-! ### operations by values -/
def OpOk (Θ : Tb) (K : Frag) (r : R2) (f : D → D → Option D) : Prop := ∀ (σ : St) (ρ : Rho) (B H : Hp) (x y : V) (a b d : D), SR Θ K σ ρ B H → Vw K B H x a → Vw K B H y b → f a b = some d →
  ∀ Q : VK, (∀ (v : V) (B' H' : Hp), SR Θ K σ ρ B' H' → Step σ ρ B H σ ρ B' H' → Rp K B' v d → Q v H') → r x y H Q
def mOp (f : D → D → Option D) (p q : MP) : ME := fun ρ => (p ρ).bind fun x => (q x.2).bind fun y => (rsv y.2 x.1).bind fun a => (rsv y.2 y.1).bind fun b => (f a b).map fun d => (d, y.2)
theorem eok_op {r : R2} {f : D → D → Option D} {ta tb : TE} {p q : MP} (h : OpOk Θ K r f) (ha : POk Θ K ta p) (hb : POk Θ K tb q) : EOk Θ K (tOp r ta tb) (mOp f p q) := by
  intro σ ρ B H d ρ' r0 e Q k
  simp only [mOp, Option.bind_eq_some_iff, Option.map_eq_some_iff] at e
  obtain ⟨⟨x, ρ1⟩, e1, ⟨y, ρ2⟩, e2, a, e3, b, e4, d', e5, e6⟩ := e
  cases e6
  refine ha σ ρ B H x ρ1 r0 e1 _ fun v B1 H1 r1 s1 a1 => ?_
  refine hb σ ρ1 B1 H1 y _ r1 e2 _ fun u B2 H2 r2 s2 a2 => ?_
  refine h σ _ B2 H2 v u a b d r2 (rsv_vw r2 (a1.mono s2.ex) e3) (rsv_vw r2 a2 e4) e5 Q fun z B3 H3 r3 s3 rz => ?_
  exact k z B3 H3 r3 ((s1.trans s2).trans s3) rz
def UnOk (Θ : Tb) (K : Frag) (r : V → Hp → VK → Prop) (f : D → Option D) : Prop := ∀ (σ : St) (ρ : Rho) (B H : Hp) (x : V) (a d : D), SR Θ K σ ρ B H → Vw K B H x a → f a = some d →
  ∀ Q : VK, (∀ (v : V) (B' H' : Hp), SR Θ K σ ρ B' H' → Step σ ρ B H σ ρ B' H' → Rp K B' v d → Q v H') → r x H Q
def mUn (f : D → Option D) (p : MP) : ME := fun ρ => (p ρ).bind fun x => (rsv x.2 x.1).bind fun a => (f a).map fun d => (d, x.2)
theorem eok_un {r : V → Hp → VK → Prop} {f : D → Option D} {ta : TE} {p : MP} (h : UnOk Θ K r f) (ha : POk Θ K ta p) : EOk Θ K (fun σ H Q => ta σ H fun x H1 => r x H1 Q) (mUn f p) := by
  intro σ ρ B H d ρ' r0 e Q k
  simp only [mUn, Option.bind_eq_some_iff, Option.map_eq_some_iff] at e
  obtain ⟨⟨x, ρ1⟩, e1, a, e3, d', e5, e6⟩ := e
  cases e6
  refine ha σ ρ B H x ρ1 r0 e1 _ fun v B1 H1 r1 s1 a1 => ?_
  refine h σ _ B1 H1 v a d r1 (rsv_vw r1 a1 e3) e5 Q fun z B3 H3 r3 s3 rz => ?_
  exact k z B3 H3 r3 (s1.trans s3) rz
def CallOk (Θ : Tb) (K : Frag) (r : List V → Hp → VK → Prop) (f : List D → Option D) : Prop := ∀ (σ : St) (ρ : Rho) (B H : Hp) (xs : List V) (as : List D) (d : D), SR Θ K σ ρ B H → VwAll K B H xs as → f as = some d →
  ∀ Q : VK, (∀ (v : V) (B' H' : Hp), SR Θ K σ ρ B' H' → Step σ ρ B H σ ρ B' H' → Rp K B' v d → Q v H') → r xs H Q
def mCall (f : List D → Option D) (p : MAs) : ME := fun ρ => (p ρ).bind fun x => (rsvs x.2 x.1).bind fun a => (f a).map fun d => (d, x.2)
theorem eok_call {r : List V → Hp → VK → Prop} {f : List D → Option D} {ta : TA} {p : MAs} (h : CallOk Θ K r f) (ha : AsOk Θ K ta p) : EOk Θ K (fun σ H Q => ta σ H fun xs H1 => r xs H1 Q) (mCall f p) := by
  intro σ ρ B H d ρ' r0 e Q k
  simp only [mCall, Option.bind_eq_some_iff, Option.map_eq_some_iff] at e
  obtain ⟨⟨x, ρ1⟩, e1, a, e3, d', e5, e6⟩ := e
  cases e6
  refine ha σ ρ B H x ρ1 r0 e1 _ fun v B1 H1 r1 s1 a1 => ?_
  refine h σ _ B1 H1 v a d r1 (rsvs_vw r1 a1 e3) e5 Q fun z B3 H3 r3 s3 rz => ?_
  exact k z B3 H3 r3 (s1.trans s3) rz

/-! ### tests -/
def mTest (m : ME) : MT := fun ρ => match m ρ with
  | some (.bool b, ρ') => some (b, ρ')
  | _ => none
theorem tok_test {te : TE} {m : ME} (h : EOk Θ K te m) : TOk Θ K (tTest te) (mTest m) := by
  intro σ ρ B H b ρ' r e Q q
  unfold mTest at e
  split at e
  · rename_i b' ρ1 he
    cases e
    refine h σ ρ B H _ _ r he _ fun v B' H' r' s' rv => ?_
    cases rv
    exact ⟨b, rfl, q B' H' r' s'⟩
  · cases e
def mAnd (m n : MT) : MT := fun ρ => (m ρ).bind fun x => if x.1 = true then n x.2 else some (false, x.2)
def mOr (m n : MT) : MT := fun ρ => (m ρ).bind fun x => if x.1 = true then some (true, x.2) else n x.2
def mNot (m : MT) : MT := fun ρ => (m ρ).map fun x => (!x.1, x.2)
theorem tok_and {t u : TT} {m n : MT} (h1 : TOk Θ K t m) (h2 : TOk Θ K u n) : TOk Θ K (tAnd t u) (mAnd m n) := by
  intro σ ρ B H b ρ' r e Q q
  simp only [mAnd, Option.bind_eq_some_iff] at e
  obtain ⟨⟨c, ρ1⟩, e1, e2⟩ := e
  refine h1 σ ρ B H c ρ1 r e1 _ fun B1 H1 r1 s1 => ?_
  cases c with
  | true => exact h2 σ ρ1 B1 H1 b ρ' r1 e2 Q fun B2 H2 r2 s2 => q B2 H2 r2 (s1.trans s2)
  | false => cases e2; exact q B1 H1 r1 s1
theorem tok_or {t u : TT} {m n : MT} (h1 : TOk Θ K t m) (h2 : TOk Θ K u n) : TOk Θ K (tOr t u) (mOr m n) := by
  intro σ ρ B H b ρ' r e Q q
  simp only [mOr, Option.bind_eq_some_iff] at e
  obtain ⟨⟨c, ρ1⟩, e1, e2⟩ := e
  refine h1 σ ρ B H c ρ1 r e1 _ fun B1 H1 r1 s1 => ?_
  cases c with
  | false => exact h2 σ ρ1 B1 H1 b ρ' r1 e2 Q fun B2 H2 r2 s2 => q B2 H2 r2 (s1.trans s2)
  | true => cases e2; exact q B1 H1 r1 s1
theorem tok_not {t : TT} {m : MT} (h1 : TOk Θ K t m) : TOk Θ K (tNot t) (mNot m) := by
  intro σ ρ B H b ρ' r e Q q
  simp only [mNot, Option.map_eq_some_iff] at e
  obtain ⟨⟨c, ρ1⟩, e1, e2⟩ := e
  cases e2
  exact h1 σ ρ B H c ρ1 r e1 _ fun B1 H1 r1 s1 => q B1 H1 r1 s1
def mAndV (m n : ME) : ME := fun ρ => match m ρ with
  | some (.bool true, ρ') => n ρ'
  | some (.bool false, ρ') => some (.bool false, ρ')
  | _ => none
def mOrV (m n : ME) : ME := fun ρ => match m ρ with
  | some (.bool true, ρ') => some (.bool true, ρ')
  | some (.bool false, ρ') => n ρ'
  | _ => none
def mNotV (m : ME) : ME := fun ρ => match m ρ with
  | some (.bool b, ρ') => some (.bool (!b), ρ')
  | _ => none
theorem eok_andV {ta tb : TE} {m n : ME} (h1 : EOk Θ K ta m) (h2 : EOk Θ K tb n) : EOk Θ K (tAndV ta tb) (mAndV m n) := by
  intro σ ρ B H d ρ' r e Q q
  unfold mAndV at e
  split at e
  · rename_i ρ1 e1
    refine h1 σ ρ B H _ _ r e1 _ fun v B1 H1 r1 s1 rv => ?_
    cases rv
    exact ⟨true, rfl, h2 σ ρ1 B1 H1 d ρ' r1 e Q fun v B2 H2 r2 s2 rv => q v B2 H2 r2 (s1.trans s2) rv⟩
  · rename_i ρ1 e1
    cases e
    refine h1 σ ρ B H _ _ r e1 _ fun v B1 H1 r1 s1 rv => ?_
    cases rv
    exact ⟨false, rfl, q _ B1 H1 r1 s1 (.bl false)⟩
  · cases e
theorem eok_notV {ta : TE} {m : ME} (h1 : EOk Θ K ta m) : EOk Θ K (tNotV ta) (mNotV m) := by
  intro σ ρ B H d ρ' r e Q q
  unfold mNotV at e
  split at e
  · rename_i b ρ1 e1
    cases e
    refine h1 σ ρ B H _ _ r e1 _ fun v B1 H1 r1 s1 rv => ?_
    cases rv
    exact ⟨b, rfl, q _ B1 H1 r1 s1 (.bl _)⟩
  · cases e
def mIf (t : MT) (m n : ME) : ME := fun ρ => (t ρ).bind fun x => if x.1 = true then m x.2 else n x.2
theorem eok_if {t : TT} {ta tb : TE} {c : MT} {m n : ME} (hc : TOk Θ K t c) (h1 : EOk Θ K ta m) (h2 : EOk Θ K tb n) : EOk Θ K (tIf t ta tb) (mIf c m n) := by
  intro σ ρ B H d ρ' r e Q q
  simp only [mIf, Option.bind_eq_some_iff] at e
  obtain ⟨⟨c, ρ1⟩, e1, e2⟩ := e
  refine hc σ ρ B H c ρ1 r e1 _ fun B1 H1 r1 s1 => ?_
  cases c with
  | true => exact h1 σ ρ1 B1 H1 d ρ' r1 e2 Q fun v B2 H2 r2 s2 rv => q v B2 H2 r2 (s1.trans s2) rv
  | false => exact h2 σ ρ1 B1 H1 d ρ' r1 e2 Q fun v B2 H2 r2 s2 rv => q v B2 H2 r2 (s1.trans s2) rv
/-- a op1 b op2 c -/
def mChain (f g : D → D → Option D) (p q s : MP) : ME := fun ρ => (p ρ).bind fun x => (q x.2).bind fun y => (rsv y.2 x.1).bind fun a => (rsv y.2 y.1).bind fun b =>
  match f a b with
  | some (.bool true) => (s y.2).bind fun z => (rsv z.2 y.1).bind fun b => (rsv z.2 z.1).bind fun c => (g b c).map fun d => (d, z.2)
  | some (.bool false) => some (.bool false, y.2)
  | _ => none
theorem eok_chain {r r' : R2} {f g : D → D → Option D} {ta tb tc : TE} {p q s : MP} (hf : OpOk Θ K r f) (hg : OpOk Θ K r' g) (ha : POk Θ K ta p) (hb : POk Θ K tb q) (hc : POk Θ K tc s) : EOk Θ K (tChain r r' ta tb tc) (mChain f g p q s) := by
  intro σ ρ B H d ρ' r0 e Q k
  simp only [mChain, Option.bind_eq_some_iff] at e
  obtain ⟨⟨x, ρ1⟩, e1, ⟨y, ρ2⟩, e2, a, e3, b, e4, e⟩ := e
  refine ha σ ρ B H x ρ1 r0 e1 _ fun v B1 H1 r1 s1 a1 => ?_
  refine hb σ ρ1 B1 H1 y _ r1 e2 _ fun u B2 H2 r2 s2 a2 => ?_
  split at e
  · rename_i e5
    refine hf σ _ B2 H2 v u a b _ r2 (rsv_vw r2 (a1.mono s2.ex) e3) (rsv_vw r2 a2 e4) e5 _ fun z B3 H3 r3 s3 rz => ?_
    cases rz
    refine ⟨true, rfl, ?_⟩
    show tc σ H3 _
    simp only [Option.bind_eq_some_iff, Option.map_eq_some_iff] at e
    obtain ⟨⟨z, ρ3⟩, e6, b', e7, c, e8, d', e9, e10⟩ := e
    cases e10
    refine hc σ ρ2 B3 H3 z _ r3 e6 _ fun w B4 H4 r4 s4 a4 => ?_
    refine hg σ _ B4 H4 u w b' c d r4 (rsv_vw r4 ((a2.mono s3.ex).mono s4.ex) e7) (rsv_vw r4 a4 e8) e9 Q fun z B5 H5 r5 s5 rz => ?_
    exact k z B5 H5 r5 ((((s1.trans s2).trans s3).trans s4).trans s5) rz
  · rename_i e5
    cases e
    refine hf σ _ B2 H2 v u a b _ r2 (rsv_vw r2 (a1.mono s2.ex) e3) (rsv_vw r2 a2 e4) e5 _ fun z B3 H3 r3 s3 rz => ?_
    cases rz
    exact ⟨false, rfl, k _ B3 H3 r3 ((s1.trans s2).trans s3) (.bl false)⟩
  · cases e
end
end DL
set_option Elab.async false
set_option linter.all false
set_option maxRecDepth 100000
set_option maxHeartbeats 2000000
/-! DL, statements: stores, branches, loops. -/
namespace DL
open PySem L2
variable {Θ : Tb} {W : WX}
section
variable {K : Frag}
theorem get_set_sh {ρ : Rho} {i : Nat} {x : Sl} {j : Nat} {s : Sl} (h : (ρ.set i x)[j]? = some s) : (j = i ∧ s = x ∧ i < ρ.length) ∨ (j ≠ i ∧ ρ[j]? = some s) := by
  by_cases e : j = i
  · subst e
    by_cases hl : j < ρ.length
    · rw [List.getElem?_set_self hl] at h
      cases h
      exact .inl ⟨rfl, rfl, hl⟩
    · rw [List.getElem?_eq_none (by rw [List.length_set]; omega)] at h
      cases h
  · rw [List.getElem?_set_ne (Ne.symm e)] at h
    exact .inr ⟨e, h⟩
theorem set_lt {α : Type} {l : List α} {i : Nat} {x : α} (h : i < l.length) : (l.set i x)[i]? = some x := List.getElem?_set_self h
/-- slot i forgotten or given data -/
def isIo : Option Sl → Bool
  | some (.io _) => true
  | _ => false
theorem isIo_no {o : Option Sl} (h : isIo o = false) (c : OC) : o ≠ some (.io c) := by
  intro e; rw [e] at h; cases h
/-- the slot i is stored with kept data -/
theorem SR.setSh {σ : St} {ρ : Rho} {B H : Hp} {i : Nat} {v : V} {d : D} (r : SR Θ K σ ρ B H) (hi : isIo ρ[i]? = false) (h : Rp K B v d) :
    SR Θ K (σ.set i (some v)) (ρ.set i (.sh d)) B H ∧ Step σ ρ B H (σ.set i (some v)) (ρ.set i (.sh d)) B H := by
  have ownOf : ∀ j a, OwnI (σ.set i (some v)) (ρ.set i (.sh d)) j a → OwnI σ ρ j a := by
    rintro j a ⟨s, c, h1, h2, h3⟩
    rcases get_set_sh h1 with ⟨rfl, rfl, _⟩ | ⟨ne, h1⟩
    · cases h2
    · rw [List.getElem?_set_ne (Ne.symm ne)] at h3
      exact ⟨s, c, h1, h2, h3⟩
  refine ⟨⟨r.ex, fun j e hj => ?_, fun j s c hj hc => ?_, fun j k a h1 h2 => r.ap j k a (ownOf _ _ h1) (ownOf _ _ h2), by rw [List.length_set, List.length_set]; exact r.len, r.tb, r.nt, fun j c fs hj => by
      rcases get_set_sh hj with ⟨rfl, e, _⟩ | ⟨ne, hj⟩
      · cases e
      · rw [List.getElem?_set_ne (Ne.symm ne)]; exact r.er j c fs hj⟩,
    ⟨Evl.Ex.refl _, fun _ _ _ q _ => q, fun _ q => q, fun a ⟨j, q⟩ => .inl ⟨j, ownOf _ _ q⟩, fun _ q => .inl q, fun j c hj => ?_, fun a ⟨j, c, h1, h2⟩ => ?_⟩⟩
  · rcases get_set_sh hj with ⟨rfl, e1, hl⟩ | ⟨ne, hj⟩
    · cases e1
      exact ⟨v, set_lt (by rw [r.len]; exact hl), h⟩
    · rw [List.getElem?_set_ne (Ne.symm ne)]
      exact r.sh j e hj
  · rcases get_set_sh hj with ⟨rfl, rfl, hl⟩ | ⟨ne, hj⟩
    · cases hc
    · rw [List.getElem?_set_ne (Ne.symm ne)]
      exact r.ow j s c hj hc
  · have ne : j ≠ i := fun e => isIo_no hi c (e ▸ hj)
    rw [List.getElem?_set_ne (Ne.symm ne), List.getElem?_set_ne (Ne.symm ne)]
    exact ⟨rfl, c, hj⟩
  · rcases get_set_sh h1 with ⟨rfl, e, _⟩ | ⟨ne, h1⟩
    · cases e
    · rw [List.getElem?_set_ne (Ne.symm ne)] at h2
      exact .inl ⟨j, c, h1, h2⟩
/-- the slot i is stored with a new own object -/
theorem SR.setOw {σ : St} {ρ : Rho} {B H : Hp} {i : Nat} {p : Addr} {c : OC} (r : SR Θ K σ ρ B H) (hi : isIo ρ[i]? = false) (hl : i < ρ.length) (hB : B p = none) (hn : ¬ Own σ ρ p) (h : OwAt K B H p c) :
    SR Θ K (σ.set i (some (.ref p))) (ρ.set i (.ow c)) B H := by
  have ownOf : ∀ j a, OwnI (σ.set i (some (.ref p))) (ρ.set i (.ow c)) j a → (j = i ∧ a = p) ∨ (j ≠ i ∧ OwnI σ ρ j a) := by
    rintro j a ⟨s, c', h1, h2, h3⟩
    rcases get_set_sh h1 with ⟨rfl, rfl, hl'⟩ | ⟨ne, h1⟩
    · rw [set_lt (by rw [r.len]; exact hl')] at h3
      cases h3
      exact .inl ⟨rfl, rfl⟩
    · rw [List.getElem?_set_ne (Ne.symm ne)] at h3
      exact .inr ⟨ne, s, c', h1, h2, h3⟩
  refine ⟨r.ex, fun j e hj => ?_, fun j s c' hj hc => ?_, fun j k a h1 h2 => ?_, by rw [List.length_set, List.length_set]; exact r.len, r.tb, r.nt, fun j c fs hj => by
      rcases get_set_sh hj with ⟨rfl, e, _⟩ | ⟨ne, hj⟩
      · cases e
      · rw [List.getElem?_set_ne (Ne.symm ne)]; exact r.er j c fs hj⟩
  · rcases get_set_sh hj with ⟨rfl, e1, hl⟩ | ⟨ne, hj⟩
    · cases e1
    · rw [List.getElem?_set_ne (Ne.symm ne)]
      exact r.sh j e hj
  · rcases get_set_sh hj with ⟨rfl, rfl, hl⟩ | ⟨ne, hj⟩
    · cases hc
      exact ⟨p, set_lt (by rw [r.len]; exact hl), hB, h⟩
    · rw [List.getElem?_set_ne (Ne.symm ne)]
      exact r.ow j s c' hj hc
  · rcases ownOf _ _ h1 with ⟨e1, e2⟩ | ⟨n1, q1⟩
    · rcases ownOf _ _ h2 with ⟨e3, e4⟩ | ⟨n2, q2⟩
      · rw [e1, e3]
      · rw [e2] at q2; exact (hn ⟨_, q2⟩).elim
    · rcases ownOf _ _ h2 with ⟨e3, e4⟩ | ⟨n2, q2⟩
      · rw [e4] at q1; exact (hn ⟨_, q1⟩).elim
      · exact r.ap j k a q1 q2
/-- a fresh own object: as a step from a heap in which it was not -/
theorem Step.setOw {σ : St} {ρ ρ1 : Rho} {B H B1 H1 : Hp} {i : Nat} {p : Addr} {c : OC} (s : Step σ ρ B H σ ρ1 B1 H1) (len : σ.length = ρ1.length) (hi : isIo ρ1[i]? = false) (hp : H p = none) :
    Step σ ρ B H (σ.set i (some (.ref p))) (ρ1.set i (.ow c)) B1 H1 := by
  refine ⟨s.ex, s.keep, s.dom, fun a ⟨j, t, c', h1, h2, h3⟩ => ?_, s.new, fun j c' hj => ?_, fun a ⟨j, c', h1, h2⟩ => ?_⟩
  · rcases get_set_sh h1 with ⟨rfl, rfl, hl'⟩ | ⟨ne, h1⟩
    · rw [set_lt (by rw [len]; exact hl')] at h3
      cases h3
      exact .inr hp
    · rw [List.getElem?_set_ne (Ne.symm ne)] at h3
      exact s.own a ⟨j, t, c', h1, h2, h3⟩
  · obtain ⟨e, c1, h1⟩ := s.io j c' hj
    have ne : j ≠ i := fun e => isIo_no hi c1 (e ▸ h1)
    rw [List.getElem?_set_ne (Ne.symm ne), List.getElem?_set_ne (Ne.symm ne)]
    exact ⟨e, c1, h1⟩
  · rcases get_set_sh h1 with ⟨rfl, e, hl'⟩ | ⟨ne, h1⟩
    · rw [set_lt (by rw [len]; exact hl')] at h2
      cases h2
      exact .inr hp
    · rw [List.getElem?_set_ne (Ne.symm ne)] at h2
      exact s.ow a ⟨j, c', h1, h2⟩

/-! ### freezing: slot i's object is kept from now on -/
def frz (i : Nat) (ρ : Rho) : Rho := match ρ[i]? with
  | some (.ow c) => ρ.set i (.sh (ocD c))
  | _ => ρ
/-! ### new own objects -/
abbrev MF := Rho → Option (OC × Rho)
def FOk (Θ : Tb) (K : Frag) (t : TE) (m : MF) : Prop := ∀ (σ : St) (ρ : Rho) (B H : Hp) (c : OC) (ρ' : Rho), SR Θ K σ ρ B H → m ρ = some (c, ρ') →
  ∀ Q : VK, (∀ (p : Addr) (B' H' : Hp), SR Θ K σ ρ' B' H' → Step σ ρ B H σ ρ' B' H' → H p = none → B' p = none → ¬ Own σ ρ' p → OwAt K B' H' p c → Q (.ref p) H') → t σ H Q
def fE (m : MF) : ME := fun ρ => (m ρ).map fun x => (ocD x.1, x.2)
theorem SR.keepNew {σ : St} {ρ : Rho} {B H : Hp} {p : Addr} {o : HO} (r : SR Θ K σ ρ B H) (hB : B p = none) (hn : ¬ Own σ ρ p) (hp : H p = some o) (nt : NT o) : SR Θ K σ ρ (upd B p o) H ∧ Evl.Ex B (upd B p o) := by
  have eB : Evl.Ex B (upd B p o) := Evl.Ex.new hB
  refine ⟨⟨fun b u z => ?_, fun j e z => ?_, fun j s c' z hc => ?_, r.ap, r.len, r.tb, nt_upd r.nt nt, fun j c fs hj => by
      obtain ⟨a, C, d, q1, q2, q3⟩ := r.er j c fs hj; exact ⟨a, C, d, q1, q2, q3.mono eB fun _ _ z => z⟩⟩, eB⟩
  · by_cases e : b = p
    · subst e; rw [upd_same] at z; cases z; exact hp
    · rw [upd_ne e] at z; exact r.ex b u z
  · obtain ⟨v, q1, q2⟩ := r.sh j e z
    exact ⟨v, q1, q2.mono eB⟩
  · obtain ⟨b, q1, q2, q3⟩ := r.ow j s c' z hc
    have nb : b ≠ p := fun e => hn ⟨j, s, c', z, hc, e ▸ q1⟩
    exact ⟨b, q1, by rw [upd_ne nb]; exact q2, q3.mono eB fun _ _ z => z⟩
theorem Step.keepNew {σ σ' : St} {ρ ρ' : Rho} {B H B' H' : Hp} {p : Addr} {o : HO} (s : Step σ ρ B H σ' ρ' B' H') (hB : B' p = none) (hp : H p = none) : Step σ ρ B H σ' ρ' (upd B' p o) H' :=
  ⟨s.ex.trans (Evl.Ex.new hB), s.keep, s.dom, s.own, fun a z => by
    by_cases e : a = p
    · subst e; exact .inr (.inl hp)
    · rw [upd_ne e] at z; exact s.new a z, s.io, s.ow⟩
theorem FOk.e {t : TE} {m : MF} (h : FOk Θ K t m) : EOk Θ K t (fE m) := by
  intro σ ρ B H d ρ' r e Q q
  simp only [fE, Option.map_eq_some_iff] at e
  obtain ⟨⟨c, ρ1⟩, e1, e2⟩ := e
  cases e2
  refine h σ ρ B H c ρ1 r e1 Q fun p B1 H1 r1 s1 hp hB hn ho => ?_
  obtain ⟨o, hpo⟩ := ho.some
  obtain ⟨r2, eB⟩ := r1.keepNew hB hn hpo (ho.nt o hpo)
  exact q (.ref p) (upd B1 p o) H1 r2 (s1.keepNew hB hp) (ho.rp eB (by rw [upd_same]; exact hpo.symm))
theorem SR.put {σ : St} {ρ : Rho} {B H : Hp} {p : Addr} {o : HO} (r : SR Θ K σ ρ B H) (hp : H p = none) :
    SR Θ K σ ρ B (upd H p o) ∧ Step σ ρ B H σ ρ B (upd H p o) ∧ B p = none ∧ ¬ Own σ ρ p := by
  have hB : B p = none := by
    cases q : B p with
    | none => rfl
    | some u => rw [r.ex p u q] at hp; cases hp
  have hn : ¬ Own σ ρ p := by
    rintro ⟨i, s, c, h1, h2, h3⟩
    obtain ⟨a, q1, q2, q3⟩ := r.ow i s c h1 h2
    rw [h3] at q1
    cases q1
    obtain ⟨u, hu⟩ := q3.some
    rw [hp] at hu; cases hu
  have nee : ∀ (a : Addr) (u : HO), H a = some u → a ≠ p := fun a u h e => by rw [e, hp] at h; cases h
  refine ⟨⟨fun b u z => ?_, r.sh, fun j s c' z hc => ?_, r.ap, r.len, tabs_upd r.tb (fun u z => by rw [hp] at z; cases z), r.nt, fun j c fs hj => by
      obtain ⟨a, C, d, q1, q2, q3⟩ := r.er j c fs hj
      obtain ⟨xs, hx⟩ := q3.some
      exact ⟨a, C, d, q1, q2, q3.mono (Evl.Ex.refl _) fun _ _ z => by rw [upd_ne (nee d _ hx)]; exact z⟩⟩, ⟨Evl.Ex.refl _, fun a u _ z _ => ?_, fun a z => ?_, fun a z => .inl z, fun a z => .inl z, fun j c z => ⟨rfl, c, z⟩, fun a z => .inl z⟩, hB, hn⟩
  · rw [upd_ne (nee b u (r.ex b u z))]; exact r.ex b u z
  · obtain ⟨b, q1, q2, q3⟩ := r.ow j s c' z hc
    obtain ⟨u, hu⟩ := q3.some
    exact ⟨b, q1, q2, q3.mono (Evl.Ex.refl _) fun o' _ z => by rw [upd_ne (nee b u hu)]; exact z⟩
  · rw [upd_ne (nee a u z)]; exact z
  · by_cases e : a = p
    · subst e; exact hp
    · rw [upd_ne e] at z; exact z
/-- [a, b, ..] -/
def mLstF (p : MAs) : MF := fun ρ => (p ρ).bind fun x => (vals x.1).bind fun ds => if ds.length ≤ 100000 then some (.lst ds, x.2) else none
theorem fok_lst {ta : TA} {p : MAs} (h : AsOk Θ K ta p) : FOk Θ K (tLst ta) (mLstF p) := by
  intro σ ρ B H c ρ' r e Q q
  simp only [mLstF, Option.bind_eq_some_iff] at e
  obtain ⟨⟨x, ρ1⟩, e1, ds, e2, e3⟩ := e
  split at e3
  · rename_i hl
    cases e3
    refine h σ ρ B H x _ r e1 _ fun vs B1 H1 r1 s1 a1 => ?_
    have rp := vals_rp a1 e2
    refine ⟨by rw [rp.length]; exact Evl.sz_of hl, fun p hp => ?_⟩
    obtain ⟨r2, s2, hB, hn⟩ := r1.put (o := .lst vs) hp
    exact q p B1 _ r2 (s1.trans s2) (s1.dom p hp) hB hn ⟨vs, upd_same, rp⟩
  · cases e3
/-- (a, b, ..) -/
def mTup (p : MAs) : ME := fun ρ => (p ρ).bind fun x => (vals x.1).bind fun ds => if ds.length ≤ 100000 then some (.tuple ds, x.2) else none
theorem eok_tup {ta : TA} {p : MAs} (h : AsOk Θ K ta p) : EOk Θ K (tTup ta) (mTup p) := by
  intro σ ρ B H c ρ' r e Q q
  simp only [mTup, Option.bind_eq_some_iff] at e
  obtain ⟨⟨x, ρ1⟩, e1, ds, e2, e3⟩ := e
  split at e3
  · rename_i hl
    cases e3
    refine h σ ρ B H x _ r e1 _ fun vs B1 H1 r1 s1 a1 => ?_
    have rp := vals_rp a1 e2
    refine ⟨by rw [rp.length]; exact Evl.sz_of hl, fun p hp => ?_⟩
    obtain ⟨r2, s2, eB⟩ := r1.add (o := .tup vs) hp
    exact q (.ref p) _ _ r2 (s1.trans s2) (.tup upd_same (rp.mono eB))
  · cases e3
def mDKF : MF := fun ρ => some (.dK [], ρ)
theorem fok_dK : FOk Θ K tDNewK mDKF := by
  intro σ ρ B H c ρ' r e Q q
  cases e
  intro p hp
  obtain ⟨r2, s2, hB, hn⟩ := r.put (o := .dK []) hp
  exact q p B _ r2 s2 hp hB hn ⟨[], upd_same, rfl, .nil⟩
def mDTF : MF := fun ρ => some (.dT [], ρ)
/-! ### an own object is written -/
theorem SR.write {σ : St} {ρ : Rho} {B H : Hp} {i : Nat} {s : Sl} {c c' : OC} {s' : Sl} {a : Addr} {o : HO} (r : SR Θ K σ ρ B H) (hi : ρ[i]? = some s) (hs : s.oc = some c) (ha : σ[i]? = some (some (.ref a))) (h' : OwAt K B (upd H a o) a c')
    (hs' : s'.oc = some c') (hio : ∀ k, s = .io k → ∃ k', s' = .io k') (how : ∀ k, s' = .ow k → ∃ k', s = .ow k') : SR Θ K σ (ρ.set i s') B (upd H a o) ∧ Step σ ρ B H σ (ρ.set i s') B (upd H a o) := by
  obtain ⟨a', h1, h2, h3⟩ := r.ow i s c hi hs
  rw [ha] at h1
  cases h1
  have hl : i < ρ.length := (List.getElem?_eq_some_iff.mp hi).1
  have ownOf : ∀ j b, OwnI σ (ρ.set i s') j b → OwnI σ ρ j b := by
    rintro j b ⟨t, d, q1, q2, q3⟩
    rcases get_set_sh q1 with ⟨rfl, rfl, _⟩ | ⟨ne, q1⟩
    · exact ⟨s, c, hi, hs, q3⟩
    · exact ⟨t, d, q1, q2, q3⟩
  refine ⟨⟨fun b u z => ?_, fun j e hj => ?_, fun j t d hj hd => ?_, fun j k b q1 q2 => r.ap j k b (ownOf _ _ q1) (ownOf _ _ q2), by rw [List.length_set]; exact r.len, tabs_upd r.tb h3.nt, r.nt, fun j c2 fs hj => by
      rcases get_set_sh hj with ⟨rfl, e, _⟩ | ⟨ne, hj⟩
      · rw [← e] at hs'; cases hs'
      · obtain ⟨a2, C, d, q1, q2, q3⟩ := r.er j c2 fs hj
        obtain ⟨xs, hx⟩ := q3.some
        have nd : d ≠ a := fun e => r.notXd hx (e ▸ ⟨i, s, c, hi, hs, ha⟩)
        exact ⟨a2, C, d, q1, q2, q3.mono (Evl.Ex.refl _) fun _ _ z => by rw [upd_ne nd]; exact z⟩⟩,
    ⟨Evl.Ex.refl _, fun b u _ z n => ?_, fun b z => ?_, fun b ⟨j, q⟩ => .inl ⟨j, ownOf _ _ q⟩, fun b z => .inl z, fun j d hj => ?_, fun b ⟨j, d, q1, q2⟩ => ?_⟩⟩
  · have nb : b ≠ a := fun e => by rw [e, h2] at z; cases z
    rw [upd_ne nb]; exact r.ex b u z
  · rcases get_set_sh hj with ⟨rfl, e1, hl⟩ | ⟨ne, hj⟩
    · rw [← e1] at hs'; cases hs'
    · exact r.sh j e hj
  · rcases get_set_sh hj with ⟨rfl, rfl, hl⟩ | ⟨ne, hj⟩
    · rw [hs'] at hd; cases hd
      exact ⟨a, ha, h2, h'⟩
    · obtain ⟨b, q1, q2, q3⟩ := r.ow j t d hj hd
      have nb : b ≠ a := fun e => ne (r.ap j i a ⟨t, d, hj, hd, e ▸ q1⟩ ⟨s, c, hi, hs, ha⟩)
      exact ⟨b, q1, q2, q3.mono (Evl.Ex.refl _) fun o' _ z => by rw [upd_ne nb]; exact z⟩
  · have nb : b ≠ a := fun e => n (e ▸ ⟨i, s, c, hi, hs, ha⟩)
    rw [upd_ne nb]; exact z
  · have nb : b ≠ a := fun e => by rw [e, upd_same] at z; cases z
    rw [upd_ne nb] at z; exact z
  · by_cases e : j = i
    · subst e
      rw [hi] at hj
      cases hj
      obtain ⟨k', e'⟩ := hio d rfl
      exact ⟨rfl, k', by rw [set_lt hl, e']⟩
    · rw [List.getElem?_set_ne (Ne.symm e)]
      exact ⟨rfl, d, hj⟩
  · rcases get_set_sh q1 with ⟨rfl, e, _⟩ | ⟨ne, q1⟩
    · obtain ⟨k', e'⟩ := how d e.symm
      exact .inl ⟨j, k', by rw [hi, e'], q2⟩
    · exact .inl ⟨j, d, q1, q2⟩
def Sl.put (c : OC) : Sl → Sl
  | .ow _ => .ow c
  | .io _ => .io c
  | s => s
theorem put_oc {s : Sl} {c c' : OC} (h : s.oc = some c) : (s.put c').oc = some c' := by
  cases s <;> first | rfl | (cases h)
theorem put_io {s : Sl} (c : OC) (k : OC) (h : s = .io k) : ∃ k', s.put c = .io k' := by
  subst h; exact ⟨c, rfl⟩
theorem put_ow {s : Sl} (c : OC) (k : OC) (h : s.put c = .ow k) : ∃ k', s = .ow k' := by
  cases s <;> first | exact ⟨_, rfl⟩ | cases h
/-- a method (or a store) that changes the own object in slot i: by values -/
def MtOk (K : Frag) (r : V → List V → Hp → VK → Prop) (f : OC → List D → Option (D × OC)) : Prop := ∀ (B H : Hp) (a : Addr) (c c' : OC) (vs : List V) (ds : List D) (d : D), Evl.Ex B H → B a = none → OwAt K B H a c → RpAll K B vs ds → f c ds = some (d, c') →
  ∀ Q : VK, (∀ (v : V) (o : HO), OwAt K B (upd H a o) a c' → Rp K B v d → Q v (upd H a o)) → r (.ref a) vs H Q
def ocAt (ρ : Rho) (i : Nat) : Option OC := ρ[i]?.bind Sl.oc
def putAt (ρ : Rho) (i : Nat) (c : OC) : Rho := match ρ[i]? with
  | some s => ρ.set i (s.put c)
  | none => ρ
/-- a list (l) or a dict -/
def ocFits : Bool → OC → Bool
  | true, .lst _ => true
  | false, .dK _ => true
  | false, .dT _ => true
  | _, _ => false
theorem tyV_list {B H : Hp} {a : Addr} {c : OC} (h : OwAt K B H a c) (e : ocFits true c = true) : tyV K "list" (.ref a) H := by
  cases c with
  | lst ds => obtain ⟨vs, h1, _⟩ := h; exact .inl ⟨rfl, vs, SqL.of h1⟩
  | dK _ => cases e
  | dT _ => cases e
  | ins _ _ => cases e
theorem tyV_dict {B H : Hp} {a : Addr} {c : OC} (h : OwAt K B H a c) (e : ocFits false c = true) : tyV K "dict" (.ref a) H := by
  cases c with
  | lst ds => cases e
  | dK _ => obtain ⟨kv, h1, _⟩ := h; exact .inr (.inr (.inl ⟨rfl, .inl ⟨kv, h1⟩⟩))
  | dT _ => obtain ⟨kv, h1, _⟩ := h; exact .inr (.inr (.inl ⟨rfl, .inr ⟨kv, h1⟩⟩))
  | ins _ _ => cases e
/-- o.m(..) of the own object in slot i: a list (l) or a dict -/
def mMt (l : Bool) (f : OC → List D → Option (D × OC)) (i : Nat) (p : MAs) : ME := fun ρ => (ocAt ρ i).bind fun c0 => if ocFits l c0 = true then
  (p ρ).bind fun x => (vals x.1).bind fun ds => (ocAt x.2 i).bind fun c => (f c ds).map fun y => (y.1, putAt x.2 i y.2) else none
theorem ocAt_some {ρ : Rho} {i : Nat} {c : OC} (h : ocAt ρ i = some c) : ∃ s, ρ[i]? = some s ∧ s.oc = some c := Option.bind_eq_some_iff.mp h
theorem putAt_some {ρ : Rho} {i : Nat} {s : Sl} (c : OC) (h : ρ[i]? = some s) : putAt ρ i c = ρ.set i (s.put c) := by unfold putAt; rw [h]
theorem eok_mt {r : V → List V → Hp → VK → Prop} {f : OC → List D → Option (D × OC)} {T : String} {l : Bool} {i : Nat} {ta : TA} {p : MAs} (hm : MtOk K r f) (hT : (l = true ∧ T = "list") ∨ (l = false ∧ T = "dict")) (ha : AsOk Θ K ta p) :
    EOk Θ K (tBM K T r (tVar i) ta) (mMt l f i p) := by
  intro σ ρ B H d ρ' r0 e Q q
  simp only [mMt, Option.bind_eq_some_iff] at e
  obtain ⟨c0, e0, e⟩ := e
  split at e
  case isFalse => cases e
  rename_i hl
  simp only [Option.bind_eq_some_iff, Option.map_eq_some_iff] at e
  obtain ⟨⟨x, ρ1⟩, e1, ds, e2, c, e3, ⟨d', c'⟩, e4, e5⟩ := e
  cases e5
  obtain ⟨s, hs, hc⟩ := ocAt_some e0
  obtain ⟨a, q1, q2, q3⟩ := r0.ow i s c0 hs hc
  refine ⟨_, q1, ?_, ?_⟩
  · rcases hT with ⟨z, rfl⟩ | ⟨z, rfl⟩
    · exact tyV_list q3 (z ▸ hl)
    · exact tyV_dict q3 (z ▸ hl)
  refine ha σ ρ B H x ρ1 r0 e1 _ fun vs B1 H1 r1 s1 a1 => ?_
  obtain ⟨s', hs', hc'⟩ := ocAt_some e3
  obtain ⟨a', p1, p2, p3⟩ := r1.ow i s' c hs' hc'
  rw [q1] at p1
  cases p1
  refine hm B1 H1 a c c' vs ds _ r1.ex p2 p3 (vals_rp a1 e2) e4 Q fun v o ho rv => ?_
  obtain ⟨r2, s2⟩ := r1.write (s' := s'.put c') hs' hc' q1 ho (put_oc hc') (fun k z => put_io c' k z) (fun k z => put_ow c' k z)
  refine q v B1 _ ?_ ?_ rv
  · rw [putAt_some c' hs']; exact r2
  · rw [putAt_some c' hs']; exact s1.trans s2

/-! ### statements -/
def mNext : MS := fun ρ => some (.nx ρ)
theorem sok_next : SOk Θ W K tNext mNext := by
  intro σ ρ B H D' o r e w
  cases e
  exact w σ B H r Step.refl
def mSeq (m n : MS) : MS := fun ρ => (m ρ).bind fun o => match o with
  | .nx ρ' => n ρ'
  | o => some o
theorem sok_seq {t u : TS} {m n : MS} (h1 : SOk Θ W K t m) (h2 : SOk Θ W K u n) : SOk Θ W K (tSeq t u) (mSeq m n) := by
  intro σ ρ B H D' o r e w
  simp only [mSeq, Option.bind_eq_some_iff] at e
  obtain ⟨o1, e1, e2⟩ := e
  refine h1 σ ρ B H _ o1 r e1 ?_
  cases o1 with
  | nx ρ1 => exact fun σ1 B1 H1 r1 s1 => h2 σ1 ρ1 B1 H1 D' o r1 e2 (w.after s1)
  | rt d ρ1 => cases e2; exact w
  | bk ρ1 => cases e2; exact w
  | ct ρ1 => cases e2; exact w
  | ro c ρ1 => cases e2; exact w
  | ex c fs ρ1 => cases e2; exact w
def mDrop (m : ME) : MS := fun ρ => (m ρ).map fun x => .nx x.2
theorem sok_drop {te : TE} {m : ME} (h : EOk Θ K te m) : SOk Θ W K (tDrop te) (mDrop m) := by
  intro σ ρ B H D' o r e w
  simp only [mDrop, Option.map_eq_some_iff] at e
  obtain ⟨⟨d, ρ1⟩, e1, e2⟩ := e
  cases e2
  exact h σ ρ B H d ρ1 r e1 _ fun v B1 H1 r1 s1 _ => w σ B1 H1 r1 s1
def mRet (m : ME) : MS := fun ρ => (m ρ).map fun x => .rt x.1 x.2
theorem sok_ret {te : TE} {m : ME} (h : EOk Θ K te m) : SOk Θ W K (tRet te) (mRet m) := by
  intro σ ρ B H D' o r e w
  simp only [mRet, Option.map_eq_some_iff] at e
  obtain ⟨⟨d, ρ1⟩, e1, e2⟩ := e
  cases e2
  exact h σ ρ B H d ρ1 r e1 _ fun v B1 H1 r1 s1 rv => w v σ B1 H1 r1 s1 rv
/-- return of the own object in slot i: it is the caller's then -/
def mRetO (i : Nat) : MS := fun ρ => match ρ[i]? with
  | some (.ow c) => some (.ro c (ρ.set i .no))
  | _ => none
/-- return of a new object -/
def mRetF (m : MF) : MS := fun ρ => (m ρ).map fun x => .ro x.1 x.2
def mRetN : MS := fun ρ => some (.rt .none ρ)
def mIfS (c : MT) (m n : MS) : MS := fun ρ => (c ρ).bind fun x => if x.1 = true then m x.2 else n x.2
theorem sok_if {c : TT} {t u : TS} {mc : MT} {m n : MS} (hc : TOk Θ K c mc) (h1 : SOk Θ W K t m) (h2 : SOk Θ W K u n) : SOk Θ W K (tIfS c t u) (mIfS mc m n) := by
  intro σ ρ B H D' o r e w
  simp only [mIfS, Option.bind_eq_some_iff] at e
  obtain ⟨⟨b, ρ1⟩, e1, e2⟩ := e
  refine hc σ ρ B H b ρ1 r e1 _ fun B1 H1 r1 s1 => ?_
  cases b with
  | true => exact h1 σ ρ1 B1 H1 D' o r1 e2 (w.after s1)
  | false => exact h2 σ ρ1 B1 H1 D' o r1 e2 (w.after s1)

/-! ### targets -/
abbrev MG := D → Rho → Option Rho
def GOk (Θ : Tb) (K : Frag) (g : TG) (m : MG) : Prop := ∀ (σ : St) (ρ : Rho) (B H : Hp) (v : V) (d : D) (ρ' : Rho), SR Θ K σ ρ B H → Rp K B v d → m d ρ = some ρ' →
  ∀ Q : St → Hp → Prop, (∀ σ' : St, SR Θ K σ' ρ' B H → Step σ ρ B H σ' ρ' B H → Q σ' H) → g v σ H Q
def gNm (i : Nat) : MG := fun d ρ => if isIo ρ[i]? = false then some (ρ.set i (.sh d)) else none
theorem gok_name {i : Nat} : GOk Θ K (gName i) (gNm i) := by
  intro σ ρ B H v d ρ' r rv e Q q
  unfold gNm at e
  split at e
  · rename_i hi
    cases e
    obtain ⟨r1, s1⟩ := r.setSh hi rv
    exact q _ r1 s1
  · cases e
abbrev MGs := List D → Rho → Option Rho
def GsOk (Θ : Tb) (K : Frag) (g : TGs) (m : MGs) : Prop := ∀ (σ : St) (ρ : Rho) (B H : Hp) (vs : List V) (ds : List D) (ρ' : Rho), SR Θ K σ ρ B H → RpAll K B vs ds → m ds ρ = some ρ' →
  ∀ Q : St → Hp → Prop, (∀ σ' : St, SR Θ K σ' ρ' B H → Step σ ρ B H σ' ρ' B H → Q σ' H) → g vs σ H Q
def gsNil : MGs := fun ds ρ => match ds with
  | [] => some ρ
  | _ => none
def gsCons (g : MG) (r : MGs) : MGs := fun ds ρ => match ds with
  | d :: ds => (g d ρ).bind (r ds)
  | [] => none
theorem gsok_nil : GsOk Θ K gNil gsNil := by
  intro σ ρ B H vs ds ρ' r rv e Q q
  cases rv with
  | nil => cases e; exact ⟨rfl, q σ r Step.refl⟩
  | cons _ _ => cases e
theorem gsok_cons {g : TG} {u : TGs} {m : MG} {n : MGs} (h1 : GOk Θ K g m) (h2 : GsOk Θ K u n) : GsOk Θ K (gCons g u) (gsCons m n) := by
  intro σ ρ B H vs ds ρ' r rv e Q q
  cases rv with
  | nil => cases e
  | cons a b =>
    simp only [gsCons, Option.bind_eq_some_iff] at e
    obtain ⟨ρ1, e1, e2⟩ := e
    exact ⟨_, _, rfl, h1 σ ρ B H _ _ ρ1 r a e1 _ fun σ1 r1 s1 => h2 σ1 ρ1 B H _ _ ρ' r1 b e2 Q fun σ2 r2 s2 => q σ2 r2 (s1.trans s2)⟩
def gTp (n : Nat) (m : MGs) : MG := fun d ρ => match d with
  | .tuple ds => if ds.length = n then m ds ρ else none
  | _ => none
theorem gok_tup {n : Nat} {g : TGs} {m : MGs} (h : GsOk Θ K g m) : GOk Θ K (gTup K n g) (gTp n m) := by
  intro σ ρ B H v d ρ' r rv e Q q
  cases rv with
  | tup ha hr =>
    unfold gTp at e
    simp only at e
    split at e
    · rename_i hn
      exact ⟨_, _, rfl, SqT.of (r.ex _ _ ha), by rw [hr.length]; exact hn, h σ ρ B H _ _ ρ' r hr e Q q⟩
    · cases e
  | _ => cases e
/-- target = data -/
def mAsg (m : ME) (g : MG) : MS := fun ρ => (m ρ).bind fun x => (g x.1 x.2).map .nx
theorem sok_asg {te : TE} {g : TG} {m : ME} {n : MG} (h : EOk Θ K te m) (hg : GOk Θ K g n) : SOk Θ W K (tAsg te g) (mAsg m n) := by
  intro σ ρ B H D' o r e w
  simp only [mAsg, Option.bind_eq_some_iff, Option.map_eq_some_iff] at e
  obtain ⟨⟨d, ρ1⟩, e1, ρ2, e2, e3⟩ := e
  cases e3
  refine h σ ρ B H d ρ1 r e1 _ fun v B1 H1 r1 s1 rv => ?_
  exact hg σ ρ1 B1 H1 v d ρ2 r1 rv e2 _ fun σ2 r2 s2 => w σ2 B1 H1 r2 (s1.trans s2)
/-- name = a new own object -/
def mOwn (m : MF) (i : Nat) : MS := fun ρ => (m ρ).bind fun x => if isIo x.2[i]? = false ∧ i < x.2.length then some (.nx (x.2.set i (.ow x.1))) else none
theorem sok_own {te : TE} {i : Nat} {m : MF} (h : FOk Θ K te m) : SOk Θ W K (tAsg te (gName i)) (mOwn m i) := by
  intro σ ρ B H D' o r e w
  simp only [mOwn, Option.bind_eq_some_iff] at e
  obtain ⟨⟨c, ρ1⟩, e1, e2⟩ := e
  split at e2
  · rename_i hi
    cases e2
    refine h σ ρ B H c ρ1 r e1 _ fun p B1 H1 r1 s1 hp hB hn ho => ?_
    exact w _ B1 H1 (r1.setOw hi.1 hi.2 hB hn ho) (s1.setOw r1.len hi.1 hp)
  · cases e2
/-- x op= e -/
def mAug (f : D → D → Option D) (i : Nat) (m : ME) : MS := fun ρ => match ρ[i]? with
  | some (.sh a) => (m ρ).bind fun x => (f a x.1).bind fun d => if isIo x.2[i]? = false then some (.nx (x.2.set i (.sh d))) else none
  | _ => none
/-- own[i] = e -/
def mSetL (i : Nat) (ix : MP) (m : ME) : MS := fun ρ => (m ρ).bind fun x => (ocAt x.2 i).bind fun _ => (ix x.2).bind fun y => (rsv y.2 y.1).bind fun k => match ocAt y.2 i, k with
  | some (.lst ds), .int j => (ixN ds.length j).map fun n => .nx (putAt y.2 i (.lst (ds.set n x.1)))
  | _, _ => none
theorem Vw.int {B H : Hp} {v : V} {j : Int} (h : Vw K B H v (.int j)) : v = .int j := by
  rcases h with h | ⟨a, c, _, _, e⟩
  · cases h; rfl
  · cases c <;> cases e
theorem sok_setL {te ti : TE} {i : Nat} {ix : MP} {m : ME} (h : EOk Θ K te m) (hx : POk Θ K ti ix) : SOk Θ W K (tAsg te (gSub (tVar i) ti rSetL)) (mSetL i ix m) := by
  intro σ ρ B H D' o r e w
  simp only [mSetL, Option.bind_eq_some_iff] at e
  obtain ⟨⟨d, ρ1⟩, e1, c0, e0, ⟨k, ρ2⟩, e2, kd, e3, e4⟩ := e
  split at e4
  case h_2 => cases e4
  rename_i ds j ho
  simp only [Option.map_eq_some_iff] at e4
  obtain ⟨n, e5, e6⟩ := e4
  cases e6
  refine h σ ρ B H d ρ1 r e1 _ fun v B1 H1 r1 s1 rv => ?_
  obtain ⟨s0, hs0, hc0⟩ := ocAt_some e0
  obtain ⟨a, p1, _, _⟩ := r1.ow i s0 _ hs0 hc0
  refine ⟨_, p1, hx σ ρ1 B1 H1 k ρ2 r1 e2 _ fun u B2 H2 r2 s2 ru => ?_⟩
  have hu := (rsv_vw r2 ru e3).int
  subst hu
  obtain ⟨s', hs', hc'⟩ := ocAt_some ho
  obtain ⟨a', q1, q2, q3⟩ := r2.ow i s' _ hs' hc'
  rw [p1] at q1
  cases q1
  obtain ⟨xs, hxs, rxs⟩ := q3
  refine ⟨a, xs, j, n, rfl, rfl, hxs, by rw [rxs.length]; exact e5, ?_⟩
  obtain ⟨r3, s3⟩ := r2.write (c' := .lst (ds.set n d)) (s' := s'.put (.lst (ds.set n d))) (o := .lst (xs.set n v)) hs' hc' p1 ⟨_, upd_same, RpAll.set (rv.mono s2.ex) n rxs⟩ (put_oc hc') (fun k z => put_io _ k z) (fun k z => put_ow _ k z)
  rw [putAt_some _ hs'] at w
  exact w σ B2 _ r3 ((s1.trans s2).trans s3)

/-! ### dicts -/
def keyOf : D → Option Key
  | .int i => some (.inl i)
  | .str x => some (.inr x)
  | _ => none
theorem keyOf_rp {B : Hp} {v : V} {d : D} {k : Key} (h : Rp K B v d) (e : keyOf d = some k) : v = kV k := by
  cases h <;> first | (cases e; rfl) | cases e
def putD {κ : Type} [DecidableEq κ] (kvs : List (κ × D)) (k : κ) (v : D) : List (κ × D) :=
  if (kvs.any fun kv => decide (kv.1 = k)) = true then kvs.map (fun kv => if kv.1 = k then (kv.1, v) else kv) else kvs ++ [(k, v)]
theorem putD_rel {κ : Type} [DecidableEq κ] {B : Hp} {v : V} {d : D} (k : κ) (hv : Rp K B v d) {kv : List (κ × V)} {kvs : List (κ × D)} (h : kv.map (·.1) = kvs.map (·.1)) (hr : RpAll K B (kv.map (·.2)) (kvs.map (·.2))) :
    (putK kv k v).map (·.1) = (putD kvs k d).map (·.1) ∧ RpAll K B ((putK kv k v).map (·.2)) ((putD kvs k d).map (·.2)) := by
  have ha : ∀ (l : List κ), (l.any fun x => decide (x = k)) = (l.any fun x => decide (x = k)) := fun _ => rfl
  have e1 : (kv.any fun q => decide (q.1 = k)) = (kvs.any fun q => decide (q.1 = k)) := by
    have : ((kv.map (·.1)).any fun x => decide (x = k)) = ((kvs.map (·.1)).any fun x => decide (x = k)) := by rw [h]
    rw [List.any_map, List.any_map] at this
    exact this
  unfold putK putD
  rw [e1]
  split
  · clear e1 ha
    induction kv generalizing kvs with
    | nil => cases kvs with
      | nil => exact ⟨rfl, .nil⟩
      | cons _ _ => simp at h
    | cons a r ih => cases kvs with
      | nil => simp at h
      | cons b s =>
        simp only [List.map_cons, List.cons.injEq] at h
        cases hr with
        | cons h1 h2 =>
          rename_i hany
          have ih' : ∀ (s : List (κ × D)), r.map (·.1) = s.map (·.1) → RpAll K B (r.map (·.2)) (s.map (·.2)) → (List.map (fun q => q.1) (r.map fun kv => if kv.1 = k then (kv.1, v) else kv)) = (List.map (fun q => q.1) (s.map fun kv => if kv.1 = k then (kv.1, d) else kv)) ∧
              RpAll K B (List.map (fun q => q.2) (r.map fun kv => if kv.1 = k then (kv.1, v) else kv)) (List.map (fun q => q.2) (s.map fun kv => if kv.1 = k then (kv.1, d) else kv)) := by
            clear ih hany h h1 h2
            induction r with
            | nil => intro s hs _; cases s with
              | nil => exact ⟨rfl, .nil⟩
              | cons _ _ => simp at hs
            | cons a r ih => intro s hs hr; cases s with
              | nil => simp at hs
              | cons b s =>
                simp only [List.map_cons, List.cons.injEq] at hs
                cases hr with
                | cons h1 h2 =>
                  obtain ⟨i1, i2⟩ := ih s hs.2 h2
                  simp only [List.map_cons]
                  rw [i1, hs.1]
                  refine ⟨?_, .cons ?_ i2⟩
                  · split <;> simp [hs.1]
                  · split
                    · exact hv
                    · exact h1
          obtain ⟨i1, i2⟩ := ih' s h.2 h2
          simp only [List.map_cons]
          rw [i1, h.1]
          refine ⟨?_, .cons ?_ i2⟩
          · split <;> simp [h.1]
          · split
            · exact hv
            · exact h1
  · simp only [List.map_append, List.map_cons, List.map_nil, h]
    exact ⟨trivial, hr.append (.cons hv .nil)⟩
end
end DL
set_option Elab.async false
set_option linter.all false
set_option maxRecDepth 100000
set_option maxHeartbeats 2000000
/-! DL, loops, comprehensions, calls of own functions. -/
namespace DL
open PySem L2
variable {Θ : Tb} {W : WX}
section
variable {K : Frag}
theorem back_ro {σ σ1 : St} {ρ ρ1 : Rho} {B B1 H H1 : Hp} {p : Addr} (s : Step σ ρ B H σ1 ρ1 B1 H1) (hp : H1 p = none ∨ OwW σ1 ρ1 p) : H p = none ∨ OwW σ ρ p := by
  rcases hp with z | z
  · exact .inl (s.dom p z)
  · exact (s.ow p z).symm
/-! ### while -/
/-! ### what is walked: the items as data -/
/-- J walks the items ds as long as what is kept in B is kept -/
structure Walks (K : Frag) (J : It) (B : Hp) (ds : List D) : Prop where
  go : ∀ (i : Nat) (H : Hp) (d : D), Evl.Ex B H → ds[i]? = some d → J.go i H ∧ ∀ x H', J.yld i H x H' →
    (H' = H ∧ Rp K B x d) ∨ ∃ (T : Addr) (vs : List V) (es : List D), x = .ref T ∧ H T = none ∧ H' = upd H T (.tup vs) ∧ RpAll K B vs es ∧ d = .tuple es
  stop : ∀ (i : Nat) (H : Hp), Evl.Ex B H → ds.length ≤ i → J.stop i H
theorem Walks.mono {J : It} {B B' : Hp} {ds : List D} (e : Evl.Ex B B') (w : Walks K J B ds) : Walks K J B' ds :=
  ⟨fun i H d x h => by
    obtain ⟨g, y⟩ := w.go i H d (e.trans x) h
    refine ⟨g, fun v H' q => ?_⟩
    rcases y v H' q with ⟨a, b⟩ | ⟨T, vs, es, a, b, c, z, f⟩
    · exact .inl ⟨a, b.mono e⟩
    · exact .inr ⟨T, vs, es, a, b, c, z.mono e, f⟩, fun i H x h => w.stop i H (e.trans x) h⟩
abbrev MI := Rho → Option (List D × Rho)
def IOk (Θ : Tb) (K : Frag) (t : TI) (m : MI) : Prop := ∀ (σ : St) (ρ : Rho) (B H : Hp) (ds : List D) (ρ' : Rho), SR Θ K σ ρ B H → m ρ = some (ds, ρ') →
  ∀ R : It → Hp → Prop, (∀ (J : It) (B' H' : Hp), SR Θ K σ ρ' B' H' → Step σ ρ B H σ ρ' B' H' → Walks K J B' ds → R J H') → t σ H R
/-- the item of a turn, taken -/
theorem Walks.take {J : It} {B H : Hp} {ds : List D} {σ : St} {ρ : Rho} {i : Nat} {d : D} {x : V} {H' : Hp} (w : Walks K J B ds) (r : SR Θ K σ ρ B H) (hi : ds[i]? = some d) (hy : J.yld i H x H') :
    ∃ B', SR Θ K σ ρ B' H' ∧ Step σ ρ B H σ ρ B' H' ∧ Rp K B' x d := by
  rcases (w.go i H d r.ex hi).2 x H' hy with ⟨rfl, q⟩ | ⟨T, vs, es, rfl, hT, rfl, q, rfl⟩
  · exact ⟨B, r, Step.refl, q⟩
  · obtain ⟨r2, s2, eB⟩ := r.add (o := .tup vs) hT
    exact ⟨_, r2, s2, .tup upd_same (q.mono eB)⟩

/-! ### for -/
def forD (g : MG) (b : MS) : List D → MS
  | [], ρ => some (.nx ρ)
  | d :: ds, ρ => (g d ρ).bind fun ρ1 => (b ρ1).bind fun o => match o with
      | .nx ρ' => forD g b ds ρ'
      | .ct ρ' => forD g b ds ρ'
      | .bk ρ' => some (.nx ρ')
      | .rt d ρ' => some (.rt d ρ')
      | .ro c ρ' => some (.ro c ρ')
      | .ex c fs ρ' => some (.ex c fs ρ')
theorem forD_nil (g : MG) (b : MS) (ρ : Rho) : forD g b [] ρ = some (.nx ρ) := rfl
theorem forD_cons (g : MG) (b : MS) (d : D) (ds : List D) (ρ : Rho) : forD g b (d :: ds) ρ = (g d ρ).bind fun ρ1 => (b ρ1).bind fun o => match o with
      | .nx ρ' => forD g b ds ρ'
      | .ct ρ' => forD g b ds ρ'
      | .bk ρ' => some (.nx ρ')
      | .rt d ρ' => some (.rt d ρ')
      | .ro c ρ' => some (.ro c ρ')
      | .ex c fs ρ' => some (.ex c fs ρ') := rfl
def mFor (mi : MI) (g : MG) (b : MS) : MS := fun ρ => (mi ρ).bind fun x => forD g b x.1 x.2
theorem drop_of_get {α : Type} {l : List α} {i : Nat} {x : α} (h : l[i]? = some x) : l.drop i = x :: l.drop (i + 1) := by
  obtain ⟨hl, e⟩ := List.getElem?_eq_some_iff.mp h
  rw [List.drop_eq_getElem_cons hl, e]
theorem sok_for {ti : TI} {g : TG} {tb : TS} {mi : MI} {mg : MG} {b : MS} (hi : IOk Θ K ti mi) (hg : GOk Θ K g mg) (hb : SOk Θ W K tb b) : SOk Θ W K (tFor ti g tb) (mFor mi mg b) := by
  intro σ ρ B H D' o r e w
  simp only [mFor, Option.bind_eq_some_iff] at e
  obtain ⟨⟨ds, ρ1⟩, e1, e2⟩ := e
  refine hi σ ρ B H ds ρ1 r e1 _ fun J B1 H1 r1 s1 wk => ?_
  refine ⟨fun i m σ' H' => m = ds.length - i ∧ i ≤ ds.length ∧ ∃ ρ' B', SR Θ K σ' ρ' B' H' ∧ Step σ ρ B H σ' ρ' B' H' ∧ Evl.Ex B1 B' ∧ forD mg b (ds.drop i) ρ' = some o,
    ⟨_, rfl, Nat.zero_le _, ρ1, B1, r1, s1, Evl.Ex.refl _, e2⟩, ?_⟩
  rintro i m σ' H' ⟨rfl, hle, ρ', B', r', s', eB, hf⟩
  by_cases hlt : i < ds.length
  · obtain ⟨d, hd⟩ : ∃ d, ds[i]? = some d := ⟨_, List.getElem?_eq_getElem hlt⟩
    have wk' := wk.mono eB
    rw [drop_of_get hd, forD_cons] at hf
    simp only [Option.bind_eq_some_iff] at hf
    obtain ⟨ρ2, e3, o1, e4, e5⟩ := hf
    refine .inr ⟨(wk'.go i H' d r'.ex hd).1, fun σ2 H2 => i + 1 ≤ ds.length ∧ ∃ ρ2 B2, SR Θ K σ2 ρ2 B2 H2 ∧ Step σ ρ B H σ2 ρ2 B2 H2 ∧ Evl.Ex B1 B2 ∧ forD mg b (ds.drop (i + 1)) ρ2 = some o,
      fun σ2 H2 z => ⟨ds.length - (i + 1), by omega, rfl, z⟩, fun x H2 hy => ?_⟩
    obtain ⟨B2, r2, s2, rx⟩ := wk'.take r' hd hy
    refine hg σ' ρ' B2 H2 x d ρ2 r2 rx e3 _ fun σ3 r3 s3 => ?_
    refine hb σ3 ρ2 B2 H2 _ o1 r3 e4 ?_
    have st := (s'.trans s2).trans s3
    have ee := (eB.trans s2.ex).trans s3.ex
    cases o1 with
    | nx ρ4 => exact fun σ4 B4 H4 r4 s4 => ⟨hlt, ρ4, B4, r4, st.trans s4, ee.trans s4.ex, e5⟩
    | ct ρ4 => exact fun σ4 B4 H4 r4 s4 => ⟨hlt, ρ4, B4, r4, st.trans s4, ee.trans s4.ex, e5⟩
    | bk ρ4 => cases e5; exact fun σ4 B4 H4 r4 s4 => w σ4 B4 H4 r4 (st.trans s4)
    | rt d ρ4 => cases e5; exact fun v σ4 B4 H4 r4 s4 rv => w v σ4 B4 H4 r4 (st.trans s4) rv
    | ro c ρ4 => cases e5; exact fun p σ4 B4 H4 r4 s4 hB hn hp ho => w p σ4 B4 H4 r4 (st.trans s4) hB hn (back_ro st hp) ho
    | ex c fs ρ4 => cases e5; exact fun C d σ4 B4 H4 r4 s4 => w C d σ4 B4 H4 r4 (st.trans s4)
  · have hge : ds.length ≤ i := Nat.le_of_not_lt hlt
    refine .inl ⟨(wk.mono eB).stop i H' r'.ex hge, ?_⟩
    rw [List.drop_eq_nil_of_le hge, forD_nil] at hf
    cases hf
    exact w σ' B' H' r' s'

/-! ### calls of own functions -/
/-- an argument's slot in the callee -/
def toSl (ρ : Rho) : AD → Option Sl
  | .val d => some (.sh d)
  | .own i => (ocAt ρ i).map .io
def toSls (ρ : Rho) : List AD → Option (List Sl)
  | [] => some []
  | x :: r => (toSl ρ x).bind fun s => (toSls ρ r).map (s :: ·)
/-- what the callee has made of the own objects that it was handed -/
def back (ρ : Rho) : List AD → Rho → Option Rho
  | [], [] => some ρ
  | .val _ :: r, _ :: s => back ρ r s
  | .own i :: r, .io c :: s => back (putAt ρ i c) r s
  | _, _ => none
def owns : List AD → List Nat
  | [] => []
  | .val _ :: r => owns r
  | .own i :: r => i :: owns r
abbrev MFn := Rho → Option (D × Rho)
/-- a function keeps the promise that the function m of data tells -/
def SpF (Θ : Tb) (K : Frag) (m : MFn) : Sp := fun vs H Q _ => ∃ (ρ : Rho) (B : Hp) (d : D) (ρ' : Rho), SR Θ K (vs.map some) ρ B H ∧ m ρ = some (d, ρ') ∧
  ∀ (v : V) (B' H' : Hp), SR Θ K (vs.map some) ρ' B' H' → Step (vs.map some) ρ B H (vs.map some) ρ' B' H' → Rp K B' v d → Q v H'
def mFn (m : MFn) (p : MAs) : ME := fun ρ => (p ρ).bind fun x => if (owns x.1).Nodup then (toSls x.2 x.1).bind fun ss => (m ss).bind fun y => (back x.2 x.1 y.2).map fun ρ' => (y.1, ρ') else none
theorem toSls_len {ρ : Rho} : ∀ {xs : List AD} {ss : List Sl}, toSls ρ xs = some ss → ss.length = xs.length
  | [], _, e => by cases e; rfl
  | x :: r, ss, e => by
    simp only [toSls, Option.bind_eq_some_iff, Option.map_eq_some_iff] at e
    obtain ⟨s, _, t, e2, rfl⟩ := e
    rw [List.length_cons, List.length_cons, toSls_len e2]
theorem AdAll.len {σ : St} {B : Hp} : ∀ {vs : List V} {xs : List AD}, AdAll K σ B vs xs → vs.length = xs.length
  | [], [], _ => rfl
  | _ :: _, _ :: _, h => by rw [List.length_cons, List.length_cons, AdAll.len h.2]
  | [], _ :: _, h => h.elim
  | _ :: _, [], h => h.elim
theorem toSls_get {ρ : Rho} : ∀ {xs : List AD} {ss : List Sl} {j : Nat} {s : Sl}, toSls ρ xs = some ss → ss[j]? = some s → ∃ x, xs[j]? = some x ∧ toSl ρ x = some s
  | [], _, _, _, e, h => by cases e; simp at h
  | x :: r, ss, j, s, e, h => by
    simp only [toSls, Option.bind_eq_some_iff, Option.map_eq_some_iff] at e
    obtain ⟨s0, e1, t, e2, rfl⟩ := e
    cases j with
    | zero => simp at h; subst h; exact ⟨x, rfl, e1⟩
    | succ j => obtain ⟨y, h1, h2⟩ := toSls_get e2 (by simpa using h); exact ⟨y, by simpa using h1, h2⟩
theorem AdAll.get {σ : St} {B : Hp} : ∀ {vs : List V} {xs : List AD} {j : Nat} {x : AD}, AdAll K σ B vs xs → xs[j]? = some x → ∃ v, vs[j]? = some v ∧ AdR K σ B v x
  | [], [], _, _, _, h => by simp at h
  | v :: vs, y :: xs, 0, x, h, e => by simp at e; subst e; exact ⟨v, rfl, h.1⟩
  | v :: vs, y :: xs, j + 1, x, h, e => by
    obtain ⟨u, h1, h2⟩ := AdAll.get (j := j) h.2 (by simpa using e)
    exact ⟨u, by simpa using h1, h2⟩
  | [], _ :: _, _, _, h, _ => h.elim
  | _ :: _, [], _, _, h, _ => h.elim
theorem owns_ix : ∀ {xs : List AD} {j k i : Nat}, (owns xs).Nodup → xs[j]? = some (.own i) → xs[k]? = some (.own i) → j = k
  | [], _, _, _, _, h, _ => by simp at h
  | x :: r, 0, 0, _, _, _, _ => rfl
  | x :: r, j + 1, k + 1, i, nd, h1, h2 => by
    have nd' : (owns r).Nodup := by
      cases x with
      | val d => exact nd
      | own i => exact (List.nodup_cons.mp nd).2
    exact congrArg (· + 1) (owns_ix nd' (i := i) (by simpa using h1) (by simpa using h2))
  | x :: r, 0, k + 1, i, nd, h1, h2 => by
    simp at h1; subst h1
    have := (List.nodup_cons.mp nd).1
    have h2' : r[k]? = some (.own i) := by simpa using h2
    exact (this (mem_owns h2')).elim
  | x :: r, j + 1, 0, i, nd, h1, h2 => by
    simp at h2; subst h2
    have := (List.nodup_cons.mp nd).1
    have h1' : r[j]? = some (.own i) := by simpa using h1
    exact (this (mem_owns h1')).elim
where mem_owns : ∀ {xs : List AD} {j i : Nat}, xs[j]? = some (.own i) → i ∈ owns xs
  | [], _, _, h => by simp at h
  | .val _ :: r, 0, i, h => by simp at h
  | .own k :: r, 0, i, h => by simp at h; subst h; exact List.mem_cons_self
  | .val _ :: r, j + 1, i, h => mem_owns (xs := r) (j := j) (by simpa using h)
  | .own k :: r, j + 1, i, h => List.mem_cons_of_mem _ (mem_owns (xs := r) (j := j) (by simpa using h))
/-- the callee's slots at the call -/
theorem SR.enter {σ : St} {ρ : Rho} {B H : Hp} {vs : List V} {xs : List AD} {ss : List Sl} (r : SR Θ K σ ρ B H) (ha : AdAll K σ B vs xs) (nd : (owns xs).Nodup) (e : toSls ρ xs = some ss) : SR Θ K (vs.map some) ss B H := by
  have at_ : ∀ {j : Nat} {s : Sl} {c : OC}, ss[j]? = some s → s.oc = some c → ∃ i a t, xs[j]? = some (.own i) ∧ vs[j]? = some (.ref a) ∧ ρ[i]? = some t ∧ t.oc = some c ∧ σ[i]? = some (some (.ref a)) ∧ B a = none ∧ OwAt K B H a c := by
    intro j s c hj hc
    obtain ⟨x, h1, h2⟩ := toSls_get e hj
    obtain ⟨v, h3, h4⟩ := ha.get h1
    cases x with
    | val d => cases h2; cases hc
    | own i =>
      simp only [toSl, Option.map_eq_some_iff] at h2
      obtain ⟨c', h5, rfl⟩ := h2
      cases hc
      obtain ⟨t, h6, h7⟩ := ocAt_some h5
      obtain ⟨a, h8, h9, h10⟩ := r.ow i t c h6 h7
      have h4' : σ[i]? = some (some v) := h4
      rw [h8] at h4'
      cases h4'
      exact ⟨i, a, t, h1, h3, h6, h7, h8, h9, h10⟩
  refine ⟨r.ex, fun j d hj => ?_, fun j s c hj hc => ?_, fun j k a h1 h2 => ?_, by rw [List.length_map, ha.len, toSls_len e], r.tb, r.nt, fun j c fs hj => by
      obtain ⟨x, h1, h2⟩ := toSls_get e hj
      cases x with
      | val d => cases h2
      | own i => simp only [toSl, Option.map_eq_some_iff] at h2; obtain ⟨_, _, z⟩ := h2; cases z⟩
  · obtain ⟨x, h1, h2⟩ := toSls_get e hj
    obtain ⟨v, h3, h4⟩ := ha.get h1
    cases x with
    | val d' => cases h2; exact ⟨v, by rw [List.getElem?_map, h3]; rfl, h4⟩
    | own i =>
      simp only [toSl, Option.map_eq_some_iff] at h2
      obtain ⟨c', _, h⟩ := h2
      cases h
  · obtain ⟨i, a, t, h1, h2, h3, h4, h5, h6, h7⟩ := at_ hj hc
    exact ⟨a, by rw [List.getElem?_map, h2]; rfl, h6, h7⟩
  · obtain ⟨s1, c1, p1, p2, p3⟩ := h1
    obtain ⟨s2, c2, q1, q2, q3⟩ := h2
    obtain ⟨i, a1, t1, x1, x2, x3, x4, x5, _, _⟩ := at_ p1 p2
    obtain ⟨i', a2, t2, y1, y2, y3, y4, y5, _, _⟩ := at_ q1 q2
    rw [List.getElem?_map, x2] at p3
    rw [List.getElem?_map, y2] at q3
    cases p3
    cases q3
    have := r.ap i i' a ⟨t1, c1, x3, x4, x5⟩ ⟨t2, c2, y3, y4, y5⟩
    subst this
    exact owns_ix nd x1 y1
theorem putAt_len (ρ : Rho) (i : Nat) (c : OC) : (putAt ρ i c).length = ρ.length := by
  unfold putAt; split <;> simp
theorem putAt_ne {ρ : Rho} {i j : Nat} {c : OC} (h : j ≠ i) : (putAt ρ i c)[j]? = ρ[j]? := by
  unfold putAt; split
  · rw [List.getElem?_set_ne (Ne.symm h)]
  · rfl
theorem putAt_eq {ρ : Rho} {i : Nat} {c : OC} {s : Sl} (h : ρ[i]? = some s) : (putAt ρ i c)[i]? = some (s.put c) := by
  rw [putAt_some c h]
  exact set_lt (List.getElem?_eq_some_iff.mp h).1
theorem back_spec : ∀ {xs : List AD} {ss : List Sl} {ρ ρ' : Rho}, (owns xs).Nodup → back ρ xs ss = some ρ' → ρ'.length = ρ.length ∧ (∀ i, i ∉ owns xs → ρ'[i]? = ρ[i]?) ∧
    ∀ (j i : Nat), xs[j]? = some (AD.own i) → ∃ c : OC, ss[j]? = some (Sl.io c) ∧ ∀ s : Sl, ρ[i]? = some s → ρ'[i]? = some (s.put c)
  | [], [], ρ, ρ', _, h => by cases h; exact ⟨rfl, fun _ _ => rfl, fun j i h => by simp at h⟩
  | [], _ :: _, _, _, _, h => by cases h
  | .val d :: r, [], _, _, _, h => by cases h
  | .own i :: r, [], _, _, _, h => by cases h
  | .val d :: r, t :: s, ρ, ρ', nd, h => by
    have h : back ρ r s = some ρ' := h
    obtain ⟨a, b, c⟩ := back_spec (xs := r) nd h
    refine ⟨a, b, fun j i hj => ?_⟩
    cases j with
    | zero => simp at hj
    | succ j => exact c j i (by simpa using hj)
  | .own k :: r, t :: s, ρ, ρ', nd, h => by
    cases t with
    | io q =>
      have h : back (putAt ρ k q) r s = some ρ' := h
      obtain ⟨n1, n2⟩ := List.nodup_cons.mp nd
      obtain ⟨a, b, c⟩ := back_spec (xs := r) n2 h
      refine ⟨a.trans (putAt_len _ _ _), fun i hi => ?_, fun j i hj => ?_⟩
      · have h1 : i ≠ k := fun e => hi (e ▸ List.mem_cons_self)
        have h2 : i ∉ owns r := fun e => hi (List.mem_cons_of_mem _ e)
        rw [b i h2, putAt_ne h1]
      · cases j with
        | zero =>
          simp at hj; subst hj
          refine ⟨q, rfl, fun u hu => ?_⟩
          rw [b k n1]; exact putAt_eq hu
        | succ j =>
          have hj' : r[j]? = some (.own i) := by simpa using hj
          obtain ⟨c', h1, h2⟩ := c j i hj'
          have ne : i ≠ k := fun e => n1 (e ▸ owns_ix.mem_owns hj')
          exact ⟨c', by simpa using h1, fun u hu => h2 u (by rw [putAt_ne ne]; exact hu)⟩
    | no => cases h
    | sh _ => cases h
    | ow _ => cases h
    | er _ _ => cases h
theorem own_ix : ∀ {xs : List AD} {i : Nat}, i ∈ owns xs → ∃ j : Nat, xs[j]? = some (AD.own i)
  | [], _, h => by cases h
  | .val d :: r, i, h => by
    obtain ⟨j, hj⟩ := own_ix (xs := r) h
    exact ⟨j + 1, by simpa using hj⟩
  | .own k :: r, i, h => by
    rcases List.mem_cons.mp h with rfl | h
    · exact ⟨0, rfl⟩
    · obtain ⟨j, hj⟩ := own_ix (xs := r) h
      exact ⟨j + 1, by simpa using hj⟩
theorem SR.leave {σ : St} {ρ ρ' : Rho} {B H B' H' : Hp} {vs : List V} {xs : List AD} {ss ss' : List Sl} (r : SR Θ K σ ρ B H) (ha : AdAll K σ B vs xs) (nd : (owns xs).Nodup) (e : toSls ρ xs = some ss)
    (r' : SR Θ K (vs.map some) ss' B' H') (s' : Step (vs.map some) ss B H (vs.map some) ss' B' H') (hb : back ρ xs ss' = some ρ') : (SR Θ K σ ρ' B' H' ∧ Step σ ρ B H σ ρ' B' H') ∧ ∀ a, Own σ ρ' a → Own σ ρ a := by
  obtain ⟨hl, hn, ho⟩ := back_spec nd hb
  -- the callee's own objects are ours
  have ours : ∀ (j : Nat) (a : Addr), OwnI (vs.map some) ss j a → ∃ i, xs[j]? = some (.own i) ∧ OwnI σ ρ i a := by
    rintro j a ⟨s, c, h1, h2, h3⟩
    obtain ⟨x, h4, h5⟩ := toSls_get e h1
    obtain ⟨v, h6, h7⟩ := ha.get h4
    cases x with
    | val d => cases h5; cases h2
    | own i =>
      simp only [toSl, Option.map_eq_some_iff] at h5
      obtain ⟨c', h8, rfl⟩ := h5
      cases h2
      obtain ⟨t, h9, h10⟩ := ocAt_some h8
      have h7' : σ[i]? = some (some v) := h7
      rw [List.getElem?_map, h6] at h3
      cases h3
      exact ⟨i, h4, t, _, h9, h10, h7'⟩
  have inO : ∀ {j i : Nat}, xs[j]? = some (.own i) → ∃ s c, ρ[i]? = some s ∧ s.oc = some c := by
    intro j i hj
    have : ∃ s, ss[j]? = some s := ⟨_, List.getElem?_eq_getElem (by rw [toSls_len e]; exact (List.getElem?_eq_some_iff.mp hj).1)⟩
    obtain ⟨s, hs⟩ := this
    obtain ⟨x, h1, h2⟩ := toSls_get e hs
    rw [hj] at h1
    cases h1
    simp only [toSl, Option.map_eq_some_iff] at h2
    obtain ⟨c, h3, _⟩ := h2
    obtain ⟨t, h4, h5⟩ := ocAt_some h3
    exact ⟨t, c, h4, h5⟩
  have ownOf : ∀ (i : Nat) (a : Addr), OwnI σ ρ' i a → OwnI σ ρ i a := by
    rintro i a ⟨s, c, h1, h2, h3⟩
    by_cases hi : i ∈ owns xs
    · obtain ⟨j, hj⟩ := own_ix hi
      obtain ⟨t, k, h4, h5⟩ := inO hj
      exact ⟨t, k, h4, h5, h3⟩
    · rw [hn i hi] at h1
      exact ⟨s, c, h1, h2, h3⟩
  refine ⟨?_, fun a ⟨i, q⟩ => ⟨i, ownOf i a q⟩⟩
  refine ⟨⟨r'.ex, fun i d hi => ?_, fun i s c hi hc => ?_, fun i k a h1 h2 => r.ap i k a (ownOf _ _ h1) (ownOf _ _ h2), by rw [hl]; exact r.len, r'.tb, r'.nt, fun i c fs hi => by
      by_cases h : i ∈ owns xs
      · obtain ⟨j, hj⟩ := own_ix h
        obtain ⟨t, k, h4, h5⟩ := inO hj
        obtain ⟨c1, _, h6⟩ := ho j i hj
        rw [h6 t h4] at hi
        have := put_oc (c' := c1) h5
        rw [Option.some.inj hi] at this
        cases this
      · rw [hn i h] at hi
        obtain ⟨a, C, d, q1, q2, q3⟩ := r.er i c fs hi
        obtain ⟨ys, hx⟩ := q3.some
        have no : ¬ Own (vs.map some) ss d := by
          rintro ⟨j, q⟩
          obtain ⟨i', _, z⟩ := ours j d q
          exact r.notXd hx ⟨i', z⟩
        exact ⟨a, C, d, q1, q2, q3.mono s'.ex fun o nt z => s'.keep d o nt z no⟩⟩,
    ⟨s'.ex, fun a o nt h n => s'.keep a o nt h fun ⟨j, q⟩ => ?_, s'.dom, fun a ⟨i, q⟩ => .inl ⟨i, ownOf i a q⟩, fun a h => ?_, fun i c hi => ⟨rfl, ?_⟩, fun a ⟨i, c, q1, q2⟩ => ?_⟩⟩
  · by_cases h : i ∈ owns xs
    · obtain ⟨j, hj⟩ := own_ix h
      obtain ⟨t, k, h4, h5⟩ := inO hj
      obtain ⟨c, _, h6⟩ := ho j i hj
      rw [h6 t h4] at hi
      have := put_oc (c' := c) h5
      rw [Option.some.inj hi] at this
      cases this
    · rw [hn i h] at hi
      obtain ⟨v, q1, q2⟩ := r.sh i d hi
      exact ⟨v, q1, q2.mono s'.ex⟩
  · by_cases h : i ∈ owns xs
    · obtain ⟨j, hj⟩ := own_ix h
      obtain ⟨t, k, h4, h5⟩ := inO hj
      obtain ⟨c1, h7, h6⟩ := ho j i hj
      rw [h6 t h4] at hi
      have h8 := put_oc (c' := c1) h5
      rw [Option.some.inj hi, hc] at h8
      cases h8
      obtain ⟨a, p1, p2, p3⟩ := r'.ow j _ _ h7 rfl
      obtain ⟨v, h9, h10⟩ := ha.get hj
      rw [List.getElem?_map, h9] at p1
      cases p1
      exact ⟨a, h10, p2, p3⟩
    · rw [hn i h] at hi
      obtain ⟨a, p1, p2, p3⟩ := r.ow i s c hi hc
      have no : ¬ Own (vs.map some) ss a := by
        rintro ⟨j, q⟩
        obtain ⟨i', q1, q2⟩ := ours j a q
        have := r.ap i i' a ⟨s, c, hi, hc, p1⟩ q2
        subst this
        exact h (owns_ix.mem_owns q1)
      obtain ⟨u, hu⟩ := p3.some
      refine ⟨a, p1, ?_, p3.mono s'.ex fun o nt z => s'.keep a o nt z no⟩
      cases q : B' a with
      | none => rfl
      | some w =>
        rcases s'.new a (by rw [q]; simp) with z | z | z
        · exact (z p2).elim
        · rw [hu] at z; cases z
        · exact (no z).elim
  · obtain ⟨i, _, q2⟩ := ours j a q
    exact n ⟨i, q2⟩
  · rcases s'.new a h with z | z | ⟨j, z⟩
    · exact .inl z
    · exact .inr (.inl z)
    · obtain ⟨i, _, q2⟩ := ours j a z
      exact .inr (.inr ⟨i, q2⟩)
  · by_cases h : i ∈ owns xs
    · obtain ⟨j, hj⟩ := own_ix h
      obtain ⟨c1, _, h6⟩ := ho j i hj
      exact ⟨c1, h6 _ hi⟩
    · exact ⟨c, by rw [hn i h]; exact hi⟩
  · by_cases h : i ∈ owns xs
    · obtain ⟨j, hj⟩ := own_ix h
      obtain ⟨t, k, h4, h5⟩ := inO hj
      obtain ⟨c1, _, h6⟩ := ho j i hj
      rw [h6 t h4] at q1
      obtain ⟨k', e'⟩ := put_ow c1 c (Option.some.inj q1)
      exact .inl ⟨i, k', by rw [h4, e'], q2⟩
    · rw [hn i h] at q1
      exact .inl ⟨i, c, q1, q2⟩
theorem eok_fn {ta : TA} {m : MFn} {p : MAs} {E : XK} (h : AsOk Θ K ta p) : EOk Θ K (tCall (SpF Θ K m) [] E ta) (mFn m p) := by
  intro σ ρ B H d ρ' r e Q q
  simp only [mFn, Option.bind_eq_some_iff] at e
  obtain ⟨⟨x, ρ1⟩, e1, e2⟩ := e
  split at e2
  case isFalse => cases e2
  rename_i nd
  simp only [Option.bind_eq_some_iff, Option.map_eq_some_iff] at e2
  obtain ⟨ss, e3, ⟨d', ss'⟩, e4, ρ2, e5, e6⟩ := e2
  cases e6
  refine h σ ρ B H x ρ1 r e1 _ fun vs B1 H1 r1 s1 a1 => ?_
  show SpF Θ K m (vs ++ []) H1 Q E
  rw [List.append_nil]
  refine ⟨ss, B1, _, ss', r1.enter a1 nd e3, e4, fun v B2 H2 r2 s2 rv => ?_⟩
  obtain ⟨⟨r3, s3⟩, _⟩ := r1.leave a1 nd e3 r2 s2 e5
  exact q v B2 H2 r3 (s1.trans s3) rv

/-! ### a def's body -/
/-- the slots of the n parameters behind the body: data as they were, own objects as they are -/
def fin : List Sl → Rho → Option (List Sl)
  | [], _ => some []
  | .sh d :: r, _ :: ρ => (fin r ρ).map (.sh d :: ·)
  | .io _ :: r, .io c :: ρ => (fin r ρ).map (.io c :: ·)
  | _, _ => none
def runF (N : Nat) (m : MS) : MFn := fun ss => (m (ss ++ List.replicate (N - ss.length) .no)).bind fun o => match o with
  | .nx ρ => (fin ss ρ).map fun t => (.none, t)
  | .rt d ρ => (fin ss ρ).map fun t => (d, t)
  | _ => none
theorem fin_len : ∀ {ss : List Sl} {ρ : Rho} {t : List Sl}, fin ss ρ = some t → t.length = ss.length
  | [], _, _, h => by cases h; rfl
  | .sh d :: r, [], _, h => by cases h
  | .sh d :: r, a :: ρ, t, h => by
    simp only [fin, Option.map_eq_some_iff] at h
    obtain ⟨u, h1, rfl⟩ := h
    rw [List.length_cons, List.length_cons, fin_len h1]
  | .io d :: r, [], _, h => by cases h
  | .io d :: r, .io c :: ρ, t, h => by
    simp only [fin, Option.map_eq_some_iff] at h
    obtain ⟨u, h1, rfl⟩ := h
    rw [List.length_cons, List.length_cons, fin_len h1]
  | .io d :: r, .no :: ρ, t, h => by cases h
  | .io d :: r, .sh _ :: ρ, t, h => by cases h
  | .io d :: r, .ow _ :: ρ, t, h => by cases h
  | .io d :: r, .er _ _ :: ρ, t, h => by cases h
  | .er _ _ :: r, _, _, h => by cases h
  | .no :: r, _, _, h => by cases h
  | .ow _ :: r, _, _, h => by cases h
theorem fin_get : ∀ {ss : List Sl} {ρ : Rho} {t : List Sl} {j : Nat} {s : Sl}, fin ss ρ = some t → t[j]? = some s → (∃ d, s = .sh d ∧ ss[j]? = some (.sh d)) ∨ ∃ c k, s = .io c ∧ ss[j]? = some (.io k) ∧ ρ[j]? = some (.io c)
  | [], _, _, _, _, h, e => by cases h; simp at e
  | .sh d :: r, [], _, _, _, h, _ => by cases h
  | .sh d :: r, a :: ρ, t, j, s, h, e => by
    simp only [fin, Option.map_eq_some_iff] at h
    obtain ⟨u, h1, rfl⟩ := h
    cases j with
    | zero => simp at e; subst e; exact .inl ⟨d, rfl, rfl⟩
    | succ j => simpa using fin_get (j := j) h1 (by simpa using e)
  | .io d :: r, [], _, _, _, h, _ => by cases h
  | .io d :: r, .io c :: ρ, t, j, s, h, e => by
    simp only [fin, Option.map_eq_some_iff] at h
    obtain ⟨u, h1, rfl⟩ := h
    cases j with
    | zero => simp at e; subst e; exact .inr ⟨c, d, rfl, rfl, rfl⟩
    | succ j => simpa using fin_get (j := j) h1 (by simpa using e)
  | .io d :: r, .no :: ρ, t, _, _, h, _ => by cases h
  | .io d :: r, .sh _ :: ρ, t, _, _, h, _ => by cases h
  | .io d :: r, .ow _ :: ρ, t, _, _, h, _ => by cases h
  | .io d :: r, .er _ _ :: ρ, t, _, _, h, _ => by cases h
  | .er _ _ :: r, _, _, _, _, h, _ => by cases h
  | .no :: r, _, _, _, _, h, _ => by cases h
  | .ow _ :: r, _, _, _, _, h, _ => by cases h
/-- the slots at a body's start -/
theorem SR.begin {vs : List V} {ss : List Sl} {B H : Hp} {N : List Str} (r : SR Θ K (vs.map some) ss B H) : SR Θ K (L2.start N vs) (ss ++ List.replicate (N.length - ss.length) .no) B H := by
  have hl : vs.length = ss.length := by simpa using r.len
  have gs : ∀ {i : Nat} {s : Sl}, (ss ++ List.replicate (N.length - ss.length) Sl.no)[i]? = some s → s ≠ .no → ss[i]? = some s := by
    intro i s h ne
    by_cases hi : i < ss.length
    · rw [List.getElem?_append_left hi] at h; exact h
    · rw [List.getElem?_append_right (by omega)] at h
      have := List.mem_of_getElem? h
      exact (ne (List.eq_of_mem_replicate this)).elim
  have gv : ∀ {i : Nat} {x : Option V}, (vs.map some)[i]? = some x → (L2.start N vs)[i]? = some x := by
    intro i x h
    unfold L2.start
    rw [List.getElem?_append_left (by rw [List.length_map]; simpa using (List.getElem?_eq_some_iff.mp h).1)]
    exact h
  have gb : ∀ {i : Nat} {a : Addr}, i < ss.length → (L2.start N vs)[i]? = some (some (.ref a)) → (vs.map some)[i]? = some (some (.ref a)) := by
    intro i a hi h
    unfold L2.start at h
    rw [List.getElem?_append_left (by rw [List.length_map, hl]; exact hi)] at h
    exact h
  have own : ∀ i a, OwnI (L2.start N vs) (ss ++ List.replicate (N.length - ss.length) .no) i a → OwnI (vs.map some) ss i a := by
    rintro i a ⟨s, c, h1, h2, h3⟩
    have h4 := gs h1 (fun e => by rw [e] at h2; cases h2)
    exact ⟨s, c, h4, h2, gb (List.getElem?_eq_some_iff.mp h4).1 h3⟩
  refine ⟨r.ex, fun i d h => ?_, fun i s c h hc => ?_, fun i j a h1 h2 => r.ap i j a (own _ _ h1) (own _ _ h2), by unfold L2.start; simp [hl], r.tb, r.nt, fun i c fs hi => by
      obtain ⟨a, C, d, q1, q2, q3⟩ := r.er i c fs (gs hi (by simp))
      exact ⟨a, C, d, q1, gv q2, q3⟩⟩
  · obtain ⟨v, h1, h2⟩ := r.sh i d (gs h (by simp))
    exact ⟨v, gv h1, h2⟩
  · obtain ⟨a, h1, h2, h3⟩ := r.ow i s c (gs h (fun e => by rw [e] at hc; cases hc)) hc
    exact ⟨a, gv h1, h2, h3⟩
theorem SR.finish {vs : List V} {ss t : List Sl} {ρ : Rho} {B H B' H' : Hp} {N : List Str} {σ' : St} (r : SR Θ K (vs.map some) ss B H) (r' : SR Θ K σ' ρ B' H') (s' : Step (L2.start N vs) (ss ++ List.replicate (N.length - ss.length) .no) B H σ' ρ B' H') (h : fin ss ρ = some t) :
    (SR Θ K (vs.map some) t B' H' ∧ Step (vs.map some) ss B H (vs.map some) t B' H') ∧ ∀ a, Own (vs.map some) t a → Own (vs.map some) ss a := by
  have hl : vs.length = ss.length := by simpa using r.len
  have gs : ∀ {i : Nat} {s : Sl}, (ss ++ List.replicate (N.length - ss.length) Sl.no)[i]? = some s → s ≠ .no → ss[i]? = some s := by
    intro i s h ne
    by_cases hi : i < ss.length
    · rw [List.getElem?_append_left hi] at h; exact h
    · rw [List.getElem?_append_right (by omega)] at h
      have := List.mem_of_getElem? h
      exact (ne (List.eq_of_mem_replicate this)).elim
  have gb : ∀ {i : Nat} {x : Option V}, i < ss.length → (L2.start N vs)[i]? = some x → (vs.map some)[i]? = some x := by
    intro i a hi h
    unfold L2.start at h
    rw [List.getElem?_append_left (by rw [List.length_map, hl]; exact hi)] at h
    exact h
  have own : ∀ i a, OwnI (L2.start N vs) (ss ++ List.replicate (N.length - ss.length) .no) i a → OwnI (vs.map some) ss i a := by
    rintro i a ⟨s, c, h1, h2, h3⟩
    have h4 := gs h1 (fun e => by rw [e] at h2; cases h2)
    exact ⟨s, c, h4, h2, gb (List.getElem?_eq_some_iff.mp h4).1 h3⟩
  -- an io slot keeps its address
  have keepA : ∀ {i : Nat} {k : OC}, ss[i]? = some (.io k) → σ'[i]? = (vs.map some)[i]? := by
    intro i k hi
    have hlt := (List.getElem?_eq_some_iff.mp hi).1
    have e1 := (s'.io i k (by rw [List.getElem?_append_left hlt]; exact hi)).1
    rw [e1]
    unfold L2.start
    rw [List.getElem?_append_left (by rw [List.length_map, hl]; exact hlt)]
  have ownT : ∀ i a, OwnI (vs.map some) t i a → OwnI σ' ρ i a ∧ OwnI (vs.map some) ss i a := by
    rintro i a ⟨s, c, h1, h2, h3⟩
    rcases fin_get h h1 with ⟨d, rfl, _⟩ | ⟨c', k, rfl, q1, q2⟩
    · cases h2
    · exact ⟨⟨_, c', q2, rfl, by rw [keepA q1]; exact h3⟩, ⟨_, k, q1, rfl, h3⟩⟩
  refine ⟨?_, fun a ⟨i, q⟩ => ⟨i, (ownT i a q).2⟩⟩
  refine ⟨⟨r'.ex, fun i d hi => ?_, fun i s c hi hc => ?_, fun i j a h1 h2 => r.ap i j a (ownT _ _ h1).2 (ownT _ _ h2).2, by rw [fin_len h]; exact r.len, r'.tb, r'.nt, fun i c fs hi => by
      rcases fin_get h hi with ⟨d', e, q⟩ | ⟨c', k, e, _⟩ <;> cases e⟩,
    ⟨s'.ex, fun a o nt q n => s'.keep a o nt q fun ⟨i, z⟩ => n ⟨i, own _ _ z⟩, s'.dom, fun a ⟨i, z⟩ => .inl ⟨i, (ownT _ _ z).2⟩, fun a z => ?_, fun i c hi => ⟨rfl, ?_⟩, fun a ⟨i, c, q1, q2⟩ => ?_⟩⟩
  · rcases fin_get h hi with ⟨d', e, q⟩ | ⟨c', k, e, _⟩
    · cases e
      obtain ⟨v, q1, q2⟩ := r.sh i d q
      exact ⟨v, q1, q2.mono s'.ex⟩
    · cases e
  · rcases fin_get h hi with ⟨d', e, q⟩ | ⟨c', k, e, q1, q2⟩
    · rw [e] at hc; cases hc
    · rw [e] at hc
      cases hc
      obtain ⟨a, p1, p2, p3⟩ := r'.ow i _ _ q2 rfl
      exact ⟨a, by rw [← keepA q1]; exact p1, p2, p3⟩
  · rcases s'.new a z with q | q | ⟨i, q⟩
    · exact .inl q
    · exact .inr (.inl q)
    · exact .inr (.inr ⟨i, own _ _ q⟩)
  · have hlt : i < t.length := by rw [fin_len h]; exact (List.getElem?_eq_some_iff.mp hi).1
    have hg := List.getElem?_eq_getElem hlt
    rcases fin_get h hg with ⟨d', e, q⟩ | ⟨c', k, e, q1, q2⟩
    · rw [hi] at q; cases q
    · exact ⟨c', by rw [hg, e]⟩
  · rcases fin_get h q1 with ⟨d', e, _⟩ | ⟨c', k, e, _, _⟩ <;> cases e
theorem body_ok {t : TS} {m : MS} {N : List Str} {vs : List V} {H : Hp} {Q : VK} {E : XK} (h : SOk Θ W K t m) (hs : SpF Θ K (runF N.length m) vs H Q E) : t { nx := fun _ H' => Q .non H', rt := Q } (L2.start N vs) H := by
  obtain ⟨ss, B, d, ss', r, e, q⟩ := hs
  simp only [runF, Option.bind_eq_some_iff] at e
  obtain ⟨o, e1, e2⟩ := e
  refine h _ _ B H _ o (r.begin (N := N)) e1 ?_
  cases o with
  | nx ρ =>
    simp only [Option.map_eq_some_iff] at e2
    obtain ⟨t, e3, e4⟩ := e2
    cases e4
    intro σ' B' H' r' s'
    obtain ⟨⟨r2, s2⟩, o2⟩ := r.finish r' s' e3
    exact q .non B' H' r2 s2 .non
  | rt d ρ =>
    simp only [Option.map_eq_some_iff] at e2
    obtain ⟨t, e3, e4⟩ := e2
    cases e4
    intro v σ' B' H' r' s' rv
    obtain ⟨⟨r2, s2⟩, o2⟩ := r.finish r' s' e3
    exact q v B' H' r2 s2 rv
  | bk ρ => cases e2
  | ct ρ => cases e2
  | ro c ρ => cases e2
  | ex c fs ρ => cases e2
/-! ### a def that hands back a new object -/
abbrev MFF := Rho → Option (OC × Rho)
def mFnG (m : MFF) (p : MAs) : MF := fun ρ => (p ρ).bind fun x => if (owns x.1).Nodup then (toSls x.2 x.1).bind fun ss => (m ss).bind fun y => (back x.2 x.1 y.2).map fun ρ' => (y.1, ρ') else none
def runG (N : Nat) (m : MS) : MFF := fun ss => (m (ss ++ List.replicate (N - ss.length) .no)).bind fun o => match o with
  | .ro c ρ => (fin ss ρ).map fun t => (c, t)
  | _ => none
end
end DL
set_option Elab.async false
set_option linter.all false
set_option maxRecDepth 100000
set_option maxHeartbeats 2000000
/-! DL, operations on data and their readings. -/
namespace DL
open PySem L2
variable {Θ : Tb} {W : WX}
section
variable {K : Frag}
/-! ### what a view says of the heap -/
theorem Vw.lst {B H : Hp} {v : V} {ds : List D} (e : Evl.Ex B H) (h : Vw K B H v (.list ds)) : ∃ a vs, v = .ref a ∧ H a = some (.lst vs) ∧ RpAll K B vs ds := by
  rcases h with h | ⟨a, c, rfl, h, q⟩
  · cases h with
    | lst h r => exact ⟨_, _, rfl, e _ _ h, r⟩
  · cases c with
    | lst es => cases q; obtain ⟨vs, h1, h2⟩ := h; exact ⟨a, vs, rfl, h1, h2⟩
    | dK _ => cases q
    | dT _ => cases q
    | ins _ _ => cases q
theorem Vw.tup {B H : Hp} {v : V} {ds : List D} (e : Evl.Ex B H) (h : Vw K B H v (.tuple ds)) : ∃ a vs, v = .ref a ∧ H a = some (.tup vs) ∧ RpAll K B vs ds ∧ Rp K B v (.tuple ds) := by
  rcases h with h | ⟨a, c, rfl, h, q⟩
  · cases h with
    | tup h r => exact ⟨_, _, rfl, e _ _ h, r, .tup h r⟩
  · cases c <;> cases q
theorem Vw.str {B H : Hp} {v : V} {x : Str} (h : Vw K B H v (.str x)) : v = .str x := by
  rcases h with h | ⟨a, c, rfl, h, q⟩
  · cases h; rfl
  · cases c <;> cases q
theorem Vw.bool {B H : Hp} {v : V} {b : Bool} (h : Vw K B H v (.bool b)) : v = .bl b := by
  rcases h with h | ⟨a, c, rfl, h, q⟩
  · cases h; rfl
  · cases c <;> cases q
theorem Vw.non {B H : Hp} {v : V} (h : Vw K B H v .none) : v = .non := by
  rcases h with h | ⟨a, c, rfl, h, q⟩
  · cases h; rfl
  · cases c <;> cases q
theorem Vw.lkl {B H : Hp} {v : V} {ds : List D} (e : Evl.Ex B H) (h : Vw K B H v (lkd (.list ds))) : ∃ a vs, v = .ref a ∧ SqL K H a vs ∧ RpAll K B vs ds := by
  rcases h with h | ⟨a, c, rfl, h, q⟩
  · generalize hx : lkd (.list ds) = d at h
    cases h with
    | lkl h r => cases hx; exact ⟨_, _, rfl, Evl.ex_l e h, r⟩
    | lkt h r => cases hx
    | @dK a kvs es h r =>
      exfalso
      simp only [lkd, PyData.dict.injEq] at hx
      cases kvs with
      | nil => cases hx
      | cons kv t => cases r with
        | cons _ _ => simp only [List.map_cons, List.zip_cons_cons, List.cons.injEq, Prod.mk.injEq] at hx; obtain ⟨⟨z, _⟩, _⟩ := hx; obtain ⟨k, _⟩ := kv; cases k <;> cases z
    | @dT a kvs es h r =>
      exfalso
      simp only [lkd, PyData.dict.injEq] at hx
      cases kvs with
      | nil => cases hx
      | cons kv t => cases r with
        | cons _ _ => simp only [List.map_cons, List.zip_cons_cons, List.cons.injEq, Prod.mk.injEq] at hx; obtain ⟨⟨z, _⟩, _⟩ := hx; cases z
    | _ => cases hx
  · cases c with
    | lst _ => cases q
    | dK kvs =>
      exfalso
      simp only [lkd, ocD, PyData.dict.injEq] at q
      cases kvs with
      | nil => cases q
      | cons kv t => simp only [List.map_cons, List.cons.injEq, Prod.mk.injEq] at q; obtain ⟨⟨z, _⟩, _⟩ := q; obtain ⟨k, _⟩ := kv; cases k <;> cases z
    | dT kvs =>
      exfalso
      simp only [lkd, ocD, PyData.dict.injEq] at q
      cases kvs with
      | nil => cases q
      | cons kv t => simp only [List.map_cons, List.cons.injEq, Prod.mk.injEq] at q; obtain ⟨⟨z, _⟩, _⟩ := q; cases z
    | ins nm fs =>
      exfalso
      simp only [lkd, ocD, insD, PyData.dict.injEq, List.cons.injEq, Prod.mk.injEq] at q
      obtain ⟨⟨_, z⟩, _⟩ := q
      cases z

/-! ### data without dicts, as the library's rules of == take them -/
mutual
theorem Rp.dp {B H : Hp} (e : Evl.Ex B H) : ∀ {v : V} {d : D}, Rp K B v d → d.canLay0 = true → Dp K H v d
  | _, _, .non, _ => .non
  | _, _, .bl b, _ => .bl b
  | _, _, .int i, _ => .int i
  | _, _, .str x, _ => .str x
  | _, _, .lst h r, c => .lst (SqL.of (e _ _ h)) (RpAll.dp e r (by simpa only [PyData.canLay0] using c))
  | _, _, .tup h r, c => .tup (SqT.of (e _ _ h)) (RpAll.dp e r (by simpa only [PyData.canLay0] using c))
  | _, _, .dK h r, c => by simp only [PyData.canLay0] at c; cases c
  | _, _, .dT h r, c => by simp only [PyData.canLay0] at c; cases c
  | _, _, .lkl h r, c => by simp only [lkd, PyData.canLay0] at c; cases c
  | _, _, .lkt h r, c => by simp only [lkd, PyData.canLay0] at c; cases c
  | _, _, .ins h h2 h3 r, c => by simp only [insD, PyData.canLay0] at c; cases c
theorem RpAll.dp {B H : Hp} (e : Evl.Ex B H) : ∀ {vs : List V} {ds : List D}, RpAll K B vs ds → PyData.canLayAll0 ds = true → DpAll K H vs ds
  | _, _, .nil, _ => .nil
  | _, d :: ds, .cons h r, c => by
    have c' : PyData.canLay0 d = true ∧ PyData.canLayAll0 ds = true := by simpa only [PyData.canLayAll0, Bool.and_eq_true] using c
    exact .cons (Rp.dp e h c'.1) (RpAll.dp e r c'.2)
end
theorem Vw.dp {B H : Hp} {v : V} {d : D} (e : Evl.Ex B H) (h : Vw K B H v d) (c : d.canLay0 = true) : Dp K H v d := by
  rcases h with h | ⟨a, o, rfl, h, rfl⟩
  · exact h.dp e c
  · cases o with
    | lst es => obtain ⟨vs, h1, h2⟩ := h; exact .lst (SqL.of h1) (h2.dp e (by simpa only [ocD, PyData.canLay0] using c))
    | dK _ => simp only [ocD, PyData.canLay0] at c; cases c
    | dT _ => simp only [ocD, PyData.canLay0] at c; cases c
    | ins _ _ => simp only [ocD, insD, PyData.canLay0] at c; cases c

/-! ### results -/
theorem res_new {σ : St} {ρ : Rho} {B H : Hp} {p : Addr} {vs : List V} {ds : List D} {Q : VK} (r : SR Θ K σ ρ B H) (hp : H p = none) (rv : RpAll K B vs ds)
    (q : ∀ (v : V) (B' H' : Hp), SR Θ K σ ρ B' H' → Step σ ρ B H σ ρ B' H' → Rp K B' v (.list ds) → Q v H') : Q (.ref p) (upd H p (.lst vs)) := by
  obtain ⟨r2, s2, eB⟩ := r.add (o := .lst vs) hp
  exact q _ _ _ r2 s2 (.lst upd_same (rv.mono eB))
theorem res_newT {σ : St} {ρ : Rho} {B H : Hp} {p : Addr} {vs : List V} {ds : List D} {Q : VK} (r : SR Θ K σ ρ B H) (hp : H p = none) (rv : RpAll K B vs ds)
    (q : ∀ (v : V) (B' H' : Hp), SR Θ K σ ρ B' H' → Step σ ρ B H σ ρ B' H' → Rp K B' v (.tuple ds) → Q v H') : Q (.ref p) (upd H p (.tup vs)) := by
  obtain ⟨r2, s2, eB⟩ := r.add (o := .tup vs) hp
  exact q _ _ _ r2 s2 (.tup upd_same (rv.mono eB))

/-! ### + - * // % ** -/
def addD : D → D → Option D
  | .int i, .int j => some (.int (i + j))
  | .tuple xs, .tuple ys => if xs.length + ys.length ≤ 100000 then some (.tuple (xs ++ ys)) else none
  | .list xs, .list ys => if xs.length + ys.length ≤ 100000 then some (.list (xs ++ ys)) else none
  | .str x, .str y => if x.length + y.length ≤ 100000 then some (.str (x ++ y)) else none
  | _, _ => none
def rAddS : R2 := fun x y H Q => ∃ i j, x = .str i ∧ y = .str j ∧ i.length + j.length ≤ sizeLine ∧ Q (.str (i ++ j)) H
def rAddA (K : Frag) : R2 := fun x y H Q => rI0 (fun i j => .int (i + j)) x y H Q ∨ rCatA K x y H Q ∨ rCat x y H Q ∨ rAddS x y H Q
theorem op_addA {X : Cx} : OpR X (binaryOp .Add) (rAddA X.K) := OpR.or op_add (OpR.or op_catA (OpR.or op_cat op_add_str))
theorem opok_add : OpOk Θ K (rAddA K) addD := by
  intro σ ρ B H x y a b d r ha hb e Q q
  unfold addD at e
  split at e
  · cases e
    have h1 := ha.int
    have h2 := hb.int
    subst h1 h2
    exact .inl ⟨_, _, rfl, rfl, q _ B H r Step.refl (.int _)⟩
  · split at e
    · rename_i hl
      cases e
      obtain ⟨p, vs, rfl, h1, h2, h3⟩ := ha.tup r.ex
      obtain ⟨p', ws, rfl, h4, h5, h6⟩ := hb.tup r.ex
      refine .inr (.inl ⟨p, p', vs, ws, rfl, rfl, SqT.of h1, SqT.of h4, by rw [h2.length, h5.length]; exact Evl.sz_of hl, fun e0 => ?_, fun _ e0 => ?_, fun _ _ t ht => res_newT r ht (h2.append h5) q⟩)
      · subst e0; cases h2; exact q _ B H r Step.refl h6
      · subst e0; cases h5; rw [List.append_nil] at q; exact q _ B H r Step.refl h3
    · cases e
  · split at e
    · rename_i hl
      cases e
      obtain ⟨p, vs, rfl, h1, h2⟩ := ha.lst r.ex
      obtain ⟨p', ws, rfl, h4, h5⟩ := hb.lst r.ex
      exact .inr (.inr (.inl ⟨p, p', vs, ws, rfl, rfl, h1, h4, by rw [h2.length, h5.length]; exact Evl.sz_of hl, fun t ht => res_new r ht (h2.append h5) q⟩))
    · cases e
  · split at e
    · rename_i hl
      cases e
      have h1 := ha.str
      have h2 := hb.str
      subst h1 h2
      exact .inr (.inr (.inr ⟨_, _, rfl, rfl, Evl.sz_of hl, q _ B H r Step.refl (.str _)⟩))
    · cases e
  · cases e
def iD (f : Int → Int → Int) : D → D → Option D
  | .int i, .int j => some (.int (f i j))
  | _, _ => none
theorem opok_i0 {f : Int → Int → Int} : OpOk Θ K (rI0 fun i j => .int (f i j)) (iD f) := by
  intro σ ρ B H x y a b d r ha hb e Q q
  unfold iD at e
  split at e
  · cases e
    have h1 := ha.int
    have h2 := hb.int
    subst h1 h2
    exact ⟨_, _, rfl, rfl, q _ B H r Step.refl (.int _)⟩
  · cases e
def subD : D → D → Option D := iD fun i j => i - j
open Classical in
noncomputable def iDC (C : Int → Int → Prop) (f : Int → Int → Int) : D → D → Option D
  | .int i, .int j => if C i j then some (.int (f i j)) else none
  | _, _ => none
theorem opok_iC {C : Int → Int → Prop} {f : Int → Int → Int} : OpOk Θ K (rI C fun i j => .int (f i j)) (iDC C f) := by
  intro σ ρ B H x y a b d r ha hb e Q q
  unfold iDC at e
  split at e
  · split at e
    · rename_i hc
      cases e
      have h1 := ha.int
      have h2 := hb.int
      subst h1 h2
      exact ⟨_, _, rfl, rfl, hc, q _ B H r Step.refl (.int _)⟩
    · cases e
  · cases e
theorem iDC_of {C : Int → Int → Prop} {f : Int → Int → Int} {i j : Int} (h : C i j) : iDC C f (.int i) (.int j) = some (.int (f i j)) := if_pos h
noncomputable def fdivD : D → D → Option D := iDC CDiv fun i j => i / j
noncomputable def modD : D → D → Option D := iDC (fun _ j => 0 < j) fun i j => i % j
noncomputable def powD : D → D → Option D := iDC CPow fun i j => i ^ j.toNat
theorem fdivD_of {i j : Int} (h : 0 < j) (h2 : j < 1073741824) : fdivD (.int i) (.int j) = some (.int (i / j)) := iDC_of ⟨h, h2⟩
theorem modD_of {i j : Int} (h : 0 < j) : modD (.int i) (.int j) = some (.int (i % j)) := iDC_of h
/-- ints times ints, a list times an int -/
def rMulA : R2 := fun x y H Q => rI CMul (fun i j => .int (i * j)) x y H Q ∨ rRep x y H Q
theorem op_mulA {X : Cx} : OpR X (binaryOp .Mult) rMulA := OpR.or op_mul op_rep
open Classical in
noncomputable def mulD : D → D → Option D
  | .int i, .int j => if CMul i j then some (.int (i * j)) else none
  | .list ds, .int k => if -1000 ≤ k ∧ k ≤ 1000 ∧ ds.length ≤ 100 then some (.list (List.replicate k.toNat ds).flatten) else none
  | _, _ => none
theorem RpAll.rep {B : Hp} {vs : List V} {ds : List D} (h : RpAll K B vs ds) : ∀ k : Nat, RpAll K B (List.replicate k vs).flatten (List.replicate k ds).flatten
  | 0 => .nil
  | k + 1 => by
    rw [List.replicate_succ, List.replicate_succ, List.flatten_cons, List.flatten_cons]
    exact h.append (RpAll.rep h k)
theorem rep_len {n : Nat} {k : Int} (h1 : -1000 ≤ k) (h2 : k ≤ 1000) (h3 : n ≤ 100) : n * k.toNat ≤ sizeLine := by
  refine Evl.sz_of (Nat.le_trans (Nat.mul_le_mul h3 (show k.toNat ≤ 1000 by omega)) (by decide))
theorem opok_mul : OpOk Θ K rMulA mulD := by
  intro σ ρ B H x y a b d r ha hb e Q q
  unfold mulD at e
  split at e
  · split at e
    · rename_i hc
      cases e
      have h1 := ha.int
      have h2 := hb.int
      subst h1 h2
      exact .inl ⟨_, _, rfl, rfl, hc, q _ B H r Step.refl (.int _)⟩
    · cases e
  · split at e
    · rename_i hc
      cases e
      obtain ⟨p, vs, rfl, h1, h2⟩ := ha.lst r.ex
      have h3 := hb.int
      subst h3
      exact .inr ⟨p, _, vs, rfl, rfl, h1, by omega, by omega, by rw [h2.length]; exact rep_len hc.1 hc.2.1 hc.2.2, fun t ht => res_new r ht (h2.rep _) q⟩
    · cases e
  · cases e
/-! ### comparisons -/
def cmpD (p : Int → Int → Bool) : D → D → Option D
  | .int i, .int j => some (.bool (p i j))
  | _, _ => none
theorem opok_cmp {p : Int → Int → Bool} : OpOk Θ K (rI0 fun i j => .bl (p i j)) (cmpD p) := by
  intro σ ρ B H x y a b d r ha hb e Q q
  unfold cmpD at e
  split at e
  · cases e
    have h1 := ha.int
    have h2 := hb.int
    subst h1 h2
    exact ⟨_, _, rfl, rfl, q _ B H r Step.refl (.bl _)⟩
  · cases e
def ltD : D → D → Option D := cmpD fun i j => decide (i < j)
def leD : D → D → Option D := cmpD fun i j => decide (i ≤ j)
def gtD : D → D → Option D := cmpD fun i j => decide (j < i)
def geD : D → D → Option D := cmpD fun i j => decide (j ≤ i)
def eqD (a b : D) : Option D := if SeqAt.shaped a = true ∧ SeqAt.shaped b = true then some (.bool (PyData.eqv a b)) else none
def neD (a b : D) : Option D := if SeqAt.shaped a = true ∧ SeqAt.shaped b = true then some (.bool (!PyData.eqv a b)) else none
theorem opok_eq : OpOk Θ K (rEqD K) eqD := by
  intro σ ρ B H x y a b d r ha hb e Q q
  unfold eqD at e
  split at e
  · rename_i hs
    cases e
    exact ⟨a, b, ha.dp r.ex (SeqAt.canLay_of_shaped hs.1), hb.dp r.ex (SeqAt.canLay_of_shaped hs.2), hs.1, hs.2, q _ B H r Step.refl (.bl _)⟩
  · cases e
theorem opok_ne : OpOk Θ K (rNeD K) neD := by
  intro σ ρ B H x y a b d r ha hb e Q q
  unfold neD at e
  split at e
  · rename_i hs
    cases e
    exact ⟨a, b, ha.dp r.ex (SeqAt.canLay_of_shaped hs.1), hb.dp r.ex (SeqAt.canLay_of_shaped hs.2), hs.1, hs.2, q _ B H r Step.refl (.bl _)⟩
  · cases e
def isNone : D → Bool
  | .none => true
  | _ => false
theorem Vw.isNone {B H : Hp} {v : V} {d : D} (h : Vw K B H v d) : decide (v = .non) = isNone d := by
  rcases h with h | ⟨a, c, rfl, h, rfl⟩
  · cases h <;> rfl
  · cases c <;> rfl
def isD (a b : D) : Option D := if DL.isNone b = true then some (.bool (DL.isNone a)) else none
def isNotD (a b : D) : Option D := if DL.isNone b = true then some (.bool (!DL.isNone a)) else none
/-- in a list, in a tuple of flat things, in a text -/
def flatD : D → Bool
  | .none | .bool _ | .int _ | .str _ => true
  | _ => false
theorem Rp.flat {B : Hp} {v : V} {d : D} (h : Rp K B v d) : flatV v = flatD d := by
  cases h <;> rfl
theorem flat_eqv {B : Hp} {v u : V} {d e : D} (h : Rp K B v d) (h' : Rp K B u e) (f : flatD d = true) (f' : flatD e = true) : eqV v u = PyData.eqv d e := by
  cases h <;> cases h' <;> simp only [flatD, lkd] at f f' <;> first | (simp only [PyData.eqv]; rfl) | (cases f) | (cases f') | rfl
theorem any_eqv {B : Hp} {u : V} {e : D} (h' : Rp K B u e) (f' : flatD e = true) : ∀ {vs : List V} {ds : List D}, RpAll K B vs ds → ds.all flatD = true → (vs.any fun y => eqV y u) = ds.any fun y => PyData.eqv y e
  | _, _, .nil, _ => rfl
  | _, _, .cons a b, h => by
    simp only [List.all_cons, Bool.and_eq_true] at h
    rw [List.any_cons, List.any_cons, flat_eqv a h' h.1 f', any_eqv h' f' b h.2]
theorem all_flat {B : Hp} : ∀ {vs : List V} {ds : List D}, RpAll K B vs ds → ds.all flatD = true → vs.all flatV = true
  | _, _, .nil, _ => rfl
  | _, _, .cons a b, h => by
    simp only [List.all_cons, Bool.and_eq_true] at h ⊢
    exact ⟨by rw [a.flat]; exact h.1, all_flat b h.2⟩
def strIn (i j : Str) : Bool := !(Builtin.Str.occurrences j i 0 j.length 1).isEmpty
def inB : D → D → Option Bool
  | a, .list ds => if SeqAt.shaped a = true ∧ SeqAt.shaped (.list ds) = true then some (ds.any fun z => PyData.eqv z a) else none
  | a, .tuple ds => if flatD a = true ∧ ds.all flatD = true then some (ds.any fun z => PyData.eqv z a) else none
  | .str i, .str j => some (strIn i j)
  | _, _ => none
def inD (a b : D) : Option D := (inB a b).map .bool
def rInS (neg : Bool) : R2 := fun x y H Q => ∃ i j, x = .str i ∧ y = .str j ∧ Q (.bl (if neg then !strIn i j else strIn i j)) H
def rInA (K : Frag) : R2 := fun x y H Q => rInD K x y H Q ∨ rIn K false x y H Q ∨ rInS false x y H Q
theorem op_inA {X : Cx} (hu : X.A.units + 65 < cLine) : OpR X (compareOp .In) (rInA X.K) := OpR.or (op_inD hu) (OpR.or op_in_seq op_in_str)
theorem opok_in : OpOk Θ K (rInA K) inD := by
  intro σ ρ B H x y a b d r ha hb e Q q
  simp only [inD, Option.map_eq_some_iff] at e
  obtain ⟨k, e, rfl⟩ := e
  unfold inB at e
  split at e
  · split at e
    · rename_i hs
      cases e
      exact .inl ⟨a, _, ha.dp r.ex (SeqAt.canLay_of_shaped hs.1), hb.dp r.ex (SeqAt.canLay_of_shaped hs.2), hs.1, hs.2, q _ B H r Step.refl (.bl _)⟩
    · cases e
  · split at e
    · rename_i hs
      cases e
      obtain ⟨p, vs, rfl, h1, h2, _⟩ := hb.tup r.ex
      have ha' : Rp K B x a := by
        rcases ha with ha | ⟨a', c, rfl, h, rfl⟩
        · exact ha
        · exfalso; cases c <;> cases hs.1
      refine .inr (.inl ⟨p, vs, rfl, .inr (SqT.of h1), by rw [ha'.flat]; exact hs.1, all_flat h2 hs.2, ?_⟩)
      show Q (.bl (inV x vs)) H
      unfold inV
      rw [any_eqv ha' hs.1 h2 hs.2]
      exact q _ B H r Step.refl (.bl _)
    · cases e
  · cases e
    have h1 := ha.str
    have h2 := hb.str
    subst h1 h2
    exact .inr (.inr ⟨_, _, rfl, rfl, q _ B H r Step.refl (.bl _)⟩)
  · cases e
/-! ### places -/
theorem RpAll.atI {B : Hp} {vs : List V} {ds : List D} {i : Int} {d : D} (h : RpAll K B vs ds) (e : L2.atI ds i = some d) : ∃ v, L2.atI vs i = some v ∧ Rp K B v d := by
  unfold L2.atI at e ⊢
  rw [h.length]
  simp only [Option.bind_eq_some_iff] at e ⊢
  obtain ⟨j, e1, e2⟩ := e
  obtain ⟨v, h1, h2⟩ := h.get e2
  exact ⟨v, ⟨j, e1, h1⟩, h2⟩
def ixD : D → D → Option D
  | .list ds, .int i => L2.atI ds i
  | .tuple ds, .int i => L2.atI ds i
  | .str x, .int i => if x.length ≤ 100000 then (L2.atI x.cps.toList i).map fun c => .str ⟨#[c]⟩ else none
  | .dict [(.none, .list ds)], .int i => L2.atI ds i
  | _, _ => none
theorem opok_ix : OpOk Θ K (rIx K) ixD := by
  intro σ ρ B H x y a b d r ha hb e Q q
  unfold ixD at e
  split at e
  · obtain ⟨p, vs, rfl, h1, h2⟩ := ha.lst r.ex
    have h3 := hb.int
    subst h3
    obtain ⟨v, h4, h5⟩ := h2.atI e
    exact .inl ⟨p, vs, _, v, rfl, rfl, SqL.of h1, h4, q _ B H r Step.refl h5⟩
  · obtain ⟨p, vs, rfl, h1, h2, _⟩ := ha.tup r.ex
    have h3 := hb.int
    subst h3
    obtain ⟨v, h4, h5⟩ := h2.atI e
    exact .inr (.inl ⟨p, vs, _, v, rfl, rfl, SqT.of h1, h4, q _ B H r Step.refl h5⟩)
  · split at e
    · rename_i hl
      simp only [Option.map_eq_some_iff] at e
      obtain ⟨c, e1, rfl⟩ := e
      have h1 := ha.str
      have h3 := hb.int
      subst h1 h3
      exact .inr (.inr ⟨_, _, c, rfl, rfl, Evl.sz_of hl, e1, q _ B H r Step.refl (.str _)⟩)
    · cases e
  · rename_i ds i
    obtain ⟨p, vs, rfl, h1, h2⟩ := Vw.lkl (ds := ds) r.ex ha
    have h3 := hb.int
    subst h3
    obtain ⟨v, h4, h5⟩ := h2.atI e
    exact .inl ⟨p, vs, _, v, rfl, rfl, h1, h4, q _ B H r Step.refl h5⟩
  · cases e
end
end DL
set_option Elab.async false
set_option linter.all false
set_option maxRecDepth 100000
set_option maxHeartbeats 2000000
/-! DL, built-ins, iterators, comprehensions. -/
namespace DL
open PySem L2
variable {Θ : Tb} {W : WX}
section
variable {K : Frag}
theorem VwAll.one {B H : Hp} {xs : List V} {a : D} (h : VwAll K B H xs [a]) : ∃ x, xs = [x] ∧ Vw K B H x a := by
  cases h with
  | cons h1 h2 => cases h2; exact ⟨_, rfl, h1⟩
theorem RpAll.bools {B : Hp} : ∀ {vs : List V} {bs : List Bool}, RpAll K B vs (bs.map PyData.bool) → vs = bs.map V.bl
  | _, [], h => by cases h; rfl
  | _, n :: ns, h => by
    rw [List.map_cons] at h
    cases h with
    | cons a b => cases a; rw [RpAll.bools b]; rfl
theorem RpAll.ofInts {B : Hp} : ∀ ns : List Int, RpAll K B (ns.map V.int) (ns.map PyData.int)
  | [] => .nil
  | n :: ns => .cons (.int n) (RpAll.ofInts ns)
def boolsOf : List D → Option (List Bool)
  | [] => some []
  | .bool i :: r => (boolsOf r).map (i :: ·)
  | _ => none
theorem boolsOf_map : ∀ ns : List Bool, boolsOf (ns.map PyData.bool) = some ns
  | [] => rfl
  | n :: ns => by rw [List.map_cons, boolsOf, boolsOf_map ns]; rfl
theorem boolsOf_eq : ∀ {ds : List D} {ns : List Bool}, boolsOf ds = some ns → ds = ns.map PyData.bool
  | [], ns, h => by cases h; rfl
  | .bool i :: r, ns, h => by
    simp only [boolsOf, Option.map_eq_some_iff] at h
    obtain ⟨m, h1, rfl⟩ := h
    rw [boolsOf_eq h1]; rfl
  | .none :: _, _, h => by cases h
  | .int _ :: _, _, h => by cases h
  | .str _ :: _, _, h => by cases h
  | .list _ :: _, _, h => by cases h
  | .tuple _ :: _, _, h => by cases h
  | .dict _ :: _, _, h => by cases h
/-- the items of a list or a tuple (a locked list too) -/
def itemsD : D → Option (List D)
  | .list ds => some ds
  | .tuple ds => some ds
  | .dict [(.none, .list ds)] => some ds
  | _ => none
theorem Vw.items {B H : Hp} {v : V} {d : D} {ds : List D} (e : Evl.Ex B H) (h : Vw K B H v d) (hd : itemsD d = some ds) : ∃ a vs, v = .ref a ∧ (SqL K H a vs ∨ SqT K H a vs) ∧ RpAll K B vs ds := by
  unfold itemsD at hd
  split at hd
  · cases hd; obtain ⟨p, vs, rfl, h1, h2⟩ := h.lst e; exact ⟨p, vs, rfl, .inl (SqL.of h1), h2⟩
  · cases hd; obtain ⟨p, vs, rfl, h1, h2, _⟩ := h.tup e; exact ⟨p, vs, rfl, .inr (SqT.of h1), h2⟩
  · cases hd; obtain ⟨p, vs, rfl, h1, h2⟩ := Vw.lkl (ds := ds) e h; exact ⟨p, vs, rfl, .inl h1, h2⟩
  · cases hd
/-- the items of a list -/
def itemsL : D → Option (List D)
  | .list ds => some ds
  | .dict [(.none, .list ds)] => some ds
  | _ => none
theorem Vw.itemsL {B H : Hp} {v : V} {d : D} {ds : List D} (e : Evl.Ex B H) (h : Vw K B H v d) (hd : itemsL d = some ds) : ∃ a vs, v = .ref a ∧ SqL K H a vs ∧ RpAll K B vs ds := by
  unfold DL.itemsL at hd
  split at hd
  · cases hd; obtain ⟨p, vs, rfl, h1, h2⟩ := h.lst e; exact ⟨p, vs, rfl, SqL.of h1, h2⟩
  · cases hd; obtain ⟨p, vs, rfl, h1, h2⟩ := Vw.lkl (ds := ds) e h; exact ⟨p, vs, rfl, h1, h2⟩
  · cases hd

/-! ### len, abs, int, min, max, sum, all, any, list, tuple -/
def lenD : List D → Option D
  | [.str x] => if x.length ≤ 100000 then some (.int x.length) else none
  | [d] => (itemsD d).map fun ds => .int ds.length
  | _ => none
def rLenA (K : Frag) : List V → Hp → VK → Prop := fun xs H Q => (∃ p ys, xs = [.ref p] ∧ (SqL K H p ys ∨ SqT K H p ys) ∧ Q (.int ys.length) H) ∨ ∃ z, xs = [.str z] ∧ z.length ≤ sizeLine ∧ Q (.int z.length) H
theorem CallR.or {X : Cx} {f : Value} {r r' : List V → Hp → VK → Prop} (h : CallR X f r) (h' : CallR X f r') : CallR X f (fun xs H Q => r xs H Q ∨ r' xs H Q) := fun pins s σ H xs us Q I rv q => by
  rcases q with q | q
  · exact h pins s σ H xs us Q I rv q
  · exact h' pins s σ H xs us Q I rv q
theorem call_lenA {X : Cx} : CallR X (.builtin "len") (rLenA X.K) := CallR.or call_len_seq call_len_str
theorem callok_len : CallOk Θ K (rLenA K) lenD := by
  intro σ ρ B H xs as d r ha e Q q
  unfold lenD at e
  split at e
  · split at e
    · rename_i hl
      cases e
      obtain ⟨x, rfl, h⟩ := ha.one
      have h1 := h.str
      subst h1
      exact .inr ⟨_, rfl, Evl.sz_of hl, q _ B H r Step.refl (.int _)⟩
    · cases e
  · simp only [Option.map_eq_some_iff] at e
    obtain ⟨ds, e1, rfl⟩ := e
    obtain ⟨x, rfl, h⟩ := ha.one
    obtain ⟨p, vs, rfl, h1, h2⟩ := h.items r.ex e1
    refine .inl ⟨p, vs, rfl, h1, ?_⟩
    rw [h2.length]
    exact q _ B H r Step.refl (.int _)
  · cases e
def int1D (f : Int → Int) : List D → Option D
  | [.int i] => some (.int (f i))
  | _ => none
def absD : List D → Option D := int1D fun i => if i < 0 then -i else i
def intD : List D → Option D := int1D fun i => i
theorem callok_int : CallOk Θ K (fun xs H Q => (∃ i, xs = [.int i] ∧ Q (.int i) H) ∨ ∃ k, xs = [.bl k] ∧ Q (.int (if k then 1 else 0)) H) intD := by
  intro σ ρ B H xs as d r ha e Q q
  unfold intD int1D at e
  split at e
  · cases e
    obtain ⟨x, rfl, h⟩ := ha.one
    have h1 := h.int
    subst h1
    exact .inl ⟨_, rfl, q _ B H r Step.refl (.int _)⟩
  · cases e
def int2D (f : Int → Int → Int) : List D → Option D
  | [.int i, .int j] => some (.int (f i j))
  | _ => none
def max2D : List D → Option D := int2D fun i j => if j > i then j else i
def min2D : List D → Option D := int2D fun i j => if j < i then j else i
def allD : List D → Option D
  | [d] => (itemsL d).bind fun ds => (boolsOf ds).map fun bs => .bool (bs.all id)
  | _ => none
theorem callok_all : CallOk Θ K (rAll K) allD := by
  intro σ ρ B H xs as d r ha e Q q
  unfold allD at e
  split at e
  · simp only [Option.bind_eq_some_iff, Option.map_eq_some_iff] at e
    obtain ⟨ds, e1, ns, e2, rfl⟩ := e
    obtain ⟨x, rfl, h⟩ := ha.one
    obtain ⟨p, vs, rfl, h1, h2⟩ := h.itemsL r.ex e1
    rw [boolsOf_eq e2] at h2
    rw [h2.bools] at h1
    exact ⟨p, ns, rfl, h1, q _ B H r Step.refl (.bl _)⟩
  · cases e
/-- list(x): a new list -/
def mListF (p : MP) : MF := fun ρ => (p ρ).bind fun x => (rsv x.2 x.1).bind fun d => (itemsD d).map fun ds => (.lst ds, x.2)
theorem fok_list {ta : TE} {p : MP} (ha : POk Θ K ta p) : FOk Θ K (tCB (fun xs H Q => ∃ p ys, xs = [.ref p] ∧ (SqL K H p ys ∨ SqT K H p ys) ∧ ∀ l, H l = none → Q (.ref l) (upd H l (.lst ys))) (tCons ta tNil)) (mListF p) := by
  intro σ ρ B H d ρ' r e Q q
  simp only [mListF, Option.bind_eq_some_iff, Option.map_eq_some_iff] at e
  obtain ⟨⟨x, ρ1⟩, e1, d', e2, ds, e3, e4⟩ := e
  cases e4
  refine ha σ ρ B H x _ r e1 _ fun v B1 H1 r1 s1 a1 => ?_
  obtain ⟨p, vs, rfl, h1, h2⟩ := (rsv_vw r1 a1 e2).items r1.ex e3
  refine ⟨p, vs, rfl, h1, fun l hl => ?_⟩
  obtain ⟨r2, s2, hB, hn⟩ := r1.put (o := .lst vs) hl
  exact q l B1 _ r2 (s1.trans s2) (s1.dom l hl) hB hn ⟨vs, upd_same, h2⟩
/-- tuple(x): a list's items in a new tuple; a tuple itself -/
def tupleD : List D → Option D
  | [.list ds] => some (.tuple ds)
  | [.tuple ds] => some (.tuple ds)
  | _ => none
theorem callok_tuple : CallOk Θ K (fun xs H Q => ∃ p ys, xs = [.ref p] ∧ ((SqL K H p ys ∧ ∀ l, H l = none → Q (.ref l) (upd H l (.tup ys))) ∨ (SqT K H p ys ∧ Q (.ref p) H))) tupleD := by
  intro σ ρ B H xs as d r ha e Q q
  unfold tupleD at e
  split at e
  · cases e
    obtain ⟨x, rfl, h⟩ := ha.one
    obtain ⟨p, vs, rfl, h1, h2⟩ := h.lst r.ex
    exact ⟨p, vs, rfl, .inl ⟨SqL.of h1, fun l hl => res_newT r hl h2 q⟩⟩
  · cases e
    obtain ⟨x, rfl, h⟩ := ha.one
    obtain ⟨p, vs, rfl, h1, h2, h3⟩ := h.tup r.ex
    exact ⟨p, vs, rfl, .inr ⟨SqT.of h1, q _ B H r Step.refl h3⟩⟩
  · cases e
/-- truth -/
def truD : D → Option Bool
  | .none => some false
  | .bool b => some b
  | .int i => some (i != 0)
  | .str x => if x.length ≤ 100000 then some ((x.length : Int) != 0) else none
  | .list ds => some (!ds.isEmpty)
  | .tuple ds => some (!ds.isEmpty)
  | _ => none
theorem emp_len {α β : Type} {l : List α} {m : List β} (h : l.length = m.length) : l.isEmpty = m.isEmpty := by
  cases l <;> cases m <;> first | rfl | (simp at h)
theorem truD_ok {B H : Hp} {v : V} {d : D} {k : Bool} (e : Evl.Ex B H) (h : Vw K B H v d) (t : truD d = some k) : TruV K v H k := by
  unfold truD at t
  split at t
  · cases t; rw [h.non]; rfl
  · cases t; rw [h.bool]; rfl
  · cases t; rw [h.int]; rfl
  · split at t
    · rename_i hl; cases t; rw [h.str]; exact ⟨Evl.sz_of hl, rfl⟩
    · cases t
  · cases t
    obtain ⟨p, vs, rfl, h1, h2⟩ := h.lst e
    exact .inl ⟨vs, SqL.of h1, by rw [emp_len h2.length]⟩
  · cases t
    obtain ⟨p, vs, rfl, h1, h2, _⟩ := h.tup e
    exact .inr (.inl ⟨vs, SqT.of h1, by rw [emp_len h2.length]⟩)
  · cases t
def mTru (p : MP) : MT := fun ρ => (p ρ).bind fun x => (rsv x.2 x.1).bind fun d => (truD d).map fun k => (k, x.2)
theorem tok_tru {ta : TE} {p : MP} (ha : POk Θ K ta p) : TOk Θ K (fun σ H Q => ta σ H fun x H' => ∃ k, TruV K x H' k ∧ Q k H') (mTru p) := by
  intro σ ρ B H b ρ' r e Q q
  simp only [mTru, Option.bind_eq_some_iff, Option.map_eq_some_iff] at e
  obtain ⟨⟨x, ρ1⟩, e1, d, e2, k, e3, e4⟩ := e
  cases e4
  refine ha σ ρ B H x _ r e1 _ fun v B1 H1 r1 s1 a1 => ?_
  exact ⟨_, truD_ok r1.ex (rsv_vw r1 a1 e2) e3, q B1 H1 r1 s1⟩

/-! ### isinstance -/
def tyOfD : D → Option String
  | .none => some "NoneType"
  | .bool _ => some "bool"
  | .int _ => some "int"
  | .str _ => some "str"
  | .list _ => some "list"
  | .tuple _ => some "tuple"
  | .dict kvs => if kvs.any (fun kv => isNone kv.1) then none else some "dict"
theorem tyOfD_ok {B H : Hp} {v : V} {d : D} {T : String} (e : Evl.Ex B H) (h : Vw K B H v d) (t : tyOfD d = some T) : TyX K H v (.type T) := by
  unfold tyOfD at t
  split at t
  · cases t; rw [h.non]; exact .base .non
  · cases t; rw [h.bool]; exact .base (.bl _)
  · cases t; rw [h.int]; exact .base (.int _)
  · cases t; rw [h.str]; exact .base (.str _)
  · cases t; obtain ⟨p, vs, rfl, h1, h2⟩ := h.lst e; exact .base (.lst h1)
  · cases t; obtain ⟨p, vs, rfl, h1, h2, _⟩ := h.tup e; exact .base (.tup h1)
  · split at t
    · cases t
    · rename_i kvs hn
      cases t
      rcases h with h | ⟨a, c, rfl, h, q⟩
      · generalize hx : PyData.dict kvs = d at h
        cases h with
        | dK h r => exact .base (.dK (e _ _ h))
        | dT h r => exact .base (.dT (e _ _ h))
        | lkl h r => simp only [lkd, PyData.dict.injEq] at hx; subst hx; exact (hn rfl).elim
        | lkt h r => simp only [lkd, PyData.dict.injEq] at hx; subst hx; exact (hn rfl).elim
        | ins h h2 h3 r => simp only [insD, PyData.dict.injEq] at hx; subst hx; exact (hn rfl).elim
        | fn h => simp only [fnD, PyData.dict.injEq] at hx; subst hx; exact (hn rfl).elim
        | _ => cases hx
      · cases c with
        | lst _ => cases q
        | dK _ => obtain ⟨kv, h1, _⟩ := h; exact .base (.dK h1)
        | dT _ => obtain ⟨kv, h1, _⟩ := h; exact .base (.dT h1)
        | ins _ _ => simp only [ocD, insD, PyData.dict.injEq] at q; subst q; exact (hn rfl).elim
def isiB (T : String) (d : D) : Option Bool := (tyOfD d).bind fun t => kitB t T
def mIsi (T : String) (p : MP) : ME := mUn (fun d => (isiB T d).map .bool) p
theorem eok_isi {T : String} {ta : TE} {p : MP} (ha : POk Θ K ta p) : EOk Θ K (tCB (rIsi K) (tCons ta (tCons (tC (.ty T)) tNil))) (mIsi T p) := by
  intro σ ρ B H d ρ' r e Q q
  simp only [mIsi, mUn, Option.bind_eq_some_iff, Option.map_eq_some_iff] at e
  obtain ⟨⟨x, ρ1⟩, e1, a, e2, d', ⟨b, e3, rfl⟩, e5⟩ := e
  cases e5
  refine ha σ ρ B H x _ r e1 _ fun v B1 H1 r1 s1 a1 => ?_
  unfold isiB at e3
  simp only [Option.bind_eq_some_iff] at e3
  obtain ⟨t, e6, e7⟩ := e3
  exact ⟨v, .ty T, _, _, b, rfl, .ty T, tyOfD_ok r1.ex (rsv_vw r1 a1 e2) e6, kit_ty e7, q _ B1 H1 r1 s1 (.bl _)⟩
/-- isinstance(x, (T, U)) -/
def isiAny : List String → D → Option Bool
  | [], _ => some false
  | T :: Ts, d => (isiB T d).bind fun b => if b = true then some true else isiAny Ts d
theorem kitAny_of {v : V} {d : D} {t : String} (ht : tyOfD d = some t) : ∀ {Ts : List String} {b : Bool}, isiAny Ts d = some b → PySem.W.kitAny K (.type t) (Ts.map Value.type) = some b
  | [], b, h => by cases h; exact kitAny_nil
  | T :: Ts, b, h => by
    simp only [isiAny, Option.bind_eq_some_iff] at h
    obtain ⟨c, h1, h2⟩ := h
    unfold isiB at h1
    rw [ht] at h1
    have h1' : kitB t T = some c := h1
    cases c with
    | true => cases h2; exact kitAny_cons (kit_ty h1') (fun z => by cases z) (fun _ => rfl)
    | false => exact kitAny_cons (kit_ty h1') (fun _ => kitAny_of (v := v) ht h2) (fun z => by cases z)
theorem paired_ty : ∀ Ts : List String, Paired ClsV (Ts.map V.ty) (Ts.map Value.type)
  | [] => .nil
  | T :: Ts => .cons (.ty T) (paired_ty Ts)
def tTys : List String → TA
  | [] => tNil
  | T :: Ts => tCons (tC (.ty T)) (tTys Ts)
theorem tTys_run : ∀ (Ts : List String) (σ : St) (H : Hp) (Q : List V → Hp → Prop), Q (Ts.map V.ty) H → tTys Ts σ H Q
  | [], _, _, _, h => h
  | T :: Ts, σ, H, Q, h => tTys_run Ts σ H _ h
def mIsiT (Ts : List String) (p : MP) : ME := mUn (fun d => if (tyOfD d).isSome ∧ Ts.length ≤ 100 then (isiAny Ts d).map .bool else none) p
theorem eok_isiT {Ts : List String} {ta : TE} {p : MP} (ha : POk Θ K ta p) : EOk Θ K (tCB (rIsiT K) (tCons ta (tCons (tTup (tTys Ts)) tNil))) (mIsiT Ts p) := by
  intro σ ρ B H d ρ' r e Q q
  simp only [mIsiT, mUn, Option.bind_eq_some_iff, Option.map_eq_some_iff] at e
  obtain ⟨⟨x, ρ1⟩, e1, a, e2, d', e3, e5⟩ := e
  cases e5
  split at e3
  case isFalse => cases e3
  rename_i hc
  simp only [Option.map_eq_some_iff] at e3
  obtain ⟨b, e3, rfl⟩ := e3
  obtain ⟨t, ht⟩ := Option.isSome_iff_exists.mp hc.1
  refine ha σ ρ B H x _ r e1 _ fun v B1 H1 r1 s1 a1 => ?_
  refine tTys_run Ts σ H1 _ ⟨by rw [List.length_map]; exact Evl.sz_of (by omega), fun tp htp => ?_⟩
  obtain ⟨r2, s2, eB⟩ := r1.add (o := .tup (Ts.map V.ty)) htp
  have tv := rsv_vw r2 (a1.mono eB) e2
  show rIsiT K [v, .ref tp] _ Q
  exact ⟨v, tp, _, _, _, b, rfl, upd_same, paired_ty Ts, tyOfD_ok r2.ex tv ht, kitAny_of (v := v) ht e3, q _ _ _ r2 (s1.trans s2) (.bl _)⟩
end
end DL
set_option Elab.async false
set_option linter.all false
set_option maxRecDepth 100000
set_option maxHeartbeats 2000000
/-! DL, iterators and comprehensions. -/
namespace DL
open PySem L2
variable {Θ : Tb} {W : WX}
theorem PI.or {X : Cx} {tg e : Expr} {w1 w2 : TI} (h1 : PI X tg e w1) (h2 : PI X tg e w2) : PI X tg e (fun σ H R => w1 σ H R ∨ w2 σ H R) := ⟨fun pins s σ H R I h => by
  rcases h with h | h
  · exact h1.run pins s σ H R I h
  · exact h2.run pins s σ H R I h⟩
section
variable {K : Frag}
/-! ### iterators -/
theorem walks_list {B : Hp} {a : Addr} {vs : List V} {ds : List D} (hk : SqL K B a vs) (r : RpAll K B vs ds) : Walks K (Itl K a) B ds := by
  refine ⟨fun i H d e hd => ?_, fun i H e hl => ⟨vs, Evl.ex_l e hk, by rw [r.length]; exact hl⟩⟩
  obtain ⟨v, h1, h2⟩ := r.get hd
  refine ⟨⟨vs, v, Evl.ex_l e hk, h1⟩, fun x H' ⟨z, q⟩ => .inl ⟨z, ?_⟩⟩
  have := q vs (Evl.ex_l e hk)
  rw [h1] at this
  cases this
  exact h2
theorem walks_tup {B : Hp} {a : Addr} {vs : List V} {ds : List D} (hk : SqT K B a vs) (r : RpAll K B vs ds) : Walks K (Itt K a) B ds := by
  refine ⟨fun i H d e hd => ?_, fun i H e hl => ⟨vs, Evl.ex_t e hk, by rw [r.length]; exact hl⟩⟩
  obtain ⟨v, h1, h2⟩ := r.get hd
  refine ⟨⟨vs, v, Evl.ex_t e hk, h1⟩, fun x H' ⟨z, q⟩ => .inl ⟨z, ?_⟩⟩
  have := q vs (Evl.ex_t e hk)
  rw [h1] at this
  cases this
  exact h2
def rngD (lo : Int) : Nat → List D
  | 0 => []
  | n + 1 => .int lo :: rngD (lo + 1) n
theorem rngD_len : ∀ (lo : Int) (n : Nat), (rngD lo n).length = n
  | _, 0 => rfl
  | lo, n + 1 => by show (rngD (lo + 1) n).length + 1 = n + 1; rw [rngD_len]
theorem rngD_get : ∀ (lo : Int) (n i : Nat), i < n → (rngD lo n)[i]? = some (.int (lo + i))
  | _, 0, _, h => absurd h (by omega)
  | lo, n + 1, 0, _ => by show some (PyData.int lo) = _; simp
  | lo, n + 1, i + 1, h => by
    have := rngD_get (lo + 1) n i (by omega)
    show (rngD (lo + 1) n)[i]? = _
    rw [this]
    have e : lo + 1 + (i : Int) = lo + ((i + 1 : Nat) : Int) := by omega
    rw [e]
theorem walks_rng {B : Hp} {lo : Int} {n : Nat} : Walks K (Itr lo n) B (rngD lo n) := by
  refine ⟨fun i H d _ hd => ?_, fun i H _ hl => by rw [rngD_len] at hl; exact hl⟩
  have hi : i < n := by
    have := (List.getElem?_eq_some_iff.mp hd).1
    rw [rngD_len] at this; exact this
  rw [rngD_get lo n i hi] at hd
  cases hd
  refine ⟨hi, fun x H' ⟨z, q⟩ => .inl ⟨z, ?_⟩⟩
  rw [q]; exact .int _
/-- for x in e: a kept list or tuple -/
def mIter (p : ME) : MI := fun ρ => (p ρ).bind fun x => (itemsD x.1).map fun ds => (ds, x.2)
theorem Rp.items {B : Hp} {v : V} {d : D} {ds : List D} (h : Rp K B v d) (hd : itemsD d = some ds) : ∃ a vs, v = .ref a ∧ ((SqL K B a vs ∧ itemsL d = some ds) ∨ SqT K B a vs) ∧ RpAll K B vs ds := by
  unfold itemsD at hd
  split at hd
  · cases hd; obtain ⟨p, vs, rfl, h1, h2⟩ := Vw.lst (H := B) (Evl.Ex.refl _) (.inl h); exact ⟨p, vs, rfl, .inl ⟨SqL.of h1, rfl⟩, h2⟩
  · cases hd; obtain ⟨p, vs, rfl, h1, h2, _⟩ := Vw.tup (H := B) (Evl.Ex.refl _) (.inl h); exact ⟨p, vs, rfl, .inr (SqT.of h1), h2⟩
  · cases hd; obtain ⟨p, vs, rfl, h1, h2⟩ := Vw.lkl (ds := ds) (H := B) (Evl.Ex.refl _) (.inl h); exact ⟨p, vs, rfl, .inl ⟨h1, rfl⟩, h2⟩
  · cases hd
def isTupD : D → Bool
  | .tuple _ => true
  | _ => false
theorem Rp.itemsL {B : Hp} {v : V} {d : D} {ds : List D} (h : Rp K B v d) (hd : itemsD d = some ds) (t : isTupD d = false) : ∃ a vs, v = .ref a ∧ SqL K B a vs ∧ RpAll K B vs ds := by
  unfold itemsD at hd
  split at hd
  · cases hd; obtain ⟨p, vs, rfl, h1, h2⟩ := Vw.lst (H := B) (Evl.Ex.refl _) (.inl h); exact ⟨p, vs, rfl, SqL.of h1, h2⟩
  · cases t
  · cases hd; obtain ⟨p, vs, rfl, h1, h2⟩ := Vw.lkl (ds := ds) (H := B) (Evl.Ex.refl _) (.inl h); exact ⟨p, vs, rfl, h1, h2⟩
  · cases hd
theorem Rp.itemsT {B : Hp} {v : V} {d : D} {ds : List D} (h : Rp K B v d) (hd : itemsD d = some ds) (t : isTupD d = true) : ∃ a vs, v = .ref a ∧ SqT K B a vs ∧ RpAll K B vs ds := by
  unfold itemsD at hd
  split at hd
  · cases t
  · cases hd; obtain ⟨p, vs, rfl, h1, h2, _⟩ := Vw.tup (H := B) (Evl.Ex.refl _) (.inl h); exact ⟨p, vs, rfl, SqT.of h1, h2⟩
  · cases t
  · cases hd
theorem iok_seq {te : TE} {p : ME} (h : EOk Θ K te p) : IOk Θ K (fun σ H R => iList K te σ H R ∨ iTup K te σ H R) (mIter p) := by
  intro σ ρ B H ds ρ' r e R q
  simp only [mIter, Option.bind_eq_some_iff, Option.map_eq_some_iff] at e
  obtain ⟨⟨d, ρ1⟩, e1, ds', e2, e3⟩ := e
  cases e3
  cases ht : isTupD d with
  | false =>
    refine .inl (h σ ρ B H d _ r e1 _ fun v B1 H1 r1 s1 rv => ?_)
    obtain ⟨a, vs, rfl, h1, h2⟩ := rv.itemsL e2 ht
    exact ⟨a, rfl, ⟨vs, Evl.ex_l r1.ex h1⟩, q _ B1 H1 r1 s1 (walks_list h1 h2)⟩
  | true =>
    refine .inr (h σ ρ B H d _ r e1 _ fun v B1 H1 r1 s1 rv => ?_)
    obtain ⟨a, vs, rfl, h1, h2⟩ := rv.itemsT e2 ht
    exact ⟨a, rfl, ⟨vs, Evl.ex_t r1.ex h1⟩, q _ B1 H1 r1 s1 (walks_tup h1 h2)⟩
/-- range(n), range(a, b) -/
def mRng1 (p : ME) : MI := fun ρ => (p ρ).bind fun x => match x.1 with
  | .int j => if -1000000 ≤ j ∧ j ≤ 1000000 then some (rngD 0 j.toNat, x.2) else none
  | _ => none
def mRng2 (p q : ME) : MI := fun ρ => (p ρ).bind fun x => (q x.2).bind fun y => match x.1, y.1 with
  | .int i, .int j => if -1000000 ≤ i ∧ i ≤ 1000000 ∧ -1000000 ≤ j ∧ j ≤ 1000000 then some (rngD i (j - i).toNat, y.2) else none
  | _, _ => none
theorem iok_rng1 {te : TE} {p : ME} (h : EOk Θ K te p) : IOk Θ K (iRng1 (tCons te tNil)) (mRng1 p) := by
  intro σ ρ B H ds ρ' r e R q
  simp only [mRng1, Option.bind_eq_some_iff] at e
  obtain ⟨⟨d, ρ1⟩, e1, e2⟩ := e
  split at e2
  · rename_i j hj
    split at e2
    · rename_i hb
      cases e2
      subst hj
      refine h σ ρ B H _ _ r e1 _ fun v B1 H1 r1 s1 rv => ?_
      cases rv
      exact ⟨j, rfl, by omega, by omega, q _ B1 H1 r1 s1 walks_rng⟩
    · cases e2
  · cases e2
theorem iok_rng2 {te tu : TE} {p p2 : ME} (h : EOk Θ K te p) (h2 : EOk Θ K tu p2) : IOk Θ K (iRng2 (tCons te (tCons tu tNil))) (mRng2 p p2) := by
  intro σ ρ B H ds ρ' r e R q
  simp only [mRng2, Option.bind_eq_some_iff] at e
  obtain ⟨⟨d, ρ1⟩, e1, ⟨d2, ρ2⟩, e2, e3⟩ := e
  split at e3
  · rename_i i j hi hj
    split at e3
    · rename_i hb
      cases e3
      subst hi hj
      refine h σ ρ B H _ _ r e1 _ fun v B1 H1 r1 s1 rv => ?_
      cases rv
      refine h2 σ ρ1 B1 H1 _ _ r1 e2 _ fun v B2 H2 r2 s2 rv => ?_
      cases rv
      exact ⟨i, j, rfl, by omega, q _ B2 H2 r2 (s1.trans s2) walks_rng⟩
    · cases e3
  · cases e3
/-- enumerate -/
def enumD (i : Nat) : List D → List D
  | [] => []
  | d :: ds => .tuple [.int i, d] :: enumD (i + 1) ds
theorem enumD_len : ∀ (ds : List D) (i : Nat), (enumD i ds).length = ds.length
  | [], _ => rfl
  | _ :: ds, i => by show (enumD (i + 1) ds).length + 1 = ds.length + 1; rw [enumD_len]
theorem enumD_get : ∀ (ds : List D) (i j : Nat) (d : D), ds[j]? = some d → (enumD i ds)[j]? = some (.tuple [.int ((i + j : Nat) : Int), d])
  | [], _, _, _, h => by simp at h
  | a :: ds, i, 0, d, h => by simp at h; subst h; rfl
  | a :: ds, i, j + 1, d, h => by
    have := enumD_get ds (i + 1) j d (by simpa using h)
    show (enumD (i + 1) ds)[j]? = _
    rw [this]
    have e : i + 1 + j = i + (j + 1) := by omega
    rw [e]
theorem walks_enum {B : Hp} {a : Addr} {vs : List V} {ds : List D} (hk : SqL K B a vs) (r : RpAll K B vs ds) : Walks K (Ite K a) B (enumD 0 ds) := by
  refine ⟨fun i H d e hd => ?_, fun i H e hl => ⟨vs, Evl.ex_l e hk, by rw [enumD_len] at hl; rw [r.length]; exact hl⟩⟩
  have hi : i < ds.length := by
    have := (List.getElem?_eq_some_iff.mp hd).1
    rw [enumD_len] at this; exact this
  obtain ⟨d0, hd0⟩ : ∃ d, ds[i]? = some d := ⟨_, List.getElem?_eq_getElem hi⟩
  rw [enumD_get ds 0 i d0 hd0] at hd
  cases hd
  obtain ⟨v, h1, h2⟩ := r.get hd0
  refine ⟨⟨vs, v, Evl.ex_l e hk, h1⟩, fun x H' ⟨T, y, e1, e2, e3, q⟩ => .inr ⟨T, [.int (i : Nat), y], _, e1, e2, e3, .cons ?_ (.cons ?_ .nil), rfl⟩⟩
  · have e4 : ((0 + i : Nat) : Int) = (i : Int) := by omega
    rw [e4]; exact .int _
  · have := q vs (Evl.ex_l e hk)
    rw [h1] at this
    cases this
    exact h2
/-! ### comprehensions -/
/-- the slots of the comprehension's own names forgotten -/
def wipeR (ρ : Rho) : List Nat → Rho
  | [] => ρ
  | v :: vs => (wipeR ρ vs).set v .no
/-- .. and as they were -/
def restR (ρ ρ' : Rho) : List Nat → Rho
  | [] => ρ'
  | v :: vs => match ρ[v]? with
    | some s => (restR ρ ρ' vs).set v s
    | none => restR ρ ρ' vs
/-- no own object hides behind a comprehension's name; the other slots hold their kinds -/
def okW (ρ : Rho) : List Nat → Bool
  | [] => true
  | v :: vs => (match ρ[v]? with
    | some (.io _) => false
    | some (.ow _) => false
    | _ => true) && okW ρ vs
def compD (vs : List Nat) (g : MG) (c : MT) (elt : ME) : List D → Rho → Option (List D × Rho)
  | [], ρ => some ([], ρ)
  | d :: ds, ρ => (g d ρ).bind fun ρ1 => (c ρ1).bind fun x => if x.1 = true then (elt x.2).bind fun y => if okW y.2 vs = true then (compD vs g c elt ds (wipeR y.2 vs)).map fun z => (y.1 :: z.1, z.2) else none
    else if okW x.2 vs = true then compD vs g c elt ds (wipeR x.2 vs) else none
theorem compD_nil (vs : List Nat) (g : MG) (c : MT) (elt : ME) (ρ : Rho) : compD vs g c elt [] ρ = some ([], ρ) := rfl
theorem compD_cons (vs : List Nat) (g : MG) (c : MT) (elt : ME) (d : D) (ds : List D) (ρ : Rho) : compD vs g c elt (d :: ds) ρ = (g d ρ).bind fun ρ1 => (c ρ1).bind fun x => if x.1 = true then (elt x.2).bind fun y => if okW y.2 vs = true then (compD vs g c elt ds (wipeR y.2 vs)).map fun z => (y.1 :: z.1, z.2) else none
    else if okW x.2 vs = true then compD vs g c elt ds (wipeR x.2 vs) else none := rfl
def mLcF (mi : MI) (vs : List Nat) (g : MG) (c : MT) (elt : ME) : MF := fun ρ => (mi ρ).bind fun x => if okW x.2 vs = true ∧ x.1.length ≤ 50000 then (compD vs g c elt x.1 (wipeR x.2 vs)).map fun y => (.lst y.1, restR x.2 y.2 vs) else none
theorem wipeR_len (ρ : Rho) : ∀ vs, (wipeR ρ vs).length = ρ.length
  | [] => rfl
  | v :: vs => by show ((wipeR ρ vs).set v .no).length = _; rw [List.length_set, wipeR_len]
theorem wipeR_in {ρ : Rho} {i : Nat} : ∀ {vs : List Nat} {s : Sl}, (wipeR ρ vs)[i]? = some s → s ≠ .no → i ∉ vs ∧ ρ[i]? = some s
  | [], s, h, _ => ⟨by simp, h⟩
  | v :: vs, s, h, ne => by
    have h : ((wipeR ρ vs).set v .no)[i]? = some s := h
    rcases get_set_sh h with ⟨rfl, e, _⟩ | ⟨n1, h⟩
    · exact (ne e).elim
    · obtain ⟨a, b⟩ := wipeR_in h ne
      exact ⟨fun z => by
        rcases List.mem_cons.mp z with z | z
        · exact n1 z
        · exact a z, b⟩
theorem wipeR_out {ρ : Rho} {i : Nat} : ∀ {vs : List Nat}, i ∉ vs → (wipeR ρ vs)[i]? = ρ[i]?
  | [], _ => rfl
  | v :: vs, h => by
    show ((wipeR ρ vs).set v .no)[i]? = _
    rw [List.getElem?_set_ne (fun e => h (by rw [← e]; exact List.mem_cons_self)), wipeR_out fun z => h (List.mem_cons_of_mem _ z)]
theorem wipe_out {σ : St} {i : Nat} : ∀ {vs : List Nat}, i ∉ vs → (wipe σ vs)[i]? = σ[i]?
  | [], _ => rfl
  | v :: vs, h => by
    show ((wipe σ vs).set v none)[i]? = _
    rw [List.getElem?_set_ne (fun e => h (by rw [← e]; exact List.mem_cons_self)), wipe_out fun z => h (List.mem_cons_of_mem _ z)]
theorem okW_of {ρ : Rho} : ∀ {vs : List Nat} {v : Nat}, okW ρ vs = true → v ∈ vs → ∀ s, ρ[v]? = some s → s.oc = none
  | [], _, _, h, _, _ => by cases h
  | a :: vs, v, h, hv, s, hs => by
    simp only [okW, Bool.and_eq_true] at h
    rcases List.mem_cons.mp hv with rfl | hv
    · rw [hs] at h
      cases s with
      | no => rfl
      | sh _ => rfl
      | er _ _ => rfl
      | ow _ => cases h.1
      | io _ => cases h.1
    · exact okW_of h.2 hv s hs
/-- the block's slots -/
theorem SR.wipe {σ : St} {ρ : Rho} {B H : Hp} {vs : List Nat} (r : SR Θ K σ ρ B H) : SR Θ K (L2.wipe σ vs) (wipeR ρ vs) B H := by
  have own : ∀ i a, OwnI (L2.wipe σ vs) (wipeR ρ vs) i a → OwnI σ ρ i a := by
    rintro i a ⟨s, c, h1, h2, h3⟩
    obtain ⟨n, h4⟩ := wipeR_in h1 (fun e => by rw [e] at h2; cases h2)
    rw [wipe_out n] at h3
    exact ⟨s, c, h4, h2, h3⟩
  refine ⟨r.ex, fun i d h => ?_, fun i s c h hc => ?_, fun i j a h1 h2 => r.ap i j a (own _ _ h1) (own _ _ h2), by rw [wipe_length, wipeR_len]; exact r.len, r.tb, r.nt, fun i c fs h => by
      obtain ⟨n, h4⟩ := wipeR_in h (by simp)
      rw [wipe_out n]
      exact r.er i c fs h4⟩
  · obtain ⟨n, h4⟩ := wipeR_in h (by simp)
    rw [wipe_out n]
    exact r.sh i d h4
  · obtain ⟨n, h4⟩ := wipeR_in h (fun e => by rw [e] at hc; cases hc)
    rw [wipe_out n]
    exact r.ow i s c h4 hc
theorem restR_len (ρ ρ' : Rho) : ∀ vs, (restR ρ ρ' vs).length = ρ'.length
  | [] => rfl
  | v :: vs => by
    unfold restR
    split
    · rw [List.length_set, restR_len]
    · exact restR_len ρ ρ' vs
theorem restR_out {ρ ρ' : Rho} {i : Nat} : ∀ {vs : List Nat}, i ∉ vs → (restR ρ ρ' vs)[i]? = ρ'[i]?
  | [], _ => rfl
  | v :: vs, h => by
    unfold restR
    split
    · rw [List.getElem?_set_ne (fun e => h (by rw [← e]; exact List.mem_cons_self)), restR_out fun z => h (List.mem_cons_of_mem _ z)]
    · exact restR_out fun z => h (List.mem_cons_of_mem _ z)
theorem restR_in {ρ ρ' : Rho} {i : Nat} {s : Sl} : ∀ {vs : List Nat}, i ∈ vs → i < ρ'.length → ρ[i]? = some s → (restR ρ ρ' vs)[i]? = some s
  | [], h, _, _ => by cases h
  | v :: vs, h, hl, hs => by
    unfold restR
    by_cases e : v = i
    · subst e
      rw [hs]
      exact set_lt (by rw [restR_len]; exact hl)
    · have h' : i ∈ vs := (List.mem_cons.mp h).resolve_left (Ne.symm e)
      split
      · rw [List.getElem?_set_ne e]; exact restR_in h' hl hs
      · exact restR_in h' hl hs
/-- out of the block: the frame's slots again -/
theorem SR.unwipe {σ : St} {ρ ρ' : Rho} {B H B' H' : Hp} {vs : List Nat} (r : SR Θ K σ ρ B H) (ok : okW ρ vs = true) (r' : SR Θ K (L2.wipe σ vs) ρ' B' H') (s' : Step (L2.wipe σ vs) (wipeR ρ vs) B H (L2.wipe σ vs) ρ' B' H') :
    (SR Θ K σ (restR ρ ρ' vs) B' H' ∧ Step σ ρ B H σ (restR ρ ρ' vs) B' H') ∧ ∀ a, Own σ (restR ρ ρ' vs) a → Own (L2.wipe σ vs) ρ' a := by
  have hl : ρ'.length = ρ.length := by rw [← r'.len, wipe_length, r.len]
  have slotIn : ∀ {i : Nat} {s : Sl}, i ∈ vs → (restR ρ ρ' vs)[i]? = some s → ρ[i]? = some s := by
    intro i s hi h
    have hlt : i < ρ.length := by
      have := (List.getElem?_eq_some_iff.mp h).1
      rw [restR_len, hl] at this; exact this
    have hg := List.getElem?_eq_getElem hlt
    rw [restR_in hi (by rw [hl]; exact hlt) hg] at h
    rw [hg]; exact h
  have own : ∀ i a, OwnI σ (restR ρ ρ' vs) i a → i ∉ vs ∧ OwnI (L2.wipe σ vs) ρ' i a := by
    rintro i a ⟨s, c, h1, h2, h3⟩
    by_cases hi : i ∈ vs
    · have := okW_of ok hi s (slotIn hi h1)
      rw [h2] at this; cases this
    · rw [restR_out hi] at h1
      exact ⟨hi, s, c, h1, h2, by rw [wipe_out hi]; exact h3⟩
  have ownB : ∀ a, Own (L2.wipe σ vs) (wipeR ρ vs) a → Own σ ρ a := by
    rintro a ⟨i, s, c, h1, h2, h3⟩
    obtain ⟨n, h4⟩ := wipeR_in h1 (fun e => by rw [e] at h2; cases h2)
    rw [wipe_out n] at h3
    exact ⟨i, s, c, h4, h2, h3⟩
  refine ⟨?_, fun a ⟨i, z⟩ => ⟨i, (own i a z).2⟩⟩
  refine ⟨⟨r'.ex, fun i d h => ?_, fun i s c h hc => ?_, fun i j a h1 h2 => r'.ap i j a (own _ _ h1).2 (own _ _ h2).2, by rw [restR_len, hl]; exact r.len, r'.tb, r'.nt, fun i c fs h => by
      by_cases hi : i ∈ vs
      · obtain ⟨a, C, d, q1, q2, q3⟩ := r.er i c fs (slotIn hi h)
        obtain ⟨xs, hx⟩ := q3.some
        exact ⟨a, C, d, q1, q2, q3.mono s'.ex fun o nt z => s'.keep d o nt z fun z => r.notXd hx (ownB d z)⟩
      · rw [restR_out hi] at h
        obtain ⟨a, C, d, q1, q2, q3⟩ := r'.er i c fs h
        rw [wipe_out hi] at q2
        exact ⟨a, C, d, q1, q2, q3⟩⟩,
    ⟨s'.ex, fun a o nt h n => s'.keep a o nt h fun z => n (ownB a z), s'.dom, fun a ⟨i, z⟩ => ?_, fun a h => ?_, fun i c h => ⟨rfl, ?_⟩, fun a ⟨i, c, h1, h2⟩ => ?_⟩⟩
  · by_cases hi : i ∈ vs
    · obtain ⟨v, h1, h2⟩ := r.sh i d (slotIn hi h)
      exact ⟨v, h1, h2.mono s'.ex⟩
    · rw [restR_out hi] at h
      obtain ⟨v, h1, h2⟩ := r'.sh i d h
      rw [wipe_out hi] at h1
      exact ⟨v, h1, h2⟩
  · by_cases hi : i ∈ vs
    · have := okW_of ok hi s (slotIn hi h)
      rw [hc] at this; cases this
    · rw [restR_out hi] at h
      obtain ⟨a, h1, h2, h3⟩ := r'.ow i s c h hc
      rw [wipe_out hi] at h1
      exact ⟨a, h1, h2, h3⟩
  · rcases s'.own a ⟨i, (own i a z).2⟩ with q | q
    · exact .inl (ownB a q)
    · exact .inr q
  · rcases s'.new a h with q | q | q
    · exact .inl q
    · exact .inr (.inl q)
    · exact .inr (.inr (ownB a q))
  · by_cases hi : i ∈ vs
    · have := okW_of ok hi _ h
      cases this
    · obtain ⟨_, c', h'⟩ := s'.io i c (by rw [wipeR_out hi]; exact h)
      exact ⟨c', by rw [restR_out hi]; exact h'⟩
  · by_cases hi : i ∈ vs
    · have := okW_of ok hi _ (slotIn hi h1)
      cases this
    · rw [restR_out hi] at h1
      rcases s'.ow a ⟨i, c, h1, by rw [wipe_out hi]; exact h2⟩ with ⟨j, c', q1, q2⟩ | q
      · obtain ⟨n, h4⟩ := wipeR_in q1 (by simp)
        rw [wipe_out n] at q2
        exact .inl ⟨j, c', h4, q2⟩
      · exact .inr q
/-- the target's stores touch the comprehension's own slots alone; what is wanted behind them may be weakened -/
def GIn (g : TG) (vs : List Nat) : Prop := (∀ (v : V) (σ : St) (H : Hp) (Q : St → Hp → Prop), g v σ H Q → g v σ H fun σ2 H2 => Q σ2 H2 ∧ L2.wipe σ2 vs = L2.wipe σ vs) ∧
  ∀ (v : V) (σ : St) (H : Hp) (Q Q' : St → Hp → Prop), g v σ H Q → (∀ σ2 H2, Q σ2 H2 → Q' σ2 H2) → g v σ H Q'
theorem wipe_wipe (σ : St) : ∀ vs : List Nat, L2.wipe (L2.wipe σ vs) vs = L2.wipe σ vs := by
  intro vs
  apply List.ext_getElem?
  intro i
  by_cases hi : i ∈ vs
  · have h : ∀ (τ : St) (ws : List Nat), i ∈ ws → (L2.wipe τ ws)[i]? = if i < τ.length then some none else none := by
      intro τ ws
      induction ws with
      | nil => intro h; cases h
      | cons w ws ih =>
        intro h
        show ((L2.wipe τ ws).set w none)[i]? = _
        by_cases e : w = i
        · subst e
          rw [List.getElem?_set, if_pos rfl, wipe_length]
        · rw [List.getElem?_set_ne e]
          exact ih ((List.mem_cons.mp h).resolve_left (Ne.symm e))
    rw [h _ _ hi, h _ _ hi, wipe_length]
  · rw [wipe_out hi]
theorem Step.wipe {σ : St} {ρ : Rho} {B H : Hp} {vs : List Nat} (ok : okW ρ vs = true) : Step σ ρ B H (L2.wipe σ vs) (wipeR ρ vs) B H := by
  have own : ∀ i a, OwnI (L2.wipe σ vs) (wipeR ρ vs) i a → OwnI σ ρ i a := by
    rintro i a ⟨s, c, h1, h2, h3⟩
    obtain ⟨n, h4⟩ := wipeR_in h1 (fun e => by rw [e] at h2; cases h2)
    rw [wipe_out n] at h3
    exact ⟨s, c, h4, h2, h3⟩
  refine ⟨Evl.Ex.refl _, fun _ _ _ h _ => h, fun _ h => h, fun a ⟨i, z⟩ => .inl ⟨i, own i a z⟩, fun _ h => .inl h, fun i c h => ?_, fun a ⟨i, c, h1, h2⟩ => ?_⟩
  · have n : i ∉ vs := fun z => by
      have := okW_of ok z _ h
      cases this
    rw [wipe_out n, wipeR_out n]
    exact ⟨rfl, c, h⟩
  · obtain ⟨n, h4⟩ := wipeR_in h1 (by simp)
    rw [wipe_out n] at h2
    exact .inl ⟨i, c, h4, h2⟩
theorem Step.poke {σ σ' : St} {ρ ρ' : Rho} {B H B' H' : Hp} {p : Addr} {o : HO} (s : Step σ ρ B H σ' ρ' B' H') (hp : H p = none) : Step σ ρ B H σ' ρ' B' (upd H' p o) :=
  ⟨s.ex, fun a u nt h n => by
    have ne : a ≠ p := fun e => by rw [e, hp] at h; cases h
    rw [upd_ne ne]; exact s.keep a u nt h n, fun a h => by
    by_cases e : a = p
    · rw [e]; exact hp
    · rw [upd_ne e] at h; exact s.dom a h, s.own, s.new, s.io, s.ow⟩
theorem SR.poke {σ : St} {ρ : Rho} {B H : Hp} {p : Addr} {o : HO} (r : SR Θ K σ ρ B H) (hB : B p = none) (hn : ¬ Own σ ρ p) (hp : ∀ u, H p = some u → NT u) (hx : ∀ xs, H p ≠ some (.xd xs)) : SR Θ K σ ρ B (upd H p o) :=
  ⟨fun a u h => by
    have ne : a ≠ p := fun e => by rw [e, hB] at h; cases h
    rw [upd_ne ne]; exact r.ex a u h, r.sh, fun i s c h hc => by
    obtain ⟨a, h1, h2, h3⟩ := r.ow i s c h hc
    have ne : a ≠ p := fun e => hn (e ▸ ⟨i, s, c, h, hc, h1⟩)
    exact ⟨a, h1, h2, h3.mono (Evl.Ex.refl _) fun o _ z => by rw [upd_ne ne]; exact z⟩, r.ap, r.len, tabs_upd r.tb hp, r.nt, fun i c fs h => by
    obtain ⟨a, C, d, q1, q2, q3⟩ := r.er i c fs h
    obtain ⟨xs, hd⟩ := q3.some
    have nd : d ≠ p := fun e => hx xs (e ▸ hd)
    exact ⟨a, C, d, q1, q2, q3.mono (Evl.Ex.refl _) fun _ _ z => by rw [upd_ne nd]; exact z⟩⟩
/-- an untracked place is left alone -/
theorem Step.alone {σ σ' : St} {ρ ρ' : Rho} {B H B' H' : Hp} {p : Addr} {xs : List V} (st : Step σ ρ B H σ' ρ' B' H') (h1 : H p = some (.lst xs)) (h2 : B p = none) (h3 : ¬ Own σ ρ p) : H' p = some (.lst xs) ∧ B' p = none ∧ ¬ Own σ' ρ' p := by
  refine ⟨st.keep p _ nt_lst h1 h3, ?_, fun z => ?_⟩
  · cases q : B' p with
    | none => rfl
    | some u =>
      rcases st.new p (by rw [q]; simp) with z | z | z
      · exact (z h2).elim
      · rw [h1] at z; cases z
      · exact (h3 z).elim
  · rcases st.own p z with z | z
    · exact h3 z
    · rw [h1] at z; cases z
structure LcInv (Θ : Tb) (K : Frag) (σ : St) (ρ1 : Rho) (B1 H1 : Hp) (vs : List Nat) (Dl : Addr) (f : Rho → Option (List D × Rho)) (es : List D) (ρ2 : Rho) (i : Nat) (H' : Hp) : Prop where
  mk' ::
  ex : ∃ ρ' B' acc accD rest, SR Θ K (L2.wipe σ vs) ρ' B' H' ∧ Step (L2.wipe σ vs) (wipeR ρ1 vs) B1 H1 (L2.wipe σ vs) ρ' B' H' ∧ H' Dl = some (.lst acc) ∧ B' Dl = none ∧ ¬ Own (L2.wipe σ vs) ρ' Dl ∧ RpAll K B' acc accD ∧
      es = accD ++ rest ∧ acc.length ≤ i ∧ f ρ' = some (rest, ρ2)
theorem fok_lc {ti : TI} {g : TG} {tt : TT} {te : TE} {vs : List Nat} {mi : MI} {mg : MG} {c : MT} {elt : ME} (hi : IOk Θ K ti mi) (hg : GOk Θ K g mg) (hgi : GIn g vs) (hc : TOk Θ K tt c) (he : EOk Θ K te elt) : FOk Θ K (tLc ti g tt te vs) (mLcF mi vs mg c elt) := by
  intro σ ρ B H oc ρ' r e Q q
  simp only [mLcF, Option.bind_eq_some_iff] at e
  obtain ⟨⟨ds, ρ1⟩, e1, e2⟩ := e
  split at e2
  case isFalse => cases e2
  rename_i hok
  have hds : ds.length ≤ 50000 := hok.2
  simp only [Option.map_eq_some_iff] at e2
  obtain ⟨⟨es, ρ2⟩, e2, e3⟩ := e2
  cases e3
  refine hi σ ρ B H ds ρ1 r e1 _ fun J B1 H1 r1 s1 wk => ?_
  intro Dl hD
  obtain ⟨r1', s1', hDB, hDn⟩ := r1.put (o := .lst []) hD
  have notOwn0 : ¬ Own (L2.wipe σ vs) (wipeR ρ1 vs) Dl := by
    rintro ⟨i, s, k, h1, h2, h3⟩
    obtain ⟨n, h4⟩ := wipeR_in h1 (fun e => by rw [e] at h2; cases h2)
    rw [wipe_out n] at h3
    exact hDn ⟨i, s, k, h4, h2, h3⟩
  refine ⟨fun i m H' => m = ds.length - i ∧ i ≤ ds.length ∧ LcInv Θ K σ ρ1 B1 H1 vs Dl (compD vs mg c elt (ds.drop i)) es ρ2 i H',
    ⟨_, rfl, Nat.zero_le _, ⟨wipeR ρ1 vs, B1, [], [], es, r1'.wipe, Step.refl.poke hD, upd_same, hDB, notOwn0, .nil, rfl, Nat.le_refl _, e2⟩⟩, ?_⟩
  rintro i m H' ⟨rfl, hle, ⟨ρ', B', acc, accD, rest, r', s', hacc, hB', hn', racc, hes, hal, hf⟩⟩
  by_cases hlt : i < ds.length
  · obtain ⟨d, hd⟩ : ∃ d, ds[i]? = some d := ⟨_, List.getElem?_eq_getElem hlt⟩
    have wk' := wk.mono s'.ex
    rw [drop_of_get hd, compD_cons] at hf
    simp only [Option.bind_eq_some_iff] at hf
    obtain ⟨ρ3, e3, ⟨b, ρ4⟩, e4, e5⟩ := hf
    refine .inr ⟨(wk'.go i H' d r'.ex hd).1, fun H2 => i + 1 ≤ ds.length ∧ LcInv Θ K σ ρ1 B1 H1 vs Dl (compD vs mg c elt (ds.drop (i + 1))) es ρ2 (i + 1) H2, fun H2 z => ⟨ds.length - (i + 1), by omega, rfl, z⟩, fun x H2 hy => ?_⟩
    obtain ⟨B2, r2, s2, rx⟩ := wk'.take r' hd hy
    obtain ⟨k2, kB2, kn2⟩ := s2.alone hacc hB' hn'
    have base := hg (L2.wipe σ vs) ρ' B2 H2 x d ρ3 r2 rx e3 (fun σ2 H3 => H3 = H2 ∧ SR Θ K σ2 ρ3 B2 H2 ∧ Step (L2.wipe σ vs) ρ' B2 H2 σ2 ρ3 B2 H2) fun σ2 a b => ⟨rfl, a, b⟩
    have g1 := hgi.1 x (L2.wipe σ vs) H2 _ base
    refine hgi.2 x (L2.wipe σ vs) H2 _ _ g1 ?_
    rintro σ3 H3 ⟨⟨rfl, r3, s3⟩, hw⟩
    rw [wipe_wipe] at hw
    refine ⟨hw, ?_⟩
    obtain ⟨k3, kB3, kn3⟩ := s3.alone k2 kB2 kn2
    refine hc σ3 ρ3 B2 _ b ρ4 r3 e4 _ fun B4 H4 r4 s4 => ?_
    obtain ⟨k4, kB4, kn4⟩ := s4.alone k3 kB3 kn3
    cases b with
    | false =>
      show _ ∧ _
      have e5 : (if okW ρ4 vs = true then compD vs mg c elt (ds.drop (i + 1)) (wipeR ρ4 vs) else none) = some (rest, ρ2) := e5
      split at e5
      case isFalse => cases e5
      rename_i hok4
      have r5 := r4.wipe (vs := vs)
      have st5 := (((s'.trans s2).trans s3).trans s4).trans (Step.wipe hok4)
      obtain ⟨k5, kB5, kn5⟩ := (Step.wipe hok4 : Step σ3 ρ4 B4 H4 _ _ B4 H4).alone k4 kB4 kn4
      rw [hw] at r5 st5 kn5
      exact ⟨hlt, ⟨_, B4, acc, accD, rest, r5, st5, k5, kB5, kn5, racc.mono ((s2.ex.trans s3.ex).trans s4.ex), hes, by omega, e5⟩⟩
    | true =>
      have e5 : ((elt ρ4).bind fun y => if okW y.2 vs = true then (compD vs mg c elt (ds.drop (i + 1)) (wipeR y.2 vs)).map fun z => (y.1 :: z.1, z.2) else none) = some (rest, ρ2) := e5
      simp only [Option.bind_eq_some_iff] at e5
      obtain ⟨⟨y, ρ5⟩, e6, e7⟩ := e5
      split at e7
      case isFalse => cases e7
      rename_i hok5
      simp only [Option.map_eq_some_iff] at e7
      obtain ⟨⟨rest', ρ6⟩, e8, e9⟩ := e7
      cases e9
      show te σ3 H4 _
      refine he σ3 ρ4 B4 H4 y ρ5 r4 e6 _ fun v B5 H5 r5 s5 rv => ?_
      obtain ⟨k5, kB5, kn5⟩ := s5.alone k4 kB4 kn4
      have r6 := r5.wipe (vs := vs)
      have st6 := ((((s'.trans s2).trans s3).trans s4).trans s5).trans (Step.wipe hok5)
      obtain ⟨k6, kB6, kn6⟩ := (Step.wipe hok5 : Step σ3 ρ5 B5 H5 _ _ B5 H5).alone k5 kB5 kn5
      rw [hw] at r6 st6 kn6
      refine ⟨acc, k5, Evl.sz_lt (by omega), hlt, ⟨_, B5, acc ++ [v], accD ++ [y], rest', r6.poke kB6 kn6 (nt_at k6) (fun xs z => by rw [k6] at z; cases z), st6.poke hD, upd_same, kB6, kn6, (racc.mono (((s2.ex.trans s3.ex).trans s4.ex).trans s5.ex)).append (.cons rv .nil), by rw [hes]; simp, ?_, e8⟩⟩
      rw [List.length_append, List.length_singleton]; omega
  · have hge : ds.length ≤ i := Nat.le_of_not_lt hlt
    rw [List.drop_eq_nil_of_le hge, compD_nil] at hf
    cases hf
    refine .inl ⟨(wk.mono s'.ex).stop i H' r'.ex hge, ?_⟩
    obtain ⟨⟨r7, s7⟩, o7⟩ := r1.unwipe hok.1 r' s'
    rw [List.append_nil] at hes
    subst hes
    exact q Dl B' H' r7 (s1.trans s7) (s1.dom Dl hD) hB' (fun z => hn' (o7 Dl z)) ⟨acc, hacc, racc⟩
end
end DL
set_option Elab.async false
set_option linter.all false
set_option maxRecDepth 100000
set_option maxHeartbeats 2000000
/-! DL, the rules, for each piece: a piece of Python, its reading, its function of data. -/
namespace DL
open PySem L2
variable {Θ : Tb} {W : WX}
/-! ### the reading that a function of data is -/
def tE (Θ : Tb) (K : Frag) (m : ME) : TE := fun σ H Q => ∃ ρ B d ρ', SR Θ K σ ρ B H ∧ m ρ = some (d, ρ') ∧ ∀ (v : V) (B' H' : Hp), SR Θ K σ ρ' B' H' → Step σ ρ B H σ ρ' B' H' → Rp K B' v d → Q v H'
def tP (Θ : Tb) (K : Frag) (m : MP) : TE := fun σ H Q => ∃ ρ B d ρ', SR Θ K σ ρ B H ∧ m ρ = some (d, ρ') ∧ ∀ (v : V) (B' H' : Hp), SR Θ K σ ρ' B' H' → Step σ ρ B H σ ρ' B' H' → AdR K σ B' v d → Q v H'
def tF (Θ : Tb) (K : Frag) (m : MF) : TE := fun σ H Q => ∃ ρ B c ρ', SR Θ K σ ρ B H ∧ m ρ = some (c, ρ') ∧ ∀ (p : Addr) (B' H' : Hp), SR Θ K σ ρ' B' H' → Step σ ρ B H σ ρ' B' H' → H p = none → B' p = none → ¬ Own σ ρ' p → OwAt K B' H' p c → Q (.ref p) H'
def tM (Θ : Tb) (K : Frag) (m : MT) : TT := fun σ H Q => ∃ ρ B b ρ', SR Θ K σ ρ B H ∧ m ρ = some (b, ρ') ∧ ∀ (B' H' : Hp), SR Θ K σ ρ' B' H' → Step σ ρ B H σ ρ' B' H' → Q b H'
def tX (Θ : Tb) (K : Frag) (m : MAs) : TA := fun σ H Q => ∃ ρ B ds ρ', SR Θ K σ ρ B H ∧ m ρ = some (ds, ρ') ∧ ∀ (vs : List V) (B' H' : Hp), SR Θ K σ ρ' B' H' → Step σ ρ B H σ ρ' B' H' → AdAll K σ B' vs ds → Q vs H'
def tZ (Θ : Tb) (W : WX) (K : Frag) (m : MS) : TS := fun D' σ H => ∃ ρ B o, SR Θ K σ ρ B H ∧ m ρ = some o ∧ Wish Θ W K σ ρ B H D' o
def tW (Θ : Tb) (K : Frag) (m : MI) : TI := fun σ H R => ∃ ρ B ds ρ', SR Θ K σ ρ B H ∧ m ρ = some (ds, ρ') ∧ ∀ (J : It) (B' H' : Hp), SR Θ K σ ρ' B' H' → Step σ ρ B H σ ρ' B' H' → Walks K J B' ds → R J H'
structure SE (Θ : Tb) (X : Cx) (e : Expr) (m : ME) : Prop where
  pe : PE X e (tE Θ X.K m)
theorem SE.ok {X : Cx} {e : Expr} {m : ME} (_ : SE Θ X e m) : EOk Θ X.K (tE Θ X.K m) m := fun σ ρ B H d ρ' r e Q q => ⟨ρ, B, d, ρ', r, e, q⟩
theorem SE.of {X : Cx} {e : Expr} {t : TE} {m : ME} (h : PE X e t) (ok : EOk Θ X.K t m) : SE Θ X e m := ⟨⟨fun pins s σ H Q I ⟨ρ, B, d, ρ', r, e, q⟩ => h.run pins s σ H Q I (ok σ ρ B H d ρ' r e Q q)⟩⟩
structure SP (Θ : Tb) (X : Cx) (e : Expr) (m : MP) : Prop where
  pe : PE X e (tP Θ X.K m)
theorem SP.ok {X : Cx} {e : Expr} {m : MP} (_ : SP Θ X e m) : POk Θ X.K (tP Θ X.K m) m := fun σ ρ B H d ρ' r e Q q => ⟨ρ, B, d, ρ', r, e, q⟩
theorem SP.of {X : Cx} {e : Expr} {t : TE} {m : MP} (h : PE X e t) (ok : POk Θ X.K t m) : SP Θ X e m := ⟨⟨fun pins s σ H Q I ⟨ρ, B, d, ρ', r, e, q⟩ => h.run pins s σ H Q I (ok σ ρ B H d ρ' r e Q q)⟩⟩
structure SF (Θ : Tb) (X : Cx) (e : Expr) (m : MF) : Prop where
  pe : PE X e (tF Θ X.K m)
theorem SF.ok {X : Cx} {e : Expr} {m : MF} (_ : SF Θ X e m) : FOk Θ X.K (tF Θ X.K m) m := fun σ ρ B H d ρ' r e Q q => ⟨ρ, B, d, ρ', r, e, q⟩
theorem SF.of {X : Cx} {e : Expr} {t : TE} {m : MF} (h : PE X e t) (ok : FOk Θ X.K t m) : SF Θ X e m := ⟨⟨fun pins s σ H Q I ⟨ρ, B, d, ρ', r, e, q⟩ => h.run pins s σ H Q I (ok σ ρ B H d ρ' r e Q q)⟩⟩
structure ST (Θ : Tb) (X : Cx) (e : Expr) (m : MT) : Prop where
  pe : PT X e (tM Θ X.K m)
theorem ST.ok {X : Cx} {e : Expr} {m : MT} (_ : ST Θ X e m) : TOk Θ X.K (tM Θ X.K m) m := fun σ ρ B H d ρ' r e Q q => ⟨ρ, B, d, ρ', r, e, q⟩
theorem ST.of {X : Cx} {e : Expr} {t : TT} {m : MT} (h : PT X e t) (ok : TOk Θ X.K t m) : ST Θ X e m := ⟨⟨fun pins s σ H Q I ⟨ρ, B, d, ρ', r, e, q⟩ => h.run pins s σ H Q I (ok σ ρ B H d ρ' r e Q q)⟩⟩
structure SW (Θ : Tb) (X : Cx) (e : Expr) (m : MT) : Prop where
  pe : PW X e (tM Θ X.K m)
theorem SW.ok {X : Cx} {e : Expr} {m : MT} (_ : SW Θ X e m) : TOk Θ X.K (tM Θ X.K m) m := fun σ ρ B H d ρ' r e Q q => ⟨ρ, B, d, ρ', r, e, q⟩
theorem SW.of {X : Cx} {e : Expr} {t : TT} {m : MT} (h : PW X e t) (ok : TOk Θ X.K t m) : SW Θ X e m := ⟨⟨fun whole pins s σ H Q I ⟨ρ, B, d, ρ', r, e, q⟩ => h.run whole pins s σ H Q I (ok σ ρ B H d ρ' r e Q q)⟩⟩
structure SA (Θ : Tb) (X : Cx) (es : List Expr) (m : MAs) : Prop where
  pe : PA X es (tX Θ X.K m)
theorem SA.ok {X : Cx} {e : List Expr} {m : MAs} (_ : SA Θ X e m) : AsOk Θ X.K (tX Θ X.K m) m := fun σ ρ B H d ρ' r e Q q => ⟨ρ, B, d, ρ', r, e, q⟩
theorem SA.of {X : Cx} {e : List Expr} {t : TA} {m : MAs} (h : PA X e t) (ok : AsOk Θ X.K t m) : SA Θ X e m := ⟨⟨fun pos pins s σ H Q I ⟨ρ, B, d, ρ', r, e, q⟩ => h.run pos pins s σ H Q I (ok σ ρ B H d ρ' r e Q q)⟩⟩
structure SS (Θ : Tb) (X : Cx) (s : Stmt) (m : MS) : Prop where
  pe : PS X s (tZ Θ (Wof X) X.K m)
theorem SS.ok {X : Cx} {e : Stmt} {m : MS} (_ : SS Θ X e m) : SOk Θ (Wof X) X.K (tZ Θ (Wof X) X.K m) m := fun σ ρ B H D' o r e w => ⟨ρ, B, o, r, e, w⟩
theorem SS.of {X : Cx} {e : Stmt} {t : TS} {m : MS} (h : PS X e t) (ok : SOk Θ (Wof X) X.K t m) : SS Θ X e m := ⟨⟨fun pins s σ H D' I ⟨ρ, B, o, r, e, w⟩ => h.run pins s σ H D' I (ok σ ρ B H D' o r e w)⟩⟩
structure SB (Θ : Tb) (X : Cx) (s : List Stmt) (m : MS) : Prop where
  pe : PSs X s (tZ Θ (Wof X) X.K m)
theorem SB.ok {X : Cx} {e : List Stmt} {m : MS} (_ : SB Θ X e m) : SOk Θ (Wof X) X.K (tZ Θ (Wof X) X.K m) m := fun σ ρ B H D' o r e w => ⟨ρ, B, o, r, e, w⟩
theorem SB.of {X : Cx} {e : List Stmt} {t : TS} {m : MS} (h : PSs X e t) (ok : SOk Θ (Wof X) X.K t m) : SB Θ X e m := ⟨⟨fun pins s σ H D' I ⟨ρ, B, o, r, e, w⟩ => h.run pins s σ H D' I (ok σ ρ B H D' o r e w)⟩⟩
structure SG (Θ : Tb) (X : Cx) (e : Expr) (t : TG) (m : MG) : Prop where
  pe : PG X e t
  ok : GOk Θ X.K t m
structure SGs (Θ : Tb) (X : Cx) (es : List Expr) (t : TGs) (m : MGs) : Prop where
  pe : PGs X es t
  ok : GsOk Θ X.K t m
structure SI (Θ : Tb) (X : Cx) (tg e : Expr) (m : MI) : Prop where
  pe : PI X tg e (tW Θ X.K m)
theorem SI.ok {X : Cx} {tg e : Expr} {m : MI} (_ : SI Θ X tg e m) : IOk Θ X.K (tW Θ X.K m) m := fun σ ρ B H d ρ' r e Q q => ⟨ρ, B, d, ρ', r, e, q⟩
theorem SI.of {X : Cx} {tg e : Expr} {t : TI} {m : MI} (h : PI X tg e t) (ok : IOk Θ X.K t m) : SI Θ X tg e m := ⟨⟨fun pins s σ H Q I ⟨ρ, B, d, ρ', r, e, q⟩ => h.run pins s σ H Q I (ok σ ρ B H d ρ' r e Q q)⟩⟩
section
variable {X : Cx} {pos : Pos} {a b c e : Expr} {ta tb tc te : TE}
theorem SE.p {m : ME} (h : SE Θ X e m) : SP Θ X e (pE m) := SP.of (h.pe) (h.ok.p)
theorem SF.se {m : MF} (h : SF Θ X e m) : SE Θ X e (fE m) := SE.of (h.pe) (h.ok.e)
/-! ### names, constants -/
theorem se_var (i : Nat) {x : Str} {pos : Pos} (hN : X.N[i]? = some x := by rfl) (hv : Vis X.env.scope x := by first | exact Or.inl rfl | exact Or.inr (Or.inl rfl) | exact Or.inr (Or.inr rfl)) (hd : (x == ("__debug__" : Str)) = false := by decide)
    (hcd : (x == ("__classdict__" : Str)) = false := by decide) : SE Θ X (.Name x pos) (mVar i) := SE.of (pe_var hN hv hd hcd) (eok_var)
theorem sp_own (i : Nat) {x : Str} {pos : Pos} (hN : X.N[i]? = some x := by rfl) (hv : Vis X.env.scope x := by first | exact Or.inl rfl | exact Or.inr (Or.inl rfl) | exact Or.inr (Or.inr rfl)) (hd : (x == ("__debug__" : Str)) = false := by decide)
    (hcd : (x == ("__classdict__" : Str)) = false := by decide) : SP Θ X (.Name x pos) (pO i) := SP.of (pe_var hN hv hd hcd) (pok_own)
theorem se_int {i : Int} {j} : SE Θ X (.Constant (.int i) j pos) (mC (.int i)) := SE.of (pe_int) (eok_c fun _ => .int i)
theorem se_bl {i : Bool} {j} : SE Θ X (.Constant (.bool i) j pos) (mC (.bool i)) := SE.of (pe_bl) (eok_c fun _ => .bl i)
theorem se_str {i : Str} {j} : SE Θ X (.Constant (.str i) j pos) (mC (.str i)) := SE.of (pe_str) (eok_c fun _ => .str i)
theorem se_non {j} : SE Θ X (.Constant .none j pos) (mC .none) := SE.of (pe_non) (eok_c fun _ => .non)
theorem se_gint {x : Str} {i : Int} {t : Tok} (hm : X.mg x = some (.int i t)) (hg : Gl X x := by rfl) (hd : (x == ("__debug__" : Str)) = false := by decide) : SE Θ X (.Name x pos) (mC (.int i)) := SE.of (pe_glob (v := .int i) hg hm ⟨_, rfl⟩ hd) (eok_c fun _ => .int i)
theorem se_gstr {x : Str} {i : Str} {t : Tok} (hm : X.mg x = some (.str i t)) (hg : Gl X x := by rfl) (hd : (x == ("__debug__" : Str)) = false := by decide) : SE Θ X (.Name x pos) (mC (.str i)) := SE.of (pe_glob (v := .str i) hg hm ⟨_, rfl⟩ hd) (eok_c fun _ => .str i)
/-! ### operators, comparisons, tests -/
theorem se_op {op : Operator} {r : R2} {f : D → D → Option D} {p q : MP} (ho : OpR X (binaryOp op) r) (hf : OpOk Θ X.K r f) (ha : SP Θ X a p) (hb : SP Θ X b q) : SE Θ X (.BinOp a op b pos) (mOp f p q) := SE.of (pe_op ho ha.pe hb.pe) (eok_op hf ha.ok hb.ok)
def negD : D → Option D
  | .int i => some (.int (-i))
  | _ => none
theorem unok_neg {K : Frag} : UnOk Θ K (rU fun i => .int (-i)) negD := by
  intro σ ρ B H x a d r hv e Q q
  unfold negD at e
  split at e
  · cases e
    have := hv.int
    subst this
    exact ⟨_, rfl, q _ B H r Step.refl (.int _)⟩
  · cases e
theorem se_neg {p : MP} (ha : SP Θ X a p) : SE Θ X (.UnaryOp .USub a pos) (mUn negD p) := SE.of (pe_un un_neg ha.pe) (by exact eok_un (r := rU fun i => .int (-i)) (ta := tP Θ X.K p) unok_neg ha.ok)
theorem se_cmp {op : CmpOp} {r : R2} {f : D → D → Option D} {p q : MP} (ho : OpR X (compareOp op) r) (hf : OpOk Θ X.K r f) (ha : SP Θ X a p) (hb : SP Θ X b q) (hm : behindInMarks op b = false := by first | exact nomark _ | rfl) :
    SE Θ X (.Compare a [op] [b] pos) (mOp f p q) := SE.of (pe_cmpR ho ha.pe hb.pe hm) (eok_op hf ha.ok hb.ok)
theorem st_cmp {op : CmpOp} {r : R2} {f : D → D → Option D} {p q : MP} (ho : OpR X (compareOp op) r) (hf : OpOk Θ X.K r f) (ha : SP Θ X a p) (hb : SP Θ X b q) (hm : behindInMarks op b = false := by first | exact nomark _ | rfl) :
    ST Θ X (.Compare a [op] [b] pos) (mTest (mOp f p q)) := ST.of (pt_cmpR ho ha.pe hb.pe hm) (tok_test (eok_op hf ha.ok hb.ok))
theorem se_chain {op op' : CmpOp} {r r' : R2} {f g : D → D → Option D} {p q s : MP} (ho : OpR X (compareOp op) r) (hf : OpOk Θ X.K r f) (ho' : OpR X (compareOp op') r') (hg : OpOk Θ X.K r' g) (ha : SP Θ X a p) (hb : SP Θ X b q) (hc : SP Θ X c s)
    (hm : lastMarks [op, op'] [b, c] = false := by with_unfolding_all rfl) : SE Θ X (.Compare a [op, op'] [b, c] pos) (mChain f g p q s) := SE.of (pe_chain ho ho' ha.pe hb.pe hc.pe hm) (eok_chain hf hg ha.ok hb.ok hc.ok)
theorem st_chain {op op' : CmpOp} {r r' : R2} {f g : D → D → Option D} {p q s : MP} (ho : OpR X (compareOp op) r) (hf : OpOk Θ X.K r f) (ho' : OpR X (compareOp op') r') (hg : OpOk Θ X.K r' g) (ha : SP Θ X a p) (hb : SP Θ X b q) (hc : SP Θ X c s)
    (hm : lastMarks [op, op'] [b, c] = false := by with_unfolding_all rfl) : ST Θ X (.Compare a [op, op'] [b, c] pos) (mTest (mChain f g p q s)) := ST.of (pt_chain ho ho' ha.pe hb.pe hc.pe hm) (tok_test (eok_chain hf hg ha.ok hb.ok hc.ok))
theorem st_tru {p : MP} (ha : SP Θ X a p) (he : ∀ whole, isTrue a X.env whole = (do let v ← whole; standAt a.pos; holding [v] (truthy v)) := by intro _; rfl) : ST Θ X a (mTru p) :=
  ST.of (pt_truth ha.pe he) (tok_tru ha.ok)
variable {tA tB : TT} {mA mB : MT} {rest : List Expr}
theorem SW.t (h : SW Θ X e mA) : ST Θ X e mA := ST.of (h.pe.pt) (h.ok)
theorem sw_and1 (ha : ST Θ X a mA) : SW Θ X (.BoolOp .And [a] pos) mA := SW.of (pw_and1 ha.pe) (ha.ok)
theorem sw_or1 (ha : ST Θ X a mA) : SW Θ X (.BoolOp .Or [a] pos) mA := SW.of (pw_or1 ha.pe) (ha.ok)
theorem sw_and (ha : ST Θ X a mA) (hb : SW Θ X (.BoolOp .And (b :: rest) pos) mB) : SW Θ X (.BoolOp .And (a :: b :: rest) pos) (mAnd mA mB) := SW.of (pw_and ha.pe hb.pe) (tok_and ha.ok hb.ok)
theorem sw_or (ha : ST Θ X a mA) (hb : SW Θ X (.BoolOp .Or (b :: rest) pos) mB) : SW Θ X (.BoolOp .Or (a :: b :: rest) pos) (mOr mA mB) := SW.of (pw_or ha.pe hb.pe) (tok_or ha.ok hb.ok)
theorem st_not (ha : ST Θ X a mA) : ST Θ X (.UnaryOp .Not a pos) (mNot mA) := ST.of (pt_not ha.pe) (tok_not ha.ok)
variable {ma mb mc : ME}
theorem se_bool1 {op} (ha : SE Θ X a ma) : SE Θ X (.BoolOp op [a] pos) ma := SE.of (pe_one ha.pe) (ha.ok)
theorem se_and (ha : SE Θ X a ma) (hb : SE Θ X (.BoolOp .And (b :: rest) pos) mb) : SE Θ X (.BoolOp .And (a :: b :: rest) pos) (mAndV ma mb) := SE.of (pe_and ha.pe hb.pe) (eok_andV ha.ok hb.ok)
theorem se_not (ha : SE Θ X a ma) : SE Θ X (.UnaryOp .Not a pos) (mNotV ma) := SE.of (pe_not ha.pe) (eok_notV ha.ok)
theorem se_if (hc : ST Θ X c mA) (ha : SE Θ X a ma) (hb : SE Θ X b mb) : SE Θ X (.IfExp c a b pos) (mIf mA ma mb) := SE.of (pe_ifExp hc.pe ha.pe hb.pe) (eok_if hc.ok ha.ok hb.ok)
/-! ### arguments, displays -/
variable {es : List Expr} {t : TA} {ms : MAs}
theorem sa_nil : SA Θ X [] aNil := SA.of (pa_nil) (asok_nil)
theorem sa_cons {p : MP} (ha : SP Θ X e p) (hr : SA Θ X es ms) (hs : starEach (e :: es) X.env = (false, eval e X.env) :: starEach es X.env := by rfl) : SA Θ X (e :: es) (aCons p ms) := SA.of (pa_cons ha.pe hr.pe hs) (asok_cons ha.ok hr.ok)
theorem se_tup {x1} (h : SA Θ X es ms) : SE Θ X (.Tuple es x1 pos) (mTup ms) := SE.of (pe_tup h.pe) (eok_tup h.ok)
theorem sf_lst (h : SA Θ X es ms) : SF Θ X (.List es pos) (mLstF ms) := SF.of (pe_lst h.pe) (fok_lst h.ok)
theorem sf_dK : SF Θ X (.Dict [] [] pos) mDKF := SF.of (pe_dnewK) (fok_dK)
/-! ### calls -/
variable {x : Str} {p : Pos}
theorem se_callB {id : String} {r : List V → Hp → VK → Prop} {f : List D → Option D} (hc : CallR X (.builtin id) r) (hf : CallOk Θ X.K r f) (hm : X.mg x = none) (hv : bootBuiltins x = some (.builtin id)) (ha : SA Θ X (e :: es) ms) (hg : Gl X x := by rfl) (hn : x ≠ "__name__" := by decide) (hdb : (x == ("__debug__" : Str)) = false := by decide)
    (he : starEach (e :: es) X.env = (false, eval e X.env) :: starEach es X.env := by rfl) (hpl : (backTo pos (starEach es X.env)).any (·.1) = false := by rfl) : SE Θ X (.Call (.Name x p) (e :: es) [] pos) (mCall f ms) :=
  SE.of (pe_callB hc hg hm hv ha.pe hn hdb he hpl) (eok_call hf ha.ok)
theorem se_callT {T : String} {r : List V → Hp → VK → Prop} {f : List D → Option D} (hc : CallR X (.type T) r) (hf : CallOk Θ X.K r f) (hm : X.mg x = none) (hv : bootBuiltins x = some (.type T)) (ha : SA Θ X (e :: es) ms) (hg : Gl X x := by rfl) (hn : x ≠ "__name__" := by decide) (hdb : (x == ("__debug__" : Str)) = false := by decide)
    (he : starEach (e :: es) X.env = (false, eval e X.env) :: starEach es X.env := by rfl) (hpl : (backTo pos (starEach es X.env)).any (·.1) = false := by rfl) : SE Θ X (.Call (.Name x p) (e :: es) [] pos) (mCall f ms) :=
  SE.of (pe_callTy hc hg hm hv ha.pe hn hdb he hpl) (eok_call hf ha.ok)
/-- list(x) -/
theorem sf_list {pm : MP} (hm : X.mg "list" = none) (ha : SP Θ X e pm) (hg : Gl X "list" := by rfl)
    (he : starEach [e] X.env = (false, eval e X.env) :: starEach [] X.env := by rfl) (hpl : (backTo pos (starEach [] X.env)).any (·.1) = false := by rfl) :
    SF Θ X (.Call (.Name "list" p) [e] [] pos) (mListF pm) :=
  SF.of (pe_callTy call_list_of hg hm (by decide +kernel) (pa_cons ha.pe pa_nil he) (by decide) (by decide) he hpl) (fok_list ha.ok)
/-- isinstance(x, T) -/
theorem se_isi {T : String} {n : Str} {q : Pos} {pm : MP} (hmi : X.mg "isinstance" = none) (hmT : X.mg n = none) (hvT : bootBuiltins n = some (.type T)) (ha : SP Θ X e pm) (hg : Gl X "isinstance" := by rfl) (hgT : Gl X n := by rfl) (hn : n ≠ "__name__" := by decide) (hdb : (n == ("__debug__" : Str)) = false := by decide)
    (he : starEach [e, .Name n q] X.env = (false, eval e X.env) :: starEach [.Name n q] X.env := by rfl) (he2 : starEach [Expr.Name n q] X.env = (false, eval (.Name n q) X.env) :: starEach [] X.env := by rfl) (hpl : (backTo pos (starEach [.Name n q] X.env)).any (·.1) = false := by rfl) :
    SE Θ X (.Call (.Name "isinstance" p) [e, .Name n q] [] pos) (mIsi T pm) :=
  SE.of (pe_callB call_isi hg hmi PyProof.Rows.boot_isinstance (pa_cons ha.pe (pa_cons (pe_bltn (v := .ty T) hgT hmT hvT rfl hn hdb) pa_nil he2) he) (by decide) (by decide) he hpl) (eok_isi ha.ok)
/-- the names of built-in classes -/
structure Tys (X : Cx) (es : List Expr) (Ts : List String) : Prop where
  pe : PA X es (tTys Ts)
theorem tys_nil : Tys X [] [] := ⟨pa_nil⟩
theorem tys_cons {T : String} {Ts : List String} {n : Str} {q : Pos} (hmT : X.mg n = none) (hvT : bootBuiltins n = some (.type T)) (h : Tys X es Ts) (hgT : Gl X n := by rfl) (hn : n ≠ "__name__" := by decide) (hdb : (n == ("__debug__" : Str)) = false := by decide)
    (he : starEach (.Name n q :: es) X.env = (false, eval (.Name n q) X.env) :: starEach es X.env := by rfl) : Tys X (.Name n q :: es) (T :: Ts) := ⟨pa_cons (pe_bltn (v := .ty T) hgT hmT hvT rfl hn hdb) h.pe he⟩
theorem se_isiT {Ts : List String} {x1} {q : Pos} {pm : MP} (hmi : X.mg "isinstance" = none) (ht : Tys X es Ts) (ha : SP Θ X e pm) (hg : Gl X "isinstance" := by rfl)
    (he : starEach [e, .Tuple es x1 q] X.env = (false, eval e X.env) :: starEach [.Tuple es x1 q] X.env := by rfl) (he2 : starEach [Expr.Tuple es x1 q] X.env = (false, eval (.Tuple es x1 q) X.env) :: starEach [] X.env := by rfl) (hpl : (backTo pos (starEach [.Tuple es x1 q] X.env)).any (·.1) = false := by rfl) :
    SE Θ X (.Call (.Name "isinstance" p) [e, .Tuple es x1 q] [] pos) (mIsiT Ts pm) :=
  SE.of (pe_callB call_isiT hg hmi PyProof.Rows.boot_isinstance (pa_cons ha.pe (pa_cons (pe_tup ht.pe) pa_nil he2) he) (by decide) (by decide) he hpl) (eok_isiT ha.ok)
/-- an own function that keeps its promise -/
structure Fn (Θ : Tb) (X : Cx) (x : Str) (k : Nat) (m : MFn) : Prop where
  ex : ∃ (f : Addr) (fd : FuncData) (ps : List Str), FnOk X.prog X.w X.K X.mg X.base CX0 k f fd ps (SpF Θ X.K m) ∧ X.mg x = some (.ref f) ∧ PySem.W.keepIn X.K (.ref f) = true ∧ Binds X.K fd ps []
theorem se_fn {k : Nat} {f : Addr} {fd : FuncData} {ps : List Str} {m : MFn} (F : FnOk X.prog X.w X.K X.mg X.base CX0 k f fd ps (SpF Θ X.K m)) (hr : Room k X.A) (hm : X.mg x = some (.ref f)) (hk : PySem.W.keepIn X.K (.ref f) = true) (hb : Binds X.K fd ps []) (ha : SA Θ X (e :: es) ms) (hg : Gl X x := by rfl)
    (hdb : (x == ("__debug__" : Str)) = false := by decide) (he : starEach (e :: es) X.env = (false, eval e X.env) :: starEach es X.env := by rfl) (hpl : (backTo pos (starEach es X.env)).any (·.1) = false := by rfl) :
    SE Θ X (.Call (.Name x p) (e :: es) [] pos) (mFn m ms) := SE.of (pe_call F hr hg hm hk hb .nil pass0 ha.pe hdb he hpl) (eok_fn ha.ok)
/-! ### places -/
theorem se_ix {pa pb : MP} (ha : SP Θ X a pa) (hb : SP Θ X b pb) (hs : PlainIx b := by intro _ _; rfl) : SE Θ X (.Subscript a b pos) (mOp ixD pa pb) := SE.of (pe_ix ix_seq ha.pe hb.pe hs) (eok_op opok_ix ha.ok hb.ok)
theorem tok_B {K : Frag} {te : TE} {m : ME} (h : EOk Θ K te m) : TOk Θ K (L2.tB te) (mTest m) := tok_test h
/-! ### what is walked -/
variable {tg : Expr}
theorem si_seq (ha : SE Θ X e ma) : SI Θ X tg e (mIter ma) := SI.of (PI.or (pi_list ha.pe) (pi_tup ha.pe)) (iok_seq ha.ok)
theorem si_rng1 (hm : X.mg "range" = none) (ha : SE Θ X a ma) (hg : Gl X "range" := by rfl) (hs : starEach [a] X.env = [(false, eval a X.env)] := by rfl) : SI Θ X tg (.Call (.Name "range" p) [a] [] pos) (mRng1 ma) := SI.of (pi_range1 hg hm (pa_cons ha.pe pa_nil hs) hs) (iok_rng1 ha.ok)
theorem si_rng2 (hm : X.mg "range" = none) (ha : SE Θ X a ma) (hb : SE Θ X b mb) (hg : Gl X "range" := by rfl) (hs : starEach [a, b] X.env = [(false, eval a X.env), (false, eval b X.env)] := by rfl) (hs2 : starEach [b] X.env = [(false, eval b X.env)] := by rfl)
    (hs3 : starEach [a, b] X.env = (false, eval a X.env) :: starEach [b] X.env := by rfl) : SI Θ X tg (.Call (.Name "range" p) [a, b] [] pos) (mRng2 ma mb) := SI.of (pi_range2 hg hm (pa_cons ha.pe (pa_cons hb.pe pa_nil hs2) hs3) hs hs2) (iok_rng2 ha.ok hb.ok)
/-! ### targets, statements -/
theorem sg_name {i : Nat} (hN : X.N.Nodup) (hi : X.N[i]? = some x := by rfl) (hx : Loc X.env.scope x := by first | exact Or.inl rfl | exact Or.inr rfl) (hf : X.fn x = true ∨ X.env.scope.names.lookup x = some .local := by first | exact .inl rfl | exact .inr rfl | assumption) : SG Θ X (.Name x pos) (gName i) (gNm i) := ⟨pg_name hN hi hx hf, gok_name⟩
theorem sgs_nil : SGs Θ X [] gNil gsNil := ⟨pgs_nil, gsok_nil⟩
theorem sgs_cons {g : TG} {u : TGs} {m : MG} {n : MGs} (h1 : SG Θ X e g m) (h2 : SGs Θ X es u n) (hs : (assignEach (e :: es) X.env).map (·.2) = assign e X.env :: (assignEach es X.env).map (·.2) := by rfl) : SGs Θ X (e :: es) (gCons g u) (gsCons m n) := ⟨pgs_cons h1.pe h2.pe hs, gsok_cons h1.ok h2.ok⟩
theorem sg_tup {k n : Nat} {g : TGs} {m : MGs} (h : SGs Θ X es g m) (hc : X.calm = true := by rfl) (hn : (assignEach es X.env).length = n := by rfl) (hst : (assignEach es X.env).findIdx? (·.1) = none := by rfl) : SG Θ X (.Tuple es k pos) (gTup X.K n g) (gTp n m) := ⟨pg_tup hc h.pe hn hst, gok_tup h.ok⟩
variable {st : Stmt} {sts : List Stmt} {tS uS : TS} {mS nS : MS}
theorem sb_nil : SB Θ X [] mNext := SB.of (pss_nil) (sok_next)
theorem sb_one (h : SS Θ X st mS) : SB Θ X [st] mS := SB.of (pss_one h.pe) (h.ok)
theorem sb_cons (h : SS Θ X st mS) (h2 : SB Θ X sts nS) : SB Θ X (st :: sts) (mSeq mS nS) := SB.of (pss_cons h.pe h2.pe) (sok_seq h.ok h2.ok)
theorem ss_set {i : Nat} {pos' : Pos} (hN : X.N.Nodup) (he : SE Θ X e ma) (hi : X.N[i]? = some x := by rfl) (hx : Loc X.env.scope x := by first | exact Or.inl rfl | exact Or.inr rfl) (hs : swapsWith e (some (.Name x pos')) pos.line X.env = pure false := by rfl) (hf : X.fn x = true ∨ X.env.scope.names.lookup x = some .local := by first | exact .inl rfl | exact .inr rfl | assumption) :
    SS Θ X (.Assign [.Name x pos'] e pos) (mAsg ma (gNm i)) := SS.of (ps_set hN hi hx he.pe hs hf) (sok_asg he.ok gok_name)
theorem ss_own {i : Nat} {pos' : Pos} {m : MF} (hN : X.N.Nodup) (he : SF Θ X e m) (hi : X.N[i]? = some x := by rfl) (hx : Loc X.env.scope x := by first | exact Or.inl rfl | exact Or.inr rfl) (hs : swapsWith e (some (.Name x pos')) pos.line X.env = pure false := by rfl) (hf : X.fn x = true ∨ X.env.scope.names.lookup x = some .local := by first | exact .inl rfl | exact .inr rfl | assumption) :
    SS Θ X (.Assign [.Name x pos'] e pos) (mOwn m i) := SS.of (ps_set hN hi hx he.pe hs hf) (sok_own he.ok)
theorem ss_setL {i : Nat} {q q' : Pos} {pb : MP} (he : SE Θ X e ma) (hb : SP Θ X b pb) (hN : X.N[i]? = some x := by rfl) (hv : Vis X.env.scope x := by first | exact Or.inl rfl | exact Or.inr (Or.inl rfl) | exact Or.inr (Or.inr rfl)) (hd : (x == ("__debug__" : Str)) = false := by decide) (hcd : (x == ("__classdict__" : Str)) = false := by decide)
    (ha : ∀ v, assign (.Subscript (.Name x q) b q') X.env v = (do
      let ov ← holding [v] (eval (.Name x q) X.env)
      let iv ← holding [v, ov] (eval b X.env)
      standAt q'
      holding [v, ov, iv] (setItem ov iv v)
      release [v, ov, iv] []) := by intro _; rfl)
    (hs : swapsWithSole [.Subscript (.Name x q) b q'] e pos.line X.env = pure false := by rfl) (hw : swappedStores [.Subscript (.Name x q) b q'] e X.env = pure none := by rfl)
    (h1 : (assignEach [.Subscript (.Name x q) b q'] X.env).map (·.2) = [assign (.Subscript (.Name x q) b q') X.env] := by rfl) : SS Θ X (.Assign [.Subscript (.Name x q) b q'] e pos) (mSetL i pb ma) :=
  SS.of (ps_asg he.pe (pg_sub (pe_var hN hv hd hcd) hb.pe set_list ha) hs hw h1) (sok_setL he.ok hb.ok)
theorem ss_expr (he : SE Θ X e ma) (hs : swapsWith e none pos.line X.env = pure false := by rfl) : SS Θ X (.Expr e pos) (mDrop ma) := SS.of (ps_expr he.pe hs) (sok_drop he.ok)
theorem ss_ret (he : SE Θ X e ma) : SS Θ X (.Return (some e) pos) (mRet ma) := SS.of (ps_ret he.pe) (sok_ret he.ok)
variable {sA sB : List Stmt} {uA uB : TS} {nA nB : MS}
theorem ss_if (hc : ST Θ X c mA) (ha : SB Θ X sA nA) (hb : SB Θ X sB nB) : SS Θ X (.If c sA sB pos) (mIfS mA nA nB) := SS.of (ps_if hc.pe ha.pe hb.pe) (sok_if hc.ok ha.ok hb.ok)
theorem ss_for {g : TG} {mi : MI} {mg : MG} (hi : SI Θ X tg e mi) (hg : SG Θ X tg g mg) (hb : SB Θ X sA nA) (hp : PassesOwn (model X.prog X.w) X.A X.env X.xe := by first | exact PassesOwn.never | exact passes_of rfl | assumption) (hc : X.calm = true := by rfl) (hs : ∀ x, foldedSetIterable e X.env x = pure x := by intro _; rfl) :
    SS Θ X (.For tg e sA [] pos) (mFor mi mg nA) := SS.of (ps_for hp hc hi.pe hg.pe hb.pe hs) (sok_for hi.ok hg.ok hb.ok)
def appendO : OC → List D → Option (D × OC)
  | .lst ds, [d] => if ds.length < 100000 then some (.none, .lst (ds ++ [d])) else none
  | _, _ => none
theorem mtok_append {K : Frag} : MtOk K rAppend appendO := by
  intro B H a c c' vs ds d hx hB ho hv e Q q
  unfold appendO at e
  split at e
  · split at e
    · rename_i hl
      cases e
      obtain ⟨xs, h1, h2⟩ := ho
      cases hv with
      | cons v1 v2 =>
        cases v2
        exact ⟨a, xs, _, rfl, rfl, h1, by rw [h2.length]; exact Evl.sz_lt hl, q _ _ ⟨_, upd_same, h2.append (.cons v1 .nil)⟩ .non⟩
    · cases e
  · cases e
theorem se_append {i : Nat} {q apos cpos : Pos} (ha : SA Θ X [e] ms) (hN : X.N[i]? = some x := by rfl) (hv : Vis X.env.scope x := by first | exact Or.inl rfl | exact Or.inr (Or.inl rfl) | exact Or.inr (Or.inr rfl)) (hd : (x == ("__debug__" : Str)) = false := by decide) (hcd : (x == ("__classdict__" : Str)) = false := by decide)
    (hbase : attributeBase (.Name x q) "append" X.env (eval (.Name x q) X.env) = eval (.Name x q) X.env := by rfl)
    (hfew : ((backTo cpos (starEach [e] X.env)).all (fun x => !x.1) && (backToKw cpos (keywordEach [] X.env)).all (fun x => x.1.isSome)
      && decide ([e].length + ([] : List Keyword).length + (if ([] : List Keyword).isEmpty then 0 else 1) < 30)) = true := by rfl)
    (hline : (apos.endLine == cpos.line) = true := by rfl) (hs : starEach [e] X.env = (false, eval e X.env) :: starEach [] X.env := by rfl) (hplain : (backTo cpos (starEach [] X.env)).any (·.1) = false := by rfl) :
    SE Θ X (.Call (.Attribute (.Name x q) "append" apos) [e] [] cpos) (mMt true appendO i ms) :=
  SE.of (pe_bm PySem.F.plainAttrs_list PySem.F.slot_list_append PySem.F.type_list_append mt_append (pe_var hN hv hd hcd) ha.pe hbase hfew hline hs hplain) (eok_mt mtok_append (.inl ⟨rfl, rfl⟩) ha.ok)
/-! ### comprehensions -/
theorem gin_name {j : Nat} {vs : List Nat} (h : j ∈ vs) : GIn (gName j) vs := by
  refine ⟨fun v σ H Q q => ⟨q, ?_⟩, fun v σ H Q Q' q hq => hq _ _ q⟩
  have key : ∀ (ws : List Nat), j ∈ ws → ∀ (τ : St) (u : Option V), L2.wipe (τ.set j u) ws = L2.wipe τ ws := by
    intro ws hj τ u
    apply List.ext_getElem?
    intro i
    by_cases hi : i ∈ ws
    · have hh : ∀ (τ : St) (ws : List Nat), i ∈ ws → (L2.wipe τ ws)[i]? = if i < τ.length then some none else none := by
        intro τ ws
        induction ws with
        | nil => intro h; cases h
        | cons w ws ih =>
          intro h
          show ((L2.wipe τ ws).set w none)[i]? = _
          by_cases e : w = i
          · subst e
            rw [List.getElem?_set, if_pos rfl, wipe_length]
          · rw [List.getElem?_set_ne e]
            exact ih ((List.mem_cons.mp h).resolve_left (Ne.symm e))
      rw [hh _ _ hi, hh _ _ hi, List.length_set]
    · rw [wipe_out hi, wipe_out hi, List.getElem?_set_ne (fun e => hi (by rw [← e]; exact hj))]
  exact key vs h σ (some v)
def GsIn (g : TGs) (vs : List Nat) : Prop := (∀ (v : List V) (σ : St) (H : Hp) (Q : St → Hp → Prop), g v σ H Q → g v σ H fun σ2 H2 => Q σ2 H2 ∧ L2.wipe σ2 vs = L2.wipe σ vs) ∧
  ∀ (v : List V) (σ : St) (H : Hp) (Q Q' : St → Hp → Prop), g v σ H Q → (∀ σ2 H2, Q σ2 H2 → Q' σ2 H2) → g v σ H Q'
theorem gsin_nil {vs : List Nat} : GsIn gNil vs := ⟨fun v σ H Q q => ⟨q.1, q.2, rfl⟩, fun v σ H Q Q' q hq => ⟨q.1, hq _ _ q.2⟩⟩
theorem gsin_cons {g : TG} {u : TGs} {vs : List Nat} (h1 : GIn g vs) (h2 : GsIn u vs) : GsIn (gCons g u) vs := by
  refine ⟨fun v σ H Q q => ?_, fun v σ H Q Q' q hq => ?_⟩
  · obtain ⟨x, r, e, q⟩ := q
    refine ⟨x, r, e, h1.2 x σ H _ _ (h1.1 x σ H _ q) ?_⟩
    rintro σ2 H2 ⟨z, w⟩
    refine h2.2 r σ2 H2 _ _ (h2.1 r σ2 H2 _ z) ?_
    rintro σ3 H3 ⟨z, w'⟩
    exact ⟨z, w'.trans w⟩
  · obtain ⟨x, r, e, q⟩ := q
    exact ⟨x, r, e, h1.2 x σ H _ _ q fun σ2 H2 z => h2.2 r σ2 H2 _ _ z hq⟩
theorem gin_tup {K : Frag} {n : Nat} {g : TGs} {vs : List Nat} (h : GsIn g vs) : GIn (gTup K n g) vs := by
  refine ⟨fun v σ H Q q => ?_, fun v σ H Q Q' q hq => ?_⟩
  · obtain ⟨a, xs, e, h1, h2, q⟩ := q
    exact ⟨a, xs, e, h1, h2, h.1 _ _ _ _ q⟩
  · obtain ⟨a, xs, e, h1, h2, q⟩ := q
    exact ⟨a, xs, e, h1, h2, h.2 _ _ _ _ _ q hq⟩
def mYes : MT := fun ρ => some (true, ρ)
theorem tok_yes {K : Frag} : TOk Θ K tYes mYes := by
  intro σ ρ B H b ρ' r e Q q
  cases e
  exact q B H r Step.refl
structure STs (Θ : Tb) (X : Cx) (ifs : List Expr) (m : MT) : Prop where
  pe : PTs X ifs (tM Θ X.K m)
theorem STs.ok {X : Cx} {e : List Expr} {m : MT} (_ : STs Θ X e m) : TOk Θ X.K (tM Θ X.K m) m := fun σ ρ B H d ρ' r e Q q => ⟨ρ, B, d, ρ', r, e, q⟩
theorem STs.of {X : Cx} {e : List Expr} {t : TT} {m : MT} (h : PTs X e t) (ok : TOk Θ X.K t m) : STs Θ X e m := ⟨⟨fun pins s σ H Q I ⟨ρ, B, d, ρ', r, e, q⟩ => h.run pins s σ H Q I (ok σ ρ B H d ρ' r e Q q)⟩⟩
theorem sts_nil : STs Θ X [] mYes := STs.of (pts_nil) (tok_yes)
theorem sf_lc {elt iter : Expr} {ifs : List Expr} {scope : Scope} {own : List (Str × Nat)} {g : TG} {mi : MI} {mg : MG} {mt : MT} (hN : X.N.Nodup) (hi : SI Θ X tg iter mi) (ok : BlkOk X.N X.env.scope scope own) (hgi : GIn g (own.map (·.2)))
    (hg : ∀ (s : Shared) (H : Hp) (C : Addr) (cl : List (Str × Addr)) (fp : List Addr), SG Θ (X.blk s H scope (compEnvC scope cl C X.env) fp) tg g mg) (ht : ∀ (s : Shared) (H : Hp) (C : Addr) (cl : List (Str × Addr)) (fp : List Addr), STs Θ (X.blk s H scope (compEnvC scope cl C X.env) fp) ifs mt)
    (he : ∀ (s : Shared) (H : Hp) (C : Addr) (cl : List (Str × Addr)) (fp : List Addr), SE Θ (X.blk s H scope (compEnvC scope cl C X.env) fp) elt ma) (hc : X.calm = true := by rfl) (hs : ∀ x, foldedSetIterable iter X.env x = pure x := by intro _; rfl) :
    SF Θ X (.ListComp elt [⟨tg, iter, ifs, 0⟩] scope pos) (mLcF mi (own.map (·.2)) mg mt ma) := by
  have i0 : Shared := X.s_0
  exact SF.of (pe_lc hc hN hi.pe ok (fun s H C cl fp => (hg s H C cl fp).pe) (fun s H C cl fp => (ht s H C cl fp).pe) (fun s H C cl fp => (he s H C cl fp).pe) hs) (fok_lc hi.ok (hg i0 (fun _ => none) 0 [] []).ok hgi (ht i0 (fun _ => none) 0 [] []).ok (he i0 (fun _ => none) 0 [] []).ok)
end
/-! ### defs -/
section
variable {P : Program} {w : World} {K : Frag} {mg : Str → Option Value} {base : Heap}
abbrev CxF (P : Program) (w : World) (K : Frag) (mg : Str → Option Value) (base : Heap) (N : List Str) (qual : Str) (st : Stmt) (f : Addr) (cdv : Value) (A : Around) (outer : List Env) (s : Shared) (H : Hp) (E : XK) : Cx := (cxOf CX0 P w K mg base N qual (defScope st) f cdv A outer s H E).nox
/-- .. called with n arguments -/
def runP (n N : Nat) (m : MS) : MFn := fun ss => if ss.length = n then runF N m ss else none
def runQ (n N : Nat) (m : MS) : MFF := fun ss => if ss.length = n then runG N m ss else none
theorem fn_ok {x qual : Str} {st : Stmt} {f : Addr} {fd : FuncData} {N ps : List Str} {k : Nat} {m : MS} {n np : Nat} (F : Fun K x qual st f fd) (S : FnScope N ps (defScope st)) (hn : N.length = n) (hp : ps.length = np)
    (hb : ∀ (cdv : Value) (A : Around) (outer : List Env) (s : Shared) (H : Hp) (E : XK), Room k (CxF P w K mg base N qual st f cdv A outer s H E).A → SB Θ (CxF P w K mg base N qual st f cdv A outer s H E) (defBody st) m) :
    FnOk P w K mg base CX0 (k + 1) f fd ps (SpF Θ K (runP np n m)) := by
  subst hn hp
  refine F.ok S (fun vs H Q E h => ?_) fun cdv A outer s H vs Q E hr h => ?_
  · obtain ⟨ρ, B, d, ρ', r, e, _⟩ := h
    have := r.len
    rw [List.length_map] at this
    rw [this]
    unfold runP at e
    split at e
    · assumption
    · cases e
  · have ht := hb cdv A outer s H E hr
    obtain ⟨ρ, B, d, ρ', r, e, q⟩ := h
    unfold runP at e
    split at e
    · exact ⟨_, ht.pe, body_ok (K := K) (E := E) ht.ok ⟨ρ, B, d, ρ', r, e, q⟩⟩
    · cases e
end
end DL
namespace DL
open PySem L2
variable {Θ : Tb} {W : WX}
section
variable {K : Frag}
theorem opok_sub : OpOk Θ K (rI0 fun i j => .int (i - j)) subD := opok_i0
theorem opok_fdiv : OpOk Θ K (rI CDiv fun i j => .int (i / j)) fdivD := opok_iC
theorem opok_mod : OpOk Θ K (rI (fun _ j => 0 < j) fun i j => .int (i % j)) modD := opok_iC
theorem opok_pow : OpOk Θ K (rI CPow fun i j => .int (i ^ j.toNat)) powD := opok_iC
theorem opok_lt : OpOk Θ K (rI0 fun i j => .bl (decide (i < j))) ltD := opok_cmp
theorem opok_le : OpOk Θ K (rI0 fun i j => .bl (decide (i ≤ j))) leD := opok_cmp
theorem opok_gt : OpOk Θ K (rI0 fun i j => .bl (decide (j < i))) gtD := opok_cmp
theorem opok_ge : OpOk Θ K (rI0 fun i j => .bl (decide (j ≤ i))) geD := opok_cmp
end
/-- how it binds keywords, all of them in its own order -/
def KwB (fd : FuncData) (ps : List Str) : Prop := ∀ (s : Shared) (us : List Value), us.length = ps.length → BindsTo s fd ⟨[], ps.zip us⟩ (ps.zip us)
/-- an own def as its callers see it -/
structure FnI (P : Program) (w : World) (K : Frag) (mg : Str → Option Value) (base : Heap) (x : Str) (ps : List Str) (k : Nat) (sp : Sp) : Prop where
  ex : ∃ (f : Addr) (fd : FuncData), FnOk P w K mg base CX0 k f fd ps sp ∧ mg x = some (.ref f) ∧ PySem.W.keepIn K (.ref f) = true ∧ Binds K fd ps [] ∧ KwB fd ps
/-- where a def of the text stands -/
structure DefAt (K : Frag) (mg : Str → Option Value) (x : Str) (st : Stmt) (ps : List Str) : Prop where
  ex : ∃ (f : Addr) (fd : FuncData), Fun K x x st f fd ∧ mg x = some (.ref f) ∧ Binds K fd ps [] ∧ KwB fd ps
section
variable {P : Program} {w : World} {K : Frag} {mg : Str → Option Value} {base : Heap}
theorem fni_ok {x : Str} {st : Stmt} {N ps : List Str} {k : Nat} {m : MS} {n np : Nat} (Dd : DefAt K mg x st ps) (S : FnScope N ps (defScope st)) (hn : N.length = n) (hp : ps.length = np)
    (hb : ∀ (f : Addr) (cdv : Value) (A : Around) (outer : List Env) (s : Shared) (H : Hp) (E : XK), Room k (CxF P w K mg base N x st f cdv A outer s H E).A → SB Θ (CxF P w K mg base N x st f cdv A outer s H E) (defBody st) m) :
    FnI P w K mg base x ps (k + 1) (SpF Θ K (runP np n m)) := by
  obtain ⟨f, fd, F, hm, hb'⟩ := Dd.ex
  exact ⟨f, fd, fn_ok F S hn hp (hb f), hm, F.kp, hb'⟩
end
section
variable {X : Cx} {pos p : Pos} {x : Str} {e : Expr} {es : List Expr} {t : TA} {ms : MAs}
theorem se_fn' {k j : Nat} {ps : List Str} {m : MFn} (F : FnI X.prog X.w X.K X.mg X.base x ps j (SpF Θ X.K m)) (ha : SA Θ X (e :: es) ms) (hr : Room k X.A := by assumption) (hj : j ≤ k := by first | decide | omega) (hg : Gl X x := by rfl)
    (hdb : (x == ("__debug__" : Str)) = false := by decide) (he : starEach (e :: es) X.env = (false, eval e X.env) :: starEach es X.env := by rfl) (hpl : (backTo pos (starEach es X.env)).any (·.1) = false := by rfl) :
    SE Θ X (.Call (.Name x p) (e :: es) [] pos) (mFn m ms) := by
  obtain ⟨f, fd, F, hm, hk, hb, _⟩ := F.ex
  exact se_fn F (hr.mono hj) hm hk hb ha hg hdb he hpl
/-- a def that only reads the own objects that it is handed and hands back a flat thing -/
def mFnB (m : MFn) (p : MAs) : ME := fun ρ => (p ρ).bind fun x => (rsvs x.2 x.1).bind fun ds => (m (ds.map .sh)).bind fun y => if flatD y.1 = true then some (y.1, x.2) else none
theorem se_gint' {i : Int} (hm : ∃ t, X.mg x = some (.int i t)) (hg : Gl X x := by rfl) (hd : (x == ("__debug__" : Str)) = false := by decide) : SE Θ X (.Name x pos) (mC (.int i)) := by
  obtain ⟨t, hm⟩ := hm
  exact se_gint hm hg hd
theorem se_gstr' {i : Str} (hm : ∃ t, X.mg x = some (.str i t)) (hg : Gl X x := by rfl) (hd : (x == ("__debug__" : Str)) = false := by decide) : SE Θ X (.Name x pos) (mC (.str i)) := by
  obtain ⟨t, hm⟩ := hm
  exact se_gstr hm hg hd
theorem Room.u65 {k : Nat} {A : Around} (hr : Room k A) : A.units + 65 < cLine := by have := hr.un; omega
theorem Room.u1 {k : Nat} {A : Around} (hr : Room k A) : A.units + 1 < cLine := by have := hr.un; omega
end
end DL
set_option Elab.async false
set_option linter.all false
set_option maxRecDepth 100000
set_option maxHeartbeats 2000000
/-! DL, further rules. -/
namespace DL
open PySem L2
variable {Θ : Tb} {W : WX}
def mFrz (i : Nat) (m : MS) : MS := fun ρ => m (frz i ρ)
section
variable {P : Program} {w : World} {K : Frag} {mg : Str → Option Value} {base : Heap}
end
section
variable {X : Cx} {pos p kpos : Pos} {x : Str} {nm : Option Str} {e a b : Expr} {es : List Expr} {kws : List Keyword} {ta tb te : TE} {t : TA} {ma mb : ME} {ms : MAs}
structure SK (Θ : Tb) (X : Cx) (kws : List Keyword) (m : MAs) : Prop where
  pe : PK X kws (tX Θ X.K m)
theorem SK.ok {X : Cx} {e : List Keyword} {m : MAs} (_ : SK Θ X e m) : AsOk Θ X.K (tX Θ X.K m) m := fun σ ρ B H d ρ' r e Q q => ⟨ρ, B, d, ρ', r, e, q⟩
theorem SK.of {X : Cx} {e : List Keyword} {t : TA} {m : MAs} (h : PK X e t) (ok : AsOk Θ X.K t m) : SK Θ X e m := ⟨⟨fun pos pins s σ H Q I ⟨ρ, B, d, ρ', r, e, q⟩ => h.run pos pins s σ H Q I (ok σ ρ B H d ρ' r e Q q)⟩⟩
/-! ### list(range(..)) -/
def mListRg1 (p : ME) : MF := fun ρ => (p ρ).bind fun x => match x.1 with
  | .int j => if -1000000 ≤ j ∧ j ≤ 1000000 then some (.lst (rngD 0 j.toNat), x.2) else none
  | _ => none
def mListRg2 (p q : ME) : MF := fun ρ => (p ρ).bind fun x => (q x.2).bind fun y => match x.1, y.1 with
  | .int i, .int j => if -1000000 ≤ i ∧ i ≤ 1000000 ∧ -1000000 ≤ j ∧ j ≤ 1000000 then some (.lst (rngD i (j - i).toNat), y.2) else none
  | _, _ => none
/-! ### [a] * n, kept by its maker -/
/-! ### enumerate -/
/-! ### name = [..] -/
theorem ss_setLc {i : Nat} {y : Str} {py spos : Pos} {tg elt iter : Expr} {ifs : List Expr} {scope : Scope} {own : List (Str × Nat)} {g : TG} {mi : MI} {mg : MG} {mt : MT} (hN : X.N.Nodup) (hi : SI Θ X tg iter mi) (ok : BlkOk X.N X.env.scope scope own) (hgi : GIn g (own.map (·.2)))
    (hg : ∀ (s : Shared) (H : Hp) (C : Addr) (cl : List (Str × Addr)) (fp : List Addr), SG Θ (X.blk s H scope (compEnvC scope cl C X.env) fp) tg g mg) (ht : ∀ (s : Shared) (H : Hp) (C : Addr) (cl : List (Str × Addr)) (fp : List Addr), STs Θ (X.blk s H scope (compEnvC scope cl C X.env) fp) ifs mt)
    (he : ∀ (s : Shared) (H : Hp) (C : Addr) (cl : List (Str × Addr)) (fp : List Addr), SE Θ (X.blk s H scope (compEnvC scope cl C X.env) fp) elt ma) (hc : X.calm = true := by rfl) (hy : X.N[i]? = some y := by rfl) (hyl : X.env.scope.names.lookup y = some .local := by rfl)
    (hsw : swapsWith (.ListComp elt [⟨tg, iter, ifs, 0⟩] scope pos) (some (.Name y py)) spos.line X.env = pure true := by exact sw_true rfl rfl rfl (by decide +kernel)) (hs : ∀ x, foldedSetIterable iter X.env x = pure x := by intro _; rfl) :
    SS Θ X (.Assign [.Name y py] (.ListComp elt [⟨tg, iter, ifs, 0⟩] scope pos) spos) (mAsg (fE (mLcF mi (own.map (·.2)) mg mt ma)) (gNm i)) := by
  have i0 : Shared := X.s_0
  exact SS.of (ps_setLc hc hN hy hyl hsw hi.pe ok (fun s H C cl fp => (hg s H C cl fp).pe) (fun s H C cl fp => (ht s H C cl fp).pe) (fun s H C cl fp => (he s H C cl fp).pe) hs) (sok_asg (fok_lc hi.ok (hg i0 (fun _ => none) 0 [] []).ok hgi (ht i0 (fun _ => none) 0 [] []).ok (he i0 (fun _ => none) 0 [] []).ok).e gok_name)
end
end DL
set_option Elab.async false
set_option linter.all false
set_option maxRecDepth 100000
set_option maxHeartbeats 4000000
/-! DL: enumerate over a tuple. -/
namespace PySem
open PyProof.Rows
theorem meets_enumerate_newB1 {v : Value} {o : Obj} {H : Heap → Prop} (B : Begins v o H) :
    Meets (Builtin.«enumerate.__new__» ⟨[.type "enumerate", v], []⟩) (fun _ R s => H s.heap ∧
      R (.ok (.ret (.ref (s.heap.push o).objs.size))) { s with heap := (s.heap.push o).push { cls := .type "enumerate", data := .fields #[.none, .bool false, .ref s.heap.objs.size, rawInt 0, .none, .none] } }) :=
  .of_wp fun prog w A R s ⟨h1, h⟩ => by
    obtain ⟨hp, g, d, tk, os⟩ := s
    have hsub := sub_enumerate
    have q1 : ∀ {A' : Around} {E : Value → Shared → Prop} {Q : Value → Shared → Prop}, Q (.ref hp.objs.size) ⟨hp.push o, g, d, tk, os⟩ → wpAny (model prog w) A' (pyIter v) Q E ⟨hp, g, d, tk, os⟩ :=
      fun q => B.iter prog w _ _ ⟨hp, g, d, tk, os⟩ _ h1 q
    wp_walk using q1
    refine wpAny_stack_any fun st => wpAny_pure ?_
    split
    · rename_i c _ _ _ _ _
      cases (c == Value.type "enumerate")
      · wp_walk using q1
        exact ⟨_, rfl, h⟩
      · wp_walk using q1
        exact ⟨_, rfl, h⟩
    · wp_walk using q1
      exact ⟨_, rfl, h⟩
theorem enum_begins1 {prog : Program} {w : World} {A : Around} {E : Value → Shared → Prop} {s : Shared} {v : Value} {o : Obj} {H : Heap → Prop} {Q : Value → Shared → Prop} (B : Begins v o H) (h1 : H s.heap)
    (h : ∀ h', IsEnum h' (s.heap.objs.size + 1) s.heap.objs.size 0 .none → h'.get? s.heap.objs.size = some o → h'.objs.size = s.heap.objs.size + 2 →
      (∀ b o, s.heap.get? b = some o → h'.get? b = some o) → Q (.ref (s.heap.objs.size + 1)) { s with heap := h' }) :
    wpAny (model prog w) A (call (.type "enumerate") [v]) Q E s := by
  refine callType_new F.called_enumerate (by decide) (F.typeCall_enumerate_1 _) (F.newCall_enumerate_1 _) (fun obj => F.args_object_init_2 obj _) F.entry_enumerate_new
    (meets_enumerate_newB1 B) ⟨h1, ?_⟩
  have hz : (s.heap.push o).objs.size = s.heap.objs.size + 1 := Heap.size_push ..
  show _ ∧ _
  rw [hz]
  have he : IsEnum ((s.heap.push o).push { cls := .type "enumerate", data := .fields #[.none, .bool false, .ref s.heap.objs.size, rawInt 0, .none, .none] }) (s.heap.objs.size + 1) s.heap.objs.size 0 .none := by
    have := Heap.get?_push_size (s.heap.push o) (o := { cls := .type "enumerate", data := .fields #[.none, .bool false, .ref s.heap.objs.size, rawInt 0, .none, .none] }) rfl
    rw [hz] at this; exact this
  refine ⟨⟨_, he, rfl⟩, h _ he (Heap.get?_push_of_some _ (Heap.get?_push_size _ B.free)) (by rw [Heap.size_push, hz]) fun b o x => Heap.get?_push_of_some _ (Heap.get?_push_of_some _ x)⟩
end PySem
namespace DL
open PySem L2 PyProof.Rows
/-- enumerate over the tuple at a -/
def IteT (K : PySem.W.Frag) (a : Addr) : It :=
  ⟨fun i H => ∃ (xs : List V) (x : V), SqT K H a xs ∧ xs[i]? = some x, fun i H v H' => ∃ T x, v = .ref T ∧ H T = none ∧ H' = upd H T (.tup [.int (i : Nat), x]) ∧ ∀ xs, SqT K H a xs → xs[i]? = some x, fun i H => ∃ xs : List V, SqT K H a xs ∧ xs.length ≤ i⟩
theorem turn_enumT {P : Program} {w : World} {K : PySem.W.Frag} {elts : List Expr} {kk : Nat} {tpos : Pos} (a e it : Addr) :
    Turn P w K (.Tuple elts kk tpos) (IteT K a) [e, it] e (fun i h => (∃ old, IsEnum h e it ((i : Nat) : Int) old) ∧ h.IsTupleIter it a i ∧ e ≠ it ∧ e ≠ a ∧ a ≠ it) where
  mem := by simp
  obj := fun i h st b hb => by
    obtain ⟨⟨old, he⟩, ⟨o, ho, hc, hd⟩, _⟩ := st
    have e' : b = e ∨ b = it := by simpa using hb
    rcases e' with z | z
    · rw [z]; exact ⟨_, he, fun v q => nomatch q⟩
    · rw [z]; exact ⟨o, ho, fun v q => by rw [hd] at q; cases q⟩
  keep := fun i h h' st k => let ⟨⟨old, he⟩, hi, hne⟩ := st; ⟨⟨old, k e (by simp) _ he⟩, hi.at fun o q => k it (by simp) o q, hne⟩
  item := by
    intro X hP hw hK hc i pins s σ H E I hf st hg
    subst hP hw hK
    obtain ⟨⟨old, he⟩, hit, hne, hea, hai⟩ := st
    obtain ⟨xs, x, hq, hx⟩ := hg
    obtain ⟨its, rv, p, hz⟩ := I.tuple hq
    obtain ⟨u, hu, ru⟩ := rv.get hx
    have hel : e < s.heap.objs.size := Heap.lt_size he
    have hil : it < s.heap.objs.size := by obtain ⟨_, q, _⟩ := hit; exact Heap.lt_size q
    have D : Draws X.prog X.w X.A.in1 it [it, a] its.toArray.size (fun i v => its.toArray[i]? = some v) (fun i h => h.IsTupleIter it a i ∧ h.IsTuple a its.toArray) := Draws.tuple (show X.A.in1.handled = none from I.ok.hd hc) it a hai its.toArray
    have hlt : i < its.toArray.size := by
      have := (List.getElem?_eq_some_iff.mp hu).1
      simpa using this
    refine wpAny_pyNext_enum_itemD D he ⟨hit, p⟩ hlt hne (by simp [hne, hea]) fun x' h' tk hP ho hit' hT hsz hk => ?_
    have ex : x' = u := by
      have : its.toArray[i]? = some u := by simpa using hu
      rw [this] at hP; exact (Option.some.inj hP).symm
    subst ex
    refine ⟨_, rfl, wpAny_letOwnedTupleGo_enum (s := { s with heap := h', toks := tk + 1 }) ho fun h'' he' sb => ?_⟩
    have hT2 : h''.get? s.heap.objs.size = some { cls := .type "tuple", data := .seq #[.int i tk, x'] } := (sb.2 _ (Nat.ne_of_gt hel)).trans hT
    have new : ObjOk X.prog X.w (upd H s.heap.objs.size (.tup [.int (i : Nat), x])) h'' s.heap.objs.size (.tup [.int (i : Nat), x]) :=
      ⟨by show 2 ≤ sizeLine; decide, [.int i tk, x'], .cons ⟨_, rfl⟩ (.cons ru .nil), ⟨_, hT2, rfl, _, rfl⟩⟩
    have I1 : L2.Inv X pins σ (upd H s.heap.objs.size (.tup [.int (i : Nat), x])) { s with heap := h'', toks := tk + 1 } :=
      I.turnedNew (ch := [e, it]) (fun b ob hb q => (sb.2 b (fun z => hb (by simp [z]))).trans (hk b ob (fun z => hb (by simp [z])) (fun z => hb (by simp [z])) q)) hf (Nat.le_refl _) new
    refine ⟨.ref s.heap.objs.size, _, I1, rfl, ⟨_, x, rfl, I.hok.fresh (Nat.le_refl _), rfl, fun ys hy => by rw [I.tuple_inj hy hq]; exact hx⟩, ⟨⟨x', ?_⟩, hit'.1.at fun o q => (sb.2 it (Ne.symm hne)).trans q, hne, hea, hai⟩, fun b hb => ?_⟩
    · have e1 : ((i + 1 : Nat) : Int) = (i : Int) + 1 := by omega
      rw [e1]; exact he'
    · have hb' : b < s.heap.objs.size := by
        have e' : b = e ∨ b = it := by simpa using hb
        rcases e' with z | z
        · rw [z]; exact hel
        · rw [z]; exact hil
      rw [upd_ne (Nat.ne_of_lt hb')]
      exact (hf b hb).1
  done := by
    intro X hP hw hK hc i pins s σ H E I hf st hg
    subst hP hw hK
    obtain ⟨⟨old, he⟩, hit, hne, hea, hai⟩ := st
    obtain ⟨xs, hq, hx⟩ := hg
    obtain ⟨its, rv, p, hz⟩ := I.tuple hq
    obtain ⟨f0, f1, f2, f3, f4, f5⟩ := hf it (by simp)
    have hl := rv.length
    have D : Draws X.prog X.w X.A.in1 it [it, a] i (fun _ _ => True) (fun j h => j = i ∧ h.IsTupleIter it a j ∧ h.IsTuple a its.toArray) := {
      live := fun _ _ q => let ⟨o, ho, _⟩ := q.2.1; ⟨o, ho⟩
      frame := fun _ _ _ q hk => ⟨q.1, q.2.1.at fun o e => hk it (by simp) o e, q.2.2.at fun o e => hk a (by simp) o e⟩
      item := fun j _ _ _ hj q _ => absurd q.1 (Nat.ne_of_lt hj)
      done := fun s Q E q hE => wpAny_nextOf_tuple_end (show X.A.in1.handled = none from I.ok.hd hc) q.2.1 q.2.2 (by rw [q.1]; simp; omega) hE }
    exact wpAny_pyNext_enum_endD D he ⟨rfl, hit, p⟩ fun h' eb => ⟨rfl, I.turned (t' := s.toks) (fun b o hb q => eb b o hb q) f0 f1 f3 f4 f5⟩
  self := fun A i s Q E st h => let ⟨⟨_, he⟩, _⟩ := st; wpAny_pyIter_enum he h
def iEnumT (K : PySem.W.Frag) (ta : TA) : TI := fun σ H R => ta σ H fun vs H1 => ∃ a xs, vs = [.ref a] ∧ SqT K H1 a xs ∧ R (IteT K a) H1
theorem pi_enumT {X : Cx} {e : Expr} {ta : TA} {p pos tpos : Pos} {elts : List Expr} {kk : Nat} (hg : Gl X "enumerate") (hm : X.mg "enumerate" = none) (ha : PA X [e] ta) (hs : starEach [e] X.env = [(false, eval e X.env)] := by rfl) :
    PI X (.Tuple elts kk tpos) (.Call (.Name "enumerate" p) [e] [] pos) (iEnumT X.K ta) := by
  refine ⟨fun pins s σ H R I h => ?_⟩
  refine Call_ (ld_blt I hg hm boot_enumerate (PyProof.Rows.callWith_type1 (thn (ha.run pos pins s σ H _ I h) fun us s1 ⟨vs, H1, I1, r1, ⟨a, xs, ex, hq, q⟩⟩ => ?_) hs rfl))
  subst ex
  cases r1 with
  | cons r rr =>
    cases rr
    cases r
    obtain ⟨its, rv, p', hz⟩ := I1.tuple hq
    have hal : a < s1.heap.objs.size := by obtain ⟨_, q, _⟩ := p'; exact Heap.lt_size q
    refine enum_begins1 (begins_tuple a its.toArray) p' fun h' he hit hsz hk => wpAny_pyIter_enum he ?_
    have I2 : L2.Inv X pins σ H1 { s1 with heap := h' } := I1.kept (t' := s1.toks) hk
    have hit2 : h'.IsTupleIter s1.heap.objs.size a 0 := ⟨_, hit, rfl, rfl⟩
    refine ⟨s1.heap.objs.size + 1, [s1.heap.objs.size + 1, s1.heap.objs.size], _, _, H1, rfl, I2, turn_enumT a (s1.heap.objs.size + 1) s1.heap.objs.size, ⟨⟨.none, he⟩, hit2, Nat.succ_ne_self _, Nat.ne_of_gt (Nat.lt_succ_of_lt hal), Nat.ne_of_lt hal⟩, fun b hb => ?_, q⟩
    have hle : s1.heap.objs.size ≤ b := by
      have e' : b = s1.heap.objs.size + 1 ∨ b = s1.heap.objs.size := by simpa using hb
      exact e'.elim (fun z => z ▸ Nat.le_succ _) fun z => z ▸ Nat.le_refl _
    exact I1.fpOk hle (I1.hok.fresh hle)
section
variable {K : Frag}
theorem walks_enumT {B : Hp} {a : Addr} {vs : List V} {ds : List D} (hk : SqT K B a vs) (r : RpAll K B vs ds) : Walks K (IteT K a) B (enumD 0 ds) := by
  refine ⟨fun i H d e hd => ?_, fun i H e hl => ⟨vs, Evl.ex_t e hk, by rw [enumD_len] at hl; rw [r.length]; exact hl⟩⟩
  have hi : i < ds.length := by
    have := (List.getElem?_eq_some_iff.mp hd).1
    rwa [enumD_len] at this
  obtain ⟨d0, hd0⟩ : ∃ d, ds[i]? = some d := ⟨_, List.getElem?_eq_getElem hi⟩
  rw [enumD_get ds 0 i d0 hd0] at hd
  cases hd
  obtain ⟨v, h1, h2⟩ := r.get hd0
  refine ⟨⟨vs, v, Evl.ex_t e hk, h1⟩, fun x H' ⟨T, y, e1, e2, e3, q⟩ => .inr ⟨T, [.int (i : Nat), y], _, e1, e2, e3, .cons ?_ (.cons ?_ .nil), rfl⟩⟩
  · rw [show ((0 + i : Nat) : Int) = (i : Int) by omega]; exact .int _
  · rw [Option.some.inj (h1.symm.trans (q vs (Evl.ex_t e hk)))] at h2
    exact h2
/-- enumerate of a list or a tuple -/
def mEnumA (p : ME) : MI := fun ρ => (p ρ).bind fun x => (itemsD x.1).map fun ds => (enumD 0 ds, x.2)
theorem iok_enumA {te : TE} {p : ME} (h : EOk Θ K te p) : IOk Θ K (fun σ H R => iEnum K (tCons te tNil) σ H R ∨ iEnumT K (tCons te tNil) σ H R) (mEnumA p) := by
  intro σ ρ B H ds ρ' r e R q
  simp only [mEnumA, Option.bind_eq_some_iff, Option.map_eq_some_iff] at e
  obtain ⟨⟨d, ρ1⟩, e1, ds', e2, e3⟩ := e
  cases e3
  cases ht : isTupD d with
  | false =>
    refine .inl (h σ ρ B H d _ r e1 _ fun v B1 H1 r1 s1 rv => ?_)
    obtain ⟨a, vs, rfl, h1, h2⟩ := rv.itemsL e2 ht
    exact ⟨a, vs, rfl, Evl.ex_l r1.ex h1, q _ B1 H1 r1 s1 (walks_enum h1 h2)⟩
  | true =>
    refine .inr (h σ ρ B H d _ r e1 _ fun v B1 H1 r1 s1 rv => ?_)
    obtain ⟨a, vs, rfl, h1, h2⟩ := rv.itemsT e2 ht
    exact ⟨a, vs, rfl, Evl.ex_t r1.ex h1, q _ B1 H1 r1 s1 (walks_enumT h1 h2)⟩
end
theorem si_enumA {X : Cx} {e : Expr} {ma : ME} {p pos : Pos} {elts : List Expr} {kk : Nat} {tpos : Pos} (hm : X.mg "enumerate" = none) (ha : SE Θ X e ma) (hg : Gl X "enumerate" := by rfl) (hs : starEach [e] X.env = [(false, eval e X.env)] := by rfl) :
    SI Θ X (.Tuple elts kk tpos) (.Call (.Name "enumerate" p) [e] [] pos) (mEnumA ma) := SI.of (PI.or (pi_enum hg hm (pa_cons ha.pe pa_nil hs) hs) (pi_enumT hg hm (pa_cons ha.pe pa_nil hs) hs)) (iok_enumA ha.ok)
end DL
set_option Elab.async false
set_option linter.all false
set_option maxRecDepth 100000
set_option maxHeartbeats 4000000
/-! DL: a, b = x, y and a, b, c = x, y, z. The items are data or new objects of our own; behind a new object only items that change nothing (names, constants, empty displays). -/
namespace DL
open PySem L2
variable {Θ : Tb} {W : WX}
abbrev MN := Rho → Option (List Sl × Rho)
section
variable {K : Frag}
theorem Step.setOw2 {σ σ1 : St} {ρ ρ1 : Rho} {B H B1 H1 : Hp} {i : Nat} {p : Addr} {c : OC} (s : Step σ ρ B H σ1 ρ1 B1 H1) (len : σ1.length = ρ1.length) (hi : isIo ρ1[i]? = false) (hp : H p = none) :
    Step σ ρ B H (σ1.set i (some (.ref p))) (ρ1.set i (.ow c)) B1 H1 := by
  refine ⟨s.ex, s.keep, s.dom, fun a ⟨j, t, c', h1, h2, h3⟩ => ?_, s.new, fun j c' hj => ?_, fun a ⟨j, c', h1, h2⟩ => ?_⟩
  · rcases get_set_sh h1 with ⟨rfl, rfl, hl'⟩ | ⟨ne, h1⟩
    · rw [set_lt (by rw [len]; exact hl')] at h3
      cases h3
      exact .inr hp
    · rw [List.getElem?_set_ne (Ne.symm ne)] at h3
      exact s.own a ⟨j, t, c', h1, h2, h3⟩
  · obtain ⟨e, c1, h1⟩ := s.io j c' hj
    have ne : j ≠ i := fun e => isIo_no hi c1 (e ▸ h1)
    rw [List.getElem?_set_ne (Ne.symm ne), List.getElem?_set_ne (Ne.symm ne)]
    exact ⟨e, c1, h1⟩
  · rcases get_set_sh h1 with ⟨rfl, e, hl'⟩ | ⟨ne, h1⟩
    · rw [set_lt (by rw [len]; exact hl')] at h2
      cases h2
      exact .inr hp
    · rw [List.getElem?_set_ne (Ne.symm ne)] at h2
      exact s.ow a ⟨j, c', h1, h2⟩
/-- v may go to a slot as s: data, or a new object that no slot has yet (H0 had it not) -/
def PenO (Θ : Tb) (K : Frag) (σ : St) (ρ : Rho) (B H H0 : Hp) (v : V) : Sl → Prop
  | .sh d => Rp K B v d
  | .ow c => ∃ p, v = .ref p ∧ H0 p = none ∧ B p = none ∧ ¬ Own σ ρ p ∧ OwAt K B H p c
  | _ => False
def Pend (Θ : Tb) (K : Frag) (σ : St) (ρ : Rho) (B H H0 : Hp) : List V → List Sl → Prop
  | [], [] => True
  | v :: vs, s :: ss => PenO Θ K σ ρ B H H0 v s ∧ (∀ c p, s = .ow c → v = .ref p → ∀ q c', (V.ref q, Sl.ow c') ∈ vs.zip ss → q ≠ p) ∧ Pend Θ K σ ρ B H H0 vs ss
  | _, _ => False
theorem PenO.back {σ : St} {ρ : Rho} {B H H0 H1 : Hp} {v : V} {s : Sl} (h : PenO Θ K σ ρ B H H1 v s) (e : ∀ a, H1 a = none → H0 a = none) : PenO Θ K σ ρ B H H0 v s := by
  cases s with
  | sh d => exact h
  | ow c => obtain ⟨p, h1, h2, h3⟩ := h; exact ⟨p, h1, e p h2, h3⟩
  | no => exact h
  | er _ _ => exact h
  | io c => exact h
theorem Pend.back {σ : St} {ρ : Rho} {B H H0 H1 : Hp} (e : ∀ a, H1 a = none → H0 a = none) : ∀ {vs : List V} {ss : List Sl}, Pend Θ K σ ρ B H H1 vs ss → Pend Θ K σ ρ B H H0 vs ss
  | [], [], _ => trivial
  | _ :: _, _ :: _, h => ⟨h.1.back e, h.2.1, Pend.back e h.2.2⟩
  | [], _ :: _, h => h.elim
  | _ :: _, [], h => h.elim
theorem Pend.new {σ : St} {ρ : Rho} {B H H1 : Hp} : ∀ {vs : List V} {ss : List Sl}, Pend Θ K σ ρ B H H1 vs ss → ∀ q c, (V.ref q, Sl.ow c) ∈ vs.zip ss → H1 q = none
  | [], [], _, q, c, m => nomatch m
  | v :: vs, s :: ss, h, q, c, m => by
    rcases List.mem_cons.mp m with e | m
    · cases e
      obtain ⟨p, h1, h2, _⟩ := h.1
      cases h1
      exact h2
    · exact Pend.new h.2.2 q c m
  | [], _ :: _, h, _, _, _ => h.elim
  | _ :: _, [], h, _, _, _ => h.elim
def NsOk (Θ : Tb) (K : Frag) (t : TA) (m : MN) : Prop := ∀ (σ : St) (ρ : Rho) (B H : Hp) (ss : List Sl) (ρ' : Rho), SR Θ K σ ρ B H → m ρ = some (ss, ρ') →
  ∀ Q : List V → Hp → Prop, (∀ (vs : List V) (B' H' : Hp), SR Θ K σ ρ' B' H' → Step σ ρ B H σ ρ' B' H' → Pend Θ K σ ρ' B' H' H vs ss → Q vs H') → t σ H Q
def QvOk (Θ : Tb) (K : Frag) (t : TE) (m : Rho → Option (Sl × Rho)) : Prop := ∀ (σ : St) (ρ : Rho) (B H : Hp) (s : Sl) (ρ' : Rho), SR Θ K σ ρ B H → m ρ = some (s, ρ') →
  ρ' = ρ ∧ ∀ Q : VK, (∀ (v : V) (H' : Hp), SR Θ K σ ρ B H' → Step σ ρ B H σ ρ B H' → (∀ a o, H a = some o → H' a = some o) → PenO Θ K σ ρ B H' H v s → (∀ c p, s = .ow c → v = .ref p → ∃ o, H' p = some o) → Q v H') → t σ H Q
def QsOk (Θ : Tb) (K : Frag) (t : TA) (m : MN) : Prop := ∀ (σ : St) (ρ : Rho) (B H : Hp) (ss : List Sl) (ρ' : Rho), SR Θ K σ ρ B H → m ρ = some (ss, ρ') →
  ρ' = ρ ∧ ∀ Q : List V → Hp → Prop, (∀ (vs : List V) (H' : Hp), SR Θ K σ ρ B H' → Step σ ρ B H σ ρ B H' → (∀ a o, H a = some o → H' a = some o) → Pend Θ K σ ρ B H' H vs ss → Q vs H') → t σ H Q
theorem PenO.mono {σ : St} {ρ : Rho} {B H H' H0 : Hp} {v : V} {s : Sl} (h : PenO Θ K σ ρ B H H0 v s) (k : ∀ a o, H a = some o → H' a = some o) : PenO Θ K σ ρ B H' H0 v s := by
  cases s with
  | sh d => exact h
  | ow c => obtain ⟨p, h1, h2, h3, h4, h5⟩ := h; exact ⟨p, h1, h2, h3, h4, h5.mono (Evl.Ex.refl _) fun o => fun _ => k p o⟩
  | no => exact h
  | er _ _ => exact h
  | io c => exact h
def nNil : MN := fun ρ => some ([], ρ)
def nE (m : ME) (r : MN) : MN := fun ρ => (m ρ).bind fun x => (r x.2).map fun y => (.sh x.1 :: y.1, y.2)
def nF (m : MF) (r : MN) : MN := fun ρ => (m ρ).bind fun x => (r x.2).map fun y => (.ow x.1 :: y.1, y.2)
theorem upd_keeps {H : Hp} {p : Addr} {o : HO} (hp : H p = none) : ∀ a x, H a = some x → upd H p o a = some x := fun a x z => by
  have ne : a ≠ p := fun e => by rw [e, hp] at z; cases z
  rw [upd_ne ne]; exact z
theorem qsok_nil : QsOk Θ K tNil nNil := by
  intro σ ρ B H ss ρ' r e
  cases e
  exact ⟨rfl, fun Q q => q [] H r Step.refl (fun _ _ z => z) trivial⟩
theorem nsok_q {t : TA} {m : MN} (h : QsOk Θ K t m) : NsOk Θ K t m := by
  intro σ ρ B H ss ρ' r e Q q
  obtain ⟨z, h1⟩ := h σ ρ B H ss ρ' r e
  subst z
  exact h1 Q fun vs H' r' s' _ p => q vs B H' r' s' p
theorem nsok_e {te : TE} {tr : TA} {m : ME} {n : MN} (h : EOk Θ K te m) (hr : NsOk Θ K tr n) : NsOk Θ K (tCons te tr) (nE m n) := by
  intro σ ρ B H ss ρ' r e Q q
  simp only [nE, Option.bind_eq_some_iff, Option.map_eq_some_iff] at e
  obtain ⟨⟨d, ρ1⟩, e1, ⟨tt, ρ2⟩, e2, e3⟩ := e
  cases e3
  refine h σ ρ B H d ρ1 r e1 _ fun v B1 H1 r1 s1 rv => ?_
  refine hr σ ρ1 B1 H1 tt ρ2 r1 e2 _ fun vs B2 H2 r2 s2 p2 => ?_
  exact q _ B2 H2 r2 (s1.trans s2) ⟨rv.mono s2.ex, (fun c p z => nomatch z), p2.back fun a z => s1.dom a z⟩
/-! ### the stores -/
def plainSl : Sl → Bool
  | .sh _ => true
  | .ow _ => true
  | _ => false
def setS : List Nat → List Sl → Rho → Option Rho
  | [], [], ρ => some ρ
  | i :: is, s :: ss, ρ => if isIo ρ[i]? = false ∧ i < ρ.length ∧ plainSl s = true then setS is ss (ρ.set i s) else none
  | _, _, _ => none
def setV : List Nat → List V → St → St
  | i :: is, v :: vs, σ => setV is vs (σ.set i (some v))
  | _, _, σ => σ
theorem own_set {σ : St} {ρ : Rho} {i : Nat} {v : V} {s : Sl} {q : Addr} (len : σ.length = ρ.length) (h : Own (σ.set i (some v)) (ρ.set i s) q) : Own σ ρ q ∨ ∃ c, s.oc = some c ∧ v = .ref q := by
  obtain ⟨j, t, c, h1, h2, h3⟩ := h
  rcases get_set_sh h1 with ⟨rfl, rfl, hl⟩ | ⟨ne, h1⟩
  · rw [set_lt (by rw [len]; exact hl)] at h3
    cases h3
    exact .inr ⟨c, h2, rfl⟩
  · rw [List.getElem?_set_ne (Ne.symm ne)] at h3
    exact .inl ⟨j, t, c, h1, h2, h3⟩
theorem Pend.set {σ : St} {ρ : Rho} {B H H0 : Hp} {i : Nat} {v : V} {s : Sl} (len : σ.length = ρ.length) : ∀ {vs : List V} {ss : List Sl}, (∀ c p, s = .ow c → v = .ref p → ∀ q c', (V.ref q, Sl.ow c') ∈ vs.zip ss → q ≠ p) → plainSl s = true →
    Pend Θ K σ ρ B H H0 vs ss → Pend Θ K (σ.set i (some v)) (ρ.set i s) B H H0 vs ss
  | [], [], _, _, _ => trivial
  | u :: vs, t :: ss, hd, hp, h => by
    refine ⟨?_, h.2.1, Pend.set len (fun c p e1 e2 q c' m => hd c p e1 e2 q c' (List.mem_cons_of_mem _ m)) hp h.2.2⟩
    have h1 := h.1
    cases t with
    | sh d => exact h1
    | ow c =>
      obtain ⟨p, rfl, h2, h3, h4, h5⟩ := h1
      refine ⟨p, rfl, h2, h3, fun ho => ?_, h5⟩
      rcases own_set len ho with z | ⟨c', z, rfl⟩
      · exact h4 z
      · cases s with
        | ow k => exact hd k p rfl rfl p c (List.mem_cons_self ..) rfl
        | sh d => cases z
        | no => cases z
        | er _ _ => cases z
        | io k => cases hp
    | no => exact h1
    | er _ _ => exact h1
    | io c => exact h1
  | [], _ :: _, _, _, h => h.elim
  | _ :: _, [], _, _, h => h.elim
theorem setAll {σ0 : St} {ρ0 : Rho} {B0 H0 : Hp} {B H : Hp} : ∀ (is : List Nat) (vs : List V) (ss : List Sl) (σ : St) (ρ ρ' : Rho), SR Θ K σ ρ B H → Step σ0 ρ0 B0 H0 σ ρ B H → Pend Θ K σ ρ B H H0 vs ss → setS is ss ρ = some ρ' →
    SR Θ K (setV is vs σ) ρ' B H ∧ Step σ0 ρ0 B0 H0 (setV is vs σ) ρ' B H
  | [], [], [], σ, ρ, ρ', r, s, _, e => by cases e; exact ⟨r, s⟩
  | i :: is, v :: vs, s :: ss, σ, ρ, ρ', r, st, h, e => by
    unfold setS at e
    split at e
    · rename_i hc
      have h3 := Pend.set (i := i) (v := v) (s := s) r.len h.2.1 hc.2.2 h.2.2
      have h1 := h.1
      cases s with
      | sh d =>
        obtain ⟨r1, s1⟩ := r.setSh hc.1 h1
        exact setAll is vs ss _ _ ρ' r1 (st.trans s1) h3 e
      | ow c =>
        obtain ⟨p, rfl, q2, q3, q4, q5⟩ := h1
        exact setAll is vs ss _ _ ρ' (r.setOw hc.1 hc.2.1 q3 q4 q5) (st.setOw2 r.len hc.1 q2) h3 e
      | no => cases hc.2.2
      | er _ _ => cases hc.2.2
      | io c => cases hc.2.2
    · cases e
  | [], _ :: _, [], _, _, _, _, _, h, _ => h.elim
  | _ :: _, [], [], _, _, _, _, _, _, e => by cases e
  | [], [], _ :: _, _, _, _, _, _, h, _ => h.elim
  | [], _ :: _, _ :: _, _, _, _, _, _, _, e => by cases e
  | _ :: _, [], _ :: _, _, _, _, _, _, h, _ => h.elim
  | _ :: _, _ :: _, [], _, _, _, _, _, h, _ => h.elim
def mPar (is : List Nat) (m : MN) : MS := fun ρ => (m ρ).bind fun x => (setS is x.1 x.2).map .nx
theorem Pend.len {σ : St} {ρ : Rho} {B H H0 : Hp} : ∀ {vs : List V} {ss : List Sl}, Pend Θ K σ ρ B H H0 vs ss → vs.length = ss.length
  | [], [], _ => rfl
  | _ :: _, _ :: _, h => congrArg (· + 1) (Pend.len h.2.2)
  | [], _ :: _, h => h.elim
  | _ :: _, [], h => h.elim
theorem setS_len : ∀ {is : List Nat} {ss : List Sl} {ρ ρ' : Rho}, setS is ss ρ = some ρ' → ss.length = is.length
  | [], [], _, _, _ => rfl
  | i :: is, s :: ss, ρ, ρ', e => by
    unfold setS at e
    split at e
    · exact congrArg (· + 1) (setS_len e)
    · cases e
  | [], _ :: _, _, _, e => by cases e
  | _ :: _, [], _, _, e => by cases e
theorem sok_par {i j : Nat} {ta : TA} {m : MN} (h : NsOk Θ K ta m) : SOk Θ W K (tPar i j ta) (mPar [i, j] m) := by
  intro σ ρ B H D' o r e w
  simp only [mPar, Option.bind_eq_some_iff, Option.map_eq_some_iff] at e
  obtain ⟨⟨ss, ρ1⟩, e1, ρ2, e2, e3⟩ := e
  cases e3
  refine h σ ρ B H ss ρ1 r e1 _ fun vs B1 H1 r1 s1 p1 => ?_
  have hl := p1.len.trans (setS_len e2)
  match vs, hl with
  | [v, u], _ =>
    obtain ⟨r2, s2⟩ := setAll _ _ _ _ _ _ r1 s1 p1 e2
    exact ⟨v, u, rfl, w _ B1 H1 r2 s2⟩
/-! ### in the text -/
def tNs (Θ : Tb) (K : Frag) (m : MN) : TA := fun σ H Q => ∃ (ρ : Rho) (B : Hp) (ss : List Sl) (ρ' : Rho), SR Θ K σ ρ B H ∧ m ρ = some (ss, ρ') ∧
  ∀ (vs : List V) (B' H' : Hp), SR Θ K σ ρ' B' H' → Step σ ρ B H σ ρ' B' H' → Pend Θ K σ ρ' B' H' H vs ss → Q vs H'
structure SN (Θ : Tb) (X : Cx) (es : List Expr) (m : MN) : Prop where
  pe : PA X es (tNs Θ X.K m)
theorem SN.ok {X : Cx} {es : List Expr} {m : MN} (_ : SN Θ X es m) : NsOk Θ X.K (tNs Θ X.K m) m := fun σ ρ B H ss ρ' r e Q q => ⟨ρ, B, ss, ρ', r, e, q⟩
theorem SN.of {X : Cx} {es : List Expr} {t : TA} {m : MN} (h : PA X es t) (ok : NsOk Θ X.K t m) : SN Θ X es m := ⟨⟨fun pos pins s σ H Q I ⟨ρ, B, ss, ρ', r, e, q⟩ => h.run pos pins s σ H Q I (ok σ ρ B H ss ρ' r e Q q)⟩⟩
structure SQ (Θ : Tb) (X : Cx) (es : List Expr) (t : TA) (m : MN) : Prop where
  pe : PA X es t
  ok : QsOk Θ X.K t m
structure SQ1 (Θ : Tb) (X : Cx) (e : Expr) (t : TE) (m : Rho → Option (Sl × Rho)) : Prop where
  pe : PE X e t
  ok : QvOk Θ X.K t m
end
section
variable {X : Cx} {pos : Pos} {e : Expr} {es : List Expr} {t : TE} {ts : TA} {m : Rho → Option (Sl × Rho)} {ma : ME} {mf : MF} {n : MN}
theorem sq_nil : SQ Θ X [] tNil nNil := ⟨pa_nil, qsok_nil⟩
theorem sn_q (h : SQ Θ X es ts n) : SN Θ X es n := SN.of h.pe (nsok_q h.ok)
theorem sn_e (h : SE Θ X e ma) (hr : SN Θ X es n) (hs : starEach (e :: es) X.env = (false, eval e X.env) :: starEach es X.env := by rfl) : SN Θ X (e :: es) (nE ma n) := SN.of (pa_cons h.pe hr.pe hs) (nsok_e h.ok hr.ok)
theorem ss_par {i j : Nat} {x y : Str} {a b : Expr} {px py pt : Pos} {kt k2 pt2} (hN : X.N.Nodup) (h : SN Θ X [a, b] n) (hij : i ≠ j := by decide) (hc : X.calm = true := by rfl) (hi : X.N[i]? = some x := by rfl) (hj : X.N[j]? = some y := by rfl)
    (hx : X.env.scope.names.lookup x = some .local := by rfl) (hy : X.env.scope.names.lookup y = some .local := by rfl)
    (hw : swappedStores [.Tuple [.Name x px, .Name y py] kt pt] (.Tuple [a, b] k2 pt2) X.env = pure (some [x, y]) := by rfl)
    (hs : swapsWithSole [.Tuple [.Name x px, .Name y py] kt pt] (.Tuple [a, b] k2 pt2) pos.line X.env = pure false := by rfl) :
    SS Θ X (.Assign [.Tuple [.Name x px, .Name y py] kt pt] (.Tuple [a, b] k2 pt2) pos) (mPar [i, j] n) := SS.of (ps_par hc hN hi hj hij hx hy h.pe hw hs) (sok_par h.ok)
end
end DL
set_option Elab.async false
set_option linter.all false
set_option maxRecDepth 100000
set_option maxHeartbeats 4000000
/-! DL: slices, xs[::-1], sorted of ints, list.pop(i), list.extend. -/
namespace DL
open PySem L2
variable {Θ : Tb} {W : WX}
abbrev MO := Rho → Option (Option Int × Rho)
section
variable {K : Frag}
def OOk (Θ : Tb) (K : Frag) (t : TO) (m : MO) : Prop := ∀ (σ : St) (ρ : Rho) (B H : Hp) (o : Option Int) (ρ' : Rho), SR Θ K σ ρ B H → m ρ = some (o, ρ') →
  ∀ Q : Option Int → Hp → Prop, (∀ (B' H' : Hp), SR Θ K σ ρ' B' H' → Step σ ρ B H σ ρ' B' H' → Q o H') → t σ H Q
def oNone : MO := fun ρ => some (none, ρ)
def oSome (m : ME) : MO := fun ρ => (m ρ).bind fun x => match x.1 with
  | .int i => some (some i, x.2)
  | _ => none
theorem ook_none : OOk Θ K tNoPart oNone := by
  intro σ ρ B H o ρ' r e Q q
  cases e
  exact q B H r Step.refl
theorem ook_some {te : TE} {m : ME} (h : EOk Θ K te m) : OOk Θ K (tPart te) (oSome m) := by
  intro σ ρ B H o ρ' r e Q q
  simp only [oSome, Option.bind_eq_some_iff] at e
  obtain ⟨⟨d, ρ1⟩, e1, e2⟩ := e
  split at e2
  · rename_i i hd
    cases e2
    subst hd
    refine h σ ρ B H _ _ r e1 _ fun v B1 H1 r1 s1 rv => ?_
    cases rv
    exact ⟨i, rfl, q B1 H1 r1 s1⟩
  · cases e2
def cutD (xs : List D) (lo hi : Option Int) : List D := (xs.drop (HT.sIx xs.length 0 lo)).take (HT.sIx xs.length xs.length hi - HT.sIx xs.length 0 lo)
theorem RpAll.cut {B : Hp} {vs : List V} {ds : List D} (lo hi : Option Int) (h : RpAll K B vs ds) : RpAll K B (cutV vs lo hi) (cutD ds lo hi) := by
  unfold cutV cutD
  rw [h.length]
  exact (h.drop _).take _
def slD : D → Option Int → Option Int → Option D
  | .list ds, lo, hi => some (.list (cutD ds lo hi))
  | .tuple ds, lo, hi => some (.tuple (cutD ds lo hi))
  | .str z, lo, hi => if z.length ≤ 100000 then some (.str (cutS z lo hi)) else none
  | .dict [(.none, .list ds)], lo, hi => some (.list (cutD ds lo hi))
  | _, _, _ => none
def rSlice (K : Frag) : V → Option Int → Option Int → Hp → VK → Prop := fun x lo hi H Q => rSlL K x lo hi H Q ∨ rSlA K x lo hi H Q ∨ rSlS x lo hi H Q
theorem sl_any {X : Cx} : SlR X (rSlice X.K) := SlR.or sl_list (SlR.or sl_tupA sl_str)
def mSl (p : MP) (lo hi : MO) : ME := fun ρ => (p ρ).bind fun x => (lo x.2).bind fun a => (hi a.2).bind fun b => (rsv b.2 x.1).bind fun d => (slD d a.1 b.1).map fun z => (z, b.2)
theorem cut_all {α : Type} {xs : List α} {n m : Nat} (h1 : n = 0) (h2 : m = xs.length) : (xs.drop n).take (m - n) = xs := by
  subst h1 h2
  simp
theorem eok_sl {te : TE} {tl th : TO} {p : MP} {lo hi : MO} (h : POk Θ K te p) (hl : OOk Θ K tl lo) (hh : OOk Θ K th hi) : EOk Θ K (tSl (rSlice K) te tl th) (mSl p lo hi) := by
  intro σ ρ B H d ρ' r e Q q
  simp only [mSl, Option.bind_eq_some_iff, Option.map_eq_some_iff] at e
  obtain ⟨⟨x, ρ1⟩, e1, ⟨a, ρ2⟩, e2, ⟨b, ρ3⟩, e3, d0, e4, z, e5, e6⟩ := e
  cases e6
  refine h σ ρ B H x ρ1 r e1 _ fun v B1 H1 r1 s1 a1 => ?_
  refine hl σ ρ1 B1 H1 a ρ2 r1 e2 _ fun B2 H2 r2 s2 => ?_
  refine hh σ ρ2 B2 H2 b _ r2 e3 _ fun B3 H3 r3 s3 => ?_
  have vw := rsv_vw r3 (a1.mono (s2.trans s3).ex) e4
  have st := (s1.trans s2).trans s3
  have list : ∀ (c : Addr) (vs : List V) (ds : List D), v = .ref c → SqL K H3 c vs → RpAll K B3 vs ds → d = .list (cutD ds a b) → rSlice K v a b H3 Q := fun c vs ds e1 h1 h2 e2 => by
    subst e2
    refine .inl ⟨c, vs, e1, h1, fun p hp => ?_⟩
    obtain ⟨r4, s4, eB⟩ := r3.add (o := .lst (cutV vs a b)) hp
    exact q _ _ _ r4 (st.trans s4) (.lst upd_same ((h2.cut a b).mono eB))
  unfold slD at e5
  split at e5
  · cases e5
    obtain ⟨c, vs, rfl, h1, h2⟩ := vw.lst r3.ex
    exact list c vs _ rfl (SqL.of h1) h2 rfl
  · cases e5
    obtain ⟨c, vs, rfl, h1, h2, h3⟩ := vw.tup r3.ex
    refine .inr (.inl ⟨c, vs, rfl, SqT.of h1, fun hw => ?_, fun _ p hp => ?_⟩)
    · have hc : ∀ es : List D, vs.length = es.length → cutD es a b = es := fun es hl => by unfold cutD; rw [← hl]; exact cut_all hw.1 (hw.2.trans hl)
      rw [hc _ h2.length] at q
      exact q _ _ _ r3 st h3
    · obtain ⟨r4, s4, eB⟩ := r3.add (o := .tup (cutV vs a b)) hp
      exact q _ _ _ r4 (st.trans s4) (.tup upd_same ((h2.cut a b).mono eB))
  · split at e5
    · rename_i hz
      cases e5
      have := vw.str
      subst this
      exact .inr (.inr ⟨_, rfl, Evl.sz_of hz, q _ _ _ r3 st (.str _)⟩)
    · cases e5
  · cases e5
    obtain ⟨c, vs, rfl, h1, h2⟩ := vw.lkl r3.ex
    exact list c vs _ rfl h1 h2 rfl
  · cases e5
/-! ### xs[::-1] -/
/-! ### sorted(xs) of a list of ints -/
/-! ### list.pop(i) -/
/-! ### list.index(x), list.extend(xs) -/
end
def tOo (Θ : Tb) (K : Frag) (m : MO) : TO := fun σ H Q => ∃ (ρ : Rho) (B : Hp) (o : Option Int) (ρ' : Rho), SR Θ K σ ρ B H ∧ m ρ = some (o, ρ') ∧ ∀ (B' H' : Hp), SR Θ K σ ρ' B' H' → Step σ ρ B H σ ρ' B' H' → Q o H'
structure SO (Θ : Tb) (X : Cx) (e : Option Expr) (m : MO) : Prop where
  pe : PO X e (tOo Θ X.K m)
theorem SO.ok {X : Cx} {e : Option Expr} {m : MO} (_ : SO Θ X e m) : OOk Θ X.K (tOo Θ X.K m) m := fun σ ρ B H o ρ' r e Q q => ⟨ρ, B, o, ρ', r, e, q⟩
theorem SO.of {X : Cx} {e : Option Expr} {t : TO} {m : MO} (h : PO X e t) (ok : OOk Θ X.K t m) : SO Θ X e m := ⟨⟨fun pins s σ H Q I ⟨ρ, B, o, ρ', r, e, q⟩ => h.run pins s σ H Q I (ok σ ρ B H o ρ' r e Q q)⟩⟩
section
variable {X : Cx} {pos : Pos} {e : Expr} {p : MP} {m : ME} {lo hi : Option Expr} {ml mh : MO} {x : Str} {ms : MAs}
theorem so_none : SO Θ X none oNone := SO.of po_none ook_none
theorem so_some (h : SE Θ X e m) : SO Θ X (some e) (oSome m) := SO.of (po_some h.pe) (ook_some h.ok)
theorem se_sl {p2 : Pos} (h : SP Θ X e p) (hl : SO Θ X lo ml) (hh : SO Θ X hi mh) : SE Θ X (.Subscript e (.Slice lo hi none p2) pos) (mSl p ml mh) := SE.of (pe_slice sl_any h.pe hl.pe hh.pe) (eok_sl h.ok hl.ok hh.ok)
end
end DL
set_option Elab.async false
set_option linter.all false
set_option maxRecDepth 100000
set_option maxHeartbeats 4000000
/-! DL: zip of two lists, of two tuples; a new object ahead of any item of a, b = x, y. -/
namespace DL
open PySem L2 RZ
section
variable {K : Frag}
/-- a new object stays as it is, whatever comes behind it -/
theorem nsok_f2 {te : TE} {tr : TA} {m : MF} {n : MN} (h : FOk Θ K te m) (hr : NsOk Θ K tr n) : NsOk Θ K (tCons te tr) (nF m n) := by
  intro σ ρ B H ss ρ' r e Q q
  simp only [nF, Option.bind_eq_some_iff, Option.map_eq_some_iff] at e
  obtain ⟨⟨c, ρ1⟩, e1, ⟨tt, ρ2⟩, e2, e3⟩ := e
  cases e3
  refine h σ ρ B H c ρ1 r e1 _ fun p B1 H1 r1 s1 hp hB hn ho => ?_
  refine hr σ ρ1 B1 H1 tt ρ2 r1 e2 _ fun vs B2 H2 r2 s2 p2 => ?_
  obtain ⟨o, h3⟩ := OwAt.some ho
  have hB2 : B2 p = none := by
    cases hb : B2 p with
    | none => rfl
    | some u =>
      rcases s2.new p (by rw [hb]; simp) with z | z | z
      · exact absurd hB z
      · rw [h3] at z; cases z
      · exact absurd z hn
  have hn2 : ¬ Own σ ρ2 p := fun z => by
    rcases s2.own p z with y | y
    · exact hn y
    · rw [h3] at y; cases y
  refine q _ B2 H2 r2 (s1.trans s2) ⟨⟨p, rfl, hp, hB2, hn2, ho.mono s2.ex fun o nt z => s2.keep p o nt z hn⟩, fun c' p' _ ev q' c'' m eq => ?_, p2.back fun a z => s1.dom a z⟩
  cases ev
  subst eq
  rw [p2.new _ _ m] at h3
  cases h3
end
theorem sn_f2 {X : Cx} {e : Expr} {es : List Expr} {mf : MF} {n : MN} (h : SF Θ X e mf) (hr : SN Θ X es n) (hs : starEach (e :: es) X.env = (false, eval e X.env) :: starEach es X.env := by rfl) : SN Θ X (e :: es) (nF mf n) := SN.of (pa_cons h.pe hr.pe hs) (nsok_f2 h.ok hr.ok)
end DL
set_option Elab.async false
set_option linter.all false
set_option maxRecDepth 100000
set_option maxHeartbeats 4000000
/-! DL: sorted of a tuple of ints. -/
namespace SrtO
open PySem PySem.Spec PyProof.Rows
section
variable {prog : Program} {w : World} {A : Around} {E : Value → Shared → Prop} {s : Shared}
end
end SrtO
namespace DL
open PySem L2
variable {Θ : Tb} {W : WX}
section
variable {K : Frag}
end
end DL
set_option Elab.async false
set_option linter.all false
set_option maxRecDepth 100000
set_option maxHeartbeats 4000000
/-! DL: {k: v, ..} with keys ints and texts. -/
namespace DL
open PySem L2
variable {Θ : Tb} {W : WX}
section
variable {K : Frag}
inductive PrsOk (Θ : Tb) (K : Frag) : List (TE × TE) → List (ME × ME) → Prop
  | nil : PrsOk Θ K [] []
  | cons {tk tv : TE} {mk mv : ME} {r : List (TE × TE)} {s : List (ME × ME)} : EOk Θ K tk mk → EOk Θ K tv mv → PrsOk Θ K r s → PrsOk Θ K ((tk, tv) :: r) ((mk, mv) :: s)
end
structure SD (Θ : Tb) (X : Cx) (pos : Pos) (ks : List (Option Expr)) (vs : List Expr) (trs : List (TE × TE)) (ms : List (ME × ME)) : Prop where
  pe : PPs X pos ks vs trs
  ok : PrsOk Θ X.K trs ms
section
variable {X : Cx} {pos : Pos} {k v : Expr} {ks : List (Option Expr)} {vs : List Expr} {trs : List (TE × TE)} {ms : List (ME × ME)} {mk mv : ME}
end
end DL
set_option Elab.async false
set_option linter.all false
set_option maxRecDepth 100000
set_option maxHeartbeats 4000000
/-! DL: zip of two rows, each a list or a tuple. -/
namespace DL
open PySem L2 PyProof.Rows
inductive Kd | l | t
def IsC : Kd → Heap → Addr → Array Value → Prop
  | .l, h, a, xs => h.IsList a xs
  | .t, h, a, xs => h.IsTuple a xs
def IsI : Kd → Heap → Addr → Addr → Nat → Prop
  | .l, h, it, a, i => h.IsListIter it a i
  | .t, h, it, a, i => h.IsTupleIter it a i
def SqC (K : Frag) : Kd → Hp → Addr → List V → Prop
  | .l, H, a, xs => SqL K H a xs
  | .t, H, a, xs => SqT K H a xs
theorem IsI.obj {k : Kd} {h : Heap} {it a : Addr} {i : Nat} (q : IsI k h it a i) : ∃ o, h.get? it = some o ∧ ∀ v n, o.data = .seq v n → False := by
  cases k with
  | l => obtain ⟨o, h1, _, h2⟩ := q; exact ⟨o, h1, fun v n e => by rw [h2] at e; cases e⟩
  | t => obtain ⟨o, h1, _, h2⟩ := q; exact ⟨o, h1, fun v n e => by rw [h2] at e; cases e⟩
theorem SqC.ex {K : Frag} {k : Kd} {H H' : Hp} {a : Addr} {xs : List V} (e : Evl.Ex H H') (h : SqC K k H a xs) : SqC K k H' a xs := by
  cases k with
  | l => exact Evl.ex_l e h
  | t => exact Evl.ex_t e h
theorem SqC.inj {X : Cx} {pins : List (Addr × Obj)} {σ : L2.St} {H : Hp} {s : Shared} {k : Kd} {a : Addr} {xs ys : List V} (I : L2.Inv X pins σ H s) (h : SqC X.K k H a xs) (h2 : SqC X.K k H a ys) : xs = ys := by
  cases k with
  | l => exact I.list_inj h h2
  | t => exact I.tuple_inj h h2
section
variable {prog : Program} {w : World} {A : Around}
end
theorem IsC.lt {k : Kd} {h : Heap} {a : Addr} {items : Array Value} (p : IsC k h a items) : a < h.objs.size := by
  cases k with
  | l => obtain ⟨_, q, _⟩ := p; exact Heap.lt_size q
  | t => obtain ⟨_, q, _⟩ := p; exact Heap.lt_size q
section
variable {K : Frag}
end
end DL
set_option Elab.async false
set_option linter.all false
set_option maxRecDepth 100000
set_option maxHeartbeats 4000000
/-! DL: sorted(set(xs)) of a list of ints. -/
namespace DL
open PySem PySem.Spec PyProof.Rows L2
section
variable {P : Program} {w : World} {A : Around} {E : Value → Shared → Prop} {s : Shared}
end
section
variable {K : Frag}
end
end DL
set_option Elab.async false
set_option linter.all false
set_option maxRecDepth 100000
set_option maxHeartbeats 4000000
/-! DL: a new list of two, str of an int, a tuple the other way round. -/
namespace DL
open PySem PySem.Spec PyProof.Rows L2
section
variable {K : Frag}
end
/-! ### t[::-1] of a tuple -/
section
variable {P : Program} {w : World} {A : Around} {E : Value → Shared → Prop} {s : Shared}
end
end DL
set_option Elab.async false
set_option linter.all false
set_option maxRecDepth 100000
set_option maxHeartbeats 4000000
/-! DL, the end of a law whose own body looks at what stands around it (no repr is under way there). -/
namespace DL
open PySem PySem.Spec PyProof.Rows L2
end DL
set_option Elab.async false
set_option linter.all false
set_option maxRecDepth 100000
set_option maxHeartbeats 4000000
/-! DL: repr of a row of ints, where no repr is under way. -/
namespace DL
open PySem PySem.Spec PyProof.Rows L2
theorem log_few {n : Int} (h : n.natAbs < 10 ^ 12) : n.natAbs.log2 ≤ 39 := by
  by_cases z : n.natAbs = 0
  · rw [z]; decide
  · have := (Nat.log2_lt z).mpr (Nat.lt_trans h (by decide : 10 ^ 12 < 2 ^ 40))
    omega
theorem show_ints : ∀ ns : List Int, (∀ n ∈ ns, n.natAbs < 10 ^ 12) → PyData.showableAll (ns.map .int) = true
  | [], _ => rfl
  | n :: ns, h => by
    have h1 := h n (List.mem_cons_self ..)
    have h2 : n.natAbs.log2 < 1920 := by
      by_cases z : n.natAbs = 0
      · rw [z]; decide
      · exact Nat.lt_of_lt_of_le ((Nat.log2_lt z).mpr (Nat.lt_trans h1 (by decide : 10 ^ 12 < 2 ^ 40))) (by decide)
    show (decide (n.natAbs.log2 < 1920) && PyData.showableAll (ns.map .int)) = true
    rw [decide_eq_true h2, show_ints ns fun m hm => h m (List.mem_cons_of_mem _ hm)]; rfl
theorem short_ints : ∀ ns : List Int, (∀ n ∈ ns, n.natAbs < 10 ^ 12) → PyData.intsShortAll 13 (ns.map .int) = true
  | [], _ => rfl
  | n :: ns, h => by
    have h1 := int_text_length_le10 (k := 12) (by decide) (h n (List.mem_cons_self ..))
    have h2 : (PyData.shown (.int n)).length ≤ 13 := by
      show (Str.ofString (toString n)).length ≤ 13
      rw [PySem.ofString_length]; exact h1
    show (decide ((PyData.shown (.int n)).length ≤ 13) && PyData.intsShortAll 13 (ns.map .int)) = true
    rw [decide_eq_true h2, short_ints ns fun m hm => h m (List.mem_cons_of_mem _ hm)]; rfl
/-- where the law's body runs -/
abbrev topA : Around := callerA
end DL
set_option Elab.async false
set_option linter.all false
set_option maxRecDepth 100000
set_option maxHeartbeats 4000000
/-! DL: sum and max of a tuple of ints, is True, is not False. -/
namespace DL
open PySem PySem.Spec PyProof.Rows L2
section
variable {K : Frag}
end
/-- text != text -/
def neSD : D → D → Option D
  | .str a, .str b => some (.bool (!decide (a = b)))
  | _, _ => none
theorem opok_neS {K : Frag} : OpOk Θ K L2.rNe neSD := by
  intro σ ρ B H x y a b d r ha hb e Q q
  unfold neSD at e
  split at e
  · cases e
    have h1 := ha.str
    have h2 := hb.str
    subst h1 h2
    refine ⟨rfl, ?_⟩
    rename_i s t
    have : decide (V.str s = V.str t) = decide (s = t) := by
      by_cases z : s = t
      · subst z; simp
      · rw [decide_eq_false z, decide_eq_false fun q => z (V.str.inj q)]
    rw [this]
    exact q _ B H r Step.refl (.bl _)
  · cases e
/-! ### a, b = a list -/
end DL
set_option Elab.async false
set_option linter.all false
set_option maxRecDepth 100000
set_option maxHeartbeats 4000000
/-! DL: sorted of a list of alike data. -/
namespace DL
open PySem L2
variable {Θ : Tb} {W : WX}
section
variable {K : Frag}
end
end DL
set_option Elab.async false
set_option linter.all false
set_option maxRecDepth 100000
set_option maxHeartbeats 4000000
/-! DL: a comprehension with two fors. -/
namespace DL
open PySem L2
variable {Θ : Tb} {W : WX}
section
variable {K : Frag}
structure LcI (Θ : Tb) (K : Frag) (σb σi : St) (ρb : Rho) (Bb Hb : Hp) (Bw : Hp) (Dl : Addr) (f : Rho → Option (List D × Rho)) (es : List D) (ρ2 : Rho) (H' : Hp) : Prop where
  mk' ::
  ex : ∃ ρ' B' acc accD rest, SR Θ K σi ρ' B' H' ∧ Step σb ρb Bb Hb σi ρ' B' H' ∧ Evl.Ex Bw B' ∧ H' Dl = some (.lst acc) ∧ B' Dl = none ∧ ¬ Own σi ρ' Dl ∧ RpAll K B' acc accD ∧
      es = accD ++ rest ∧ f ρ' = some (rest, ρ2)
end
section
variable {X : Cx} {tg iter : Expr} {pos : Pos} {ma : ME}
end
end DL
set_option Elab.async false
set_option linter.all false
set_option maxRecDepth 100000
set_option maxHeartbeats 4000000
/-! DL: sorted of a comprehension's set of ints. -/
namespace DL
open PySem L2
variable {Θ : Tb} {W : WX}
section
variable {X : Cx}
end
section
variable {K : Frag}
/-- any untracked place is left alone -/
theorem Step.aloneO {σ σ' : St} {ρ ρ' : Rho} {B H B' H' : Hp} {p : Addr} {o : HO} (st : Step σ ρ B H σ' ρ' B' H') (no : NT o) (h1 : H p = some o) (h2 : B p = none) (h3 : ¬ Own σ ρ p) : H' p = some o ∧ B' p = none ∧ ¬ Own σ' ρ' p := by
  refine ⟨st.keep p _ no h1 h3, ?_, fun z => ?_⟩
  · cases q : B' p with
    | none => rfl
    | some u =>
      rcases st.new p (by rw [q]; simp) with z | z | z
      · exact (z h2).elim
      · rw [h1] at z; cases z
      · exact (h3 z).elim
  · rcases st.own p z with z | z
    · exact h3 z
    · rw [h1] at z; cases z
structure SiI (Θ : Tb) (K : Frag) (w : World) (σ : St) (ρb : Rho) (Bb Hb : Hp) (Dl : Addr) (f : Rho → Option (List D × Rho)) (es : List Int) (ρ2 : Rho) (H' : Hp) : Prop where
  mk' ::
  ex : ∃ (ρ' : Rho) (B' : Hp) (n : Nat) (acc rest : List Int), SR Θ K σ ρ' B' H' ∧ Step σ ρb Bb Hb σ ρ' B' H' ∧ H' Dl = some (SetO w Dl (fun j => decide (j ∈ acc)) n) ∧ n ≤ acc.length ∧ B' Dl = none ∧ ¬ Own σ ρ' Dl ∧ es = acc ++ rest ∧ f ρ' = some (rest.map .int, ρ2)
end
section
variable {X : Cx} {tg iter : Expr} {pos pos2 q : Pos} {ma : ME}
end
end DL
set_option Elab.async false
set_option linter.all false
set_option maxRecDepth 100000
set_option maxHeartbeats 4000000
/-! DL: len(set(xs)), xs a list of ints. -/
namespace DL
open PySem L2
variable {Θ : Tb} {W : WX}
section
variable {K : Frag}
end
end DL
set_option Elab.async false
set_option linter.all false
set_option maxRecDepth 100000
set_option maxHeartbeats 4000000
/-! DL: a comprehension over enumerate(own list), the list left alone by it. -/
namespace DL
open PySem L2
variable {Θ : Tb} {W : WX}
section
variable {K : Frag}
structure LcO (Θ : Tb) (K : Frag) (σ : St) (ρ1 : Rho) (B1 H1 : Hp) (vs : List Nat) (i : Nat) (ds : List D) (Dl : Addr) (f : Rho → Option (List D × Rho)) (es : List D) (ρ2 : Rho) (k : Nat) (H' : Hp) : Prop where
  mk' ::
  ex : ∃ ρ' B' acc accD rest, SR Θ K (L2.wipe σ vs) ρ' B' H' ∧ Step (L2.wipe σ vs) (wipeR ρ1 vs) B1 H1 (L2.wipe σ vs) ρ' B' H' ∧ ρ'[i]? = some (.ow (.lst ds)) ∧ H' Dl = some (.lst acc) ∧ B' Dl = none ∧ ¬ Own (L2.wipe σ vs) ρ' Dl ∧ RpAll K B' acc accD ∧
      es = accD ++ rest ∧ acc.length ≤ k ∧ f ρ' = some (rest, ρ2)
end
section
variable {X : Cx} {pos : Pos} {ma : ME}
end
end DL
set_option Elab.async false
set_option linter.all false
set_option maxRecDepth 100000
set_option maxHeartbeats 2000000
/-! DL, the end of a law. -/
namespace DL
open PySem L2
variable {Θ : Tb} {W : WX}
theorem defAt_mk {K : Frag} {h : Heap} {mg : Str → Option Value} {x : Str} {st : Stmt} {ps : List Str} (X : K.In h) (G : h.Ns mainGlobals mg) {f : Addr} {od an : Option Addr} {sl : Array (Option Value)} {oc kV dc pm cd ct : Value}
    (hb : ∀ (kV doc pm : Value) (an : Option Addr) (cdv ct : Value) (us : List Value), us.length = ps.length → bindArgs (PySem.W.fnOf x x (defArgs st) (defBody st) (defScope st) .none kV doc pm an cdv ct) ⟨us, []⟩ = pure (ps.zip us))
    (hk : ∀ (kV doc pm : Value) (an : Option Addr) (cdv ct : Value) (us : List Value), us.length = ps.length → bindArgs (PySem.W.fnOf x x (defArgs st) (defBody st) (defScope st) .none kV doc pm an cdv ct) ⟨[], ps.zip us⟩ = pure (ps.zip us))
    (a : PySem.W.nsIn K mainGlobals x = some (some (.ref f))) (l : K.lookup f = some ⟨oc, od, .func (PySem.W.fnOf x x (defArgs st) (defBody st) (defScope st) .none kV dc pm an cd ct), sl⟩) (c : PySem.W.codeIn K cd x = true) (k : PySem.W.keepIn K (.ref f) = true) : DefAt K mg x st ps :=
  ⟨f, _, fun_mk (st := st) l c k, PySem.W.mg_of X G a, (fun_mk (st := st) l c k).binds hb, fun s us hu => .of_eq (hk kV dc pm an cd ct us hu)⟩
end DL
set_option Elab.async false
set_option linter.all false
set_option maxRecDepth 100000
set_option maxHeartbeats 2000000
/-! DL, defs that may raise: what comes of them, calls of them, raise. -/
namespace DL
open PySem L2
variable {Θ : Tb} {W : WX}
/-- what comes of a call -/
inductive XO (α : Type) | ret (d : α) | exc (c : Str) (fs : List (Str × D))
abbrev MFX := Rho → Option (XO D × Rho)
abbrev MGX := Rho → Option (XO OC × Rho)
/-- where nothing is raised -/
def okX {α : Type} (m : Rho → Option (XO α × Rho)) : Rho → Option (α × Rho) := fun ss => match m ss with
  | some (.ret d, s) => some (d, s)
  | _ => none
def runX (n N : Nat) (m : MS) : MFX := fun ss => if ss.length = n then (m (ss ++ List.replicate (N - ss.length) .no)).bind fun o => match o with
  | .nx ρ => (fin ss ρ).map fun t => (.ret .none, t)
  | .rt d ρ => (fin ss ρ).map fun t => (.ret d, t)
  | .ex c fs ρ => (fin ss ρ).map fun t => (.exc c fs, t)
  | _ => none
  else none
def SpX (Θ : Tb) (K : Frag) (m : MFX) : Sp := fun vs H Q E => ∃ (ρ : Rho) (B : Hp) (o : XO D) (ρ' : Rho), SR Θ K (vs.map some) ρ B H ∧ m ρ = some (o, ρ') ∧ match o with
  | .ret d => ∀ (v : V) (B' H' : Hp), SR Θ K (vs.map some) ρ' B' H' → Step (vs.map some) ρ B H (vs.map some) ρ' B' H' → Rp K B' v d → Q v H'
  | .exc c fs => ∀ (C d : Addr) (B' H' : Hp), SR Θ K (vs.map some) ρ' B' H' → Step (vs.map some) ρ B H (vs.map some) ρ' B' H' → ExAt K B' H' C d c fs → E (.ref C) (some d) H'
def SpY (Θ : Tb) (K : Frag) (m : MGX) : Sp := fun vs H Q E => ∃ (ρ : Rho) (B : Hp) (o : XO OC) (ρ' : Rho), SR Θ K (vs.map some) ρ B H ∧ m ρ = some (o, ρ') ∧ match o with
  | .ret c => ∀ (p : Addr) (B' H' : Hp), SR Θ K (vs.map some) ρ' B' H' → Step (vs.map some) ρ B H (vs.map some) ρ' B' H' → H p = none → B' p = none → ¬ Own (vs.map some) ρ' p → OwAt K B' H' p c → Q (.ref p) H'
  | .exc c fs => ∀ (C d : Addr) (B' H' : Hp), SR Θ K (vs.map some) ρ' B' H' → Step (vs.map some) ρ B H (vs.map some) ρ' B' H' → ExAt K B' H' C d c fs → E (.ref C) (some d) H'
section
variable {K : Frag}
theorem body_okX {t : TS} {m : MS} {N : List Str} {np : Nat} {vs : List V} {H : Hp} {Q : VK} {E : XK} (h : SOk Θ W K t m) (hW : ∀ cls d σ H', E cls d H' → W cls d σ H') (hs : SpX Θ K (runX np N.length m) vs H Q E) : t { nx := fun _ H' => Q .non H', rt := Q } (L2.start N vs) H := by
  obtain ⟨ss, B, ox, ss', r, e, q⟩ := hs
  unfold runX at e
  split at e
  case isFalse => cases e
  simp only [Option.bind_eq_some_iff] at e
  obtain ⟨o, e1, e2⟩ := e
  refine h _ _ B H _ o (r.begin (N := N)) e1 ?_
  cases o with
  | nx ρ =>
    simp only [Option.map_eq_some_iff] at e2
    obtain ⟨t, e3, e4⟩ := e2
    cases e4
    intro σ' B' H' r' s'
    obtain ⟨⟨r2, s2⟩, o2⟩ := r.finish r' s' e3
    exact q .non B' H' r2 s2 .non
  | rt d ρ =>
    simp only [Option.map_eq_some_iff] at e2
    obtain ⟨t, e3, e4⟩ := e2
    cases e4
    intro v σ' B' H' r' s' rv
    obtain ⟨⟨r2, s2⟩, o2⟩ := r.finish r' s' e3
    exact q v B' H' r2 s2 rv
  | ex c fs ρ =>
    simp only [Option.map_eq_some_iff] at e2
    obtain ⟨t, e3, e4⟩ := e2
    cases e4
    intro C d σ' B' H' r' s' ha
    obtain ⟨⟨r2, s2⟩, o2⟩ := r.finish r' s' e3
    exact hW _ _ _ _ (q C d B' H' r2 s2 ha)
  | bk ρ => cases e2
  | ct ρ => cases e2
  | ro c ρ => cases e2
end
section
variable {P : Program} {w : World} {K : Frag} {mg : Str → Option Value} {base : Heap}
abbrev CxX (P : Program) (w : World) (K : Frag) (mg : Str → Option Value) (base : Heap) (N : List Str) (qual : Str) (st : Stmt) (f : Addr) (cdv : Value) (A : Around) (outer : List Env) (s : Shared) (H : Hp) (E : XK) : Cx := cxOf (L2.CX P w) P w K mg base N qual (defScope st) f cdv A outer s H E
/-- an own def that may raise, as its callers see it -/
structure FnJ (P : Program) (w : World) (K : Frag) (mg : Str → Option Value) (base : Heap) (x : Str) (ps : List Str) (k : Nat) (sp : Sp) : Prop where
  ex : ∃ (f : Addr) (fd : FuncData), FnOk P w K mg base (L2.CX P w) k f fd ps sp ∧ mg x = some (.ref f) ∧ PySem.W.keepIn K (.ref f) = true ∧ Binds K fd ps [] ∧ KwB fd ps
theorem spx_len {m : MS} {np n : Nat} {vs : List V} {H : Hp} {Q : VK} {E : XK} (h : SpX Θ K (runX np n m) vs H Q E) : vs.length = np := by
  obtain ⟨ρ, B, d, ρ', r, e, _⟩ := h
  have := r.len
  rw [List.length_map] at this
  rw [this]
  unfold runX at e
  split at e
  · assumption
  · cases e
theorem wof_cx {N : List Str} {qual : Str} {st : Stmt} {f : Addr} {cdv : Value} {A : Around} {outer : List Env} {s : Shared} {H : Hp} {E : XK} : ∀ cls d σ H', E cls d H' → Wof (CxX P w K mg base N qual st f cdv A outer s H E) cls d σ H' := fun cls d σ H' h =>
  wof_of (X := CxX P w K mg base N qual st f cdv A outer s H E) (W := fun cls d _ H => E cls d H) (takes_of rfl rfl rfl rfl) h
theorem fnj_ok {x : Str} {st : Stmt} {N ps : List Str} {k : Nat} {m : MS} {n np : Nat} (Dd : DefAt K mg x st ps) (S : FnScope N ps (defScope st)) (hn : N.length = n) (hp : ps.length = np)
    (hb : ∀ (f : Addr) (cdv : Value) (A : Around) (outer : List Env) (s : Shared) (H : Hp) (E : XK), Room k (CxX P w K mg base N x st f cdv A outer s H E).A → SB Θ (CxX P w K mg base N x st f cdv A outer s H E) (defBody st) m) :
    FnJ P w K mg base x ps (k + 1) (SpX Θ K (runX np n m)) := by
  obtain ⟨f, fd, F, hm, hb'⟩ := Dd.ex
  subst hn hp
  refine ⟨f, fd, F.okX S (fun vs H Q E h => spx_len h) (fun cdv A outer s H vs Q E hr h => ?_), hm, F.kp, hb'⟩
  have ht := hb f cdv A outer s H E hr
  exact ⟨_, ht.pe, body_okX (K := K) ht.ok wof_cx h⟩
end
section
variable {X : Cx} {pos p : Pos} {x : Str} {e : Expr} {es : List Expr} {t : TA} {ms : MAs}
end
/-! ### a call that may raise, as a statement's own expression -/
/-- what comes of the call, handed on -/
def mBindX (m : MFX) (p : MAs) (k : D → MS) : MS := fun ρ => (p ρ).bind fun x => if (owns x.1).Nodup then (toSls x.2 x.1).bind fun ss => (m ss).bind fun y => (back x.2 x.1 y.2).bind fun ρ' => match y.1 with
  | .ret d => k d ρ'
  | .exc c fs => some (.ex c fs ρ') else none
def tCallX (sp : Sp) (W : WX) (ta : TA) : TE := tCallS sp (WE W) ta
/-- the core: the arguments, the call, then what the value's way and the exception's way ask -/
theorem core_callX {K : Frag} {ta : TA} {m : MFX} {p : MAs} {k : D → MS} {σ : St} {ρ : Rho} {B H : Hp} {o : Out} {Q : VK} (h : AsOk Θ K ta p) (r : SR Θ K σ ρ B H) (e : mBindX m p k ρ = some o)
    (hret : ∀ (d : D) (ρ' : Rho), k d ρ' = some o → ∀ (v : V) (B' H' : Hp), SR Θ K σ ρ' B' H' → Step σ ρ B H σ ρ' B' H' → Rp K B' v d → Q v H')
    (hexc : ∀ (c : Str) (fs : List (Str × D)) (ρ' : Rho), o = .ex c fs ρ' → ∀ (C d : Addr) (B' H' : Hp), SR Θ K σ ρ' B' H' → Step σ ρ B H σ ρ' B' H' → ExAt K B' H' C d c fs → W (.ref C) (some d) σ H') :
    tCallX (SpX Θ K m) W ta σ H Q := by
  simp only [mBindX, Option.bind_eq_some_iff] at e
  obtain ⟨⟨x, ρ1⟩, e1, e2⟩ := e
  split at e2
  case isFalse => cases e2
  rename_i nd
  simp only [Option.bind_eq_some_iff] at e2
  obtain ⟨ss, e3, ⟨ox, ss'⟩, e4, ρ2, e5, e6⟩ := e2
  refine h σ ρ B H x ρ1 r e1 _ fun vs B1 H1 r1 s1 a1 => ?_
  cases ox with
  | ret d =>
    refine ⟨ss, B1, _, ss', r1.enter a1 nd e3, e4, fun v B2 H2 r2 s2 rv => ?_⟩
    obtain ⟨⟨r3, s3⟩, _⟩ := r1.leave a1 nd e3 r2 s2 e5
    exact hret d ρ2 e6 v B2 H2 r3 (s1.trans s3) rv
  | exc c fs =>
    refine ⟨ss, B1, _, ss', r1.enter a1 nd e3, e4, fun C d B2 H2 r2 s2 ha => ?_⟩
    obtain ⟨⟨r3, s3⟩, _⟩ := r1.leave a1 nd e3 r2 s2 e5
    exact hexc c fs ρ2 (Option.some.inj e6).symm C d B2 H2 r3 (s1.trans s3) ha
def kDrop : D → MS := fun _ ρ => some (.nx ρ)
def kRet : D → MS := fun d ρ => some (.rt d ρ)
def kAsg (g : MG) : D → MS := fun d ρ => (g d ρ).map .nx
theorem sok_dropX {K : Frag} {ta : TA} {m : MFX} {p : MAs} (h : AsOk Θ K ta p) : SOk Θ W K (tDrop (tCallX (SpX Θ K m) W ta)) (mBindX m p kDrop) := by
  intro σ ρ B H D' o r e w
  refine core_callX h r e (fun d ρ' hk v B' H' r' s' rv => ?_) fun c fs ρ' ho C d B' H' r' s' ha => ?_
  · cases hk; exact w σ B' H' r' s'
  · subst ho; exact w C d σ B' H' r' s' ha
section
variable {X : Cx} {pos p : Pos} {x : Str} {e : Expr} {es : List Expr} {t : TA} {ms : MAs}
theorem pe_callX {k j : Nat} {ps : List Str} {sp : Sp} (F : FnJ X.prog X.w X.K X.mg X.base x ps j sp) (ha : SA Θ X (e :: es) ms) (hr : Room k X.A) (hj : j ≤ k) (hg : Gl X x)
    (hdb : (x == ("__debug__" : Str)) = false) (he : starEach (e :: es) X.env = (false, eval e X.env) :: starEach es X.env) (hpl : (backTo pos (starEach es X.env)).any (·.1) = false) :
    PE X (.Call (.Name x p) (e :: es) [] pos) (tCallX sp (Wof X) (tX Θ X.K ms)) := by
  obtain ⟨f, fd, F, hm, hk, hb, _⟩ := F.ex
  exact pe_callS F (hr.mono hj) hg hm hk hb (fun σ => passAt takes_wof σ) ha.pe hdb he hpl
theorem ss_exprX {k j : Nat} {ps : List Str} {m : MFX} (F : FnJ X.prog X.w X.K X.mg X.base x ps j (SpX Θ X.K m)) (ha : SA Θ X (e :: es) ms) (hr : Room k X.A := by assumption) (hj : j ≤ k := by first | decide | omega) (hg : Gl X x := by rfl)
    (hdb : (x == ("__debug__" : Str)) = false := by decide) (he : starEach (e :: es) X.env = (false, eval e X.env) :: starEach es X.env := by rfl) (hpl : (backTo pos (starEach es X.env)).any (·.1) = false := by rfl) {pos2 : Pos} :
    SS Θ X (.Expr (.Call (.Name x p) (e :: es) [] pos) pos2) (mBindX m ms kDrop) := SS.of (ps_expr (pe_callX F ha hr hj hg hdb he hpl)) (sok_dropX ha.ok)
end
end DL
set_option Elab.async false
set_option linter.all false
set_option maxRecDepth 100000
set_option maxHeartbeats 2000000
/-! DL, raise: an exception of an own class over ValueError, whose __init__ keeps what it is made with. -/
namespace DL
open PySem L2
variable {Θ : Tb} {W : WX}
theorem zip_rev {α β : Type} : ∀ (xs : List α) (ys : List β), xs.length = ys.length → (xs.zip ys).reverse = xs.reverse.zip ys.reverse
  | [], [], _ => rfl
  | x :: xs, y :: ys, h => by
    have h' : xs.length = ys.length := by simpa using h
    rw [List.zip_cons_cons, List.reverse_cons, List.reverse_cons, List.reverse_cons, zip_rev xs ys h', List.zip_append (by simpa using h')]
    rfl
  | [], _ :: _, h => by simp at h
  | _ :: _, [], h => by simp at h
theorem zip_fst {α β : Type} : ∀ (xs : List α) (ys : List β), xs.length = ys.length → (xs.zip ys).map (·.1) = xs
  | [], [], _ => rfl
  | x :: xs, y :: ys, h => by rw [List.zip_cons_cons, List.map_cons, zip_fst xs ys (by simpa using h)]
  | [], _ :: _, h => by simp at h
  | _ :: _, [], h => by simp at h
theorem zip_snd {α β : Type} : ∀ (xs : List α) (ys : List β), xs.length = ys.length → (xs.zip ys).map (·.2) = ys
  | [], [], _ => rfl
  | x :: xs, y :: ys, h => by rw [List.zip_cons_cons, List.map_cons, zip_snd xs ys (by simpa using h)]
  | [], _ :: _, h => by simp at h
  | _ :: _, [], h => by simp at h
theorem RpAll.revv {K : Frag} {B : Hp} : ∀ {vs : List V} {ds : List D}, RpAll K B vs ds → RpAll K B vs.reverse ds.reverse
  | _, _, .nil => .nil
  | _, _, .cons h r => by rw [List.reverse_cons, List.reverse_cons]; exact r.revv.append (.cons h .nil)
/-- an own __init__ that stores its arguments under these names, one by one -/
def spI (K : Frag) (nf : List Str) : Sp := fun vs H Q _ => ∃ (a C : Addr) (ys : List V), vs = .ref a :: ys ∧ ys.length = nf.length ∧ OexC K C ∧ (∀ f ∈ nf, PySem.W.findIn K (.ref C) f = some none) ∧ H a = some (exo a C none) ∧
  ∀ (dx : Addr) (H' : Hp), H dx = none → dx ≠ a → (∀ b, b ≠ a → b ≠ dx → H' b = H b) → H' a = some (exo a C (some dx)) → H' dx = some (exd dx (nf.zip ys).reverse) → Q .non H'
theorem init1 {K : Frag} {f : Str} {N : List Str} {vs : List V} {H : Hp} {Q : VK} {E : XK} (h : spI K [f] vs H Q E) : tOst K f (tVar 0) (tVar 1) { nx := fun _ H' => Q .non H', rt := Q } (L2.start N vs) H := by
  obtain ⟨a, C, ys, rfl, hl, T, hf, ha, q⟩ := h
  match ys, hl with
  | [y], _ =>
    refine ⟨y, rfl, .ref a, rfl, a, C, rfl, T, hf f (List.mem_singleton.mpr rfl), .inl ⟨ha, fun dx n ne => ?_⟩⟩
    refine q dx _ n ne (fun b h1 h2 => by rw [upd_ne h1, upd_ne h2]) upd_same (by rw [upd_ne ne, upd_same]; rfl)
/-- an own exception class that can be made and raised -/
structure ErrOk (P : Program) (w : World) (K : Frag) (mg : Str → Option Value) (base : Heap) (c : Str) (nf : List Str) (df : List D) (k : Nat) : Prop where
  ex : ∃ (C fI : Addr) (fd : FuncData) (ps : List Str) (ds : List Value) (dvs : List V), ClsAt K c C ∧ mg c = some (.ref C) ∧ OexC K C ∧ PySem.W.findIn K (.ref C) "__init__" = some (some (.ref fI)) ∧ PySem.W.typeIn K (.ref fI) = some (.type "function") ∧
    FnOk P w K mg base CX0 k fI fd ps (spI K nf) ∧ Binds K fd ps ds ∧ Vals dvs ds ∧ (∀ B, RpAll K B dvs df) ∧ ∀ f ∈ nf, PySem.W.findIn K (.ref C) f = some none
def mRaise (c : Str) (nf : List Str) (df : List D) (p : MAs) : MS := fun ρ => (p ρ).bind fun x => (vals x.1).bind fun ds => if (ds ++ df).length = nf.length ∧ ds.length ≤ 1000 then some (.ex c (nf.zip (ds ++ df)).reverse x.2) else none
theorem sok_raise {K : Frag} {c : Str} {nf : List Str} {df : List D} {C : Addr} {dvs : List V} {ta : TA} {p : MAs} (h : AsOk Θ K ta p) (hC : ClsAt K c C) (T : OexC K C) (hf : ∀ f ∈ nf, PySem.W.findIn K (.ref C) f = some none) (hd : ∀ B, RpAll K B dvs df) :
    SOk Θ W K (fun _ σ H => tMkO C (spI K nf) dvs ta σ H fun cls d H' => W cls d σ H') (mRaise c nf df p) := by
  intro σ ρ B H D' o r e w
  simp only [mRaise, Option.bind_eq_some_iff] at e
  obtain ⟨⟨x, ρ1⟩, e1, ds, e2, e3⟩ := e
  split at e3
  case isFalse => cases e3
  rename_i hl
  cases e3
  refine h σ ρ B H x ρ1 r e1 _ fun vs B1 H1 r1 s1 a1 => ?_
  have rp := vals_rp a1 e2
  have rp2 : RpAll K B1 (vs ++ dvs) (ds ++ df) := rp.append (hd B1)
  have hlen : (vs ++ dvs).length = nf.length := rp2.length.trans hl.1
  refine ⟨by rw [rp.length]; exact hl.2, fun a ha => ⟨a, C, vs ++ dvs, rfl, hlen, T, hf, upd_same, fun dx H' n ne k1 k2 k3 => ?_⟩⟩
  have n' : H1 dx = none := by rw [upd_ne ne] at n; exact n
  refine ⟨rfl, dx, _, k2, k3, n', ?_⟩
  have he : upd (del H' a) dx (.xd (nf.zip (vs ++ dvs)).reverse) = upd H1 dx (.xd (nf.zip (vs ++ dvs)).reverse) := by
    funext b
    by_cases h1 : b = dx
    · rw [h1, upd_same, upd_same]
    · rw [upd_ne h1, upd_ne h1]
      by_cases h2 : b = a
      · rw [h2, ha]; exact del_same
      · rw [del_ne h2, k1 b h2 h1, upd_ne h2]
  rw [he]
  obtain ⟨r2, s2, _, _⟩ := r1.put (o := .xd (nf.zip (vs ++ dvs)).reverse) n'
  refine w C dx σ B1 _ r2 (s1.trans s2) ⟨hC, (vs ++ dvs).reverse, ?_, ?_⟩
  · rw [upd_same, List.map_reverse, zip_fst nf (ds ++ df) hl.1.symm, zip_rev nf (vs ++ dvs) hlen.symm]
  · rw [List.map_reverse, zip_snd nf (ds ++ df) hl.1.symm]
    exact rp2.revv
section
variable {X : Cx} {pos p : Pos} {c : Str} {nf : List Str} {df : List D} {e : Expr} {es : List Expr} {t : TA} {ms : MAs}
theorem ss_raise {k j : Nat} (hE : ErrOk X.prog X.w X.K X.mg X.base c nf df j) (ha : SA Θ X (e :: es) ms) (hr : Room k X.A := by assumption) (hj : j + 1 ≤ k := by first | decide | omega) (hc : X.calm = true := by rfl) (hg : Gl X c := by rfl)
    (hdb : (c == ("__debug__" : Str)) = false := by decide) (he : starEach (e :: es) X.env = (false, eval e X.env) :: starEach es X.env := by rfl) (hpl : (backTo pos (starEach es X.env)).any (·.1) = false := by rfl) {pos2 : Pos} :
    SS Θ X (.Raise (some (.Call (.Name c p) (e :: es) [] pos)) none pos2) (mRaise c nf df ms) := by
  obtain ⟨C, fI, fd, ps, ds, dvs, h1, h2, h3, h4, h5, h6, h7, h8, h9, h10⟩ := hE.ex
  exact SS.of (ps_raise hc takes_wof (pmk_oex h3 h4 h5 h6 (hr.mono hj) h7 h8 pass0 hg h2 ha.pe hdb he hpl)) (sok_raise ha.ok h1 h3 h10 h9)
end
end DL
set_option Elab.async false
set_option linter.all false
set_option maxRecDepth 100000
set_option maxHeartbeats 2000000
/-! DL, try: several except clauses, with a name each or without. -/
namespace DL
open PySem L2
variable {Θ : Tb} {W : WX}
/-- a clause: the class, the slot of its name, the suite (what the exception is: where it lies, its class, its dict) -/
abbrev Cl := Value × Option Nat × (Addr → Value → Option Addr → TS)
/-- the ends of a suite behind which the name is gone -/
def gone (i : Option Nat) (D : Ends) : Ends := match i with
  | none => D
  | some i => { nx := fun σ H => D.nx (σ.set i none) H, rt := D.rt, bk := fun σ H => D.bk (σ.set i none) H, ct := fun σ H => D.ct (σ.set i none) H }
def named (i : Option Nat) (a : Addr) (σ : St) : St := match i with
  | none => σ
  | some i => σ.set i (some (.ref a))
def wCl (K : Frag) (V : WX) (D : Ends) : List Cl → WX
  | [] => V
  | q :: r => fun cls d σ H => ∃ b, PySem.W.exmOne K cls q.1 = some b ∧ (b = true → ∀ a, H a = none → q.2.2 a cls d (gone q.2.1 D) (named q.2.1 a σ) H) ∧ (b = false → wCl K V D r cls d σ H)
/-- the slot of a clause's name -/
def NameAt (X : Cx) : Option Str → Option Nat → Prop
  | none, none => True
  | some n, some i => X.N[i]? = some n ∧ X.env.kindOf n = some .local
  | _, _ => False
inductive ClsOk (X : Cx) : List ExceptHandler → List Cl → Prop
  | nil : ClsOk X [] []
  | cons {x : Str} {c : Value} {nm : Option Str} {i : Option Nat} {ts : Addr → Value → Option Addr → TS} {first : Stmt} {more : List Stmt} {q1 q2 : Pos} {hs : List ExceptHandler} {l : List Cl} (names : Names X x c) (at_ : NameAt X nm i)
      (suite : ∀ (a : Addr) (ob : Obj) (cls : Value) (d : Option Addr) (pn : List (Addr × Obj)), Zc cls d ob → (∃ vs, ob.data = .fields vs) → PSs (X.suite a ((a, ob) :: pn)) (first :: more) (ts a cls d)) (rest : ClsOk X hs l) :
      ClsOk X (.ExceptHandler (some (.Name x q1)) nm (first :: more) q2 :: hs) ((c, i, ts) :: l)
section
variable {X : Cx} {pins : List (Addr × Obj)}
/-- a suite's end, seen from the frame -/
theorem suite_end {a : Addr} {q : Addr × Obj} {D : Ends} {f : Flow} {s : Shared} (ok : X.Ok) (h : L2.SP (X.suite a (q :: (X.pn ++ pins))) [] D f s) : L2.SP X pins D f s := by
  match f, h with
  | .next, ⟨σ, H, J, z⟩ => exact ⟨σ, H, J.unsuite ok, z⟩
  | .brk, ⟨σ, H, J, z⟩ => exact ⟨σ, H, J.unsuite ok, z⟩
  | .cont, ⟨σ, H, J, z⟩ => exact ⟨σ, H, J.unsuite ok, z⟩
  | .ret u, ⟨v, σ, H, J, r, z⟩ => exact ⟨v, σ, H, J.unsuite ok, r, z⟩
theorem suite_gone {a : Addr} {q : Addr × Obj} {D : Ends} {f : Flow} {s : Shared} {i : Nat} {n : Str} {pos : Pos} {A : Around} (ok : X.Ok) (nd : X.N.Nodup) (hi : X.N[i]? = some n) (hl : X.env.kindOf n = some .local)
    (h : L2.SP (X.suite a (q :: (X.pn ++ pins))) [] (gone (some i) D) f s) : wpAny (model X.prog X.w) A (do bindName X.env n .none; unbindBehindTheSuite X.env n pos) (fun _ z => L2.SP X pins D f z) X.xe s := by
  match f, h with
  | .next, ⟨σ, H, J, z⟩ => exact gone_ok (J.unsuite ok) nd hi hl fun y J' => ⟨_, H, J', z⟩
  | .brk, ⟨σ, H, J, z⟩ => exact gone_ok (J.unsuite ok) nd hi hl fun y J' => ⟨_, H, J', z⟩
  | .cont, ⟨σ, H, J, z⟩ => exact gone_ok (J.unsuite ok) nd hi hl fun y J' => ⟨_, H, J', z⟩
  | .ret u, ⟨v, σ, H, J, r, z⟩ => exact gone_ok (J.unsuite ok) nd hi hl fun y J' => ⟨v, _, H, J', r, z⟩
variable {todo : List Stmt} {h0 : ExceptHandler} {hs : List ExceptHandler} {l : List Cl} {pos : Pos} {tb : WX → TS} {V : WX}
theorem ps_tryN (nd : X.N.Nodup) (st : X.stack = X.env :: X.outer) (fr : X.env.frame = some X.env.locals) (tk : Takes X V)
    (body : ∀ (U : WX) (pn : List (Addr × Obj)) (xe : Value → Shared → Prop), Takes (X.tr pn xe) U → PassesOwn (model X.prog X.w) X.A X.env xe → PSs (X.tr pn xe) todo (tb U))
    (cl : ClsOk X (h0 :: hs) l) : PS X (.Try todo (h0 :: hs) [] [] pos) (fun D σ H => tb (wCl X.K V D l) D σ H) := by
  refine ⟨fun pins s σ H D I hyp => ?_⟩
  have ok := I.ok
  have frames : X.A.frames = some (X.env :: X.outer) := by rw [ok.frames, st]
  let xe : Value → Shared → Prop := fun e y => wpAny (model X.prog X.w) X.A (noteFrame e X.env) (fun _ y2 => wpAny (model X.prog X.w) X.A (setFlight e none)
    (fun _ y3 => wpAny (model X.prog X.w) X.A (handleBy e X.env (h0 :: hs)) (L2.SP X pins D) X.xe y3) X.xe y2) X.xe y
  have takes : Takes (X.tr (X.pn ++ pins) xe) (wCl X.K V D l) := by
    intro u y fly
    obtain ⟨a, B, z0, pins', σ1, H1, cls, d, rfl, J', nb, up, sky, na, os, ag, wish⟩ := fly
    have J : Inv X pins σ1 H1 z0 := J'.ofTry ok
    have sky2 : Sky B (X.env :: X.outer) a (Zc cls d) X.env.locals y.heap := st ▸ sky
    show wpAny (model X.prog X.w) X.A (noteFrame (.ref a) X.env) _ _ y
    refine Sky.land Zc.steady frames fr sky2 fun g fg ug => ?_
    have Jg : Inv X pins σ1 H1 { y with heap := g } := J.landed nb fg.1 (up.trans ug) os ag
    obtain ⟨ob, fvs, gob, zob, dob⟩ := fg.there
    have far : a ∉ frs (X.env :: X.outer) := fun hm => by
      obtain ⟨_, ob', gob', nof⟩ := HandSPX.FlyingZ.there fg |> fun _ => fg.2.2.1.mem hm
      rw [gob] at gob'
      cases gob'
      exact nof _ dob
    have offL : a ≠ X.env.locals := fun z => far (List.mem_filterMap.mpr ⟨X.env, List.mem_cons_self, by rw [fr, z]⟩)
    have offF : a ∉ X.fs := fun hm => by
      obtain ⟨en, hen, q⟩ := List.mem_filterMap.mp hm
      exact far (List.mem_filterMap.mpr ⟨en, List.mem_cons_of_mem _ hen, q⟩)
    have Sg := Jg.suite gob dob na offL offF
    have typ : PySem.W.Looks (model X.prog X.w) g (typeOf (.ref a)) cls := fun A Q E z keep q => wpAny_typeOf_ref (keep _ _ gob) (by rw [zob.1]; exact q)
    have turn : ∀ (hs' : List ExceptHandler) (l' : List Cl), ClsOk X hs' l' → wCl X.K V D l' cls d σ1 H1 → wpAny (model X.prog X.w) X.A (handleBy (.ref a) X.env hs') (L2.SP X pins D) X.xe { y with heap := g } := by
      intro hs' l' c
      induction c with
      | nil =>
        intro out
        refine wpAny_handleBy_nil ?_
        obtain ⟨_, _, _, oe, vs2, tb2, _, _, e1, _, e3, e4, _⟩ := id fg
        unfold PySem.passOn
        refine wpAny_bind (wpAny_field e1 e3 e4 ?_)
        rw [if_neg (by simp)]
        have up_ : wpAny (model X.prog X.w) X.A (setFlight (.ref a) X.env.frame) (fun _ y4 => wpAny (model X.prog X.w) X.A (throw (.ref a) : Sem Flow) (L2.SP X pins D) X.xe y4) X.xe { y with heap := g } := by
          rw [fr]
          refine HandSPX.setFlight_upZ fg fun g4 held u4 => wpAny_throw (tk _ _ ?_)
          exact ⟨a, B, z0, pins, σ1, H1, cls, d, rfl, J, nb, (up.trans ug).trans u4, .inr (.inr (st ▸ held)), na, os, ag, out⟩
        first
          | exact wpAny_bind (wpAny_pure (wpAny_bind up_))
          | exact wpAny_bind up_
      | @cons x c nm i ts first more q1 q2 hs2 l2 names at_ suite rest ih =>
        intro out
        obtain ⟨b, hb, yes, no⟩ := out
        refine wpAny_handleBy_cons (codeAny_handlers_test ?_) (by intro z; cases z)
        have asks : ∀ {Q : Value → Shared → Prop} {E : Value → Shared → Prop}, Q c { y with heap := g } → wpAny (model X.prog X.w) (X.A.mark (some (.ref a))) (eval (.Name x q1) X.env) Q E { y with heap := g } := fun {Q E} z => by
          obtain ⟨gl, db, has | ⟨lacks, blt, nn⟩⟩ := names
          · exact ld_glob (X := X.suite a ((a, ob) :: (X.pn ++ pins))) Sg gl has z db
          · exact ld_blt (X := X.suite a ((a, ob) :: (X.pn ++ pins))) Sg gl lacks blt z nn db
        refine asks ((PySem.W.exm_one (M := model X.prog X.w) Jg.kIn typ hb).here ?_)
        cases b with
        | false => exact ih (no rfl)
        | true =>
          match nm, i, at_ with
          | none, none, _ =>
            refine codeAny_handlers_suite (HandSPX.lands_againZ fg fun g4 f4 u4 => ?_)
            have J4 : Inv X pins σ1 H1 { y with heap := g4 } := J.landed nb f4.1 ((up.trans ug).trans u4) os ag
            obtain ⟨ob4, vs4, gob4, zob4, dob4⟩ := f4.there
            have S4 := J4.suite gob4 dob4 na offL offF
            exact wpAny_mono ((suite a ob4 cls d (X.pn ++ pins) zob4 ⟨_, dob4⟩).run [] _ _ H1 _ S4 (yes rfl a na)) (fun f z hz => suite_end ok hz) (fun _ _ z => z.elim)
          | some n, some i, ⟨hi, hl⟩ =>
            refine codeAny_handlers_suite_as (HandSPX.lands_againZ fg fun g4 f4 u4 => ?_)
            have J4 : Inv X pins σ1 H1 { y with heap := g4 } := J.landed nb f4.1 ((up.trans ug).trans u4) os ag
            obtain ⟨ob4, vs4, gob4, zob4, dob4⟩ := f4.there
            have S4 := J4.suite gob4 dob4 na offL offF
            refine store_ok (X := X.suite a ((a, ob4) :: (X.pn ++ pins))) (v := .ref a) S4 nd hi (.inl hl) rfl (fun y5 S5 => ?_) (.inr hl)
            exact wpAny_mono ((suite a ob4 cls d (X.pn ++ pins) zob4 ⟨_, dob4⟩).run [] y5 _ H1 _ S5 (yes rfl a na)) (fun f z hz => suite_gone ok nd hi hl hz) (fun _ _ z => z.elim)
    exact turn _ _ cl wish
  refine wpAny_Try_except (wpAny_mono ((body (wCl X.K V D l) (X.pn ++ pins) xe takes PassesOwn.looking).run [] s σ H D (I.toTry _) hyp) (fun f z hz => ?_) (fun e z hz => hz))
  match f, hz with
  | .next, ⟨σ1, H1, J, q⟩ => exact wpAny_execs_nil ⟨σ1, H1, J.ofTry ok, q⟩
  | .brk, ⟨σ1, H1, J, q⟩ => exact ⟨σ1, H1, J.ofTry ok, q⟩
  | .cont, ⟨σ1, H1, J, q⟩ => exact ⟨σ1, H1, J.ofTry ok, q⟩
  | .ret u, ⟨v, σ1, H1, J, r, q⟩ => exact ⟨v, σ1, H1, J.ofTry ok, r, q⟩
end
end DL
set_option Elab.async false
set_option linter.all false
set_option maxRecDepth 100000
set_option maxHeartbeats 2000000
/-! DL, a lambda handed to an own def that calls it: what stands in the heap behind its making. -/
namespace DL
open PySem PySem.Spec PyProof.Rows L2 LamX
/-- all but the tables stays, and no place is given up -/
structure Kept (H H1 : Hp) : Prop where
  ext : ExtN H H1
  dom : ∀ b, H1 b = none → H b = none
section
variable {X : Cx} {pins : List (Addr × Obj)} {σ : L2.St} {H : Hp} {s : Shared}
theorem lam_new {U : List (Addr × Str)} {c P : Addr} {ar : Arguments} {bd : Expr} {sc : Scope} {at_ : Pos} {E : Value → Shared → Prop} {Q : Value → Shared → Prop} (I : Inv X pins σ H s) (TB : TabB X.base X.mg c P)
    (own : X.env.code = .ref c) (mem : (P, X.env.qual ++ "<lambda>") ∈ U) (one : ∀ p ∈ U, p.1 = P → p.2 = X.env.qual ++ "<lambda>") (tabs : Tabs U H) (nodef : defaultsOf ar X.env = ([], []))
    (cells : ∀ y ∈ sc.names, y.2 = .free → ∃ c, X.env.cells.lookup y.1 = some c)
    (go : ∀ (f c' : Addr) (pm ctv : Value) (H1 : Hp) (z : Shared), Inv X pins σ H1 z → Kept H H1 → Tabs U H1 →
      z.heap.get? f = some (PySem.W.kla_obj "<lambda>" (X.env.qual ++ "<lambda>") ar bd sc (cloFrom X.env.cells sc.names []) pm c' ctv) → H1 f = none → f ∉ frs X.stack → H1 c' = some (CodeO c' (X.env.qual ++ "<lambda>")) → Q (.ref f) z) :
    wpAny (model X.prog X.w) X.A (eval (.Lambda ar bd sc at_) X.env) Q E s := by
  obtain ⟨ps, tabP, tri, codes⟩ := tabs _ mem
  have objP : s.heap.get? P = some { cls := .none, data := .fields ps } := I.hok P _ tabP
  have bltP : s.heap.BuiltinsAt X.mg P := TB.bm.keeps I.bk
  have offFr : ∀ f, s.heap.objs.size ≤ f → f ∉ frs X.stack := fun f le z => by
    rcases List.mem_cons.mp (I.stkSub _ z) with e | e
    · exact absurd (Nat.lt_of_lt_of_le (e ▸ I.lt) le) (Nat.lt_irrefl _)
    · exact I.nofs le e
  refine PySem.W.kla_eval nodef ?_
  cases look : codeAmong at_ ps.toList with
  | some cv =>
    obtain ⟨c', rfl, known⟩ := codes at_ cv look
    refine PySem.W.kla_makeFunctionHit (mg := X.mg) (c := c) (P := P) (ps := ps) (closure_ok cells) I.ok.glob (I.mod.glob.keeps I.bk) own (TB.code.keeps I.bk) objP tri look bltP fun ctv g tk stays big => ?_
    have J : Inv X pins σ H { s with heap := g.push (PySem.W.kla_obj "<lambda>" (X.env.qual ++ "<lambda>") ar bd sc (cloFrom X.env.cells sc.names []) ((X.mg "__name__").getD .none) c' ctv), toks := tk } :=
      I.kept fun b o e => Heap.get?_push_of_some _ (stays b o e)
    exact go g.objs.size c' ((X.mg "__name__").getD .none) ctv H _ J ⟨ExtN.refl H, fun _ z => z⟩ tabs (Heap.get?_push_size _ rfl) (I.hok.fresh big) (offFr _ big) known
  | none =>
    refine PySem.W.kla_makeFunction (mg := X.mg) (c := c) (P := P) (ps := ps) (closure_ok cells) I.ok.glob (I.mod.glob.keeps I.bk) own (TB.code.keeps I.bk) objP tri look TB.gP bltP fun c' ctv g tk stays new lt rec_ tab_ => ?_
    obtain ⟨c2, oc, fv, t, e2, hoc, hdat, hname⟩ := rec_
    cases e2
    have le : s.heap.objs.size ≤ g.objs.size := Nat.le_trans new (Nat.le_of_lt lt)
    have freeC : H c' = none := I.hok.fresh new
    have PneC : P ≠ c' := ne_of_none tabP freeC
    have J := inv_table (t' := tk) (more := #[rawInt at_.line, rawInt at_.col, .ref c']) (h' := g.push (PySem.W.kla_obj "<lambda>" (X.env.qual ++ "<lambda>") ar bd sc (cloFrom X.env.cells sc.names []) ((X.mg "__name__").getD .none) c' ctv)) I tabP
      (fun b o ne e => Heap.get?_push_of_some _ (stays b o ne e)) (Heap.get?_push_of_some _ tab_) new ⟨oc, fv, t, Heap.get?_push_of_some _ hoc, hdat, hname⟩
    generalize hH1 : upd (upd H P (.tbl (ps ++ #[rawInt at_.line, rawInt at_.col, .ref c']))) c' (CodeO c' (X.env.qual ++ "<lambda>")) = H1 at J
    have h1c : H1 c' = some (CodeO c' (X.env.qual ++ "<lambda>")) := by rw [← hH1, upd_same]
    have h1P : H1 P = some (.tbl (ps ++ #[rawInt at_.line, rawInt at_.col, .ref c'])) := by rw [← hH1, upd_ne PneC, upd_same]
    have h1o : ∀ b, b ≠ c' → b ≠ P → H1 b = H b := fun b n1 n2 => by rw [← hH1, upd_ne n1, upd_ne n2]
    have kp : Kept H H1 := by
      refine ⟨fun b o e n => ?_, fun b e => ?_⟩
      · rw [h1o b (ne_of_none e freeC) fun z => n ps (Option.some.inj (e.symm.trans (z ▸ tabP)))]
        exact e
      · have n1 : b ≠ c' := fun z => by rw [z, h1c] at e; cases e
        have n2 : b ≠ P := fun z => by rw [z, h1P] at e; cases e
        rw [h1o b n1 n2] at e
        exact e
    have lst : (ps ++ #[rawInt at_.line, rawInt at_.col, Value.ref c']).toList = ps.toList ++ [rawInt at_.line, rawInt at_.col, .ref c'] := by simp
    refine go g.objs.size c' ((X.mg "__name__").getD .none) ctv H1 _ J kp (fun p hp => ?_) (Heap.get?_push_size _ rfl) ?_ (offFr _ le) h1c
    · by_cases isP : p.1 = P
      · rw [one p hp isP, isP]
        refine ⟨_, h1P, by rw [lst]; exact PySem.TriplesOk_snoc _ _ _ _ tri, fun w cv hcv => ?_⟩
        rw [lst] at hcv
        rcases among_app _ tri hcv with z | z
        · obtain ⟨c0, k1, k2⟩ := codes w cv z
          exact ⟨c0, k1, kp.ext _ _ k2 codeO_ne⟩
        · exact ⟨c', z, h1c⟩
      · obtain ⟨qs, k1, k2, k3⟩ := tabs p hp
        refine ⟨qs, by rw [h1o _ (ne_of_none k1 freeC) isP]; exact k1, k2, fun w cv hcv => ?_⟩
        obtain ⟨c0, y1, y2⟩ := k3 w cv hcv
        exact ⟨c0, y1, kp.ext _ _ y2 codeO_ne⟩
    · have n1 : g.objs.size ≠ c' := Nat.ne_of_gt lt
      have n2 : g.objs.size ≠ P := Nat.ne_of_gt (Nat.lt_of_lt_of_le (Heap.lt_size objP) le)
      rw [h1o _ n1 n2]
      exact I.hok.fresh le
end
/-- what the callee makes of the lambda, told at every heap that the making may leave -/
def tLamK (U : List (Addr × Str)) (TT : (XK → Hp → VK → Prop) → Hp → VK → Prop) (t : XK → TE) : TE := fun σ H Q => Tabs U H ∧ ∀ H1, Kept H H1 → Tabs U H1 → TT (fun E H' Q' => t E σ H' Q') H1 Q
section
variable {X : Cx}
theorem pe_lamK {U : List (Addr × Str)} {TT : (XK → Hp → VK → Prop) → Hp → VK → Prop} {x a : Str} {g c P : Addr} {k : Nat} {ag : Arguments} {bg : List Stmt} {sg : Scope} {dV kV doc pm cdv ct oc : Value} {an od : Option Addr} {sl : Array (Option Value)} {Ng : List Str}
    {ar : Arguments} {bd : Expr} {sc : Scope} {t : XK → TE} {p1 p2 p3 : Pos} (gl : Gl X x) (at_ : X.mg x = some (.ref g)) (kp : PySem.W.keepIn X.K (.ref g) = true)
    (lk : X.K.lookup g = some ⟨oc, od, .func (PySem.W.fnOf x x ag bg sg dV kV doc pm an cdv ct), sl⟩) (cd : PySem.W.codeIn X.K cdv x = true) (bind : L2.Binds X.K (PySem.W.fnOf x x ag bg sg dV kV doc pm an cdv ct) [a] [])
    (S : FnScope Ng [a] sg) (first : Ng[0]? = some a) (vis : Vis sg a) (gives : GivesTo X Ng x sg g cdv bg a (X.env.qual ++ "<lambda>") TT)
    (TB : TabB X.base X.mg c P) (own : X.env.code = .ref c) (mem : (P, X.env.qual ++ "<lambda>") ∈ U) (one : ∀ p ∈ U, p.1 = P → p.2 = X.env.qual ++ "<lambda>") (room : Room (k + 2) X.A) (L : LamS X.env.scope sc) (nodef : defaultsOf ar X.env = ([], []))
    (bindL : ∀ (q : Str) (cl : List (Str × Addr)) (pm cv ctv : Value), bindArgs (PySem.W.kla_fn "<lambda>" q ar bd sc cl pm cv ctv) ⟨[], []⟩ = pure [])
    (body : ∀ (A : Around) (outer : List Env) (s : Shared) (H : Hp) (E : XK) (f c' : Addr), Room k (A.deeper (lamEnv X sc s.heap.objs.size f c')) → PE (lamCx X A outer s H E sc f c') bd (t E))
    (d1 : (x == ("__debug__" : Str)) = false := by decide) (d2 : (a == ("__debug__" : Str)) = false := by decide) (d3 : (a == ("__classdict__" : Str)) = false := by decide) :
    PE X (.Call (.Name x p1) [.Lambda ar bd sc p2] [] p3) (tLamK U TT t) := by
  refine ⟨fun pins s σ H Q I hyp => ?_⟩
  obtain ⟨tabs, hyp⟩ := hyp
  refine wpAny_Call_Name_kw (ld_glob I gl at_ ?_ d1)
  refine PySem.W.callWith_K (h₀ := X.base) I.ok.mod.kin kp ?_ (by rfl) (by rfl)
  show wpAny _ _ (spliced ((false, eval (.Lambda ar bd sc p2) X.env) :: backTo p3 (starEach [] X.env))) _ _ s
  refine Calls.spliced_cons (lam_new I TB own mem one tabs nodef (L.has I.ok) fun f c' pm' ctv H1 z J kept T1 isF freeF offF isC => Calls.spliced_nil ⟨J.kIn, ?_⟩)
  have run : codeAny (model X.prog X.w) X.A (.call (.ref g) ⟨[.ref f], []⟩) (CR C8.CX0 X.stack X.prog X.w H1 z Q C8.E0) z := by
    refine run_ofS (N := Ng) (ps := [a]) (us := [.ref f]) (vs := [.ref f]) lk cd S room J.env0 (bind z [.ref f] J.kIn rfl) (.cons rfl .nil) rfl fun room' => ?_
    have acts := fun (W : WX) (pn : List (Addr × Obj)) (xe : Value → Shared → Prop) (E : XK) (q1 q2 : Pos) tk hW =>
      pe_act (CXg := C8.CX0) (Eg := C8.E0) (Ng := Ng) (qg := x) (sg := sg) (g := g) (cdg := cdv) (i := 0) (a := a) (pn := pn) (xe := xe) (W := W) (E := E) (p1 := q1) (p2 := q2) (σ := σ) (tb := t E) J L isF freeF offF (bindL _ _ _ _ _) tk hW room' (fun A outer s H r2 => body A outer s H E f c' r2) first vis d2 d3
    obtain ⟨u, hu, qu⟩ := gives f c' z H1 Q (fun E H' Q' => t E σ H' Q') (fun W pn xe E q1 q2 tk hW => acts W pn xe E q1 q2 tk hW) isC (hyp H1 kept T1)
    exact ⟨u, hu.nox, qu⟩
  refine wpAny_call (codeAny_mono run fun r y hy => ?_)
  match r, hy with
  | .ok (.ret u), hy => exact J.after hy
  | .error e, hy => exact (show False from hy).elim
  | .ok .next, hy => exact False.elim hy
  | .ok .brk, hy => exact False.elim hy
  | .ok .cont, hy => exact False.elim hy
end
end DL
set_option Elab.async false
set_option linter.all false
set_option maxRecDepth 100000
set_option maxHeartbeats 2000000
/-! DL, try and except; a lambda handed to a def that catches what it raises. -/
namespace DL
open PySem L2
variable {Θ : Tb} {W U : WX}
def isEr : Sl → Bool
  | .er _ _ => true
  | _ => false
def noEr (ρ : Rho) : Bool := ρ.all fun s => !isEr s
theorem noEr_at {ρ : Rho} (h : noEr ρ = true) {i : Nat} {c : Str} {fs : List (Str × D)} (e : ρ[i]? = some (.er c fs)) : False := by
  have := List.all_eq_true.mp h _ (List.mem_of_getElem? e)
  cases this
def enterR (i : Option Nat) (c : Str) (fs : List (Str × D)) (ρ : Rho) : Rho := match i with
  | none => ρ
  | some i => ρ.set i (.er c fs)
def leaveR (i : Option Nat) (ρ : Rho) : Rho := match i with
  | none => ρ
  | some i => ρ.set i .no
def slotOk (i : Option Nat) (ρ : Rho) : Bool := match i with
  | none => true
  | some i => !isIo ρ[i]? && decide (i < ρ.length)
def goneO (i : Option Nat) : Out → Option Out
  | .nx ρ => if slotOk i ρ = true ∧ noEr (leaveR i ρ) = true then some (.nx (leaveR i ρ)) else none
  | .rt d ρ => if slotOk i ρ = true ∧ noEr (leaveR i ρ) = true then some (.rt d (leaveR i ρ)) else none
  | .bk ρ => if slotOk i ρ = true ∧ noEr (leaveR i ρ) = true then some (.bk (leaveR i ρ)) else none
  | .ct ρ => if slotOk i ρ = true ∧ noEr (leaveR i ρ) = true then some (.ct (leaveR i ρ)) else none
  | _ => none
/-- a clause as data: its name's slot, whether it takes an exception of this class, its suite -/
structure ClD where
  slot : Option Nat
  is : Str → Option Bool
  suite : MS
def tryC : List ClD → Str → List (Str × D) → MS
  | [], c, fs, ρ => some (.ex c fs ρ)
  | q :: r, c, fs, ρ => match q.is c with
    | some true => if slotOk q.slot ρ = true ∧ noEr ρ = true then (q.suite (enterR q.slot c fs ρ)).bind (goneO q.slot) else none
    | some false => tryC r c fs ρ
    | none => none
def mTry (b : MS) (cl : List ClD) : MS := fun ρ => (b ρ).bind fun o => match o with
  | .ex c fs ρ1 => tryC cl c fs ρ1
  | o => some o
section
variable {K : Frag}
theorem SR.amb {σ : St} {ρ : Rho} {B H : Hp} {e : Option (Addr × Addr × Addr)} (r : SR Θ K σ ρ B H) (h : noEr ρ = true) : SR ⟨Θ.T, e⟩ K σ ρ B H :=
  ⟨r.ex, r.sh, r.ow, r.ap, r.len, r.tb, r.nt, fun i c fs z => (noEr_at h z).elim⟩
/-- a slot that holds no own thing of a parameter's gets another value, of which nothing is told as data -/
theorem SR.setX {σ : St} {ρ : Rho} {B H : Hp} {i : Nat} {x : Option V} {s : Sl} (r : SR Θ K σ ρ B H) (hi : isIo ρ[i]? = false) (hs : s = .no) :
    SR Θ K (σ.set i x) (ρ.set i s) B H ∧ Step σ ρ B H (σ.set i x) (ρ.set i s) B H := by
  subst hs
  have ownOf : ∀ j a, OwnI (σ.set i x) (ρ.set i .no) j a → OwnI σ ρ j a := by
    rintro j a ⟨t, c, h1, h2, h3⟩
    rcases get_set_sh h1 with ⟨rfl, rfl, _⟩ | ⟨ne, h1⟩
    · cases h2
    · rw [List.getElem?_set_ne (Ne.symm ne)] at h3
      exact ⟨t, c, h1, h2, h3⟩
  refine ⟨⟨r.ex, fun j e hj => ?_, fun j t c hj hc => ?_, fun j k a h1 h2 => r.ap j k a (ownOf _ _ h1) (ownOf _ _ h2), by rw [List.length_set, List.length_set]; exact r.len, r.tb, r.nt, fun j c fs hj => ?_⟩,
    ⟨Evl.Ex.refl _, fun _ _ _ q _ => q, fun _ q => q, fun a ⟨j, q⟩ => .inl ⟨j, ownOf _ _ q⟩, fun _ q => .inl q, fun j c hj => ?_, fun a ⟨j, c, h1, h2⟩ => ?_⟩⟩
  · rcases get_set_sh hj with ⟨rfl, e1, hl⟩ | ⟨ne, hj⟩
    · cases e1
    · rw [List.getElem?_set_ne (Ne.symm ne)]
      exact r.sh j e hj
  · rcases get_set_sh hj with ⟨rfl, rfl, hl⟩ | ⟨ne, hj⟩
    · cases hc
    · rw [List.getElem?_set_ne (Ne.symm ne)]
      exact r.ow j t c hj hc
  · rcases get_set_sh hj with ⟨rfl, e, _⟩ | ⟨ne, hj⟩
    · cases e
    · rw [List.getElem?_set_ne (Ne.symm ne)]; exact r.er j c fs hj
  · have ne : j ≠ i := fun e => isIo_no hi c (e ▸ hj)
    rw [List.getElem?_set_ne (Ne.symm ne), List.getElem?_set_ne (Ne.symm ne)]
    exact ⟨rfl, c, hj⟩
  · rcases get_set_sh h1 with ⟨rfl, e, _⟩ | ⟨ne, h1⟩
    · cases e
    · rw [List.getElem?_set_ne (Ne.symm ne)] at h2
      exact .inl ⟨j, c, h1, h2⟩
theorem SR.setEr {σ : St} {ρ : Rho} {B H : Hp} {i : Nat} {a C d : Addr} {c : Str} {fs : List (Str × D)} (r : SR Θ K σ ρ B H) (hi : isIo ρ[i]? = false) (hl : i < ρ.length) (hn : noEr ρ = true) (hx : ExAt K B H C d c fs) :
    SR ⟨Θ.T, some (a, C, d)⟩ K (σ.set i (some (.ref a))) (ρ.set i (.er c fs)) B H ∧ Step σ ρ B H (σ.set i (some (.ref a))) (ρ.set i (.er c fs)) B H := by
  obtain ⟨r1, s1⟩ := r.setX (x := some (.ref a)) (s := .no) hi rfl
  have other : ∀ {j : Nat} {s : Sl}, (ρ.set i (.er c fs))[j]? = some s → isEr s = false → (ρ.set i .no)[j]? = some s := by
    intro j s h ne
    rcases get_set_sh h with ⟨rfl, rfl, _⟩ | ⟨nj, h⟩
    · cases ne
    · rw [List.getElem?_set_ne (Ne.symm nj)]; exact h
  have ownOf : ∀ {j : Nat} {b : Addr}, OwnI (σ.set i (some (.ref a))) (ρ.set i (.er c fs)) j b → OwnI (σ.set i (some (.ref a))) (ρ.set i .no) j b := by
    rintro j b ⟨t, c', h1, h2, h3⟩
    exact ⟨t, c', other h1 (by cases t <;> first | rfl | cases h2), h2, h3⟩
  refine ⟨⟨r1.ex, fun j e hj => r1.sh j e (other hj rfl), fun j t c' hj hc => r1.ow j t c' (other hj (by cases t <;> first | rfl | cases hc)) hc, fun j k b h1 h2 => r1.ap j k b (ownOf h1) (ownOf h2), by rw [List.length_set, List.length_set]; exact r.len, r1.tb, r1.nt, fun j c' fs' hj => ?_⟩,
    ⟨s1.ex, s1.keep, s1.dom, fun b ⟨j, z⟩ => s1.own b ⟨j, ownOf z⟩, s1.new, fun j c' hj => ?_, fun b ⟨j, c', h1, h2⟩ => s1.ow b ⟨j, c', other h1 rfl, h2⟩⟩⟩
  · rcases get_set_sh hj with ⟨rfl, e, _⟩ | ⟨nj, hj⟩
    · cases e
      exact ⟨a, C, d, rfl, set_lt (by rw [r.len]; exact hl), hx⟩
    · exact (noEr_at hn hj).elim
  · have ne : j ≠ i := fun e => isIo_no hi c' (e ▸ hj)
    rw [List.getElem?_set_ne (Ne.symm ne), List.getElem?_set_ne (Ne.symm ne)]
    exact ⟨rfl, c', hj⟩
theorem slotOk_io {i : Nat} {ρ : Rho} (h : slotOk (some i) ρ = true) : isIo ρ[i]? = false ∧ i < ρ.length := by
  simp only [slotOk, Bool.and_eq_true, Bool.not_eq_true', decide_eq_true_eq] at h
  exact h
/-- into a suite -/
theorem SR.enterS {σ : St} {ρ : Rho} {B H : Hp} {i : Option Nat} {a C d : Addr} {c : Str} {fs : List (Str × D)} (r : SR Θ K σ ρ B H) (hi : slotOk i ρ = true) (hn : noEr ρ = true) (hx : ExAt K B H C d c fs) :
    SR ⟨Θ.T, some (a, C, d)⟩ K (named i a σ) (enterR i c fs ρ) B H ∧ Step σ ρ B H (named i a σ) (enterR i c fs ρ) B H := by
  cases i with
  | none => exact ⟨r.amb hn, Step.refl⟩
  | some i => exact r.setEr (slotOk_io hi).1 (slotOk_io hi).2 hn hx
/-- out of it -/
theorem SR.leaveS {σ : St} {ρ : Rho} {B H : Hp} {i : Option Nat} {e : Option (Addr × Addr × Addr)} (r : SR ⟨Θ.T, e⟩ K σ ρ B H) (hi : slotOk i ρ = true) (hn : noEr (leaveR i ρ) = true) :
    ∃ σ', SR Θ K σ' (leaveR i ρ) B H ∧ Step σ ρ B H σ' (leaveR i ρ) B H ∧ ∀ D' : Ends, (D'.nx σ' H → (gone i D').nx σ H) ∧ (D'.bk σ' H → (gone i D').bk σ H) ∧ (D'.ct σ' H → (gone i D').ct σ H) := by
  cases i with
  | none => exact ⟨σ, r.amb (Θ := ⟨Θ.T, e⟩) (e := Θ.E) hn, Step.refl, fun D' => ⟨id, id, id⟩⟩
  | some i =>
    obtain ⟨r1, s1⟩ := r.setX (x := none) (s := .no) (slotOk_io hi).1 rfl
    exact ⟨_, r1.amb (Θ := ⟨Θ.T, e⟩) (e := Θ.E) hn, s1, fun D' => ⟨id, id, id⟩⟩
/-- a clause and its data -/
structure ClR (Θ : Tb) (K : Frag) (q : Cl) (p : ClD) : Prop where
  slot : q.2.1 = p.slot
  is : ∀ c C b, p.is c = some b → ClsAt K c C → PySem.W.exmOne K (.ref C) q.1 = some b
  suite : ∀ a C d, SOk ⟨Θ.T, some (a, C, d)⟩ (fun _ _ _ _ => False) K (q.2.2 a (.ref C) (some d)) p.suite
inductive All2 {α β : Type} (R : α → β → Prop) : List α → List β → Prop
  | nil : All2 R [] []
  | cons {a : α} {b : β} {as : List α} {bs : List β} : R a b → All2 R as bs → All2 R (a :: as) (b :: bs)
/-- an exception comes to the clauses -/
theorem try_core {C d : Addr} {c : Str} {fs : List (Str × D)} {σ : St} {ρ : Rho} {B H : Hp} {D' : Ends} {o : Out} (r : SR Θ K σ ρ B H) (ha : ExAt K B H C d c fs) : ∀ {l : List Cl} {cl : List ClD}, All2 (ClR Θ K) l cl → tryC cl c fs ρ = some o → Wish Θ U K σ ρ B H D' o → wCl K U D' l (.ref C) (some d) σ H
  | _, _, .nil, e, w => by
    cases e
    exact w C d σ B H r Step.refl ha
  | q :: l, p :: cl, .cons hq hr, e, w => by
    unfold tryC at e
    split at e
    · rename_i ht
      split at e
      case isFalse => cases e
      rename_i hok
      simp only [Option.bind_eq_some_iff] at e
      obtain ⟨o2, e1, e2⟩ := e
      refine ⟨true, hq.is c C true ht ha.1, fun _ a na => ?_, fun z => (nomatch z)⟩
      rw [hq.slot]
      obtain ⟨r1, s1⟩ := r.enterS (a := a) hok.1 hok.2 ha
      refine hq.suite a C d _ _ B H _ o2 r1 e1 ?_
      cases o2 with
      | ex c' fs' ρ2 => cases e2
      | ro c' ρ2 => cases e2
      | nx ρ2 =>
        simp only [goneO] at e2
        split at e2
        case isFalse => cases e2
        rename_i h2
        cases e2
        intro σ3 B3 H3 r3 s3
        obtain ⟨σ4, r4, s4, k4⟩ := SR.leaveS (Θ := Θ) r3 h2.1 h2.2
        exact (k4 D').1 (w σ4 B3 H3 r4 ((s1.trans s3).trans s4))
      | bk ρ2 =>
        simp only [goneO] at e2
        split at e2
        case isFalse => cases e2
        rename_i h2
        cases e2
        intro σ3 B3 H3 r3 s3
        obtain ⟨σ4, r4, s4, k4⟩ := SR.leaveS (Θ := Θ) r3 h2.1 h2.2
        exact (k4 D').2.1 (w σ4 B3 H3 r4 ((s1.trans s3).trans s4))
      | ct ρ2 =>
        simp only [goneO] at e2
        split at e2
        case isFalse => cases e2
        rename_i h2
        cases e2
        intro σ3 B3 H3 r3 s3
        obtain ⟨σ4, r4, s4, k4⟩ := SR.leaveS (Θ := Θ) r3 h2.1 h2.2
        exact (k4 D').2.2 (w σ4 B3 H3 r4 ((s1.trans s3).trans s4))
      | rt dd ρ2 =>
        simp only [goneO] at e2
        split at e2
        case isFalse => cases e2
        rename_i h2
        cases e2
        intro v σ3 B3 H3 r3 s3 rv
        obtain ⟨σ4, r4, s4, k4⟩ := SR.leaveS (Θ := Θ) r3 h2.1 h2.2
        have := w v σ4 B3 H3 r4 ((s1.trans s3).trans s4) rv
        cases hp : p.slot <;> exact this
    · rename_i ht
      exact ⟨false, hq.is c C false ht ha.1, fun z => (nomatch z), fun _ => try_core r ha hr e w⟩
    · cases e
end
/-- weaker wishes -/
theorem tz_imp {K : Frag} {m : MS} {D' : Ends} {σ : St} {H : Hp} (h : ∀ c d σ H, W c d σ H → U c d σ H) (t : tZ Θ W K m D' σ H) : tZ Θ U K m D' σ H := by
  obtain ⟨ρ, B, o, r, e, w⟩ := t
  refine ⟨ρ, B, o, r, e, ?_⟩
  cases o with
  | nx ρ1 => exact w
  | rt d ρ1 => exact w
  | bk ρ1 => exact w
  | ct ρ1 => exact w
  | ro c ρ1 => exact w
  | ex c fs ρ1 => exact fun C d σ1 B1 H1 r1 s1 ha => h _ _ _ _ (w C d σ1 B1 H1 r1 s1 ha)
/-- the clauses of a try, each with its suite -/
inductive ClsD (Θ : Tb) (X : Cx) : List ExceptHandler → List ClD → Prop
  | nil : ClsD Θ X [] []
  | cons {x : Str} {C : Value} {nm : Option Str} {i : Option Nat} {is : Str → Option Bool} {m : MS} {first : Stmt} {more : List Stmt} {q1 q2 : Pos} {hs : List ExceptHandler} {cl : List ClD} (names : Names X x C) (at_ : NameAt X nm i)
      (his : ∀ c C' b, is c = some b → ClsAt X.K c C' → PySem.W.exmOne X.K (.ref C') C = some b)
      (suite : ∀ (a : Addr) (ob : Obj) (C d : Addr) (pn : List (Addr × Obj)), Zc (.ref C) (some d) ob → (∃ vs, ob.data = .fields vs) → SB ⟨Θ.T, some (a, C, d)⟩ (X.suite a ((a, ob) :: pn)) (first :: more) m) (rest : ClsD Θ X hs cl) :
      ClsD Θ X (.ExceptHandler (some (.Name x q1)) nm (first :: more) q2 :: hs) (⟨i, is, m⟩ :: cl)
def tsD (Θ : Tb) (K : Frag) (m : MS) : Addr → Value → Option Addr → TS := fun a cls d D' σ H => ∃ C dd, cls = .ref C ∧ d = some dd ∧ tZ ⟨Θ.T, some (a, C, dd)⟩ (fun _ _ _ _ => False) K m D' σ H
theorem ClsD.both {X : Cx} : ∀ {hs : List ExceptHandler} {cl : List ClD}, ClsD Θ X hs cl → ∃ l, ClsOk X hs l ∧ All2 (ClR Θ X.K) l cl
  | _, _, .nil => ⟨[], .nil, .nil⟩
  | _, _, .cons (C := C) (i := i) (m := m) names at_ his suite rest => by
    obtain ⟨l, h1, h2⟩ := rest.both
    refine ⟨(C, i, tsD Θ X.K m) :: l, .cons names at_ (fun a ob cls d pn hz hf => ⟨fun pins s σ H D' I ⟨C', dd, e1, e2, t⟩ => ?_⟩) h1, .cons ⟨rfl, his, fun a C' d => ?_⟩ h2⟩
    · subst e1 e2
      exact (suite a ob C' dd pn hz hf).pe.run pins s σ H D' I (tz_imp (fun _ _ _ _ z => z.elim) t)
    · intro σ ρ B H D' o r e w
      exact ⟨C', d, rfl, rfl, ρ, B, o, r, e, w⟩
section
variable {X : Cx} {todo : List Stmt} {h0 : ExceptHandler} {hs : List ExceptHandler} {cl : List ClD} {pos : Pos} {b : MS}
end
end DL
set_option Elab.async false
set_option linter.all false
set_option maxRecDepth 100000
set_option maxHeartbeats 2000000
/-! DL, x(lambda: e), x a def that calls what it got inside a try. -/
namespace DL
open PySem L2 LamX
variable {Θ : Tb} {W U : WX}
section
variable {K : Frag}
/-- behind the making of a lambda -/
theorem SR.kept {σ : L2.St} {ρ : Rho} {B H H1 : Hp} (r : SR Θ K σ ρ B H) (k : Kept H H1) (t : Tabs Θ.T H1) : SR Θ K σ ρ B H1 ∧ Step σ ρ B H σ ρ B H1 := by
  have kk : ∀ a o, NT o → H a = some o → H1 a = some o := fun a o n z => k.ext a o z n.1
  refine ⟨⟨fun a o z => kk a o (r.nt a o z) (r.ex a o z), r.sh, fun i s c h hc => ?_, r.ap, r.len, t, r.nt, fun i c fs h => ?_⟩, ⟨Evl.Ex.refl _, fun a o n z _ => kk a o n z, k.dom, fun a z => .inl z, fun a z => .inl z, fun i c z => ⟨rfl, c, z⟩, fun a z => .inl z⟩⟩
  · obtain ⟨a, h1, h2, h3⟩ := r.ow i s c h hc
    exact ⟨a, h1, h2, h3.mono (Evl.Ex.refl _) fun o n z => kk a o n z⟩
  · obtain ⟨a, C, d, h1, h2, h3⟩ := r.er i c fs h
    exact ⟨a, C, d, h1, h2, h3.mono (Evl.Ex.refl _) fun o n z => kk d o n z⟩
theorem rep_no {n i : Nat} {s : Sl} (h : (List.replicate n Sl.no)[i]? = some s) : s = .no := List.eq_of_mem_replicate (List.mem_of_getElem? h)
/-- a frame of which nothing is told -/
theorem SR.frame {σ : L2.St} {ρ : Rho} {B H : Hp} (r : SR Θ K σ ρ B H) {σ0 : L2.St} {n : Nat} (hl : σ0.length = n) : SR Θ K σ0 (List.replicate n .no) B H :=
  ⟨r.ex, fun i d h => (nomatch rep_no h), fun i s c h hc => (by rw [rep_no h] at hc; cases hc), fun i j a ⟨s, c, h, hc, _⟩ _ => (by rw [rep_no h] at hc; cases hc), (by rw [hl, List.length_replicate]), r.tb, r.nt, fun i c fs h => (nomatch rep_no h)⟩
theorem own_rep {σ0 : L2.St} {n : Nat} {a : Addr} : ¬ Own σ0 (List.replicate n .no) a := fun ⟨i, s, c, h, hc, _⟩ => by rw [rep_no h] at hc; cases hc
/-- what a frame that owns nothing has done, seen from outside -/
theorem SR.inside {σ : L2.St} {ρ : Rho} {B H B' H' : Hp} {σ0 σ1 : L2.St} {ρ0 ρ1 : Rho} (r : SR Θ K σ ρ B H) (h0 : ∀ a, ¬ Own σ0 ρ0 a) (r' : SR Θ K σ1 ρ1 B' H') (s' : Step σ0 ρ0 B H σ1 ρ1 B' H') : SR Θ K σ ρ B' H' ∧ Step σ ρ B H σ ρ B' H' := by
  have kk : ∀ a o, NT o → H a = some o → H' a = some o := fun a o n z => s'.keep a o n z (h0 a)
  have nw : ∀ a, B' a ≠ none → B a ≠ none ∨ H a = none := fun a z => by
    rcases s'.new a z with q | q | q
    · exact .inl q
    · exact .inr q
    · exact (h0 a q).elim
  refine ⟨⟨r'.ex, fun i d h => ?_, fun i s c h hc => ?_, r.ap, r.len, r'.tb, r'.nt, fun i c fs h => ?_⟩, ⟨s'.ex, fun a o n z _ => kk a o n z, s'.dom, fun a z => .inl z, fun a z => (nw a z).imp id .inl, fun i c z => ⟨rfl, c, z⟩, fun a z => .inl z⟩⟩
  · obtain ⟨v, h1, h2⟩ := r.sh i d h
    exact ⟨v, h1, h2.mono s'.ex⟩
  · obtain ⟨a, h1, h2, h3⟩ := r.ow i s c h hc
    refine ⟨a, h1, ?_, h3.mono s'.ex fun o n z => kk a o n z⟩
    cases q : B' a with
    | none => rfl
    | some u =>
      obtain ⟨o, ho⟩ := h3.some
      rcases nw a (by rw [q]; simp) with z | z
      · exact (z h2).elim
      · rw [ho] at z; cases z
  · obtain ⟨a, C, d, h1, h2, h3⟩ := r.er i c fs h
    exact ⟨a, C, d, h1, h2, h3.mono s'.ex fun o n z => kk d o n z⟩
end
/-- what was asked has ended so -/
def mAsk (o : XO D) : MS := fun ρ => match o with
  | .ret _ => some (.nx ρ)
  | .exc c fs => some (.ex c fs ρ)
/-- what the def hands back whose frame has N slots, of which nothing is told -/
def askRun (N : Nat) (m : MS) : Option D := match m (List.replicate N .no) with
  | some (.rt d _) => some d
  | _ => none
/-- what an outcome promises -/
def OutOk (Θ : Tb) (K : Frag) (σ : L2.St) (ρ ρ' : Rho) (B H : Hp) (E : XK) (Q : VK) : XO D → Prop
  | .ret d => ∀ (v : V) (B' H' : Hp), SR Θ K σ ρ' B' H' → Step σ ρ B H σ ρ' B' H' → Rp K B' v d → Q v H'
  | .exc c fs => ∀ (C d : Addr) (B' H' : Hp), SR Θ K σ ρ' B' H' → Step σ ρ B H σ ρ' B' H' → ExAt K B' H' C d c fs → E (.ref C) (some d) H'
/-- the lambda's reading -/
def tLm (Θ : Tb) (K : Frag) (ml : MFX) (E : XK) : TE := fun σ H Q => ∃ ρ B o ρ', SR Θ K σ ρ B H ∧ ml ρ = some (o, ρ') ∧ OutOk Θ K σ ρ ρ' B H E Q o
/-- what the def that calls it makes of it -/
def TTd (Θ : Tb) (K : Frag) (F : XO D → Option D) : (XK → Hp → VK → Prop) → Hp → VK → Prop := fun tl H Q =>
  ∃ σ ρ ρ' B o d, SR Θ K σ ρ B H ∧ F o = some d ∧ (∀ E Q1, OutOk Θ K σ ρ ρ' B H E Q1 o → tl E H Q1) ∧ ∀ (v : V) (B' H' : Hp), SR Θ K σ ρ' B' H' → Step σ ρ B H σ ρ' B' H' → Rp K B' v d → Q v H'
def longer (n : Nat) (l : List Cl) : List Cl := l.map fun q => (q.1, q.2.1, fun a cls d D' σ H => σ.length = n → q.2.2 a cls d D' σ H)
theorem ClsOk.longer {X : Cx} {n : Nat} (hn : X.N.length = n) : ∀ {hs : List ExceptHandler} {l : List Cl}, ClsOk X hs l → ClsOk X hs (DL.longer n l)
  | _, _, .nil => .nil
  | _, _, .cons names at_ suite rest => .cons names at_ (fun a ob cls d pn hz hf => ⟨fun pins s σ H D' I h => (suite a ob cls d pn hz hf).run pins s σ H D' I (h (I.len.trans hn))⟩) (rest.longer hn)
theorem named_len {i : Option Nat} {a : Addr} {σ : L2.St} : (named i a σ).length = σ.length := by cases i <;> simp [named]
theorem wcl_longer {K : Frag} {n : Nat} {D' : Ends} {cls : Value} {d : Option Addr} {σ : L2.St} {H : Hp} : ∀ {l : List Cl}, (σ.length = n → wCl K U D' l cls d σ H) → (∀ q ∈ l, ∃ b, PySem.W.exmOne K cls q.1 = some b) → (σ.length ≠ n → ∃ q ∈ l, PySem.W.exmOne K cls q.1 = some true) → wCl K U D' (longer n l) cls d σ H
  | [], h, _, no => by
    by_cases hl : σ.length = n
    · exact h hl
    · obtain ⟨q, hq, _⟩ := no hl
      cases hq
  | q :: l, h, all, no => by
    obtain ⟨b, hb⟩ := all q (List.mem_cons_self ..)
    by_cases hl : σ.length = n
    · obtain ⟨b', h1, h2, h3⟩ := h hl
      exact ⟨b', h1, fun e a na _ => h2 e a na, fun e => wcl_longer (fun _ => h3 e) (fun p hp => all p (List.mem_cons_of_mem _ hp)) fun z => (z hl).elim⟩
    · refine ⟨b, hb, fun _ a _ z => (hl (named_len.symm.trans z)).elim, fun e => wcl_longer (fun z => (hl z).elim) (fun p hp => all p (List.mem_cons_of_mem _ hp)) fun z => ?_⟩
      obtain ⟨p, hp, hx⟩ := no z
      rcases List.mem_cons.mp hp with rfl | hp
      · rw [hb, e] at hx; cases hx
      · exact ⟨p, hp, hx⟩
theorem tryC_hit : ∀ {cl : List ClD} {c : Str} {fs : List (Str × D)} {ρ : Rho} {o : Out}, tryC cl c fs ρ = some o → (∀ c' fs' ρ', o ≠ .ex c' fs' ρ') → ∃ p ∈ cl, p.is c = some true
  | [], c, fs, ρ, o, e, n => by cases e; exact (n _ _ _ rfl).elim
  | p :: cl, c, fs, ρ, o, e, n => by
    unfold tryC at e
    split at e
    · rename_i h; exact ⟨p, List.mem_cons_self .., h⟩
    · obtain ⟨q, hq, h⟩ := tryC_hit e n
      exact ⟨q, List.mem_cons_of_mem _ hq, h⟩
    · cases e
theorem all2_l {α β : Type} {R : α → β → Prop} : ∀ {l : List α} {m : List β}, All2 R l m → ∀ a ∈ l, ∃ b ∈ m, R a b
  | _, _, .nil, a, h => by cases h
  | _, _, .cons h r, a, ha => by
    rcases List.mem_cons.mp ha with rfl | ha
    · exact ⟨_, List.mem_cons_self .., h⟩
    · obtain ⟨b, hb, hr⟩ := all2_l r a ha
      exact ⟨b, List.mem_cons_of_mem _ hb, hr⟩
theorem all2_r {α β : Type} {R : α → β → Prop} : ∀ {l : List α} {m : List β}, All2 R l m → ∀ b ∈ m, ∃ a ∈ l, R a b
  | _, _, .nil, a, h => by cases h
  | _, _, .cons h r, a, ha => by
    rcases List.mem_cons.mp ha with rfl | ha
    · exact ⟨_, List.mem_cons_self .., h⟩
    · obtain ⟨b, hb, hr⟩ := all2_r r a ha
      exact ⟨b, List.mem_cons_of_mem _ hb, hr⟩
theorem gives_ask {X : Cx} {a x q : Str} {N : List Str} {sg : Scope} {g : Addr} {cdg : Value} {h0 : ExceptHandler} {hs : List ExceptHandler} {rest : List Stmt} {q1 q2 q3 q4 : Pos} {cl : List ClD} {mr : MS} (nd : N.Nodup)
    (hcl : ∀ (s : Shared) (H : Hp), ClsD Θ (cxOf C8.CX0 X.prog X.w X.K X.mg X.base N x sg g cdg X.A X.stack s H C8.E0).nox (h0 :: hs) cl)
    (hr : ∀ (s : Shared) (H : Hp), SB Θ (cxOf C8.CX0 X.prog X.w X.K X.mg X.base N x sg g cdg X.A X.stack s H C8.E0).nox rest mr)
    (hall : ∀ c, (∃ p ∈ cl, p.is c = some true) → ∀ p ∈ cl, (p.is c).isSome = true)
    (h1 : 1 ≤ N.length) :
    GivesTo X N x sg g cdg (.Try [.Expr (.Call (.Name a q1) [] [] q2) q3] (h0 :: hs) [] [] q4 :: rest) a q (TTd Θ X.K fun o => askRun N.length (mSeq (mTry (mAsk o) cl) mr)) := by
  intro f c' s H Q tl act hc ⟨σc, ρ, ρ', B, o, d, r, hF, htl, hQ⟩
  obtain ⟨l, k1, k2⟩ := (hcl s H).both
  have k3 := k1.longer (n := N.length) rfl
  let σ0 : L2.St := L2.start N [V.ref f]
  have hl0 : σ0.length = N.length := by simp only [σ0, L2.start, List.length_append, List.length_map, List.length_replicate, List.length_cons, List.length_nil]; omega
  let tb : WX → TS := fun U D' σ H => ∃ E : XK, (∀ cls d σ' H', E cls d H' → U cls d σ' H') ∧ σ[0]? = some (some (.ref f)) ∧ H c' = some (CodeO c' q) ∧ tl E H (fun _ H' => D'.nx σ H')
  refine ⟨_, pss_cons (ps_tryN (X := (cxOf C8.CX0 X.prog X.w X.K X.mg X.base N x sg g cdg X.A X.stack s H C8.E0).nox) (tb := tb) (V := fun _ _ _ _ => False) nd rfl rfl LamX.takes0 (fun U pn xe tk _ => ⟨fun pins z σ H D' I h => ?_⟩) k3) (hr s H).pe, ?_⟩
  · obtain ⟨E, hE, e1, e2, e3⟩ := h
    exact (pss_one (ps_expr (pos := q3) (act U pn xe E q1 q2 tk hE))).run pins z σ H D' I ⟨e1, e2, e3⟩
  · -- the ends of the whole
    have hF : askRun N.length (mSeq (mTry (mAsk o) cl) mr) = some d := hF
    unfold askRun at hF
    split at hF
    case h_2 => cases hF
    rename_i d' ρe hm
    cases hF
    have fin : ∀ {v : V} {B2 H2 : Hp} {σ2 : L2.St} {ρ2 : Rho} {B1 H1 : Hp} {σ1 : L2.St} (n1 : σ1.length = N.length), SR Θ X.K σc ρ' B1 H1 → Step σc ρ B H σc ρ' B1 H1 → SR Θ X.K σ2 ρ2 B2 H2 → Step σ1 (List.replicate N.length .no) B1 H1 σ2 ρ2 B2 H2 → Rp X.K B2 v d → Q v H2 := fun n1 ra sa rb sb rv => by
      obtain ⟨r3, s3⟩ := ra.inside (fun a => own_rep) rb sb
      exact hQ _ _ _ r3 (sa.trans s3) rv
    simp only [mSeq, mTry, Option.bind_eq_some_iff] at hm
    obtain ⟨o1, ⟨o0, e0, e1⟩, e2⟩ := hm
    refine ⟨fun cls dd H' => ∀ σ', wCl X.K (fun _ _ _ _ => False) { nx := fun σ H' => tZ Θ (Wof (cxOf C8.CX0 X.prog X.w X.K X.mg X.base N x sg g cdg X.A X.stack s H C8.E0).nox) X.K mr { nx := fun _ H' => Q .non H', rt := Q } σ H', rt := Q } (longer N.length l) cls dd σ' H', fun cls dd σ' H' z => z σ', rfl, hc, htl _ _ ?_⟩
    cases o with
    | ret d0 =>
      cases e0
      cases e1
      intro v B1 H1 r1 s1 rv
      exact ⟨_, B1, _, r1.frame hl0, e2, fun v2 σ3 B3 H3 r3 s3 rv2 => fin hl0 r1 s1 r3 s3 rv2⟩
    | exc c fs =>
      cases e0
      have e1 : tryC cl c fs (List.replicate N.length .no) = some o1 := e1
      intro C dd B1 H1 r1 s1 ha σ'
      have hit := tryC_hit e1 (fun c' fs' ρ' z => by subst z; cases e2)
      have x1 : ∀ q ∈ l, ∃ b, PySem.W.exmOne X.K (.ref C) q.1 = some b := fun q hq => by
        obtain ⟨p, hp, hR⟩ := all2_l k2 q hq
        obtain ⟨b, hb⟩ := Option.isSome_iff_exists.mp (hall c hit p hp)
        exact ⟨b, hR.is c C b hb ha.1⟩
      have x2 : ∃ q ∈ l, PySem.W.exmOne X.K (.ref C) q.1 = some true := by
        obtain ⟨p, hp, ht⟩ := hit
        obtain ⟨q, hq, hR⟩ := all2_r k2 p hp
        exact ⟨q, hq, hR.is c C true ht ha.1⟩
      refine wcl_longer (fun hl => ?_) x1 fun _ => x2
      refine try_core (r1.frame hl) ha k2 e1 ?_
      cases o1 with
      | nx ρ1 => exact fun σ2 B2 H2 r2 s2 => ⟨ρ1, B2, _, r2, e2, fun v σ3 B3 H3 r3 s3 rv => fin hl r1 s1 r3 (s2.trans s3) rv⟩
      | rt d1 ρ1 => cases e2; exact fun v σ2 B2 H2 r2 s2 rv => fin hl r1 s1 r2 s2 rv
      | bk ρ1 => cases e2
      | ct ρ1 => cases e2
      | ro c ρ1 => cases e2
      | ex c fs ρ1 => cases e2
end DL
set_option Elab.async false
set_option linter.all false
set_option maxRecDepth 100000
set_option maxHeartbeats 2000000
/-! DL, the rule for x(lambda: e), the defs that have lambdas, the end of a law with lambdas. -/
namespace DL
open PySem L2 LamX
variable {Θ : Tb} {W U : WX}
def lamQ (x : Str) : Str := (x ++ ".<locals>.") ++ "<lambda>"
/-- the code object of the def x -/
def CodeOf (K : Frag) (mg : Str → Option Value) (x : Str) (c : Addr) : Prop := ∃ (f : Addr) (oc : Value) (od : Option Addr) (fd : FuncData) (sl : Array (Option Value)), mg x = some (.ref f) ∧ K.lookup f = some ⟨oc, od, .func fd, sl⟩ ∧ fd.code = .ref c
/-- the defs that make lambdas: their names, their code objects, those's tables -/
structure Lams (Θ : Tb) (K : Frag) (mg : Str → Option Value) (base : Heap) (LN : List Str) (cs : List (Str × Addr × Addr)) : Prop where
  nm : cs.map (·.1) = LN
  tabs : Θ.T = cs.map fun p => (p.2.2, lamQ p.1)
  tb : ∀ p ∈ cs, TabB base mg p.2.1 p.2.2
  one : ∀ p ∈ cs, ∀ q ∈ cs, p.2.2 = q.2.2 → p.1 = q.1
  code : ∀ p ∈ cs, CodeOf K mg p.1 p.2.1
theorem Lams.at {K : Frag} {mg : Str → Option Value} {base : Heap} {LN : List Str} {cs : List (Str × Addr × Addr)} (Z : Lams Θ K mg base LN cs) {i : Nat} {y : Str} (h : LN[i]? = some y) : ∃ c P, (y, c, P) ∈ cs := by
  rw [← Z.nm, List.getElem?_map] at h
  cases e : cs[i]? with
  | none => rw [e] at h; cases h
  | some p =>
    rw [e] at h
    cases h
    exact ⟨p.2.1, p.2.2, List.mem_of_getElem? e⟩
theorem Lams.amb {K : Frag} {mg : Str → Option Value} {base : Heap} {LN : List Str} {cs : List (Str × Addr × Addr)} (Z : Lams Θ K mg base LN cs) (e : Option (Addr × Addr × Addr)) : Lams ⟨Θ.T, e⟩ K mg base LN cs := ⟨Z.nm, Z.tabs, Z.tb, Z.one, Z.code⟩
/-- what a lambda's body does -/
structure SL (Θ : Tb) (X : Cx) (E : XK) (e : Expr) (ml : MFX) : Prop where
  pe : PE X e (tLm Θ X.K ml E)
/-- x(lambda: e) -/
def mLam (F : XO D → Option D) (ml : MFX) : ME := fun ρ => (ml ρ).bind fun x => (F x.1).map fun d => (d, x.2)
theorem eok_lam {K : Frag} {F : XO D → Option D} {ml : MFX} : EOk Θ K (tLamK Θ.T (TTd Θ K F) fun E => tLm Θ K ml E) (mLam F ml) := by
  intro σ ρ B H d ρ' r e Q q
  simp only [mLam, Option.bind_eq_some_iff, Option.map_eq_some_iff] at e
  obtain ⟨⟨o, ρ1⟩, e1, d1, e2, e3⟩ := e
  cases e3
  refine ⟨r.tb, fun H1 kp T1 => ?_⟩
  obtain ⟨r1, s1⟩ := r.kept kp T1
  exact ⟨σ, ρ, _, B, o, d, r1, e2, fun E Q1 h => ⟨ρ, B, o, _, r1, e1, h⟩, fun v B' H' r' s' rv => q v B' H' r' (s1.trans s') rv⟩
theorem se_lam {X : Cx} {x a y : Str} {st : Stmt} {Ng LN : List Str} {c P : Addr} {k j : Nat} {cs : List (Str × Addr × Addr)} {ar : Arguments} {bd : Expr} {sc : Scope} {p1 p2 p3 : Pos} {F : XO D → Option D} {ml : MFX} (Z : Lams Θ X.K X.mg X.base LN cs) (mem : (y, c, P) ∈ cs) (own : X.env.code = .ref c) (hq : X.env.qual ++ "<lambda>" = lamQ y)
    (Dx : DefAt X.K X.mg x st [a]) (S : FnScope Ng [a] (defScope st)) (first : Ng[0]? = some a) (vis : Vis (defScope st) a) (gives : ∀ (g : Addr) (cdg : Value), GivesTo X Ng x (defScope st) g cdg (defBody st) a (X.env.qual ++ "<lambda>") (TTd Θ X.K F))
    (body : ∀ (A : Around) (outer : List Env) (s : Shared) (H : Hp) (E : XK) (f c' : Addr), Room j (A.deeper (lamEnv X sc s.heap.objs.size f c')) → SL Θ (lamCx X A outer s H E sc f c') E bd ml)
    (hr : Room k X.A := by assumption) (hj : j + 2 ≤ k := by first | decide | omega) (L : LamS X.env.scope sc := by exact lamS_by (by decide +kernel)) (gl : Gl X x := by rfl) (nodef : defaultsOf ar X.env = ([], []) := by rfl)
    (bindL : ∀ (q : Str) (cl : List (Str × Addr)) (pm cv ctv : Value), bindArgs (PySem.W.kla_fn "<lambda>" q ar bd sc cl pm cv ctv) ⟨[], []⟩ = pure [] := by intros; rfl)
    (d1 : (x == ("__debug__" : Str)) = false := by decide) (d2 : (a == ("__debug__" : Str)) = false := by decide) (d3 : (a == ("__classdict__" : Str)) = false := by decide) :
    SE Θ X (.Call (.Name x p1) [.Lambda ar bd sc p2] [] p3) (mLam F ml) := by
  obtain ⟨g, fd, Fg, hm, hb, _⟩ := Dx.ex
  obtain ⟨oc, od, kV, doc, pm, an, cdv, ct, osl, rfl, lk, hcd⟩ := Fg.ex
  have memT : (P, X.env.qual ++ "<lambda>") ∈ Θ.T := by
    rw [Z.tabs, hq]
    exact List.mem_map.mpr ⟨(y, c, P), mem, rfl⟩
  have one : ∀ p ∈ Θ.T, p.1 = P → p.2 = X.env.qual ++ "<lambda>" := by
    intro p hp e
    rw [Z.tabs] at hp
    obtain ⟨q, hq', rfl⟩ := List.mem_map.mp hp
    rw [hq]
    exact congrArg lamQ (Z.one q hq' (y, c, P) mem e)
  exact SE.of (pe_lamK gl hm Fg.kp lk hcd hb S first vis (gives g cdv) (Z.tb _ mem) own memT one (hr.mono hj) L nodef bindL (fun A outer s H E f c' r2 => (body A outer s H E f c' r2).pe) d1 d2 d3) eok_lam
theorem takes_lam {X : Cx} {A : Around} {outer : List Env} {s : Shared} {H : Hp} {E : XK} {sc : Scope} {f c' : Addr} : Takes (lamCx X A outer s H E sc f c') (fun cls d _ H => E cls d H) := takes_of rfl rfl rfl rfl
section
variable {P : Program} {w : World} {K : Frag} {mg : Str → Option Value} {base : Heap}
end
def thOf (cs : List (Str × Addr × Addr)) : Tb := ⟨cs.map fun p => (p.2.2, lamQ p.1), none⟩
/-- what the head says of the defs that have lambdas -/
structure LamHd (K : Frag) (h : Heap) (mg : Str → Option Value) (LN : List Str) (cs : List (Str × Addr × Addr)) : Prop where
  nm : cs.map (·.1) = LN
  tab : ∀ p ∈ cs, h.get? p.2.2 = some { cls := .none, data := .fields #[] }
  no : ∀ p ∈ cs, K.lookup p.2.2 = none
  hd : ∀ p ∈ cs, PySem.W.codeHdIn K p.2.1 p.2.2 = true
  one : ∀ p ∈ cs, ∀ q ∈ cs, p.2.2 = q.2.2 → p.1 = q.1
  code : ∀ p ∈ cs, CodeOf K mg p.1 p.2.1
end DL
set_option Elab.async false
set_option linter.all false
set_option maxRecDepth 100000
set_option maxHeartbeats 2000000
/-! DL, own exception classes: what the top has written of them; an exception's attributes in a suite. -/
namespace DL
open PySem L2
variable {Θ : Tb} {W U : WX}
/-- which class is which, of these -/
def exmB (K : Frag) (errs cl : List Str) : Bool := errs.all fun c => cl.all fun n => match PySem.W.nsIn K mainGlobals c, PySem.W.nsIn K mainGlobals n with
  | some (some (.ref C)), some (some (.ref N)) => PySem.W.exmOne K (.ref C) (.ref N) == some (c == n)
  | _, _ => false
/-- whose attributes can be read, of these -/
def fldB (K : Frag) (errs fl : List Str) : Bool := errs.all fun c => match PySem.W.nsIn K mainGlobals c with
  | some (some (.ref C)) => xfB K C && fl.all fun f => decide (PySem.W.findIn K (.ref C) f = some none)
  | _ => false
theorem exmB_ok {K : Frag} {errs cl : List Str} {c n : Str} {C N : Addr} (h : exmB K errs cl = true) (hc : c ∈ errs) (hn : n ∈ cl) (h1 : ClsAt K c C) (h2 : ClsAt K n N) : PySem.W.exmOne K (.ref C) (.ref N) = some (c == n) := by
  have := List.all_eq_true.mp (List.all_eq_true.mp h c hc) n hn
  have h1 : PySem.W.nsIn K mainGlobals c = some (some (.ref C)) := h1
  have h2 : PySem.W.nsIn K mainGlobals n = some (some (.ref N)) := h2
  rw [h1, h2] at this
  exact beq_iff_eq.mp this
theorem fldB_ok {K : Frag} {errs fl : List Str} {c f : Str} {C : Addr} (h : fldB K errs fl = true) (hc : c ∈ errs) (hf : f ∈ fl) (h1 : ClsAt K c C) : XfC K C ∧ PySem.W.findIn K (.ref C) f = some none := by
  have := List.all_eq_true.mp h c hc
  have h1 : PySem.W.nsIn K mainGlobals c = some (some (.ref C)) := h1
  rw [h1] at this
  simp only [Bool.and_eq_true] at this
  exact ⟨xfB_ok this.1, of_decide_eq_true (List.all_eq_true.mp this.2 f hf)⟩
/-- a clause of one class: of these it takes its own alone -/
def isC (errs : List Str) (n : Str) : Str → Option Bool := fun c => if errs.contains c then some (c == n) else none
/-- a clause of the base of them all -/
def isB (errs : List Str) : Str → Option Bool := fun c => if errs.contains c then some true else none
theorem isC_ok {K : Frag} {errs cl : List Str} {n : Str} {N : Addr} (h : exmB K errs cl = true) (h2 : ClsAt K n N) (hn : n ∈ cl := by decide) : ∀ c C b, isC errs n c = some b → ClsAt K c C → PySem.W.exmOne K (.ref C) (.ref N) = some b := by
  intro c C b e h1
  unfold isC at e
  split at e
  · rename_i hc
    rw [← e]
    exact exmB_ok h (List.contains_iff_mem.mp hc) hn h1 h2
  · cases e
/-- e.f, e the exception that the suite holds -/
def mXf (errs : List Str) (i : Nat) (f : Str) : ME := fun ρ => match ρ[i]? with
  | some (.er c fs) => if errs.contains c then (fs.lookup f).map fun d => (d, ρ) else none
  | _ => none
theorem lookup_zip {K : Frag} {B : Hp} {f : Str} {d : D} : ∀ {fs : List (Str × D)} {vs : List V}, RpAll K B vs (fs.map (·.2)) → fs.lookup f = some d → ∃ v, ((fs.map (·.1)).zip vs).lookup f = some v ∧ Rp K B v d
  | [], _, _, h => by cases h
  | (g, e) :: fs, v :: vs, .cons h1 h2, h => by
    simp only [List.map_cons, List.zip_cons_cons, List.lookup_cons] at h ⊢
    cases q : f == g with
    | true => rw [q] at h; cases h; exact ⟨v, rfl, h1⟩
    | false => rw [q] at h; exact lookup_zip h2 h
theorem se_xf {X : Cx} {a C d : Addr} {ob : Obj} {pn : List (Addr × Obj)} {errs fl : List Str} {i : Nat} {n f : Str} {T : List (Addr × Str)} {p1 p2 : Pos} (hB : fldB X.K errs fl = true) (hz : Zc (.ref C) (some d) ob) (hf : ∃ vs, ob.data = .fields vs) (hfl : f ∈ fl := by decide)
    (hi : X.N[i]? = some n := by rfl) (hv : Vis X.env.scope n := by first | exact Or.inl rfl | exact Or.inr (Or.inl rfl) | exact Or.inr (Or.inr rfl)) (hd : (n == ("__debug__" : Str)) = false := by decide) (hcd : (n == ("__classdict__" : Str)) = false := by decide)
    (hb : ∀ u, attributeBase (.Name n p1) f X.env u = u := by intro _; rfl) : SE ⟨T, some (a, C, d)⟩ (X.suite a ((a, ob) :: pn)) (.Attribute (.Name n p1) f p2) (mXf errs i f) := by
  refine ⟨⟨fun pins s σ H Q I ⟨ρ, B, dd, ρ', r, e, q⟩ => ?_⟩⟩
  unfold mXf at e
  split at e
  · rename_i c fs hs
    split at e
    case isFalse => cases e
    rename_i hc
    simp only [Option.map_eq_some_iff] at e
    obtain ⟨d1, e1, e2⟩ := e
    cases e2
    obtain ⟨a', C', d', h1, h2, h3, vs, h4, h5⟩ := r.er i c fs hs
    cases h1
    obtain ⟨x1, x2⟩ := fldB_ok hB (List.contains_iff_mem.mp hc) hfl h3
    obtain ⟨v, l1, l2⟩ := lookup_zip h5 e1
    exact (pe_xf x1 x2 hz hf (pe_var (X := X.suite a ((a, ob) :: pn)) hi hv hd hcd) (hb _)).run pins s σ H Q I ⟨.ref a, h2, rfl, rfl, d, _, v, rfl, h4, l1, q v B H r Step.refl l2⟩
  · cases e
/-- what the top has written of an own exception class -/
structure ErrTxt (K : Frag) (mg : Str → Option Value) (c : Str) (st : Stmt) (qual : Str) (dvs : List V) (nf : List Str) : Prop where
  ex : ∃ (C fI : Addr) (fd : FuncData), ClsAt K c C ∧ mg c = some (.ref C) ∧ OexC K C ∧ PySem.W.findIn K (.ref C) "__init__" = some (some (.ref fI)) ∧ PySem.W.typeIn K (.ref fI) = some (.type "function") ∧
    FunD K "__init__" qual (defArgs st) (defBody st) (defScope st) dvs [] fI fd ∧ ∀ f ∈ nf, PySem.W.findIn K (.ref C) f = some none
section
variable {P : Program} {w : World} {K : Frag} {mg : Str → Option Value} {base : Heap}
theorem spI_len {nf : List Str} {N : List Str} (hN : N.length = nf.length + 1) : ∀ vs H Q E, spI K nf vs H Q E → vs.length = N.length := fun vs H Q E ⟨a, C, ys, e, hl, _⟩ => by rw [e, List.length_cons, hl, hN]
/-- made with all that its __init__ takes, or with none of it -/
theorem err_mk {c qual : Str} {st : Stmt} {dvs : List V} {nf N : List Str} {df : List D} {t : TS} (E : ErrTxt K mg c st qual dvs nf) (S : FnScope N N (defScope st)) (hN : N.length = nf.length + 1)
    (body : ∀ (cdv : Value) (A : Around) (outer : List Env) (s : Shared) (H : Hp) (f : Addr) (E : XK), PSs (cxOf CX0 P w K mg base N qual (defScope st) f cdv A outer s H E) (defBody st) t)
    (reads : ∀ (vs : List V) (H : Hp) (Q : VK) (E : XK), spI K nf vs H Q E → t { nx := fun _ H' => Q .non H', rt := Q } (L2.start N vs) H)
    (binds : ∀ (fI : Addr) (fd : FuncData), FunD K "__init__" qual (defArgs st) (defBody st) (defScope st) dvs [] fI fd → ∃ (ds : List Value) (ws : List V), Binds K fd N ds ∧ Vals ws ds ∧ ∀ B, RpAll K B ws df) :
    ErrOk P w K mg base c nf df 1 := by
  obtain ⟨C, fI, fd, h1, h2, h3, h4, h5, h6, h7⟩ := E.ex
  obtain ⟨ds, ws, b1, b2, b3⟩ := binds fI fd h6
  exact ⟨C, fI, fd, N, ds, ws, h1, h2, h3, h4, h5, h6.ok S (spI_len hN) (fun cdv A outer s H vs Q E hr h => ⟨t, body cdv A outer s H fI E, reads vs H Q E h⟩), b1, b2, b3, h7⟩
end
end DL
set_option Elab.async false
set_option linter.all false
set_option maxRecDepth 100000
set_option maxHeartbeats 2000000
/-! DL, isinstance(e, C), e the exception that a suite holds. -/
namespace DL
open PySem L2
variable {Θ : Tb} {W U : WX}
/-- what a class must say for that -/
def isaB (K : Frag) (errs : List Str) : Bool := errs.all fun c => match PySem.W.nsIn K mainGlobals c with
  | some (some (.ref C)) => (PySem.W.clsIn K C).isSome && decide (PySem.W.findIn K (.ref C) "__getattribute__" = some (some (.builtin "BaseException.__getattribute__"))) && decide (PySem.W.findIn K (.ref C) "__getattr__" = some none) &&
      decide (PySem.W.subIn K (.ref C) (.type "BaseException") = some true) && decide (PySem.W.findIn K (.ref C) "__class__" = some (some (.builtin "object.__class__"))) && decide (PySem.W.mroIn K C (.type "object") = some true)
  | _ => false
/-- which of these is an instance of which -/
def kitB (K : Frag) (errs cl : List Str) : Bool := errs.all fun c => cl.all fun n => match PySem.W.nsIn K mainGlobals c, PySem.W.nsIn K mainGlobals n with
  | some (some (.ref C)), some (some (.ref N)) => PySem.W.kitOne K (.ref C) (.ref N) == some (c == n)
  | _, _ => false
structure Isa (K : Frag) (errs : List Str) : Prop where
  b : isaB K errs = true
  hn : PySem.W.specialIn K (.builtin "object.__class__") "__get__" = some (some (.builtin "getset_descriptor.__get__"))
  ht : PySem.W.takesIn K (.builtin "object.__class__") = some true
end DL
set_option Elab.async false
set_option linter.all false
set_option maxRecDepth 100000
set_option maxHeartbeats 2000000
/-! DL, what the head tells of own exception classes and of defs with lambdas. -/
namespace DL
open PySem L2
variable {Θ : Tb} {W U : WX}
def clsBody : Stmt → List Stmt
  | .ClassDef (body := b) .. => b
  | _ => []
section
variable {K : Frag} {h : Heap} {mg : Str → Option Value}
theorem errTxt_mk {c qual : Str} {st : Stmt} {dvs : List V} {nf : List Str} {C fI N : Addr} {nm q : Str} {bs bm : List Value} {sn : List Str} {sub : List Value} {ab : Bool} {col : Option Bool} {dd : Option Addr} {k0 k1 k2 k3 k5 : Option Value}
    {oc : Value} {od an : Option Addr} {sl : Array (Option Value)} {dV kV dc pm cd ct : Value} (X : K.In h) (G : h.Ns mainGlobals mg)
    (a : PySem.W.nsIn K mainGlobals c = some (some (.ref C))) (xL : K.lookup C = some (excClassObj nm q C N bs bm true sn sub ab col dd k0 k1 k2 k3 k5 "ValueError.__new__")) (hbm : PySem.HandSPX.refsVE bm = true)
    (sa : PySem.W.findIn K (.ref C) "__setattr__" = some (some (.builtin "object.__setattr__"))) (ex : PySem.W.subIn K (.ref C) (.type "BaseException") = some true) (ty : PySem.W.typeIn K (.ref C) = some (.type "type")) (kC : PySem.W.keepIn K (.ref C) = true)
    (iC : PySem.W.findIn K (.ref C) "__init__" = some (some (.ref fI))) (tI : PySem.W.typeIn K (.ref fI) = some (.type "function"))
    (l : K.lookup fI = some ⟨oc, od, .func (PySem.W.fnOf "__init__" qual (defArgs st) (defBody st) (defScope st) dV kV dc pm an cd ct), sl⟩) (cc : PySem.W.codeIn K cd qual = true) (kI : PySem.W.keepIn K (.ref fI) = true) (dv : DflV K dV dvs)
    (no : ∀ f ∈ nf, PySem.W.findIn K (.ref C) f = some none) : ErrTxt K mg c st qual dvs nf :=
  ⟨C, fI, _, a, PySem.W.mg_of X G a, ⟨⟨nm, q, N, bs, bm, sn, sub, ab, col, dd, k0, k1, k2, k3, k5, xL, hbm⟩, sa, ex, ty, kC⟩, iC, tI, ⟨⟨oc, od, dV, kV, dc, pm, an, cd, ct, sl, rfl, l, cc, dv, .inl rfl⟩, kI⟩, no⟩
theorem dfl_none {T : Addr} {oc : Value} {od : Option Addr} {n : Nat} {sl : Array (Option Value)} (l : K.lookup T = some ⟨oc, od, .seq #[.none] n, sl⟩) : DflV K (.ref T) [.non] :=
  .inr ⟨by simp, T, _, [.none], n, rfl, l, rfl, .cons rfl .nil⟩
/-- a name of the top that holds a class -/
def ClsGl (K : Frag) (mg : Str → Option Value) (n : Str) : Prop := ∃ C, ClsAt K n C ∧ mg n = some (.ref C)
theorem clsGl_mk {n : Str} {C : Addr} (X : K.In h) (G : h.Ns mainGlobals mg) (a : PySem.W.nsIn K mainGlobals n = some (some (.ref C))) : ClsGl K mg n := ⟨C, a, PySem.W.mg_of X G a⟩
structure Lam1 (K : Frag) (h : Heap) (mg : Str → Option Value) (p : Str × Addr × Addr) : Prop where
  tab : h.get? p.2.2 = some { cls := .none, data := .fields #[] }
  no : K.lookup p.2.2 = none
  hd : PySem.W.codeHdIn K p.2.1 p.2.2 = true
  code : CodeOf K mg p.1 p.2.1
theorem lam1_mk {x : Str} {f c P : Addr} {oc occ : Value} {od odc : Option Addr} {fd : FuncData} {sl slc : Array (Option Value)} {vs : Array Value} (X : K.In h) (G : h.Ns mainGlobals mg) (a : PySem.W.nsIn K mainGlobals x = some (some (.ref f)))
    (l : K.lookup f = some ⟨oc, od, .func fd, sl⟩) (hc : fd.code = .ref c) (lc : K.lookup c = some ⟨occ, odc, .fields vs, slc⟩) (hP : (vs[11]? : Option Value) = some (.ref P)) (hd : PySem.W.codeHdIn K c P = true) (no : K.lookup P = none)
    (tab : h.get? P = some { cls := .none, data := .fields #[] }) : Lam1 K h mg (x, c, P) := ⟨tab, no, hd, f, oc, od, fd, sl, PySem.W.mg_of X G a, l, hc⟩
inductive LamAll (K : Frag) (h : Heap) (mg : Str → Option Value) : List (Str × Addr × Addr) → Prop
  | nil : LamAll K h mg []
  | cons {p : Str × Addr × Addr} {cs : List (Str × Addr × Addr)} : Lam1 K h mg p → LamAll K h mg cs → LamAll K h mg (p :: cs)
theorem LamAll.at : ∀ {cs : List (Str × Addr × Addr)}, LamAll K h mg cs → ∀ p ∈ cs, Lam1 K h mg p
  | _, .nil, p, hp => by cases hp
  | _, .cons a r, p, hp => by
    rcases List.mem_cons.mp hp with rfl | hp
    · exact a
    · exact r.at p hp
theorem LamAll.hd {LN : List Str} {cs : List (Str × Addr × Addr)} (A : LamAll K h mg cs) (nm : cs.map (·.1) = LN) (one : (cs.all fun p => cs.all fun q => !(p.2.2 == q.2.2) || (p.1 == q.1)) = true) : LamHd K h mg LN cs :=
  ⟨nm, fun p hp => (A.at p hp).tab, fun p hp => (A.at p hp).no, fun p hp => (A.at p hp).hd, fun p hp q hq e => by
    have := List.all_eq_true.mp (List.all_eq_true.mp one p hp) q hq
    rw [e] at this
    simpa using this, fun p hp => (A.at p hp).code⟩
end
end DL
set_option Elab.async false
set_option linter.all false
set_option maxRecDepth 100000
set_option maxHeartbeats 2000000
/-! DL, instances of own classes: made, read, stored. -/
namespace DL
open PySem L2
variable {Θ : Tb} {W U : WX}
section
variable {K : Frag}
/-! ### one slot more, one slot less -/
theorem get_push {α : Type} {l : List α} {x y : α} {i : Nat} (h : (l ++ [x])[i]? = some y) : (i < l.length ∧ l[i]? = some y) ∨ (i = l.length ∧ x = y) := by
  by_cases hi : i < l.length
  · rw [List.getElem?_append_left hi] at h; exact .inl ⟨hi, h⟩
  · rw [List.getElem?_append_right (by omega)] at h
    have : i - l.length = 0 := by
      have := (List.getElem?_eq_some_iff.mp h).1
      simp at this; omega
    rw [this] at h
    exact .inr ⟨by omega, by simpa using h⟩
theorem get_left {α : Type} {l : List α} {x y : α} {i : Nat} (h : l[i]? = some y) : (l ++ [x])[i]? = some y := by
  rw [List.getElem?_append_left (List.getElem?_eq_some_iff.mp h).1]; exact h
theorem get_last {α : Type} {l : List α} {x : α} : (l ++ [x])[l.length]? = some x := by simp
theorem SR.push {σ : St} {ρ : Rho} {B H : Hp} {p : Addr} {c : OC} (r : SR Θ K σ ρ B H) (hB : B p = none) (hn : ¬ Own σ ρ p) (ho : OwAt K B H p c) : SR Θ K (σ ++ [some (.ref p)]) (ρ ++ [.ow c]) B H := by
  have ownOf : ∀ {j a}, OwnI (σ ++ [some (.ref p)]) (ρ ++ [.ow c]) j a → (OwnI σ ρ j a ∧ j < ρ.length) ∨ (j = ρ.length ∧ a = p) := by
    rintro j a ⟨s, k, h1, h2, h3⟩
    rcases get_push h1 with ⟨hl, h1⟩ | ⟨rfl, rfl⟩
    · rcases get_push h3 with ⟨_, h3⟩ | ⟨e, _⟩
      · exact .inl ⟨⟨s, k, h1, h2, h3⟩, hl⟩
      · rw [r.len] at e; omega
    · rcases get_push h3 with ⟨hl, _⟩ | ⟨_, e⟩
      · rw [r.len] at hl; omega
      · cases e; exact .inr ⟨rfl, rfl⟩
  refine ⟨r.ex, fun i d h => ?_, fun i s k h hk => ?_, fun i j a h1 h2 => ?_, by simp [r.len], r.tb, r.nt, fun i k fs h => ?_⟩
  · rcases get_push h with ⟨_, h⟩ | ⟨_, e⟩
    · obtain ⟨v, h1, h2⟩ := r.sh i d h
      exact ⟨v, get_left h1, h2⟩
    · cases e
  · rcases get_push h with ⟨_, h⟩ | ⟨rfl, rfl⟩
    · obtain ⟨a, h1, h2⟩ := r.ow i s k h hk
      exact ⟨a, get_left h1, h2⟩
    · cases hk
      exact ⟨p, by rw [← r.len]; exact get_last, hB, ho⟩
  · rcases ownOf h1 with ⟨q1, l1⟩ | ⟨rfl, rfl⟩
    · rcases ownOf h2 with ⟨q2, _⟩ | ⟨_, e⟩
      · exact r.ap i j a q1 q2
      · exact (hn (e ▸ ⟨i, q1⟩)).elim
    · rcases ownOf h2 with ⟨q2, _⟩ | ⟨e, _⟩
      · exact (hn ⟨j, q2⟩).elim
      · exact e.symm
  · rcases get_push h with ⟨_, h⟩ | ⟨_, e⟩
    · obtain ⟨a, C, d, h1, h2, h3⟩ := r.er i k fs h
      exact ⟨a, C, d, h1, get_left h2, h3⟩
    · cases e
theorem SR.pop {σ : St} {ρ : Rho} {B H : Hp} {p : Addr} {c : OC} (r : SR Θ K (σ ++ [some (.ref p)]) (ρ ++ [.ow c]) B H) : SR Θ K σ ρ B H ∧ B p = none ∧ ¬ Own σ ρ p ∧ OwAt K B H p c := by
  have len : σ.length = ρ.length := by have := r.len; simpa using this
  have up : ∀ {j a}, OwnI σ ρ j a → OwnI (σ ++ [some (.ref p)]) (ρ ++ [.ow c]) j a := fun ⟨s, k, h1, h2, h3⟩ => ⟨s, k, get_left h1, h2, get_left h3⟩
  have at_ : OwnI (σ ++ [some (.ref p)]) (ρ ++ [.ow c]) ρ.length p := ⟨_, c, get_last, rfl, by rw [← len]; exact get_last⟩
  have down : ∀ {i : Nat} {v : V}, i < ρ.length → (σ ++ [some (V.ref p)])[i]? = some (some v) → σ[i]? = some (some v) := fun hl h => by
    rw [List.getElem?_append_left (by omega)] at h; exact h
  obtain ⟨a, h1, h2, h3⟩ := r.ow ρ.length _ c get_last rfl
  have ea : a = p := by
    rw [show ρ.length = σ.length from len.symm] at h1
    rw [get_last] at h1
    cases h1; rfl
  subst ea
  refine ⟨⟨r.ex, fun i d h => ?_, fun i s k h hk => ?_, fun i j b q1 q2 => r.ap i j b (up q1) (up q2), len, r.tb, r.nt, fun i k fs h => ?_⟩, h2, fun ⟨j, q⟩ => ?_, h3⟩
  · obtain ⟨v, q1, q2⟩ := r.sh i d (get_left h)
    exact ⟨v, down (List.getElem?_eq_some_iff.mp h).1 q1, q2⟩
  · obtain ⟨b, q1, q2⟩ := r.ow i s k (get_left h) hk
    exact ⟨b, down (List.getElem?_eq_some_iff.mp h).1 q1, q2⟩
  · obtain ⟨b, C, d, q1, q2, q3⟩ := r.er i k fs (get_left h)
    exact ⟨b, C, d, q1, down (List.getElem?_eq_some_iff.mp h).1 q2, q3⟩
  · have e := r.ap j ρ.length a (up q) at_
    obtain ⟨s, k, z, _⟩ := q
    have := (List.getElem?_eq_some_iff.mp z).1
    omega
end
/-! ### attributes -/
def fldD (nm f : Str) : D → Option D
  | .dict ((.none, .str n) :: fs) => if n == nm then (fs.find? fun q => match q.1 with | .str g => g == f | _ => false).map (·.2) else none
  | _ => none
/-- what the written part says of a class and these attributes of its instances -/
def insB (K : Frag) (nm : Str) (fl : List Str) : Bool := match PySem.W.nsIn K mainGlobals nm with
  | some (some (.ref C)) => PySem.W.plainGet K C Str.empty && PySem.W.hasDictIn K C && PySem.W.plainOver K C && decide (PySem.W.findIn K (.ref C) "__setattr__" = some (some (.builtin "object.__setattr__"))) && fl.all fun f => decide (PySem.W.findIn K (.ref C) f = some none)
  | _ => false
theorem insB_ok {K : Frag} {nm f : Str} {fl : List Str} {C : Addr} (h : insB K nm fl = true) (hC : ClsAt K nm C) (hf : f ∈ fl) : Cls K C ∧ NoAttr K C f := by
  have hC : PySem.W.nsIn K mainGlobals nm = some (some (.ref C)) := hC
  unfold insB at h
  rw [hC] at h
  simp only [Bool.and_eq_true, decide_eq_true_eq] at h
  obtain ⟨⟨⟨⟨h1, h2⟩, h3⟩, h4⟩, h5⟩ := h
  have h6 := List.all_eq_true.mp h5 f hf
  simp only [decide_eq_true_eq] at h6
  exact ⟨⟨h1, h2, h3, h4⟩, h6⟩
def rFldI (K : Frag) (f : Str) : V → Hp → VK → Prop := fun x H Q => ∃ a C dx fs v, x = .ref a ∧ H a = some (.ins C dx fs) ∧ Cls K C ∧ NoAttr K C f ∧ fs.lookup f = some v ∧ Q v H
theorem find_lookup {K : Frag} {B : Hp} {f : Str} {d : D} : ∀ {ks : List Str} {vs : List V} {ds : List D}, ks.length = vs.length → RpAll K B vs ds → (((ks.zip ds).map fun q => (PyData.str q.1, q.2)).find? fun q => match q.1 with | .str g => g == f | _ => false).map (·.2) = some d →
    ∃ v, (ks.zip vs).lookup f = some v ∧ Rp K B v d
  | [], _, _, _, _, h => by simp at h
  | k :: ks, v :: vs, e :: ds, hl, .cons h1 h2, h => by
    simp only [List.zip_cons_cons, List.map_cons, List.find?_cons] at h
    simp only [List.zip_cons_cons, List.lookup_cons]
    cases q : k == f with
    | true =>
      rw [q] at h
      cases h
      have : (f == k) = true := by rw [beq_iff_eq] at q ⊢; exact q.symm
      rw [this]
      exact ⟨v, rfl, h1⟩
    | false =>
      rw [q] at h
      have : (f == k) = false := by
        rw [beq_eq_false_iff_ne] at q ⊢
        exact fun e => q e.symm
      rw [this]
      exact find_lookup (by simpa using hl) h2 h
  | _ :: _, [], _, hl, _, _ => by simp at hl
theorem zip_self {α β : Type} : ∀ fs : List (α × β), (fs.map (·.1)).zip (fs.map (·.2)) = fs
  | [] => rfl
  | q :: fs => by rw [List.map_cons, List.map_cons, List.zip_cons_cons, zip_self fs]
theorem unok_fld {K : Frag} {nm f : Str} {fl : List Str} (hB : insB K nm fl = true) (hf : f ∈ fl) : UnOk Θ K (rFldI K f) (fldD nm f) := by
  intro σ ρ B H x a d r hv e Q q
  -- what the view tells: an instance in the heap
  have got : ∀ {p dx C : Addr} {n : Str} {kv : List (Str × V)} {ks : List Str} {ds : List D}, x = .ref p → H p = some (.ins C dx kv) → ClsAt K n C → kv.map (·.1) = ks → RpAll K B (kv.map (·.2)) ds → a = insD n (ks.zip ds) → rFldI K f x H Q := by
    intro p dx C n kv ks ds ex hp hC hk hr ea
    subst ea
    unfold insD fldD at e
    simp only at e
    split at e
    case isFalse => cases e
    rename_i hn
    rw [beq_iff_eq] at hn
    subst hn
    have hl : ks.length = (kv.map (·.2)).length := by rw [← hk]; simp
    obtain ⟨v, l1, l2⟩ := find_lookup hl hr e
    have hz : ks.zip (kv.map (·.2)) = kv := by rw [← hk]; exact zip_self kv
    rw [hz] at l1
    obtain ⟨c1, c2⟩ := insB_ok hB hC hf
    exact ⟨p, C, dx, kv, v, ex, hp, c1, c2, l1, q v B H r Step.refl l2⟩
  rcases hv with hv | ⟨p, c, rfl, ho, rfl⟩
  · cases hv with
    | @ins p dx C n fs ds h1 h2 h3 h4 => exact got rfl (r.ex _ _ h1) h3 rfl h4 rfl
    | @lkl _ _ ds _ _ => simp only [lkd, fldD] at e; cases e
    | @lkt _ _ ds _ _ => simp only [lkd, fldD] at e; cases e
    | @dK p kvs ds h1 h2 =>
      exfalso
      unfold fldD at e
      split at e
      · rename_i n fs hx
        simp only [PyData.dict.injEq] at hx
        cases kvs with
        | nil => cases hx
        | cons kv t => cases h2 with
          | cons _ _ => simp only [List.map_cons, List.zip_cons_cons, List.cons.injEq, Prod.mk.injEq] at hx; obtain ⟨⟨z, _⟩, _⟩ := hx; obtain ⟨k, _⟩ := kv; cases k <;> cases z
      · cases e
    | @dT p kvs ds h1 h2 =>
      exfalso
      unfold fldD at e
      split at e
      · rename_i n fs hx
        simp only [PyData.dict.injEq] at hx
        cases kvs with
        | nil => cases hx
        | cons kv t => cases h2 with
          | cons _ _ => simp only [List.map_cons, List.zip_cons_cons, List.cons.injEq, Prod.mk.injEq] at hx; obtain ⟨⟨z, _⟩, _⟩ := hx; cases z
      · cases e
    | _ => cases e
  · cases c with
    | lst ds => cases e
    | ins n fs =>
      obtain ⟨C, dx, kv, h1, h2, h3, h4, h5⟩ := ho
      exact got (ks := fs.map (·.1)) (ds := fs.map (·.2)) rfl h1 h3 h4 h5 (by rw [zip_self]; rfl)
    | dK kvs =>
      exfalso
      simp only [ocD] at e
      cases kvs with
      | nil => cases e
      | cons kv t => obtain ⟨k, _⟩ := kv; cases k <;> cases e
    | dT kvs =>
      exfalso
      simp only [ocD] at e
      cases kvs with
      | nil => cases e
      | cons kv t => cases e
theorem se_fld {X : Cx} {e : Expr} {p : MP} {nm f : Str} {fl : List Str} {pos : Pos} (hB : insB X.K nm fl = true) (ha : SP Θ X e p) (hf : f ∈ fl := by decide) (hb : attributeBase e f X.env (eval e X.env) = eval e X.env := by rfl) : SE Θ X (.Attribute e f pos) (mUn (fldD nm f) p) :=
  SE.of (pe_fld ha.pe hb) (eok_un (r := rFldI X.K f) (unok_fld hB hf) ha.ok)
/-! ### stores -/
def putFD (f : Str) (v : D) : List (Str × D) → List (Str × D)
  | [] => [(f, v)]
  | (g, x) :: r => if g = f then (g, v) :: r else (g, x) :: putFD f v r
theorem putF_rel {K : Frag} {B : Hp} {f : Str} {v : V} {d : D} (h : Rp K B v d) : ∀ {kv : List (Str × V)} {fs : List (Str × D)}, kv.map (·.1) = fs.map (·.1) → RpAll K B (kv.map (·.2)) (fs.map (·.2)) → (putF f v kv).map (·.1) = (putFD f d fs).map (·.1) ∧ RpAll K B ((putF f v kv).map (·.2)) ((putFD f d fs).map (·.2))
  | [], [], _, _ => ⟨rfl, .cons h .nil⟩
  | (g, x) :: kv, (g', y) :: fs, hk, .cons h1 h2 => by
    simp only [List.map_cons, List.cons.injEq] at hk
    obtain ⟨rfl, hk⟩ := hk
    unfold putF putFD
    by_cases e : g = f
    · rw [if_pos e, if_pos e]
      exact ⟨by simp [hk], .cons h h2⟩
    · rw [if_neg e, if_neg e]
      obtain ⟨i1, i2⟩ := putF_rel h hk h2
      exact ⟨by simp [i1], .cons h1 i2⟩
  | [], _ :: _, hk, _ => by simp at hk
  | _ :: _, [], hk, _ => by simp at hk
def mSetF (nm : Str) (i : Nat) (f : Str) (m : ME) : MS := fun ρ => (m ρ).bind fun x => match ocAt x.2 i with
  | some (.ins n fs) => if n = nm ∧ fs.length < 1000 then some (.nx (putAt x.2 i (.ins n (putFD f x.1 fs)))) else none
  | _ => none
theorem sok_setF {K : Frag} {nm f : Str} {fl : List Str} {i : Nat} {te : TE} {m : ME} (hB : insB K nm fl = true) (hf : f ∈ fl) (h : EOk Θ K te m) : SOk Θ W K (sFld K (tVar i) te f) (mSetF nm i f m) := by
  intro σ ρ B H D' o r e w
  simp only [mSetF, Option.bind_eq_some_iff] at e
  obtain ⟨⟨d, ρ1⟩, e1, e2⟩ := e
  split at e2
  · rename_i n fs hoc
    split at e2
    case isFalse => cases e2
    rename_i hn
    obtain ⟨rfl, hl⟩ := hn
    cases e2
    refine h σ ρ B H d ρ1 r e1 _ fun v B1 H1 r1 s1 rv => ?_
    obtain ⟨s, hs, hc⟩ := ocAt_some hoc
    obtain ⟨a, h1, h2, C, dx, kv, h3, h4, h5, h6, h7⟩ := r1.ow i s _ hs hc
    obtain ⟨c1, c2⟩ := insB_ok hB h5 hf
    have hlen : kv.length = fs.length := by have := congrArg List.length h6; simpa using this
    obtain ⟨k1, k2⟩ := putF_rel (f := f) rv h6 h7
    refine ⟨.ref a, h1, a, C, dx, kv, rfl, h3, c1, c2, by rw [hlen]; exact hl, ?_⟩
    obtain ⟨r2, s2⟩ := r1.write (c' := .ins n (putFD f d fs)) (s' := s.put (.ins n (putFD f d fs))) hs hc h1 ⟨C, dx, _, upd_same, h4, h5, k1, k2⟩ (put_oc hc) (fun k z => put_io _ k z) (fun k z => put_ow _ k z)
    rw [putAt_some _ hs] at w
    exact w σ B1 _ r2 (s1.trans s2)
  · cases e2
theorem ss_fld {X : Cx} {e : Expr} {m : ME} {nm f x : Str} {fl : List Str} {i : Nat} {q pos pos' : Pos} (hB : insB X.K nm fl = true) (he : SE Θ X e m) (hf : f ∈ fl := by decide) (hN : X.N[i]? = some x := by rfl) (hv : Vis X.env.scope x := by first | exact Or.inl rfl | exact Or.inr (Or.inl rfl) | exact Or.inr (Or.inr rfl))
    (hd : (x == ("__debug__" : Str)) = false := by decide) (hcd : (x == ("__classdict__" : Str)) = false := by decide) (hs : swapsWith e (some (.Attribute (.Name x q) f pos')) pos.line X.env = pure false := by rfl) : SS Θ X (.Assign [.Attribute (.Name x q) f pos'] e pos) (mSetF nm i f m) :=
  SS.of (ps_fld (pe_var hN hv hd hcd) he.pe hs) (sok_setF hB hf he.ok)
end DL
set_option Elab.async false
set_option linter.all false
set_option maxRecDepth 100000
set_option maxHeartbeats 2000000
/-! DL, C(..): an instance of an own class is made; its __init__ may raise. -/
namespace DL
open PySem L2
variable {Θ : Tb} {W U : WX}
def tMkS (C : Addr) (sp : Sp) (dvs : List V) (E : St → XK) (ta : TA) : TE := fun σ H Q => ta σ H fun vs H1 => ∀ x dx, H1 x = none → H1 dx = none → dx ≠ x →
  sp (.ref x :: (vs ++ dvs)) (upd (upd H1 dx (.own x)) x (.ins C dx [])) (fun v H2 => v = .non ∧ Q (.ref x) H2) (E σ)
theorem make_run {X : Cx} {CX : CXT} {k : Nat} {f C : Addr} {fd : FuncData} {ps : List Str} {sp : Sp} {dvs : List V} {ds : List Value} {E : XK} {pins : List (Addr × Obj)} {σ : St} {H : Hp} {z : Shared} {Q : VK} {us : List Value} {vs : List V} (M : Mk X.K C f)
    (F : FnOk X.prog X.w X.K X.mg X.base CX k f fd ps sp) (room : Room (k + 1) X.A) (bd : Binds X.K fd ps ds) (vd : Vals dvs ds) (out : PassesAt CX X σ E) (I : Inv X pins σ H z) (r : Vals vs us)
    (asks : ∀ x dx, H x = none → H dx = none → dx ≠ x → sp (.ref x :: (vs ++ dvs)) (upd (upd H dx (.own x)) x (.ins C dx [])) (fun v H2 => v = .non ∧ Q (.ref x) H2) E) :
    wpAny (model X.prog X.w) X.A (call (.ref C) us) (EP X pins σ Q) X.xe z := by
  have J := Inv.made (C := C) I
  have asked := asks (z.heap.objs.size + 1) z.heap.objs.size (I.hok.fresh (Nat.le_succ _)) (I.hok.fresh (Nat.le_refl _)) (Nat.ne_of_lt (Nat.lt_succ_self _))
  have rel : Vals (V.ref (z.heap.objs.size + 1) :: (vs ++ dvs)) (Value.ref (z.heap.objs.size + 1) :: (us ++ ds)) := .cons rfl (r.append vd)
  have cnt : (Value.ref (z.heap.objs.size + 1) :: us ++ ds).length = ps.length := by
    have q1 := F.len _ _ _ _ asked
    rw [← q1]
    exact rel.length.symm
  refine wpAny_call (make_map (f := f) I.kIn M.makes M.init (beq_iff_eq.mp M.fn) (codeAny_mono (F.run _ X.stack _ _ ⟨Value.ref (z.heap.objs.size + 1) :: us, []⟩ (Value.ref (z.heap.objs.size + 1) :: (us ++ ds)) _ _ E (room.make C us []) (J.env0.make C us [])
    (bd _ (Value.ref (z.heap.objs.size + 1) :: us) J.kIn cnt) rel asked) fun y z' hy => ?_))
  match y, hy with
  | .ok (.ret u), hy =>
    obtain ⟨v, H', J3, rv, ev, q3⟩ := J.after hy
    subst ev
    exact ⟨rv, ⟨V.ref (z.heap.objs.size + 1), H', J3, rfl, q3⟩⟩
  | .error e, hy => exact out pins _ _ e z' J hy
  | .ok .next, hy => exact False.elim hy
  | .ok .brk, hy => exact False.elim hy
  | .ok .cont, hy => exact False.elim hy
section
variable {X : Cx} {CX : CXT} {k : Nat} {f C : Addr} {fd : FuncData} {qs : List Str} {sp : Sp} {dvs : List V} {ds : List Value} {E : St → XK} {x : Str} {p pos : Pos} {e : Expr} {es : List Expr} {t : TA}
theorem pe_mkS (M : Mk X.K C f) (F : FnOk X.prog X.w X.K X.mg X.base CX k f fd qs sp) (room : Room (k + 1) X.A) (gl : Gl X x) (at_ : X.mg x = some (.ref C)) (bd : Binds X.K fd qs ds) (vd : Vals dvs ds) (out : ∀ σ, PassesAt CX X σ (E σ))
    (ha : PA X (e :: es) t) (nd : (x == ("__debug__" : Str)) = false) (he : starEach (e :: es) X.env = (false, eval e X.env) :: starEach es X.env) (hpl : (backTo pos (starEach es X.env)).any (·.1) = false) :
    PE X (.Call (.Name x p) (e :: es) [] pos) (tMkS C sp dvs E t) := by
  refine ⟨fun pins z σ H Q I hyp => ?_⟩
  refine wpAny_Call_Name_kw (ld_glob I gl at_ ?_ nd)
  refine PySem.W.callWith_K (h₀ := X.base) I.ok.mod.kin M.kp ?_ he hpl
  exact thn (ha.run pos pins z σ H _ I hyp) fun us z1 ⟨vs, H1, J, r, q⟩ => ⟨J.kIn, make_run M F room bd vd (out σ) J r q⟩
end
/-- a class of the text, as its makers see it -/
structure InitJ (Θ : Tb) (P : Program) (w : World) (K : Frag) (mg : Str → Option Value) (base : Heap) (nm : Str) (m : MFX) (df : List D) (k : Nat) : Prop where
  ex : ∃ (C fI : Addr) (fd : FuncData) (ps : List Str) (ds : List Value) (dvs : List V), ClsAt K nm C ∧ mg nm = some (.ref C) ∧ Mk K C fI ∧ FnOk P w K mg base (L2.CX P w) k fI fd ps (SpX Θ K m) ∧ Binds K fd ps ds ∧ Vals dvs ds ∧ ∀ B, RpAll K B dvs df
structure InitTxt (K : Frag) (mg : Str → Option Value) (nm : Str) (st : Stmt) (qual : Str) (nd : Nat) : Prop where
  ex : ∃ (C fI : Addr) (fd : FuncData) (dvs : List V), ClsAt K nm C ∧ mg nm = some (.ref C) ∧ Mk K C fI ∧ FunD K "__init__" qual (defArgs st) (defBody st) (defScope st) dvs [] fI fd ∧ dvs.length = nd
theorem initj_ok {P : Program} {w : World} {K : Frag} {mg : Str → Option Value} {base : Heap} {nm qual : Str} {st : Stmt} {N ps : List Str} {k n np : Nat} {m : MS} {nd : Nat} {df : List D} (T : InitTxt K mg nm st qual nd) (S : FnScope N ps (defScope st)) (hn : N.length = n) (hp : ps.length = np)
    (hb : ∀ (f : Addr) (cdv : Value) (A : Around) (outer : List Env) (s : Shared) (H : Hp) (E : XK), Room k (CxX P w K mg base N qual st f cdv A outer s H E).A → SB Θ (CxX P w K mg base N qual st f cdv A outer s H E) (defBody st) m)
    (binds : ∀ (fI : Addr) (fd : FuncData) (dvs : List V), dvs.length = nd → FunD K "__init__" qual (defArgs st) (defBody st) (defScope st) dvs [] fI fd → ∃ (ds : List Value) (ws : List V), Binds K fd ps ds ∧ Vals ws ds ∧ ∀ B, RpAll K B ws df) :
    InitJ Θ P w K mg base nm (runX np n m) df (k + 1) := by
  obtain ⟨C, fI, fd, dvs, h1, h2, h3, h4, h5⟩ := T.ex
  obtain ⟨ds, ws, b1, b2, b3⟩ := binds fI fd dvs h5 h4
  subst hn hp
  exact ⟨C, fI, fd, ps, ds, ws, h1, h2, h3, h4.ok S (fun vs H Q E h => spx_len h) (fun cdv A outer s H vs Q E hr h => ⟨_, (hb fI cdv A outer s H E hr).pe, body_okX (K := K) (hb fI cdv A outer s H E hr).ok wof_cx h⟩), b1, b2, b3⟩
/-- what comes of the making, handed on -/
def mMkX (nm : Str) (m : MFX) (df : List D) (p : MAs) (k : OC → MS) : MS := fun ρ => (p ρ).bind fun x => if (owns (.own x.2.length :: (x.1 ++ df.map .val))).Nodup then (toSls (x.2 ++ [.ow (.ins nm [])]) (.own x.2.length :: (x.1 ++ df.map .val))).bind fun ss => (m ss).bind fun y =>
    (back (x.2 ++ [.ow (.ins nm [])]) (.own x.2.length :: (x.1 ++ df.map .val)) y.2).bind fun ρ' => match y.1, ρ'.getLast? with
      | .ret .none, some (.ow c) => k c ρ'.dropLast
      | .exc c fs, some (.ow _) => some (.ex c fs ρ'.dropLast)
      | _, _ => none
  else none
/-- where it does not raise -/
def mMkF (nm : Str) (m : MFX) (df : List D) (p : MAs) : MF := fun ρ => (p ρ).bind fun x => if (owns (.own x.2.length :: (x.1 ++ df.map .val))).Nodup then (toSls (x.2 ++ [.ow (.ins nm [])]) (.own x.2.length :: (x.1 ++ df.map .val))).bind fun ss => (okX m ss).bind fun y =>
    (back (x.2 ++ [.ow (.ins nm [])]) (.own x.2.length :: (x.1 ++ df.map .val)) y.2).bind fun ρ' => match y.1, ρ'.getLast? with
      | .none, some (.ow c) => some (c, ρ'.dropLast)
      | _, _ => none
  else none
theorem AdAll.grow {K : Frag} {σ : St} {B : Hp} {x : Option V} : ∀ {vs : List V} {xs : List AD}, AdAll K σ B vs xs → AdAll K (σ ++ [x]) B vs xs
  | [], [], _ => trivial
  | v :: vs, .val d :: xs, h => ⟨h.1, AdAll.grow h.2⟩
  | v :: vs, .own i :: xs, h => ⟨get_left h.1, AdAll.grow h.2⟩
  | [], _ :: _, h => h
  | _ :: _, [], h => h
theorem AdAll.join {K : Frag} {σ : St} {B : Hp} : ∀ {vs ws : List V} {xs ys : List AD}, AdAll K σ B vs xs → AdAll K σ B ws ys → AdAll K σ B (vs ++ ws) (xs ++ ys)
  | [], _, [], _, _, k => k
  | _ :: _, _, _ :: _, _, h, k => ⟨h.1, AdAll.join h.2 k⟩
  | [], _, _ :: _, _, h, _ => h.elim
  | _ :: _, _, [], _, h, _ => h.elim
theorem AdAll.vals {K : Frag} {σ : St} {B : Hp} : ∀ {vs : List V} {ds : List D}, RpAll K B vs ds → AdAll K σ B vs (ds.map .val)
  | [], [], _ => trivial
  | _ :: _, _ :: _, .cons h r => ⟨h, AdAll.vals r⟩
theorem last_ow {ρ : Rho} {c : OC} (h : ρ.getLast? = some (.ow c)) : ρ = ρ.dropLast ++ [.ow c] := by
  obtain ⟨ys, rfl⟩ := List.getLast?_eq_some_iff.mp h
  simp
theorem core_mk {K : Frag} {nm : Str} {C : Addr} {ta : TA} {m : MFX} {df : List D} {dvs : List V} {p : MAs} {σ : St} {ρ ρ1 : Rho} {B H : Hp} {xs : List AD} {ss ss' : List Sl} {ρ' : Rho} {ox : XO D} {E : St → XK} {Q : VK} (h : AsOk Θ K ta p) (hC : ClsAt K nm C) (hd : ∀ B, RpAll K B dvs df) (r : SR Θ K σ ρ B H)
    (e1 : p ρ = some (xs, ρ1)) (nd : (owns (.own ρ1.length :: (xs ++ df.map .val))).Nodup) (e3 : toSls (ρ1 ++ [.ow (.ins nm [])]) (.own ρ1.length :: (xs ++ df.map .val)) = some ss) (e4 : m ss = some (ox, ss')) (e5 : back (ρ1 ++ [.ow (.ins nm [])]) (.own ρ1.length :: (xs ++ df.map .val)) ss' = some ρ')
    (hret : ox = .ret .none → ∃ c, ρ'.getLast? = some (.ow c) ∧ ∀ (x : Addr) (B' H' : Hp), SR Θ K σ ρ'.dropLast B' H' → Step σ ρ B H σ ρ'.dropLast B' H' → H x = none → B' x = none → ¬ Own σ ρ'.dropLast x → OwAt K B' H' x c → Q (.ref x) H')
    (hexc : ∀ c fs, ox = .exc c fs → ∃ o, ρ'.getLast? = some (.ow o) ∧ ∀ (C d : Addr) (B' H' : Hp), SR Θ K σ ρ'.dropLast B' H' → Step σ ρ B H σ ρ'.dropLast B' H' → ExAt K B' H' C d c fs → E σ (.ref C) (some d) H') (hx : ∀ d, ox = .ret d → d = .none) :
    tMkS C (SpX Θ K m) dvs E ta σ H Q := by
  refine h σ ρ B H xs ρ1 r e1 _ fun vs B1 H1 r1 s1 a1 x dx nx ndx ne => ?_
  have nx2 : upd H1 dx (.own x) x = none := by rw [upd_ne (Ne.symm ne)]; exact nx
  obtain ⟨r2, s2, x2⟩ := r1.add (o := .own x) ndx
  obtain ⟨r3, s3, hB, hn⟩ := r2.put (o := .ins C dx []) nx2
  have ow0 : OwAt K (upd B1 dx (.own x)) (upd (upd H1 dx (.own x)) x (.ins C dx [])) x (.ins nm []) := ⟨C, dx, [], upd_same, upd_same, hC, rfl, .nil⟩
  have r4 := r3.push hB hn ow0
  have len1 : σ.length = ρ1.length := r1.len
  have ad : AdAll K (σ ++ [some (V.ref x)]) (upd B1 dx (.own x)) (V.ref x :: (vs ++ dvs)) (.own ρ1.length :: (xs ++ df.map .val)) :=
    ⟨by show (σ ++ [some (V.ref x)])[ρ1.length]? = _; rw [← len1]; exact get_last, (AdAll.join (a1.mono x2).grow (AdAll.vals (hd _)))⟩
  have s13 : Step σ ρ B H σ ρ1 (upd B1 dx (.own x)) (upd (upd H1 dx (.own x)) x (.ins C dx [])) := (s1.trans s2).trans s3
  have Hx : H x = none := s1.dom x nx
  -- from the frame with one slot more back to ours
  have home : ∀ {ρ2 : Rho} {c : OC} {B5 H5 : Hp}, SR Θ K (σ ++ [some (V.ref x)]) (ρ2 ++ [.ow c]) B5 H5 → Step (σ ++ [some (V.ref x)]) (ρ1 ++ [.ow (.ins nm [])]) (upd B1 dx (.own x)) (upd (upd H1 dx (.own x)) x (.ins C dx [])) (σ ++ [some (V.ref x)]) (ρ2 ++ [.ow c]) B5 H5 →
      SR Θ K σ ρ2 B5 H5 ∧ Step σ ρ B H σ ρ2 B5 H5 ∧ B5 x = none ∧ ¬ Own σ ρ2 x ∧ OwAt K B5 H5 x c := by
    intro ρ2 c B5 H5 r5 s5
    obtain ⟨r6, b6, n6, o6⟩ := r5.pop
    have len2 : σ.length = ρ2.length := r6.len
    have upO : ∀ {a}, Own σ ρ2 a → Own (σ ++ [some (V.ref x)]) (ρ2 ++ [.ow c]) a := fun ⟨i, s, k, z1, z2, z3⟩ => ⟨i, s, k, get_left z1, z2, get_left z3⟩
    have dnO : ∀ {a}, Own (σ ++ [some (V.ref x)]) (ρ1 ++ [.ow (.ins nm [])]) a → Own σ ρ1 a ∨ a = x := by
      rintro a ⟨i, s, k, z1, z2, z3⟩
      rcases get_push z1 with ⟨hl, z1⟩ | ⟨rfl, rfl⟩
      · rcases get_push z3 with ⟨_, z3⟩ | ⟨e, _⟩
        · exact .inl ⟨i, s, k, z1, z2, z3⟩
        · omega
      · rcases get_push z3 with ⟨hl, _⟩ | ⟨_, e⟩
        · omega
        · cases e; exact .inr rfl
    have dnW : ∀ {a}, OwW (σ ++ [some (V.ref x)]) (ρ1 ++ [.ow (.ins nm [])]) a → OwW σ ρ1 a ∨ a = x := by
      rintro a ⟨i, k, z1, z3⟩
      rcases get_push z1 with ⟨hl, z1⟩ | ⟨rfl, e1⟩
      · rcases get_push z3 with ⟨_, z3⟩ | ⟨e, _⟩
        · exact .inl ⟨i, k, z1, z3⟩
        · omega
      · rcases get_push z3 with ⟨hl, _⟩ | ⟨_, e⟩
        · omega
        · cases e; exact .inr rfl
    have st : Step σ ρ1 (upd B1 dx (.own x)) (upd (upd H1 dx (.own x)) x (.ins C dx [])) σ ρ2 B5 H5 → True := fun _ => trivial
    refine ⟨r6, ⟨s13.ex.trans s5.ex, fun a o n z no => ?_, fun a z => s13.dom a (s5.dom a z), fun a z => ?_, fun a z => ?_, fun i k z => ?_, fun a z => ?_⟩, b6, n6, o6⟩
    · have h3 := s13.keep a o n z no
      refine s5.keep a o n h3 fun w => ?_
      rcases dnO w with w | rfl
      · rcases s13.own a w with w | w
        · exact no w
        · rw [z] at w; cases w
      · rw [Hx] at z; cases z
    · rcases s5.own a (upO z) with w | w
      · rcases dnO w with w | rfl
        · exact s13.own a w
        · exact .inr Hx
      · exact .inr (s13.dom a w)
    · rcases s5.new a z with w | w | w
      · exact s13.new a w
      · exact .inr (.inl (s13.dom a w))
      · rcases dnO w with w | rfl
        · rcases s13.own a w with w | w
          · exact .inr (.inr w)
          · exact .inr (.inl w)
        · exact .inr (.inl Hx)
    · obtain ⟨q1, c1, q2⟩ := s13.io i k z
      obtain ⟨q3, c2, q4⟩ := s5.io i c1 (get_left q2)
      rcases get_push q4 with ⟨_, q4⟩ | ⟨_, e⟩
      · exact ⟨rfl, c2, q4⟩
      · cases e
    · obtain ⟨i, k, z1, z2⟩ := z
      rcases s5.ow a ⟨i, k, get_left z1, get_left z2⟩ with w | w
      · rcases dnW w with w | rfl
        · exact s13.ow a w
        · exact .inr Hx
      · exact .inr (s13.dom a w)
  refine ⟨ss, upd B1 dx (.own x), ox, ss', r4.enter ad nd e3, e4, ?_⟩
  cases ox with
  | ret d =>
    intro v B5 H5 r5 s5 rv
    obtain rfl := hx d rfl
    obtain ⟨c, hl, q⟩ := hret rfl
    obtain ⟨⟨r6, s6⟩, _⟩ := r4.leave ad nd e3 r5 s5 e5
    rw [last_ow hl] at r6 s6
    obtain ⟨k1, k2, k3, k4, k5⟩ := home r6 s6
    cases rv
    exact ⟨rfl, q x B5 H5 k1 k2 Hx k3 k4 k5⟩
  | exc c fs =>
    intro C2 d B5 H5 r5 s5 ha
    obtain ⟨o, hl, q⟩ := hexc c fs rfl
    obtain ⟨⟨r6, s6⟩, _⟩ := r4.leave ad nd e3 r5 s5 e5
    rw [last_ow hl] at r6 s6
    obtain ⟨k1, k2, _⟩ := home r6 s6
    exact q C2 d B5 H5 k1 k2 ha
theorem fok_mk {K : Frag} {nm : Str} {C : Addr} {ta : TA} {m : MFX} {df : List D} {dvs : List V} {p : MAs} {E : St → XK} (h : AsOk Θ K ta p) (hC : ClsAt K nm C) (hd : ∀ B, RpAll K B dvs df) : FOk Θ K (tMkS C (SpX Θ K m) dvs E ta) (mMkF nm m df p) := by
  intro σ ρ B H c ρ' r e Q q
  simp only [mMkF, Option.bind_eq_some_iff] at e
  obtain ⟨⟨xs, ρ1⟩, e1, e2⟩ := e
  split at e2
  case isFalse => cases e2
  rename_i nd
  simp only [Option.bind_eq_some_iff] at e2
  obtain ⟨ss, e3, ⟨d, ss'⟩, e4, ρ2, e5, e6⟩ := e2
  unfold okX at e4
  split at e4
  case h_2 => cases e4
  rename_i d' s' e4'
  cases e4
  split at e6
  · rename_i c' hc hl
    cases e6
    have hc : d = .none := hc
    subst hc
    exact core_mk h hC hd r e1 nd e3 e4' e5 (fun _ => ⟨_, hl, fun x B' H' r' s' h1 h2 h3 h4 => q x B' H' r' s' h1 h2 h3 h4⟩) (fun c fs z => (nomatch z)) (fun d z => by cases z; rfl)
  · cases e6
theorem mk_split {nm : Str} {m : MFX} {df : List D} {p : MAs} {k : OC → MS} {ρ : Rho} {o : Out} (e : mMkX nm m df p k ρ = some o) : ∃ xs ρ1 ss ox ss' ρ', p ρ = some (xs, ρ1) ∧ (owns (.own ρ1.length :: (xs ++ df.map .val))).Nodup ∧ toSls (ρ1 ++ [.ow (.ins nm [])]) (.own ρ1.length :: (xs ++ df.map .val)) = some ss ∧ m ss = some (ox, ss') ∧
    back (ρ1 ++ [.ow (.ins nm [])]) (.own ρ1.length :: (xs ++ df.map .val)) ss' = some ρ' ∧ ((ox = .ret .none ∧ ∃ c, ρ'.getLast? = some (.ow c) ∧ k c ρ'.dropLast = some o) ∨ ∃ c fs c', ox = .exc c fs ∧ ρ'.getLast? = some (.ow c') ∧ o = .ex c fs ρ'.dropLast) := by
  simp only [mMkX, Option.bind_eq_some_iff] at e
  obtain ⟨⟨xs, ρ1⟩, e1, e2⟩ := e
  split at e2
  case isFalse => cases e2
  rename_i nd
  simp only [Option.bind_eq_some_iff] at e2
  obtain ⟨ss, e3, ⟨ox, ss'⟩, e4, ρ2, e5, e6⟩ := e2
  refine ⟨xs, ρ1, ss, ox, ss', ρ2, e1, nd, e3, e4, e5, ?_⟩
  split at e6
  · rename_i c h1 h2
    exact .inl ⟨h1, c, h2, e6⟩
  · rename_i c fs c' h1 h2
    cases e6
    exact .inr ⟨c, fs, c', h1, h2, rfl⟩
  · cases e6
def kRetC : OC → MS := fun c ρ => some (.rt (ocD c) ρ)
/-- an own object that nobody has yet, kept from now on -/
theorem keep_new {K : Frag} {σ : St} {ρ0 ρ : Rho} {B0 H0 B H : Hp} {x : Addr} {c : OC} (r : SR Θ K σ ρ B H) (s : Step σ ρ0 B0 H0 σ ρ B H) (h1 : H0 x = none) (h2 : B x = none) (h3 : ¬ Own σ ρ x) (h4 : OwAt K B H x c) :
    ∃ B', SR Θ K σ ρ B' H ∧ Step σ ρ0 B0 H0 σ ρ B' H ∧ Rp K B' (.ref x) (ocD c) := by
  obtain ⟨o, ho⟩ := h4.some
  obtain ⟨r2, eB⟩ := r.keepNew h2 h3 ho (h4.nt o ho)
  exact ⟨_, r2, s.keepNew h2 h1, h4.rp eB (by rw [upd_same]; exact ho.symm)⟩
section
variable {X : Cx} {x : Str} {p pos pos2 : Pos} {e : Expr} {es : List Expr} {ms : MAs} {m : MFX} {df : List D} {k j : Nat}
theorem sf_mk (I : InitJ Θ X.prog X.w X.K X.mg X.base x m df j) (ha : SA Θ X (e :: es) ms) (hr : Room k X.A := by assumption) (hj : j + 1 ≤ k := by first | decide | omega) (gl : Gl X x := by rfl) (nd : (x == ("__debug__" : Str)) = false := by decide)
    (he : starEach (e :: es) X.env = (false, eval e X.env) :: starEach es X.env := by rfl) (hpl : (backTo pos (starEach es X.env)).any (·.1) = false := by rfl) : SF Θ X (.Call (.Name x p) (e :: es) [] pos) (mMkF x m df ms) := by
  obtain ⟨C, fI, fd, ps, ds, dvs, h1, h2, h3, h4, h5, h6, h7⟩ := I.ex
  exact SF.of (pe_mkS (E := WE (Wof X)) h3 h4 (hr.mono hj) gl h2 h5 h6 (fun σ => passAt takes_wof σ) ha.pe nd he hpl) (fok_mk ha.ok h1 h7)
end
/-- a lambda whose body makes an instance -/
def mlMk (nm : Str) (m : MFX) (df : List D) (p : MAs) : MFX := fun ρ => match mMkX nm m df p kRetC ρ with
  | some (.rt d ρ') => some (.ret d, ρ')
  | some (.ex c fs ρ') => some (.exc c fs, ρ')
  | _ => none
theorem sl_mk {X : Cx} {E : XK} {x : Str} {p pos : Pos} {e : Expr} {es : List Expr} {ms : MAs} {m : MFX} {df : List D} {k j : Nat} (tk : Takes X (fun cls d _ H => E cls d H)) (I : InitJ Θ X.prog X.w X.K X.mg X.base x m df j) (ha : SA Θ X (e :: es) ms) (hr : Room k X.A := by assumption) (hj : j + 1 ≤ k := by first | decide | omega) (gl : Gl X x := by rfl) (nd : (x == ("__debug__" : Str)) = false := by decide)
    (he : starEach (e :: es) X.env = (false, eval e X.env) :: starEach es X.env := by rfl) (hpl : (backTo pos (starEach es X.env)).any (·.1) = false := by rfl) : SL Θ X E (.Call (.Name x p) (e :: es) [] pos) (mlMk x m df ms) := by
  obtain ⟨C, fI, fd, ps, ds, dvs, h1, h2, h3, h4, h5, h6, h7⟩ := I.ex
  refine ⟨⟨fun pins s σ H Q I ⟨ρ, B, o, ρ', r, eo, q⟩ => ?_⟩⟩
  refine (pe_mkS (E := WE fun cls d _ H => E cls d H) h3 h4 (hr.mono hj) gl h2 h5 h6 (fun σ => passAt tk σ) ha.pe nd he hpl).run pins s σ H Q I ?_
  unfold mlMk at eo
  have main : ∀ oo, mMkX x m df ms kRetC ρ = some oo → ((∃ d ρ2, oo = .rt d ρ2 ∧ o = .ret d ∧ ρ' = ρ2) ∨ ∃ c fs ρ2, oo = .ex c fs ρ2 ∧ o = .exc c fs ∧ ρ' = ρ2) → tMkS C (SpX Θ X.K m) dvs (WE fun cls d _ H => E cls d H) (tX Θ X.K ms) σ H Q := by
    intro oo e hoo
    obtain ⟨xs, ρ1, ss, ox, ss', ρ2, e1, nd', e3, e4, e5, e6⟩ := mk_split e
    refine core_mk ha.ok h1 h7 r e1 nd' e3 e4 e5 (fun z => ?_) (fun c fs z => ?_) (fun d z => ?_)
    · rcases e6 with ⟨_, c, hl, hk⟩ | ⟨c, fs, c', hx, _⟩
      · cases hk
        rcases hoo with ⟨d, ρ3, g1, g2, g3⟩ | ⟨_, _, _, g1, _⟩
        · cases g1
          subst g2 g3
          refine ⟨c, hl, fun y B' H' r' s' q1 q2 q3 q4 => ?_⟩
          obtain ⟨B2, r2, s2, rp⟩ := keep_new r' s' q1 q2 q3 q4
          exact q _ B2 H' r2 s2 rp
        · cases g1
      · rw [z] at hx; cases hx
    · rcases e6 with ⟨hx, _⟩ | ⟨c2, fs2, c', hx, hl, ho⟩
      · rw [z] at hx; cases hx
      · rw [z] at hx
        cases hx
        rcases hoo with ⟨d, ρ3, g1, g2, g3⟩ | ⟨_, _, _, g1, g2, g3⟩
        · rw [ho] at g1; cases g1
        · rw [ho] at g1
          cases g1
          subst g2 g3
          exact ⟨c', hl, fun C d B' H' r' s' ha => q C d B' H' r' s' ha⟩
    · rcases e6 with ⟨hx, _⟩ | ⟨c2, fs2, c', hx, _⟩
      · rw [z] at hx; cases hx; rfl
      · rw [z] at hx; cases hx
  split at eo
  · rename_i d ρ2 e
    cases eo
    exact main _ e (.inl ⟨_, _, rfl, rfl, rfl⟩)
  · rename_i c fs ρ2 e
    cases eo
    exact main _ e (.inr ⟨_, _, _, rfl, rfl, rfl⟩)
  · cases eo
end DL
set_option Elab.async false
set_option linter.all false
set_option maxRecDepth 100000
set_option maxHeartbeats 2000000
/-! DL: defs as values; a lambda's body that calls one. -/
namespace DL
open PySem L2 LamX
variable {Θ : Tb} {W U : WX}
theorem FnJ.mono {P : Program} {w : World} {K : Frag} {mg : Str → Option Value} {base : Heap} {x : Str} {ps : List Str} {j k : Nat} {sp : Sp} (F : FnJ P w K mg base x ps j sp) (h : j ≤ k) : FnJ P w K mg base x ps k sp := by
  obtain ⟨f, fd, F, r⟩ := F.ex
  exact ⟨f, fd, F.mono h, r⟩
end DL
set_option Elab.async false
set_option linter.all false
set_option maxRecDepth 100000
set_option maxHeartbeats 2000000
/-! DL: dict comprehensions; dicts that are kept, read by key. -/
namespace DL
open PySem L2 LamX
variable {Θ : Tb} {W U : WX}
section
variable {K : Frag}
/-! ### {k: v for ..} -/
def compK (vs : List Nat) (g : MG) (c : MT) (mk mv : ME) : List (Key × D) → List D → Rho → Option (List (Key × D) × Rho)
  | acc, [], ρ => some (acc, ρ)
  | acc, d :: ds, ρ => (g d ρ).bind fun ρ1 => (c ρ1).bind fun x => if x.1 = true then (mk x.2).bind fun y => (mv y.2).bind fun z => (keyOf y.1).bind fun k => if okW z.2 vs = true ∧ acc.length < 50000 then compK vs g c mk mv (putD acc k z.1) ds (wipeR z.2 vs) else none
    else if okW x.2 vs = true then compK vs g c mk mv acc ds (wipeR x.2 vs) else none
theorem compK_nil (vs : List Nat) (g : MG) (c : MT) (mk mv : ME) (acc : List (Key × D)) (ρ : Rho) : compK vs g c mk mv acc [] ρ = some (acc, ρ) := rfl
theorem compK_cons (vs : List Nat) (g : MG) (c : MT) (mk mv : ME) (acc : List (Key × D)) (d : D) (ds : List D) (ρ : Rho) : compK vs g c mk mv acc (d :: ds) ρ = (g d ρ).bind fun ρ1 => (c ρ1).bind fun x => if x.1 = true then (mk x.2).bind fun y => (mv y.2).bind fun z => (keyOf y.1).bind fun k => if okW z.2 vs = true ∧ acc.length < 50000 then compK vs g c mk mv (putD acc k z.1) ds (wipeR z.2 vs) else none
    else if okW x.2 vs = true then compK vs g c mk mv acc ds (wipeR x.2 vs) else none := rfl
def mDcF (mi : MI) (vs : List Nat) (g : MG) (c : MT) (mk mv : ME) : MF := fun ρ => (mi ρ).bind fun x => if okW x.2 vs = true ∧ x.1.length ≤ 50000 then (compK vs g c mk mv [] x.1 (wipeR x.2 vs)).map fun y => (.dK y.1, restR x.2 y.2 vs) else none
structure DcInv (Θ : Tb) (K : Frag) (σ : St) (ρ1 : Rho) (B1 H1 : Hp) (vs : List Nat) (Dl : Addr) (f : List (Key × D) → Rho → Option (List (Key × D) × Rho)) (es : List (Key × D)) (ρ2 : Rho) (H' : Hp) : Prop where
  mk' ::
  ex : ∃ ρ' B' kv kvs, SR Θ K (L2.wipe σ vs) ρ' B' H' ∧ Step (L2.wipe σ vs) (wipeR ρ1 vs) B1 H1 (L2.wipe σ vs) ρ' B' H' ∧ H' Dl = some (.dK kv) ∧ B' Dl = none ∧ ¬ Own (L2.wipe σ vs) ρ' Dl ∧ kv.map (·.1) = kvs.map (·.1) ∧ RpAll K B' (kv.map (·.2)) (kvs.map (·.2)) ∧ f kvs ρ' = some (es, ρ2)
theorem fok_dc {ti : TI} {g : TG} {tt : TT} {tk tv : TE} {vs : List Nat} {mi : MI} {mg : MG} {c : MT} {mk mv : ME} (hi : IOk Θ K ti mi) (hg : GOk Θ K g mg) (hgi : GIn g vs) (hc : TOk Θ K tt c) (hk : EOk Θ K tk mk) (he : EOk Θ K tv mv) : FOk Θ K (tDc ti g tt tk tv vs) (mDcF mi vs mg c mk mv) := by
  intro σ ρ B H oc ρ' r e Q q
  simp only [mDcF, Option.bind_eq_some_iff] at e
  obtain ⟨⟨ds, ρ1⟩, e1, e2⟩ := e
  split at e2
  case isFalse => cases e2
  rename_i hok
  have hds : ds.length ≤ 50000 := hok.2
  simp only [Option.map_eq_some_iff] at e2
  obtain ⟨⟨es, ρ2⟩, e2, e3⟩ := e2
  cases e3
  refine hi σ ρ B H ds ρ1 r e1 _ fun J B1 H1 r1 s1 wk => ?_
  intro Dl hD
  obtain ⟨r1', s1', hDB, hDn⟩ := r1.put (o := .dK []) hD
  have notOwn0 : ¬ Own (L2.wipe σ vs) (wipeR ρ1 vs) Dl := by
    rintro ⟨i, s, k, h1, h2, h3⟩
    obtain ⟨n, h4⟩ := wipeR_in h1 (fun e => by rw [e] at h2; cases h2)
    rw [wipe_out n] at h3
    exact hDn ⟨i, s, k, h4, h2, h3⟩
  refine ⟨fun i m H' => m = ds.length - i ∧ i ≤ ds.length ∧ DcInv Θ K σ ρ1 B1 H1 vs Dl (fun acc => compK vs mg c mk mv acc (ds.drop i)) es ρ2 H',
    ⟨_, rfl, Nat.zero_le _, ⟨wipeR ρ1 vs, B1, [], [], r1'.wipe, Step.refl.poke hD, upd_same, hDB, notOwn0, rfl, .nil, e2⟩⟩, ?_⟩
  rintro i m H' ⟨rfl, hle, ⟨ρ', B', kv, kvs, r', s', hacc, hB', hn', hkeys, racc, hf⟩⟩
  by_cases hlt : i < ds.length
  · obtain ⟨d, hd⟩ : ∃ d, ds[i]? = some d := ⟨_, List.getElem?_eq_getElem hlt⟩
    have wk' := wk.mono s'.ex
    have hf : compK vs mg c mk mv kvs (ds.drop i) ρ' = some (es, ρ2) := hf
    rw [drop_of_get hd, compK_cons] at hf
    simp only [Option.bind_eq_some_iff] at hf
    obtain ⟨ρ3, e3, ⟨b, ρ4⟩, e4, e5⟩ := hf
    refine .inr ⟨(wk'.go i H' d r'.ex hd).1, fun H2 => i + 1 ≤ ds.length ∧ DcInv Θ K σ ρ1 B1 H1 vs Dl (fun acc => compK vs mg c mk mv acc (ds.drop (i + 1))) es ρ2 H2, fun H2 z => ⟨ds.length - (i + 1), by omega, rfl, z⟩, fun x H2 hy => ?_⟩
    obtain ⟨B2, r2, s2, rx⟩ := wk'.take r' hd hy
    obtain ⟨k2, kB2, kn2⟩ := s2.aloneO nt_dK hacc hB' hn'
    have base := hg (L2.wipe σ vs) ρ' B2 H2 x d ρ3 r2 rx e3 (fun σ2 H3 => H3 = H2 ∧ SR Θ K σ2 ρ3 B2 H2 ∧ Step (L2.wipe σ vs) ρ' B2 H2 σ2 ρ3 B2 H2) fun σ2 a b => ⟨rfl, a, b⟩
    have g1 := hgi.1 x (L2.wipe σ vs) H2 _ base
    refine hgi.2 x (L2.wipe σ vs) H2 _ _ g1 ?_
    rintro σ3 H3 ⟨⟨rfl, r3, s3⟩, hw⟩
    rw [wipe_wipe] at hw
    refine ⟨hw, ?_⟩
    obtain ⟨k3, kB3, kn3⟩ := s3.aloneO nt_dK k2 kB2 kn2
    refine hc σ3 ρ3 B2 _ b ρ4 r3 e4 _ fun B4 H4 r4 s4 => ?_
    obtain ⟨k4, kB4, kn4⟩ := s4.aloneO nt_dK k3 kB3 kn3
    cases b with
    | false =>
      show _ ∧ _
      have e5 : (if okW ρ4 vs = true then compK vs mg c mk mv kvs (ds.drop (i + 1)) (wipeR ρ4 vs) else none) = some (es, ρ2) := e5
      split at e5
      case isFalse => cases e5
      rename_i hok4
      have r5 := r4.wipe (vs := vs)
      have st5 := (((s'.trans s2).trans s3).trans s4).trans (Step.wipe hok4)
      obtain ⟨k5, kB5, kn5⟩ := (Step.wipe hok4 : Step σ3 ρ4 B4 H4 _ _ B4 H4).aloneO nt_dK k4 kB4 kn4
      rw [hw] at r5 st5 kn5
      exact ⟨hlt, ⟨_, B4, kv, kvs, r5, st5, k5, kB5, kn5, hkeys, racc.mono ((s2.ex.trans s3.ex).trans s4.ex), e5⟩⟩
    | true =>
      have e5 : ((mk ρ4).bind fun y => (mv y.2).bind fun z => (keyOf y.1).bind fun k => if okW z.2 vs = true ∧ kvs.length < 50000 then compK vs mg c mk mv (putD kvs k z.1) (ds.drop (i + 1)) (wipeR z.2 vs) else none) = some (es, ρ2) := e5
      simp only [Option.bind_eq_some_iff] at e5
      obtain ⟨⟨y, ρ5⟩, e6, ⟨z, ρ6⟩, e7, key, e8, e9⟩ := e5
      split at e9
      case isFalse => cases e9
      rename_i hok5
      show tk σ3 H4 _
      refine hk σ3 ρ4 B4 H4 y ρ5 r4 e6 _ fun u B5 H5 r5 s5 ru => ?_
      obtain ⟨k5, kB5, kn5⟩ := s5.aloneO nt_dK k4 kB4 kn4
      refine he σ3 ρ5 B5 H5 z ρ6 r5 e7 _ fun v B6 H6 r6 s6 rv => ?_
      obtain ⟨k6, kB6, kn6⟩ := s6.aloneO nt_dK k5 kB5 kn5
      have r7 := r6.wipe (vs := vs)
      have st7 := (((((s'.trans s2).trans s3).trans s4).trans s5).trans s6).trans (Step.wipe hok5.1)
      obtain ⟨k7, kB7, kn7⟩ := (Step.wipe hok5.1 : Step σ3 ρ6 B6 H6 _ _ B6 H6).aloneO nt_dK k6 kB6 kn6
      rw [hw] at r7 st7 kn7
      have hlen : kv.length = kvs.length := by have := congrArg List.length hkeys; simpa using this
      have racc6 := racc.mono ((((s2.ex.trans s3.ex).trans s4.ex).trans s5.ex).trans s6.ex)
      obtain ⟨p1, p2⟩ := putD_rel key rv hkeys racc6
      refine ⟨kv, key, keyOf_rp ru e8, k6, Evl.sz_lt (by omega), hlt, ⟨_, B6, putK kv key v, putD kvs key z, r7.poke kB7 kn7 (fun o q => by rw [k7] at q; cases q; exact nt_dK) (fun xs q => by rw [k7] at q; cases q), st7.poke hD, upd_same, kB7, kn7, p1, p2, e9⟩⟩
  · have hge : ds.length ≤ i := Nat.le_of_not_lt hlt
    have hf : compK vs mg c mk mv kvs (ds.drop i) ρ' = some (es, ρ2) := hf
    rw [List.drop_eq_nil_of_le hge, compK_nil] at hf
    cases hf
    refine .inl ⟨(wk.mono s'.ex).stop i H' r'.ex hge, ?_⟩
    obtain ⟨⟨r7, s7⟩, o7⟩ := r1.unwipe hok.1 r' s'
    exact q Dl B' H' r7 (s1.trans s7) (s1.dom Dl hD) hB' (fun z => hn' (o7 Dl z)) ⟨kv, hacc, hkeys, racc⟩
/-! ### kept dicts, keys ints or texts -/
def isKeyD : D → Bool
  | .int _ => true
  | .str _ => true
  | _ => false
def keyEq : D → Key → Bool
  | .int i, .inl j => decide (i = j)
  | .str x, .inr y => decide (x = y)
  | _, _ => false
def sget (kvs : List (D × D)) (k : D) : Option (Option D) := if kvs ≠ [] ∧ (kvs.all fun q => isKeyD q.1) = true then (keyOf k).map fun key => (kvs.find? fun q => keyEq q.1 key).map (·.2) else none
theorem keyEq_keyD (a k : Key) : keyEq (keyD a) k = decide (a = k) := by
  cases a <;> cases k <;> simp [keyEq, keyD]
theorem sfind {B : Hp} (key : Key) : ∀ {kv : List (Key × V)} {ds : List D}, RpAll K B (kv.map (·.2)) ds →
    (valV kv key = none ∧ ((((kv.map fun q => keyD q.1).zip ds).find? fun q => keyEq q.1 key).map (·.2)) = none) ∨ ∃ v d, valV kv key = some v ∧ ((((kv.map fun q => keyD q.1).zip ds).find? fun q => keyEq q.1 key).map (·.2)) = some d ∧ Rp K B v d
  | [], [], _ => .inl ⟨rfl, rfl⟩
  | q :: kv, d :: ds, .cons h1 h2 => by
    rw [List.map_cons, List.zip_cons_cons]
    by_cases e : q.1 = key
    · refine .inr ⟨q.2, d, valV_pos e, ?_, h1⟩
      rw [List.find?_cons_of_pos (by show keyEq (keyD q.1) key = true; rw [keyEq_keyD]; exact decide_eq_true e)]; rfl
    · have hv : valV (q :: kv) key = valV kv key := by unfold valV; rw [List.find?_cons_of_neg (by simp [e])]
      rw [hv, List.find?_cons_of_neg (by show ¬ keyEq (keyD q.1) key = true; rw [keyEq_keyD, decide_eq_true_iff]; exact e)]
      exact sfind key h2
theorem sget_ok {B H : Hp} {x y : V} {kvs : List (D × D)} {k : D} {o : Option D} (hx : Evl.Ex B H) (h : Rp K B x (.dict kvs)) (hk : Rp K B y k) (e : sget kvs k = some o) :
    ∃ a, x = .ref a ∧ ((o = none ∧ DGet H a y none) ∨ ∃ v d, o = some d ∧ DGet H a y (some v) ∧ Rp K B v d) := by
  unfold sget at e
  split at e
  case isFalse => cases e
  rename_i hc
  obtain ⟨hne, hall⟩ := hc
  simp only [Option.map_eq_some_iff] at e
  obtain ⟨key, e1, e2⟩ := e
  generalize eD : PyData.dict kvs = dd at h
  cases h with
  | @dK a kv ds h1 h2 =>
    simp only [PyData.dict.injEq] at eD
    subst eD
    refine ⟨a, rfl, ?_⟩
    have ky := keyOf_rp hk e1
    rcases sfind key h2 with ⟨z1, z2⟩ | ⟨v, d, z1, z2, z3⟩
    · exact .inl ⟨by rw [← e2, z2], .inl ⟨kv, key, .inl (hx _ _ h1), ky, z1.symm⟩⟩
    · exact .inr ⟨v, d, by rw [← e2, z2], .inl ⟨kv, key, .inl (hx _ _ h1), ky, z1.symm⟩, z3⟩
  | @dT a kv ds h1 h2 =>
    exfalso
    simp only [PyData.dict.injEq] at eD
    subst eD
    cases kv with
    | nil => exact hne rfl
    | cons q t => cases h2 with
      | cons _ _ => simp [isKeyD] at hall
  | lkl h r => exfalso; simp only [lkd, PyData.dict.injEq] at eD; subst eD; simp [isKeyD] at hall
  | lkt h r => exfalso; simp only [lkd, PyData.dict.injEq] at eD; subst eD; simp [isKeyD] at hall
  | ins h h2 h3 r => exfalso; simp only [insD, PyData.dict.injEq] at eD; subst eD; simp [isKeyD] at hall
  | fn h => exfalso; simp only [fnD, PyData.dict.injEq] at eD; subst eD; simp [isKeyD] at hall
  | _ => cases eD
def mSIn (neg : Bool) (mk mo : ME) : ME := fun ρ => (mk ρ).bind fun x => (mo x.2).bind fun y => match y.1 with
  | .dict kvs => (sget kvs x.1).map fun o => (.bool (if neg then !o.isSome else o.isSome), y.2)
  | _ => none
def mSGet (mo mk : ME) : ME := fun ρ => (mo ρ).bind fun x => (mk x.2).bind fun y => match x.1 with
  | .dict kvs => (sget kvs y.1).bind fun o => o.map fun d => (d, y.2)
  | _ => none
theorem eok_sNotIn {tk to : TE} {mk mo : ME} (hk : EOk Θ K tk mk) (ho : EOk Θ K to mo) : EOk Θ K (tDNotIn tk to) (mSIn true mk mo) := by
  intro σ ρ B H d ρ' r e Q q
  simp only [mSIn, Option.bind_eq_some_iff] at e
  obtain ⟨⟨k, ρ1⟩, e1, ⟨dd, ρ2⟩, e2, e3⟩ := e
  refine hk σ ρ B H k ρ1 r e1 _ fun v B1 H1 r1 s1 rv => ho σ ρ1 B1 H1 dd ρ2 r1 e2 _ fun x B2 H2 r2 s2 rx => ?_
  split at e3
  case h_2 => cases e3
  rename_i kvs hd
  simp only [Option.map_eq_some_iff] at e3
  obtain ⟨o, e4, e5⟩ := e3
  cases e5
  have hd : dd = .dict kvs := hd
  subst hd
  obtain ⟨a, rfl, g⟩ := sget_ok r2.ex rx (rv.mono s2.ex) e4
  rcases g with ⟨rfl, g⟩ | ⟨u, d, rfl, g, _⟩
  · exact ⟨a, none, rfl, g, q _ B2 H2 r2 (s1.trans s2) (.bl _)⟩
  · exact ⟨a, some u, rfl, g, q _ B2 H2 r2 (s1.trans s2) (.bl _)⟩
theorem eok_sGet {tk to : TE} {mk mo : ME} (ho : EOk Θ K to mo) (hk : EOk Θ K tk mk) : EOk Θ K (tDGet to tk) (mSGet mo mk) := by
  intro σ ρ B H d ρ' r e Q q
  simp only [mSGet, Option.bind_eq_some_iff] at e
  obtain ⟨⟨dd, ρ1⟩, e1, ⟨k, ρ2⟩, e2, e3⟩ := e
  refine ho σ ρ B H dd ρ1 r e1 _ fun x B1 H1 r1 s1 rx => hk σ ρ1 B1 H1 k ρ2 r1 e2 _ fun v B2 H2 r2 s2 rv => ?_
  split at e3
  case h_2 => cases e3
  rename_i kvs hd
  simp only [Option.bind_eq_some_iff, Option.map_eq_some_iff] at e3
  obtain ⟨o, e4, d', e5, e6⟩ := e3
  cases e6
  have hd : dd = .dict kvs := hd
  subst hd
  obtain ⟨a, rfl, g⟩ := sget_ok r2.ex (rx.mono s2.ex) rv e4
  rcases g with ⟨rfl, g⟩ | ⟨u, d2, rfl, g, r3⟩
  · cases e5
  · cases e5
    exact ⟨a, u, rfl, g, q _ B2 H2 r2 (s1.trans s2) r3⟩
end
section
variable {X : Cx} {pos : Pos} {a b tg : Expr} {ma mb : ME}
theorem sf_dc {kx vx iter : Expr} {ifs : List Expr} {scope : Scope} {own : List (Str × Nat)} {g : TG} {mi : MI} {mg : MG} {mt : MT} {mk mv : ME} (hN : X.N.Nodup) (hi : SI Θ X tg iter mi) (ok : BlkOk X.N X.env.scope scope own) (hgi : GIn g (own.map (·.2)))
    (hg : ∀ (s : Shared) (H : Hp) (C : Addr) (cl : List (Str × Addr)) (fp : List Addr), SG Θ (X.blk s H scope (compEnvC scope cl C X.env) fp) tg g mg) (ht : ∀ (s : Shared) (H : Hp) (C : Addr) (cl : List (Str × Addr)) (fp : List Addr), STs Θ (X.blk s H scope (compEnvC scope cl C X.env) fp) ifs mt)
    (hk : ∀ (s : Shared) (H : Hp) (C : Addr) (cl : List (Str × Addr)) (fp : List Addr), SE Θ (X.blk s H scope (compEnvC scope cl C X.env) fp) kx mk)
    (he : ∀ (s : Shared) (H : Hp) (C : Addr) (cl : List (Str × Addr)) (fp : List Addr), SE Θ (X.blk s H scope (compEnvC scope cl C X.env) fp) vx mv) (hc : X.calm = true := by rfl) (hs : ∀ x, foldedSetIterable iter X.env x = pure x := by intro _; rfl) :
    SF Θ X (.DictComp kx vx [⟨tg, iter, ifs, 0⟩] scope pos) (mDcF mi (own.map (·.2)) mg mt mk mv) := by
  have i0 : Shared := X.s_0
  exact SF.of (pe_dc hc hN hi.pe ok (fun s H C cl fp => (hg s H C cl fp).pe) (fun s H C cl fp => (ht s H C cl fp).pe) (fun s H C cl fp => (hk s H C cl fp).pe) (fun s H C cl fp => (he s H C cl fp).pe) hs) (fok_dc hi.ok (hg i0 (fun _ => none) 0 [] []).ok hgi (ht i0 (fun _ => none) 0 [] []).ok (hk i0 (fun _ => none) 0 [] []).ok (he i0 (fun _ => none) 0 [] []).ok)
theorem st_snotin (hu : X.A.units + 1 < cLine) (hb : SE Θ X b mb) (ha : SE Θ X a ma) (h1 : behindInMarks .NotIn a = false := by rfl) : ST Θ X (.Compare b [.NotIn] [a] pos) (mTest (mSIn true mb ma)) := ST.of (pt_cmp (pc_dnotin hu hb.pe ha.pe) h1) (tok_B (eok_sNotIn hb.ok ha.ok))
theorem se_sget (hu : X.A.units + 1 < cLine) (ha : SE Θ X a ma) (hb : SE Θ X b mb) (hs : NoSl b := by intro _ _; rfl) : SE Θ X (.Subscript a b pos) (mSGet ma mb) := SE.of (pe_dget hu ha.pe hb.pe hs) (eok_sGet ha.ok hb.ok)
end
end DL
set_option Elab.async false
set_option linter.all false
set_option maxRecDepth 100000
set_option maxHeartbeats 2000000
/-! DL: own classes as they stand, their methods. -/
namespace DL
open PySem L2 LamX
variable {Θ : Tb} {W U : WX}
section
variable {K : Frag} {h : Heap} {mg : Str → Option Value}
def toVv : Value → V
  | .bool b => .bl b
  | .int i _ => .int i
  | .str x _ => .str x
  | .ref a => .ref a
  | _ => .non
def okVv : Value → Bool
  | .none => true
  | .bool _ => true
  | .int _ _ => true
  | .str _ _ => true
  | .ref _ => true
  | _ => false
theorem rel_vv : ∀ {its : List Value}, its.all okVv = true → Vals (its.map toVv) its
  | [], _ => .nil
  | v :: its, h => by
    rw [List.all_cons, Bool.and_eq_true] at h
    refine .cons ?_ (rel_vv h.2)
    cases v <;> first | exact rfl | exact ⟨_, rfl⟩ | exact (Bool.noConfusion (show false = true from h.1))
theorem dfl_vv {T : Addr} {oc : Value} {od : Option Addr} {n : Nat} {sl : Array (Option Value)} {arr : Array Value} (l : K.lookup T = some ⟨oc, od, .seq arr n, sl⟩) (hne : arr.toList ≠ []) (ok : arr.toList.all okVv = true) : DflV K (.ref T) (arr.toList.map toVv) :=
  .inr ⟨by simpa using hne, T, _, arr.toList, n, rfl, l, by simp, rel_vv ok⟩
theorem initTxt_mk {nm qual : Str} {st : Stmt} {nd : Nat} {C fI : Addr} {oc : Value} {od an : Option Addr} {sl : Array (Option Value)} {dV kV dc pm cd ct : Value} {dvs : List V} (X : K.In h) (G : h.Ns mainGlobals mg)
    (a : PySem.W.nsIn K mainGlobals nm = some (some (.ref C))) (mk : PySem.W.makesIn K C = true) (iC : PySem.W.findIn K (.ref C) "__init__" = some (some (.ref fI))) (fn : PySem.W.isFn K (.ref fI) = true) (kC : PySem.W.keepIn K (.ref C) = true)
    (l : K.lookup fI = some ⟨oc, od, .func (PySem.W.fnOf "__init__" qual (defArgs st) (defBody st) (defScope st) dV kV dc pm an cd ct), sl⟩) (cc : PySem.W.codeIn K cd qual = true) (kI : PySem.W.keepIn K (.ref fI) = true) (dv : DflV K dV dvs) (hd : dvs.length = nd) : InitTxt K mg nm st qual nd :=
  ⟨C, fI, _, dvs, a, PySem.W.mg_of X G a, ⟨mk, iC, fn, kC⟩, ⟨⟨oc, od, dV, kV, dc, pm, an, cd, ct, sl, rfl, l, cc, dv, .inl rfl⟩, kI⟩, hd⟩
theorem init_fullD {qual : Str} {st : Stmt} {ps : List Str} {n nd : Nat} (hn : n = ps.length) (hnd : 0 < nd)
    (b1 : ∀ (T : Addr) (kV doc pm : Value) (an : Option Addr) (cdv ct : Value) (us its : List Value), us.length = n → its.length = nd →
      ∃ k, bindArgs (PySem.W.fnOf "__init__" qual (defArgs st) (defBody st) (defScope st) (.ref T) kV doc pm an cdv ct) ⟨us, []⟩ = seqItems? (.ref T) >>= k ∧ k (some its.toArray) = pure (ps.zip us)) :
    ∀ (fI : Addr) (fd : FuncData) (dvs : List V), dvs.length = nd → FunD K "__init__" qual (defArgs st) (defBody st) (defScope st) dvs [] fI fd → ∃ (ds : List Value) (ws : List V), Binds K fd ps ds ∧ Vals ws ds ∧ ∀ B, RpAll K B ws [] := by
  intro fI fd dvs hd F
  obtain ⟨ds, r, b⟩ := F.binds1 n nd (fun z => by rw [z] at hd; simp at hd; omega) (by rw [hd, Nat.sub_self]; exact hn) (fun T kV doc pm an cdv ct us its hu hi => by
    obtain ⟨k, k1, k2⟩ := b1 T kV doc pm an cdv ct us its hu (hi.trans hd)
    refine ⟨k, k1, ?_⟩
    rw [List.drop_of_length_le (by omega), List.append_nil]
    exact k2)
  rw [List.drop_of_length_le (by omega)] at r
  exact ⟨ds, [], b, r, fun _ => .nil⟩
/-! ### methods -/
structure MethTxt (K : Frag) (nm m : Str) (st : Stmt) (qual : Str) : Prop where
  ex : ∃ (C f : Addr) (fd : FuncData), ClsAt K nm C ∧ Cls K C ∧ Meth K C m f ∧ FunD K m qual (defArgs st) (defBody st) (defScope st) [] [] f fd
end
/-- a method as its callers see it -/
structure MethI (Θ : Tb) (P : Program) (w : World) (K : Frag) (mg : Str → Option Value) (base : Heap) (nm m : Str) (F : MFn) (k : Nat) : Prop where
  ex : ∃ (C f : Addr) (fd : FuncData) (ps : List Str), ClsAt K nm C ∧ Cls K C ∧ Meth K C m f ∧ FnOk P w K mg base CX0 k f fd ps (SpF Θ K F) ∧ Binds K fd ps []
section
variable {K : Frag}
end
section
variable {X : Cx} {pos apos : Pos} {o e : Expr} {es : List Expr} {nm m : Str} {F : MFn} {po : MP} {pa : MAs} {k j : Nat}
end
end DL
set_option Elab.async false
set_option linter.all false
set_option maxRecDepth 100000
set_option maxHeartbeats 2000000
/-! DL: for x in a text. -/
namespace DL
open PySem L2 LamX
variable {Θ : Tb} {W U : WX}
def signs (x : Str) : List D := x.cps.toList.map fun c => .str ⟨#[c]⟩
def mIterS (p : ME) : MI := fun ρ => (p ρ).bind fun x => match x.1 with
  | .str s => some (signs s, x.2)
  | _ => none
theorem walks_str {K : Frag} {B : Hp} {x : Str} : Walks K (Its x) B (signs x) := by
  refine ⟨fun i H d _ hd => ?_, fun i H _ hl => ?_⟩
  · have hi : i < x.cps.size := by
      have := (List.getElem?_eq_some_iff.mp hd).1
      simpa [signs] using this
    refine ⟨hi, fun v H' ⟨z, c, hc, q⟩ => .inl ⟨z, ?_⟩⟩
    have : d = .str ⟨#[c]⟩ := by
      unfold signs at hd
      rw [List.getElem?_map] at hd
      have h2 : x.cps.toList[i]? = some c := by rw [Array.getElem?_toList]; exact hc
      rw [h2] at hd
      cases hd; rfl
    rw [this, q]
    exact .str _
  · have : x.cps.size ≤ i := by simpa [signs] using hl
    exact this
theorem iok_str {K : Frag} {te : TE} {p : ME} (h : EOk Θ K te p) : IOk Θ K (iStr te) (mIterS p) := by
  intro σ ρ B H ds ρ' r e R q
  simp only [mIterS, Option.bind_eq_some_iff] at e
  obtain ⟨⟨d, ρ1⟩, e1, e2⟩ := e
  split at e2
  case h_2 => cases e2
  rename_i s hs
  cases e2
  have hs : d = .str s := hs
  subst hs
  refine h σ ρ B H _ _ r e1 _ fun v B1 H1 r1 s1 rv => ?_
  cases rv
  exact ⟨s, rfl, q _ B1 H1 r1 s1 walks_str⟩
theorem si_str {X : Cx} {tg e : Expr} {ma : ME} (ha : SE Θ X e ma) : SI Θ X tg e (mIterS ma) := SI.of (pi_str ha.pe) (iok_str ha.ok)
end DL
set_option Elab.async false
set_option linter.all false
set_option maxRecDepth 100000
set_option maxHeartbeats 4000000
/-! DL: tuple * int. -/
namespace DL
open PySem L2 LamX PySem.Spec PyProof.Rows
variable {Θ : Tb} {W U : WX}
end DL
set_option Elab.async false
set_option linter.all false
set_option maxRecDepth 100000
set_option maxHeartbeats 4000000
/-! DL, the end of a law with lambdas whose own body looks at what stands around it (repr at the law's own level). -/
namespace DL
open PySem PySem.Spec PyProof.Rows L2 LamX
/-- tables and nothing else, or the script besides -/
def mark (ls : List (Str × Addr × Addr)) (b : Addr) : Bool := ls.any fun p => p.2.2 == b
theorem mark_of {ls : List (Str × Addr × Addr)} {p : Str × Addr × Addr} (h : p ∈ ls) : mark ls p.2.2 = true := List.any_eq_true.mpr ⟨p, h, beq_self_eq_true _⟩
theorem of_mark {ls : List (Str × Addr × Addr)} {b : Addr} (h : mark ls b = true) : ∃ p ∈ ls, p.2.2 = b := by
  obtain ⟨p, hp, e⟩ := List.any_eq_true.mp h
  exact ⟨p, hp, beq_iff_eq.mp e⟩
/-- the law's call with the tables of its lambdas, its body told at the claim's own caller alone -/
theorem lawTG {P : Program} {w : World} {K : Frag} {mg mb : Str → Option Value} {k : Nat} {fa a : Addr} {fd : FuncData} {st : Stmt} {N LN : List Str} {m : MS} {s : Shared} {us : List Value} {ns : List Int} {ls : List (Str × Addr × Addr)}
    (kx : K.In s.heap) (ng : s.heap.Ns mainGlobals mg) (nb : s.heap.Ns builtinsNs mb) (eb : ∀ x : Str, x ≠ "__name__" → mb x = bootBuiltins x)
    (lim : s.heap.NoLimit) (g0 : s.gens = #[]) (obj : s.heap.get? a = some { cls := .type "list", data := .seq us.toArray })
    (bm : ∃ (q : Addr) (oq : Obj), mg "__builtins__" = some (.ref q) ∧ q ≠ builtinsNs ∧ s.heap.get? q = some oq ∧ oq.cls = .type "module" ∧ oq.dict = some builtinsNs ∧ oq.data = .plain)
    (isI : IntsAre us ns) (few : ns.length ≤ sizeLine) (room : Room (k + 1) callerA)
    (hd : LamHd K s.heap mg LN ls) (hm : mg "law" = some (.ref fa))
    (Fu : Fun K "law" "law" st fa fd) (S : FnScope N ["script"] (defScope st))
    (bind : ∀ (kV doc pm : Value) (an : Option Addr) (cdv ct : Value) (u : Value), bindArgs (PySem.W.fnOf "law" "law" (defArgs st) (defBody st) (defScope st) .none kV doc pm an cdv ct) ⟨[u], []⟩ = pure [(("script" : Str), u)])
    (body : ∀ (base : Heap), Lams (thOf ls) K mg base LN ls → ∀ (s : Shared) (H : Hp) (E : XK) (cdv : Value), (∀ c T : Addr, (("law" : Str), c, T) ∈ ls → cdv = .ref c) → SB (thOf ls) (CxF P w K mg base N "law" st fa cdv callerA [] s H E) (defBody st) m)
    (yes : ∃ ρ', runP 1 N.length m [.sh (lkd (.list (ns.map .int)))] = some (.bool true, ρ')) :
    codeAny (model P w) callerA (.call (.ref fa) ⟨[.ref a], []⟩)
      (fun r z => r = .ok (.ret (.bool true)) ∧ OldK s.heap z.heap ∧ z.os = s.os ∧ AllBare z.gens) s := by
  have rv := vals_ints isI
  have lu := isI.length
  have tabO : ∀ b : Addr, mark ls b = true → s.heap.get? b = some { cls := .none, data := .fields #[] } := fun b hb => by
    obtain ⟨p, hp, rfl⟩ := of_mark hb
    exact hd.tab p hp
  have noT : mark ls a = false := by
    cases q : mark ls a with
    | false => rfl
    | true =>
      have z := tabO a q
      rw [obj] at z
      have z' := congrArg Obj.data (Option.some.inj z)
      exact absurd (show Data.seq us.toArray _ = Data.fields #[] from z') (fun z => nomatch z)
  have codes : ∀ p ∈ ls, PySem.W.CodeHd s.heap p.2.1 p.2.2 := fun p hp => PySem.W.codeHd_of_K kx (hd.hd p hp)
  have main : ∀ H : Hp, (∀ b, mark ls b = true → H b = some (.tbl #[])) → (∀ b, H b = none ∨ mark ls b = true ∨ ∃ ob xs, H b = some (.frz ob (.lst xs))) → SqL K H a (ns.map V.int) → HOk P w H s.heap → (∀ b, H b ≠ none → b = a ∨ mark ls b = true) →
      (H a ≠ none → K.lookup a = none) → codeAny (model P w) callerA (.call (.ref fa) ⟨[.ref a], []⟩)
        (fun r z => r = .ok (.ret (.bool true)) ∧ OldK s.heap z.heap ∧ z.os = s.os ∧ AllBare z.gens) s := by
    intro H tabH only sq hok one hid
    have got : ∀ {b : Addr} {o : Obj}, s.heap.get? b = some o → H b = none → (hidT s.heap H).get? b = some o := fun h z => hidT_get h z
    -- what is neither a row nor a table is not tracked
    have free : ∀ {b : Addr} {o : Obj}, s.heap.get? b = some o → (∀ ws j, o.data = .seq ws j → False) → (o.data = .fields #[] → False) → H b = none := fun {b o} h n1 n2 => Classical.byContradiction fun z => by
      rcases one b z with e | e
      · subst e
        rw [obj] at h
        cases h
        exact n1 _ _ rfl
      · rw [tabO b e] at h
        cases h
        exact n2 rfl
    have nd : ∀ {b : Addr} {o : Obj} {es : Array DictEntry} {ep : Nat}, s.heap.get? b = some o → o.data = .dict es ep → H b = none := fun {b o es ep} h z =>
      free h (fun ws j q => by rw [z] at q; cases q) (fun q => by rw [z] at q; cases q)
    have nsT : ∀ {b : Addr} {q : Str → Option Value}, s.heap.Ns b q → (hidT s.heap H).Ns b q := fun {b q} ⟨o, es, ep, h, z, r⟩ => ⟨o, es, ep, got h (nd h z), z, r⟩
    have kT : K.In (hidT s.heap H) := fun b o h => got (kx b o h) (Classical.byContradiction fun z => by
      rcases one b z with e | e
      · subst e
        have q := hid z
        rw [h] at q; cases q
      · obtain ⟨p, hp, rfl⟩ := of_mark e
        have q := hd.no p hp
        rw [h] at q; cases q)
    obtain ⟨mc, l1, l2⟩ := id lim
    have tabB : ∀ p ∈ ls, TabB (hidT s.heap H) mg p.2.1 p.2.2 := fun p hp => by
      have tp := hd.tab p hp
      refine ⟨?_, ?_, fun z => ?_⟩
      · obtain ⟨o, vs, file, tf, flags, tg, inF, text, tt, e1, r1, r2, r3, r4⟩ := codes p hp
        refine ⟨o, vs, file, tf, flags, tg, inF, text, tt, got e1 (free e1 (fun ws j z => ?_) fun z => ?_), r1, r2, r3, r4⟩
        · rw [r2] at z; cases z
        · rw [r2] at z
          cases z
          simp at r3
      · obtain ⟨q, oq, b1, b2, b3, b4, b5, b6⟩ := bm
        refine ⟨q, oq, b1, b2, fun z => ?_, fun z => ?_, got b3 (free b3 (fun ws j z => ?_) fun z => ?_), b4, b5, b6⟩
        · obtain ⟨o, es, ep, h, hdic, _⟩ := ng
          rw [z, h] at b3
          cases b3
          rw [hdic] at b6
          cases b6
        · rw [z, tp] at b3
          cases b3
          cases b6
        · rw [b6] at z; cases z
        · rw [b6] at z; cases z
      · obtain ⟨o, es, ep, h, hdic, _⟩ := ng
        rw [z, tp] at h
        cases h
        cases hdic
    have env0 : Env0 P w K mg (hidT s.heap H) callerA [] s H :=
      ⟨rfl, ⟨kT, nsT ng, ⟨mb, nsT nb, eb⟩, ⟨mc, nsT l1, l2⟩⟩, fun b o h => of_hidT h, Nat.le_of_eq (hidT_size _ _), trivial,
        fun b hb => absurd (show b ∈ ([] : List Addr) from hb) (by simp), hok, .of_eq g0⟩
    have Z : Lams (thOf ls) K mg (hidT s.heap H) LN ls := ⟨hd.nm, rfl, tabB, hd.one, hd.code⟩
    obtain ⟨oc, od, kV, doc, pm, an, cdv, ct, osl, rfl, lk, hcd⟩ := Fu.ex
    have kin : ∀ y ∈ [("script" : Str)].zip [Value.ref a], (defScope st).names.lookup y.1 = some .local ∨ ((defScope st).names.lookup y.1 = some .cell ∧ ((cellsFrom (s.heap.objs.size + 1) (defScope st).names []).lookup y.1).isSome = true) := fun ⟨n, v⟩ hy =>
      (S.par n (List.of_mem_zip hy).1).imp id fun q => ⟨q, PySem.W.cellsFrom_some _ _ _ (.inl q)⟩
    refine codeAny_mono (R := CR CX0 [] P w H s (fun v _ => v = .bl true) fun _ _ _ => False) ?_ fun r z hz => ?_
    · refine codeAny_call_function room.depth (kx _ _ lk) rfl S.co S.gen rfl (PySem.W.codeRec_of kx hcd) ?_
      rw [bind]
      refine wpAny_pure (wpAny_newFunctionEnv_cells S.kind kin fun env he s1 x => ?_)
      subst he
      refine ⟨lim.keeps x.toInCall.keep, codeAny_func ?_⟩
      have ht := body (hidT s.heap H) Z s H (fun _ _ _ => False) cdv fun c T hc => by
        obtain ⟨f', oc', od', fd', sl', h1, h2, h3⟩ := hd.code _ hc
        have h1' : mg "law" = some (.ref f') := h1
        rw [hm] at h1'
        cases h1'
        rw [lk] at h2
        cases h2
        exact h3
      have I : Inv (cxOf CX0 P w K mg (hidT s.heap H) N "law" (defScope st) fa cdv callerA [] s H fun _ _ _ => False) [] (start N [.ref a]) H s1 :=
        inv_start S room.hd env0 rfl (.cons rfl .nil) x
      obtain ⟨ρ', e⟩ := yes
      have sp : SpF (thOf ls) K (runF N.length m) [.ref a] H (fun v _ => v = .bl true) fun _ _ _ => False := by
        refine ⟨_, strip H, _, ρ', ⟨strip_ex _, fun i d hi => ?_, fun i s c hi hc => ?_, fun i j a h1 _ => ?_, rfl, fun p hp => ?_, strip_nt _, fun i c fs hi => by
          cases i with
          | zero => cases hi
          | succ i => simp at hi⟩, e, fun v B' H' _ _ rv => ?_⟩
        · cases i with
          | zero => cases hi; exact ⟨_, rfl, .lkl (strip_l sq) (RpAll.ofInts ns)⟩
          | succ i => simp at hi
        · cases i with
          | zero => cases hi; cases hc
          | succ i => simp at hi
        · obtain ⟨s, c, h1, h2, _⟩ := h1
          cases i with
          | zero => cases h1; cases h2
          | succ i => simp at h1
        · obtain ⟨p', hp', rfl⟩ := List.mem_map.mp hp
          exact TabS.nil (tabH _ (mark_of hp'))
        · cases rv; rfl
      refine wpAny_mono (ht.pe.nox.run [] s1 _ H _ I (body_ok (K := K) (E := fun _ _ _ => False) ht.ok sp)) (fun fl z hz => ?_) fun e z hz => hz
      match fl, hz with
      | .ret u, hz => obtain ⟨v, σ, H', J, rv, q⟩ := hz; exact ⟨v, H', J.os, J.bare, J.base, J.hok, rv, q⟩
      | .next, hz => obtain ⟨σ, H', J, q⟩ := hz; cases q
      | .brk, hz => obtain ⟨_, _, _, q⟩ := hz; exact q.elim
      | .cont, hz => obtain ⟨_, _, _, q⟩ := hz; exact q.elim
    · match r, hz with
      | .error e, hz => exact False.elim hz
      | .ok .next, hz => exact False.elim hz
      | .ok .brk, hz => exact False.elim hz
      | .ok .cont, hz => exact False.elim hz
      | .ok (.ret u), hz =>
        obtain ⟨v, H', os, bare, un, hok', rv', q⟩ := hz
        have q' : v = .bl true := q
        subst q'
        obtain rfl : u = Value.bool true := rv'
        have kept : ∀ b o, mark ls b = false → s.heap.get? b = some o → z.heap.get? b = some o := fun b o nm h => by
          cases hb : H b with
          | none => exact un.keep b o h hb (fun z => nomatch (show b ∈ ([] : List Addr) from z)) (fun z => nomatch z)
          | some u =>
            rcases only b with z | z | ⟨ob, xs, z⟩
            · rw [hb] at z; cases z
            · rw [nm] at z; cases z
            · obtain ⟨e1, _⟩ := hok b _ z
              obtain ⟨e2, _⟩ := hok' b _ (un.frzs b ob _ z)
              rw [h] at e1; cases e1
              exact e2
        have more : ∀ p ∈ ls, ∃ xs : Array Value, z.heap.get? p.2.2 = some { cls := .none, data := .fields xs } := fun p hp => by
          obtain ⟨xs, q⟩ := un.tbls p.2.2 #[] (tabH _ (mark_of hp))
          exact ⟨_, hok' p.2.2 _ q⟩
        refine ⟨rfl, ⟨fun b o h => ?_, fun b o h => ?_⟩, os, bare⟩
        · cases hb : mark ls b with
          | false => exact .inl (kept b o hb h)
          | true =>
            obtain ⟨p, hp, rfl⟩ := of_mark hb
            obtain ⟨xs, hx⟩ := more p hp
            rw [hd.tab p hp] at h
            cases h
            exact .inr (.inl ⟨((codes p hp).tab (hd.tab p hp)).isCodeTable, rfl, #[], xs, rfl, by rw [Array.empty_append]; exact hx⟩)
        · cases hb : mark ls b with
          | false => exact ⟨o, kept b o hb h⟩
          | true =>
            obtain ⟨p, hp, rfl⟩ := of_mark hb
            obtain ⟨xs, hx⟩ := more p hp
            exact ⟨_, hx⟩
  cases lk : K.lookup a with
  | some o =>
    have e := kx a o lk
    rw [obj] at e
    cases e
    refine main (fun b => if mark ls b = true then some (.tbl #[]) else none) (fun b hb => if_pos hb) (fun b => ?_) (.inr ⟨_, us.toArray, _, lk, rfl, rfl, rfl, by rw [List.size_toArray, lu]; exact few, by simpa using rv⟩)
      (fun b u z => ?_) (fun b z => ?_) fun z => ?_
    · cases hb : mark ls b with
      | true => exact .inr (.inl rfl)
      | false => exact .inl (if_neg Bool.false_ne_true)
    · have z' : (if mark ls b = true then some (HO.tbl #[]) else none) = some u := z
      cases hb : mark ls b with
      | true => rw [hb, if_pos rfl] at z'; cases z'; exact tabO b hb
      | false => rw [hb, if_neg Bool.false_ne_true] at z'; cases z'
    · have z' : (if mark ls b = true then some (HO.tbl #[]) else none) ≠ none := z
      cases hb : mark ls b with
      | true => exact .inr rfl
      | false => rw [hb, if_neg Bool.false_ne_true] at z'; exact (z' rfl).elim
    · have z' : (if mark ls a = true then some (HO.tbl #[]) else none) ≠ none := z
      rw [noT, if_neg Bool.false_ne_true] at z'
      exact (z' rfl).elim
  | none =>
    let H : Hp := fun b => if b = a then some (.frz { cls := .type "list", data := .seq us.toArray } (.lst (ns.map V.int))) else if mark ls b = true then some (.tbl #[]) else none
    have h1 : H a = some (.frz { cls := .type "list", data := .seq us.toArray } (.lst (ns.map V.int))) := if_pos rfl
    have h2 : ∀ b, b ≠ a → H b = if mark ls b = true then some (.tbl #[]) else none := fun b hb => if_neg hb
    refine main H (fun b hb => ?_) (fun b => ?_) (.inl (.inr ⟨_, h1⟩)) (fun b u z => ?_) (fun b z => ?_) fun _ => lk
    · rw [h2 b (fun e => by rw [e, noT] at hb; cases hb), if_pos hb]
    · by_cases e : b = a
      · subst e; exact .inr (.inr ⟨_, _, h1⟩)
      · cases hb : mark ls b with
        | true => exact .inr (.inl rfl)
        | false => exact .inl (by rw [h2 b e, hb]; exact if_neg Bool.false_ne_true)
    · by_cases e : b = a
      · subst e
        rw [h1] at z
        cases z
        exact ⟨obj, by rw [List.length_map]; exact few, us, _, rv, obj⟩
      · rw [h2 b e] at z
        cases hb : mark ls b with
        | true => rw [hb, if_pos rfl] at z; cases z; exact tabO b hb
        | false => rw [hb, if_neg Bool.false_ne_true] at z; cases z
    · by_cases e : b = a
      · exact .inl e
      · cases hb : mark ls b with
        | true => exact .inr rfl
        | false => rw [h2 b e, hb, if_neg Bool.false_ne_true] at z; exact (z rfl).elim
theorem walkTG {l : PySem.W.OpenLaw} {k : Nat} {q : Program} {loose : List Str} {XP : (Str → Option Value) → Heap → Prop} {YP : World → Heap → Prop} {d : DefRec} {K : Params → Frag} {m : MS} {st : Stmt} {N LN : List Str}
    (hn : l.most = some 63) (hdf : d.params.defaults = []) (hd : d.name = "law") (hr : Room (k + 1) callerA) (hY : ∀ (w : World) (h : Heap), YP w h → (K w.params).In h) (S : FnScope N ["script"] (defScope st))
    (hbind : ∀ (kV doc pm : Value) (an : Option Addr) (cdv ct : Value) (u : Value), bindArgs (PySem.W.fnOf "law" "law" (defArgs st) (defBody st) (defScope st) .none kV doc pm an cdv ct) ⟨[u], []⟩ = pure [(("script" : Str), u)])
    (F : ∀ (w : World) (mg : Str → Option Value) (h : Heap), YP w h → (K w.params).In h → h.Ns mainGlobals mg → DefAt (K w.params) mg "law" st ["script"] ∧ ∃ cs, LamHd (K w.params) h mg LN cs ∧
      ∀ (base : Heap), Lams (thOf cs) (K w.params) mg base LN cs → ∀ (f : Addr) (s : Shared) (H : Hp) (E : XK) (cdv : Value), (∀ c T : Addr, (("law" : Str), c, T) ∈ cs → cdv = .ref c) → SB (thOf cs) (CxF l.prog w (K w.params) mg base N "law" st f cdv callerA [] s H E) (defBody st) m)
    (true_ : ∀ ns : List Int, ns.length ≤ 63 → ∃ ρ', runP 1 N.length m [.sh (lkd (.list (ns.map .int)))] = some (.bool true, ρ')) :
    PySem.W.WalkO q loose XP YP l.row.toRowW d [] (fun f vs => PySem.call f vs) := by
  refine Att.attach_call hn hdf fun w s₀ s mg mb fa o pm cd doc a us ns G Y ho hfd hcd hmg obj isI hl hg => ?_
  have kx := hY w _ Y
  obtain ⟨D0, cs, hh, bd⟩ := F w mg _ Y kx G.T.g
  obtain ⟨f, fd, Fu, hm, _, _⟩ := D0.ex
  have hm2 := hm
  rw [hd, hm] at hmg
  cases hmg
  exact lawTG kx G.T.g G.T.b G.T.builtins G.T.nolimit hg obj G.T.bmain isI (Nat.le_trans hl (by decide)) hr hh hm2 Fu S hbind (fun base Z s H E cdv hc => bd base Z _ s H E cdv hc) (true_ ns hl)
end DL
set_option Elab.async false
set_option linter.all false
set_option maxRecDepth 100000
set_option maxHeartbeats 2000000
/-! DL: own.clear(), starred members of a row, repr of any row, text == text. -/
namespace DL
open PySem PySem.Spec PyProof.Rows L2
variable {Θ : Tb}
/-! ### own.clear() -/
/-! ### own.extend(a list) -/
/-! ### starred members -/
/-! ### repr of any row -/
def isRow : D → Bool
  | .list _ => true
  | .tuple _ => true
  | _ => false
def okR (d : D) : Bool := isRow d && (PyData.canLay0 d && (PyData.showable d && (PyData.intsShort 13 d && (!PyData.hasDict d && (decide (PyData.depth d ≤ 60) && decide (PyData.weight d ≤ 1000000))))))
def reprW : List D → Option D
  | [d] => if okR d = true then some (.str d.shown) else none
  | _ => none
def rReprW (K : Frag) : List V → Hp → VK → Prop := fun xs H Q => ∃ (v : V) (d : D), xs = [v] ∧ Dp K H v d ∧ okR d = true ∧ Q (.str d.shown) H
theorem okR_parts {d : D} (h : okR d = true) : isRow d = true ∧ PyData.canLay0 d = true ∧ PyData.showable d = true ∧ PyData.intsShort 13 d = true ∧ PyData.hasDict d = false ∧ PyData.depth d ≤ 60 ∧ PyData.weight d ≤ 1000000 := by
  unfold okR at h
  simp only [Bool.and_eq_true, decide_eq_true_eq, Bool.not_eq_true'] at h
  exact h
theorem cr_reprW {X : Cx} (hg : X.A.guards = some []) (hu : X.A.units + 65 < cLine) : CallR X (.builtin "repr") (rReprW X.K) := by
  intro pins s σ H xs us Q I r ⟨v, d, ev, hd, hf, q⟩
  subst ev
  obtain ⟨f0, f1, f2, f3, f4, f5, f6⟩ := okR_parts hf
  have f7 : d.shown.length ≤ sizeLine := by
    have hl : PyData.layable0 d = true := by
      unfold PyData.layable0
      have h20 : (2 : Nat) ^ 20 = 1048576 := by decide
      rw [f1, decide_eq_true (show PyData.depth d ≤ 64 by omega), decide_eq_true (show PyData.weight d ≤ 2 ^ 20 by rw [h20]; omega)]; rfl
    have := shown_le13 hl f3
    rw [sizeLine_eq]; omega
  cases r with
  | cons r rr =>
    rename_i u ut
    cases rr
    obtain ⟨as, rd⟩ := Dp.reads I d v u hd r
    obtain ⟨a, rfl⟩ : ∃ a, u = .ref a := by
      cases d with
      | list ds => cases rd; exact ⟨_, rfl⟩
      | tuple ds => cases rd; exact ⟨_, rfl⟩
      | _ => cases f0
    refine repr_of_reads' rd f2 (fun z => by rw [f4] at z; cases z) hg (by omega) (fun b o e => e) (fun h' t tk hk => ?_) f7
    exact ⟨.str d.shown, H, (I.kept (h' := h') (t' := tk) hk), ⟨_, rfl⟩, q⟩
theorem callok_reprW {K : Frag} : CallOk Θ K (rReprW K) reprW := by
  intro σ ρ B H xs as d r ha e Q q
  unfold reprW at e
  split at e
  · split at e
    · rename_i d0 hf
      cases e
      obtain ⟨x, rfl, h⟩ := ha.one
      exact ⟨x, d0, rfl, h.dp r.ex (okR_parts hf).2.1, hf, q _ B H r Step.refl (.str _)⟩
    · cases e
  · cases e
/-! ### text == text -/
/-! ### a def that hands back a new list, asked for what it hands back -/
def frzX (m : MGX) : MFX := fun ss => (m ss).map fun y => ((match y.1 with
  | .ret c => .ret (ocD c)
  | .exc c fs => .exc c fs : XO D), y.2)
theorem spx_frz {K : Frag} {m : MGX} {vs : List V} {H : Hp} {Q : VK} {E : XK} (h : SpX Θ K (frzX m) vs H Q E) : SpY Θ K m vs H Q E := by
  obtain ⟨ρ, B, o, ρ', r, e, q⟩ := h
  simp only [frzX, Option.map_eq_some_iff] at e
  obtain ⟨⟨y, ρ1⟩, e1, e2⟩ := e
  cases y with
  | ret c =>
    cases e2
    refine ⟨ρ, B, .ret c, _, r, e1, fun p B1 H1 r1 s1 hp hB hn ho => ?_⟩
    obtain ⟨o, hpo⟩ := ho.some
    obtain ⟨r2, eB⟩ := r1.keepNew hB hn hpo (ho.nt o hpo)
    exact q (.ref p) (upd B1 p o) H1 r2 (s1.keepNew hB hp) (ho.rp eB (by rw [upd_same]; exact hpo.symm))
  | exc c fs =>
    cases e2
    exact ⟨ρ, B, .exc c fs, _, r, e1, q⟩
theorem FnJ.kept {P : Program} {w : World} {K : Frag} {mg : Str → Option Value} {base : Heap} {x : Str} {ps : List Str} {k : Nat} {m : MGX} (F : FnJ P w K mg base x ps k (SpY Θ K m)) : FnJ P w K mg base x ps k (SpX Θ K (frzX m)) := by
  obtain ⟨f, fd, F, r⟩ := F.ex
  exact ⟨f, fd, F.imp fun vs H Q E h => spx_frz h, r⟩
end DL
set_option Elab.async false
set_option linter.all false
set_option maxRecDepth 100000
set_option maxHeartbeats 4000000
/-! itertools.combinations over a list or a tuple: making it, stepping it. -/
namespace CpCo
open PySem PySem.Spec
open Sem (wp)
/-- the indices behind some indices -/
def nx (n : Nat) (is : List Nat) : Option (List Nat) :=
  let r := is.length
  match (List.range r).reverse.find? fun i => is.getD i 0 != i + n - r with
  | none => none
  | some i => some (is.take i ++ (List.range (r - i)).map (is.getD i 0 + 1 + ·))
abbrev IsTp (h : Heap) (a : Addr) (xs : List Value) : Prop := h.get? a = some { cls := .type "tuple", dict := none, data := .seq xs.toArray, slots := #[] }

section
variable {prog : Program} {w : World} {A : Around} {E : Value → Shared → Prop} {s : Shared}
end
section
variable {prog : Program} {w : World} {A : Around} {E : Value → Shared → Prop} {s : Shared}
def pickV (items : List Value) (is : List Nat) : List Value := is.map fun i => items.getD i .none
end
/-- the indices that follow -/
inductive Ch (n : Nat) : List Nat → List (List Nat) → Prop
  | nil {is} : nx n is = none → Ch n is []
  | cons {is js l} : nx n is = some js → Ch n js l → Ch n is (js :: l)
structure CoG (items : List Value) (all : List (List Nat)) (lo : Addr) (h : Heap) (as : List Addr) : Prop where
  rise : as.Pairwise (· < ·)
  above : ∀ a ∈ as, lo < a
  tups : ∀ (j : Nat) (a : Addr), as[j]? = some a → ∃ js, all[j]? = some js ∧ IsTp h a (pickV items js)
theorem CoG.there {items : List Value} {all : List (List Nat)} {lo : Addr} {h : Heap} {as : List Addr} (g : CoG items all lo h as) {a : Addr} (ha : a ∈ as) : a < h.objs.size := by
  obtain ⟨j, hj⟩ := List.mem_iff_getElem?.mp ha
  obtain ⟨_, _, e⟩ := g.tups j a hj
  exact Heap.lt_size e
section
variable {prog : Program} {w : World} {A : Around} {s : Shared} {R : Result → Shared → Prop} {items : List Value} {all : List (List Nat)}
end
section
variable {prog : Program} {w : World} {A : Around} {E : Value → Shared → Prop} {s : Shared} {items : List Value} {all : List (List Nat)} {is : List Nat} {I p : Addr}
end
end CpCo
set_option Elab.async false
set_option linter.all false
set_option maxRecDepth 100000
set_option maxHeartbeats 4000000
/-! list(combinations(a, r)). -/
namespace DL
open PySem L2 PySem.Spec PyProof.Rows CpCo
theorem there {P : Program} {w : World} {H : Hp} {h : Heap} {a : Addr} {o : HO} (x : ObjOk P w H h a o) : ∃ u, h.get? a = some u := by
  cases o with
  | lst xs => obtain ⟨_, _, _, _, e⟩ := x; exact ⟨_, e⟩
  | tup xs => obtain ⟨_, _, _, o, e, _⟩ := x; exact ⟨_, e⟩
  | dK kvs => obtain ⟨_, _, _, _, o, _, _, e, _⟩ := x; exact ⟨_, e⟩
  | dT kvs => obtain ⟨_, _, _, _, o, _, _, e, _⟩ := x; exact ⟨_, e⟩
  | set S n => obtain ⟨o, _, _, _, e, _⟩ := x; exact ⟨_, e⟩
  | ins C dx fs => obtain ⟨_, _, _, e, _⟩ := x; exact ⟨_, e⟩
  | own y => obtain ⟨_, e⟩ := x; exact ⟨_, e⟩
  | xd fs => obtain ⟨_, ⟨_, _, _, e, _⟩, _⟩ := x; exact ⟨_, e⟩
  | rng lo hi => obtain ⟨_, _, _, e⟩ := x; exact ⟨_, e⟩
  | frz ob u => obtain ⟨e, _⟩ := x; exact ⟨_, e⟩
  | tbl ps => exact ⟨_, show h.get? a = some _ from x⟩
  | met f y => exact ⟨_, show h.get? a = some _ from x⟩
  | ext φ => obtain ⟨_, ⟨_, e⟩, _⟩ := x; exact ⟨_, e⟩
section
variable {X : Cx}
end
/-! ### the D layer -/
section
variable {Θ : Tb} {K : Frag}
end
section
variable {Θ : Tb} {X : Cx}
end
end DL
set_option Elab.async false
set_option linter.all false
set_option maxRecDepth 100000
set_option maxHeartbeats 2000000
/-! DL: list.count; isinstance(e, ValueError). -/
namespace DL
open PySem L2
variable {Θ : Tb} {W U : WX}
/-! ### isinstance(e, T), T a built-in class -/
end DL
namespace DL
open PySem L2
section
variable {Θ : Tb} {W : WX} {K : Frag}
theorem Pend.mono {σ : St} {ρ : Rho} {B H H' H0 : Hp} (k : ∀ a o, H a = some o → H' a = some o) : ∀ {vs : List V} {ss : List Sl}, Pend Θ K σ ρ B H H0 vs ss → Pend Θ K σ ρ B H' H0 vs ss
  | [], [], _ => trivial
  | _ :: _, _ :: _, h => ⟨h.1.mono k, h.2.1, Pend.mono k h.2.2⟩
  | [], _ :: _, h => h.elim
  | _ :: _, [], h => h.elim
/-- a tuple is made of the two and taken apart (names that are caught) -/
theorem sok_parC {i j : Nat} {ta : TA} {m : MN} (h : NsOk Θ K ta m) : SOk Θ W K (tAsg (tTup ta) (gTup K 2 (gCons (gName i) (gCons (gName j) gNil)))) (mPar [i, j] m) := by
  intro σ ρ B H D' o r e w
  simp only [mPar, Option.bind_eq_some_iff, Option.map_eq_some_iff] at e
  obtain ⟨⟨ss, ρ1⟩, e1, ρ2, e2, e3⟩ := e
  cases e3
  refine h σ ρ B H ss ρ1 r e1 _ fun vs B1 H1 r1 s1 p1 => ?_
  have hl := p1.len.trans (setS_len e2)
  match vs, hl with
  | [v, u], _ =>
    refine ⟨by show 2 ≤ sizeLine; decide, fun q hq => ?_⟩
    obtain ⟨r2, s2, hB, hn⟩ := r1.put (o := .tup [v, u]) hq
    obtain ⟨r3, s3⟩ := setAll _ _ _ _ _ _ r2 (s1.trans s2) (Pend.mono (upd_keeps hq) p1) e2
    exact ⟨q, [v, u], rfl, .inl (.inl upd_same), rfl, v, [u], rfl, u, [], rfl, rfl, w _ _ _ r3 s3⟩
end
section
variable {Θ : Tb} {X : Cx} {n : MN}
theorem ss_parC {i j : Nat} {x y : Str} {a b : Expr} {px py pt pos : Pos} {kt k2 pt2} (hN : X.N.Nodup) (h : SN Θ X [a, b] n) (hc : X.calm = true := by rfl) (hi : X.N[i]? = some x := by rfl) (hj : X.N[j]? = some y := by rfl)
    (hx : Loc X.env.scope x := by first | exact Or.inl rfl | exact Or.inr rfl) (hy : Loc X.env.scope y := by first | exact Or.inl rfl | exact Or.inr rfl)
    (fx : X.fn x = true ∨ X.env.scope.names.lookup x = some .local := by first | exact .inl rfl | exact .inr rfl | assumption) (fy : X.fn y = true ∨ X.env.scope.names.lookup y = some .local := by first | exact .inl rfl | exact .inr rfl | assumption)
    (hw : swappedStores [.Tuple [.Name x px, .Name y py] kt pt] (.Tuple [a, b] k2 pt2) X.env = pure none := by rfl)
    (hs : swapsWithSole [.Tuple [.Name x px, .Name y py] kt pt] (.Tuple [a, b] k2 pt2) pos.line X.env = pure false := by rfl)
    (h1 : (assignEach [.Tuple [.Name x px, .Name y py] kt pt] X.env).map (·.2) = [assign (.Tuple [.Name x px, .Name y py] kt pt) X.env] := by rfl)
    (h2 : (assignEach [.Name x px, .Name y py] X.env).map (·.2) = assign (.Name x px) X.env :: (assignEach [.Name y py] X.env).map (·.2) := by rfl) (h3 : (assignEach [.Name y py] X.env).map (·.2) = assign (.Name y py) X.env :: (assignEach [] X.env).map (·.2) := by rfl)
    (hn : (assignEach [.Name x px, .Name y py] X.env).length = 2 := by rfl) (hst : (assignEach [.Name x px, .Name y py] X.env).findIdx? (·.1) = none := by rfl) :
    SS Θ X (.Assign [.Tuple [.Name x px, .Name y py] kt pt] (.Tuple [a, b] k2 pt2) pos) (mPar [i, j] n) :=
  SS.of (ps_asg (pe_tup h.pe) (pg_tup hc (pgs_cons (pg_name hN hi hx fx) (pgs_cons (pg_name hN hj hy fy) pgs_nil h3) h2) hn hst) hs hw h1) (sok_parC h.ok)
end
end DL
namespace DL
open PySem L2
/-! ### defaults -/
structure InitTxtD (K : Frag) (mg : Str → Option Value) (nm : Str) (st : Stmt) (qual : Str) (df : List D) : Prop where
  ex : ∃ (C fI : Addr) (fd : FuncData) (dvs : List V), ClsAt K nm C ∧ mg nm = some (.ref C) ∧ Mk K C fI ∧ FunD K "__init__" qual (defArgs st) (defBody st) (defScope st) dvs [] fI fd ∧ ∀ B, RpAll K B dvs df
section
variable {K : Frag} {mg : Str → Option Value} {h : Heap}
theorem initTxtD_mk {nm qual : Str} {st : Stmt} {df : List D} {C fI : Addr} {oc : Value} {od an : Option Addr} {sl : Array (Option Value)} {dV kV dc pm cd ct : Value} {dvs : List V} (X : K.In h) (G : h.Ns mainGlobals mg)
    (a : PySem.W.nsIn K mainGlobals nm = some (some (.ref C))) (mk : PySem.W.makesIn K C = true) (iC : PySem.W.findIn K (.ref C) "__init__" = some (some (.ref fI))) (fn : PySem.W.isFn K (.ref fI) = true) (kC : PySem.W.keepIn K (.ref C) = true)
    (l : K.lookup fI = some ⟨oc, od, .func (PySem.W.fnOf "__init__" qual (defArgs st) (defBody st) (defScope st) dV kV dc pm an cd ct), sl⟩) (cc : PySem.W.codeIn K cd qual = true) (kI : PySem.W.keepIn K (.ref fI) = true) (dv : DflV K dV dvs) (rp : ∀ B, RpAll K B dvs df) : InitTxtD K mg nm st qual df :=
  ⟨C, fI, _, dvs, a, PySem.W.mg_of X G a, ⟨mk, iC, fn, kC⟩, ⟨⟨oc, od, dV, kV, dc, pm, an, cd, ct, sl, rfl, l, cc, dv, .inl rfl⟩, kI⟩, rp⟩
theorem sqtK {B : Hp} {a : Addr} {od : Option Addr} {its : Array Value} {n : Nat} {sl : Array (Option Value)} (l : K.lookup a = some ⟨.type "tuple", od, .seq its n, sl⟩) (hz : its.size ≤ sizeLine) (ok : its.toList.all okVv = true) : SqT K B a (its.toList.map toVv) :=
  .inr ⟨_, its, n, l, rfl, rfl, hz, rel_vv ok⟩
theorem initj_okD {Θ : Tb} {P : Program} {w : World} {base : Heap} {nm qual : Str} {st : Stmt} {N ps : List Str} {k n np nu : Nat} {m : MS} {df : List D} (T : InitTxtD K mg nm st qual df) (S : FnScope N ps (defScope st)) (hn : N.length = n) (hp : ps.length = np) (hne : df ≠ []) (hu : nu + df.length = ps.length)
    (hb : ∀ (f : Addr) (cdv : Value) (A : Around) (outer : List Env) (s : Shared) (H : Hp) (E : XK), Room k (CxX P w K mg base N qual st f cdv A outer s H E).A → SB Θ (CxX P w K mg base N qual st f cdv A outer s H E) (defBody st) m)
    (b1 : ∀ (T : Addr) (kV doc pm : Value) (an : Option Addr) (cdv ct : Value) (us its : List Value), us.length = nu → its.length = df.length →
      ∃ k, bindArgs (PySem.W.fnOf "__init__" qual (defArgs st) (defBody st) (defScope st) (.ref T) kV doc pm an cdv ct) ⟨us, []⟩ = seqItems? (.ref T) >>= k ∧ k (some its.toArray) = pure (ps.zip (us ++ its))) :
    InitJ Θ P w K mg base nm (runX np n m) df (k + 1) := by
  obtain ⟨C, fI, fd, dvs, h1, h2, h3, h4, h5⟩ := T.ex
  have hd : dvs.length = df.length := (h5 (fun _ => none)).length
  obtain ⟨ds, r, b⟩ := h4.binds1 nu 0 (fun z => by rw [z] at hd; exact hne (List.eq_nil_of_length_eq_zero hd.symm)) (by rw [hd]; exact hu) (fun T kV doc pm an cdv ct us its hu hi => by
    obtain ⟨k, k1, k2⟩ := b1 T kV doc pm an cdv ct us its hu (hi.trans hd)
    exact ⟨k, k1, k2⟩)
  subst hn hp
  exact ⟨C, fI, fd, ps, ds, dvs, h1, h2, h3, h4.ok S (fun vs H Q E h => spx_len h) (fun cdv A outer s H vs Q E hr h => ⟨_, (hb fI cdv A outer s H E hr).pe, body_okX (K := K) (hb fI cdv A outer s H E hr).ok wof_cx h⟩), b, r, h5⟩
end
end DL
set_option Elab.async false
set_option linter.all false
set_option maxRecDepth 100000
set_option maxHeartbeats 2000000
namespace DL
open PySem L2
variable {Θ : Tb} {W U : WX}
theorem hall_isC {errs : List Str} {cl : List ClD} (h : ∀ p ∈ cl, ∀ c, (p.is c).isSome = errs.contains c) : ∀ c, (∃ p ∈ cl, p.is c = some true) → ∀ p ∈ cl, (p.is c).isSome = true := by
  intro c ⟨p, hp, e⟩ q hq
  have h1 := h p hp c
  rw [e] at h1
  rw [h q hq c, ← h1]
  rfl
theorem isC_some {errs : List Str} {n c : Str} : (isC errs n c).isSome = errs.contains c := by unfold isC; split <;> simp_all
theorem isB_some {errs : List Str} {c : Str} : (isB errs c).isSome = errs.contains c := by unfold isB; split <;> simp_all
end DL
set_option Elab.async false
set_option linter.all false
set_option maxRecDepth 100000
set_option maxHeartbeats 4000000
namespace DL
open PySem L2
open Classical in
theorem mulD_l {i j : Int} (h1 : -(2 ^ 64) < i) (h2 : i < 2 ^ 64) : mulD (.int i) (.int j) = some (.int (i * j)) := by show (if CMul i j then _ else _) = _; rw [if_pos (show CMul i j from Or.inl ⟨h1, h2⟩)]
theorem powD_of {i j : Int} (h1 : 0 ≤ j) (h2 : j ≤ 1000000) (h3 : i.natAbs < 2 ^ 64) : powD (.int i) (.int j) = some (.int (i ^ j.toNat)) := iDC_of ⟨h1, h2, h3⟩
theorem atI_of {α : Type} {xs : List α} {i : Int} {n : Nat} {x : α} (h : i = n) (hx : xs[n]? = some x) : atI xs i = some x := by
  have hl : n < xs.length := (List.getElem?_eq_some_iff.mp hx).1
  unfold atI ixN
  rw [if_pos (by omega), if_pos (by omega)]
  show xs[i.toNat]? = _
  rw [h]; exact hx
theorem forD_inv {g : MG} {b : MS} (P : Rho → Prop) : ∀ (ds : List D) (ρ : Rho), P ρ → (∀ d ∈ ds, ∀ ρ, P ρ → ∃ ρ1 ρ', g d ρ = some ρ1 ∧ b ρ1 = some (.nx ρ') ∧ P ρ') → ∃ ρ', forD g b ds ρ = some (.nx ρ') ∧ P ρ'
  | [], ρ, hp, _ => ⟨ρ, rfl, hp⟩
  | d :: ds, ρ, hp, h => by
    obtain ⟨ρ1, ρ', e1, e2, e3⟩ := h d (List.mem_cons_self ..) ρ hp
    obtain ⟨ρ2, f1, f2⟩ := forD_inv P ds ρ' e3 fun d hd => h d (List.mem_cons_of_mem _ hd)
    exact ⟨ρ2, by rw [forD_cons, e1]; simp only [Option.bind_some, e2, f1], f2⟩
theorem shaped_of {d : D} (h1 : d.canLay0 = true) (h2 : d.depth ≤ 64) : SeqAt.shaped d = true := by unfold SeqAt.shaped; rw [h1, decide_eq_true h2]; rfl
theorem eqD_int (a b : Int) : eqD (.int a) (.int b) = some (.bool (a == b)) := by
  unfold eqD; rw [if_pos ⟨rfl, rfl⟩, PyData.eqv]
end DL
set_option Elab.async false
set_option linter.all false
set_option maxRecDepth 100000
set_option maxHeartbeats 4000000
/-! tools for the plain laws, of no one law -/
namespace DL
open PySem L2
/-- a number from a to b -/
def inR (a b : Int) : D → Bool
  | .int x => decide (a ≤ x) && decide (x ≤ b)
  | _ => false
def isDict : D → Bool
  | .dict _ => true
  | _ => false
theorem enumD_mem : ∀ (ds : List D) (i : Nat) (d : D), d ∈ enumD i ds → ∃ (j : Nat) (x : D), d = .tuple [.int j, x] ∧ x ∈ ds
  | [], _, _, h => nomatch h
  | a :: ds, i, d, h => by
    rcases List.mem_cons.mp h with rfl | h
    · exact ⟨i, a, rfl, List.mem_cons_self ..⟩
    · obtain ⟨j, x, h1, h2⟩ := enumD_mem ds (i + 1) d h
      exact ⟨j, x, h1, List.mem_cons_of_mem _ h2⟩
def In (n : Nat) (js : List Int) : Prop := ∀ j ∈ js, 0 ≤ j ∧ j < n
theorem isi_int (d : D) (hd : isDict d = false) : isiB "int" d = some (match d with | .int _ => true | .bool _ => true | _ => false) := by cases d <;> first | rfl | cases hd
theorem isi_bool (d : D) (hd : isDict d = false) : isiB "bool" d = some (match d with | .bool _ => true | _ => false) := by cases d <;> first | rfl | cases hd
end DL
set_option Elab.async false
set_option linter.all false
set_option maxRecDepth 100000
set_option maxHeartbeats 4000000
/-! more tools: comprehensions over any source, slices, all and any, order -/
namespace DL
open PySem L2
theorem compD_mapA {α : Type} {vs : List Nat} {g : MG} {elt : ME} {ρ : Rho} (e f : α → D) : ∀ (xs : List α),
    (∀ x ∈ xs, ∃ ρ1, g (e x) ρ = some ρ1 ∧ elt ρ1 = some (f x, ρ1) ∧ okW ρ1 vs = true ∧ wipeR ρ1 vs = ρ) → compD vs g mYes elt (xs.map e) ρ = some (xs.map f, ρ)
  | [], _ => rfl
  | x :: xs, h => by
    obtain ⟨ρ1, e1, e3, e4, e5⟩ := h x (List.mem_cons_self ..)
    have ih := compD_mapA e f xs fun y hy => h y (List.mem_cons_of_mem _ hy)
    rw [List.map_cons, List.map_cons, compD_cons, e1]
    simp only [mYes, Option.bind_some, if_true, e3, e4, e5, ih, Option.map_some]
theorem allD_map {α : Type} (p : α → Bool) (xs : List α) : allD [.list (xs.map fun x => .bool (p x))] = some (.bool (xs.all p)) := by
  show (boolsOf (xs.map fun x => PyData.bool (p x))).map _ = _
  rw [show (xs.map fun x => PyData.bool (p x)) = (xs.map p).map .bool by rw [List.map_map]; rfl, boolsOf_map, Option.map_some, List.all_map]; rfl
theorem cut_drop (xs : List D) (k : Nat) : cutD xs (some (k : Int)) none = xs.drop k := by
  unfold cutD
  have h2 : HT.sIx xs.length xs.length none = xs.length := rfl
  rw [h2]
  by_cases h : k ≤ xs.length
  · have h1 : HT.sIx xs.length 0 (some (k : Int)) = k := by unfold HT.sIx; simp only; split <;> omega
    rw [h1]
    exact List.take_of_length_le (by simp)
  · have h1 : HT.sIx xs.length 0 (some (k : Int)) = xs.length := by unfold HT.sIx; simp only; split <;> omega
    rw [h1, List.drop_eq_nil_of_le (show xs.length ≤ k by omega)]
    simp
theorem cut_take (xs : List D) (k : Nat) : cutD xs none (some (k : Int)) = xs.take k := by
  unfold cutD
  have h2 : HT.sIx xs.length 0 none = 0 := rfl
  rw [h2]
  by_cases h : k ≤ xs.length
  · have h1 : HT.sIx xs.length xs.length (some (k : Int)) = k := by unfold HT.sIx; simp only; split <;> omega
    rw [h1]; simp
  · have h1 : HT.sIx xs.length xs.length (some (k : Int)) = xs.length := by unfold HT.sIx; simp only; split <;> omega
    rw [h1, List.take_of_length_le (show xs.length ≤ k by omega)]
    simp
end DL
set_option Elab.async false
set_option linter.all false
set_option maxRecDepth 100000
set_option maxHeartbeats 4000000
/-! repr of small data -/
namespace DL
open PySem L2
structure Sm (d : D) (k w : Nat) : Prop where
  lay : PyData.canLay0 d = true
  sh : PyData.showable d = true
  is : PyData.intsShort 13 d = true
  dp : PyData.depth d ≤ k
  wt : PyData.weight d ≤ w
theorem sm_int {n : Int} (h : n.natAbs < 10 ^ 12) : Sm (.int n) 0 40 := by
  have hf : ∀ m ∈ [n], m.natAbs < 10 ^ 12 := fun m hm => by rw [List.mem_singleton.mp hm]; exact h
  have h1 : (PyData.showable (.int n) && true) = true := show_ints [n] hf
  have h2 : (PyData.intsShort 13 (.int n) && true) = true := short_ints [n] hf
  have h3 := log_few h
  refine ⟨rfl, by rwa [Bool.and_true] at h1, by rwa [Bool.and_true] at h2, Nat.le_refl _, ?_⟩
  show (if n == 0 then 0 else n.natAbs.log2 + 1) ≤ 40
  split <;> omega
theorem sm_str {x : Str} (h : PyData.canLay0 (.str x) = true) (hw : PyData.weight (.str x) ≤ 40) : Sm (.str x) 0 40 := ⟨h, rfl, rfl, Nat.le_refl _, hw⟩
theorem Sm.mono {d : D} {k w k' w' : Nat} (h : Sm d k w) (hk : k ≤ k') (hw : w ≤ w') : Sm d k' w' := ⟨h.lay, h.sh, h.is, Nat.le_trans h.dp hk, Nat.le_trans h.wt hw⟩
theorem sm_all {k w : Nat} : ∀ {ds : List D}, (∀ d ∈ ds, Sm d k w) → PyData.canLayAll0 ds = true ∧ PyData.showableAll ds = true ∧ PyData.intsShortAll 13 ds = true ∧ PyData.depthAll ds ≤ k ∧ PyData.weightAll ds ≤ ds.length * (w + 1)
  | [], _ => ⟨rfl, rfl, rfl, Nat.zero_le _, Nat.zero_le _⟩
  | d :: ds, h => by
    obtain ⟨a1, a2, a3, a4, a5⟩ := h d (List.mem_cons_self ..)
    obtain ⟨b1, b2, b3, b4, b5⟩ := sm_all (ds := ds) fun x hx => h x (List.mem_cons_of_mem _ hx)
    refine ⟨?_, ?_, ?_, ?_, ?_⟩
    · show (PyData.canLay0 d && PyData.canLayAll0 ds) = true
      rw [a1, b1]; rfl
    · show (PyData.showable d && PyData.showableAll ds) = true
      rw [a2, b2]; rfl
    · show (PyData.intsShort 13 d && PyData.intsShortAll 13 ds) = true
      rw [a3, b3]; rfl
    · show max (PyData.depth d) (PyData.depthAll ds) ≤ k
      omega
    · show PyData.weight d + 1 + PyData.weightAll ds ≤ (ds.length + 1) * (w + 1)
      rw [Nat.add_mul]
      omega
theorem sm_tup {k w n : Nat} {ds : List D} (h : ∀ d ∈ ds, Sm d k w) (hl : ds.length ≤ n) : Sm (.tuple ds) (k + 1) (n * (w + 1)) := by
  obtain ⟨b1, b2, b3, b4, b5⟩ := sm_all h
  exact ⟨b1, b2, b3, by show PyData.depthAll ds + 1 ≤ k + 1; omega, Nat.le_trans b5 (Nat.mul_le_mul_right _ hl)⟩
theorem okR_of {d : D} {k w : Nat} (h : Sm d k w) (hr : isRow d = true) (hk : k ≤ 60) (hw : w ≤ 1000000) : okR d = true := by
  have nd := PyData.hasDict_of_canLay d h.lay
  have hd := h.dp
  have ht := h.wt
  unfold okR
  rw [hr, h.lay, h.sh, h.is, nd, decide_eq_true (show PyData.depth d ≤ 60 by omega), decide_eq_true (show PyData.weight d ≤ 1000000 by omega)]; rfl
theorem reprW_of {d : D} (h : okR d = true) : reprW [d] = some (.str d.shown) := if_pos h
theorem neS_same (x : Str) : neSD (.str x) (.str x) = some (.bool false) := by
  show some (PyData.bool (!decide (x = x))) = _
  rw [decide_eq_true rfl]; rfl
end DL
set_option Elab.async false
set_option linter.all false
set_option maxRecDepth 100000
set_option maxHeartbeats 4000000
namespace Lk11
open PySem L2 DL LamX
def topS (i : Nat) : Stmt := PySem.Challenge.pw_nightloaf_k11_refusals_of_nights.main.body.getD i (.Pass ⟨0, 0, 0, 0⟩)
abbrev errs : List Str := ["BadBudgets", "BadHands", "BadKinds", "BadOrders", "BadOvens", "BadRepair"]
abbrev lamNames : List Str := ["law"]
abbrev i_LoafError : Stmt := (clsBody (topS 10)).getD 0 (.Pass ⟨0, 0, 0, 0⟩)
theorem sci_LoafError : FnScope ["self", "value"] ["self", "value"] (defScope i_LoafError) := ⟨rfl, rfl, rfl, by decide +kernel, rfl, by decide +kernel, by decide +kernel⟩
abbrev fl_Night : List Str := ["hands", "ovens", "kinds", "orders", "budgets", "repair", "own"]
abbrev s_Night_init : Stmt := (clsBody (topS 36)).getD 0 (.Pass ⟨0, 0, 0, 0⟩)
abbrev df_Night : List D := [lkd (.tuple [(.int 0), (.int 0), (.int 0)]), .int 1]
/-- what the top has written -/
structure Txt (K : Frag) (mg : Str → Option Value) : Prop where
  nil : True
  n_all : mg "all" = none
  n_bool : mg "bool" = none
  n_enumerate : mg "enumerate" = none
  n_int : mg "int" = none
  n_isinstance : mg "isinstance" = none
  n_len : mg "len" = none
  n_list : mg "list" = none
  n_range : mg "range" = none
  n_repr : mg "repr" = none
  n_str : mg "str" = none
  n_tuple : mg "tuple" = none
  c_LETTERS : ∃ t, mg "LETTERS" = some (.str "abcdefghijklmnopqrstuvwxyz" t)
  c_MOST_BUDGET : ∃ t, mg "MOST_BUDGET" = some (.int 3 t)
  c_MOST_FRESH : ∃ t, mg "MOST_FRESH" = some (.int 8 t)
  c_MOST_HANDS : ∃ t, mg "MOST_HANDS" = some (.int 3 t)
  c_MOST_HOUR : ∃ t, mg "MOST_HOUR" = some (.int 20 t)
  c_MOST_KINDS : ∃ t, mg "MOST_KINDS" = some (.int 4 t)
  c_MOST_NAME : ∃ t, mg "MOST_NAME" = some (.int 8 t)
  c_MOST_ORDERS : ∃ t, mg "MOST_ORDERS" = some (.int 5 t)
  c_MOST_OVENS : ∃ t, mg "MOST_OVENS" = some (.int 3 t)
  c_MOST_REPAIR : ∃ t, mg "MOST_REPAIR" = some (.int 4 t)
  c_MOST_REST : ∃ t, mg "MOST_REST" = some (.int 8 t)
  x_BadBudgets : ErrTxt K mg "BadBudgets" i_LoafError "LoafError.__init__" [.non] ["value"]
  x_BadHands : ErrTxt K mg "BadHands" i_LoafError "LoafError.__init__" [.non] ["value"]
  x_BadKinds : ErrTxt K mg "BadKinds" i_LoafError "LoafError.__init__" [.non] ["value"]
  x_BadOrders : ErrTxt K mg "BadOrders" i_LoafError "LoafError.__init__" [.non] ["value"]
  x_BadOvens : ErrTxt K mg "BadOvens" i_LoafError "LoafError.__init__" [.non] ["value"]
  x_BadRepair : ErrTxt K mg "BadRepair" i_LoafError "LoafError.__init__" [.non] ["value"]
  g_BadBudgets : ClsGl K mg "BadBudgets"
  g_BadHands : ClsGl K mg "BadHands"
  g_BadKinds : ClsGl K mg "BadKinds"
  g_BadOrders : ClsGl K mg "BadOrders"
  g_BadOvens : ClsGl K mg "BadOvens"
  g_BadRepair : ClsGl K mg "BadRepair"
  xB : exmB K errs errs = true
  fB : fldB K errs ["value", "what", "limit"] = true
  b_Night : insB K "Night" fl_Night = true
  y_Night : InitTxt K mg "Night" s_Night_init "Night.__init__" 2
  yd_Night : InitTxtD K mg "Night" s_Night_init "Night.__init__" df_Night
  d_is_tuple_of : DefAt K mg "is_tuple_of" (topS 7) ["thing", "many"]
  d_is_integer : DefAt K mg "is_integer" (topS 4) ["thing"]
  d_is_within : DefAt K mg "is_within" (topS 5) ["thing", "least", "most"]
  d_check_budgets : DefAt K mg "check_budgets" (topS 34) ["budgets"]
  d_check_hands : DefAt K mg "check_hands" (topS 32) ["hands"]
  d_is_name : DefAt K mg "is_name" (topS 8) ["thing"]
  d_is_kind : DefAt K mg "is_kind" (topS 20) ["thing"]
  d_is_row : DefAt K mg "is_row" (topS 6) ["thing"]
  d_check_kinds : DefAt K mg "check_kinds" (topS 29) ["kinds"]
  d_is_order : DefAt K mg "is_order" (topS 30) ["thing", "names"]
  d_check_orders : DefAt K mg "check_orders" (topS 31) ["orders", "names"]
  d_check_ovens : DefAt K mg "check_ovens" (topS 33) ["ovens"]
  d_check_repair : DefAt K mg "check_repair" (topS 35) ["repair"]
  d_law_refused : DefAt K mg "_law_refused" (topS 43) ["ask"]
  d_law_taken : DefAt K mg "_law_taken" (topS 38) ["row", "many"]
  d_law_pick : DefAt K mg "_law_pick" (topS 39) ["row", "some"]
  d_law_spoilt : DefAt K mg "_law_spoilt" (topS 42) ["row", "parts", "at"]
  d_law_wide_kind : DefAt K mg "_law_wide_kind" (topS 40) ["row", "name"]
  d_law_wide_night : DefAt K mg "_law_wide_night" (topS 41) ["row"]
  d_law : DefAt K mg "law" (topS 44) ["script"]
noncomputable def cgA_BadBudgets {K : Frag} {mg : Str → Option Value} (T : Txt K mg) : Addr := Classical.choose T.g_BadBudgets
theorem cg_BadBudgets {K : Frag} {mg : Str → Option Value} (T : Txt K mg) : ClsAt K "BadBudgets" (cgA_BadBudgets T) ∧ mg "BadBudgets" = some (.ref (cgA_BadBudgets T)) := Classical.choose_spec T.g_BadBudgets
noncomputable def cgA_BadHands {K : Frag} {mg : Str → Option Value} (T : Txt K mg) : Addr := Classical.choose T.g_BadHands
theorem cg_BadHands {K : Frag} {mg : Str → Option Value} (T : Txt K mg) : ClsAt K "BadHands" (cgA_BadHands T) ∧ mg "BadHands" = some (.ref (cgA_BadHands T)) := Classical.choose_spec T.g_BadHands
noncomputable def cgA_BadKinds {K : Frag} {mg : Str → Option Value} (T : Txt K mg) : Addr := Classical.choose T.g_BadKinds
theorem cg_BadKinds {K : Frag} {mg : Str → Option Value} (T : Txt K mg) : ClsAt K "BadKinds" (cgA_BadKinds T) ∧ mg "BadKinds" = some (.ref (cgA_BadKinds T)) := Classical.choose_spec T.g_BadKinds
noncomputable def cgA_BadOrders {K : Frag} {mg : Str → Option Value} (T : Txt K mg) : Addr := Classical.choose T.g_BadOrders
theorem cg_BadOrders {K : Frag} {mg : Str → Option Value} (T : Txt K mg) : ClsAt K "BadOrders" (cgA_BadOrders T) ∧ mg "BadOrders" = some (.ref (cgA_BadOrders T)) := Classical.choose_spec T.g_BadOrders
noncomputable def cgA_BadOvens {K : Frag} {mg : Str → Option Value} (T : Txt K mg) : Addr := Classical.choose T.g_BadOvens
theorem cg_BadOvens {K : Frag} {mg : Str → Option Value} (T : Txt K mg) : ClsAt K "BadOvens" (cgA_BadOvens T) ∧ mg "BadOvens" = some (.ref (cgA_BadOvens T)) := Classical.choose_spec T.g_BadOvens
noncomputable def cgA_BadRepair {K : Frag} {mg : Str → Option Value} (T : Txt K mg) : Addr := Classical.choose T.g_BadRepair
theorem cg_BadRepair {K : Frag} {mg : Str → Option Value} (T : Txt K mg) : ClsAt K "BadRepair" (cgA_BadRepair T) ∧ mg "BadRepair" = some (.ref (cgA_BadRepair T)) := Classical.choose_spec T.g_BadRepair
theorem e_BadBudgets {P : Program} {w : World} {K : Frag} {mg : Str → Option Value} {base : Heap} (T : Txt K mg) : ErrOk P w K mg base "BadBudgets" ["value"] [] 1 :=
  err_mk T.x_BadBudgets sci_LoafError rfl (fun cdv A outer s H f E => by exact (pss_one (ps_ost (pv 0) (pv 1)))) (fun vs H Q E h => init1 h) (fun fI fd F => let ⟨ds, r, b⟩ := F.binds1 2 1 (by simp) rfl (fun T kV doc pm an cdv ct us its hu hi => match us, its, hu, hi with | [_, _], [_], _, _ => ⟨_, rfl, rfl⟩); ⟨ds, [], b, r, fun _ => .nil⟩)
theorem e_BadHands {P : Program} {w : World} {K : Frag} {mg : Str → Option Value} {base : Heap} (T : Txt K mg) : ErrOk P w K mg base "BadHands" ["value"] [] 1 :=
  err_mk T.x_BadHands sci_LoafError rfl (fun cdv A outer s H f E => by exact (pss_one (ps_ost (pv 0) (pv 1)))) (fun vs H Q E h => init1 h) (fun fI fd F => let ⟨ds, r, b⟩ := F.binds1 2 1 (by simp) rfl (fun T kV doc pm an cdv ct us its hu hi => match us, its, hu, hi with | [_, _], [_], _, _ => ⟨_, rfl, rfl⟩); ⟨ds, [], b, r, fun _ => .nil⟩)
theorem e_BadKinds {P : Program} {w : World} {K : Frag} {mg : Str → Option Value} {base : Heap} (T : Txt K mg) : ErrOk P w K mg base "BadKinds" ["value"] [] 1 :=
  err_mk T.x_BadKinds sci_LoafError rfl (fun cdv A outer s H f E => by exact (pss_one (ps_ost (pv 0) (pv 1)))) (fun vs H Q E h => init1 h) (fun fI fd F => let ⟨ds, r, b⟩ := F.binds1 2 1 (by simp) rfl (fun T kV doc pm an cdv ct us its hu hi => match us, its, hu, hi with | [_, _], [_], _, _ => ⟨_, rfl, rfl⟩); ⟨ds, [], b, r, fun _ => .nil⟩)
theorem e_BadOrders {P : Program} {w : World} {K : Frag} {mg : Str → Option Value} {base : Heap} (T : Txt K mg) : ErrOk P w K mg base "BadOrders" ["value"] [] 1 :=
  err_mk T.x_BadOrders sci_LoafError rfl (fun cdv A outer s H f E => by exact (pss_one (ps_ost (pv 0) (pv 1)))) (fun vs H Q E h => init1 h) (fun fI fd F => let ⟨ds, r, b⟩ := F.binds1 2 1 (by simp) rfl (fun T kV doc pm an cdv ct us its hu hi => match us, its, hu, hi with | [_, _], [_], _, _ => ⟨_, rfl, rfl⟩); ⟨ds, [], b, r, fun _ => .nil⟩)
theorem e_BadOvens {P : Program} {w : World} {K : Frag} {mg : Str → Option Value} {base : Heap} (T : Txt K mg) : ErrOk P w K mg base "BadOvens" ["value"] [] 1 :=
  err_mk T.x_BadOvens sci_LoafError rfl (fun cdv A outer s H f E => by exact (pss_one (ps_ost (pv 0) (pv 1)))) (fun vs H Q E h => init1 h) (fun fI fd F => let ⟨ds, r, b⟩ := F.binds1 2 1 (by simp) rfl (fun T kV doc pm an cdv ct us its hu hi => match us, its, hu, hi with | [_, _], [_], _, _ => ⟨_, rfl, rfl⟩); ⟨ds, [], b, r, fun _ => .nil⟩)
theorem e_BadRepair {P : Program} {w : World} {K : Frag} {mg : Str → Option Value} {base : Heap} (T : Txt K mg) : ErrOk P w K mg base "BadRepair" ["value"] [] 1 :=
  err_mk T.x_BadRepair sci_LoafError rfl (fun cdv A outer s H f E => by exact (pss_one (ps_ost (pv 0) (pv 1)))) (fun vs H Q E h => init1 h) (fun fI fd F => let ⟨ds, r, b⟩ := F.binds1 2 1 (by simp) rfl (fun T kV doc pm an cdv ct us its hu hi => match us, its, hu, hi with | [_, _], [_], _, _ => ⟨_, rfl, rfl⟩); ⟨ds, [], b, r, fun _ => .nil⟩)
abbrev s_is_tuple_of : Stmt := topS 7
noncomputable def b_is_tuple_of : MS :=
  (mRet (mAndV (mIsi "tuple" (pE (mVar 0))) (mOp eqD (pE (mCall lenD (aCons (pE (mVar 0)) aNil))) (pE (mVar 1)))))
noncomputable def F_is_tuple_of : MFn := runP 2 2 b_is_tuple_of
theorem sc_is_tuple_of : FnScope ["thing", "many"] ["thing", "many"] (defScope s_is_tuple_of) := ⟨rfl, rfl, rfl, by decide +kernel, rfl, by decide +kernel, by decide +kernel⟩
theorem ok_is_tuple_of {Θ : Tb} {P : Program} {w : World} {K : Frag} {mg : Str → Option Value} {base : Heap} {cs : List (Str × Addr × Addr)} (T : Txt K mg) (Z : Lams Θ K mg base lamNames cs) : FnI P w K mg base "is_tuple_of" ["thing", "many"] 1 (SpF Θ K F_is_tuple_of) := by
  refine fni_ok T.d_is_tuple_of sc_is_tuple_of rfl rfl fun f cdv A outer s H E hr => ?_
  have nd : (CxF P w K mg base ["thing", "many"] "is_tuple_of" s_is_tuple_of f cdv A outer s H E).N.Nodup := sc_is_tuple_of.nd
  exact (sb_one (ss_ret (se_and (se_isi (T := "tuple") T.n_isinstance T.n_tuple (by decide +kernel) (SE.p (se_var 0))) (se_bool1 (se_cmp (op_eqD hr.units) opok_eq (SE.p (se_callB call_lenA callok_len T.n_len PySem.boot_len (sa_cons (SE.p (se_var 0)) sa_nil))) (SE.p (se_var 1)))))))
abbrev s_is_integer : Stmt := topS 4
noncomputable def b_is_integer : MS :=
  (mRet (mAndV (mIsi "int" (pE (mVar 0))) (mNotV (mIsi "bool" (pE (mVar 0))))))
noncomputable def F_is_integer : MFn := runP 1 1 b_is_integer
theorem sc_is_integer : FnScope ["thing"] ["thing"] (defScope s_is_integer) := ⟨rfl, rfl, rfl, by decide +kernel, rfl, by decide +kernel, by decide +kernel⟩
theorem ok_is_integer {Θ : Tb} {P : Program} {w : World} {K : Frag} {mg : Str → Option Value} {base : Heap} {cs : List (Str × Addr × Addr)} (T : Txt K mg) (Z : Lams Θ K mg base lamNames cs) : FnI P w K mg base "is_integer" ["thing"] 1 (SpF Θ K F_is_integer) := by
  refine fni_ok T.d_is_integer sc_is_integer rfl rfl fun f cdv A outer s H E hr => ?_
  have nd : (CxF P w K mg base ["thing"] "is_integer" s_is_integer f cdv A outer s H E).N.Nodup := sc_is_integer.nd
  exact (sb_one (ss_ret (se_and (se_isi (T := "int") T.n_isinstance T.n_int (by decide +kernel) (SE.p (se_var 0))) (se_bool1 (se_not (se_isi (T := "bool") T.n_isinstance T.n_bool (by decide +kernel) (SE.p (se_var 0))))))))
abbrev s_is_within : Stmt := topS 5
noncomputable def b_is_within : MS :=
  (mRet (mAndV (mFn F_is_integer (aCons (pE (mVar 0)) aNil)) (mChain leD leD (pE (mVar 1)) (pE (mVar 0)) (pE (mVar 2)))))
noncomputable def F_is_within : MFn := runP 3 3 b_is_within
theorem sc_is_within : FnScope ["thing", "least", "most"] ["thing", "least", "most"] (defScope s_is_within) := ⟨rfl, rfl, rfl, by decide +kernel, rfl, by decide +kernel, by decide +kernel⟩
theorem ok_is_within {Θ : Tb} {P : Program} {w : World} {K : Frag} {mg : Str → Option Value} {base : Heap} {cs : List (Str × Addr × Addr)} (T : Txt K mg) (Z : Lams Θ K mg base lamNames cs) : FnI P w K mg base "is_within" ["thing", "least", "most"] 2 (SpF Θ K F_is_within) := by
  have H_is_integer := ok_is_integer (P := P) (w := w) (base := base) T Z
  refine fni_ok T.d_is_within sc_is_within rfl rfl fun f cdv A outer s H E hr => ?_
  have nd : (CxF P w K mg base ["thing", "least", "most"] "is_within" s_is_within f cdv A outer s H E).N.Nodup := sc_is_within.nd
  exact (sb_one (ss_ret (se_and (se_fn' H_is_integer (by exact (sa_cons (SE.p (se_var 0)) sa_nil))) (se_bool1 (se_chain op_le opok_le op_le opok_le (SE.p (se_var 1)) (SE.p (se_var 0)) (SE.p (se_var 2)))))))
abbrev s_check_budgets : Stmt := topS 34
noncomputable def b_check_budgets : MS :=
  (mIfS (mOr (mNot (mTru (pE (mFn F_is_tuple_of (aCons (pE (mVar 0)) (aCons (pE (mC (.int 3))) aNil)))))) (mNot (mTru (pE (mCall allD (aCons (pE (fE (mLcF (mIter (mVar 0)) [1] (gNm 1) mYes (mFn F_is_within (aCons (pE (mVar 1)) (aCons (pE (mC (.int 0))) (aCons (pE (mC (.int 3))) aNil))))))) aNil)))))) (mRaise "BadBudgets" ["value"] [] (aCons (pE (mVar 0)) aNil)) mNext)
noncomputable def F_check_budgets : MFX := runX 1 2 b_check_budgets
theorem sc_check_budgets : FnScope ["budgets", "one"] ["budgets"] (defScope s_check_budgets) := ⟨rfl, rfl, rfl, by decide +kernel, rfl, by decide +kernel, by decide +kernel⟩
theorem ok_check_budgets {Θ : Tb} {P : Program} {w : World} {K : Frag} {mg : Str → Option Value} {base : Heap} {cs : List (Str × Addr × Addr)} (T : Txt K mg) (Z : Lams Θ K mg base lamNames cs) : FnJ P w K mg base "check_budgets" ["budgets"] 3 (SpX Θ K F_check_budgets) := by
  have H_is_tuple_of := ok_is_tuple_of (P := P) (w := w) (base := base) T Z
  have H_is_within := ok_is_within (P := P) (w := w) (base := base) T Z
  refine fnj_ok T.d_check_budgets sc_check_budgets rfl rfl fun f cdv A outer s H E hr => ?_
  have nd : (CxX P w K mg base ["budgets", "one"] "check_budgets" s_check_budgets f cdv A outer s H E).N.Nodup := sc_check_budgets.nd
  exact (sb_one (ss_if (SW.t (sw_or (st_not (st_tru (SE.p (se_fn' H_is_tuple_of (by exact (sa_cons (SE.p (se_var 0)) (sa_cons (SE.p se_int) sa_nil))))))) (sw_or1 (st_not (st_tru (SE.p (se_callB (cr_all rfl) callok_all T.n_all (by decide +kernel) (sa_cons (SE.p (SF.se (sf_lc (own := [("one", 1)]) (g := gName 1) nd (si_seq (se_var 0)) (blkOk_by (own := [("one", 1)]) (N := ["budgets", "one"]) (sc := defScope s_check_budgets) (by decide +kernel)) (gin_name (j := 1) (by decide)) (fun _ _ _ _ _ => by exact (sg_name (i := 1) nd)) (fun _ _ _ _ _ => by exact sts_nil) (fun _ _ _ _ _ => by exact (se_fn' H_is_within (by exact (sa_cons (SE.p (se_var 1)) (sa_cons (SE.p se_int) (sa_cons (SE.p (se_gint' T.c_MOST_BUDGET)) sa_nil))))))))) sa_nil)))))))) (sb_one (ss_raise (e_BadBudgets T) (sa_cons (SE.p (se_var 0)) sa_nil))) sb_nil))
abbrev s_check_hands : Stmt := topS 32
noncomputable def b_check_hands : MS :=
  (mIfS (mNot (mTru (pE (mFn F_is_within (aCons (pE (mVar 0)) (aCons (pE (mC (.int 1))) (aCons (pE (mC (.int 3))) aNil))))))) (mRaise "BadHands" ["value"] [] (aCons (pE (mVar 0)) aNil)) mNext)
noncomputable def F_check_hands : MFX := runX 1 1 b_check_hands
theorem sc_check_hands : FnScope ["hands"] ["hands"] (defScope s_check_hands) := ⟨rfl, rfl, rfl, by decide +kernel, rfl, by decide +kernel, by decide +kernel⟩
theorem ok_check_hands {Θ : Tb} {P : Program} {w : World} {K : Frag} {mg : Str → Option Value} {base : Heap} {cs : List (Str × Addr × Addr)} (T : Txt K mg) (Z : Lams Θ K mg base lamNames cs) : FnJ P w K mg base "check_hands" ["hands"] 3 (SpX Θ K F_check_hands) := by
  have H_is_within := ok_is_within (P := P) (w := w) (base := base) T Z
  refine fnj_ok T.d_check_hands sc_check_hands rfl rfl fun f cdv A outer s H E hr => ?_
  have nd : (CxX P w K mg base ["hands"] "check_hands" s_check_hands f cdv A outer s H E).N.Nodup := sc_check_hands.nd
  exact (sb_one (ss_if (st_not (st_tru (SE.p (se_fn' H_is_within (by exact (sa_cons (SE.p (se_var 0)) (sa_cons (SE.p se_int) (sa_cons (SE.p (se_gint' T.c_MOST_HANDS)) sa_nil)))))))) (sb_one (ss_raise (e_BadHands T) (sa_cons (SE.p (se_var 0)) sa_nil))) sb_nil))
abbrev s_is_name : Stmt := topS 8
noncomputable def b_is_name : MS :=
  (mSeq (mIfS (mOr (mNot (mTru (pE (mIsi "str" (pE (mVar 0)))))) (mNot (mTest (mChain leD leD (pE (mC (.int 1))) (pE (mCall lenD (aCons (pE (mVar 0)) aNil))) (pE (mC (.int 8))))))) (mRet (mC (.bool false))) mNext)
    (mRet (mCall allD (aCons (pE (fE (mLcF (mIterS (mVar 0)) [1] (gNm 1) mYes (mOp inD (pE (mVar 1)) (pE (mC (.str "abcdefghijklmnopqrstuvwxyz"))))))) aNil))))
noncomputable def F_is_name : MFn := runP 1 2 b_is_name
theorem sc_is_name : FnScope ["thing", "sign"] ["thing"] (defScope s_is_name) := ⟨rfl, rfl, rfl, by decide +kernel, rfl, by decide +kernel, by decide +kernel⟩
theorem ok_is_name {Θ : Tb} {P : Program} {w : World} {K : Frag} {mg : Str → Option Value} {base : Heap} {cs : List (Str × Addr × Addr)} (T : Txt K mg) (Z : Lams Θ K mg base lamNames cs) : FnI P w K mg base "is_name" ["thing"] 1 (SpF Θ K F_is_name) := by
  refine fni_ok T.d_is_name sc_is_name rfl rfl fun f cdv A outer s H E hr => ?_
  have nd : (CxF P w K mg base ["thing", "sign"] "is_name" s_is_name f cdv A outer s H E).N.Nodup := sc_is_name.nd
  exact (sb_cons (ss_if (SW.t (sw_or (st_not (st_tru (SE.p (se_isi (T := "str") T.n_isinstance T.n_str (by decide +kernel) (SE.p (se_var 0)))))) (sw_or1 (st_not (st_chain op_le opok_le op_le opok_le (SE.p se_int) (SE.p (se_callB call_lenA callok_len T.n_len PySem.boot_len (sa_cons (SE.p (se_var 0)) sa_nil))) (SE.p (se_gint' T.c_MOST_NAME))))))) (sb_one (ss_ret se_bl)) sb_nil) (sb_one (ss_ret (se_callB (cr_all rfl) callok_all T.n_all (by decide +kernel) (sa_cons (SE.p (SF.se (sf_lc (own := [("sign", 1)]) (g := gName 1) nd (si_str (se_var 0)) (blkOk_by (own := [("sign", 1)]) (N := ["thing", "sign"]) (sc := defScope s_is_name) (by decide +kernel)) (gin_name (j := 1) (by decide)) (fun _ _ _ _ _ => by exact (sg_name (i := 1) nd)) (fun _ _ _ _ _ => by exact sts_nil) (fun _ _ _ _ _ => by exact (se_cmp (op_inA (Room.u65 hr)) opok_in (SE.p (se_var 1)) (SE.p (se_gstr' T.c_LETTERS))))))) sa_nil)))))
abbrev s_is_kind : Stmt := topS 20
noncomputable def b_is_kind : MS :=
  (mSeq (mIfS (mOr (mNot (mTru (pE (mFn F_is_tuple_of (aCons (pE (mVar 0)) (aCons (pE (mC (.int 6))) aNil)))))) (mOr (mNot (mTru (pE (mFn F_is_name (aCons (pE (mOp ixD (pE (mVar 0)) (pE (mC (.int 0))))) aNil))))) (mNot (mTru (pE (mFn F_is_within (aCons (pE (mOp ixD (pE (mVar 0)) (pE (mC (.int 1))))) (aCons (pE (mC (.int 1))) (aCons (pE (mC (.int 3))) aNil))))))))) (mRet (mC (.bool false))) mNext)
    (mSeq (mIfS (mOr (mNot (mTru (pE (mFn F_is_within (aCons (pE (mOp ixD (pE (mVar 0)) (pE (mC (.int 3))))) (aCons (pE (mC (.int 0))) (aCons (pE (mC (.int 8))) aNil))))))) (mNot (mTru (pE (mFn F_is_within (aCons (pE (mOp ixD (pE (mVar 0)) (pE (mC (.int 2))))) (aCons (pE (mC (.int 0))) (aCons (pE (mOp ixD (pE (mVar 0)) (pE (mC (.int 3))))) aNil)))))))) (mRet (mC (.bool false))) mNext)
    (mRet (mAndV (mFn F_is_within (aCons (pE (mOp ixD (pE (mVar 0)) (pE (mC (.int 4))))) (aCons (pE (mC (.int 1))) (aCons (pE (mC (.int 4))) aNil)))) (mFn F_is_within (aCons (pE (mOp ixD (pE (mVar 0)) (pE (mC (.int 5))))) (aCons (pE (mC (.int 0))) (aCons (pE (mC (.int 8))) aNil))))))))
noncomputable def F_is_kind : MFn := runP 1 1 b_is_kind
theorem sc_is_kind : FnScope ["thing"] ["thing"] (defScope s_is_kind) := ⟨rfl, rfl, rfl, by decide +kernel, rfl, by decide +kernel, by decide +kernel⟩
theorem ok_is_kind {Θ : Tb} {P : Program} {w : World} {K : Frag} {mg : Str → Option Value} {base : Heap} {cs : List (Str × Addr × Addr)} (T : Txt K mg) (Z : Lams Θ K mg base lamNames cs) : FnI P w K mg base "is_kind" ["thing"] 3 (SpF Θ K F_is_kind) := by
  have H_is_tuple_of := ok_is_tuple_of (P := P) (w := w) (base := base) T Z
  have H_is_within := ok_is_within (P := P) (w := w) (base := base) T Z
  have H_is_name := ok_is_name (P := P) (w := w) (base := base) T Z
  refine fni_ok T.d_is_kind sc_is_kind rfl rfl fun f cdv A outer s H E hr => ?_
  have nd : (CxF P w K mg base ["thing"] "is_kind" s_is_kind f cdv A outer s H E).N.Nodup := sc_is_kind.nd
  exact (sb_cons (ss_if (SW.t (sw_or (st_not (st_tru (SE.p (se_fn' H_is_tuple_of (by exact (sa_cons (SE.p (se_var 0)) (sa_cons (SE.p se_int) sa_nil))))))) (sw_or (st_not (st_tru (SE.p (se_fn' H_is_name (by exact (sa_cons (SE.p (se_ix (SE.p (se_var 0)) (SE.p se_int))) sa_nil)))))) (sw_or1 (st_not (st_tru (SE.p (se_fn' H_is_within (by exact (sa_cons (SE.p (se_ix (SE.p (se_var 0)) (SE.p se_int))) (sa_cons (SE.p se_int) (sa_cons (SE.p se_int) sa_nil)))))))))))) (sb_one (ss_ret se_bl)) sb_nil) (sb_cons (ss_if (SW.t (sw_or (st_not (st_tru (SE.p (se_fn' H_is_within (by exact (sa_cons (SE.p (se_ix (SE.p (se_var 0)) (SE.p se_int))) (sa_cons (SE.p se_int) (sa_cons (SE.p (se_gint' T.c_MOST_REST)) sa_nil)))))))) (sw_or1 (st_not (st_tru (SE.p (se_fn' H_is_within (by exact (sa_cons (SE.p (se_ix (SE.p (se_var 0)) (SE.p se_int))) (sa_cons (SE.p se_int) (sa_cons (SE.p (se_ix (SE.p (se_var 0)) (SE.p se_int))) sa_nil))))))))))) (sb_one (ss_ret se_bl)) sb_nil) (sb_one (ss_ret (se_and (se_fn' H_is_within (by exact (sa_cons (SE.p (se_ix (SE.p (se_var 0)) (SE.p se_int))) (sa_cons (SE.p se_int) (sa_cons (SE.p se_int) sa_nil))))) (se_bool1 (se_fn' H_is_within (by exact (sa_cons (SE.p (se_ix (SE.p (se_var 0)) (SE.p se_int))) (sa_cons (SE.p se_int) (sa_cons (SE.p (se_gint' T.c_MOST_FRESH)) sa_nil)))))))))))
abbrev s_is_row : Stmt := topS 6
noncomputable def b_is_row : MS :=
  (mRet (mIsiT ["list", "tuple"] (pE (mVar 0))))
noncomputable def F_is_row : MFn := runP 1 1 b_is_row
theorem sc_is_row : FnScope ["thing"] ["thing"] (defScope s_is_row) := ⟨rfl, rfl, rfl, by decide +kernel, rfl, by decide +kernel, by decide +kernel⟩
theorem ok_is_row {Θ : Tb} {P : Program} {w : World} {K : Frag} {mg : Str → Option Value} {base : Heap} {cs : List (Str × Addr × Addr)} (T : Txt K mg) (Z : Lams Θ K mg base lamNames cs) : FnI P w K mg base "is_row" ["thing"] 1 (SpF Θ K F_is_row) := by
  refine fni_ok T.d_is_row sc_is_row rfl rfl fun f cdv A outer s H E hr => ?_
  have nd : (CxF P w K mg base ["thing"] "is_row" s_is_row f cdv A outer s H E).N.Nodup := sc_is_row.nd
  exact (sb_one (ss_ret (se_isiT T.n_isinstance (tys_cons (T := "list") T.n_list (by decide +kernel) (tys_cons (T := "tuple") T.n_tuple (by decide +kernel) tys_nil)) (SE.p (se_var 0)))))
abbrev s_check_kinds : Stmt := topS 29
noncomputable def b_check_kinds : MS :=
  (mSeq (mIfS (mOr (mNot (mTru (pE (mFn F_is_row (aCons (pE (mVar 0)) aNil))))) (mNot (mTest (mChain leD leD (pE (mC (.int 1))) (pE (mCall lenD (aCons (pE (mVar 0)) aNil))) (pE (mC (.int 4))))))) (mRaise "BadKinds" ["value"] [] (aCons (pE (mUn negD (pE (mC (.int 1))))) aNil)) mNext)
    (mSeq (mOwn (mLstF aNil) 1)
    (mFor (mEnumA (mVar 0)) (gTp 2 (gsCons (gNm 2) (gsCons (gNm 3) gsNil)))
    (mSeq (mIfS (mOr (mNot (mTru (pE (mFn F_is_kind (aCons (pE (mVar 3)) aNil))))) (mTest (mOp inD (pE (mOp ixD (pE (mVar 3)) (pE (mC (.int 0))))) (pO 1)))) (mRaise "BadKinds" ["value"] [] (aCons (pE (mVar 2)) aNil)) mNext)
    (mDrop (mMt true appendO 1 (aCons (pE (mOp ixD (pE (mVar 3)) (pE (mC (.int 0))))) aNil)))))))
noncomputable def F_check_kinds : MFX := runX 1 4 b_check_kinds
theorem sc_check_kinds : FnScope ["kinds", "names", "index", "kind"] ["kinds"] (defScope s_check_kinds) := ⟨rfl, rfl, rfl, by decide +kernel, rfl, by decide +kernel, by decide +kernel⟩
theorem ok_check_kinds {Θ : Tb} {P : Program} {w : World} {K : Frag} {mg : Str → Option Value} {base : Heap} {cs : List (Str × Addr × Addr)} (T : Txt K mg) (Z : Lams Θ K mg base lamNames cs) : FnJ P w K mg base "check_kinds" ["kinds"] 4 (SpX Θ K F_check_kinds) := by
  have H_is_kind := ok_is_kind (P := P) (w := w) (base := base) T Z
  have H_is_row := ok_is_row (P := P) (w := w) (base := base) T Z
  refine fnj_ok T.d_check_kinds sc_check_kinds rfl rfl fun f cdv A outer s H E hr => ?_
  have nd : (CxX P w K mg base ["kinds", "names", "index", "kind"] "check_kinds" s_check_kinds f cdv A outer s H E).N.Nodup := sc_check_kinds.nd
  exact (sb_cons (ss_if (SW.t (sw_or (st_not (st_tru (SE.p (se_fn' H_is_row (by exact (sa_cons (SE.p (se_var 0)) sa_nil)))))) (sw_or1 (st_not (st_chain op_le opok_le op_le opok_le (SE.p se_int) (SE.p (se_callB call_lenA callok_len T.n_len PySem.boot_len (sa_cons (SE.p (se_var 0)) sa_nil))) (SE.p (se_gint' T.c_MOST_KINDS))))))) (sb_one (ss_raise (e_BadKinds T) (sa_cons (SE.p (se_neg (SE.p se_int))) sa_nil))) sb_nil) (sb_cons (ss_own (i := 1) nd (sf_lst sa_nil)) (sb_one (ss_for (si_enumA T.n_enumerate (se_var 0)) (sg_tup (sgs_cons (sg_name (i := 2) nd) (sgs_cons (sg_name (i := 3) nd) sgs_nil))) (sb_cons (ss_if (SW.t (sw_or (st_not (st_tru (SE.p (se_fn' H_is_kind (by exact (sa_cons (SE.p (se_var 3)) sa_nil)))))) (sw_or1 (st_cmp (op_inA (Room.u65 hr)) opok_in (SE.p (se_ix (SE.p (se_var 3)) (SE.p se_int))) (sp_own 1))))) (sb_one (ss_raise (e_BadKinds T) (sa_cons (SE.p (se_var 2)) sa_nil))) sb_nil) (sb_one (ss_expr (se_append (i := 1) (sa_cons (SE.p (se_ix (SE.p (se_var 3)) (SE.p se_int))) sa_nil)))))))))
abbrev s_is_order : Stmt := topS 30
noncomputable def b_is_order : MS :=
  (mSeq (mIfS (mOr (mNot (mTru (pE (mFn F_is_tuple_of (aCons (pE (mVar 0)) (aCons (pE (mC (.int 2))) aNil)))))) (mOr (mNot (mTru (pE (mIsi "str" (pE (mOp ixD (pE (mVar 0)) (pE (mC (.int 0))))))))) (mTest (mSIn true (mOp ixD (pE (mVar 0)) (pE (mC (.int 0)))) (mVar 1))))) (mRet (mC (.bool false))) mNext)
    (mRet (mFn F_is_within (aCons (pE (mOp ixD (pE (mVar 0)) (pE (mC (.int 1))))) (aCons (pE (mC (.int 0))) (aCons (pE (mC (.int 20))) aNil))))))
noncomputable def F_is_order : MFn := runP 2 2 b_is_order
theorem sc_is_order : FnScope ["thing", "names"] ["thing", "names"] (defScope s_is_order) := ⟨rfl, rfl, rfl, by decide +kernel, rfl, by decide +kernel, by decide +kernel⟩
theorem ok_is_order {Θ : Tb} {P : Program} {w : World} {K : Frag} {mg : Str → Option Value} {base : Heap} {cs : List (Str × Addr × Addr)} (T : Txt K mg) (Z : Lams Θ K mg base lamNames cs) : FnI P w K mg base "is_order" ["thing", "names"] 3 (SpF Θ K F_is_order) := by
  have H_is_tuple_of := ok_is_tuple_of (P := P) (w := w) (base := base) T Z
  have H_is_within := ok_is_within (P := P) (w := w) (base := base) T Z
  refine fni_ok T.d_is_order sc_is_order rfl rfl fun f cdv A outer s H E hr => ?_
  have nd : (CxF P w K mg base ["thing", "names"] "is_order" s_is_order f cdv A outer s H E).N.Nodup := sc_is_order.nd
  exact (sb_cons (ss_if (SW.t (sw_or (st_not (st_tru (SE.p (se_fn' H_is_tuple_of (by exact (sa_cons (SE.p (se_var 0)) (sa_cons (SE.p se_int) sa_nil))))))) (sw_or (st_not (st_tru (SE.p (se_isi (T := "str") T.n_isinstance T.n_str (by decide +kernel) (SE.p (se_ix (SE.p (se_var 0)) (SE.p se_int))))))) (sw_or1 (st_snotin (Room.u1 hr) (se_ix (SE.p (se_var 0)) (SE.p se_int)) (se_var 1)))))) (sb_one (ss_ret se_bl)) sb_nil) (sb_one (ss_ret (se_fn' H_is_within (by exact (sa_cons (SE.p (se_ix (SE.p (se_var 0)) (SE.p se_int))) (sa_cons (SE.p se_int) (sa_cons (SE.p (se_gint' T.c_MOST_HOUR)) sa_nil))))))))
abbrev s_check_orders : Stmt := topS 31
noncomputable def b_check_orders : MS :=
  (mSeq (mIfS (mOr (mNot (mTru (pE (mFn F_is_row (aCons (pE (mVar 0)) aNil))))) (mNot (mTest (mChain leD leD (pE (mC (.int 1))) (pE (mCall lenD (aCons (pE (mVar 0)) aNil))) (pE (mC (.int 5))))))) (mRaise "BadOrders" ["value"] [] (aCons (pE (mUn negD (pE (mC (.int 1))))) aNil)) mNext)
    (mFor (mEnumA (mVar 0)) (gTp 2 (gsCons (gNm 2) (gsCons (gNm 3) gsNil)))
    (mIfS (mNot (mTru (pE (mFn F_is_order (aCons (pE (mVar 3)) (aCons (pE (mVar 1)) aNil)))))) (mRaise "BadOrders" ["value"] [] (aCons (pE (mVar 2)) aNil)) mNext)))
noncomputable def F_check_orders : MFX := runX 2 4 b_check_orders
theorem sc_check_orders : FnScope ["orders", "names", "index", "order"] ["orders", "names"] (defScope s_check_orders) := ⟨rfl, rfl, rfl, by decide +kernel, rfl, by decide +kernel, by decide +kernel⟩
theorem ok_check_orders {Θ : Tb} {P : Program} {w : World} {K : Frag} {mg : Str → Option Value} {base : Heap} {cs : List (Str × Addr × Addr)} (T : Txt K mg) (Z : Lams Θ K mg base lamNames cs) : FnJ P w K mg base "check_orders" ["orders", "names"] 4 (SpX Θ K F_check_orders) := by
  have H_is_row := ok_is_row (P := P) (w := w) (base := base) T Z
  have H_is_order := ok_is_order (P := P) (w := w) (base := base) T Z
  refine fnj_ok T.d_check_orders sc_check_orders rfl rfl fun f cdv A outer s H E hr => ?_
  have nd : (CxX P w K mg base ["orders", "names", "index", "order"] "check_orders" s_check_orders f cdv A outer s H E).N.Nodup := sc_check_orders.nd
  exact (sb_cons (ss_if (SW.t (sw_or (st_not (st_tru (SE.p (se_fn' H_is_row (by exact (sa_cons (SE.p (se_var 0)) sa_nil)))))) (sw_or1 (st_not (st_chain op_le opok_le op_le opok_le (SE.p se_int) (SE.p (se_callB call_lenA callok_len T.n_len PySem.boot_len (sa_cons (SE.p (se_var 0)) sa_nil))) (SE.p (se_gint' T.c_MOST_ORDERS))))))) (sb_one (ss_raise (e_BadOrders T) (sa_cons (SE.p (se_neg (SE.p se_int))) sa_nil))) sb_nil) (sb_one (ss_for (si_enumA T.n_enumerate (se_var 0)) (sg_tup (sgs_cons (sg_name (i := 2) nd) (sgs_cons (sg_name (i := 3) nd) sgs_nil))) (sb_one (ss_if (st_not (st_tru (SE.p (se_fn' H_is_order (by exact (sa_cons (SE.p (se_var 3)) (sa_cons (SE.p (se_var 1)) sa_nil))))))) (sb_one (ss_raise (e_BadOrders T) (sa_cons (SE.p (se_var 2)) sa_nil))) sb_nil)))))
abbrev s_check_ovens : Stmt := topS 33
noncomputable def b_check_ovens : MS :=
  (mIfS (mNot (mTru (pE (mFn F_is_within (aCons (pE (mVar 0)) (aCons (pE (mC (.int 1))) (aCons (pE (mC (.int 3))) aNil))))))) (mRaise "BadOvens" ["value"] [] (aCons (pE (mVar 0)) aNil)) mNext)
noncomputable def F_check_ovens : MFX := runX 1 1 b_check_ovens
theorem sc_check_ovens : FnScope ["ovens"] ["ovens"] (defScope s_check_ovens) := ⟨rfl, rfl, rfl, by decide +kernel, rfl, by decide +kernel, by decide +kernel⟩
theorem ok_check_ovens {Θ : Tb} {P : Program} {w : World} {K : Frag} {mg : Str → Option Value} {base : Heap} {cs : List (Str × Addr × Addr)} (T : Txt K mg) (Z : Lams Θ K mg base lamNames cs) : FnJ P w K mg base "check_ovens" ["ovens"] 3 (SpX Θ K F_check_ovens) := by
  have H_is_within := ok_is_within (P := P) (w := w) (base := base) T Z
  refine fnj_ok T.d_check_ovens sc_check_ovens rfl rfl fun f cdv A outer s H E hr => ?_
  have nd : (CxX P w K mg base ["ovens"] "check_ovens" s_check_ovens f cdv A outer s H E).N.Nodup := sc_check_ovens.nd
  exact (sb_one (ss_if (st_not (st_tru (SE.p (se_fn' H_is_within (by exact (sa_cons (SE.p (se_var 0)) (sa_cons (SE.p se_int) (sa_cons (SE.p (se_gint' T.c_MOST_OVENS)) sa_nil)))))))) (sb_one (ss_raise (e_BadOvens T) (sa_cons (SE.p (se_var 0)) sa_nil))) sb_nil))
abbrev s_check_repair : Stmt := topS 35
noncomputable def b_check_repair : MS :=
  (mIfS (mNot (mTru (pE (mFn F_is_within (aCons (pE (mVar 0)) (aCons (pE (mC (.int 1))) (aCons (pE (mC (.int 4))) aNil))))))) (mRaise "BadRepair" ["value"] [] (aCons (pE (mVar 0)) aNil)) mNext)
noncomputable def F_check_repair : MFX := runX 1 1 b_check_repair
theorem sc_check_repair : FnScope ["repair"] ["repair"] (defScope s_check_repair) := ⟨rfl, rfl, rfl, by decide +kernel, rfl, by decide +kernel, by decide +kernel⟩
theorem ok_check_repair {Θ : Tb} {P : Program} {w : World} {K : Frag} {mg : Str → Option Value} {base : Heap} {cs : List (Str × Addr × Addr)} (T : Txt K mg) (Z : Lams Θ K mg base lamNames cs) : FnJ P w K mg base "check_repair" ["repair"] 3 (SpX Θ K F_check_repair) := by
  have H_is_within := ok_is_within (P := P) (w := w) (base := base) T Z
  refine fnj_ok T.d_check_repair sc_check_repair rfl rfl fun f cdv A outer s H E hr => ?_
  have nd : (CxX P w K mg base ["repair"] "check_repair" s_check_repair f cdv A outer s H E).N.Nodup := sc_check_repair.nd
  exact (sb_one (ss_if (st_not (st_tru (SE.p (se_fn' H_is_within (by exact (sa_cons (SE.p (se_var 0)) (sa_cons (SE.p se_int) (sa_cons (SE.p (se_gint' T.c_MOST_REPAIR)) sa_nil)))))))) (sb_one (ss_raise (e_BadRepair T) (sa_cons (SE.p (se_var 0)) sa_nil))) sb_nil))
noncomputable def b_Night_init : MS :=
  (mSeq (mBindX F_check_hands (aCons (pE (mVar 1)) aNil) kDrop)
    (mSeq (mBindX F_check_ovens (aCons (pE (mVar 2)) aNil) kDrop)
    (mSeq (mBindX F_check_kinds (aCons (pE (mVar 3)) aNil) kDrop)
    (mSeq (mAsg (fE (mDcF (mIter (mVar 3)) [8] (gNm 8) mYes (mOp ixD (pE (mVar 8)) (pE (mC (.int 0)))) (mVar 8))) (gNm 7))
    (mSeq (mBindX F_check_orders (aCons (pE (mVar 4)) (aCons (pE (mVar 7)) aNil)) kDrop)
    (mSeq (mBindX F_check_budgets (aCons (pE (mVar 5)) aNil) kDrop)
    (mSeq (mBindX F_check_repair (aCons (pE (mVar 6)) aNil) kDrop)
    (mSeq (mSetF "Night" 0 "hands" (mVar 1))
    (mSeq (mSetF "Night" 0 "ovens" (mVar 2))
    (mSeq (mSetF "Night" 0 "kinds" (mCall tupleD (aCons (pE (mVar 3)) aNil)))
    (mSeq (mSetF "Night" 0 "orders" (mCall tupleD (aCons (pE (mVar 4)) aNil)))
    (mSeq (mSetF "Night" 0 "budgets" (mVar 5))
    (mSeq (mSetF "Night" 0 "repair" (mVar 6))
    (mSetF "Night" 0 "own" (mCall tupleD (aCons (pE (fE (mLcF (mIter (mVar 4)) [9, 10] (gTp 2 (gsCons (gNm 9) (gsCons (gNm 10) gsNil))) mYes (mSGet (mVar 7) (mVar 9))))) aNil))))))))))))))))
noncomputable def F_Night_init : MFX := runX 7 11 b_Night_init
theorem sc_Night_init : FnScope ["self", "hands", "ovens", "kinds", "orders", "budgets", "repair", "known", "kind", "name", "_"] ["self", "hands", "ovens", "kinds", "orders", "budgets", "repair"] (defScope s_Night_init) := ⟨rfl, rfl, rfl, by decide +kernel, rfl, by decide +kernel, by decide +kernel⟩
theorem ok_Night_init {Θ : Tb} {P : Program} {w : World} {K : Frag} {mg : Str → Option Value} {base : Heap} {cs : List (Str × Addr × Addr)} (T : Txt K mg) (Z : Lams Θ K mg base lamNames cs) : InitJ Θ P w K mg base "Night" F_Night_init [] 5 := by
  have H_check_budgets := ok_check_budgets (P := P) (w := w) (base := base) T Z
  have H_check_hands := ok_check_hands (P := P) (w := w) (base := base) T Z
  have H_check_kinds := ok_check_kinds (P := P) (w := w) (base := base) T Z
  have H_check_orders := ok_check_orders (P := P) (w := w) (base := base) T Z
  have H_check_ovens := ok_check_ovens (P := P) (w := w) (base := base) T Z
  have H_check_repair := ok_check_repair (P := P) (w := w) (base := base) T Z
  refine initj_ok T.y_Night sc_Night_init rfl rfl (fun f cdv A outer s H E hr => ?_) (init_fullD (nd := 2) rfl (by decide) (fun _ _ _ _ _ _ _ us its hu hi => match us, its, hu, hi with | [_, _, _, _, _, _, _], [_, _], _, _ => ⟨_, rfl, rfl⟩))
  have nd : (CxX P w K mg base ["self", "hands", "ovens", "kinds", "orders", "budgets", "repair", "known", "kind", "name", "_"] "Night.__init__" s_Night_init f cdv A outer s H E).N.Nodup := sc_Night_init.nd
  exact (sb_cons (ss_exprX H_check_hands (by exact (sa_cons (SE.p (se_var 1)) sa_nil))) (sb_cons (ss_exprX H_check_ovens (by exact (sa_cons (SE.p (se_var 2)) sa_nil))) (sb_cons (ss_exprX H_check_kinds (by exact (sa_cons (SE.p (se_var 3)) sa_nil))) (sb_cons (ss_set (i := 7) nd (SF.se (sf_dc (own := [("kind", 8)]) (g := gName 8) nd (si_seq (se_var 3)) (blkOk_by (own := [("kind", 8)]) (N := ["self", "hands", "ovens", "kinds", "orders", "budgets", "repair", "known", "kind", "name", "_"]) (sc := defScope s_Night_init) (by decide +kernel)) (gin_name (j := 8) (by decide)) (fun _ _ _ _ _ => by exact (sg_name (i := 8) nd)) (fun _ _ _ _ _ => by exact sts_nil) (fun _ _ _ _ _ => by exact (se_ix (SE.p (se_var 8)) (SE.p se_int))) (fun _ _ _ _ _ => by exact (se_var 8))))) (sb_cons (ss_exprX H_check_orders (by exact (sa_cons (SE.p (se_var 4)) (sa_cons (SE.p (se_var 7)) sa_nil)))) (sb_cons (ss_exprX H_check_budgets (by exact (sa_cons (SE.p (se_var 5)) sa_nil))) (sb_cons (ss_exprX H_check_repair (by exact (sa_cons (SE.p (se_var 6)) sa_nil))) (sb_cons (ss_fld (nm := "Night") (fl := fl_Night) (i := 0) T.b_Night (se_var 1)) (sb_cons (ss_fld (nm := "Night") (fl := fl_Night) (i := 0) T.b_Night (se_var 2)) (sb_cons (ss_fld (nm := "Night") (fl := fl_Night) (i := 0) T.b_Night (se_callT call_tuple_of callok_tuple T.n_tuple (by decide +kernel) (sa_cons (SE.p (se_var 3)) sa_nil))) (sb_cons (ss_fld (nm := "Night") (fl := fl_Night) (i := 0) T.b_Night (se_callT call_tuple_of callok_tuple T.n_tuple (by decide +kernel) (sa_cons (SE.p (se_var 4)) sa_nil))) (sb_cons (ss_fld (nm := "Night") (fl := fl_Night) (i := 0) T.b_Night (se_var 5)) (sb_cons (ss_fld (nm := "Night") (fl := fl_Night) (i := 0) T.b_Night (se_var 6)) (sb_one (ss_fld (nm := "Night") (fl := fl_Night) (i := 0) T.b_Night (se_callT call_tuple_of callok_tuple T.n_tuple (by decide +kernel) (sa_cons (SE.p (SF.se (sf_lc (own := [("name", 9), ("_", 10)]) (g := gTup K 2 (gCons (gName 9) (gCons (gName 10) (gNil)))) nd (si_seq (se_var 4)) (blkOk_by (own := [("name", 9), ("_", 10)]) (N := ["self", "hands", "ovens", "kinds", "orders", "budgets", "repair", "known", "kind", "name", "_"]) (sc := defScope s_Night_init) (by decide +kernel)) (gin_tup (gsin_cons (gin_name (j := 9) (by decide)) (gsin_cons (gin_name (j := 10) (by decide)) gsin_nil))) (fun _ _ _ _ _ => by exact (sg_tup (sgs_cons (sg_name (i := 9) nd) (sgs_cons (sg_name (i := 10) nd) sgs_nil)))) (fun _ _ _ _ _ => by exact sts_nil) (fun _ _ _ _ _ => by exact (se_sget (Room.u1 hr) (se_var 7) (se_var 9)))))) sa_nil)))))))))))))))))
theorem ok_Night_initD {Θ : Tb} {P : Program} {w : World} {K : Frag} {mg : Str → Option Value} {base : Heap} {cs : List (Str × Addr × Addr)} (T : Txt K mg) (Z : Lams Θ K mg base lamNames cs) : InitJ Θ P w K mg base "Night" F_Night_init df_Night 5 := by
  have H_check_budgets := ok_check_budgets (P := P) (w := w) (base := base) T Z
  have H_check_hands := ok_check_hands (P := P) (w := w) (base := base) T Z
  have H_check_kinds := ok_check_kinds (P := P) (w := w) (base := base) T Z
  have H_check_orders := ok_check_orders (P := P) (w := w) (base := base) T Z
  have H_check_ovens := ok_check_ovens (P := P) (w := w) (base := base) T Z
  have H_check_repair := ok_check_repair (P := P) (w := w) (base := base) T Z
  refine initj_okD (nu := 5) T.yd_Night sc_Night_init rfl rfl (by simp [df_Night]) rfl (fun f cdv A outer s H E hr => ?_) (fun _ _ _ _ _ _ _ us its hu hi => match us, its, hu, hi with | [_, _, _, _, _], [_, _], _, _ => ⟨_, rfl, rfl⟩)
  have nd : (CxX P w K mg base ["self", "hands", "ovens", "kinds", "orders", "budgets", "repair", "known", "kind", "name", "_"] "Night.__init__" s_Night_init f cdv A outer s H E).N.Nodup := sc_Night_init.nd
  exact (sb_cons (ss_exprX H_check_hands (by exact (sa_cons (SE.p (se_var 1)) sa_nil))) (sb_cons (ss_exprX H_check_ovens (by exact (sa_cons (SE.p (se_var 2)) sa_nil))) (sb_cons (ss_exprX H_check_kinds (by exact (sa_cons (SE.p (se_var 3)) sa_nil))) (sb_cons (ss_set (i := 7) nd (SF.se (sf_dc (own := [("kind", 8)]) (g := gName 8) nd (si_seq (se_var 3)) (blkOk_by (own := [("kind", 8)]) (N := ["self", "hands", "ovens", "kinds", "orders", "budgets", "repair", "known", "kind", "name", "_"]) (sc := defScope s_Night_init) (by decide +kernel)) (gin_name (j := 8) (by decide)) (fun _ _ _ _ _ => by exact (sg_name (i := 8) nd)) (fun _ _ _ _ _ => by exact sts_nil) (fun _ _ _ _ _ => by exact (se_ix (SE.p (se_var 8)) (SE.p se_int))) (fun _ _ _ _ _ => by exact (se_var 8))))) (sb_cons (ss_exprX H_check_orders (by exact (sa_cons (SE.p (se_var 4)) (sa_cons (SE.p (se_var 7)) sa_nil)))) (sb_cons (ss_exprX H_check_budgets (by exact (sa_cons (SE.p (se_var 5)) sa_nil))) (sb_cons (ss_exprX H_check_repair (by exact (sa_cons (SE.p (se_var 6)) sa_nil))) (sb_cons (ss_fld (nm := "Night") (fl := fl_Night) (i := 0) T.b_Night (se_var 1)) (sb_cons (ss_fld (nm := "Night") (fl := fl_Night) (i := 0) T.b_Night (se_var 2)) (sb_cons (ss_fld (nm := "Night") (fl := fl_Night) (i := 0) T.b_Night (se_callT call_tuple_of callok_tuple T.n_tuple (by decide +kernel) (sa_cons (SE.p (se_var 3)) sa_nil))) (sb_cons (ss_fld (nm := "Night") (fl := fl_Night) (i := 0) T.b_Night (se_callT call_tuple_of callok_tuple T.n_tuple (by decide +kernel) (sa_cons (SE.p (se_var 4)) sa_nil))) (sb_cons (ss_fld (nm := "Night") (fl := fl_Night) (i := 0) T.b_Night (se_var 5)) (sb_cons (ss_fld (nm := "Night") (fl := fl_Night) (i := 0) T.b_Night (se_var 6)) (sb_one (ss_fld (nm := "Night") (fl := fl_Night) (i := 0) T.b_Night (se_callT call_tuple_of callok_tuple T.n_tuple (by decide +kernel) (sa_cons (SE.p (SF.se (sf_lc (own := [("name", 9), ("_", 10)]) (g := gTup K 2 (gCons (gName 9) (gCons (gName 10) (gNil)))) nd (si_seq (se_var 4)) (blkOk_by (own := [("name", 9), ("_", 10)]) (N := ["self", "hands", "ovens", "kinds", "orders", "budgets", "repair", "known", "kind", "name", "_"]) (sc := defScope s_Night_init) (by decide +kernel)) (gin_tup (gsin_cons (gin_name (j := 9) (by decide)) (gsin_cons (gin_name (j := 10) (by decide)) gsin_nil))) (fun _ _ _ _ _ => by exact (sg_tup (sgs_cons (sg_name (i := 9) nd) (sgs_cons (sg_name (i := 10) nd) sgs_nil)))) (fun _ _ _ _ _ => by exact sts_nil) (fun _ _ _ _ _ => by exact (se_sget (Room.u1 hr) (se_var 7) (se_var 9)))))) sa_nil)))))))))))))))))
abbrev s_law_refused : Stmt := topS 43
noncomputable def b_law_refused (ask : MS) : MS :=
  (mSeq (mTry ask [⟨some 1, isC errs "BadBudgets", (mRet (mTup (aCons (pE (mC (.str "budgets"))) (aCons (pE (mXf errs 1 "value")) aNil))))⟩, ⟨some 1, isC errs "BadHands", (mRet (mTup (aCons (pE (mC (.str "hands"))) (aCons (pE (mXf errs 1 "value")) aNil))))⟩, ⟨some 1, isC errs "BadKinds", (mRet (mTup (aCons (pE (mC (.str "kinds"))) (aCons (pE (mXf errs 1 "value")) aNil))))⟩, ⟨some 1, isC errs "BadOrders", (mRet (mTup (aCons (pE (mC (.str "orders"))) (aCons (pE (mXf errs 1 "value")) aNil))))⟩, ⟨some 1, isC errs "BadOvens", (mRet (mTup (aCons (pE (mC (.str "ovens"))) (aCons (pE (mXf errs 1 "value")) aNil))))⟩, ⟨some 1, isC errs "BadRepair", (mRet (mTup (aCons (pE (mC (.str "repair"))) (aCons (pE (mXf errs 1 "value")) aNil))))⟩]) (mRet (mTup (aCons (pE (mC (.str ""))) (aCons (pE (mC .none)) aNil)))))
noncomputable def F_law_refused (o : XO D) : Option D := askRun 2 (b_law_refused (mAsk o))
theorem sc_law_refused : FnScope ["ask", "e"] ["ask"] (defScope s_law_refused) := ⟨rfl, rfl, rfl, by decide +kernel, rfl, by decide +kernel, by decide +kernel⟩
theorem gives_law_refused {Θ : Tb} {X : Cx} {q : Str} (T : Txt X.K X.mg) (g : Addr) (cdg : Value) : LamX.GivesTo X ["ask", "e"] "_law_refused" (defScope s_law_refused) g cdg (defBody s_law_refused) "ask" q (TTd Θ X.K F_law_refused) := by
  have nd := sc_law_refused.nd
  refine gives_ask (N := ["ask", "e"]) nd (fun s H => by exact (.cons (i := some 1) ⟨rfl, by decide, .inl (cg_BadBudgets T).2⟩ ⟨rfl, rfl⟩ (isC_ok T.xB (cg_BadBudgets T).1) (fun a ob C d pn hz hf => by exact (sb_one (ss_ret (se_tup (sa_cons (SE.p se_str) (sa_cons (SE.p (se_xf (i := 1) T.fB hz hf)) sa_nil)))))) (.cons (i := some 1) ⟨rfl, by decide, .inl (cg_BadHands T).2⟩ ⟨rfl, rfl⟩ (isC_ok T.xB (cg_BadHands T).1) (fun a ob C d pn hz hf => by exact (sb_one (ss_ret (se_tup (sa_cons (SE.p se_str) (sa_cons (SE.p (se_xf (i := 1) T.fB hz hf)) sa_nil)))))) (.cons (i := some 1) ⟨rfl, by decide, .inl (cg_BadKinds T).2⟩ ⟨rfl, rfl⟩ (isC_ok T.xB (cg_BadKinds T).1) (fun a ob C d pn hz hf => by exact (sb_one (ss_ret (se_tup (sa_cons (SE.p se_str) (sa_cons (SE.p (se_xf (i := 1) T.fB hz hf)) sa_nil)))))) (.cons (i := some 1) ⟨rfl, by decide, .inl (cg_BadOrders T).2⟩ ⟨rfl, rfl⟩ (isC_ok T.xB (cg_BadOrders T).1) (fun a ob C d pn hz hf => by exact (sb_one (ss_ret (se_tup (sa_cons (SE.p se_str) (sa_cons (SE.p (se_xf (i := 1) T.fB hz hf)) sa_nil)))))) (.cons (i := some 1) ⟨rfl, by decide, .inl (cg_BadOvens T).2⟩ ⟨rfl, rfl⟩ (isC_ok T.xB (cg_BadOvens T).1) (fun a ob C d pn hz hf => by exact (sb_one (ss_ret (se_tup (sa_cons (SE.p se_str) (sa_cons (SE.p (se_xf (i := 1) T.fB hz hf)) sa_nil)))))) (.cons (i := some 1) ⟨rfl, by decide, .inl (cg_BadRepair T).2⟩ ⟨rfl, rfl⟩ (isC_ok T.xB (cg_BadRepair T).1) (fun a ob C d pn hz hf => by exact (sb_one (ss_ret (se_tup (sa_cons (SE.p se_str) (sa_cons (SE.p (se_xf (i := 1) T.fB hz hf)) sa_nil)))))) ClsD.nil))))))) (fun s H => by exact (sb_one (ss_ret (se_tup (sa_cons (SE.p se_str) (sa_cons (SE.p se_non) sa_nil)))))) ?_ (by decide)
  refine hall_isC (errs := errs) (fun p hp c => ?_)
  simp only [List.mem_cons, List.not_mem_nil, or_false] at hp
  rcases hp with rfl | rfl | rfl | rfl | rfl | rfl <;> first | exact isC_some | exact isB_some
abbrev s_law_taken : Stmt := topS 38
noncomputable def b_law_taken : MS :=
  (mSeq (mIfS (mTest (mOp gtD (pE (mOp ixD (pO 0) (pE (mC (.int 3))))) (pE (mC (.int 0))))) (mSeq (mAsg (mOp modD (pE (mCall intD (aCons (pE (mOp ixD (pO 0) (pE (mC (.int 3))))) aNil))) (pE (mVar 1))) (gNm 3))
    (mSeq (mSetL 0 (pE (mC (.int 3))) (mOp fdivD (pE (mOp ixD (pO 0) (pE (mC (.int 3))))) (pE (mVar 1))))
    (mRet (mVar 3)))) mNext)
    (mSeq (mSetL 0 (pE (mC (.int 1))) (mOp addD (pE (mOp ixD (pO 0) (pE (mC (.int 1))))) (pE (mC (.int 1)))))
    (mSeq (mIfS (mTest (mOp gtD (pE (mOp ixD (pO 0) (pE (mC (.int 1))))) (pE (mCall lenD (aCons (pE (mOp ixD (pO 0) (pE (mC (.int 0))))) aNil))))) (mSeq (mSetL 0 (pE (mC (.int 2))) (mOp modD (pE (mCall intD (aCons (pE (mOp addD (pE (mOp mulD (pE (mOp ixD (pO 0) (pE (mC (.int 2))))) (pE (mC (.int 48271))))) (pE (mC (.int 11))))) aNil))) (pE (mC (.int 2147483647)))))
    (mRet (mOp modD (pE (mCall intD (aCons (pE (mOp fdivD (pE (mOp ixD (pO 0) (pE (mC (.int 2))))) (pE (mC (.int 7))))) aNil))) (pE (mVar 1))))) mNext)
    (mSeq (mAsg (mOp ixD (pE (mOp ixD (pO 0) (pE (mC (.int 0))))) (pE (mOp subD (pE (mOp ixD (pO 0) (pE (mC (.int 1))))) (pE (mC (.int 1)))))) (gNm 2))
    (mSeq (mSetL 0 (pE (mC (.int 2))) (mOp modD (pE (mCall intD (aCons (pE (mOp addD (pE (mOp addD (pE (mOp mulD (pE (mOp ixD (pO 0) (pE (mC (.int 2))))) (pE (mC (.int 48271))))) (pE (mVar 2)))) (pE (mC (.int 11))))) aNil))) (pE (mC (.int 2147483647)))))
    (mSeq (mIfS (mTest (mOp geD (pE (mVar 2)) (pE (mOp powD (pE (mC (.int 10))) (pE (mC (.int 18))))))) (mSetL 0 (pE (mC (.int 3))) (mOp fdivD (pE (mVar 2)) (pE (mVar 1)))) mNext)
    (mRet (mOp modD (pE (mCall intD (aCons (pE (mVar 2)) aNil))) (pE (mVar 1))))))))))
noncomputable def F_law_taken : MFn := runP 2 4 b_law_taken
theorem sc_law_taken : FnScope ["row", "many", "cell", "found"] ["row", "many"] (defScope s_law_taken) := ⟨rfl, rfl, rfl, by decide +kernel, rfl, by decide +kernel, by decide +kernel⟩
theorem ok_law_taken {Θ : Tb} {P : Program} {w : World} {K : Frag} {mg : Str → Option Value} {base : Heap} {cs : List (Str × Addr × Addr)} (T : Txt K mg) (Z : Lams Θ K mg base lamNames cs) : FnI P w K mg base "_law_taken" ["row", "many"] 1 (SpF Θ K F_law_taken) := by
  refine fni_ok T.d_law_taken sc_law_taken rfl rfl fun f cdv A outer s H E hr => ?_
  have nd : (CxF P w K mg base ["row", "many", "cell", "found"] "_law_taken" s_law_taken f cdv A outer s H E).N.Nodup := sc_law_taken.nd
  exact (sb_cons (ss_if (st_cmp op_gt opok_gt (SE.p (se_ix (sp_own 0) (SE.p se_int))) (SE.p se_int)) (sb_cons (ss_set (i := 3) nd (se_op op_mod opok_mod (SE.p (se_callT call_int1 callok_int T.n_int (by decide +kernel) (sa_cons (SE.p (se_ix (sp_own 0) (SE.p se_int))) sa_nil))) (SE.p (se_var 1)))) (sb_cons (ss_setL (i := 0) (se_op op_fdiv opok_fdiv (SE.p (se_ix (sp_own 0) (SE.p se_int))) (SE.p (se_var 1))) (SE.p se_int)) (sb_one (ss_ret (se_var 3))))) sb_nil) (sb_cons (ss_setL (i := 0) (se_op op_addA opok_add (SE.p (se_ix (sp_own 0) (SE.p se_int))) (SE.p se_int)) (SE.p se_int)) (sb_cons (ss_if (st_cmp op_gt opok_gt (SE.p (se_ix (sp_own 0) (SE.p se_int))) (SE.p (se_callB call_lenA callok_len T.n_len PySem.boot_len (sa_cons (SE.p (se_ix (sp_own 0) (SE.p se_int))) sa_nil)))) (sb_cons (ss_setL (i := 0) (se_op op_mod opok_mod (SE.p (se_callT call_int1 callok_int T.n_int (by decide +kernel) (sa_cons (SE.p (se_op op_addA opok_add (SE.p (se_op op_mulA opok_mul (SE.p (se_ix (sp_own 0) (SE.p se_int))) (SE.p se_int))) (SE.p se_int))) sa_nil))) (SE.p se_int)) (SE.p se_int)) (sb_one (ss_ret (se_op op_mod opok_mod (SE.p (se_callT call_int1 callok_int T.n_int (by decide +kernel) (sa_cons (SE.p (se_op op_fdiv opok_fdiv (SE.p (se_ix (sp_own 0) (SE.p se_int))) (SE.p se_int))) sa_nil))) (SE.p (se_var 1)))))) sb_nil) (sb_cons (ss_set (i := 2) nd (se_ix (SE.p (se_ix (sp_own 0) (SE.p se_int))) (SE.p (se_op op_sub opok_sub (SE.p (se_ix (sp_own 0) (SE.p se_int))) (SE.p se_int))))) (sb_cons (ss_setL (i := 0) (se_op op_mod opok_mod (SE.p (se_callT call_int1 callok_int T.n_int (by decide +kernel) (sa_cons (SE.p (se_op op_addA opok_add (SE.p (se_op op_addA opok_add (SE.p (se_op op_mulA opok_mul (SE.p (se_ix (sp_own 0) (SE.p se_int))) (SE.p se_int))) (SE.p (se_var 2)))) (SE.p se_int))) sa_nil))) (SE.p se_int)) (SE.p se_int)) (sb_cons (ss_if (st_cmp op_ge opok_ge (SE.p (se_var 2)) (SE.p (se_op op_pow opok_pow (SE.p se_int) (SE.p se_int)))) (sb_one (ss_setL (i := 0) (se_op op_fdiv opok_fdiv (SE.p (se_var 2)) (SE.p (se_var 1))) (SE.p se_int))) sb_nil) (sb_one (ss_ret (se_op op_mod opok_mod (SE.p (se_callT call_int1 callok_int T.n_int (by decide +kernel) (sa_cons (SE.p (se_var 2)) sa_nil))) (SE.p (se_var 1)))))))))))
abbrev s_law_pick : Stmt := topS 39
noncomputable def b_law_pick : MS :=
  (mRet (mOp ixD (pE (mVar 1)) (pE (mFn F_law_taken (aCons (pO 0) (aCons (pE (mCall lenD (aCons (pE (mVar 1)) aNil))) aNil))))))
noncomputable def F_law_pick : MFn := runP 2 2 b_law_pick
theorem sc_law_pick : FnScope ["row", "some"] ["row", "some"] (defScope s_law_pick) := ⟨rfl, rfl, rfl, by decide +kernel, rfl, by decide +kernel, by decide +kernel⟩
theorem ok_law_pick {Θ : Tb} {P : Program} {w : World} {K : Frag} {mg : Str → Option Value} {base : Heap} {cs : List (Str × Addr × Addr)} (T : Txt K mg) (Z : Lams Θ K mg base lamNames cs) : FnI P w K mg base "_law_pick" ["row", "some"] 2 (SpF Θ K F_law_pick) := by
  have H_law_taken := ok_law_taken (P := P) (w := w) (base := base) T Z
  refine fni_ok T.d_law_pick sc_law_pick rfl rfl fun f cdv A outer s H E hr => ?_
  have nd : (CxF P w K mg base ["row", "some"] "_law_pick" s_law_pick f cdv A outer s H E).N.Nodup := sc_law_pick.nd
  exact (sb_one (ss_ret (se_ix (SE.p (se_var 1)) (SE.p (se_fn' H_law_taken (by exact (sa_cons (sp_own 0) (sa_cons (SE.p (se_callB call_lenA callok_len T.n_len PySem.boot_len (sa_cons (SE.p (se_var 1)) sa_nil))) sa_nil))))))))
abbrev s_law_spoilt : Stmt := topS 42
noncomputable def b_law_spoilt : MS :=
  (mSeq (mIfS (mOr (mTest (mOp eqD (pE (mVar 2)) (pE (mC (.int 0))))) (mOr (mTest (mOp eqD (pE (mVar 2)) (pE (mC (.int 1))))) (mTest (mOp eqD (pE (mVar 2)) (pE (mC (.int 5))))))) (mSeq (mAsg (mFn F_law_pick (aCons (pO 0) (aCons (pE (fE (mLstF (aCons (pE (mC (.int 0))) (aCons (pE (mIf (mTest (mOp ltD (pE (mVar 2)) (pE (mC (.int 5))))) (mC (.int 4)) (mC (.int 5)))) (aCons (pE (mC (.bool true))) (aCons (pE (mC .none)) (aCons (pE (mC (.str "1"))) (aCons (pE (mUn negD (pE (mC (.int 1))))) aNil))))))))) aNil))) (gNm 7))
    (mRet (mTup (aCons (pE (mVar 7)) (aCons (pE (mOp ixD (pE (mOp addD (pE (fE (mLstF (aCons (pE (mC (.str "hands"))) (aCons (pE (mC (.str "ovens"))) aNil))))) (pE (mOp mulD (pE (fE (mLstF (aCons (pE (mC (.str "repair"))) aNil)))) (pE (mC (.int 4))))))) (pE (mVar 2)))) (aCons (pE (mVar 7)) aNil)))))) mNext)
    (mSeq (mIfS (mTest (mOp eqD (pE (mVar 2)) (pE (mC (.int 4))))) (mSeq (mAsg (mFn F_law_pick (aCons (pO 0) (aCons (pE (fE (mLstF (aCons (pE (mTup (aCons (pE (mC (.int 0))) (aCons (pE (mC (.int 0))) aNil)))) (aCons (pE (fE (mLstF (aCons (pE (mC (.int 0))) (aCons (pE (mC (.int 0))) (aCons (pE (mC (.int 0))) aNil)))))) (aCons (pE (mTup (aCons (pE (mC (.int 0))) (aCons (pE (mC (.int 0))) (aCons (pE (mC (.int 4))) aNil))))) (aCons (pE (mTup (aCons (pE (mC (.int 0))) (aCons (pE (mUn negD (pE (mC (.int 1))))) (aCons (pE (mC (.int 0))) aNil))))) (aCons (pE (mC .none)) (aCons (pE (mTup (aCons (pE (mC (.int 0))) (aCons (pE (mC (.int 0))) (aCons (pE (mC (.bool true))) aNil))))) (aCons (pE (mTup (aCons (pE (mC (.int 0))) (aCons (pE (mC (.int 0))) (aCons (pE (mC (.int 0))) (aCons (pE (mC (.int 0))) aNil)))))) aNil)))))))))) aNil))) (gNm 7))
    (mRet (mTup (aCons (pE (mVar 7)) (aCons (pE (mC (.str "budgets"))) (aCons (pE (mVar 7)) aNil)))))) mNext)
    (mSeq (mPar [3, 4] (nE (mOp ixD (pE (fE (mLstF (aCons (pE (mC (.str "kinds"))) (aCons (pE (mC (.str "orders"))) aNil))))) (pE (mOp subD (pE (mVar 2)) (pE (mC (.int 2)))))) (nE (fE (mListF (pE (mOp ixD (pE (mVar 1)) (pE (mVar 2)))))) nNil)))
    (mSeq (mAsg (mFn F_law_taken (aCons (pO 0) (aCons (pE (mC (.int 4))) aNil))) (gNm 5))
    (mSeq (mIfS (mTest (mOp eqD (pE (mVar 5)) (pE (mC (.int 0))))) (mRet (mTup (aCons (pE (mFn F_law_pick (aCons (pO 0) (aCons (pE (fE (mLstF (aCons (pE (mC .none)) (aCons (pE (fE mDKF)) (aCons (pE (mC (.int 5))) (aCons (pE (fE (mLstF aNil))) (aCons (pE (mTup aNil)) (aCons (pE (mOp mulD (pE (mVar 4)) (pE (mC (.int 6))))) aNil))))))))) aNil)))) (aCons (pE (mVar 3)) (aCons (pE (mUn negD (pE (mC (.int 1))))) aNil))))) mNext)
    (mSeq (mAsg (mFn F_law_taken (aCons (pO 0) (aCons (pE (mCall lenD (aCons (pE (mVar 4)) aNil))) aNil))) (gNm 6))
    (mSeq (mAsg (mFn F_law_pick (aCons (pO 0) (aCons (pE (fE (mLstF (aCons (pE (mC .none)) (aCons (pE (fE (mListF (pE (mOp ixD (pE (mVar 4)) (pE (mVar 6))))))) (aCons (pE (mTup (aCons (pE (mC (.str "rye"))) aNil))) (aCons (pE (mTup (aCons (pE (mC (.str "nobody"))) (aCons (pE (mC (.int 3))) aNil)))) (aCons (pE (mTup (aCons (pE (mC (.str "rye"))) (aCons (pE (mC (.int 21))) aNil)))) (aCons (pE (mTup (aCons (pE (mC (.str "rye"))) (aCons (pE (mUn negD (pE (mC (.int 1))))) aNil)))) (aCons (pE (mTup (aCons (pE (mC (.str "rye"))) (aCons (pE (mC (.bool true))) aNil)))) (aCons (pE (mTup (aCons (pE (mC (.int 5))) (aCons (pE (mC (.int 3))) aNil)))) aNil))))))))))) aNil))) (gNm 7))
    (mSeq (mIfS (mTest (mOp eqD (pE (mVar 2)) (pE (mC (.int 2))))) (mSeq (mAsg (mFn F_law_pick (aCons (pO 0) (aCons (pE (fE (mLstF (aCons (pE (mC .none)) (aCons (pE (fE (mListF (pE (mOp ixD (pE (mVar 4)) (pE (mVar 6))))))) (aCons (pE (mTup (aCons (pE (mC (.str "x"))) (aCons (pE (mC (.int 0))) (aCons (pE (mC (.int 1))) (aCons (pE (mC (.int 1))) (aCons (pE (mC (.int 1))) (aCons (pE (mC (.int 1))) aNil)))))))) (aCons (pE (mTup (aCons (pE (mC (.str "x"))) (aCons (pE (mC (.int 1))) (aCons (pE (mC (.int 2))) (aCons (pE (mC (.int 1))) (aCons (pE (mC (.int 1))) (aCons (pE (mC (.int 1))) aNil)))))))) (aCons (pE (mTup (aCons (pE (mC (.str "x"))) (aCons (pE (mC (.int 1))) (aCons (pE (mC (.int 1))) (aCons (pE (mC (.int 9))) (aCons (pE (mC (.int 1))) (aCons (pE (mC (.int 1))) aNil)))))))) (aCons (pE (mTup (aCons (pE (mC (.str "x"))) (aCons (pE (mC (.int 1))) (aCons (pE (mC (.int 1))) (aCons (pE (mC (.int 1))) (aCons (pE (mC (.int 5))) (aCons (pE (mC (.int 1))) aNil)))))))) (aCons (pE (mTup (aCons (pE (mC (.str "X"))) (aCons (pE (mC (.int 1))) (aCons (pE (mC (.int 1))) (aCons (pE (mC (.int 1))) (aCons (pE (mC (.int 1))) (aCons (pE (mC (.int 1))) aNil)))))))) aNil)))))))))) aNil))) (gNm 7))
    (mIfS (mAnd (mTest (mOp gtD (pE (mVar 6)) (pE (mC (.int 0))))) (mTest (mOp eqD (pE (mFn F_law_taken (aCons (pO 0) (aCons (pE (mC (.int 2))) aNil)))) (pE (mC (.int 0)))))) (mAsg (mOp ixD (pE (mVar 4)) (pE (mC (.int 0)))) (gNm 7)) mNext)) mNext)
    (mRet (mTup (aCons (pE (mOp addD (pE (mOp addD (pE (mSl (pE (mVar 4)) oNone (oSome (mVar 6)))) (pE (fE (mLstF (aCons (pE (mVar 7)) aNil)))))) (pE (mSl (pE (mVar 4)) (oSome (mOp addD (pE (mVar 6)) (pE (mC (.int 1))))) oNone)))) (aCons (pE (mVar 3)) (aCons (pE (mVar 6)) aNil)))))))))))))
noncomputable def F_law_spoilt : MFn := runP 3 8 b_law_spoilt
theorem sc_law_spoilt : FnScope ["row", "parts", "at", "word", "some", "kind", "place", "odd"] ["row", "parts", "at"] (defScope s_law_spoilt) := ⟨rfl, rfl, rfl, by decide +kernel, rfl, by decide +kernel, by decide +kernel⟩
theorem ok_law_spoilt {Θ : Tb} {P : Program} {w : World} {K : Frag} {mg : Str → Option Value} {base : Heap} {cs : List (Str × Addr × Addr)} (T : Txt K mg) (Z : Lams Θ K mg base lamNames cs) : FnI P w K mg base "_law_spoilt" ["row", "parts", "at"] 3 (SpF Θ K F_law_spoilt) := by
  have H_law_taken := ok_law_taken (P := P) (w := w) (base := base) T Z
  have H_law_pick := ok_law_pick (P := P) (w := w) (base := base) T Z
  refine fni_ok T.d_law_spoilt sc_law_spoilt rfl rfl fun f cdv A outer s H E hr => ?_
  have nd : (CxF P w K mg base ["row", "parts", "at", "word", "some", "kind", "place", "odd"] "_law_spoilt" s_law_spoilt f cdv A outer s H E).N.Nodup := sc_law_spoilt.nd
  exact (sb_cons (ss_if (SW.t (sw_or (st_cmp (op_eqD hr.units) opok_eq (SE.p (se_var 2)) (SE.p se_int)) (sw_or (st_cmp (op_eqD hr.units) opok_eq (SE.p (se_var 2)) (SE.p se_int)) (sw_or1 (st_cmp (op_eqD hr.units) opok_eq (SE.p (se_var 2)) (SE.p se_int)))))) (sb_cons (ss_set (i := 7) nd (se_fn' H_law_pick (by exact (sa_cons (sp_own 0) (sa_cons (SE.p (SF.se (sf_lst (sa_cons (SE.p se_int) (sa_cons (SE.p (se_if (st_cmp op_lt opok_lt (SE.p (se_var 2)) (SE.p se_int)) se_int se_int)) (sa_cons (SE.p se_bl) (sa_cons (SE.p se_non) (sa_cons (SE.p se_str) (sa_cons (SE.p (se_neg (SE.p se_int))) sa_nil))))))))) sa_nil))))) (sb_one (ss_ret (se_tup (sa_cons (SE.p (se_var 7)) (sa_cons (SE.p (se_ix (SE.p (se_op op_addA opok_add (SE.p (SF.se (sf_lst (sa_cons (SE.p se_str) (sa_cons (SE.p se_str) sa_nil))))) (SE.p (se_op op_mulA opok_mul (SE.p (SF.se (sf_lst (sa_cons (SE.p se_str) sa_nil)))) (SE.p se_int))))) (SE.p (se_var 2)))) (sa_cons (SE.p (se_var 7)) sa_nil))))))) sb_nil) (sb_cons (ss_if (st_cmp (op_eqD hr.units) opok_eq (SE.p (se_var 2)) (SE.p se_int)) (sb_cons (ss_set (i := 7) nd (se_fn' H_law_pick (by exact (sa_cons (sp_own 0) (sa_cons (SE.p (SF.se (sf_lst (sa_cons (SE.p (se_tup (sa_cons (SE.p se_int) (sa_cons (SE.p se_int) sa_nil)))) (sa_cons (SE.p (SF.se (sf_lst (sa_cons (SE.p se_int) (sa_cons (SE.p se_int) (sa_cons (SE.p se_int) sa_nil)))))) (sa_cons (SE.p (se_tup (sa_cons (SE.p se_int) (sa_cons (SE.p se_int) (sa_cons (SE.p se_int) sa_nil))))) (sa_cons (SE.p (se_tup (sa_cons (SE.p se_int) (sa_cons (SE.p (se_neg (SE.p se_int))) (sa_cons (SE.p se_int) sa_nil))))) (sa_cons (SE.p se_non) (sa_cons (SE.p (se_tup (sa_cons (SE.p se_int) (sa_cons (SE.p se_int) (sa_cons (SE.p se_bl) sa_nil))))) (sa_cons (SE.p (se_tup (sa_cons (SE.p se_int) (sa_cons (SE.p se_int) (sa_cons (SE.p se_int) (sa_cons (SE.p se_int) sa_nil)))))) sa_nil)))))))))) sa_nil))))) (sb_one (ss_ret (se_tup (sa_cons (SE.p (se_var 7)) (sa_cons (SE.p se_str) (sa_cons (SE.p (se_var 7)) sa_nil))))))) sb_nil) (sb_cons (ss_par (i := 3) (j := 4) nd (sn_e (se_ix (SE.p (SF.se (sf_lst (sa_cons (SE.p se_str) (sa_cons (SE.p se_str) sa_nil))))) (SE.p (se_op op_sub opok_sub (SE.p (se_var 2)) (SE.p se_int)))) (sn_e (SF.se (sf_list T.n_list (SE.p (se_ix (SE.p (se_var 1)) (SE.p (se_var 2)))))) (sn_q sq_nil)))) (sb_cons (ss_set (i := 5) nd (se_fn' H_law_taken (by exact (sa_cons (sp_own 0) (sa_cons (SE.p se_int) sa_nil))))) (sb_cons (ss_if (st_cmp (op_eqD hr.units) opok_eq (SE.p (se_var 5)) (SE.p se_int)) (sb_one (ss_ret (se_tup (sa_cons (SE.p (se_fn' H_law_pick (by exact (sa_cons (sp_own 0) (sa_cons (SE.p (SF.se (sf_lst (sa_cons (SE.p se_non) (sa_cons (SE.p (SF.se sf_dK)) (sa_cons (SE.p se_int) (sa_cons (SE.p (SF.se (sf_lst sa_nil))) (sa_cons (SE.p (se_tup sa_nil)) (sa_cons (SE.p (se_op op_mulA opok_mul (SE.p (se_var 4)) (SE.p se_int))) sa_nil))))))))) sa_nil))))) (sa_cons (SE.p (se_var 3)) (sa_cons (SE.p (se_neg (SE.p se_int))) sa_nil)))))) sb_nil) (sb_cons (ss_set (i := 6) nd (se_fn' H_law_taken (by exact (sa_cons (sp_own 0) (sa_cons (SE.p (se_callB call_lenA callok_len T.n_len PySem.boot_len (sa_cons (SE.p (se_var 4)) sa_nil))) sa_nil))))) (sb_cons (ss_set (i := 7) nd (se_fn' H_law_pick (by exact (sa_cons (sp_own 0) (sa_cons (SE.p (SF.se (sf_lst (sa_cons (SE.p se_non) (sa_cons (SE.p (SF.se (sf_list T.n_list (SE.p (se_ix (SE.p (se_var 4)) (SE.p (se_var 6))))))) (sa_cons (SE.p (se_tup (sa_cons (SE.p se_str) sa_nil))) (sa_cons (SE.p (se_tup (sa_cons (SE.p se_str) (sa_cons (SE.p se_int) sa_nil)))) (sa_cons (SE.p (se_tup (sa_cons (SE.p se_str) (sa_cons (SE.p se_int) sa_nil)))) (sa_cons (SE.p (se_tup (sa_cons (SE.p se_str) (sa_cons (SE.p (se_neg (SE.p se_int))) sa_nil)))) (sa_cons (SE.p (se_tup (sa_cons (SE.p se_str) (sa_cons (SE.p se_bl) sa_nil)))) (sa_cons (SE.p (se_tup (sa_cons (SE.p se_int) (sa_cons (SE.p se_int) sa_nil)))) sa_nil))))))))))) sa_nil))))) (sb_cons (ss_if (st_cmp (op_eqD hr.units) opok_eq (SE.p (se_var 2)) (SE.p se_int)) (sb_cons (ss_set (i := 7) nd (se_fn' H_law_pick (by exact (sa_cons (sp_own 0) (sa_cons (SE.p (SF.se (sf_lst (sa_cons (SE.p se_non) (sa_cons (SE.p (SF.se (sf_list T.n_list (SE.p (se_ix (SE.p (se_var 4)) (SE.p (se_var 6))))))) (sa_cons (SE.p (se_tup (sa_cons (SE.p se_str) (sa_cons (SE.p se_int) (sa_cons (SE.p se_int) (sa_cons (SE.p se_int) (sa_cons (SE.p se_int) (sa_cons (SE.p se_int) sa_nil)))))))) (sa_cons (SE.p (se_tup (sa_cons (SE.p se_str) (sa_cons (SE.p se_int) (sa_cons (SE.p se_int) (sa_cons (SE.p se_int) (sa_cons (SE.p se_int) (sa_cons (SE.p se_int) sa_nil)))))))) (sa_cons (SE.p (se_tup (sa_cons (SE.p se_str) (sa_cons (SE.p se_int) (sa_cons (SE.p se_int) (sa_cons (SE.p se_int) (sa_cons (SE.p se_int) (sa_cons (SE.p se_int) sa_nil)))))))) (sa_cons (SE.p (se_tup (sa_cons (SE.p se_str) (sa_cons (SE.p se_int) (sa_cons (SE.p se_int) (sa_cons (SE.p se_int) (sa_cons (SE.p se_int) (sa_cons (SE.p se_int) sa_nil)))))))) (sa_cons (SE.p (se_tup (sa_cons (SE.p se_str) (sa_cons (SE.p se_int) (sa_cons (SE.p se_int) (sa_cons (SE.p se_int) (sa_cons (SE.p se_int) (sa_cons (SE.p se_int) sa_nil)))))))) sa_nil)))))))))) sa_nil))))) (sb_one (ss_if (SW.t (sw_and (st_cmp op_gt opok_gt (SE.p (se_var 6)) (SE.p se_int)) (sw_and1 (st_cmp (op_eqD hr.units) opok_eq (SE.p (se_fn' H_law_taken (by exact (sa_cons (sp_own 0) (sa_cons (SE.p se_int) sa_nil))))) (SE.p se_int))))) (sb_one (ss_set (i := 7) nd (se_ix (SE.p (se_var 4)) (SE.p se_int)))) sb_nil))) sb_nil) (sb_one (ss_ret (se_tup (sa_cons (SE.p (se_op op_addA opok_add (SE.p (se_op op_addA opok_add (SE.p (se_sl (SE.p (se_var 4)) so_none (so_some (se_var 6)))) (SE.p (SF.se (sf_lst (sa_cons (SE.p (se_var 7)) sa_nil)))))) (SE.p (se_sl (SE.p (se_var 4)) (so_some (se_op op_addA opok_add (SE.p (se_var 6)) (SE.p se_int))) so_none)))) (sa_cons (SE.p (se_var 3)) (sa_cons (SE.p (se_var 6)) sa_nil))))))))))))))
abbrev s_law_wide_kind : Stmt := topS 40
noncomputable def b_law_wide_kind : MS :=
  (mSeq (mAsg (mFn F_law_taken (aCons (pO 0) (aCons (pE (mC (.int 9))) aNil))) (gNm 2))
    (mRet (mTup (aCons (pE (mVar 1)) (aCons (pE (mOp addD (pE (mC (.int 1))) (pE (mFn F_law_taken (aCons (pO 0) (aCons (pE (mC (.int 3))) aNil)))))) (aCons (pE (mVar 2)) (aCons (pE (mOp addD (pE (mVar 2)) (pE (mFn F_law_taken (aCons (pO 0) (aCons (pE (mOp subD (pE (mC (.int 9))) (pE (mVar 2)))) aNil)))))) (aCons (pE (mOp addD (pE (mC (.int 1))) (pE (mFn F_law_taken (aCons (pO 0) (aCons (pE (mC (.int 4))) aNil)))))) (aCons (pE (mFn F_law_taken (aCons (pO 0) (aCons (pE (mC (.int 9))) aNil)))) aNil)))))))))
noncomputable def F_law_wide_kind : MFn := runP 2 3 b_law_wide_kind
theorem sc_law_wide_kind : FnScope ["row", "name", "least"] ["row", "name"] (defScope s_law_wide_kind) := ⟨rfl, rfl, rfl, by decide +kernel, rfl, by decide +kernel, by decide +kernel⟩
theorem ok_law_wide_kind {Θ : Tb} {P : Program} {w : World} {K : Frag} {mg : Str → Option Value} {base : Heap} {cs : List (Str × Addr × Addr)} (T : Txt K mg) (Z : Lams Θ K mg base lamNames cs) : FnI P w K mg base "_law_wide_kind" ["row", "name"] 2 (SpF Θ K F_law_wide_kind) := by
  have H_law_taken := ok_law_taken (P := P) (w := w) (base := base) T Z
  refine fni_ok T.d_law_wide_kind sc_law_wide_kind rfl rfl fun f cdv A outer s H E hr => ?_
  have nd : (CxF P w K mg base ["row", "name", "least"] "_law_wide_kind" s_law_wide_kind f cdv A outer s H E).N.Nodup := sc_law_wide_kind.nd
  exact (sb_cons (ss_set (i := 2) nd (se_fn' H_law_taken (by exact (sa_cons (sp_own 0) (sa_cons (SE.p se_int) sa_nil))))) (sb_one (ss_ret (se_tup (sa_cons (SE.p (se_var 1)) (sa_cons (SE.p (se_op op_addA opok_add (SE.p se_int) (SE.p (se_fn' H_law_taken (by exact (sa_cons (sp_own 0) (sa_cons (SE.p se_int) sa_nil))))))) (sa_cons (SE.p (se_var 2)) (sa_cons (SE.p (se_op op_addA opok_add (SE.p (se_var 2)) (SE.p (se_fn' H_law_taken (by exact (sa_cons (sp_own 0) (sa_cons (SE.p (se_op op_sub opok_sub (SE.p se_int) (SE.p (se_var 2)))) sa_nil))))))) (sa_cons (SE.p (se_op op_addA opok_add (SE.p se_int) (SE.p (se_fn' H_law_taken (by exact (sa_cons (sp_own 0) (sa_cons (SE.p se_int) sa_nil))))))) (sa_cons (SE.p (se_fn' H_law_taken (by exact (sa_cons (sp_own 0) (sa_cons (SE.p se_int) sa_nil))))) sa_nil))))))))))
abbrev s_law_wide_night : Stmt := topS 41
noncomputable def b_law_wide_night : MS :=
  (mSeq (mAsg (mSl (pE (fE (mLstF (aCons (pE (mC (.str "rye"))) (aCons (pE (mC (.str "bun"))) (aCons (pE (mC (.str "oat"))) (aCons (pE (mC (.str "fig"))) aNil))))))) oNone (oSome (mOp addD (pE (mC (.int 1))) (pE (mFn F_law_taken (aCons (pO 0) (aCons (pE (mC (.int 4))) aNil))))))) (gNm 1))
    (mSeq (mAsg (mCall tupleD (aCons (pE (fE (mLcF (mIter (mVar 1)) [5] (gNm 5) mYes (mFn F_law_wide_kind (aCons (pO 0) (aCons (pE (mVar 5)) aNil)))))) aNil)) (gNm 2))
    (mSeq (mAsg (mCall tupleD (aCons (pE (fE (mLcF (mRng1 (mOp addD (pE (mC (.int 1))) (pE (mFn F_law_taken (aCons (pO 0) (aCons (pE (mC (.int 5))) aNil)))))) [6] (gNm 6) mYes (mTup (aCons (pE (mFn F_law_pick (aCons (pO 0) (aCons (pE (mVar 1)) aNil)))) (aCons (pE (mFn F_law_taken (aCons (pO 0) (aCons (pE (mC (.int 21))) aNil)))) aNil)))))) aNil)) (gNm 3))
    (mSeq (mAsg (mTup (aCons (pE (mFn F_law_taken (aCons (pO 0) (aCons (pE (mC (.int 4))) aNil)))) (aCons (pE (mFn F_law_taken (aCons (pO 0) (aCons (pE (mC (.int 4))) aNil)))) (aCons (pE (mFn F_law_taken (aCons (pO 0) (aCons (pE (mC (.int 4))) aNil)))) aNil)))) (gNm 4))
    (mRet (mTup (aCons (pE (mOp addD (pE (mC (.int 1))) (pE (mFn F_law_taken (aCons (pO 0) (aCons (pE (mC (.int 3))) aNil)))))) (aCons (pE (mOp addD (pE (mC (.int 1))) (pE (mFn F_law_taken (aCons (pO 0) (aCons (pE (mC (.int 3))) aNil)))))) (aCons (pE (mVar 2)) (aCons (pE (mVar 3)) (aCons (pE (mVar 4)) (aCons (pE (mOp addD (pE (mC (.int 1))) (pE (mFn F_law_taken (aCons (pO 0) (aCons (pE (mC (.int 4))) aNil)))))) aNil))))))))))))
noncomputable def F_law_wide_night : MFn := runP 1 7 b_law_wide_night
theorem sc_law_wide_night : FnScope ["row", "names", "kinds", "orders", "budgets", "name", "k"] ["row"] (defScope s_law_wide_night) := ⟨rfl, rfl, rfl, by decide +kernel, rfl, by decide +kernel, by decide +kernel⟩
theorem ok_law_wide_night {Θ : Tb} {P : Program} {w : World} {K : Frag} {mg : Str → Option Value} {base : Heap} {cs : List (Str × Addr × Addr)} (T : Txt K mg) (Z : Lams Θ K mg base lamNames cs) : FnI P w K mg base "_law_wide_night" ["row"] 3 (SpF Θ K F_law_wide_night) := by
  have H_law_taken := ok_law_taken (P := P) (w := w) (base := base) T Z
  have H_law_pick := ok_law_pick (P := P) (w := w) (base := base) T Z
  have H_law_wide_kind := ok_law_wide_kind (P := P) (w := w) (base := base) T Z
  refine fni_ok T.d_law_wide_night sc_law_wide_night rfl rfl fun f cdv A outer s H E hr => ?_
  have nd : (CxF P w K mg base ["row", "names", "kinds", "orders", "budgets", "name", "k"] "_law_wide_night" s_law_wide_night f cdv A outer s H E).N.Nodup := sc_law_wide_night.nd
  exact (sb_cons (ss_set (i := 1) nd (se_sl (SE.p (SF.se (sf_lst (sa_cons (SE.p se_str) (sa_cons (SE.p se_str) (sa_cons (SE.p se_str) (sa_cons (SE.p se_str) sa_nil))))))) so_none (so_some (se_op op_addA opok_add (SE.p se_int) (SE.p (se_fn' H_law_taken (by exact (sa_cons (sp_own 0) (sa_cons (SE.p se_int) sa_nil))))))))) (sb_cons (ss_set (i := 2) nd (se_callT call_tuple_of callok_tuple T.n_tuple (by decide +kernel) (sa_cons (SE.p (SF.se (sf_lc (own := [("name", 5)]) (g := gName 5) nd (si_seq (se_var 1)) (blkOk_by (own := [("name", 5)]) (N := ["row", "names", "kinds", "orders", "budgets", "name", "k"]) (sc := defScope s_law_wide_night) (by decide +kernel)) (gin_name (j := 5) (by decide)) (fun _ _ _ _ _ => by exact (sg_name (i := 5) nd)) (fun _ _ _ _ _ => by exact sts_nil) (fun _ _ _ _ _ => by exact (se_fn' H_law_wide_kind (by exact (sa_cons (sp_own 0) (sa_cons (SE.p (se_var 5)) sa_nil)))))))) sa_nil))) (sb_cons (ss_set (i := 3) nd (se_callT call_tuple_of callok_tuple T.n_tuple (by decide +kernel) (sa_cons (SE.p (SF.se (sf_lc (own := [("k", 6)]) (g := gName 6) nd (si_rng1 T.n_range (se_op op_addA opok_add (SE.p se_int) (SE.p (se_fn' H_law_taken (by exact (sa_cons (sp_own 0) (sa_cons (SE.p se_int) sa_nil))))))) (blkOk_by (own := [("k", 6)]) (N := ["row", "names", "kinds", "orders", "budgets", "name", "k"]) (sc := defScope s_law_wide_night) (by decide +kernel)) (gin_name (j := 6) (by decide)) (fun _ _ _ _ _ => by exact (sg_name (i := 6) nd)) (fun _ _ _ _ _ => by exact sts_nil) (fun _ _ _ _ _ => by exact (se_tup (sa_cons (SE.p (se_fn' H_law_pick (by exact (sa_cons (sp_own 0) (sa_cons (SE.p (se_var 1)) sa_nil))))) (sa_cons (SE.p (se_fn' H_law_taken (by exact (sa_cons (sp_own 0) (sa_cons (SE.p se_int) sa_nil))))) sa_nil))))))) sa_nil))) (sb_cons (ss_set (i := 4) nd (se_tup (sa_cons (SE.p (se_fn' H_law_taken (by exact (sa_cons (sp_own 0) (sa_cons (SE.p se_int) sa_nil))))) (sa_cons (SE.p (se_fn' H_law_taken (by exact (sa_cons (sp_own 0) (sa_cons (SE.p se_int) sa_nil))))) (sa_cons (SE.p (se_fn' H_law_taken (by exact (sa_cons (sp_own 0) (sa_cons (SE.p se_int) sa_nil))))) sa_nil))))) (sb_one (ss_ret (se_tup (sa_cons (SE.p (se_op op_addA opok_add (SE.p se_int) (SE.p (se_fn' H_law_taken (by exact (sa_cons (sp_own 0) (sa_cons (SE.p se_int) sa_nil))))))) (sa_cons (SE.p (se_op op_addA opok_add (SE.p se_int) (SE.p (se_fn' H_law_taken (by exact (sa_cons (sp_own 0) (sa_cons (SE.p se_int) sa_nil))))))) (sa_cons (SE.p (se_var 2)) (sa_cons (SE.p (se_var 3)) (sa_cons (SE.p (se_var 4)) (sa_cons (SE.p (se_op op_addA opok_add (SE.p se_int) (SE.p (se_fn' H_law_taken (by exact (sa_cons (sp_own 0) (sa_cons (SE.p se_int) sa_nil))))))) sa_nil)))))))))))))
abbrev s_law : Stmt := topS 44
noncomputable def b_law : MS :=
  (mSeq (mOwn (mLstF (aCons (pE (mVar 0)) (aCons (pE (mC (.int 0))) (aCons (pE (mC (.int 1111))) (aCons (pE (mC (.int 0))) aNil))))) 1)
    (mSeq (mAsg (mFn F_law_wide_night (aCons (pO 1) aNil)) (gNm 2))
    (mSeq (mAsg (fE (mLcF (mIter (mOp ixD (pE (mVar 2)) (pE (mC (.int 2))))) [11] (gNm 11) mYes (mOp ixD (pE (mVar 11)) (pE (mC (.int 0)))))) (gNm 3))
    (mSeq (mIfS (mTest (mOp neD (pE (mLam F_law_refused (mlMk "Night" F_Night_init [] (aCons (pE (mOp ixD (pE (mVar 2)) (pE (mC (.int 0))))) (aCons (pE (mOp ixD (pE (mVar 2)) (pE (mC (.int 1))))) (aCons (pE (mOp ixD (pE (mVar 2)) (pE (mC (.int 2))))) (aCons (pE (mOp ixD (pE (mVar 2)) (pE (mC (.int 3))))) (aCons (pE (mOp ixD (pE (mVar 2)) (pE (mC (.int 4))))) (aCons (pE (mOp ixD (pE (mVar 2)) (pE (mC (.int 5))))) aNil))))))))) (pE (mTup (aCons (pE (mC (.str ""))) (aCons (pE (mC .none)) aNil)))))) (mRet (mC (.bool false))) mNext)
    (mSeq (mFor (mRng1 (mC (.int 4))) (gNm 4)
    (mSeq (mPar [6, 7] (nF (mListF (pE (mVar 2))) (nE (mFn F_law_taken (aCons (pO 1) (aCons (pE (mC (.int 6))) aNil))) nNil)))
    (mSeq (mAsg (mFn F_law_spoilt (aCons (pO 1) (aCons (pE (mVar 2)) (aCons (pE (mVar 7)) aNil)))) (gNm 8))
    (mSeq (mSetL 6 (pE (mVar 7)) (mOp ixD (pE (mVar 8)) (pE (mC (.int 0)))))
    (mSeq (mFor (mRng2 (mOp addD (pE (mVar 7)) (pE (mC (.int 1)))) (mC (.int 6))) (gNm 9)
    (mIfS (mTest (mOp eqD (pE (mFn F_law_taken (aCons (pO 1) (aCons (pE (mC (.int 3))) aNil)))) (pE (mC (.int 0))))) (mSetL 6 (pE (mVar 9)) (mOp ixD (pE (mFn F_law_spoilt (aCons (pO 1) (aCons (pE (mVar 2)) (aCons (pE (mVar 9)) aNil))))) (pE (mC (.int 0))))) mNext))
    (mSeq (mAsg (mLam F_law_refused (mlMk "Night" F_Night_init [] (aCons (pE (mOp ixD (pO 6) (pE (mC (.int 0))))) (aCons (pE (mOp ixD (pO 6) (pE (mC (.int 1))))) (aCons (pE (mOp ixD (pO 6) (pE (mC (.int 2))))) (aCons (pE (mOp ixD (pO 6) (pE (mC (.int 3))))) (aCons (pE (mOp ixD (pO 6) (pE (mC (.int 4))))) (aCons (pE (mOp ixD (pO 6) (pE (mC (.int 5))))) aNil)))))))) (gNm 10))
    (mIfS (mTest (mOp neSD (pE (mCall reprW (aCons (pE (mVar 10)) aNil))) (pE (mCall reprW (aCons (pE (mTup (aCons (pE (mOp ixD (pE (mVar 8)) (pE (mC (.int 1))))) (aCons (pE (mOp ixD (pE (mVar 8)) (pE (mC (.int 2))))) aNil)))) aNil))))) (mRet (mC (.bool false))) mNext)))))))
    (mSeq (mAsg (fE (mLcF (mIter (fE (mLstF (aCons (pE (mC (.int 0))) (aCons (pE (mC (.int 20))) (aCons (pE (mC (.int 20))) (aCons (pE (mC (.int 0))) (aCons (pE (mC (.int 7))) aNil)))))))) [12] (gNm 12) mYes (mTup (aCons (pE (mC (.str "rye"))) (aCons (pE (mVar 12)) aNil))))) (gNm 5))
    (mSeq (mIfS (mOr (mTest (mOp neD (pE (mUn (fldD "Night" "orders") (pE (fE (mMkF "Night" F_Night_init [] (aCons (pE (mC (.int 3))) (aCons (pE (mC (.int 3))) (aCons (pE (mOp ixD (pE (mVar 2)) (pE (mC (.int 2))))) (aCons (pE (fE (mListF (pE (mVar 5))))) (aCons (pE (mTup (aCons (pE (mC (.int 3))) (aCons (pE (mC (.int 3))) (aCons (pE (mC (.int 3))) aNil))))) (aCons (pE (mC (.int 4))) aNil))))))))))) (pE (mCall tupleD (aCons (pE (mVar 5)) aNil))))) (mTest (mOp neD (pE (mOp ixD (pE (mVar 3)) (pE (mC (.int 0))))) (pE (mC (.str "rye")))))) (mRet (mC (.bool false))) mNext)
    (mRet (mOp eqD (pE (mLam F_law_refused (mlMk "Night" F_Night_init df_Night (aCons (pE (mC (.int 3))) (aCons (pE (mC (.int 3))) (aCons (pE (mOp ixD (pE (mVar 2)) (pE (mC (.int 2))))) (aCons (pE (mOp addD (pE (mVar 5)) (pE (fE (mLstF (aCons (pE (mTup (aCons (pE (mC (.str "rye"))) (aCons (pE (mC (.int 3))) aNil)))) aNil)))))) aNil))))))) (pE (mTup (aCons (pE (mC (.str "orders"))) (aCons (pE (mUn negD (pE (mC (.int 1))))) aNil)))))))))))))
noncomputable def F_law : MFn := runP 1 13 b_law
theorem sc_law : FnScope ["script", "row", "parts", "names", "turn", "full", "some", "first", "told", "later", "found", "kind", "hour"] ["script"] (defScope s_law) := ⟨rfl, rfl, rfl, by decide +kernel, rfl, by decide +kernel, by decide +kernel⟩
theorem ok_law {Θ : Tb} {P : Program} {w : World} {K : Frag} {mg : Str → Option Value} {cs : List (Str × Addr × Addr)} (T : Txt K mg) (base : Heap) (Z : Lams Θ K mg base lamNames cs) (f : Addr) (cdv : Value) (hc : ∀ c T : Addr, (("law" : Str), c, T) ∈ cs → cdv = .ref c) (s : Shared) (H : Hp) (E : XK) : SB Θ (CxF P w K mg base ["script", "row", "parts", "names", "turn", "full", "some", "first", "told", "later", "found", "kind", "hour"] "law" s_law f cdv topA [] s H E) (defBody s_law) b_law := by
  obtain ⟨c, P1, mem⟩ := Z.at (i := 0) (y := "law") rfl
  obtain rfl := hc c P1 mem
  have H_Night_initD := ok_Night_initD (P := P) (w := w) (base := base) T Z
  have H_Night_init := ok_Night_init (P := P) (w := w) (base := base) T Z
  have H_law_taken := ok_law_taken (P := P) (w := w) (base := base) T Z
  have H_law_spoilt := ok_law_spoilt (P := P) (w := w) (base := base) T Z
  have H_law_wide_night := ok_law_wide_night (P := P) (w := w) (base := base) T Z
  have hr : Room 8 (CxF P w K mg base ["script", "row", "parts", "names", "turn", "full", "some", "first", "told", "later", "found", "kind", "hour"] "law" s_law f (.ref c) topA [] s H E).A := (⟨rfl, by decide, by decide⟩ : Room 9 topA).deeper _
  have nd : (CxF P w K mg base ["script", "row", "parts", "names", "turn", "full", "some", "first", "told", "later", "found", "kind", "hour"] "law" s_law f (.ref c) topA [] s H E).N.Nodup := sc_law.nd
  exact (sb_cons (ss_own (i := 1) nd (sf_lst (sa_cons (SE.p (se_var 0)) (sa_cons (SE.p se_int) (sa_cons (SE.p se_int) (sa_cons (SE.p se_int) sa_nil)))))) (sb_cons (ss_set (i := 2) nd (se_fn' H_law_wide_night (by exact (sa_cons (sp_own 1) sa_nil)))) (sb_cons (ss_setLc (i := 3) (own := [("kind", 11)]) (g := gName 11) nd (si_seq (se_ix (SE.p (se_var 2)) (SE.p se_int))) (blkOk_by (own := [("kind", 11)]) (N := ["script", "row", "parts", "names", "turn", "full", "some", "first", "told", "later", "found", "kind", "hour"]) (sc := defScope s_law) (by decide +kernel)) (gin_name (j := 11) (by decide)) (fun _ _ _ _ _ => by exact (sg_name (i := 11) nd)) (fun _ _ _ _ _ => by exact sts_nil) (fun _ _ _ _ _ => by exact (se_ix (SE.p (se_var 11)) (SE.p se_int)))) (sb_cons (ss_if (st_cmp (op_neD hr.units) opok_ne (SE.p (se_lam (j := 6) (L := (lamS_by (by decide +kernel) : LamX.LamS (defScope s_law) _)) Z mem rfl rfl T.d_law_refused sc_law_refused rfl (by first | exact Or.inl rfl | exact Or.inr (Or.inl rfl)) (gives_law_refused T) (fun A outer s H E f c' r2 => by exact (sl_mk takes_lam H_Night_init (by exact (sa_cons (SE.p (se_ix (SE.p (se_var 2)) (SE.p se_int))) (sa_cons (SE.p (se_ix (SE.p (se_var 2)) (SE.p se_int))) (sa_cons (SE.p (se_ix (SE.p (se_var 2)) (SE.p se_int))) (sa_cons (SE.p (se_ix (SE.p (se_var 2)) (SE.p se_int))) (sa_cons (SE.p (se_ix (SE.p (se_var 2)) (SE.p se_int))) (sa_cons (SE.p (se_ix (SE.p (se_var 2)) (SE.p se_int))) sa_nil))))))))))) (SE.p (se_tup (sa_cons (SE.p se_str) (sa_cons (SE.p se_non) sa_nil))))) (sb_one (ss_ret se_bl)) sb_nil) (sb_cons (ss_for (si_rng1 T.n_range se_int) (sg_name (i := 4) nd) (sb_cons (ss_parC (i := 6) (j := 7) nd (sn_f2 (sf_list T.n_list (SE.p (se_var 2))) (sn_e (se_fn' H_law_taken (by exact (sa_cons (sp_own 1) (sa_cons (SE.p se_int) sa_nil)))) (sn_q sq_nil)))) (sb_cons (ss_set (i := 8) nd (se_fn' H_law_spoilt (by exact (sa_cons (sp_own 1) (sa_cons (SE.p (se_var 2)) (sa_cons (SE.p (se_var 7)) sa_nil)))))) (sb_cons (ss_setL (i := 6) (se_ix (SE.p (se_var 8)) (SE.p se_int)) (SE.p (se_var 7))) (sb_cons (ss_for (si_rng2 T.n_range (se_op op_addA opok_add (SE.p (se_var 7)) (SE.p se_int)) se_int) (sg_name (i := 9) nd) (sb_one (ss_if (st_cmp (op_eqD hr.units) opok_eq (SE.p (se_fn' H_law_taken (by exact (sa_cons (sp_own 1) (sa_cons (SE.p se_int) sa_nil))))) (SE.p se_int)) (sb_one (ss_setL (i := 6) (se_ix (SE.p (se_fn' H_law_spoilt (by exact (sa_cons (sp_own 1) (sa_cons (SE.p (se_var 2)) (sa_cons (SE.p (se_var 9)) sa_nil)))))) (SE.p se_int)) (SE.p (se_var 9)))) sb_nil))) (sb_cons (ss_set (i := 10) nd (se_lam (j := 6) (L := (lamS_by (by decide +kernel) : LamX.LamS (defScope s_law) _)) Z mem rfl rfl T.d_law_refused sc_law_refused rfl (by first | exact Or.inl rfl | exact Or.inr (Or.inl rfl)) (gives_law_refused T) (fun A outer s H E f c' r2 => by exact (sl_mk takes_lam H_Night_init (by exact (sa_cons (SE.p (se_ix (sp_own 6) (SE.p se_int))) (sa_cons (SE.p (se_ix (sp_own 6) (SE.p se_int))) (sa_cons (SE.p (se_ix (sp_own 6) (SE.p se_int))) (sa_cons (SE.p (se_ix (sp_own 6) (SE.p se_int))) (sa_cons (SE.p (se_ix (sp_own 6) (SE.p se_int))) (sa_cons (SE.p (se_ix (sp_own 6) (SE.p se_int))) sa_nil))))))))))) (sb_one (ss_if (st_cmp op_ne opok_neS (SE.p (se_callB (cr_reprW rfl (Room.u65 hr)) callok_reprW T.n_repr (by decide +kernel) (sa_cons (SE.p (se_var 10)) sa_nil))) (SE.p (se_callB (cr_reprW rfl (Room.u65 hr)) callok_reprW T.n_repr (by decide +kernel) (sa_cons (SE.p (se_tup (sa_cons (SE.p (se_ix (SE.p (se_var 8)) (SE.p se_int))) (sa_cons (SE.p (se_ix (SE.p (se_var 8)) (SE.p se_int))) sa_nil)))) sa_nil)))) (sb_one (ss_ret se_bl)) sb_nil)))))))) (sb_cons (ss_set (i := 5) nd (SF.se (sf_lc (own := [("hour", 12)]) (g := gName 12) nd (si_seq (SF.se (sf_lst (sa_cons (SE.p se_int) (sa_cons (SE.p se_int) (sa_cons (SE.p se_int) (sa_cons (SE.p se_int) (sa_cons (SE.p se_int) sa_nil)))))))) (blkOk_by (own := [("hour", 12)]) (N := ["script", "row", "parts", "names", "turn", "full", "some", "first", "told", "later", "found", "kind", "hour"]) (sc := defScope s_law) (by decide +kernel)) (gin_name (j := 12) (by decide)) (fun _ _ _ _ _ => by exact (sg_name (i := 12) nd)) (fun _ _ _ _ _ => by exact sts_nil) (fun _ _ _ _ _ => by exact (se_tup (sa_cons (SE.p se_str) (sa_cons (SE.p (se_var 12)) sa_nil))))))) (sb_cons (ss_if (SW.t (sw_or (st_cmp (op_neD hr.units) opok_ne (SE.p (se_fld (nm := "Night") (fl := fl_Night) T.b_Night (SE.p (SF.se (sf_mk H_Night_init (by exact (sa_cons (SE.p se_int) (sa_cons (SE.p se_int) (sa_cons (SE.p (se_ix (SE.p (se_var 2)) (SE.p se_int))) (sa_cons (SE.p (SF.se (sf_list T.n_list (SE.p (se_var 5))))) (sa_cons (SE.p (se_tup (sa_cons (SE.p se_int) (sa_cons (SE.p se_int) (sa_cons (SE.p se_int) sa_nil))))) (sa_cons (SE.p se_int) sa_nil)))))))))))) (SE.p (se_callT call_tuple_of callok_tuple T.n_tuple (by decide +kernel) (sa_cons (SE.p (se_var 5)) sa_nil)))) (sw_or1 (st_cmp (op_neD hr.units) opok_ne (SE.p (se_ix (SE.p (se_var 3)) (SE.p se_int))) (SE.p se_str))))) (sb_one (ss_ret se_bl)) sb_nil) (sb_one (ss_ret (se_cmp (op_eqD hr.units) opok_eq (SE.p (se_lam (j := 6) (L := (lamS_by (by decide +kernel) : LamX.LamS (defScope s_law) _)) Z mem rfl rfl T.d_law_refused sc_law_refused rfl (by first | exact Or.inl rfl | exact Or.inr (Or.inl rfl)) (gives_law_refused T) (fun A outer s H E f c' r2 => by exact (sl_mk takes_lam H_Night_initD (by exact (sa_cons (SE.p se_int) (sa_cons (SE.p se_int) (sa_cons (SE.p (se_ix (SE.p (se_var 2)) (SE.p se_int))) (sa_cons (SE.p (se_op op_addA opok_add (SE.p (se_var 5)) (SE.p (SF.se (sf_lst (sa_cons (SE.p (se_tup (sa_cons (SE.p se_str) (sa_cons (SE.p se_int) sa_nil)))) sa_nil)))))) sa_nil))))))))) (SE.p (se_tup (sa_cons (SE.p se_str) (sa_cons (SE.p (se_neg (SE.p se_int))) sa_nil))))))))))))))
end Lk11
set_option Elab.async false
set_option linter.all false
set_option maxRecDepth 100000
set_option maxHeartbeats 4000000
namespace Lk11
open PySem L2 DL
/-- the row of the draws -/
def Rw (ns : List Int) (o : OC) : Prop := ∃ i s r : Int, o = .lst [lkd (.list (ns.map .int)), .int i, .int s, .int r] ∧ 0 ≤ i ∧ 0 ≤ r ∧ 0 ≤ s ∧ s ≤ 2147483647
theorem taken {ns : List Int} {o : OC} (h : Rw ns o) (hn : ns.length ≤ 63) (m : Int) (h1 : 0 < m) (h2 : m < 1000000000) : ∃ (t : Int) (o' : OC), F_law_taken [.io o, .sh (.int m)] = some (.int t, [.io o', .sh (.int m)]) ∧ 0 ≤ t ∧ t < m ∧ Rw ns o' := by
  obtain ⟨i, s, r, rfl, hi, hr, hs, hs2⟩ := h
  have c0 : ∀ a b c d : D, atI [a, b, c, d] 0 = some a := fun _ _ _ _ => rfl
  have c1 : ∀ a b c d : D, atI [a, b, c, d] 1 = some b := fun _ _ _ _ => rfl
  have c2 : ∀ a b c d : D, atI [a, b, c, d] 2 = some c := fun _ _ _ _ => rfl
  have c3 : ∀ a b c d : D, atI [a, b, c, d] 3 = some d := fun _ _ _ _ => rfl
  have n1 : ixN 4 1 = some 1 := rfl
  have n2 : ixN 4 2 = some 2 := rfl
  have n3 : ixN 4 3 = some 3 := rfl
  unfold F_law_taken b_law_taken
  by_cases hr0 : 0 < r
  · have e : r > 0 := hr0
    simp only [DL.mSeq, DL.mIfS, DL.mTest, DL.mAnd, DL.mOr, DL.mNot, DL.mAndV, DL.mOrV, DL.mNotV, DL.mIf, DL.mChain, DL.mOp, DL.mUn, DL.mCall, DL.mC, DL.mVar, DL.pE, DL.pO, DL.fE, DL.aNil, DL.aCons, DL.mFn, DL.mFnG, DL.mTru, DL.mIsi, DL.mIsiT, DL.mNext, DL.mRet, DL.mRetO, DL.mRetF, DL.mRetN, DL.mDrop, DL.mAsg, DL.mOwn, DL.mAug, DL.mSetL, DL.mMt, DL.mTup, DL.mLstF, DL.mDTF, DL.mDKF, DL.mYes, DL.gNm, DL.gTp, DL.gsNil, DL.gsCons, DL.mFrz, DL.frz, DL.mListF, DL.mListRg2, DL.mListRg1, DL.mFnB, List.map_cons, List.map_nil, DL.flatD, DL.mLcF, DL.okW, DL.wipeR, DL.restR, DL.rngD_len, Int.toNat_natCast, Bool.and_self, Bool.and_true, Bool.true_and, DL.mFor, DL.mRng1, DL.mRng2, DL.mIter, DL.mEnumA, Option.bind_some, Option.bind_none, Option.map_some, Option.map_none, List.getElem?_cons_succ, List.getElem?_cons_zero, List.getElem?_nil, List.set_cons_succ, List.set_cons_zero, DL.Sl.oc, DL.Sl.put, DL.ocAt, DL.putAt, DL.ocFits, DL.isIo, DL.rsv, DL.rsvs, DL.vals, DL.toSl, DL.toSls, DL.back, DL.owns, DL.ocD, DL.fin, DL.runF, DL.runG, DL.runP, DL.runQ, List.length_cons, List.length_nil, List.length_set, List.replicate, List.cons_append, List.nil_append, List.nodup_nil, List.nodup_cons, List.not_mem_nil, not_false_eq_true, and_self, and_true, true_and, if_true, if_false, reduceCtorEq, Bool.false_eq_true, ite_true, ite_false, List.mem_cons, or_false, false_or, DL.addD, DL.subD, DL.iD, DL.cmpD, DL.ltD, DL.leD, DL.gtD, DL.geD, DL.ixD, DL.int1D, DL.int2D, DL.intD, DL.absD, DL.min2D, DL.max2D, DL.lenD, DL.itemsD, DL.tupleD, DL.negD, DL.truD, DL.isD, DL.isNotD, DL.isNone, Bool.not_true, Bool.not_false, Nat.reduceAdd, Nat.reduceSub, Nat.reduceLT, Nat.reduceLeDiff, ↓reduceIte, DL.OC.lst.injEq, DL.mUn, DL.mBindX, DL.kDrop, DL.kRet, DL.kAsg, DL.runX, DL.okX, DL.mSetF, DL.putFD, DL.mSIn, DL.mSGet, DL.mIterS, c3, n3, modD_of h1, fdivD_of h1 (show m < 1073741824 by omega), decide_eq_true e]
    exact ⟨_, _, rfl, Int.emod_nonneg _ (by omega), Int.emod_lt_of_pos _ h1, i, s, r / m, rfl, hi, Int.ediv_nonneg hr (by omega), hs, hs2⟩
  · have f1 : decide (r > 0) = false := decide_eq_false (by omega)
    have hp : ∀ x : Int, 0 ≤ x % m ∧ x % m < m := fun x => ⟨Int.emod_nonneg _ (by omega), Int.emod_lt_of_pos _ h1⟩
    have hq : ∀ x : Int, 0 ≤ x % 2147483647 ∧ x % 2147483647 ≤ 2147483647 := fun x => ⟨Int.emod_nonneg _ (by omega), Int.le_of_lt (Int.emod_lt_of_pos _ (by omega))⟩
    by_cases hl : i + 1 > (ns.length : Int)
    · simp only [DL.mSeq, DL.mIfS, DL.mTest, DL.mAnd, DL.mOr, DL.mNot, DL.mAndV, DL.mOrV, DL.mNotV, DL.mIf, DL.mChain, DL.mOp, DL.mUn, DL.mCall, DL.mC, DL.mVar, DL.pE, DL.pO, DL.fE, DL.aNil, DL.aCons, DL.mFn, DL.mFnG, DL.mTru, DL.mIsi, DL.mIsiT, DL.mNext, DL.mRet, DL.mRetO, DL.mRetF, DL.mRetN, DL.mDrop, DL.mAsg, DL.mOwn, DL.mAug, DL.mSetL, DL.mMt, DL.mTup, DL.mLstF, DL.mDTF, DL.mDKF, DL.mYes, DL.gNm, DL.gTp, DL.gsNil, DL.gsCons, DL.mFrz, DL.frz, DL.mListF, DL.mListRg2, DL.mListRg1, DL.mFnB, List.map_cons, List.map_nil, DL.flatD, DL.mLcF, DL.okW, DL.wipeR, DL.restR, DL.rngD_len, Int.toNat_natCast, Bool.and_self, Bool.and_true, Bool.true_and, DL.mFor, DL.mRng1, DL.mRng2, DL.mIter, DL.mEnumA, Option.bind_some, Option.bind_none, Option.map_some, Option.map_none, List.getElem?_cons_succ, List.getElem?_cons_zero, List.getElem?_nil, List.set_cons_succ, List.set_cons_zero, DL.Sl.oc, DL.Sl.put, DL.ocAt, DL.putAt, DL.ocFits, DL.isIo, DL.rsv, DL.rsvs, DL.vals, DL.toSl, DL.toSls, DL.back, DL.owns, DL.ocD, DL.fin, DL.runF, DL.runG, DL.runP, DL.runQ, List.length_cons, List.length_nil, List.length_set, List.replicate, List.cons_append, List.nil_append, List.nodup_nil, List.nodup_cons, List.not_mem_nil, not_false_eq_true, and_self, and_true, true_and, if_true, if_false, reduceCtorEq, Bool.false_eq_true, ite_true, ite_false, List.mem_cons, or_false, false_or, DL.addD, DL.subD, DL.iD, DL.cmpD, DL.ltD, DL.leD, DL.gtD, DL.geD, DL.ixD, DL.int1D, DL.int2D, DL.intD, DL.absD, DL.min2D, DL.max2D, DL.lenD, DL.itemsD, DL.tupleD, DL.negD, DL.truD, DL.isD, DL.isNotD, DL.isNone, Bool.not_true, Bool.not_false, Nat.reduceAdd, Nat.reduceSub, Nat.reduceLT, Nat.reduceLeDiff, ↓reduceIte, DL.OC.lst.injEq, DL.mUn, DL.mBindX, DL.kDrop, DL.kRet, DL.kAsg, DL.runX, DL.okX, DL.mSetF, DL.putFD, DL.mSIn, DL.mSGet, DL.mIterS, c3, c2, c1, c0, n3, n2, n1, f1, lkd, List.length_map, decide_eq_true hl, mulD_l (i := s) (j := 48271) (by omega) (by omega), modD_of (j := 2147483647) (by omega), modD_of h1, fdivD_of (j := 7) (by omega) (by omega)]
      exact ⟨_, _, rfl, (hp _).1, (hp _).2, i + 1, _, r, rfl, by omega, hr, (hq _).1, (hq _).2⟩
    · have f2 : decide (i + 1 > (ns.length : Int)) = false := decide_eq_false hl
      obtain ⟨n, hn'⟩ : ∃ n : Nat, i = n := ⟨i.toNat, by omega⟩
      obtain ⟨v, hv⟩ : ∃ v, ns[n]? = some v := ⟨_, List.getElem?_eq_getElem (by omega)⟩
      have ca : atI (ns.map PyData.int) (i + 1 - 1) = some (.int v) := atI_of (n := n) (by omega) (by rw [List.getElem?_map, hv]; rfl)
      have p18 : powD (.int 10) (.int 18) = some (.int 1000000000000000000) := powD_of (by omega) (by omega) (by decide)
      by_cases hb : v ≥ 1000000000000000000
      · simp only [DL.mSeq, DL.mIfS, DL.mTest, DL.mAnd, DL.mOr, DL.mNot, DL.mAndV, DL.mOrV, DL.mNotV, DL.mIf, DL.mChain, DL.mOp, DL.mUn, DL.mCall, DL.mC, DL.mVar, DL.pE, DL.pO, DL.fE, DL.aNil, DL.aCons, DL.mFn, DL.mFnG, DL.mTru, DL.mIsi, DL.mIsiT, DL.mNext, DL.mRet, DL.mRetO, DL.mRetF, DL.mRetN, DL.mDrop, DL.mAsg, DL.mOwn, DL.mAug, DL.mSetL, DL.mMt, DL.mTup, DL.mLstF, DL.mDTF, DL.mDKF, DL.mYes, DL.gNm, DL.gTp, DL.gsNil, DL.gsCons, DL.mFrz, DL.frz, DL.mListF, DL.mListRg2, DL.mListRg1, DL.mFnB, List.map_cons, List.map_nil, DL.flatD, DL.mLcF, DL.okW, DL.wipeR, DL.restR, DL.rngD_len, Int.toNat_natCast, Bool.and_self, Bool.and_true, Bool.true_and, DL.mFor, DL.mRng1, DL.mRng2, DL.mIter, DL.mEnumA, Option.bind_some, Option.bind_none, Option.map_some, Option.map_none, List.getElem?_cons_succ, List.getElem?_cons_zero, List.getElem?_nil, List.set_cons_succ, List.set_cons_zero, DL.Sl.oc, DL.Sl.put, DL.ocAt, DL.putAt, DL.ocFits, DL.isIo, DL.rsv, DL.rsvs, DL.vals, DL.toSl, DL.toSls, DL.back, DL.owns, DL.ocD, DL.fin, DL.runF, DL.runG, DL.runP, DL.runQ, List.length_cons, List.length_nil, List.length_set, List.replicate, List.cons_append, List.nil_append, List.nodup_nil, List.nodup_cons, List.not_mem_nil, not_false_eq_true, and_self, and_true, true_and, if_true, if_false, reduceCtorEq, Bool.false_eq_true, ite_true, ite_false, List.mem_cons, or_false, false_or, DL.addD, DL.subD, DL.iD, DL.cmpD, DL.ltD, DL.leD, DL.gtD, DL.geD, DL.ixD, DL.int1D, DL.int2D, DL.intD, DL.absD, DL.min2D, DL.max2D, DL.lenD, DL.itemsD, DL.tupleD, DL.negD, DL.truD, DL.isD, DL.isNotD, DL.isNone, Bool.not_true, Bool.not_false, Nat.reduceAdd, Nat.reduceSub, Nat.reduceLT, Nat.reduceLeDiff, ↓reduceIte, DL.OC.lst.injEq, DL.mUn, DL.mBindX, DL.kDrop, DL.kRet, DL.kAsg, DL.runX, DL.okX, DL.mSetF, DL.putFD, DL.mSIn, DL.mSGet, DL.mIterS, c3, c2, c1, c0, n3, n2, n1, f1, f2, ca, lkd, List.length_map, p18, decide_eq_true hb, mulD_l (i := s) (j := 48271) (by omega) (by omega), modD_of (j := 2147483647) (by omega), modD_of h1, fdivD_of h1 (show m < 1073741824 by omega)]
        exact ⟨_, _, rfl, (hp _).1, (hp _).2, i + 1, _, _, rfl, by omega, Int.ediv_nonneg (by omega) (by omega), (hq _).1, (hq _).2⟩
      · simp only [DL.mSeq, DL.mIfS, DL.mTest, DL.mAnd, DL.mOr, DL.mNot, DL.mAndV, DL.mOrV, DL.mNotV, DL.mIf, DL.mChain, DL.mOp, DL.mUn, DL.mCall, DL.mC, DL.mVar, DL.pE, DL.pO, DL.fE, DL.aNil, DL.aCons, DL.mFn, DL.mFnG, DL.mTru, DL.mIsi, DL.mIsiT, DL.mNext, DL.mRet, DL.mRetO, DL.mRetF, DL.mRetN, DL.mDrop, DL.mAsg, DL.mOwn, DL.mAug, DL.mSetL, DL.mMt, DL.mTup, DL.mLstF, DL.mDTF, DL.mDKF, DL.mYes, DL.gNm, DL.gTp, DL.gsNil, DL.gsCons, DL.mFrz, DL.frz, DL.mListF, DL.mListRg2, DL.mListRg1, DL.mFnB, List.map_cons, List.map_nil, DL.flatD, DL.mLcF, DL.okW, DL.wipeR, DL.restR, DL.rngD_len, Int.toNat_natCast, Bool.and_self, Bool.and_true, Bool.true_and, DL.mFor, DL.mRng1, DL.mRng2, DL.mIter, DL.mEnumA, Option.bind_some, Option.bind_none, Option.map_some, Option.map_none, List.getElem?_cons_succ, List.getElem?_cons_zero, List.getElem?_nil, List.set_cons_succ, List.set_cons_zero, DL.Sl.oc, DL.Sl.put, DL.ocAt, DL.putAt, DL.ocFits, DL.isIo, DL.rsv, DL.rsvs, DL.vals, DL.toSl, DL.toSls, DL.back, DL.owns, DL.ocD, DL.fin, DL.runF, DL.runG, DL.runP, DL.runQ, List.length_cons, List.length_nil, List.length_set, List.replicate, List.cons_append, List.nil_append, List.nodup_nil, List.nodup_cons, List.not_mem_nil, not_false_eq_true, and_self, and_true, true_and, if_true, if_false, reduceCtorEq, Bool.false_eq_true, ite_true, ite_false, List.mem_cons, or_false, false_or, DL.addD, DL.subD, DL.iD, DL.cmpD, DL.ltD, DL.leD, DL.gtD, DL.geD, DL.ixD, DL.int1D, DL.int2D, DL.intD, DL.absD, DL.min2D, DL.max2D, DL.lenD, DL.itemsD, DL.tupleD, DL.negD, DL.truD, DL.isD, DL.isNotD, DL.isNone, Bool.not_true, Bool.not_false, Nat.reduceAdd, Nat.reduceSub, Nat.reduceLT, Nat.reduceLeDiff, ↓reduceIte, DL.OC.lst.injEq, DL.mUn, DL.mBindX, DL.kDrop, DL.kRet, DL.kAsg, DL.runX, DL.okX, DL.mSetF, DL.putFD, DL.mSIn, DL.mSGet, DL.mIterS, c3, c2, c1, c0, n3, n2, n1, f1, f2, ca, lkd, List.length_map, p18, decide_eq_false hb, mulD_l (i := s) (j := 48271) (by omega) (by omega), modD_of (j := 2147483647) (by omega), modD_of h1, fdivD_of h1 (show m < 1073741824 by omega)]
        exact ⟨_, _, rfl, (hp _).1, (hp _).2, i + 1, _, r, rfl, by omega, hr, (hq _).1, (hq _).2⟩
theorem pick {ns : List Int} {o : OC} (h : Rw ns o) (hn : ns.length ≤ 63) (ds : List D) (h1 : 0 < ds.length) (h2 : ds.length ≤ 1000) : ∃ (d : D) (o' : OC), F_law_pick [.io o, .sh (.list ds)] = some (d, [.io o', .sh (.list ds)]) ∧ d ∈ ds ∧ Rw ns o' := by
  obtain ⟨t, o', ht, t0, t1, hr⟩ := taken h hn (ds.length : Int) (by omega) (by omega)
  obtain ⟨d, hd⟩ : ∃ d, ds[t.toNat]? = some d := ⟨_, List.getElem?_eq_getElem (by omega)⟩
  have ca : atI ds t = some d := atI_of (n := t.toNat) (by omega) hd
  refine ⟨d, o', ?_, List.mem_of_getElem? hd, hr⟩
  unfold F_law_pick b_law_pick
  simp only [DL.mSeq, DL.mIfS, DL.mTest, DL.mAnd, DL.mOr, DL.mNot, DL.mAndV, DL.mOrV, DL.mNotV, DL.mIf, DL.mChain, DL.mOp, DL.mUn, DL.mCall, DL.mC, DL.mVar, DL.pE, DL.pO, DL.fE, DL.aNil, DL.aCons, DL.mFn, DL.mFnG, DL.mTru, DL.mIsi, DL.mIsiT, DL.mNext, DL.mRet, DL.mRetO, DL.mRetF, DL.mRetN, DL.mDrop, DL.mAsg, DL.mOwn, DL.mAug, DL.mSetL, DL.mMt, DL.mTup, DL.mLstF, DL.mDTF, DL.mDKF, DL.mYes, DL.gNm, DL.gTp, DL.gsNil, DL.gsCons, DL.mFrz, DL.frz, DL.mListF, DL.mListRg2, DL.mListRg1, DL.mFnB, List.map_cons, List.map_nil, DL.flatD, DL.mLcF, DL.okW, DL.wipeR, DL.restR, DL.rngD_len, Int.toNat_natCast, Bool.and_self, Bool.and_true, Bool.true_and, DL.mFor, DL.mRng1, DL.mRng2, DL.mIter, DL.mEnumA, Option.bind_some, Option.bind_none, Option.map_some, Option.map_none, List.getElem?_cons_succ, List.getElem?_cons_zero, List.getElem?_nil, List.set_cons_succ, List.set_cons_zero, DL.Sl.oc, DL.Sl.put, DL.ocAt, DL.putAt, DL.ocFits, DL.isIo, DL.rsv, DL.rsvs, DL.vals, DL.toSl, DL.toSls, DL.back, DL.owns, DL.ocD, DL.fin, DL.runF, DL.runG, DL.runP, DL.runQ, List.length_cons, List.length_nil, List.length_set, List.replicate, List.cons_append, List.nil_append, List.nodup_nil, List.nodup_cons, List.not_mem_nil, not_false_eq_true, and_self, and_true, true_and, if_true, if_false, reduceCtorEq, Bool.false_eq_true, ite_true, ite_false, List.mem_cons, or_false, false_or, DL.addD, DL.subD, DL.iD, DL.cmpD, DL.ltD, DL.leD, DL.gtD, DL.geD, DL.ixD, DL.int1D, DL.int2D, DL.intD, DL.absD, DL.min2D, DL.max2D, DL.lenD, DL.itemsD, DL.tupleD, DL.negD, DL.truD, DL.isD, DL.isNotD, DL.isNone, Bool.not_true, Bool.not_false, Nat.reduceAdd, Nat.reduceSub, Nat.reduceLT, Nat.reduceLeDiff, ↓reduceIte, DL.OC.lst.injEq, DL.mUn, DL.mBindX, DL.kDrop, DL.kRet, DL.kAsg, DL.runX, DL.okX, DL.mSetF, DL.putFD, DL.mSIn, DL.mSGet, DL.mIterS, ht, ca]

end Lk11
set_option Elab.async false
set_option linter.all false
set_option maxRecDepth 100000
set_option maxHeartbeats 4000000
namespace Lk11
open PySem L2 DL
def isI : D → Bool
  | .int _ => true
  | _ => false
theorem integer_any {d : D} (hd : isDict d = false) : F_is_integer [.sh d] = some (.bool (isI d), [.sh d]) := by
  have t1 := isi_int d hd
  have t2 := isi_bool d hd
  unfold F_is_integer b_is_integer
  cases d with
  | dict x => cases hd
  | _ => simp only [DL.mSeq, DL.mIfS, DL.mTest, DL.mAnd, DL.mOr, DL.mNot, DL.mAndV, DL.mOrV, DL.mNotV, DL.mIf, DL.mChain, DL.mOp, DL.mUn, DL.mCall, DL.mC, DL.mVar, DL.pE, DL.pO, DL.fE, DL.aNil, DL.aCons, DL.mFn, DL.mFnG, DL.mTru, DL.mIsi, DL.mIsiT, DL.mNext, DL.mRet, DL.mRetO, DL.mRetF, DL.mRetN, DL.mDrop, DL.mAsg, DL.mOwn, DL.mAug, DL.mSetL, DL.mMt, DL.mTup, DL.mLstF, DL.mDTF, DL.mDKF, DL.mYes, DL.gNm, DL.gTp, DL.gsNil, DL.gsCons, DL.mFrz, DL.frz, DL.mListF, DL.mListRg2, DL.mListRg1, DL.mFnB, List.map_cons, List.map_nil, DL.flatD, DL.mLcF, DL.okW, DL.wipeR, DL.restR, DL.rngD_len, Int.toNat_natCast, Bool.and_self, Bool.and_true, Bool.true_and, DL.mFor, DL.mRng1, DL.mRng2, DL.mIter, DL.mEnumA, Option.bind_some, Option.bind_none, Option.map_some, Option.map_none, List.getElem?_cons_succ, List.getElem?_cons_zero, List.getElem?_nil, List.set_cons_succ, List.set_cons_zero, DL.Sl.oc, DL.Sl.put, DL.ocAt, DL.putAt, DL.ocFits, DL.isIo, DL.rsv, DL.rsvs, DL.vals, DL.toSl, DL.toSls, DL.back, DL.owns, DL.ocD, DL.fin, DL.runF, DL.runG, DL.runP, DL.runQ, List.length_cons, List.length_nil, List.length_set, List.replicate, List.cons_append, List.nil_append, List.nodup_nil, List.nodup_cons, List.not_mem_nil, not_false_eq_true, and_self, and_true, true_and, if_true, if_false, reduceCtorEq, Bool.false_eq_true, ite_true, ite_false, List.mem_cons, or_false, false_or, DL.addD, DL.subD, DL.iD, DL.cmpD, DL.ltD, DL.leD, DL.gtD, DL.geD, DL.ixD, DL.int1D, DL.int2D, DL.intD, DL.absD, DL.min2D, DL.max2D, DL.lenD, DL.itemsD, DL.tupleD, DL.negD, DL.truD, DL.isD, DL.isNotD, DL.isNone, Bool.not_true, Bool.not_false, Nat.reduceAdd, Nat.reduceSub, Nat.reduceLT, Nat.reduceLeDiff, ↓reduceIte, DL.OC.lst.injEq, DL.mUn, DL.mBindX, DL.kDrop, DL.kRet, DL.kAsg, DL.runX, DL.okX, DL.mSetF, DL.putFD, DL.mSIn, DL.mSGet, DL.mIterS, t1, t2, isI]
theorem within_any {d : D} (hd : isDict d = false) (a b : Int) : F_is_within [.sh d, .sh (.int a), .sh (.int b)] = some (.bool (inR a b d), [.sh d, .sh (.int a), .sh (.int b)]) := by
  have i1 := integer_any hd
  unfold F_is_within b_is_within
  cases d with
  | int x =>
    cases h1 : decide (a ≤ x) with
    | true => simp only [DL.mSeq, DL.mIfS, DL.mTest, DL.mAnd, DL.mOr, DL.mNot, DL.mAndV, DL.mOrV, DL.mNotV, DL.mIf, DL.mChain, DL.mOp, DL.mUn, DL.mCall, DL.mC, DL.mVar, DL.pE, DL.pO, DL.fE, DL.aNil, DL.aCons, DL.mFn, DL.mFnG, DL.mTru, DL.mIsi, DL.mIsiT, DL.mNext, DL.mRet, DL.mRetO, DL.mRetF, DL.mRetN, DL.mDrop, DL.mAsg, DL.mOwn, DL.mAug, DL.mSetL, DL.mMt, DL.mTup, DL.mLstF, DL.mDTF, DL.mDKF, DL.mYes, DL.gNm, DL.gTp, DL.gsNil, DL.gsCons, DL.mFrz, DL.frz, DL.mListF, DL.mListRg2, DL.mListRg1, DL.mFnB, List.map_cons, List.map_nil, DL.flatD, DL.mLcF, DL.okW, DL.wipeR, DL.restR, DL.rngD_len, Int.toNat_natCast, Bool.and_self, Bool.and_true, Bool.true_and, DL.mFor, DL.mRng1, DL.mRng2, DL.mIter, DL.mEnumA, Option.bind_some, Option.bind_none, Option.map_some, Option.map_none, List.getElem?_cons_succ, List.getElem?_cons_zero, List.getElem?_nil, List.set_cons_succ, List.set_cons_zero, DL.Sl.oc, DL.Sl.put, DL.ocAt, DL.putAt, DL.ocFits, DL.isIo, DL.rsv, DL.rsvs, DL.vals, DL.toSl, DL.toSls, DL.back, DL.owns, DL.ocD, DL.fin, DL.runF, DL.runG, DL.runP, DL.runQ, List.length_cons, List.length_nil, List.length_set, List.replicate, List.cons_append, List.nil_append, List.nodup_nil, List.nodup_cons, List.not_mem_nil, not_false_eq_true, and_self, and_true, true_and, if_true, if_false, reduceCtorEq, Bool.false_eq_true, ite_true, ite_false, List.mem_cons, or_false, false_or, DL.addD, DL.subD, DL.iD, DL.cmpD, DL.ltD, DL.leD, DL.gtD, DL.geD, DL.ixD, DL.int1D, DL.int2D, DL.intD, DL.absD, DL.min2D, DL.max2D, DL.lenD, DL.itemsD, DL.tupleD, DL.negD, DL.truD, DL.isD, DL.isNotD, DL.isNone, Bool.not_true, Bool.not_false, Nat.reduceAdd, Nat.reduceSub, Nat.reduceLT, Nat.reduceLeDiff, ↓reduceIte, DL.OC.lst.injEq, DL.mUn, DL.mBindX, DL.kDrop, DL.kRet, DL.kAsg, DL.runX, DL.okX, DL.mSetF, DL.putFD, DL.mSIn, DL.mSGet, DL.mIterS, i1, isI, h1, inR]
    | false => simp only [DL.mSeq, DL.mIfS, DL.mTest, DL.mAnd, DL.mOr, DL.mNot, DL.mAndV, DL.mOrV, DL.mNotV, DL.mIf, DL.mChain, DL.mOp, DL.mUn, DL.mCall, DL.mC, DL.mVar, DL.pE, DL.pO, DL.fE, DL.aNil, DL.aCons, DL.mFn, DL.mFnG, DL.mTru, DL.mIsi, DL.mIsiT, DL.mNext, DL.mRet, DL.mRetO, DL.mRetF, DL.mRetN, DL.mDrop, DL.mAsg, DL.mOwn, DL.mAug, DL.mSetL, DL.mMt, DL.mTup, DL.mLstF, DL.mDTF, DL.mDKF, DL.mYes, DL.gNm, DL.gTp, DL.gsNil, DL.gsCons, DL.mFrz, DL.frz, DL.mListF, DL.mListRg2, DL.mListRg1, DL.mFnB, List.map_cons, List.map_nil, DL.flatD, DL.mLcF, DL.okW, DL.wipeR, DL.restR, DL.rngD_len, Int.toNat_natCast, Bool.and_self, Bool.and_true, Bool.true_and, DL.mFor, DL.mRng1, DL.mRng2, DL.mIter, DL.mEnumA, Option.bind_some, Option.bind_none, Option.map_some, Option.map_none, List.getElem?_cons_succ, List.getElem?_cons_zero, List.getElem?_nil, List.set_cons_succ, List.set_cons_zero, DL.Sl.oc, DL.Sl.put, DL.ocAt, DL.putAt, DL.ocFits, DL.isIo, DL.rsv, DL.rsvs, DL.vals, DL.toSl, DL.toSls, DL.back, DL.owns, DL.ocD, DL.fin, DL.runF, DL.runG, DL.runP, DL.runQ, List.length_cons, List.length_nil, List.length_set, List.replicate, List.cons_append, List.nil_append, List.nodup_nil, List.nodup_cons, List.not_mem_nil, not_false_eq_true, and_self, and_true, true_and, if_true, if_false, reduceCtorEq, Bool.false_eq_true, ite_true, ite_false, List.mem_cons, or_false, false_or, DL.addD, DL.subD, DL.iD, DL.cmpD, DL.ltD, DL.leD, DL.gtD, DL.geD, DL.ixD, DL.int1D, DL.int2D, DL.intD, DL.absD, DL.min2D, DL.max2D, DL.lenD, DL.itemsD, DL.tupleD, DL.negD, DL.truD, DL.isD, DL.isNotD, DL.isNone, Bool.not_true, Bool.not_false, Nat.reduceAdd, Nat.reduceSub, Nat.reduceLT, Nat.reduceLeDiff, ↓reduceIte, DL.OC.lst.injEq, DL.mUn, DL.mBindX, DL.kDrop, DL.kRet, DL.kAsg, DL.runX, DL.okX, DL.mSetF, DL.putFD, DL.mSIn, DL.mSGet, DL.mIterS, i1, isI, h1, inR, Bool.false_and]
  | dict x => cases hd
  | _ => simp only [DL.mSeq, DL.mIfS, DL.mTest, DL.mAnd, DL.mOr, DL.mNot, DL.mAndV, DL.mOrV, DL.mNotV, DL.mIf, DL.mChain, DL.mOp, DL.mUn, DL.mCall, DL.mC, DL.mVar, DL.pE, DL.pO, DL.fE, DL.aNil, DL.aCons, DL.mFn, DL.mFnG, DL.mTru, DL.mIsi, DL.mIsiT, DL.mNext, DL.mRet, DL.mRetO, DL.mRetF, DL.mRetN, DL.mDrop, DL.mAsg, DL.mOwn, DL.mAug, DL.mSetL, DL.mMt, DL.mTup, DL.mLstF, DL.mDTF, DL.mDKF, DL.mYes, DL.gNm, DL.gTp, DL.gsNil, DL.gsCons, DL.mFrz, DL.frz, DL.mListF, DL.mListRg2, DL.mListRg1, DL.mFnB, List.map_cons, List.map_nil, DL.flatD, DL.mLcF, DL.okW, DL.wipeR, DL.restR, DL.rngD_len, Int.toNat_natCast, Bool.and_self, Bool.and_true, Bool.true_and, DL.mFor, DL.mRng1, DL.mRng2, DL.mIter, DL.mEnumA, Option.bind_some, Option.bind_none, Option.map_some, Option.map_none, List.getElem?_cons_succ, List.getElem?_cons_zero, List.getElem?_nil, List.set_cons_succ, List.set_cons_zero, DL.Sl.oc, DL.Sl.put, DL.ocAt, DL.putAt, DL.ocFits, DL.isIo, DL.rsv, DL.rsvs, DL.vals, DL.toSl, DL.toSls, DL.back, DL.owns, DL.ocD, DL.fin, DL.runF, DL.runG, DL.runP, DL.runQ, List.length_cons, List.length_nil, List.length_set, List.replicate, List.cons_append, List.nil_append, List.nodup_nil, List.nodup_cons, List.not_mem_nil, not_false_eq_true, and_self, and_true, true_and, if_true, if_false, reduceCtorEq, Bool.false_eq_true, ite_true, ite_false, List.mem_cons, or_false, false_or, DL.addD, DL.subD, DL.iD, DL.cmpD, DL.ltD, DL.leD, DL.gtD, DL.geD, DL.ixD, DL.int1D, DL.int2D, DL.intD, DL.absD, DL.min2D, DL.max2D, DL.lenD, DL.itemsD, DL.tupleD, DL.negD, DL.truD, DL.isD, DL.isNotD, DL.isNone, Bool.not_true, Bool.not_false, Nat.reduceAdd, Nat.reduceSub, Nat.reduceLT, Nat.reduceLeDiff, ↓reduceIte, DL.OC.lst.injEq, DL.mUn, DL.mBindX, DL.kDrop, DL.kRet, DL.kAsg, DL.runX, DL.okX, DL.mSetF, DL.putFD, DL.mSIn, DL.mSGet, DL.mIterS, i1, isI, inR]
theorem within_int {x a b : Int} (h1 : a ≤ x) (h2 : x ≤ b) : F_is_within [.sh (.int x), .sh (.int a), .sh (.int b)] = some (.bool true, [.sh (.int x), .sh (.int a), .sh (.int b)]) := by
  rw [within_any rfl, show inR a b (.int x) = true from (Bool.and_eq_true _ _).mpr ⟨decide_eq_true h1, decide_eq_true h2⟩]
def isTn (n : Nat) : D → Bool
  | .tuple xs => ((xs.length : Nat) : Int) == (n : Int)
  | _ => false
theorem isi_tup (d : D) (hd : isDict d = false) : isiB "tuple" d = some (match d with | .tuple _ => true | _ => false) := by cases d <;> first | rfl | cases hd
theorem tupof_any {d : D} (hd : isDict d = false) (n : Nat) : F_is_tuple_of [.sh d, .sh (.int n)] = some (.bool (isTn n d), [.sh d, .sh (.int n)]) := by
  have t1 := isi_tup d hd
  unfold F_is_tuple_of b_is_tuple_of
  cases d with
  | dict x => cases hd
  | tuple xs => simp only [DL.mSeq, DL.mIfS, DL.mTest, DL.mAnd, DL.mOr, DL.mNot, DL.mAndV, DL.mOrV, DL.mNotV, DL.mIf, DL.mChain, DL.mOp, DL.mUn, DL.mCall, DL.mC, DL.mVar, DL.pE, DL.pO, DL.fE, DL.aNil, DL.aCons, DL.mFn, DL.mFnG, DL.mTru, DL.mIsi, DL.mIsiT, DL.mNext, DL.mRet, DL.mRetO, DL.mRetF, DL.mRetN, DL.mDrop, DL.mAsg, DL.mOwn, DL.mAug, DL.mSetL, DL.mMt, DL.mTup, DL.mLstF, DL.mDTF, DL.mDKF, DL.mYes, DL.gNm, DL.gTp, DL.gsNil, DL.gsCons, DL.mFrz, DL.frz, DL.mListF, DL.mListRg2, DL.mListRg1, DL.mFnB, List.map_cons, List.map_nil, DL.flatD, DL.mLcF, DL.okW, DL.wipeR, DL.restR, DL.rngD_len, Int.toNat_natCast, Bool.and_self, Bool.and_true, Bool.true_and, DL.mFor, DL.mRng1, DL.mRng2, DL.mIter, DL.mEnumA, Option.bind_some, Option.bind_none, Option.map_some, Option.map_none, List.getElem?_cons_succ, List.getElem?_cons_zero, List.getElem?_nil, List.set_cons_succ, List.set_cons_zero, DL.Sl.oc, DL.Sl.put, DL.ocAt, DL.putAt, DL.ocFits, DL.isIo, DL.rsv, DL.rsvs, DL.vals, DL.toSl, DL.toSls, DL.back, DL.owns, DL.ocD, DL.fin, DL.runF, DL.runG, DL.runP, DL.runQ, List.length_cons, List.length_nil, List.length_set, List.replicate, List.cons_append, List.nil_append, List.nodup_nil, List.nodup_cons, List.not_mem_nil, not_false_eq_true, and_self, and_true, true_and, if_true, if_false, reduceCtorEq, Bool.false_eq_true, ite_true, ite_false, List.mem_cons, or_false, false_or, DL.addD, DL.subD, DL.iD, DL.cmpD, DL.ltD, DL.leD, DL.gtD, DL.geD, DL.ixD, DL.int1D, DL.int2D, DL.intD, DL.absD, DL.min2D, DL.max2D, DL.lenD, DL.itemsD, DL.tupleD, DL.negD, DL.truD, DL.isD, DL.isNotD, DL.isNone, Bool.not_true, Bool.not_false, Nat.reduceAdd, Nat.reduceSub, Nat.reduceLT, Nat.reduceLeDiff, ↓reduceIte, DL.OC.lst.injEq, DL.mUn, DL.mBindX, DL.kDrop, DL.kRet, DL.kAsg, DL.runX, DL.okX, DL.mSetF, DL.putFD, DL.mSIn, DL.mSGet, DL.mIterS, t1, eqD_int, isTn]
  | _ => simp only [DL.mSeq, DL.mIfS, DL.mTest, DL.mAnd, DL.mOr, DL.mNot, DL.mAndV, DL.mOrV, DL.mNotV, DL.mIf, DL.mChain, DL.mOp, DL.mUn, DL.mCall, DL.mC, DL.mVar, DL.pE, DL.pO, DL.fE, DL.aNil, DL.aCons, DL.mFn, DL.mFnG, DL.mTru, DL.mIsi, DL.mIsiT, DL.mNext, DL.mRet, DL.mRetO, DL.mRetF, DL.mRetN, DL.mDrop, DL.mAsg, DL.mOwn, DL.mAug, DL.mSetL, DL.mMt, DL.mTup, DL.mLstF, DL.mDTF, DL.mDKF, DL.mYes, DL.gNm, DL.gTp, DL.gsNil, DL.gsCons, DL.mFrz, DL.frz, DL.mListF, DL.mListRg2, DL.mListRg1, DL.mFnB, List.map_cons, List.map_nil, DL.flatD, DL.mLcF, DL.okW, DL.wipeR, DL.restR, DL.rngD_len, Int.toNat_natCast, Bool.and_self, Bool.and_true, Bool.true_and, DL.mFor, DL.mRng1, DL.mRng2, DL.mIter, DL.mEnumA, Option.bind_some, Option.bind_none, Option.map_some, Option.map_none, List.getElem?_cons_succ, List.getElem?_cons_zero, List.getElem?_nil, List.set_cons_succ, List.set_cons_zero, DL.Sl.oc, DL.Sl.put, DL.ocAt, DL.putAt, DL.ocFits, DL.isIo, DL.rsv, DL.rsvs, DL.vals, DL.toSl, DL.toSls, DL.back, DL.owns, DL.ocD, DL.fin, DL.runF, DL.runG, DL.runP, DL.runQ, List.length_cons, List.length_nil, List.length_set, List.replicate, List.cons_append, List.nil_append, List.nodup_nil, List.nodup_cons, List.not_mem_nil, not_false_eq_true, and_self, and_true, true_and, if_true, if_false, reduceCtorEq, Bool.false_eq_true, ite_true, ite_false, List.mem_cons, or_false, false_or, DL.addD, DL.subD, DL.iD, DL.cmpD, DL.ltD, DL.leD, DL.gtD, DL.geD, DL.ixD, DL.int1D, DL.int2D, DL.intD, DL.absD, DL.min2D, DL.max2D, DL.lenD, DL.itemsD, DL.tupleD, DL.negD, DL.truD, DL.isD, DL.isNotD, DL.isNone, Bool.not_true, Bool.not_false, Nat.reduceAdd, Nat.reduceSub, Nat.reduceLT, Nat.reduceLeDiff, ↓reduceIte, DL.OC.lst.injEq, DL.mUn, DL.mBindX, DL.kDrop, DL.kRet, DL.kAsg, DL.runX, DL.okX, DL.mSetF, DL.putFD, DL.mSIn, DL.mSGet, DL.mIterS, t1, isTn]
end Lk11
set_option Elab.async false
set_option linter.all false
set_option maxRecDepth 100000
set_option maxHeartbeats 4000000
namespace Lk11
open PySem L2 DL
inductive All2 {α β : Type} (R : α → β → Prop) : List α → List β → Prop
  | nil : All2 R [] []
  | cons {a : α} {b : β} {l : List α} {m : List β} : R a b → All2 R l m → All2 R (a :: l) (b :: m)
theorem compD_rel {β : Type} {vs : List Nat} {g : MG} {c : MT} {elt : ME} (P : Rho → Prop) (R : D → β → Prop) (f : β → D) : ∀ (ds : List D) (ρ : Rho), P ρ →
    (∀ d ∈ ds, ∀ ρ, P ρ → ∃ ρ1 y ρ3, g d ρ = some ρ1 ∧ c ρ1 = some (true, ρ1) ∧ elt ρ1 = some (f y, ρ3) ∧ okW ρ3 vs = true ∧ P (wipeR ρ3 vs) ∧ R d y) →
    ∃ ys ρ', compD vs g c elt ds ρ = some (ys.map f, ρ') ∧ P ρ' ∧ ys.length = ds.length ∧ All2 R ds ys
  | [], ρ, hp, _ => ⟨[], ρ, rfl, hp, rfl, .nil⟩
  | d :: ds, ρ, hp, h => by
    obtain ⟨ρ1, y, ρ3, e1, e2, e3, e4, e5, e6⟩ := h d (List.mem_cons_self ..) ρ hp
    obtain ⟨ys, ρ', f1, f2, f3, f4⟩ := compD_rel P R f ds _ e5 fun d hd => h d (List.mem_cons_of_mem _ hd)
    refine ⟨y :: ys, ρ', ?_, f2, congrArg (· + 1) f3, .cons e6 f4⟩
    rw [compD_cons, e1]
    simp only [Option.bind_some, e2, if_true, e3, e4, f1, Option.map_some, List.map_cons]
/-! ### kinds, what a night is made of -/
structure Kd where
  name : Str
  mix : Int
  least : Int
  most : Int
  bake : Int
  fresh : Int
def kdD (k : Kd) : D := .tuple [.str k.name, .int k.mix, .int k.least, .int k.most, .int k.bake, .int k.fresh]
def names4 : List Str := ["rye", "bun", "oat", "fig"]
structure Kv (k : Kd) : Prop where
  mix : 1 ≤ k.mix ∧ k.mix ≤ 3
  least : 0 ≤ k.least ∧ k.least ≤ k.most
  most : k.most ≤ 8
  bake : 1 ≤ k.bake ∧ k.bake ≤ 4
  fresh : 0 ≤ k.fresh ∧ k.fresh ≤ 8
theorem wide_kind {ns : List Int} {o : OC} (h : Rw ns o) (hn : ns.length ≤ 63) (nm : Str) : ∃ (k : Kd) (o' : OC), F_law_wide_kind [.io o, .sh (.str nm)] = some (kdD k, [.io o', .sh (.str nm)]) ∧ k.name = nm ∧ Kv k ∧ Rw ns o' := by
  obtain ⟨t1, o1, e1, a1, b1, r1⟩ := taken h hn 9 (by omega) (by omega)
  obtain ⟨t2, o2, e2, a2, b2, r2⟩ := taken r1 hn 3 (by omega) (by omega)
  obtain ⟨t3, o3, e3, a3, b3, r3⟩ := taken r2 hn (9 - t1) (by omega) (by omega)
  obtain ⟨t4, o4, e4, a4, b4, r4⟩ := taken r3 hn 4 (by omega) (by omega)
  obtain ⟨t5, o5, e5, a5, b5, r5⟩ := taken r4 hn 9 (by omega) (by omega)
  refine ⟨⟨nm, 1 + t2, t1, t1 + t3, 1 + t4, t5⟩, o5, ?_, rfl, ⟨by constructor <;> show _ ≤ _ <;> simp only <;> omega, by constructor <;> show _ ≤ _ <;> simp only <;> omega, by show _ ≤ _; simp only; omega, by constructor <;> show _ ≤ _ <;> simp only <;> omega, by constructor <;> show _ ≤ _ <;> simp only <;> omega⟩, r5⟩
  unfold F_law_wide_kind b_law_wide_kind kdD
  simp only [DL.mSeq, DL.mIfS, DL.mTest, DL.mAnd, DL.mOr, DL.mNot, DL.mAndV, DL.mOrV, DL.mNotV, DL.mIf, DL.mChain, DL.mOp, DL.mUn, DL.mCall, DL.mC, DL.mVar, DL.pE, DL.pO, DL.fE, DL.aNil, DL.aCons, DL.mFn, DL.mFnG, DL.mTru, DL.mIsi, DL.mIsiT, DL.mNext, DL.mRet, DL.mRetO, DL.mRetF, DL.mRetN, DL.mDrop, DL.mAsg, DL.mOwn, DL.mAug, DL.mSetL, DL.mMt, DL.mTup, DL.mLstF, DL.mDTF, DL.mDKF, DL.mYes, DL.gNm, DL.gTp, DL.gsNil, DL.gsCons, DL.mFrz, DL.frz, DL.mListF, DL.mListRg2, DL.mListRg1, DL.mFnB, List.map_cons, List.map_nil, DL.flatD, DL.mLcF, DL.okW, DL.wipeR, DL.restR, DL.rngD_len, Int.toNat_natCast, Bool.and_self, Bool.and_true, Bool.true_and, DL.mFor, DL.mRng1, DL.mRng2, DL.mIter, DL.mEnumA, Option.bind_some, Option.bind_none, Option.map_some, Option.map_none, List.getElem?_cons_succ, List.getElem?_cons_zero, List.getElem?_nil, List.set_cons_succ, List.set_cons_zero, DL.Sl.oc, DL.Sl.put, DL.ocAt, DL.putAt, DL.ocFits, DL.isIo, DL.rsv, DL.rsvs, DL.vals, DL.toSl, DL.toSls, DL.back, DL.owns, DL.ocD, DL.fin, DL.runF, DL.runG, DL.runP, DL.runQ, List.length_cons, List.length_nil, List.length_set, List.replicate, List.cons_append, List.nil_append, List.nodup_nil, List.nodup_cons, List.not_mem_nil, not_false_eq_true, and_self, and_true, true_and, if_true, if_false, reduceCtorEq, Bool.false_eq_true, ite_true, ite_false, List.mem_cons, or_false, false_or, DL.addD, DL.subD, DL.iD, DL.cmpD, DL.ltD, DL.leD, DL.gtD, DL.geD, DL.ixD, DL.int1D, DL.int2D, DL.intD, DL.absD, DL.min2D, DL.max2D, DL.lenD, DL.itemsD, DL.tupleD, DL.negD, DL.truD, DL.isD, DL.isNotD, DL.isNone, Bool.not_true, Bool.not_false, Nat.reduceAdd, Nat.reduceSub, Nat.reduceLT, Nat.reduceLeDiff, ↓reduceIte, DL.OC.lst.injEq, DL.mUn, DL.mBindX, DL.kDrop, DL.kRet, DL.kAsg, DL.runX, DL.okX, DL.mSetF, DL.putFD, DL.mSIn, DL.mSGet, DL.mIterS, e1, e2, e3, e4, e5]
structure Pt where
  hands : Int
  ovens : Int
  kinds : List Kd
  orders : List (Str × Int)
  b0 : Int
  b1 : Int
  b2 : Int
  repair : Int
def odD (q : Str × Int) : D := .tuple [.str q.1, .int q.2]
def ptD (p : Pt) : D := .tuple [.int p.hands, .int p.ovens, .tuple (p.kinds.map kdD), .tuple (p.orders.map odD), .tuple [.int p.b0, .int p.b1, .int p.b2], .int p.repair]
structure Pv (p : Pt) : Prop where
  h : 1 ≤ p.hands ∧ p.hands ≤ 3
  o : 1 ≤ p.ovens ∧ p.ovens ≤ 3
  ks : ∀ k ∈ p.kinds, Kv k
  kn : ∃ n, 1 ≤ n ∧ n ≤ 4 ∧ p.kinds.map Kd.name = names4.take n
  os : ∀ q ∈ p.orders, q.1 ∈ p.kinds.map Kd.name ∧ 0 ≤ q.2 ∧ q.2 ≤ 20
  ol : 1 ≤ p.orders.length ∧ p.orders.length ≤ 5
  b : (0 ≤ p.b0 ∧ p.b0 ≤ 3) ∧ (0 ≤ p.b1 ∧ p.b1 ≤ 3) ∧ 0 ≤ p.b2 ∧ p.b2 ≤ 3
  r : 1 ≤ p.repair ∧ p.repair ≤ 4
theorem all2_names {ks : List Kd} : ∀ {nms : List Str}, All2 (fun d (k : Kd) => ∃ nm, d = PyData.str nm ∧ k.name = nm ∧ Kv k) (nms.map .str) ks → ks.map Kd.name = nms ∧ ∀ k ∈ ks, Kv k := by
  induction ks with
  | nil =>
    intro nms h
    cases nms with
    | nil => exact ⟨rfl, fun _ h => (nomatch h)⟩
    | cons a l => cases h
  | cons k ks ih =>
    intro nms h
    cases nms with
    | nil => cases h
    | cons a l =>
      cases h with
      | cons h1 h2 =>
        obtain ⟨nm, e, e2, v⟩ := h1
        cases e
        obtain ⟨i1, i2⟩ := ih h2
        refine ⟨by rw [List.map_cons, e2, i1], fun x hx => ?_⟩
        rcases List.mem_cons.mp hx with rfl | hx
        · exact v
        · exact i2 x hx
theorem all2_mem {α β : Type} {R : α → β → Prop} {l : List α} {m : List β} (h : All2 R l m) : ∀ y ∈ m, ∃ x ∈ l, R x y := by
  induction h with
  | nil => exact fun _ h => (nomatch h)
  | cons h1 _ ih =>
    intro y hy
    rcases List.mem_cons.mp hy with rfl | hy
    · exact ⟨_, List.mem_cons_self .., h1⟩
    · obtain ⟨x, hx, r⟩ := ih y hy
      exact ⟨x, List.mem_cons_of_mem _ hx, r⟩
theorem wide_night {ns : List Int} {o : OC} (h : Rw ns o) (hn : ns.length ≤ 63) : ∃ (p : Pt) (o' : OC), F_law_wide_night [.io o] = some (ptD p, [.io o']) ∧ Pv p ∧ Rw ns o' := by
  obtain ⟨t1, o1, e1, a1, b1, r1⟩ := taken h hn 4 (by omega) (by omega)
  obtain ⟨n, hnn, n1, n4⟩ : ∃ n : Nat, (1 + t1 : Int) = n ∧ 1 ≤ n ∧ n ≤ 4 := ⟨(1 + t1).toNat, by omega, by omega, by omega⟩
  have hsl : slD (.list [.str "rye", .str "bun", .str "oat", .str "fig"]) none (some (1 + t1)) = some (.list ((names4.take n).map .str)) := by
    rw [hnn]
    show some (PyData.list (cutD [.str "rye", .str "bun", .str "oat", .str "fig"] none (some (n : Int)))) = _
    rw [cut_take, List.map_take]; rfl
  have hnl : (names4.take n).length = n := by rw [List.length_take]; show min n 4 = n; omega
  generalize hNM : names4.take n = nms at *
  unfold F_law_wide_night b_law_wide_night
  generalize hE1 : (mFn F_law_wide_kind _ : ME) = el1
  obtain ⟨ks, ρ1, c1, ⟨o2, rfl, r2⟩, l1, A1⟩ := compD_rel (vs := [5]) (g := gNm 5) (c := mYes) (elt := el1) (fun ρ => ∃ o, ρ = [.io o, .sh (.list (nms.map .str)), .no, .no, .no, .no, .no] ∧ Rw ns o) (fun d (k : Kd) => ∃ nm, d = PyData.str nm ∧ k.name = nm ∧ Kv k) kdD (nms.map .str) [.io o1, .sh (.list (nms.map .str)), .no, .no, .no, .no, .no] ⟨o1, rfl, r1⟩ fun d hd ρ ⟨o, e, ro⟩ => by
    subst e
    obtain ⟨nm, _, rfl⟩ := List.mem_map.mp hd
    obtain ⟨k, o', k1, k2, k3, k4⟩ := wide_kind ro hn nm
    refine ⟨_, k, [.io o', .sh (.list (nms.map .str)), .no, .no, .no, .sh (.str nm), .no], rfl, rfl, ?_, rfl, ⟨o', rfl, k4⟩, nm, rfl, k2, k3⟩
    generalize nms.map PyData.str = NM at *
    subst hE1
    simp only [DL.mSeq, DL.mIfS, DL.mTest, DL.mAnd, DL.mOr, DL.mNot, DL.mAndV, DL.mOrV, DL.mNotV, DL.mIf, DL.mChain, DL.mOp, DL.mUn, DL.mCall, DL.mC, DL.mVar, DL.pE, DL.pO, DL.fE, DL.aNil, DL.aCons, DL.mFn, DL.mFnG, DL.mTru, DL.mIsi, DL.mIsiT, DL.mNext, DL.mRet, DL.mRetO, DL.mRetF, DL.mRetN, DL.mDrop, DL.mAsg, DL.mOwn, DL.mAug, DL.mSetL, DL.mMt, DL.mTup, DL.mLstF, DL.mDTF, DL.mDKF, DL.mYes, DL.gNm, DL.gTp, DL.gsNil, DL.gsCons, DL.mFrz, DL.frz, DL.mListF, DL.mListRg2, DL.mListRg1, DL.mFnB, List.map_cons, List.map_nil, DL.flatD, DL.mLcF, DL.okW, DL.wipeR, DL.restR, DL.rngD_len, Int.toNat_natCast, Bool.and_self, Bool.and_true, Bool.true_and, DL.mFor, DL.mRng1, DL.mRng2, DL.mIter, DL.mEnumA, Option.bind_some, Option.bind_none, Option.map_some, Option.map_none, List.getElem?_cons_succ, List.getElem?_cons_zero, List.getElem?_nil, List.set_cons_succ, List.set_cons_zero, DL.Sl.oc, DL.Sl.put, DL.ocAt, DL.putAt, DL.ocFits, DL.isIo, DL.rsv, DL.rsvs, DL.vals, DL.toSl, DL.toSls, DL.back, DL.owns, DL.ocD, DL.fin, DL.runF, DL.runG, DL.runP, DL.runQ, List.length_cons, List.length_nil, List.length_set, List.replicate, List.cons_append, List.nil_append, List.nodup_nil, List.nodup_cons, List.not_mem_nil, not_false_eq_true, and_self, and_true, true_and, if_true, if_false, reduceCtorEq, Bool.false_eq_true, ite_true, ite_false, List.mem_cons, or_false, false_or, DL.addD, DL.subD, DL.iD, DL.cmpD, DL.ltD, DL.leD, DL.gtD, DL.geD, DL.ixD, DL.int1D, DL.int2D, DL.intD, DL.absD, DL.min2D, DL.max2D, DL.lenD, DL.itemsD, DL.tupleD, DL.negD, DL.truD, DL.isD, DL.isNotD, DL.isNone, Bool.not_true, Bool.not_false, Nat.reduceAdd, Nat.reduceSub, Nat.reduceLT, Nat.reduceLeDiff, ↓reduceIte, DL.OC.lst.injEq, DL.mUn, DL.mBindX, DL.kDrop, DL.kRet, DL.kAsg, DL.runX, DL.okX, DL.mSetF, DL.putFD, DL.mSIn, DL.mSGet, DL.mIterS, k1]
  obtain ⟨kn, kv⟩ := all2_names A1
  rw [List.length_map, hnl] at l1
  obtain ⟨t2, o3, e3, a3, b3, r3⟩ := taken r2 hn 5 (by omega) (by omega)
  obtain ⟨m, hm, m1, m5⟩ : ∃ m : Nat, (1 + t2 : Int) = m ∧ 1 ≤ m ∧ m ≤ 5 := ⟨(1 + t2).toNat, by omega, by omega, by omega⟩
  generalize hE2 : (mTup (aCons (pE (mFn F_law_pick _)) _) : ME) = el2
  obtain ⟨os, ρ2, c2, ⟨o4, rfl, r4⟩, l2, A2⟩ := compD_rel (vs := [6]) (g := gNm 6) (c := mYes) (elt := el2) (fun ρ => ∃ o, ρ = [.io o, .sh (.list (nms.map .str)), .sh (.tuple (ks.map kdD)), .no, .no, .no, .no] ∧ Rw ns o) (fun _ (q : Str × Int) => q.1 ∈ nms ∧ 0 ≤ q.2 ∧ q.2 ≤ 20) odD (rngD 0 m) [.io o3, .sh (.list (nms.map .str)), .sh (.tuple (ks.map kdD)), .no, .no, .no, .no] ⟨o3, rfl, r3⟩ fun d hd ρ ⟨o, e, ro⟩ => by
    subst e
    obtain ⟨y, o', k1, k2, k3⟩ := pick ro hn (nms.map .str) (by rw [List.length_map, hnl]; omega) (by rw [List.length_map, hnl]; omega)
    obtain ⟨nm, hnm, rfl⟩ := List.mem_map.mp k2
    obtain ⟨t, o'', k4, k5, k6, k7⟩ := taken k3 hn 21 (by omega) (by omega)
    refine ⟨[.io o, .sh (.list (nms.map .str)), .sh (.tuple (ks.map kdD)), .no, .no, .no, .sh d], (nm, t), [.io o'', .sh (.list (nms.map .str)), .sh (.tuple (ks.map kdD)), .no, .no, .no, .sh d], rfl, rfl, ?_, rfl, ⟨o'', rfl, k7⟩, hnm, k5, by show t ≤ 20; omega⟩
    unfold odD
    generalize nms.map PyData.str = NM at *
    generalize ks.map kdD = KS at *
    subst hE2
    simp only [DL.mSeq, DL.mIfS, DL.mTest, DL.mAnd, DL.mOr, DL.mNot, DL.mAndV, DL.mOrV, DL.mNotV, DL.mIf, DL.mChain, DL.mOp, DL.mUn, DL.mCall, DL.mC, DL.mVar, DL.pE, DL.pO, DL.fE, DL.aNil, DL.aCons, DL.mFn, DL.mFnG, DL.mTru, DL.mIsi, DL.mIsiT, DL.mNext, DL.mRet, DL.mRetO, DL.mRetF, DL.mRetN, DL.mDrop, DL.mAsg, DL.mOwn, DL.mAug, DL.mSetL, DL.mMt, DL.mTup, DL.mLstF, DL.mDTF, DL.mDKF, DL.mYes, DL.gNm, DL.gTp, DL.gsNil, DL.gsCons, DL.mFrz, DL.frz, DL.mListF, DL.mListRg2, DL.mListRg1, DL.mFnB, List.map_cons, List.map_nil, DL.flatD, DL.mLcF, DL.okW, DL.wipeR, DL.restR, DL.rngD_len, Int.toNat_natCast, Bool.and_self, Bool.and_true, Bool.true_and, DL.mFor, DL.mRng1, DL.mRng2, DL.mIter, DL.mEnumA, Option.bind_some, Option.bind_none, Option.map_some, Option.map_none, List.getElem?_cons_succ, List.getElem?_cons_zero, List.getElem?_nil, List.set_cons_succ, List.set_cons_zero, DL.Sl.oc, DL.Sl.put, DL.ocAt, DL.putAt, DL.ocFits, DL.isIo, DL.rsv, DL.rsvs, DL.vals, DL.toSl, DL.toSls, DL.back, DL.owns, DL.ocD, DL.fin, DL.runF, DL.runG, DL.runP, DL.runQ, List.length_cons, List.length_nil, List.length_set, List.replicate, List.cons_append, List.nil_append, List.nodup_nil, List.nodup_cons, List.not_mem_nil, not_false_eq_true, and_self, and_true, true_and, if_true, if_false, reduceCtorEq, Bool.false_eq_true, ite_true, ite_false, List.mem_cons, or_false, false_or, DL.addD, DL.subD, DL.iD, DL.cmpD, DL.ltD, DL.leD, DL.gtD, DL.geD, DL.ixD, DL.int1D, DL.int2D, DL.intD, DL.absD, DL.min2D, DL.max2D, DL.lenD, DL.itemsD, DL.tupleD, DL.negD, DL.truD, DL.isD, DL.isNotD, DL.isNone, Bool.not_true, Bool.not_false, Nat.reduceAdd, Nat.reduceSub, Nat.reduceLT, Nat.reduceLeDiff, ↓reduceIte, DL.OC.lst.injEq, DL.mUn, DL.mBindX, DL.kDrop, DL.kRet, DL.kAsg, DL.runX, DL.okX, DL.mSetF, DL.putFD, DL.mSIn, DL.mSGet, DL.mIterS, k1, k4]
  rw [rngD_len] at l2
  obtain ⟨u0, p0, f0, g0, h0, s0⟩ := taken r4 hn 4 (by omega) (by omega)
  obtain ⟨u1, p1, f1, g1, h1, s1⟩ := taken s0 hn 4 (by omega) (by omega)
  obtain ⟨u2, p2, f2, g2, h2, s2⟩ := taken s1 hn 4 (by omega) (by omega)
  obtain ⟨u3, p3, f3, g3, h3, s3⟩ := taken s2 hn 3 (by omega) (by omega)
  obtain ⟨u4, p4, f4, g4, h4, s4⟩ := taken s3 hn 3 (by omega) (by omega)
  obtain ⟨u5, p5, f5, g5, h5, s5⟩ := taken s4 hn 4 (by omega) (by omega)
  refine ⟨⟨1 + u3, 1 + u4, ks, os, u0, u1, u2, 1 + u5⟩, p5, ?_, ⟨⟨by show _ ≤ (1 + u3 : Int); omega, by show (1 + u3 : Int) ≤ _; omega⟩, ⟨by show _ ≤ (1 + u4 : Int); omega, by show (1 + u4 : Int) ≤ _; omega⟩, kv, ⟨n, n1, n4, by rw [hNM]; exact kn⟩, fun q hq => ?_, ⟨by show 1 ≤ os.length; omega, by show os.length ≤ 5; omega⟩, ⟨⟨g0, by show u0 ≤ 3; omega⟩, ⟨g1, by show u1 ≤ 3; omega⟩, g2, by show u2 ≤ 3; omega⟩, ⟨by show _ ≤ (1 + u5 : Int); omega, by show (1 + u5 : Int) ≤ _; omega⟩⟩, s5⟩
  · have hl5 : (nms.map PyData.str).length ≤ 50000 := by rw [List.length_map, hnl]; omega
    have bm : -1000000 ≤ (m : Int) ∧ (m : Int) ≤ 1000000 := by omega
    have hm5 : m ≤ 50000 := by omega
    have ha2 : addD (.int 1) (.int t2) = some (.int (m : Int)) := by rw [← hm]; rfl
    have ha1 : addD (.int 1) (.int t1) = some (.int (1 + t1)) := rfl
    have ha3 : ∀ u : Int, addD (.int 1) (.int u) = some (.int (1 + u)) := fun _ => rfl
    unfold ptD
    generalize nms.map PyData.str = NM at *
    generalize ks.map kdD = KS at *
    generalize os.map odD = OS at *
    generalize (addD : D → D → Option D) = ad at *
    simp only [DL.mSeq, DL.mIfS, DL.mTest, DL.mAnd, DL.mOr, DL.mNot, DL.mAndV, DL.mOrV, DL.mNotV, DL.mIf, DL.mChain, DL.mOp, DL.mUn, DL.mCall, DL.mC, DL.mVar, DL.pE, DL.pO, DL.fE, DL.aNil, DL.aCons, DL.mFn, DL.mFnG, DL.mTru, DL.mIsi, DL.mIsiT, DL.mNext, DL.mRet, DL.mRetO, DL.mRetF, DL.mRetN, DL.mDrop, DL.mAsg, DL.mOwn, DL.mAug, DL.mSetL, DL.mMt, DL.mTup, DL.mLstF, DL.mDTF, DL.mDKF, DL.mYes, DL.gNm, DL.gTp, DL.gsNil, DL.gsCons, DL.mFrz, DL.frz, DL.mListF, DL.mListRg2, DL.mListRg1, DL.mFnB, List.map_cons, List.map_nil, DL.flatD, DL.mLcF, DL.okW, DL.wipeR, DL.restR, DL.rngD_len, Int.toNat_natCast, Bool.and_self, Bool.and_true, Bool.true_and, DL.mFor, DL.mRng1, DL.mRng2, DL.mIter, DL.mEnumA, Option.bind_some, Option.bind_none, Option.map_some, Option.map_none, List.getElem?_cons_succ, List.getElem?_cons_zero, List.getElem?_nil, List.set_cons_succ, List.set_cons_zero, DL.Sl.oc, DL.Sl.put, DL.ocAt, DL.putAt, DL.ocFits, DL.isIo, DL.rsv, DL.rsvs, DL.vals, DL.toSl, DL.toSls, DL.back, DL.owns, DL.ocD, DL.fin, DL.runF, DL.runG, DL.runP, DL.runQ, List.length_cons, List.length_nil, List.length_set, List.replicate, List.cons_append, List.nil_append, List.nodup_nil, List.nodup_cons, List.not_mem_nil, not_false_eq_true, and_self, and_true, true_and, if_true, if_false, reduceCtorEq, Bool.false_eq_true, ite_true, ite_false, List.mem_cons, or_false, false_or, DL.addD, DL.subD, DL.iD, DL.cmpD, DL.ltD, DL.leD, DL.gtD, DL.geD, DL.ixD, DL.int1D, DL.int2D, DL.intD, DL.absD, DL.min2D, DL.max2D, DL.lenD, DL.itemsD, DL.tupleD, DL.negD, DL.truD, DL.isD, DL.isNotD, DL.isNone, Bool.not_true, Bool.not_false, Nat.reduceAdd, Nat.reduceSub, Nat.reduceLT, Nat.reduceLeDiff, ↓reduceIte, DL.OC.lst.injEq, DL.mUn, DL.mBindX, DL.kDrop, DL.kRet, DL.kAsg, DL.runX, DL.okX, DL.mSetF, DL.putFD, DL.mSIn, DL.mSGet, DL.mIterS, e1, ha1, mSl, oNone, oSome, hsl, hl5, c1, e3, ha2, bm.1, bm.2, rngD_len, hm5, c2, f0, f1, f2, f3, f4, f5, ha3, ocD]
  · obtain ⟨_, _, q1, q2, q3⟩ := all2_mem A2 q hq
    exact ⟨by rw [kn]; exact q1, q2, q3⟩
end Lk11
set_option Elab.async false
set_option linter.all false
set_option maxRecDepth 100000
set_option maxHeartbeats 4000000
namespace Lk11
open PySem L2 DL
theorem name_of (s : Str) (h8 : s.length ≤ 8) (h1 : 1 ≤ s.length) (hs : (s.cps.toList.all fun c => strIn ⟨#[c]⟩ "abcdefghijklmnopqrstuvwxyz") = true) : F_is_name [.sh (.str s)] = some (.bool true, [.sh (.str s)]) := by
  have t1 : isiB "str" (.str s) = some true := rfl
  have hl : lenD [.str s] = some (.int (s.length : Nat)) := if_pos (by omega)
  have d1 : decide ((1 : Int) ≤ (s.length : Nat)) = true := decide_eq_true (by omega)
  have d2 : decide (((s.length : Nat) : Int) ≤ 8) = true := decide_eq_true (by omega)
  unfold F_is_name b_is_name
  generalize hE : (mOp inD _ _ : ME) = el
  have hcc := compD_mapA (vs := [1]) (g := gNm 1) (elt := el) (ρ := [.sh (.str s), .no]) (fun c : Nat => PyData.str ⟨#[c]⟩) (fun c => PyData.bool (strIn ⟨#[c]⟩ "abcdefghijklmnopqrstuvwxyz")) s.cps.toList fun c hm => by
    refine ⟨[.sh (.str s), .sh (.str ⟨#[c]⟩)], rfl, ?_, rfl, rfl⟩
    have h2 : inD (.str ⟨#[c]⟩) (.str "abcdefghijklmnopqrstuvwxyz") = some (.bool (strIn ⟨#[c]⟩ "abcdefghijklmnopqrstuvwxyz")) := rfl
    generalize (inD : D → D → Option D) = iin at *
    subst hE
    simp only [DL.mSeq, DL.mIfS, DL.mTest, DL.mAnd, DL.mOr, DL.mNot, DL.mAndV, DL.mOrV, DL.mNotV, DL.mIf, DL.mChain, DL.mOp, DL.mUn, DL.mCall, DL.mC, DL.mVar, DL.pE, DL.pO, DL.fE, DL.aNil, DL.aCons, DL.mFn, DL.mFnG, DL.mTru, DL.mIsi, DL.mIsiT, DL.mNext, DL.mRet, DL.mRetO, DL.mRetF, DL.mRetN, DL.mDrop, DL.mAsg, DL.mOwn, DL.mAug, DL.mSetL, DL.mMt, DL.mTup, DL.mLstF, DL.mDTF, DL.mDKF, DL.mYes, DL.gNm, DL.gTp, DL.gsNil, DL.gsCons, DL.mFrz, DL.frz, DL.mListF, DL.mListRg2, DL.mListRg1, DL.mFnB, List.map_cons, List.map_nil, DL.flatD, DL.mLcF, DL.okW, DL.wipeR, DL.restR, DL.rngD_len, Int.toNat_natCast, Bool.and_self, Bool.and_true, Bool.true_and, DL.mFor, DL.mRng1, DL.mRng2, DL.mIter, DL.mEnumA, Option.bind_some, Option.bind_none, Option.map_some, Option.map_none, List.getElem?_cons_succ, List.getElem?_cons_zero, List.getElem?_nil, List.set_cons_succ, List.set_cons_zero, DL.Sl.oc, DL.Sl.put, DL.ocAt, DL.putAt, DL.ocFits, DL.isIo, DL.rsv, DL.rsvs, DL.vals, DL.toSl, DL.toSls, DL.back, DL.owns, DL.ocD, DL.fin, DL.runF, DL.runG, DL.runP, DL.runQ, List.length_cons, List.length_nil, List.length_set, List.replicate, List.cons_append, List.nil_append, List.nodup_nil, List.nodup_cons, List.not_mem_nil, not_false_eq_true, and_self, and_true, true_and, if_true, if_false, reduceCtorEq, Bool.false_eq_true, ite_true, ite_false, List.mem_cons, or_false, false_or, DL.addD, DL.subD, DL.iD, DL.cmpD, DL.ltD, DL.leD, DL.gtD, DL.geD, DL.ixD, DL.int1D, DL.int2D, DL.intD, DL.absD, DL.min2D, DL.max2D, DL.lenD, DL.itemsD, DL.tupleD, DL.negD, DL.truD, DL.isD, DL.isNotD, DL.isNone, Bool.not_true, Bool.not_false, Nat.reduceAdd, Nat.reduceSub, Nat.reduceLT, Nat.reduceLeDiff, ↓reduceIte, DL.OC.lst.injEq, DL.mUn, DL.mBindX, DL.kDrop, DL.kRet, DL.kAsg, DL.runX, DL.okX, DL.mSetF, DL.putFD, DL.mSIn, DL.mSGet, DL.mIterS, h2]
  have hall := allD_map (fun c : Nat => strIn ⟨#[c]⟩ "abcdefghijklmnopqrstuvwxyz") s.cps.toList
  rw [hs] at hall
  have hsl : (signs s).length ≤ 50000 := by unfold signs; rw [List.length_map]; exact Nat.le_trans h8 (by omega)
  have hcc : compD [1] (gNm 1) mYes el (signs s) [.sh (.str s), .no] = _ := hcc
  generalize (s.cps.toList.map fun c => PyData.bool (strIn ⟨#[c]⟩ "abcdefghijklmnopqrstuvwxyz")) = BB at *
  generalize (lenD : List D → Option D) = ln at *
  generalize (allD : List D → Option D) = al at *
  simp only [DL.mSeq, DL.mIfS, DL.mTest, DL.mAnd, DL.mOr, DL.mNot, DL.mAndV, DL.mOrV, DL.mNotV, DL.mIf, DL.mChain, DL.mOp, DL.mUn, DL.mCall, DL.mC, DL.mVar, DL.pE, DL.pO, DL.fE, DL.aNil, DL.aCons, DL.mFn, DL.mFnG, DL.mTru, DL.mIsi, DL.mIsiT, DL.mNext, DL.mRet, DL.mRetO, DL.mRetF, DL.mRetN, DL.mDrop, DL.mAsg, DL.mOwn, DL.mAug, DL.mSetL, DL.mMt, DL.mTup, DL.mLstF, DL.mDTF, DL.mDKF, DL.mYes, DL.gNm, DL.gTp, DL.gsNil, DL.gsCons, DL.mFrz, DL.frz, DL.mListF, DL.mListRg2, DL.mListRg1, DL.mFnB, List.map_cons, List.map_nil, DL.flatD, DL.mLcF, DL.okW, DL.wipeR, DL.restR, DL.rngD_len, Int.toNat_natCast, Bool.and_self, Bool.and_true, Bool.true_and, DL.mFor, DL.mRng1, DL.mRng2, DL.mIter, DL.mEnumA, Option.bind_some, Option.bind_none, Option.map_some, Option.map_none, List.getElem?_cons_succ, List.getElem?_cons_zero, List.getElem?_nil, List.set_cons_succ, List.set_cons_zero, DL.Sl.oc, DL.Sl.put, DL.ocAt, DL.putAt, DL.ocFits, DL.isIo, DL.rsv, DL.rsvs, DL.vals, DL.toSl, DL.toSls, DL.back, DL.owns, DL.ocD, DL.fin, DL.runF, DL.runG, DL.runP, DL.runQ, List.length_cons, List.length_nil, List.length_set, List.replicate, List.cons_append, List.nil_append, List.nodup_nil, List.nodup_cons, List.not_mem_nil, not_false_eq_true, and_self, and_true, true_and, if_true, if_false, reduceCtorEq, Bool.false_eq_true, ite_true, ite_false, List.mem_cons, or_false, false_or, DL.addD, DL.subD, DL.iD, DL.cmpD, DL.ltD, DL.leD, DL.gtD, DL.geD, DL.ixD, DL.int1D, DL.int2D, DL.intD, DL.absD, DL.min2D, DL.max2D, DL.lenD, DL.itemsD, DL.tupleD, DL.negD, DL.truD, DL.isD, DL.isNotD, DL.isNone, Bool.not_true, Bool.not_false, Nat.reduceAdd, Nat.reduceSub, Nat.reduceLT, Nat.reduceLeDiff, ↓reduceIte, DL.OC.lst.injEq, DL.mUn, DL.mBindX, DL.kDrop, DL.kRet, DL.kAsg, DL.runX, DL.okX, DL.mSetF, DL.putFD, DL.mSIn, DL.mSGet, DL.mIterS, t1, hl, d1, d2, hsl, hcc, hall, ocD]
theorem name_ok : ∀ nm ∈ names4, F_is_name [.sh (.str nm)] = some (.bool true, [.sh (.str nm)]) := by
  intro nm h
  simp only [names4, List.mem_cons, List.not_mem_nil, or_false] at h
  rcases h with rfl | rfl | rfl | rfl <;> exact name_of _ (by decide +kernel) (by decide +kernel) (by decide +kernel)
theorem kd_ix (k : Kd) : ixD (kdD k) (.int 0) = some (.str k.name) ∧ ixD (kdD k) (.int 1) = some (.int k.mix) ∧ ixD (kdD k) (.int 2) = some (.int k.least) ∧ ixD (kdD k) (.int 3) = some (.int k.most) ∧ ixD (kdD k) (.int 4) = some (.int k.bake) ∧ ixD (kdD k) (.int 5) = some (.int k.fresh) := ⟨rfl, rfl, rfl, rfl, rfl, rfl⟩
theorem kind_ok {k : Kd} (v : Kv k) (hn : k.name ∈ names4) : F_is_kind [.sh (kdD k)] = some (.bool true, [.sh (kdD k)]) := by
  obtain ⟨i0, i1, i2, i3, i4, i5⟩ := kd_ix k
  have t : F_is_tuple_of [.sh (kdD k), .sh (.int 6)] = some (.bool true, [.sh (kdD k), .sh (.int 6)]) := tupof_any rfl 6
  have n := name_ok _ hn
  have w1 := within_int v.mix.1 v.mix.2
  have w3 := within_int (x := k.most) (a := 0) (b := 8) (Int.le_trans v.least.1 v.least.2) v.most
  have w2 := within_int v.least.1 v.least.2
  have w4 := within_int v.bake.1 v.bake.2
  have w5 := within_int v.fresh.1 v.fresh.2
  unfold F_is_kind b_is_kind
  generalize kdD k = KD at *
  generalize (ixD : D → D → Option D) = ix at *
  simp only [DL.mSeq, DL.mIfS, DL.mTest, DL.mAnd, DL.mOr, DL.mNot, DL.mAndV, DL.mOrV, DL.mNotV, DL.mIf, DL.mChain, DL.mOp, DL.mUn, DL.mCall, DL.mC, DL.mVar, DL.pE, DL.pO, DL.fE, DL.aNil, DL.aCons, DL.mFn, DL.mFnG, DL.mTru, DL.mIsi, DL.mIsiT, DL.mNext, DL.mRet, DL.mRetO, DL.mRetF, DL.mRetN, DL.mDrop, DL.mAsg, DL.mOwn, DL.mAug, DL.mSetL, DL.mMt, DL.mTup, DL.mLstF, DL.mDTF, DL.mDKF, DL.mYes, DL.gNm, DL.gTp, DL.gsNil, DL.gsCons, DL.mFrz, DL.frz, DL.mListF, DL.mListRg2, DL.mListRg1, DL.mFnB, List.map_cons, List.map_nil, DL.flatD, DL.mLcF, DL.okW, DL.wipeR, DL.restR, DL.rngD_len, Int.toNat_natCast, Bool.and_self, Bool.and_true, Bool.true_and, DL.mFor, DL.mRng1, DL.mRng2, DL.mIter, DL.mEnumA, Option.bind_some, Option.bind_none, Option.map_some, Option.map_none, List.getElem?_cons_succ, List.getElem?_cons_zero, List.getElem?_nil, List.set_cons_succ, List.set_cons_zero, DL.Sl.oc, DL.Sl.put, DL.ocAt, DL.putAt, DL.ocFits, DL.isIo, DL.rsv, DL.rsvs, DL.vals, DL.toSl, DL.toSls, DL.back, DL.owns, DL.ocD, DL.fin, DL.runF, DL.runG, DL.runP, DL.runQ, List.length_cons, List.length_nil, List.length_set, List.replicate, List.cons_append, List.nil_append, List.nodup_nil, List.nodup_cons, List.not_mem_nil, not_false_eq_true, and_self, and_true, true_and, if_true, if_false, reduceCtorEq, Bool.false_eq_true, ite_true, ite_false, List.mem_cons, or_false, false_or, DL.addD, DL.subD, DL.iD, DL.cmpD, DL.ltD, DL.leD, DL.gtD, DL.geD, DL.ixD, DL.int1D, DL.int2D, DL.intD, DL.absD, DL.min2D, DL.max2D, DL.lenD, DL.itemsD, DL.tupleD, DL.negD, DL.truD, DL.isD, DL.isNotD, DL.isNone, Bool.not_true, Bool.not_false, Nat.reduceAdd, Nat.reduceSub, Nat.reduceLT, Nat.reduceLeDiff, ↓reduceIte, DL.OC.lst.injEq, DL.mUn, DL.mBindX, DL.kDrop, DL.kRet, DL.kAsg, DL.runX, DL.okX, DL.mSetF, DL.putFD, DL.mSIn, DL.mSGet, DL.mIterS, t, i0, i1, i2, i3, i4, i5, n, w1, w2, w3, w4, w5]
end Lk11
set_option Elab.async false
set_option linter.all false
set_option maxRecDepth 100000
set_option maxHeartbeats 4000000
namespace Lk11
open PySem L2 DL
open PyData in
theorem lay_strs : ∀ l : List Str, (∀ x ∈ l, PyData.canLay0 (.str x) = true) → PyData.canLayAll0 (l.map .str) = true ∧ PyData.depthAll (l.map .str) ≤ 0
  | [], _ => ⟨rfl, Nat.le_refl _⟩
  | x :: l, h => by
    obtain ⟨h1, h2⟩ := lay_strs l fun y hy => h y (List.mem_cons_of_mem _ hy)
    refine ⟨?_, ?_⟩
    · show (PyData.canLay0 (.str x) && PyData.canLayAll0 (l.map .str)) = true
      rw [h1, h x (List.mem_cons_self ..)]; rfl
    · show max (PyData.depth (.str x)) (PyData.depthAll (l.map .str)) ≤ 0
      have : PyData.depth (.str x) = 0 := rfl
      omega
def SO (x : Str) : Prop := PyData.canLay0 (.str x) = true
theorem so_names : ∀ x ∈ names4, SO x := by
  intro x h
  simp only [names4, List.mem_cons, List.not_mem_nil, or_false] at h
  rcases h with rfl | rfl | rfl | rfl <;> (unfold SO; decide +kernel)
theorem shaped_str {x : Str} (h : SO x) : SeqAt.shaped (.str x) = true := shaped_of h (by show 0 ≤ 64; omega)
theorem shaped_strs (l : List Str) (h : ∀ x ∈ l, SO x) : SeqAt.shaped (.list (l.map .str)) = true := by
  obtain ⟨h1, h2⟩ := lay_strs l h
  exact shaped_of h1 (by show PyData.depthAll (l.map .str) + 1 ≤ 64; omega)
theorem eqv_str (a b : Str) : PyData.eqv (.str a) (.str b) = (a == b) := by rw [PyData.eqv]
theorem any_strs (x : Str) : ∀ l : List Str, (l.map PyData.str).any (fun z => PyData.eqv z (.str x)) = l.contains x
  | [] => rfl
  | y :: l => by
    rw [List.map_cons, List.any_cons, any_strs x l, eqv_str, List.contains_cons]
    congr 1
    rw [Bool.eq_iff_iff, beq_iff_eq, beq_iff_eq]
    exact eq_comm
theorem in_strs {x : Str} {l : List Str} (hx : SO x) (h : ∀ x ∈ l, SO x) : inD (.str x) (.list (l.map .str)) = some (.bool (l.contains x)) := by
  show ((if _ ∧ _ then some _ else none : Option Bool).map PyData.bool) = _
  rw [if_pos ⟨shaped_str hx, shaped_strs l h⟩, any_strs]; rfl
/-! ### a night is made -/
def kindOf (p : Pt) (nm : Str) : Kd := (p.kinds.find? fun k => k.name == nm).getD ⟨"", 0, 0, 0, 0, 0⟩
def ownK (p : Pt) : List Kd := p.orders.map fun q => kindOf p q.1
def ntF (p : Pt) : List (Str × D) := [("hands", .int p.hands), ("ovens", .int p.ovens), ("kinds", .tuple (p.kinds.map kdD)), ("orders", .tuple (p.orders.map odD)), ("budgets", .tuple [.int p.b0, .int p.b1, .int p.b2]), ("repair", .int p.repair), ("own", .tuple ((ownK p).map kdD))]
theorem nodup4 (n : Nat) : (names4.take n).Nodup := List.Nodup.sublist (List.take_sublist n _) (by decide +kernel)
theorem kinds_loop {W : D} {body : MS}
    (hB : (mSeq (mIfS (mOr (mNot (mTru (pE (mFn F_is_kind (aCons (pE (mVar 3)) aNil))))) (mTest (mOp inD (pE (mOp ixD (pE (mVar 3)) (pE (mC (.int 0))))) (pO 1)))) (mRaise "BadKinds" ["value"] [] (aCons (pE (mVar 2)) aNil)) mNext)
    (mDrop (mMt true appendO 1 (aCons (pE (mOp ixD (pE (mVar 3)) (pE (mC (.int 0))))) aNil))) : MS) = body) :
    ∀ (ks : List Kd) (i : Nat) (pre : List Str) (u2 u3 : Sl), (∀ x ∈ pre, x ∈ names4) → (∀ k ∈ ks, Kv k ∧ k.name ∈ names4) → (pre ++ ks.map Kd.name).Nodup → pre.length + ks.length ≤ 50 → ((u2 = .no ∧ u3 = .no) ∨ ∃ a b, u2 = .sh a ∧ u3 = .sh b) →
      ∃ v2 v3, forD (gTp 2 (gsCons (gNm 2) (gsCons (gNm 3) gsNil))) body (enumD i (ks.map kdD)) [.sh W, .ow (.lst (pre.map .str)), u2, u3] = some (.nx [.sh W, .ow (.lst ((pre ++ ks.map Kd.name).map .str)), v2, v3])
  | [], i, pre, u2, u3, _, _, _, _, _ => ⟨u2, u3, by rw [show ([] : List Kd).map Kd.name = [] from rfl, List.append_nil]; rfl⟩
  | k :: ks, i, pre, u2, u3, hpre, hk, hnd, hl, hu => by
    obtain ⟨v, hn⟩ := hk k (List.mem_cons_self ..)
    have hnd2 : ((pre ++ [k.name]) ++ ks.map Kd.name).Nodup := by rw [List.append_assoc]; exact hnd
    obtain ⟨v2, v3, e⟩ := kinds_loop (W := W) hB ks (i + 1) (pre ++ [k.name]) (.sh (.int i)) (.sh (kdD k)) (fun x hx => by
      rcases List.mem_append.mp hx with hx | hx
      · exact hpre x hx
      · rw [List.mem_singleton.mp hx]; exact hn) (fun x hx => hk x (List.mem_cons_of_mem _ hx)) hnd2 (by rw [List.length_append]; simp at hl ⊢; omega) (.inr ⟨_, _, rfl, rfl⟩)
    refine ⟨v2, v3, ?_⟩
    have h1 := kind_ok v hn
    have h2 := (kd_ix k).1
    have hc : pre.contains k.name = false := by
      rw [← Bool.not_eq_true, List.contains_iff_mem]
      intro z
      have := (List.nodup_append.mp hnd).2.2 k.name z k.name (List.mem_cons_self ..)
      exact this rfl
    have h3 := in_strs (so_names _ hn) (fun x hx => so_names x (hpre x hx))
    rw [hc] at h3
    have hap : (pre.map PyData.str).length < 100000 := by rw [List.length_map]; simp at hl; omega
    have hs : body [.sh W, .ow (.lst (pre.map .str)), .sh (.int i), .sh (kdD k)] = some (.nx [.sh W, .ow (.lst ((pre ++ [k.name]).map .str)), .sh (.int i), .sh (kdD k)]) := by
      rw [List.map_append, show [k.name].map PyData.str = [.str k.name] from rfl]
      generalize pre.map PyData.str = PRE at *
      generalize kdD k = KD at *
      generalize (ixD : D → D → Option D) = ix at *
      generalize (inD : D → D → Option D) = iin at *
      subst hB
      simp only [DL.mSeq, DL.mIfS, DL.mTest, DL.mAnd, DL.mOr, DL.mNot, DL.mAndV, DL.mOrV, DL.mNotV, DL.mIf, DL.mChain, DL.mOp, DL.mUn, DL.mCall, DL.mC, DL.mVar, DL.pE, DL.pO, DL.fE, DL.aNil, DL.aCons, DL.mFn, DL.mFnG, DL.mTru, DL.mIsi, DL.mIsiT, DL.mNext, DL.mRet, DL.mRetO, DL.mRetF, DL.mRetN, DL.mDrop, DL.mAsg, DL.mOwn, DL.mAug, DL.mSetL, DL.mMt, DL.mTup, DL.mLstF, DL.mDTF, DL.mDKF, DL.mYes, DL.gNm, DL.gTp, DL.gsNil, DL.gsCons, DL.mFrz, DL.frz, DL.mListF, DL.mListRg2, DL.mListRg1, DL.mFnB, List.map_cons, List.map_nil, DL.flatD, DL.mLcF, DL.okW, DL.wipeR, DL.restR, DL.rngD_len, Int.toNat_natCast, Bool.and_self, Bool.and_true, Bool.true_and, DL.mFor, DL.mRng1, DL.mRng2, DL.mIter, DL.mEnumA, Option.bind_some, Option.bind_none, Option.map_some, Option.map_none, List.getElem?_cons_succ, List.getElem?_cons_zero, List.getElem?_nil, List.set_cons_succ, List.set_cons_zero, DL.Sl.oc, DL.Sl.put, DL.ocAt, DL.putAt, DL.ocFits, DL.isIo, DL.rsv, DL.rsvs, DL.vals, DL.toSl, DL.toSls, DL.back, DL.owns, DL.ocD, DL.fin, DL.runF, DL.runG, DL.runP, DL.runQ, List.length_cons, List.length_nil, List.length_set, List.replicate, List.cons_append, List.nil_append, List.nodup_nil, List.nodup_cons, List.not_mem_nil, not_false_eq_true, and_self, and_true, true_and, if_true, if_false, reduceCtorEq, Bool.false_eq_true, ite_true, ite_false, List.mem_cons, or_false, false_or, DL.addD, DL.subD, DL.iD, DL.cmpD, DL.ltD, DL.leD, DL.gtD, DL.geD, DL.ixD, DL.int1D, DL.int2D, DL.intD, DL.absD, DL.min2D, DL.max2D, DL.lenD, DL.itemsD, DL.tupleD, DL.negD, DL.truD, DL.isD, DL.isNotD, DL.isNone, Bool.not_true, Bool.not_false, Nat.reduceAdd, Nat.reduceSub, Nat.reduceLT, Nat.reduceLeDiff, ↓reduceIte, DL.OC.lst.injEq, DL.mUn, DL.mBindX, DL.kDrop, DL.kRet, DL.kAsg, DL.runX, DL.okX, DL.mSetF, DL.putFD, DL.mSIn, DL.mSGet, DL.mIterS, h1, h2, h3, rsv, ocD, appendO, hap]
    have hg : gTp 2 (gsCons (gNm 2) (gsCons (gNm 3) gsNil)) (.tuple [.int i, kdD k]) [.sh W, .ow (.lst (pre.map .str)), u2, u3] = some [.sh W, .ow (.lst (pre.map .str)), .sh (.int i), .sh (kdD k)] := by
      rcases hu with ⟨rfl, rfl⟩ | ⟨_, _, rfl, rfl⟩ <;> rfl
    show forD _ body (.tuple [.int i, kdD k] :: enumD (i + 1) (ks.map kdD)) _ = _
    rw [forD_cons, hg, Option.bind_some, hs, Option.bind_some]
    rw [List.append_assoc] at e
    exact e
theorem kn_mem {p : Pt} (v : Pv p) : ∀ k ∈ p.kinds, Kv k ∧ k.name ∈ names4 := fun k hk => by
  obtain ⟨n, _, _, e⟩ := v.kn
  refine ⟨v.ks k hk, ?_⟩
  have : k.name ∈ p.kinds.map Kd.name := List.mem_map_of_mem hk
  rw [e] at this
  exact List.mem_of_mem_take this
theorem kn_len {p : Pt} (v : Pv p) : 1 ≤ p.kinds.length ∧ p.kinds.length ≤ 4 := by
  obtain ⟨n, h1, h2, e⟩ := v.kn
  have := congrArg List.length e
  rw [List.length_map, List.length_take] at this
  have h4 : names4.length = 4 := rfl
  omega
theorem row_tup (ds : List D) : F_is_row [.sh (.tuple ds)] = some (.bool true, [.sh (.tuple ds)]) := by
  have t2 : ∀ xs, isiAny ["list", "tuple"] (.tuple xs) = some true := fun _ => rfl
  unfold F_is_row b_is_row
  simp only [DL.mSeq, DL.mIfS, DL.mTest, DL.mAnd, DL.mOr, DL.mNot, DL.mAndV, DL.mOrV, DL.mNotV, DL.mIf, DL.mChain, DL.mOp, DL.mUn, DL.mCall, DL.mC, DL.mVar, DL.pE, DL.pO, DL.fE, DL.aNil, DL.aCons, DL.mFn, DL.mFnG, DL.mTru, DL.mIsi, DL.mIsiT, DL.mNext, DL.mRet, DL.mRetO, DL.mRetF, DL.mRetN, DL.mDrop, DL.mAsg, DL.mOwn, DL.mAug, DL.mSetL, DL.mMt, DL.mTup, DL.mLstF, DL.mDTF, DL.mDKF, DL.mYes, DL.gNm, DL.gTp, DL.gsNil, DL.gsCons, DL.mFrz, DL.frz, DL.mListF, DL.mListRg2, DL.mListRg1, DL.mFnB, List.map_cons, List.map_nil, DL.flatD, DL.mLcF, DL.okW, DL.wipeR, DL.restR, DL.rngD_len, Int.toNat_natCast, Bool.and_self, Bool.and_true, Bool.true_and, DL.mFor, DL.mRng1, DL.mRng2, DL.mIter, DL.mEnumA, Option.bind_some, Option.bind_none, Option.map_some, Option.map_none, List.getElem?_cons_succ, List.getElem?_cons_zero, List.getElem?_nil, List.set_cons_succ, List.set_cons_zero, DL.Sl.oc, DL.Sl.put, DL.ocAt, DL.putAt, DL.ocFits, DL.isIo, DL.rsv, DL.rsvs, DL.vals, DL.toSl, DL.toSls, DL.back, DL.owns, DL.ocD, DL.fin, DL.runF, DL.runG, DL.runP, DL.runQ, List.length_cons, List.length_nil, List.length_set, List.replicate, List.cons_append, List.nil_append, List.nodup_nil, List.nodup_cons, List.not_mem_nil, not_false_eq_true, and_self, and_true, true_and, if_true, if_false, reduceCtorEq, Bool.false_eq_true, ite_true, ite_false, List.mem_cons, or_false, false_or, DL.addD, DL.subD, DL.iD, DL.cmpD, DL.ltD, DL.leD, DL.gtD, DL.geD, DL.ixD, DL.int1D, DL.int2D, DL.intD, DL.absD, DL.min2D, DL.max2D, DL.lenD, DL.itemsD, DL.tupleD, DL.negD, DL.truD, DL.isD, DL.isNotD, DL.isNone, Bool.not_true, Bool.not_false, Nat.reduceAdd, Nat.reduceSub, Nat.reduceLT, Nat.reduceLeDiff, ↓reduceIte, DL.OC.lst.injEq, DL.mUn, DL.mBindX, DL.kDrop, DL.kRet, DL.kAsg, DL.runX, DL.okX, DL.mSetF, DL.putFD, DL.mSIn, DL.mSGet, DL.mIterS, t2, tyOfD, Option.isSome_some]
theorem check_kinds_ok {p : Pt} (v : Pv p) : F_check_kinds [.sh (.tuple (p.kinds.map kdD))] = some (.ret .none, [.sh (.tuple (p.kinds.map kdD))]) := by
  obtain ⟨l1, l4⟩ := kn_len v
  have hr := row_tup (p.kinds.map kdD)
  have hl : lenD [.tuple (p.kinds.map kdD)] = some (.int (p.kinds.length : Nat)) := by show some (PyData.int ((p.kinds.map kdD).length : Nat)) = _; rw [List.length_map]
  have d1 : decide ((1 : Int) ≤ (p.kinds.length : Nat)) = true := decide_eq_true (by omega)
  have d2 : decide (((p.kinds.length : Nat) : Int) ≤ 4) = true := decide_eq_true (by omega)
  unfold F_check_kinds b_check_kinds
  generalize hB : (mSeq (mIfS (mOr (mNot (mTru (pE (mFn F_is_kind _)))) _) _ _) _ : MS) = body
  obtain ⟨v2, v3, e⟩ := kinds_loop (W := .tuple (p.kinds.map kdD)) hB p.kinds 0 [] .no .no (fun _ h => (nomatch h)) (kn_mem v) (by
    obtain ⟨n, _, _, e⟩ := v.kn
    rw [List.nil_append, e]; exact nodup4 n) (by simp; omega) (.inl ⟨rfl, rfl⟩)
  have e : forD _ body (enumD 0 (p.kinds.map kdD)) [.sh (.tuple (p.kinds.map kdD)), .ow (.lst []), .no, .no] = _ := e
  generalize hKS : p.kinds.map kdD = KS at *
  generalize (lenD : List D → Option D) = ln at *
  simp only [DL.mSeq, DL.mIfS, DL.mTest, DL.mAnd, DL.mOr, DL.mNot, DL.mAndV, DL.mOrV, DL.mNotV, DL.mIf, DL.mChain, DL.mOp, DL.mUn, DL.mCall, DL.mC, DL.mVar, DL.pE, DL.pO, DL.fE, DL.aNil, DL.aCons, DL.mFn, DL.mFnG, DL.mTru, DL.mIsi, DL.mIsiT, DL.mNext, DL.mRet, DL.mRetO, DL.mRetF, DL.mRetN, DL.mDrop, DL.mAsg, DL.mOwn, DL.mAug, DL.mSetL, DL.mMt, DL.mTup, DL.mLstF, DL.mDTF, DL.mDKF, DL.mYes, DL.gNm, DL.gTp, DL.gsNil, DL.gsCons, DL.mFrz, DL.frz, DL.mListF, DL.mListRg2, DL.mListRg1, DL.mFnB, List.map_cons, List.map_nil, DL.flatD, DL.mLcF, DL.okW, DL.wipeR, DL.restR, DL.rngD_len, Int.toNat_natCast, Bool.and_self, Bool.and_true, Bool.true_and, DL.mFor, DL.mRng1, DL.mRng2, DL.mIter, DL.mEnumA, Option.bind_some, Option.bind_none, Option.map_some, Option.map_none, List.getElem?_cons_succ, List.getElem?_cons_zero, List.getElem?_nil, List.set_cons_succ, List.set_cons_zero, DL.Sl.oc, DL.Sl.put, DL.ocAt, DL.putAt, DL.ocFits, DL.isIo, DL.rsv, DL.rsvs, DL.vals, DL.toSl, DL.toSls, DL.back, DL.owns, DL.ocD, DL.fin, DL.runF, DL.runG, DL.runP, DL.runQ, List.length_cons, List.length_nil, List.length_set, List.replicate, List.cons_append, List.nil_append, List.nodup_nil, List.nodup_cons, List.not_mem_nil, not_false_eq_true, and_self, and_true, true_and, if_true, if_false, reduceCtorEq, Bool.false_eq_true, ite_true, ite_false, List.mem_cons, or_false, false_or, DL.addD, DL.subD, DL.iD, DL.cmpD, DL.ltD, DL.leD, DL.gtD, DL.geD, DL.ixD, DL.int1D, DL.int2D, DL.intD, DL.absD, DL.min2D, DL.max2D, DL.lenD, DL.itemsD, DL.tupleD, DL.negD, DL.truD, DL.isD, DL.isNotD, DL.isNone, Bool.not_true, Bool.not_false, Nat.reduceAdd, Nat.reduceSub, Nat.reduceLT, Nat.reduceLeDiff, ↓reduceIte, DL.OC.lst.injEq, DL.mUn, DL.mBindX, DL.kDrop, DL.kRet, DL.kAsg, DL.runX, DL.okX, DL.mSetF, DL.putFD, DL.mSIn, DL.mSGet, DL.mIterS, hr, hl, d1, d2, e]
end Lk11
set_option Elab.async false
set_option linter.all false
set_option maxRecDepth 100000
set_option maxHeartbeats 4000000
namespace Lk11
open PySem L2 DL
def knL (p : Pt) : List (D × D) := p.kinds.map fun k => (.str k.name, kdD k)
theorem put_new {κ : Type} [DecidableEq κ] {kvs : List (κ × D)} {k : κ} {v : D} (h : k ∉ kvs.map (·.1)) : putD kvs k v = kvs ++ [(k, v)] := by
  unfold putD
  rw [if_neg]
  intro z
  obtain ⟨q, h1, h2⟩ := List.any_eq_true.mp z
  exact h (List.mem_map.mpr ⟨q, h1, of_decide_eq_true h2⟩)
theorem known_loop {mk : ME} {ρ : Rho} {vs : List Nat} {g : MG} {mv : ME} (hok : ∀ k : Kd, ∃ ρ1, g (kdD k) ρ = some ρ1 ∧ mk ρ1 = some (.str k.name, ρ1) ∧ mv ρ1 = some (kdD k, ρ1) ∧ okW ρ1 vs = true ∧ wipeR ρ1 vs = ρ) :
    ∀ (ks : List Kd) (acc : List (Key × D)), (acc.map Prod.fst ++ ks.map fun k : Kd => (Sum.inr k.name : Key)).Nodup → acc.length + ks.length < 50000 →
      compK vs g mYes mk mv acc (ks.map kdD) ρ = some (acc ++ ks.map fun k : Kd => ((Sum.inr k.name : Key), kdD k), ρ)
  | [], acc, _, _ => by rw [List.map_nil, compK_nil, List.map_nil, List.append_nil]
  | k :: ks, acc, hn, hl => by
    obtain ⟨ρ1, e1, e2, e3, e4, e5⟩ := hok k
    rw [List.map_cons] at hn
    have hnew : (Sum.inr k.name : Key) ∉ acc.map Prod.fst := fun z => (List.nodup_append.mp hn).2.2 _ z _ (List.mem_cons_self ..) rfl
    have ih := known_loop hok ks (acc ++ [(Sum.inr k.name, kdD k)]) (by rw [List.map_append, List.append_assoc]; exact hn) (by rw [List.length_append]; simp at hl ⊢; omega)
    rw [List.map_cons, compK_cons, e1]
    have hk : keyOf (.str k.name) = some (Sum.inr k.name) := rfl
    have hl2 : acc.length < 50000 := by omega
    simp only [mYes, Option.bind_some, if_true, e2, e3, hk, e4, hl2, and_self, e5, put_new hnew, ih]
    rw [List.append_assoc, List.map_cons]; rfl
theorem kind_find {nm : Str} : ∀ {ks : List Kd}, nm ∈ ks.map Kd.name → ∃ k ∈ ks, (ks.find? fun k => k.name == nm) = some k ∧ k.name = nm
  | [], h => (nomatch h)
  | k :: ks, h => by
    by_cases e : k.name = nm
    · exact ⟨k, List.mem_cons_self .., by rw [List.find?_cons_of_pos (by simp [e])], e⟩
    · rw [List.map_cons] at h
      rcases List.mem_cons.mp h with h | h
      · exact (e h.symm).elim
      · obtain ⟨x, h1, h2, h3⟩ := kind_find h
        exact ⟨x, List.mem_cons_of_mem _ h1, by rw [List.find?_cons_of_neg (by simp [e])]; exact h2, h3⟩
theorem kn_find {nm : Str} : ∀ ks : List Kd, (((ks.map fun k => ((PyData.str k.name, kdD k) : D × D)).find? fun q => keyEq q.1 (.inr nm)).map (·.2)) = (ks.find? fun k => k.name == nm).map kdD
  | [] => rfl
  | k :: ks => by
    rw [List.map_cons]
    have hk : keyEq (PyData.str k.name) (.inr nm) = (k.name == nm) := by
      show decide (k.name = nm) = (k.name == nm)
      rw [Bool.eq_iff_iff, decide_eq_true_iff, beq_iff_eq]
    by_cases e : k.name = nm
    · rw [List.find?_cons_of_pos (by show keyEq (PyData.str k.name) (.inr nm) = true; rw [hk]; simp [e]), List.find?_cons_of_pos (by simp [e])]; rfl
    · rw [List.find?_cons_of_neg (by show ¬ keyEq (PyData.str k.name) (.inr nm) = true; rw [hk]; simp [e]), List.find?_cons_of_neg (by simp [e])]
      exact kn_find ks
theorem sget_known {p : Pt} (v : Pv p) {nm : Str} (h : nm ∈ p.kinds.map Kd.name) : sget (knL p) (.str nm) = some (some (kdD (kindOf p nm))) := by
  obtain ⟨l1, l4⟩ := kn_len v
  unfold sget
  rw [if_pos]
  · show some (((knL p).find? fun q => keyEq q.1 (.inr nm)).map (·.2)) = _
    unfold knL
    rw [kn_find]
    obtain ⟨k, h1, h2, h3⟩ := kind_find h
    unfold kindOf
    rw [h2]; rfl
  · refine ⟨fun z => ?_, ?_⟩
    · have := congrArg List.length z
      unfold knL at this
      rw [List.length_map] at this
      simp at this
      rw [this] at l1
      simp at l1
    · rw [List.all_eq_true]
      intro q hq
      obtain ⟨k, _, rfl⟩ := List.mem_map.mp hq
      rfl
theorem order_ok {p : Pt} (v : Pv p) {q : Str × Int} (hq : q ∈ p.orders) : F_is_order [.sh (odD q), .sh (.dict (knL p))] = some (.bool true, [.sh (odD q), .sh (.dict (knL p))]) := by
  obtain ⟨h1, h2, h3⟩ := v.os q hq
  have t : F_is_tuple_of [.sh (odD q), .sh (.int 2)] = some (.bool true, [.sh (odD q), .sh (.int 2)]) := tupof_any rfl 2
  have i0 : ixD (odD q) (.int 0) = some (.str q.1) := rfl
  have i1 : ixD (odD q) (.int 1) = some (.int q.2) := rfl
  have s0 : isiB "str" (.str q.1) = some true := rfl
  have g := sget_known v h1
  have w := within_int h2 h3
  unfold F_is_order b_is_order
  generalize odD q = OD at *
  generalize knL p = KN at *
  generalize (ixD : D → D → Option D) = ix at *
  simp only [DL.mSeq, DL.mIfS, DL.mTest, DL.mAnd, DL.mOr, DL.mNot, DL.mAndV, DL.mOrV, DL.mNotV, DL.mIf, DL.mChain, DL.mOp, DL.mUn, DL.mCall, DL.mC, DL.mVar, DL.pE, DL.pO, DL.fE, DL.aNil, DL.aCons, DL.mFn, DL.mFnG, DL.mTru, DL.mIsi, DL.mIsiT, DL.mNext, DL.mRet, DL.mRetO, DL.mRetF, DL.mRetN, DL.mDrop, DL.mAsg, DL.mOwn, DL.mAug, DL.mSetL, DL.mMt, DL.mTup, DL.mLstF, DL.mDTF, DL.mDKF, DL.mYes, DL.gNm, DL.gTp, DL.gsNil, DL.gsCons, DL.mFrz, DL.frz, DL.mListF, DL.mListRg2, DL.mListRg1, DL.mFnB, List.map_cons, List.map_nil, DL.flatD, DL.mLcF, DL.okW, DL.wipeR, DL.restR, DL.rngD_len, Int.toNat_natCast, Bool.and_self, Bool.and_true, Bool.true_and, DL.mFor, DL.mRng1, DL.mRng2, DL.mIter, DL.mEnumA, Option.bind_some, Option.bind_none, Option.map_some, Option.map_none, List.getElem?_cons_succ, List.getElem?_cons_zero, List.getElem?_nil, List.set_cons_succ, List.set_cons_zero, DL.Sl.oc, DL.Sl.put, DL.ocAt, DL.putAt, DL.ocFits, DL.isIo, DL.rsv, DL.rsvs, DL.vals, DL.toSl, DL.toSls, DL.back, DL.owns, DL.ocD, DL.fin, DL.runF, DL.runG, DL.runP, DL.runQ, List.length_cons, List.length_nil, List.length_set, List.replicate, List.cons_append, List.nil_append, List.nodup_nil, List.nodup_cons, List.not_mem_nil, not_false_eq_true, and_self, and_true, true_and, if_true, if_false, reduceCtorEq, Bool.false_eq_true, ite_true, ite_false, List.mem_cons, or_false, false_or, DL.addD, DL.subD, DL.iD, DL.cmpD, DL.ltD, DL.leD, DL.gtD, DL.geD, DL.ixD, DL.int1D, DL.int2D, DL.intD, DL.absD, DL.min2D, DL.max2D, DL.lenD, DL.itemsD, DL.tupleD, DL.negD, DL.truD, DL.isD, DL.isNotD, DL.isNone, Bool.not_true, Bool.not_false, Nat.reduceAdd, Nat.reduceSub, Nat.reduceLT, Nat.reduceLeDiff, ↓reduceIte, DL.OC.lst.injEq, DL.mUn, DL.mBindX, DL.kDrop, DL.kRet, DL.kAsg, DL.runX, DL.okX, DL.mSetF, DL.putFD, DL.mSIn, DL.mSGet, DL.mIterS, t, i0, i1, s0, g, w, Option.isSome_some]
theorem check_orders_ok {p : Pt} (v : Pv p) : F_check_orders [.sh (.tuple (p.orders.map odD)), .sh (.dict (knL p))] = some (.ret .none, [.sh (.tuple (p.orders.map odD)), .sh (.dict (knL p))]) := by
  obtain ⟨l1, l4⟩ := v.ol
  have hr := row_tup (p.orders.map odD)
  have hl : lenD [.tuple (p.orders.map odD)] = some (.int (p.orders.length : Nat)) := by show some (PyData.int ((p.orders.map odD).length : Nat)) = _; rw [List.length_map]
  have d1 : decide ((1 : Int) ≤ (p.orders.length : Nat)) = true := decide_eq_true (by omega)
  have d2 : decide (((p.orders.length : Nat) : Int) ≤ 5) = true := decide_eq_true (by omega)
  unfold F_check_orders b_check_orders
  generalize hB : (mIfS (mNot (mTru (pE (mFn F_is_order _)))) _ _ : MS) = body
  obtain ⟨ρ', e, v2, v3, rfl, _⟩ := forD_inv (g := gTp 2 (gsCons (gNm 2) (gsCons (gNm 3) gsNil))) (b := body) (fun ρ => ∃ u2 u3, ρ = [.sh (.tuple (p.orders.map odD)), .sh (.dict (knL p)), u2, u3] ∧ ((u2 = .no ∧ u3 = .no) ∨ ∃ a b, u2 = .sh a ∧ u3 = .sh b)) (enumD 0 (p.orders.map odD)) [.sh (.tuple (p.orders.map odD)), .sh (.dict (knL p)), .no, .no] ⟨_, _, rfl, .inl ⟨rfl, rfl⟩⟩ fun d hd ρ ⟨u2, u3, e, hu⟩ => by
    subst e
    obtain ⟨j, x, rfl, hx⟩ := enumD_mem _ _ _ hd
    obtain ⟨q, hq, rfl⟩ := List.mem_map.mp hx
    have h1 := order_ok v hq
    refine ⟨[.sh (.tuple (p.orders.map odD)), .sh (.dict (knL p)), .sh (.int j), .sh (odD q)], [.sh (.tuple (p.orders.map odD)), .sh (.dict (knL p)), .sh (.int j), .sh (odD q)], ?_, ?_, _, _, rfl, .inr ⟨_, _, rfl, rfl⟩⟩
    · rcases hu with ⟨rfl, rfl⟩ | ⟨_, _, rfl, rfl⟩ <;> rfl
    · generalize odD q = OD at *
      generalize knL p = KN at *
      subst hB
      simp only [DL.mSeq, DL.mIfS, DL.mTest, DL.mAnd, DL.mOr, DL.mNot, DL.mAndV, DL.mOrV, DL.mNotV, DL.mIf, DL.mChain, DL.mOp, DL.mUn, DL.mCall, DL.mC, DL.mVar, DL.pE, DL.pO, DL.fE, DL.aNil, DL.aCons, DL.mFn, DL.mFnG, DL.mTru, DL.mIsi, DL.mIsiT, DL.mNext, DL.mRet, DL.mRetO, DL.mRetF, DL.mRetN, DL.mDrop, DL.mAsg, DL.mOwn, DL.mAug, DL.mSetL, DL.mMt, DL.mTup, DL.mLstF, DL.mDTF, DL.mDKF, DL.mYes, DL.gNm, DL.gTp, DL.gsNil, DL.gsCons, DL.mFrz, DL.frz, DL.mListF, DL.mListRg2, DL.mListRg1, DL.mFnB, List.map_cons, List.map_nil, DL.flatD, DL.mLcF, DL.okW, DL.wipeR, DL.restR, DL.rngD_len, Int.toNat_natCast, Bool.and_self, Bool.and_true, Bool.true_and, DL.mFor, DL.mRng1, DL.mRng2, DL.mIter, DL.mEnumA, Option.bind_some, Option.bind_none, Option.map_some, Option.map_none, List.getElem?_cons_succ, List.getElem?_cons_zero, List.getElem?_nil, List.set_cons_succ, List.set_cons_zero, DL.Sl.oc, DL.Sl.put, DL.ocAt, DL.putAt, DL.ocFits, DL.isIo, DL.rsv, DL.rsvs, DL.vals, DL.toSl, DL.toSls, DL.back, DL.owns, DL.ocD, DL.fin, DL.runF, DL.runG, DL.runP, DL.runQ, List.length_cons, List.length_nil, List.length_set, List.replicate, List.cons_append, List.nil_append, List.nodup_nil, List.nodup_cons, List.not_mem_nil, not_false_eq_true, and_self, and_true, true_and, if_true, if_false, reduceCtorEq, Bool.false_eq_true, ite_true, ite_false, List.mem_cons, or_false, false_or, DL.addD, DL.subD, DL.iD, DL.cmpD, DL.ltD, DL.leD, DL.gtD, DL.geD, DL.ixD, DL.int1D, DL.int2D, DL.intD, DL.absD, DL.min2D, DL.max2D, DL.lenD, DL.itemsD, DL.tupleD, DL.negD, DL.truD, DL.isD, DL.isNotD, DL.isNone, Bool.not_true, Bool.not_false, Nat.reduceAdd, Nat.reduceSub, Nat.reduceLT, Nat.reduceLeDiff, ↓reduceIte, DL.OC.lst.injEq, DL.mUn, DL.mBindX, DL.kDrop, DL.kRet, DL.kAsg, DL.runX, DL.okX, DL.mSetF, DL.putFD, DL.mSIn, DL.mSGet, DL.mIterS, h1]
  generalize p.orders.map odD = OS at *
  generalize (lenD : List D → Option D) = ln at *
  simp only [DL.mSeq, DL.mIfS, DL.mTest, DL.mAnd, DL.mOr, DL.mNot, DL.mAndV, DL.mOrV, DL.mNotV, DL.mIf, DL.mChain, DL.mOp, DL.mUn, DL.mCall, DL.mC, DL.mVar, DL.pE, DL.pO, DL.fE, DL.aNil, DL.aCons, DL.mFn, DL.mFnG, DL.mTru, DL.mIsi, DL.mIsiT, DL.mNext, DL.mRet, DL.mRetO, DL.mRetF, DL.mRetN, DL.mDrop, DL.mAsg, DL.mOwn, DL.mAug, DL.mSetL, DL.mMt, DL.mTup, DL.mLstF, DL.mDTF, DL.mDKF, DL.mYes, DL.gNm, DL.gTp, DL.gsNil, DL.gsCons, DL.mFrz, DL.frz, DL.mListF, DL.mListRg2, DL.mListRg1, DL.mFnB, List.map_cons, List.map_nil, DL.flatD, DL.mLcF, DL.okW, DL.wipeR, DL.restR, DL.rngD_len, Int.toNat_natCast, Bool.and_self, Bool.and_true, Bool.true_and, DL.mFor, DL.mRng1, DL.mRng2, DL.mIter, DL.mEnumA, Option.bind_some, Option.bind_none, Option.map_some, Option.map_none, List.getElem?_cons_succ, List.getElem?_cons_zero, List.getElem?_nil, List.set_cons_succ, List.set_cons_zero, DL.Sl.oc, DL.Sl.put, DL.ocAt, DL.putAt, DL.ocFits, DL.isIo, DL.rsv, DL.rsvs, DL.vals, DL.toSl, DL.toSls, DL.back, DL.owns, DL.ocD, DL.fin, DL.runF, DL.runG, DL.runP, DL.runQ, List.length_cons, List.length_nil, List.length_set, List.replicate, List.cons_append, List.nil_append, List.nodup_nil, List.nodup_cons, List.not_mem_nil, not_false_eq_true, and_self, and_true, true_and, if_true, if_false, reduceCtorEq, Bool.false_eq_true, ite_true, ite_false, List.mem_cons, or_false, false_or, DL.addD, DL.subD, DL.iD, DL.cmpD, DL.ltD, DL.leD, DL.gtD, DL.geD, DL.ixD, DL.int1D, DL.int2D, DL.intD, DL.absD, DL.min2D, DL.max2D, DL.lenD, DL.itemsD, DL.tupleD, DL.negD, DL.truD, DL.isD, DL.isNotD, DL.isNone, Bool.not_true, Bool.not_false, Nat.reduceAdd, Nat.reduceSub, Nat.reduceLT, Nat.reduceLeDiff, ↓reduceIte, DL.OC.lst.injEq, DL.mUn, DL.mBindX, DL.kDrop, DL.kRet, DL.kAsg, DL.runX, DL.okX, DL.mSetF, DL.putFD, DL.mSIn, DL.mSGet, DL.mIterS, hr, hl, d1, d2, e]
theorem check_budgets_ok {a b c : Int} (ha : 0 ≤ a ∧ a ≤ 3) (hb : 0 ≤ b ∧ b ≤ 3) (hc : 0 ≤ c ∧ c ≤ 3) : F_check_budgets [.sh (.tuple [.int a, .int b, .int c])] = some (.ret .none, [.sh (.tuple [.int a, .int b, .int c])]) := by
  have t : F_is_tuple_of [.sh (.tuple [.int a, .int b, .int c]), .sh (.int 3)] = some (.bool true, [.sh (.tuple [.int a, .int b, .int c]), .sh (.int 3)]) := tupof_any rfl 3
  have w1 := within_int ha.1 ha.2
  have w2 := within_int hb.1 hb.2
  have w3 := within_int hc.1 hc.2
  unfold F_check_budgets b_check_budgets
  generalize hE : (mFn F_is_within _ : ME) = el
  have hcc := compD_mapA (vs := [1]) (g := gNm 1) (elt := el) (ρ := [.sh (.tuple [.int a, .int b, .int c]), .no]) PyData.int (fun _ : Int => PyData.bool true) [a, b, c] fun x hx => by
    refine ⟨[.sh (.tuple [.int a, .int b, .int c]), .sh (.int x)], rfl, ?_, rfl, rfl⟩
    have w : F_is_within [.sh (.int x), .sh (.int 0), .sh (.int 3)] = some (.bool true, [.sh (.int x), .sh (.int 0), .sh (.int 3)]) := by
      simp only [List.mem_cons, List.not_mem_nil, or_false] at hx
      rcases hx with rfl | rfl | rfl
      · exact w1
      · exact w2
      · exact w3
    subst hE
    simp only [DL.mSeq, DL.mIfS, DL.mTest, DL.mAnd, DL.mOr, DL.mNot, DL.mAndV, DL.mOrV, DL.mNotV, DL.mIf, DL.mChain, DL.mOp, DL.mUn, DL.mCall, DL.mC, DL.mVar, DL.pE, DL.pO, DL.fE, DL.aNil, DL.aCons, DL.mFn, DL.mFnG, DL.mTru, DL.mIsi, DL.mIsiT, DL.mNext, DL.mRet, DL.mRetO, DL.mRetF, DL.mRetN, DL.mDrop, DL.mAsg, DL.mOwn, DL.mAug, DL.mSetL, DL.mMt, DL.mTup, DL.mLstF, DL.mDTF, DL.mDKF, DL.mYes, DL.gNm, DL.gTp, DL.gsNil, DL.gsCons, DL.mFrz, DL.frz, DL.mListF, DL.mListRg2, DL.mListRg1, DL.mFnB, List.map_cons, List.map_nil, DL.flatD, DL.mLcF, DL.okW, DL.wipeR, DL.restR, DL.rngD_len, Int.toNat_natCast, Bool.and_self, Bool.and_true, Bool.true_and, DL.mFor, DL.mRng1, DL.mRng2, DL.mIter, DL.mEnumA, Option.bind_some, Option.bind_none, Option.map_some, Option.map_none, List.getElem?_cons_succ, List.getElem?_cons_zero, List.getElem?_nil, List.set_cons_succ, List.set_cons_zero, DL.Sl.oc, DL.Sl.put, DL.ocAt, DL.putAt, DL.ocFits, DL.isIo, DL.rsv, DL.rsvs, DL.vals, DL.toSl, DL.toSls, DL.back, DL.owns, DL.ocD, DL.fin, DL.runF, DL.runG, DL.runP, DL.runQ, List.length_cons, List.length_nil, List.length_set, List.replicate, List.cons_append, List.nil_append, List.nodup_nil, List.nodup_cons, List.not_mem_nil, not_false_eq_true, and_self, and_true, true_and, if_true, if_false, reduceCtorEq, Bool.false_eq_true, ite_true, ite_false, List.mem_cons, or_false, false_or, DL.addD, DL.subD, DL.iD, DL.cmpD, DL.ltD, DL.leD, DL.gtD, DL.geD, DL.ixD, DL.int1D, DL.int2D, DL.intD, DL.absD, DL.min2D, DL.max2D, DL.lenD, DL.itemsD, DL.tupleD, DL.negD, DL.truD, DL.isD, DL.isNotD, DL.isNone, Bool.not_true, Bool.not_false, Nat.reduceAdd, Nat.reduceSub, Nat.reduceLT, Nat.reduceLeDiff, ↓reduceIte, DL.OC.lst.injEq, DL.mUn, DL.mBindX, DL.kDrop, DL.kRet, DL.kAsg, DL.runX, DL.okX, DL.mSetF, DL.putFD, DL.mSIn, DL.mSGet, DL.mIterS, w]
  have hcc : compD [1] (gNm 1) mYes el [.int a, .int b, .int c] [.sh (.tuple [.int a, .int b, .int c]), .no] = some ([.bool true, .bool true, .bool true], [.sh (.tuple [.int a, .int b, .int c]), .no]) := hcc
  have hall : allD [.list [.bool true, .bool true, .bool true]] = some (.bool true) := rfl
  generalize (allD : List D → Option D) = al at *
  simp only [DL.mSeq, DL.mIfS, DL.mTest, DL.mAnd, DL.mOr, DL.mNot, DL.mAndV, DL.mOrV, DL.mNotV, DL.mIf, DL.mChain, DL.mOp, DL.mUn, DL.mCall, DL.mC, DL.mVar, DL.pE, DL.pO, DL.fE, DL.aNil, DL.aCons, DL.mFn, DL.mFnG, DL.mTru, DL.mIsi, DL.mIsiT, DL.mNext, DL.mRet, DL.mRetO, DL.mRetF, DL.mRetN, DL.mDrop, DL.mAsg, DL.mOwn, DL.mAug, DL.mSetL, DL.mMt, DL.mTup, DL.mLstF, DL.mDTF, DL.mDKF, DL.mYes, DL.gNm, DL.gTp, DL.gsNil, DL.gsCons, DL.mFrz, DL.frz, DL.mListF, DL.mListRg2, DL.mListRg1, DL.mFnB, List.map_cons, List.map_nil, DL.flatD, DL.mLcF, DL.okW, DL.wipeR, DL.restR, DL.rngD_len, Int.toNat_natCast, Bool.and_self, Bool.and_true, Bool.true_and, DL.mFor, DL.mRng1, DL.mRng2, DL.mIter, DL.mEnumA, Option.bind_some, Option.bind_none, Option.map_some, Option.map_none, List.getElem?_cons_succ, List.getElem?_cons_zero, List.getElem?_nil, List.set_cons_succ, List.set_cons_zero, DL.Sl.oc, DL.Sl.put, DL.ocAt, DL.putAt, DL.ocFits, DL.isIo, DL.rsv, DL.rsvs, DL.vals, DL.toSl, DL.toSls, DL.back, DL.owns, DL.ocD, DL.fin, DL.runF, DL.runG, DL.runP, DL.runQ, List.length_cons, List.length_nil, List.length_set, List.replicate, List.cons_append, List.nil_append, List.nodup_nil, List.nodup_cons, List.not_mem_nil, not_false_eq_true, and_self, and_true, true_and, if_true, if_false, reduceCtorEq, Bool.false_eq_true, ite_true, ite_false, List.mem_cons, or_false, false_or, DL.addD, DL.subD, DL.iD, DL.cmpD, DL.ltD, DL.leD, DL.gtD, DL.geD, DL.ixD, DL.int1D, DL.int2D, DL.intD, DL.absD, DL.min2D, DL.max2D, DL.lenD, DL.itemsD, DL.tupleD, DL.negD, DL.truD, DL.isD, DL.isNotD, DL.isNone, Bool.not_true, Bool.not_false, Nat.reduceAdd, Nat.reduceSub, Nat.reduceLT, Nat.reduceLeDiff, ↓reduceIte, DL.OC.lst.injEq, DL.mUn, DL.mBindX, DL.kDrop, DL.kRet, DL.kAsg, DL.runX, DL.okX, DL.mSetF, DL.putFD, DL.mSIn, DL.mSGet, DL.mIterS, t, hcc, hall, ocD]
theorem putFD_new {f : Str} {v : D} : ∀ {fs : List (Str × D)}, (fs.all fun q => !(q.1 == f)) = true → putFD f v fs = fs ++ [(f, v)]
  | [], _ => rfl
  | (g, x) :: fs, h => by
    rw [List.all_cons, Bool.and_eq_true] at h
    have hne : g ≠ f := by
      have := h.1
      simp at this; exact this
    show (if g = f then _ else _) = _
    rw [if_neg hne, putFD_new h.2]; rfl
theorem setF_ok {nm f : Str} {i : Nat} {m : ME} {ρ ρ' : Rho} {d : D} {fs fs2 : List (Str × D)} (hm : m ρ = some (d, ρ')) (hi : ocAt ρ' i = some (.ins nm fs)) (hl : fs.length < 1000) (hf : putFD f d fs = fs2) : mSetF nm i f m ρ = some (.nx (putAt ρ' i (.ins nm fs2))) := by
  unfold mSetF
  rw [hm, Option.bind_some]
  simp only [hi, hl, and_self, if_true, hf]
end Lk11
set_option Elab.async false
set_option linter.all false
set_option maxRecDepth 100000
set_option maxHeartbeats 4000000
namespace Lk11
open PySem L2 DL
theorem check_hands_ok {x : Int} (h : 1 ≤ x ∧ x ≤ 3) : F_check_hands [.sh (.int x)] = some (.ret .none, [.sh (.int x)]) := by
  have w := within_int h.1 h.2
  unfold F_check_hands b_check_hands
  simp only [DL.mSeq, DL.mIfS, DL.mTest, DL.mAnd, DL.mOr, DL.mNot, DL.mAndV, DL.mOrV, DL.mNotV, DL.mIf, DL.mChain, DL.mOp, DL.mUn, DL.mCall, DL.mC, DL.mVar, DL.pE, DL.pO, DL.fE, DL.aNil, DL.aCons, DL.mFn, DL.mFnG, DL.mTru, DL.mIsi, DL.mIsiT, DL.mNext, DL.mRet, DL.mRetO, DL.mRetF, DL.mRetN, DL.mDrop, DL.mAsg, DL.mOwn, DL.mAug, DL.mSetL, DL.mMt, DL.mTup, DL.mLstF, DL.mDTF, DL.mDKF, DL.mYes, DL.gNm, DL.gTp, DL.gsNil, DL.gsCons, DL.mFrz, DL.frz, DL.mListF, DL.mListRg2, DL.mListRg1, DL.mFnB, List.map_cons, List.map_nil, DL.flatD, DL.mLcF, DL.okW, DL.wipeR, DL.restR, DL.rngD_len, Int.toNat_natCast, Bool.and_self, Bool.and_true, Bool.true_and, DL.mFor, DL.mRng1, DL.mRng2, DL.mIter, DL.mEnumA, Option.bind_some, Option.bind_none, Option.map_some, Option.map_none, List.getElem?_cons_succ, List.getElem?_cons_zero, List.getElem?_nil, List.set_cons_succ, List.set_cons_zero, DL.Sl.oc, DL.Sl.put, DL.ocAt, DL.putAt, DL.ocFits, DL.isIo, DL.rsv, DL.rsvs, DL.vals, DL.toSl, DL.toSls, DL.back, DL.owns, DL.ocD, DL.fin, DL.runF, DL.runG, DL.runP, DL.runQ, List.length_cons, List.length_nil, List.length_set, List.replicate, List.cons_append, List.nil_append, List.nodup_nil, List.nodup_cons, List.not_mem_nil, not_false_eq_true, and_self, and_true, true_and, if_true, if_false, reduceCtorEq, Bool.false_eq_true, ite_true, ite_false, List.mem_cons, or_false, false_or, DL.addD, DL.subD, DL.iD, DL.cmpD, DL.ltD, DL.leD, DL.gtD, DL.geD, DL.ixD, DL.int1D, DL.int2D, DL.intD, DL.absD, DL.min2D, DL.max2D, DL.lenD, DL.itemsD, DL.tupleD, DL.negD, DL.truD, DL.isD, DL.isNotD, DL.isNone, Bool.not_true, Bool.not_false, Nat.reduceAdd, Nat.reduceSub, Nat.reduceLT, Nat.reduceLeDiff, ↓reduceIte, DL.OC.lst.injEq, DL.mUn, DL.mBindX, DL.kDrop, DL.kRet, DL.kAsg, DL.runX, DL.okX, DL.mSetF, DL.putFD, DL.mSIn, DL.mSGet, DL.mIterS, w]
theorem check_ovens_ok {x : Int} (h : 1 ≤ x ∧ x ≤ 3) : F_check_ovens [.sh (.int x)] = some (.ret .none, [.sh (.int x)]) := by
  have w := within_int h.1 h.2
  unfold F_check_ovens b_check_ovens
  simp only [DL.mSeq, DL.mIfS, DL.mTest, DL.mAnd, DL.mOr, DL.mNot, DL.mAndV, DL.mOrV, DL.mNotV, DL.mIf, DL.mChain, DL.mOp, DL.mUn, DL.mCall, DL.mC, DL.mVar, DL.pE, DL.pO, DL.fE, DL.aNil, DL.aCons, DL.mFn, DL.mFnG, DL.mTru, DL.mIsi, DL.mIsiT, DL.mNext, DL.mRet, DL.mRetO, DL.mRetF, DL.mRetN, DL.mDrop, DL.mAsg, DL.mOwn, DL.mAug, DL.mSetL, DL.mMt, DL.mTup, DL.mLstF, DL.mDTF, DL.mDKF, DL.mYes, DL.gNm, DL.gTp, DL.gsNil, DL.gsCons, DL.mFrz, DL.frz, DL.mListF, DL.mListRg2, DL.mListRg1, DL.mFnB, List.map_cons, List.map_nil, DL.flatD, DL.mLcF, DL.okW, DL.wipeR, DL.restR, DL.rngD_len, Int.toNat_natCast, Bool.and_self, Bool.and_true, Bool.true_and, DL.mFor, DL.mRng1, DL.mRng2, DL.mIter, DL.mEnumA, Option.bind_some, Option.bind_none, Option.map_some, Option.map_none, List.getElem?_cons_succ, List.getElem?_cons_zero, List.getElem?_nil, List.set_cons_succ, List.set_cons_zero, DL.Sl.oc, DL.Sl.put, DL.ocAt, DL.putAt, DL.ocFits, DL.isIo, DL.rsv, DL.rsvs, DL.vals, DL.toSl, DL.toSls, DL.back, DL.owns, DL.ocD, DL.fin, DL.runF, DL.runG, DL.runP, DL.runQ, List.length_cons, List.length_nil, List.length_set, List.replicate, List.cons_append, List.nil_append, List.nodup_nil, List.nodup_cons, List.not_mem_nil, not_false_eq_true, and_self, and_true, true_and, if_true, if_false, reduceCtorEq, Bool.false_eq_true, ite_true, ite_false, List.mem_cons, or_false, false_or, DL.addD, DL.subD, DL.iD, DL.cmpD, DL.ltD, DL.leD, DL.gtD, DL.geD, DL.ixD, DL.int1D, DL.int2D, DL.intD, DL.absD, DL.min2D, DL.max2D, DL.lenD, DL.itemsD, DL.tupleD, DL.negD, DL.truD, DL.isD, DL.isNotD, DL.isNone, Bool.not_true, Bool.not_false, Nat.reduceAdd, Nat.reduceSub, Nat.reduceLT, Nat.reduceLeDiff, ↓reduceIte, DL.OC.lst.injEq, DL.mUn, DL.mBindX, DL.kDrop, DL.kRet, DL.kAsg, DL.runX, DL.okX, DL.mSetF, DL.putFD, DL.mSIn, DL.mSGet, DL.mIterS, w]
theorem check_repair_ok {x : Int} (h : 1 ≤ x ∧ x ≤ 4) : F_check_repair [.sh (.int x)] = some (.ret .none, [.sh (.int x)]) := by
  have w := within_int h.1 h.2
  unfold F_check_repair b_check_repair
  simp only [DL.mSeq, DL.mIfS, DL.mTest, DL.mAnd, DL.mOr, DL.mNot, DL.mAndV, DL.mOrV, DL.mNotV, DL.mIf, DL.mChain, DL.mOp, DL.mUn, DL.mCall, DL.mC, DL.mVar, DL.pE, DL.pO, DL.fE, DL.aNil, DL.aCons, DL.mFn, DL.mFnG, DL.mTru, DL.mIsi, DL.mIsiT, DL.mNext, DL.mRet, DL.mRetO, DL.mRetF, DL.mRetN, DL.mDrop, DL.mAsg, DL.mOwn, DL.mAug, DL.mSetL, DL.mMt, DL.mTup, DL.mLstF, DL.mDTF, DL.mDKF, DL.mYes, DL.gNm, DL.gTp, DL.gsNil, DL.gsCons, DL.mFrz, DL.frz, DL.mListF, DL.mListRg2, DL.mListRg1, DL.mFnB, List.map_cons, List.map_nil, DL.flatD, DL.mLcF, DL.okW, DL.wipeR, DL.restR, DL.rngD_len, Int.toNat_natCast, Bool.and_self, Bool.and_true, Bool.true_and, DL.mFor, DL.mRng1, DL.mRng2, DL.mIter, DL.mEnumA, Option.bind_some, Option.bind_none, Option.map_some, Option.map_none, List.getElem?_cons_succ, List.getElem?_cons_zero, List.getElem?_nil, List.set_cons_succ, List.set_cons_zero, DL.Sl.oc, DL.Sl.put, DL.ocAt, DL.putAt, DL.ocFits, DL.isIo, DL.rsv, DL.rsvs, DL.vals, DL.toSl, DL.toSls, DL.back, DL.owns, DL.ocD, DL.fin, DL.runF, DL.runG, DL.runP, DL.runQ, List.length_cons, List.length_nil, List.length_set, List.replicate, List.cons_append, List.nil_append, List.nodup_nil, List.nodup_cons, List.not_mem_nil, not_false_eq_true, and_self, and_true, true_and, if_true, if_false, reduceCtorEq, Bool.false_eq_true, ite_true, ite_false, List.mem_cons, or_false, false_or, DL.addD, DL.subD, DL.iD, DL.cmpD, DL.ltD, DL.leD, DL.gtD, DL.geD, DL.ixD, DL.int1D, DL.int2D, DL.intD, DL.absD, DL.min2D, DL.max2D, DL.lenD, DL.itemsD, DL.tupleD, DL.negD, DL.truD, DL.isD, DL.isNotD, DL.isNone, Bool.not_true, Bool.not_false, Nat.reduceAdd, Nat.reduceSub, Nat.reduceLT, Nat.reduceLeDiff, ↓reduceIte, DL.OC.lst.injEq, DL.mUn, DL.mBindX, DL.kDrop, DL.kRet, DL.kAsg, DL.runX, DL.okX, DL.mSetF, DL.putFD, DL.mSIn, DL.mSGet, DL.mIterS, w]
theorem setF0 {f : Str} {m : ME} {rest : Rho} {d : D} {fs fs2 : List (Str × D)} (hm : m (.io (.ins "Night" fs) :: rest) = some (d, .io (.ins "Night" fs) :: rest)) (hl : fs.length < 1000) (hf : putFD f d fs = fs2) : mSetF "Night" 0 f m (.io (.ins "Night" fs) :: rest) = some (.nx (.io (.ins "Night" fs2) :: rest)) := setF_ok hm rfl hl hf
theorem init_ok {p : Pt} (v : Pv p) : F_Night_init [.io (.ins "Night" []), .sh (.int p.hands), .sh (.int p.ovens), .sh (.tuple (p.kinds.map kdD)), .sh (.tuple (p.orders.map odD)), .sh (.tuple [.int p.b0, .int p.b1, .int p.b2]), .sh (.int p.repair)] =
    some (.ret .none, [.io (.ins "Night" (ntF p)), .sh (.int p.hands), .sh (.int p.ovens), .sh (.tuple (p.kinds.map kdD)), .sh (.tuple (p.orders.map odD)), .sh (.tuple [.int p.b0, .int p.b1, .int p.b2]), .sh (.int p.repair)]) := by
  have c1 := check_hands_ok v.h
  have c2 := check_ovens_ok v.o
  have c3 := check_kinds_ok v
  have c4 := check_orders_ok v
  have c5 := check_budgets_ok v.b.1 v.b.2.1 v.b.2.2
  have c6 := check_repair_ok v.r
  obtain ⟨l1, l4⟩ := kn_len v
  have hk5 : (p.kinds.map kdD).length ≤ 50000 := by rw [List.length_map]; omega
  have ho5 : (p.orders.map odD).length ≤ 50000 := by have := v.ol; rw [List.length_map]; omega
  unfold F_Night_init b_Night_init
  generalize hMK : (mOp ixD (pE (mVar 8)) (pE (mC (.int 0))) : ME) = mk
  have kl := known_loop (mk := mk) (vs := [8]) (g := gNm 8) (mv := mVar 8) (ρ := [.io (.ins "Night" []), .sh (.int p.hands), .sh (.int p.ovens), .sh (.tuple (p.kinds.map kdD)), .sh (.tuple (p.orders.map odD)), .sh (.tuple [.int p.b0, .int p.b1, .int p.b2]), .sh (.int p.repair), .no, .no, .no, .no]) (fun k => by
    have i0 := (kd_ix k).1
    refine ⟨[.io (.ins "Night" []), .sh (.int p.hands), .sh (.int p.ovens), .sh (.tuple (p.kinds.map kdD)), .sh (.tuple (p.orders.map odD)), .sh (.tuple [.int p.b0, .int p.b1, .int p.b2]), .sh (.int p.repair), .no, .sh (kdD k), .no, .no], rfl, ?_, rfl, rfl, rfl⟩
    generalize kdD k = KD at *
    generalize (ixD : D → D → Option D) = ix at *
    subst hMK
    simp only [DL.mSeq, DL.mIfS, DL.mTest, DL.mAnd, DL.mOr, DL.mNot, DL.mAndV, DL.mOrV, DL.mNotV, DL.mIf, DL.mChain, DL.mOp, DL.mUn, DL.mCall, DL.mC, DL.mVar, DL.pE, DL.pO, DL.fE, DL.aNil, DL.aCons, DL.mFn, DL.mFnG, DL.mTru, DL.mIsi, DL.mIsiT, DL.mNext, DL.mRet, DL.mRetO, DL.mRetF, DL.mRetN, DL.mDrop, DL.mAsg, DL.mOwn, DL.mAug, DL.mSetL, DL.mMt, DL.mTup, DL.mLstF, DL.mDTF, DL.mDKF, DL.mYes, DL.gNm, DL.gTp, DL.gsNil, DL.gsCons, DL.mFrz, DL.frz, DL.mListF, DL.mListRg2, DL.mListRg1, DL.mFnB, List.map_cons, List.map_nil, DL.flatD, DL.mLcF, DL.okW, DL.wipeR, DL.restR, DL.rngD_len, Int.toNat_natCast, Bool.and_self, Bool.and_true, Bool.true_and, DL.mFor, DL.mRng1, DL.mRng2, DL.mIter, DL.mEnumA, Option.bind_some, Option.bind_none, Option.map_some, Option.map_none, List.getElem?_cons_succ, List.getElem?_cons_zero, List.getElem?_nil, List.set_cons_succ, List.set_cons_zero, DL.Sl.oc, DL.Sl.put, DL.ocAt, DL.putAt, DL.ocFits, DL.isIo, DL.rsv, DL.rsvs, DL.vals, DL.toSl, DL.toSls, DL.back, DL.owns, DL.ocD, DL.fin, DL.runF, DL.runG, DL.runP, DL.runQ, List.length_cons, List.length_nil, List.length_set, List.replicate, List.cons_append, List.nil_append, List.nodup_nil, List.nodup_cons, List.not_mem_nil, not_false_eq_true, and_self, and_true, true_and, if_true, if_false, reduceCtorEq, Bool.false_eq_true, ite_true, ite_false, List.mem_cons, or_false, false_or, DL.addD, DL.subD, DL.iD, DL.cmpD, DL.ltD, DL.leD, DL.gtD, DL.geD, DL.ixD, DL.int1D, DL.int2D, DL.intD, DL.absD, DL.min2D, DL.max2D, DL.lenD, DL.itemsD, DL.tupleD, DL.negD, DL.truD, DL.isD, DL.isNotD, DL.isNone, Bool.not_true, Bool.not_false, Nat.reduceAdd, Nat.reduceSub, Nat.reduceLT, Nat.reduceLeDiff, ↓reduceIte, DL.OC.lst.injEq, DL.mUn, DL.mBindX, DL.kDrop, DL.kRet, DL.kAsg, DL.runX, DL.okX, DL.mSetF, DL.putFD, DL.mSIn, DL.mSGet, DL.mIterS, i0]) p.kinds [] (by
      obtain ⟨n, _, _, e⟩ := v.kn
      have : (p.kinds.map fun k : Kd => (Sum.inr k.name : Key)) = (names4.take n).map Sum.inr := by rw [← e, List.map_map]; rfl
      rw [this]
      refine List.pairwise_map.mpr ((nodup4 n).imp fun h z => h ?_)
      cases z; rfl) (by simp; omega)
  rw [List.nil_append] at kl
  have hkn : (p.kinds.map fun k : Kd => ((Sum.inr k.name : Key), kdD k)).map (fun kv => (keyD kv.1, kv.2)) = knL p := by rw [List.map_map]; rfl
  generalize (p.kinds.map fun k : Kd => ((Sum.inr k.name : Key), kdD k)) = KV at *
  -- own
  generalize hEL : (mSGet (mVar 7) (mVar 9) : ME) = el
  generalize hGG : (gTp 2 (gsCons (gNm 9) (gsCons (gNm 10) gsNil)) : MG) = gg
  have ow : ∀ fs : List (Str × D), compD [9, 10] gg mYes el (p.orders.map odD) [.io (.ins "Night" fs), .sh (.int p.hands), .sh (.int p.ovens), .sh (.tuple (p.kinds.map kdD)), .sh (.tuple (p.orders.map odD)), .sh (.tuple [.int p.b0, .int p.b1, .int p.b2]), .sh (.int p.repair), .sh (.dict (knL p)), .no, .no, .no] =
      some ((ownK p).map kdD, [.io (.ins "Night" fs), .sh (.int p.hands), .sh (.int p.ovens), .sh (.tuple (p.kinds.map kdD)), .sh (.tuple (p.orders.map odD)), .sh (.tuple [.int p.b0, .int p.b1, .int p.b2]), .sh (.int p.repair), .sh (.dict (knL p)), .no, .no, .no]) := fun fs => by
    unfold ownK
    rw [List.map_map]
    refine compD_mapA odD (fun q => kdD (kindOf p q.1)) p.orders fun q hq => ⟨[.io (.ins "Night" fs), .sh (.int p.hands), .sh (.int p.ovens), .sh (.tuple (p.kinds.map kdD)), .sh (.tuple (p.orders.map odD)), .sh (.tuple [.int p.b0, .int p.b1, .int p.b2]), .sh (.int p.repair), .sh (.dict (knL p)), .no, .sh (.str q.1), .sh (.int q.2)], ?_, ?_, rfl, rfl⟩
    · subst hGG; rfl
    · have g := sget_known v (v.os q hq).1
      generalize knL p = KN at *
      subst hEL
      simp only [DL.mSeq, DL.mIfS, DL.mTest, DL.mAnd, DL.mOr, DL.mNot, DL.mAndV, DL.mOrV, DL.mNotV, DL.mIf, DL.mChain, DL.mOp, DL.mUn, DL.mCall, DL.mC, DL.mVar, DL.pE, DL.pO, DL.fE, DL.aNil, DL.aCons, DL.mFn, DL.mFnG, DL.mTru, DL.mIsi, DL.mIsiT, DL.mNext, DL.mRet, DL.mRetO, DL.mRetF, DL.mRetN, DL.mDrop, DL.mAsg, DL.mOwn, DL.mAug, DL.mSetL, DL.mMt, DL.mTup, DL.mLstF, DL.mDTF, DL.mDKF, DL.mYes, DL.gNm, DL.gTp, DL.gsNil, DL.gsCons, DL.mFrz, DL.frz, DL.mListF, DL.mListRg2, DL.mListRg1, DL.mFnB, List.map_cons, List.map_nil, DL.flatD, DL.mLcF, DL.okW, DL.wipeR, DL.restR, DL.rngD_len, Int.toNat_natCast, Bool.and_self, Bool.and_true, Bool.true_and, DL.mFor, DL.mRng1, DL.mRng2, DL.mIter, DL.mEnumA, Option.bind_some, Option.bind_none, Option.map_some, Option.map_none, List.getElem?_cons_succ, List.getElem?_cons_zero, List.getElem?_nil, List.set_cons_succ, List.set_cons_zero, DL.Sl.oc, DL.Sl.put, DL.ocAt, DL.putAt, DL.ocFits, DL.isIo, DL.rsv, DL.rsvs, DL.vals, DL.toSl, DL.toSls, DL.back, DL.owns, DL.ocD, DL.fin, DL.runF, DL.runG, DL.runP, DL.runQ, List.length_cons, List.length_nil, List.length_set, List.replicate, List.cons_append, List.nil_append, List.nodup_nil, List.nodup_cons, List.not_mem_nil, not_false_eq_true, and_self, and_true, true_and, if_true, if_false, reduceCtorEq, Bool.false_eq_true, ite_true, ite_false, List.mem_cons, or_false, false_or, DL.addD, DL.subD, DL.iD, DL.cmpD, DL.ltD, DL.leD, DL.gtD, DL.geD, DL.ixD, DL.int1D, DL.int2D, DL.intD, DL.absD, DL.min2D, DL.max2D, DL.lenD, DL.itemsD, DL.tupleD, DL.negD, DL.truD, DL.isD, DL.isNotD, DL.isNone, Bool.not_true, Bool.not_false, Nat.reduceAdd, Nat.reduceSub, Nat.reduceLT, Nat.reduceLeDiff, ↓reduceIte, DL.OC.lst.injEq, DL.mUn, DL.mBindX, DL.kDrop, DL.kRet, DL.kAsg, DL.runX, DL.okX, DL.mSetF, DL.putFD, DL.mSIn, DL.mSGet, DL.mIterS, g]
  generalize hS1 : mSetF "Night" 0 "hands" (mVar 1) = S1
  generalize hS2 : mSetF "Night" 0 "ovens" (mVar 2) = S2
  generalize hS3 : mSetF "Night" 0 "kinds" _ = S3
  generalize hS4 : mSetF "Night" 0 "orders" _ = S4
  generalize hS5 : mSetF "Night" 0 "budgets" (mVar 5) = S5
  generalize hS6 : mSetF "Night" 0 "repair" (mVar 6) = S6
  generalize hS7 : mSetF "Night" 0 "own" _ = S7
  have n1 : putFD "hands" (.int p.hands) [] = (ntF p).take 1 := rfl
  have n2 : putFD "ovens" (.int p.ovens) ((ntF p).take 1) = (ntF p).take 2 := putFD_new rfl
  have n3 : putFD "kinds" (.tuple (p.kinds.map kdD)) ((ntF p).take 2) = (ntF p).take 3 := putFD_new rfl
  have n4 : putFD "orders" (.tuple (p.orders.map odD)) ((ntF p).take 3) = (ntF p).take 4 := putFD_new rfl
  have n5 : putFD "budgets" (.tuple [.int p.b0, .int p.b1, .int p.b2]) ((ntF p).take 4) = (ntF p).take 5 := putFD_new rfl
  have n6 : putFD "repair" (.int p.repair) ((ntF p).take 5) = (ntF p).take 6 := putFD_new rfl
  have n7 : putFD "own" (.tuple ((ownK p).map kdD)) ((ntF p).take 6) = ntF p := putFD_new rfl
  have L1 : ((ntF p).take 1).length < 1000 := by show 1 < 1000; omega
  have L2 : ((ntF p).take 2).length < 1000 := by show 2 < 1000; omega
  have L3 : ((ntF p).take 3).length < 1000 := by show 3 < 1000; omega
  have L4 : ((ntF p).take 4).length < 1000 := by show 4 < 1000; omega
  have L5 : ((ntF p).take 5).length < 1000 := by show 5 < 1000; omega
  have L6 : ((ntF p).take 6).length < 1000 := by show 6 < 1000; omega
  generalize (ntF p).take 1 = f1 at *
  generalize (ntF p).take 2 = f2 at *
  generalize (ntF p).take 3 = f3 at *
  generalize (ntF p).take 4 = f4 at *
  generalize (ntF p).take 5 = f5 at *
  generalize (ntF p).take 6 = f6 at *
  generalize ntF p = f7 at *
  generalize (ownK p).map kdD = OW at *
  generalize p.kinds.map kdD = KS at *
  generalize p.orders.map odD = OS at *
  generalize knL p = KN at *
  have t3 : tupleD [.tuple KS] = some (.tuple KS) := rfl
  have t4 : tupleD [.tuple OS] = some (.tuple OS) := rfl
  have t7 : tupleD [.list OW] = some (.tuple OW) := rfl
  generalize (tupleD : List D → Option D) = tp at *
  have k1 : S1 [.io (.ins "Night" []), .sh (.int p.hands), .sh (.int p.ovens), .sh (.tuple KS), .sh (.tuple OS), .sh (.tuple [.int p.b0, .int p.b1, .int p.b2]), .sh (.int p.repair), .sh (.dict KN), .no, .no, .no] = some (.nx [.io (.ins "Night" f1), .sh (.int p.hands), .sh (.int p.ovens), .sh (.tuple KS), .sh (.tuple OS), .sh (.tuple [.int p.b0, .int p.b1, .int p.b2]), .sh (.int p.repair), .sh (.dict KN), .no, .no, .no]) := by
    rw [← hS1]; exact setF0 rfl (by show 0 < 1000; omega) n1
  have k2 : S2 [.io (.ins "Night" f1), .sh (.int p.hands), .sh (.int p.ovens), .sh (.tuple KS), .sh (.tuple OS), .sh (.tuple [.int p.b0, .int p.b1, .int p.b2]), .sh (.int p.repair), .sh (.dict KN), .no, .no, .no] = some (.nx [.io (.ins "Night" f2), .sh (.int p.hands), .sh (.int p.ovens), .sh (.tuple KS), .sh (.tuple OS), .sh (.tuple [.int p.b0, .int p.b1, .int p.b2]), .sh (.int p.repair), .sh (.dict KN), .no, .no, .no]) := by
    rw [← hS2]; exact setF0 rfl L1 n2
  have k3 : S3 [.io (.ins "Night" f2), .sh (.int p.hands), .sh (.int p.ovens), .sh (.tuple KS), .sh (.tuple OS), .sh (.tuple [.int p.b0, .int p.b1, .int p.b2]), .sh (.int p.repair), .sh (.dict KN), .no, .no, .no] = some (.nx [.io (.ins "Night" f3), .sh (.int p.hands), .sh (.int p.ovens), .sh (.tuple KS), .sh (.tuple OS), .sh (.tuple [.int p.b0, .int p.b1, .int p.b2]), .sh (.int p.repair), .sh (.dict KN), .no, .no, .no]) := by
    rw [← hS3]; exact setF0 (by simp only [DL.mSeq, DL.mIfS, DL.mTest, DL.mAnd, DL.mOr, DL.mNot, DL.mAndV, DL.mOrV, DL.mNotV, DL.mIf, DL.mChain, DL.mOp, DL.mUn, DL.mCall, DL.mC, DL.mVar, DL.pE, DL.pO, DL.fE, DL.aNil, DL.aCons, DL.mFn, DL.mFnG, DL.mTru, DL.mIsi, DL.mIsiT, DL.mNext, DL.mRet, DL.mRetO, DL.mRetF, DL.mRetN, DL.mDrop, DL.mAsg, DL.mOwn, DL.mAug, DL.mSetL, DL.mMt, DL.mTup, DL.mLstF, DL.mDTF, DL.mDKF, DL.mYes, DL.gNm, DL.gTp, DL.gsNil, DL.gsCons, DL.mFrz, DL.frz, DL.mListF, DL.mListRg2, DL.mListRg1, DL.mFnB, List.map_cons, List.map_nil, DL.flatD, DL.mLcF, DL.okW, DL.wipeR, DL.restR, DL.rngD_len, Int.toNat_natCast, Bool.and_self, Bool.and_true, Bool.true_and, DL.mFor, DL.mRng1, DL.mRng2, DL.mIter, DL.mEnumA, Option.bind_some, Option.bind_none, Option.map_some, Option.map_none, List.getElem?_cons_succ, List.getElem?_cons_zero, List.getElem?_nil, List.set_cons_succ, List.set_cons_zero, DL.Sl.oc, DL.Sl.put, DL.ocAt, DL.putAt, DL.ocFits, DL.isIo, DL.rsv, DL.rsvs, DL.vals, DL.toSl, DL.toSls, DL.back, DL.owns, DL.ocD, DL.fin, DL.runF, DL.runG, DL.runP, DL.runQ, List.length_cons, List.length_nil, List.length_set, List.replicate, List.cons_append, List.nil_append, List.nodup_nil, List.nodup_cons, List.not_mem_nil, not_false_eq_true, and_self, and_true, true_and, if_true, if_false, reduceCtorEq, Bool.false_eq_true, ite_true, ite_false, List.mem_cons, or_false, false_or, DL.addD, DL.subD, DL.iD, DL.cmpD, DL.ltD, DL.leD, DL.gtD, DL.geD, DL.ixD, DL.int1D, DL.int2D, DL.intD, DL.absD, DL.min2D, DL.max2D, DL.lenD, DL.itemsD, DL.tupleD, DL.negD, DL.truD, DL.isD, DL.isNotD, DL.isNone, Bool.not_true, Bool.not_false, Nat.reduceAdd, Nat.reduceSub, Nat.reduceLT, Nat.reduceLeDiff, ↓reduceIte, DL.OC.lst.injEq, DL.mUn, DL.mBindX, DL.kDrop, DL.kRet, DL.kAsg, DL.runX, DL.okX, DL.mSetF, DL.putFD, DL.mSIn, DL.mSGet, DL.mIterS, t3]) L2 n3
  have k4 : S4 [.io (.ins "Night" f3), .sh (.int p.hands), .sh (.int p.ovens), .sh (.tuple KS), .sh (.tuple OS), .sh (.tuple [.int p.b0, .int p.b1, .int p.b2]), .sh (.int p.repair), .sh (.dict KN), .no, .no, .no] = some (.nx [.io (.ins "Night" f4), .sh (.int p.hands), .sh (.int p.ovens), .sh (.tuple KS), .sh (.tuple OS), .sh (.tuple [.int p.b0, .int p.b1, .int p.b2]), .sh (.int p.repair), .sh (.dict KN), .no, .no, .no]) := by
    rw [← hS4]; exact setF0 (by simp only [DL.mSeq, DL.mIfS, DL.mTest, DL.mAnd, DL.mOr, DL.mNot, DL.mAndV, DL.mOrV, DL.mNotV, DL.mIf, DL.mChain, DL.mOp, DL.mUn, DL.mCall, DL.mC, DL.mVar, DL.pE, DL.pO, DL.fE, DL.aNil, DL.aCons, DL.mFn, DL.mFnG, DL.mTru, DL.mIsi, DL.mIsiT, DL.mNext, DL.mRet, DL.mRetO, DL.mRetF, DL.mRetN, DL.mDrop, DL.mAsg, DL.mOwn, DL.mAug, DL.mSetL, DL.mMt, DL.mTup, DL.mLstF, DL.mDTF, DL.mDKF, DL.mYes, DL.gNm, DL.gTp, DL.gsNil, DL.gsCons, DL.mFrz, DL.frz, DL.mListF, DL.mListRg2, DL.mListRg1, DL.mFnB, List.map_cons, List.map_nil, DL.flatD, DL.mLcF, DL.okW, DL.wipeR, DL.restR, DL.rngD_len, Int.toNat_natCast, Bool.and_self, Bool.and_true, Bool.true_and, DL.mFor, DL.mRng1, DL.mRng2, DL.mIter, DL.mEnumA, Option.bind_some, Option.bind_none, Option.map_some, Option.map_none, List.getElem?_cons_succ, List.getElem?_cons_zero, List.getElem?_nil, List.set_cons_succ, List.set_cons_zero, DL.Sl.oc, DL.Sl.put, DL.ocAt, DL.putAt, DL.ocFits, DL.isIo, DL.rsv, DL.rsvs, DL.vals, DL.toSl, DL.toSls, DL.back, DL.owns, DL.ocD, DL.fin, DL.runF, DL.runG, DL.runP, DL.runQ, List.length_cons, List.length_nil, List.length_set, List.replicate, List.cons_append, List.nil_append, List.nodup_nil, List.nodup_cons, List.not_mem_nil, not_false_eq_true, and_self, and_true, true_and, if_true, if_false, reduceCtorEq, Bool.false_eq_true, ite_true, ite_false, List.mem_cons, or_false, false_or, DL.addD, DL.subD, DL.iD, DL.cmpD, DL.ltD, DL.leD, DL.gtD, DL.geD, DL.ixD, DL.int1D, DL.int2D, DL.intD, DL.absD, DL.min2D, DL.max2D, DL.lenD, DL.itemsD, DL.tupleD, DL.negD, DL.truD, DL.isD, DL.isNotD, DL.isNone, Bool.not_true, Bool.not_false, Nat.reduceAdd, Nat.reduceSub, Nat.reduceLT, Nat.reduceLeDiff, ↓reduceIte, DL.OC.lst.injEq, DL.mUn, DL.mBindX, DL.kDrop, DL.kRet, DL.kAsg, DL.runX, DL.okX, DL.mSetF, DL.putFD, DL.mSIn, DL.mSGet, DL.mIterS, t4]) L3 n4
  have k5 : S5 [.io (.ins "Night" f4), .sh (.int p.hands), .sh (.int p.ovens), .sh (.tuple KS), .sh (.tuple OS), .sh (.tuple [.int p.b0, .int p.b1, .int p.b2]), .sh (.int p.repair), .sh (.dict KN), .no, .no, .no] = some (.nx [.io (.ins "Night" f5), .sh (.int p.hands), .sh (.int p.ovens), .sh (.tuple KS), .sh (.tuple OS), .sh (.tuple [.int p.b0, .int p.b1, .int p.b2]), .sh (.int p.repair), .sh (.dict KN), .no, .no, .no]) := by
    rw [← hS5]; exact setF0 rfl L4 n5
  have k6 : S6 [.io (.ins "Night" f5), .sh (.int p.hands), .sh (.int p.ovens), .sh (.tuple KS), .sh (.tuple OS), .sh (.tuple [.int p.b0, .int p.b1, .int p.b2]), .sh (.int p.repair), .sh (.dict KN), .no, .no, .no] = some (.nx [.io (.ins "Night" f6), .sh (.int p.hands), .sh (.int p.ovens), .sh (.tuple KS), .sh (.tuple OS), .sh (.tuple [.int p.b0, .int p.b1, .int p.b2]), .sh (.int p.repair), .sh (.dict KN), .no, .no, .no]) := by
    rw [← hS6]; exact setF0 rfl L5 n6
  have k7 : S7 [.io (.ins "Night" f6), .sh (.int p.hands), .sh (.int p.ovens), .sh (.tuple KS), .sh (.tuple OS), .sh (.tuple [.int p.b0, .int p.b1, .int p.b2]), .sh (.int p.repair), .sh (.dict KN), .no, .no, .no] = some (.nx [.io (.ins "Night" f7), .sh (.int p.hands), .sh (.int p.ovens), .sh (.tuple KS), .sh (.tuple OS), .sh (.tuple [.int p.b0, .int p.b1, .int p.b2]), .sh (.int p.repair), .sh (.dict KN), .no, .no, .no]) := by
    have ow6 := ow f6
    rw [← hS7]; exact setF0 (by simp only [DL.mSeq, DL.mIfS, DL.mTest, DL.mAnd, DL.mOr, DL.mNot, DL.mAndV, DL.mOrV, DL.mNotV, DL.mIf, DL.mChain, DL.mOp, DL.mUn, DL.mCall, DL.mC, DL.mVar, DL.pE, DL.pO, DL.fE, DL.aNil, DL.aCons, DL.mFn, DL.mFnG, DL.mTru, DL.mIsi, DL.mIsiT, DL.mNext, DL.mRet, DL.mRetO, DL.mRetF, DL.mRetN, DL.mDrop, DL.mAsg, DL.mOwn, DL.mAug, DL.mSetL, DL.mMt, DL.mTup, DL.mLstF, DL.mDTF, DL.mDKF, DL.mYes, DL.gNm, DL.gTp, DL.gsNil, DL.gsCons, DL.mFrz, DL.frz, DL.mListF, DL.mListRg2, DL.mListRg1, DL.mFnB, List.map_cons, List.map_nil, DL.flatD, DL.mLcF, DL.okW, DL.wipeR, DL.restR, DL.rngD_len, Int.toNat_natCast, Bool.and_self, Bool.and_true, Bool.true_and, DL.mFor, DL.mRng1, DL.mRng2, DL.mIter, DL.mEnumA, Option.bind_some, Option.bind_none, Option.map_some, Option.map_none, List.getElem?_cons_succ, List.getElem?_cons_zero, List.getElem?_nil, List.set_cons_succ, List.set_cons_zero, DL.Sl.oc, DL.Sl.put, DL.ocAt, DL.putAt, DL.ocFits, DL.isIo, DL.rsv, DL.rsvs, DL.vals, DL.toSl, DL.toSls, DL.back, DL.owns, DL.ocD, DL.fin, DL.runF, DL.runG, DL.runP, DL.runQ, List.length_cons, List.length_nil, List.length_set, List.replicate, List.cons_append, List.nil_append, List.nodup_nil, List.nodup_cons, List.not_mem_nil, not_false_eq_true, and_self, and_true, true_and, if_true, if_false, reduceCtorEq, Bool.false_eq_true, ite_true, ite_false, List.mem_cons, or_false, false_or, DL.addD, DL.subD, DL.iD, DL.cmpD, DL.ltD, DL.leD, DL.gtD, DL.geD, DL.ixD, DL.int1D, DL.int2D, DL.intD, DL.absD, DL.min2D, DL.max2D, DL.lenD, DL.itemsD, DL.tupleD, DL.negD, DL.truD, DL.isD, DL.isNotD, DL.isNone, Bool.not_true, Bool.not_false, Nat.reduceAdd, Nat.reduceSub, Nat.reduceLT, Nat.reduceLeDiff, ↓reduceIte, DL.OC.lst.injEq, DL.mUn, DL.mBindX, DL.kDrop, DL.kRet, DL.kAsg, DL.runX, DL.okX, DL.mSetF, DL.putFD, DL.mSIn, DL.mSGet, DL.mIterS, ho5, ow6, t7, ocD]) L6 n7
  simp only [DL.mSeq, DL.mIfS, DL.mTest, DL.mAnd, DL.mOr, DL.mNot, DL.mAndV, DL.mOrV, DL.mNotV, DL.mIf, DL.mChain, DL.mOp, DL.mUn, DL.mCall, DL.mC, DL.mVar, DL.pE, DL.pO, DL.fE, DL.aNil, DL.aCons, DL.mFn, DL.mFnG, DL.mTru, DL.mIsi, DL.mIsiT, DL.mNext, DL.mRet, DL.mRetO, DL.mRetF, DL.mRetN, DL.mDrop, DL.mAsg, DL.mOwn, DL.mAug, DL.mSetL, DL.mMt, DL.mTup, DL.mLstF, DL.mDTF, DL.mDKF, DL.mYes, DL.gNm, DL.gTp, DL.gsNil, DL.gsCons, DL.mFrz, DL.frz, DL.mListF, DL.mListRg2, DL.mListRg1, DL.mFnB, List.map_cons, List.map_nil, DL.flatD, DL.mLcF, DL.okW, DL.wipeR, DL.restR, DL.rngD_len, Int.toNat_natCast, Bool.and_self, Bool.and_true, Bool.true_and, DL.mFor, DL.mRng1, DL.mRng2, DL.mIter, DL.mEnumA, Option.bind_some, Option.bind_none, Option.map_some, Option.map_none, List.getElem?_cons_succ, List.getElem?_cons_zero, List.getElem?_nil, List.set_cons_succ, List.set_cons_zero, DL.Sl.oc, DL.Sl.put, DL.ocAt, DL.putAt, DL.ocFits, DL.isIo, DL.rsv, DL.rsvs, DL.vals, DL.toSl, DL.toSls, DL.back, DL.owns, DL.ocD, DL.fin, DL.runF, DL.runG, DL.runP, DL.runQ, List.length_cons, List.length_nil, List.length_set, List.replicate, List.cons_append, List.nil_append, List.nodup_nil, List.nodup_cons, List.not_mem_nil, not_false_eq_true, and_self, and_true, true_and, if_true, if_false, reduceCtorEq, Bool.false_eq_true, ite_true, ite_false, List.mem_cons, or_false, false_or, DL.addD, DL.subD, DL.iD, DL.cmpD, DL.ltD, DL.leD, DL.gtD, DL.geD, DL.ixD, DL.int1D, DL.int2D, DL.intD, DL.absD, DL.min2D, DL.max2D, DL.lenD, DL.itemsD, DL.tupleD, DL.negD, DL.truD, DL.isD, DL.isNotD, DL.isNone, Bool.not_true, Bool.not_false, Nat.reduceAdd, Nat.reduceSub, Nat.reduceLT, Nat.reduceLeDiff, ↓reduceIte, DL.OC.lst.injEq, DL.mUn, DL.mBindX, DL.kDrop, DL.kRet, DL.kAsg, DL.runX, DL.okX, DL.mSetF, DL.putFD, DL.mSIn, DL.mSGet, DL.mIterS, c1, c2, c3, mDcF, hk5, kl, ocD, hkn, c4, c5, c6, k1, k2, k3, k4, k5, k6, k7]
end Lk11
set_option Elab.async false
set_option linter.all false
set_option maxRecDepth 100000
set_option maxHeartbeats 4000000
namespace Lk11
open PySem L2 DL
/-! ### what is refused, check by check -/
theorem hands_bad {d : D} (hd : isDict d = false) (h : inR 1 3 d = false) : F_check_hands [.sh d] = some (.exc "BadHands" [("value", d)], [.sh d]) := by
  have w := within_any hd 1 3
  rw [h] at w
  unfold F_check_hands b_check_hands
  simp only [DL.mSeq, DL.mIfS, DL.mTest, DL.mAnd, DL.mOr, DL.mNot, DL.mAndV, DL.mOrV, DL.mNotV, DL.mIf, DL.mChain, DL.mOp, DL.mUn, DL.mCall, DL.mC, DL.mVar, DL.pE, DL.pO, DL.fE, DL.aNil, DL.aCons, DL.mFn, DL.mFnG, DL.mTru, DL.mIsi, DL.mIsiT, DL.mNext, DL.mRet, DL.mRetO, DL.mRetF, DL.mRetN, DL.mDrop, DL.mAsg, DL.mOwn, DL.mAug, DL.mSetL, DL.mMt, DL.mTup, DL.mLstF, DL.mDTF, DL.mDKF, DL.mYes, DL.gNm, DL.gTp, DL.gsNil, DL.gsCons, DL.mFrz, DL.frz, DL.mListF, DL.mListRg2, DL.mListRg1, DL.mFnB, List.map_cons, List.map_nil, DL.flatD, DL.mLcF, DL.okW, DL.wipeR, DL.restR, DL.rngD_len, Int.toNat_natCast, Bool.and_self, Bool.and_true, Bool.true_and, DL.mFor, DL.mRng1, DL.mRng2, DL.mIter, DL.mEnumA, Option.bind_some, Option.bind_none, Option.map_some, Option.map_none, List.getElem?_cons_succ, List.getElem?_cons_zero, List.getElem?_nil, List.set_cons_succ, List.set_cons_zero, DL.Sl.oc, DL.Sl.put, DL.ocAt, DL.putAt, DL.ocFits, DL.isIo, DL.rsv, DL.rsvs, DL.vals, DL.toSl, DL.toSls, DL.back, DL.owns, DL.ocD, DL.fin, DL.runF, DL.runG, DL.runP, DL.runQ, List.length_cons, List.length_nil, List.length_set, List.replicate, List.cons_append, List.nil_append, List.nodup_nil, List.nodup_cons, List.not_mem_nil, not_false_eq_true, and_self, and_true, true_and, if_true, if_false, reduceCtorEq, Bool.false_eq_true, ite_true, ite_false, List.mem_cons, or_false, false_or, DL.addD, DL.subD, DL.iD, DL.cmpD, DL.ltD, DL.leD, DL.gtD, DL.geD, DL.ixD, DL.int1D, DL.int2D, DL.intD, DL.absD, DL.min2D, DL.max2D, DL.lenD, DL.itemsD, DL.tupleD, DL.negD, DL.truD, DL.isD, DL.isNotD, DL.isNone, Bool.not_true, Bool.not_false, Nat.reduceAdd, Nat.reduceSub, Nat.reduceLT, Nat.reduceLeDiff, ↓reduceIte, DL.OC.lst.injEq, DL.mUn, DL.mBindX, DL.kDrop, DL.kRet, DL.kAsg, DL.runX, DL.okX, DL.mSetF, DL.putFD, DL.mSIn, DL.mSGet, DL.mIterS, w, rsv, mRaise, ocD, vals, List.zip_cons_cons, List.zip_nil_left, List.zip_nil_right, List.reverse_cons, List.reverse_nil, List.nil_append, List.append_nil]
theorem ovens_bad {d : D} (hd : isDict d = false) (h : inR 1 3 d = false) : F_check_ovens [.sh d] = some (.exc "BadOvens" [("value", d)], [.sh d]) := by
  have w := within_any hd 1 3
  rw [h] at w
  unfold F_check_ovens b_check_ovens
  simp only [DL.mSeq, DL.mIfS, DL.mTest, DL.mAnd, DL.mOr, DL.mNot, DL.mAndV, DL.mOrV, DL.mNotV, DL.mIf, DL.mChain, DL.mOp, DL.mUn, DL.mCall, DL.mC, DL.mVar, DL.pE, DL.pO, DL.fE, DL.aNil, DL.aCons, DL.mFn, DL.mFnG, DL.mTru, DL.mIsi, DL.mIsiT, DL.mNext, DL.mRet, DL.mRetO, DL.mRetF, DL.mRetN, DL.mDrop, DL.mAsg, DL.mOwn, DL.mAug, DL.mSetL, DL.mMt, DL.mTup, DL.mLstF, DL.mDTF, DL.mDKF, DL.mYes, DL.gNm, DL.gTp, DL.gsNil, DL.gsCons, DL.mFrz, DL.frz, DL.mListF, DL.mListRg2, DL.mListRg1, DL.mFnB, List.map_cons, List.map_nil, DL.flatD, DL.mLcF, DL.okW, DL.wipeR, DL.restR, DL.rngD_len, Int.toNat_natCast, Bool.and_self, Bool.and_true, Bool.true_and, DL.mFor, DL.mRng1, DL.mRng2, DL.mIter, DL.mEnumA, Option.bind_some, Option.bind_none, Option.map_some, Option.map_none, List.getElem?_cons_succ, List.getElem?_cons_zero, List.getElem?_nil, List.set_cons_succ, List.set_cons_zero, DL.Sl.oc, DL.Sl.put, DL.ocAt, DL.putAt, DL.ocFits, DL.isIo, DL.rsv, DL.rsvs, DL.vals, DL.toSl, DL.toSls, DL.back, DL.owns, DL.ocD, DL.fin, DL.runF, DL.runG, DL.runP, DL.runQ, List.length_cons, List.length_nil, List.length_set, List.replicate, List.cons_append, List.nil_append, List.nodup_nil, List.nodup_cons, List.not_mem_nil, not_false_eq_true, and_self, and_true, true_and, if_true, if_false, reduceCtorEq, Bool.false_eq_true, ite_true, ite_false, List.mem_cons, or_false, false_or, DL.addD, DL.subD, DL.iD, DL.cmpD, DL.ltD, DL.leD, DL.gtD, DL.geD, DL.ixD, DL.int1D, DL.int2D, DL.intD, DL.absD, DL.min2D, DL.max2D, DL.lenD, DL.itemsD, DL.tupleD, DL.negD, DL.truD, DL.isD, DL.isNotD, DL.isNone, Bool.not_true, Bool.not_false, Nat.reduceAdd, Nat.reduceSub, Nat.reduceLT, Nat.reduceLeDiff, ↓reduceIte, DL.OC.lst.injEq, DL.mUn, DL.mBindX, DL.kDrop, DL.kRet, DL.kAsg, DL.runX, DL.okX, DL.mSetF, DL.putFD, DL.mSIn, DL.mSGet, DL.mIterS, w, rsv, mRaise, ocD, vals, List.zip_cons_cons, List.zip_nil_left, List.zip_nil_right, List.reverse_cons, List.reverse_nil, List.nil_append, List.append_nil]
theorem repair_bad {d : D} (hd : isDict d = false) (h : inR 1 4 d = false) : F_check_repair [.sh d] = some (.exc "BadRepair" [("value", d)], [.sh d]) := by
  have w := within_any hd 1 4
  rw [h] at w
  unfold F_check_repair b_check_repair
  simp only [DL.mSeq, DL.mIfS, DL.mTest, DL.mAnd, DL.mOr, DL.mNot, DL.mAndV, DL.mOrV, DL.mNotV, DL.mIf, DL.mChain, DL.mOp, DL.mUn, DL.mCall, DL.mC, DL.mVar, DL.pE, DL.pO, DL.fE, DL.aNil, DL.aCons, DL.mFn, DL.mFnG, DL.mTru, DL.mIsi, DL.mIsiT, DL.mNext, DL.mRet, DL.mRetO, DL.mRetF, DL.mRetN, DL.mDrop, DL.mAsg, DL.mOwn, DL.mAug, DL.mSetL, DL.mMt, DL.mTup, DL.mLstF, DL.mDTF, DL.mDKF, DL.mYes, DL.gNm, DL.gTp, DL.gsNil, DL.gsCons, DL.mFrz, DL.frz, DL.mListF, DL.mListRg2, DL.mListRg1, DL.mFnB, List.map_cons, List.map_nil, DL.flatD, DL.mLcF, DL.okW, DL.wipeR, DL.restR, DL.rngD_len, Int.toNat_natCast, Bool.and_self, Bool.and_true, Bool.true_and, DL.mFor, DL.mRng1, DL.mRng2, DL.mIter, DL.mEnumA, Option.bind_some, Option.bind_none, Option.map_some, Option.map_none, List.getElem?_cons_succ, List.getElem?_cons_zero, List.getElem?_nil, List.set_cons_succ, List.set_cons_zero, DL.Sl.oc, DL.Sl.put, DL.ocAt, DL.putAt, DL.ocFits, DL.isIo, DL.rsv, DL.rsvs, DL.vals, DL.toSl, DL.toSls, DL.back, DL.owns, DL.ocD, DL.fin, DL.runF, DL.runG, DL.runP, DL.runQ, List.length_cons, List.length_nil, List.length_set, List.replicate, List.cons_append, List.nil_append, List.nodup_nil, List.nodup_cons, List.not_mem_nil, not_false_eq_true, and_self, and_true, true_and, if_true, if_false, reduceCtorEq, Bool.false_eq_true, ite_true, ite_false, List.mem_cons, or_false, false_or, DL.addD, DL.subD, DL.iD, DL.cmpD, DL.ltD, DL.leD, DL.gtD, DL.geD, DL.ixD, DL.int1D, DL.int2D, DL.intD, DL.absD, DL.min2D, DL.max2D, DL.lenD, DL.itemsD, DL.tupleD, DL.negD, DL.truD, DL.isD, DL.isNotD, DL.isNone, Bool.not_true, Bool.not_false, Nat.reduceAdd, Nat.reduceSub, Nat.reduceLT, Nat.reduceLeDiff, ↓reduceIte, DL.OC.lst.injEq, DL.mUn, DL.mBindX, DL.kDrop, DL.kRet, DL.kAsg, DL.runX, DL.okX, DL.mSetF, DL.putFD, DL.mSIn, DL.mSGet, DL.mIterS, w, rsv, mRaise, ocD, vals, List.zip_cons_cons, List.zip_nil_left, List.zip_nil_right, List.reverse_cons, List.reverse_nil, List.nil_append, List.append_nil]
theorem budgets_bad1 {d : D} (hd : isDict d = false) (h : isTn 3 d = false) : F_check_budgets [.sh d] = some (.exc "BadBudgets" [("value", d)], [.sh d]) := by
  have t : F_is_tuple_of [.sh d, .sh (.int 3)] = some (.bool false, [.sh d, .sh (.int 3)]) := by
    have := tupof_any hd 3
    rw [h] at this
    exact this
  unfold F_check_budgets b_check_budgets
  simp only [DL.mSeq, DL.mIfS, DL.mTest, DL.mAnd, DL.mOr, DL.mNot, DL.mAndV, DL.mOrV, DL.mNotV, DL.mIf, DL.mChain, DL.mOp, DL.mUn, DL.mCall, DL.mC, DL.mVar, DL.pE, DL.pO, DL.fE, DL.aNil, DL.aCons, DL.mFn, DL.mFnG, DL.mTru, DL.mIsi, DL.mIsiT, DL.mNext, DL.mRet, DL.mRetO, DL.mRetF, DL.mRetN, DL.mDrop, DL.mAsg, DL.mOwn, DL.mAug, DL.mSetL, DL.mMt, DL.mTup, DL.mLstF, DL.mDTF, DL.mDKF, DL.mYes, DL.gNm, DL.gTp, DL.gsNil, DL.gsCons, DL.mFrz, DL.frz, DL.mListF, DL.mListRg2, DL.mListRg1, DL.mFnB, List.map_cons, List.map_nil, DL.flatD, DL.mLcF, DL.okW, DL.wipeR, DL.restR, DL.rngD_len, Int.toNat_natCast, Bool.and_self, Bool.and_true, Bool.true_and, DL.mFor, DL.mRng1, DL.mRng2, DL.mIter, DL.mEnumA, Option.bind_some, Option.bind_none, Option.map_some, Option.map_none, List.getElem?_cons_succ, List.getElem?_cons_zero, List.getElem?_nil, List.set_cons_succ, List.set_cons_zero, DL.Sl.oc, DL.Sl.put, DL.ocAt, DL.putAt, DL.ocFits, DL.isIo, DL.rsv, DL.rsvs, DL.vals, DL.toSl, DL.toSls, DL.back, DL.owns, DL.ocD, DL.fin, DL.runF, DL.runG, DL.runP, DL.runQ, List.length_cons, List.length_nil, List.length_set, List.replicate, List.cons_append, List.nil_append, List.nodup_nil, List.nodup_cons, List.not_mem_nil, not_false_eq_true, and_self, and_true, true_and, if_true, if_false, reduceCtorEq, Bool.false_eq_true, ite_true, ite_false, List.mem_cons, or_false, false_or, DL.addD, DL.subD, DL.iD, DL.cmpD, DL.ltD, DL.leD, DL.gtD, DL.geD, DL.ixD, DL.int1D, DL.int2D, DL.intD, DL.absD, DL.min2D, DL.max2D, DL.lenD, DL.itemsD, DL.tupleD, DL.negD, DL.truD, DL.isD, DL.isNotD, DL.isNone, Bool.not_true, Bool.not_false, Nat.reduceAdd, Nat.reduceSub, Nat.reduceLT, Nat.reduceLeDiff, ↓reduceIte, DL.OC.lst.injEq, DL.mUn, DL.mBindX, DL.kDrop, DL.kRet, DL.kAsg, DL.runX, DL.okX, DL.mSetF, DL.putFD, DL.mSIn, DL.mSGet, DL.mIterS, t, rsv, mRaise, ocD, vals, List.zip_cons_cons, List.zip_nil_left, List.zip_nil_right, List.reverse_cons, List.reverse_nil, List.nil_append, List.append_nil]
theorem budgets_bad3 {a b c : D} (ha : isDict a = false) (hb : isDict b = false) (hc : isDict c = false) (h : (inR 0 3 a && inR 0 3 b && inR 0 3 c) = false) : F_check_budgets [.sh (.tuple [a, b, c])] = some (.exc "BadBudgets" [("value", .tuple [a, b, c])], [.sh (.tuple [a, b, c])]) := by
  have t : F_is_tuple_of [.sh (.tuple [a, b, c]), .sh (.int 3)] = some (.bool true, [.sh (.tuple [a, b, c]), .sh (.int 3)]) := tupof_any rfl 3
  unfold F_check_budgets b_check_budgets
  generalize hE : (mFn F_is_within _ : ME) = el
  have hcc := compD_mapA (vs := [1]) (g := gNm 1) (elt := el) (ρ := [.sh (.tuple [a, b, c]), .no]) (fun d : D => d) (fun d : D => PyData.bool (inR 0 3 d)) [a, b, c] fun x hx => by
    refine ⟨[.sh (.tuple [a, b, c]), .sh x], rfl, ?_, rfl, rfl⟩
    have hd : isDict x = false := by
      simp only [List.mem_cons, List.not_mem_nil, or_false] at hx
      rcases hx with rfl | rfl | rfl <;> assumption
    have w := within_any hd 0 3
    subst hE
    simp only [DL.mSeq, DL.mIfS, DL.mTest, DL.mAnd, DL.mOr, DL.mNot, DL.mAndV, DL.mOrV, DL.mNotV, DL.mIf, DL.mChain, DL.mOp, DL.mUn, DL.mCall, DL.mC, DL.mVar, DL.pE, DL.pO, DL.fE, DL.aNil, DL.aCons, DL.mFn, DL.mFnG, DL.mTru, DL.mIsi, DL.mIsiT, DL.mNext, DL.mRet, DL.mRetO, DL.mRetF, DL.mRetN, DL.mDrop, DL.mAsg, DL.mOwn, DL.mAug, DL.mSetL, DL.mMt, DL.mTup, DL.mLstF, DL.mDTF, DL.mDKF, DL.mYes, DL.gNm, DL.gTp, DL.gsNil, DL.gsCons, DL.mFrz, DL.frz, DL.mListF, DL.mListRg2, DL.mListRg1, DL.mFnB, List.map_cons, List.map_nil, DL.flatD, DL.mLcF, DL.okW, DL.wipeR, DL.restR, DL.rngD_len, Int.toNat_natCast, Bool.and_self, Bool.and_true, Bool.true_and, DL.mFor, DL.mRng1, DL.mRng2, DL.mIter, DL.mEnumA, Option.bind_some, Option.bind_none, Option.map_some, Option.map_none, List.getElem?_cons_succ, List.getElem?_cons_zero, List.getElem?_nil, List.set_cons_succ, List.set_cons_zero, DL.Sl.oc, DL.Sl.put, DL.ocAt, DL.putAt, DL.ocFits, DL.isIo, DL.rsv, DL.rsvs, DL.vals, DL.toSl, DL.toSls, DL.back, DL.owns, DL.ocD, DL.fin, DL.runF, DL.runG, DL.runP, DL.runQ, List.length_cons, List.length_nil, List.length_set, List.replicate, List.cons_append, List.nil_append, List.nodup_nil, List.nodup_cons, List.not_mem_nil, not_false_eq_true, and_self, and_true, true_and, if_true, if_false, reduceCtorEq, Bool.false_eq_true, ite_true, ite_false, List.mem_cons, or_false, false_or, DL.addD, DL.subD, DL.iD, DL.cmpD, DL.ltD, DL.leD, DL.gtD, DL.geD, DL.ixD, DL.int1D, DL.int2D, DL.intD, DL.absD, DL.min2D, DL.max2D, DL.lenD, DL.itemsD, DL.tupleD, DL.negD, DL.truD, DL.isD, DL.isNotD, DL.isNone, Bool.not_true, Bool.not_false, Nat.reduceAdd, Nat.reduceSub, Nat.reduceLT, Nat.reduceLeDiff, ↓reduceIte, DL.OC.lst.injEq, DL.mUn, DL.mBindX, DL.kDrop, DL.kRet, DL.kAsg, DL.runX, DL.okX, DL.mSetF, DL.putFD, DL.mSIn, DL.mSGet, DL.mIterS, w]
  have hcc : compD [1] (gNm 1) mYes el [a, b, c] [.sh (.tuple [a, b, c]), .no] = some ([.bool (inR 0 3 a), .bool (inR 0 3 b), .bool (inR 0 3 c)], [.sh (.tuple [a, b, c]), .no]) := hcc
  have hall : allD [.list [.bool (inR 0 3 a), .bool (inR 0 3 b), .bool (inR 0 3 c)]] = some (.bool false) := by
    revert h
    cases inR 0 3 a <;> cases inR 0 3 b <;> cases inR 0 3 c <;> intro h <;> first | rfl | cases h
  generalize inR 0 3 a = A at *
  generalize inR 0 3 b = B at *
  generalize inR 0 3 c = C at *
  generalize (allD : List D → Option D) = al at *
  simp only [DL.mSeq, DL.mIfS, DL.mTest, DL.mAnd, DL.mOr, DL.mNot, DL.mAndV, DL.mOrV, DL.mNotV, DL.mIf, DL.mChain, DL.mOp, DL.mUn, DL.mCall, DL.mC, DL.mVar, DL.pE, DL.pO, DL.fE, DL.aNil, DL.aCons, DL.mFn, DL.mFnG, DL.mTru, DL.mIsi, DL.mIsiT, DL.mNext, DL.mRet, DL.mRetO, DL.mRetF, DL.mRetN, DL.mDrop, DL.mAsg, DL.mOwn, DL.mAug, DL.mSetL, DL.mMt, DL.mTup, DL.mLstF, DL.mDTF, DL.mDKF, DL.mYes, DL.gNm, DL.gTp, DL.gsNil, DL.gsCons, DL.mFrz, DL.frz, DL.mListF, DL.mListRg2, DL.mListRg1, DL.mFnB, List.map_cons, List.map_nil, DL.flatD, DL.mLcF, DL.okW, DL.wipeR, DL.restR, DL.rngD_len, Int.toNat_natCast, Bool.and_self, Bool.and_true, Bool.true_and, DL.mFor, DL.mRng1, DL.mRng2, DL.mIter, DL.mEnumA, Option.bind_some, Option.bind_none, Option.map_some, Option.map_none, List.getElem?_cons_succ, List.getElem?_cons_zero, List.getElem?_nil, List.set_cons_succ, List.set_cons_zero, DL.Sl.oc, DL.Sl.put, DL.ocAt, DL.putAt, DL.ocFits, DL.isIo, DL.rsv, DL.rsvs, DL.vals, DL.toSl, DL.toSls, DL.back, DL.owns, DL.ocD, DL.fin, DL.runF, DL.runG, DL.runP, DL.runQ, List.length_cons, List.length_nil, List.length_set, List.replicate, List.cons_append, List.nil_append, List.nodup_nil, List.nodup_cons, List.not_mem_nil, not_false_eq_true, and_self, and_true, true_and, if_true, if_false, reduceCtorEq, Bool.false_eq_true, ite_true, ite_false, List.mem_cons, or_false, false_or, DL.addD, DL.subD, DL.iD, DL.cmpD, DL.ltD, DL.leD, DL.gtD, DL.geD, DL.ixD, DL.int1D, DL.int2D, DL.intD, DL.absD, DL.min2D, DL.max2D, DL.lenD, DL.itemsD, DL.tupleD, DL.negD, DL.truD, DL.isD, DL.isNotD, DL.isNone, Bool.not_true, Bool.not_false, Nat.reduceAdd, Nat.reduceSub, Nat.reduceLT, Nat.reduceLeDiff, ↓reduceIte, DL.OC.lst.injEq, DL.mUn, DL.mBindX, DL.kDrop, DL.kRet, DL.kAsg, DL.runX, DL.okX, DL.mSetF, DL.putFD, DL.mSIn, DL.mSGet, DL.mIterS, t, hcc, hall, rsv, mRaise, ocD, vals, List.zip_cons_cons, List.zip_nil_left, List.zip_nil_right, List.reverse_cons, List.reverse_nil, List.nil_append, List.append_nil]
/-! rows of another kind or length -/
theorem row_lst (ds : List D) : F_is_row [.sh (.list ds)] = some (.bool true, [.sh (.list ds)]) := by
  have t2 : ∀ xs, isiAny ["list", "tuple"] (.list xs) = some true := fun _ => rfl
  unfold F_is_row b_is_row
  simp only [DL.mSeq, DL.mIfS, DL.mTest, DL.mAnd, DL.mOr, DL.mNot, DL.mAndV, DL.mOrV, DL.mNotV, DL.mIf, DL.mChain, DL.mOp, DL.mUn, DL.mCall, DL.mC, DL.mVar, DL.pE, DL.pO, DL.fE, DL.aNil, DL.aCons, DL.mFn, DL.mFnG, DL.mTru, DL.mIsi, DL.mIsiT, DL.mNext, DL.mRet, DL.mRetO, DL.mRetF, DL.mRetN, DL.mDrop, DL.mAsg, DL.mOwn, DL.mAug, DL.mSetL, DL.mMt, DL.mTup, DL.mLstF, DL.mDTF, DL.mDKF, DL.mYes, DL.gNm, DL.gTp, DL.gsNil, DL.gsCons, DL.mFrz, DL.frz, DL.mListF, DL.mListRg2, DL.mListRg1, DL.mFnB, List.map_cons, List.map_nil, DL.flatD, DL.mLcF, DL.okW, DL.wipeR, DL.restR, DL.rngD_len, Int.toNat_natCast, Bool.and_self, Bool.and_true, Bool.true_and, DL.mFor, DL.mRng1, DL.mRng2, DL.mIter, DL.mEnumA, Option.bind_some, Option.bind_none, Option.map_some, Option.map_none, List.getElem?_cons_succ, List.getElem?_cons_zero, List.getElem?_nil, List.set_cons_succ, List.set_cons_zero, DL.Sl.oc, DL.Sl.put, DL.ocAt, DL.putAt, DL.ocFits, DL.isIo, DL.rsv, DL.rsvs, DL.vals, DL.toSl, DL.toSls, DL.back, DL.owns, DL.ocD, DL.fin, DL.runF, DL.runG, DL.runP, DL.runQ, List.length_cons, List.length_nil, List.length_set, List.replicate, List.cons_append, List.nil_append, List.nodup_nil, List.nodup_cons, List.not_mem_nil, not_false_eq_true, and_self, and_true, true_and, if_true, if_false, reduceCtorEq, Bool.false_eq_true, ite_true, ite_false, List.mem_cons, or_false, false_or, DL.addD, DL.subD, DL.iD, DL.cmpD, DL.ltD, DL.leD, DL.gtD, DL.geD, DL.ixD, DL.int1D, DL.int2D, DL.intD, DL.absD, DL.min2D, DL.max2D, DL.lenD, DL.itemsD, DL.tupleD, DL.negD, DL.truD, DL.isD, DL.isNotD, DL.isNone, Bool.not_true, Bool.not_false, Nat.reduceAdd, Nat.reduceSub, Nat.reduceLT, Nat.reduceLeDiff, ↓reduceIte, DL.OC.lst.injEq, DL.mUn, DL.mBindX, DL.kDrop, DL.kRet, DL.kAsg, DL.runX, DL.okX, DL.mSetF, DL.putFD, DL.mSIn, DL.mSGet, DL.mIterS, t2, tyOfD, Option.isSome_some]
/-- what is no row -/
theorem row_no {d : D} (h : isiAny ["list", "tuple"] d = some false) (ht : (tyOfD d).isSome = true) : F_is_row [.sh d] = some (.bool false, [.sh d]) := by
  unfold F_is_row b_is_row
  simp only [DL.mSeq, DL.mIfS, DL.mTest, DL.mAnd, DL.mOr, DL.mNot, DL.mAndV, DL.mOrV, DL.mNotV, DL.mIf, DL.mChain, DL.mOp, DL.mUn, DL.mCall, DL.mC, DL.mVar, DL.pE, DL.pO, DL.fE, DL.aNil, DL.aCons, DL.mFn, DL.mFnG, DL.mTru, DL.mIsi, DL.mIsiT, DL.mNext, DL.mRet, DL.mRetO, DL.mRetF, DL.mRetN, DL.mDrop, DL.mAsg, DL.mOwn, DL.mAug, DL.mSetL, DL.mMt, DL.mTup, DL.mLstF, DL.mDTF, DL.mDKF, DL.mYes, DL.gNm, DL.gTp, DL.gsNil, DL.gsCons, DL.mFrz, DL.frz, DL.mListF, DL.mListRg2, DL.mListRg1, DL.mFnB, List.map_cons, List.map_nil, DL.flatD, DL.mLcF, DL.okW, DL.wipeR, DL.restR, DL.rngD_len, Int.toNat_natCast, Bool.and_self, Bool.and_true, Bool.true_and, DL.mFor, DL.mRng1, DL.mRng2, DL.mIter, DL.mEnumA, Option.bind_some, Option.bind_none, Option.map_some, Option.map_none, List.getElem?_cons_succ, List.getElem?_cons_zero, List.getElem?_nil, List.set_cons_succ, List.set_cons_zero, DL.Sl.oc, DL.Sl.put, DL.ocAt, DL.putAt, DL.ocFits, DL.isIo, DL.rsv, DL.rsvs, DL.vals, DL.toSl, DL.toSls, DL.back, DL.owns, DL.ocD, DL.fin, DL.runF, DL.runG, DL.runP, DL.runQ, List.length_cons, List.length_nil, List.length_set, List.replicate, List.cons_append, List.nil_append, List.nodup_nil, List.nodup_cons, List.not_mem_nil, not_false_eq_true, and_self, and_true, true_and, if_true, if_false, reduceCtorEq, Bool.false_eq_true, ite_true, ite_false, List.mem_cons, or_false, false_or, DL.addD, DL.subD, DL.iD, DL.cmpD, DL.ltD, DL.leD, DL.gtD, DL.geD, DL.ixD, DL.int1D, DL.int2D, DL.intD, DL.absD, DL.min2D, DL.max2D, DL.lenD, DL.itemsD, DL.tupleD, DL.negD, DL.truD, DL.isD, DL.isNotD, DL.isNone, Bool.not_true, Bool.not_false, Nat.reduceAdd, Nat.reduceSub, Nat.reduceLT, Nat.reduceLeDiff, ↓reduceIte, DL.OC.lst.injEq, DL.mUn, DL.mBindX, DL.kDrop, DL.kRet, DL.kAsg, DL.runX, DL.okX, DL.mSetF, DL.putFD, DL.mSIn, DL.mSGet, DL.mIterS, h, ht]
/-- what has a length, and is a row -/
structure Rl (d : D) (n : Nat) : Prop where
  row : F_is_row [.sh d] = some (.bool true, [.sh d])
  len : lenD [d] = some (.int (n : Nat))
theorem rl_lst (ds : List D) : Rl (.list ds) ds.length := ⟨row_lst ds, rfl⟩
theorem rl_tup (ds : List D) : Rl (.tuple ds) ds.length := ⟨row_tup ds, rfl⟩
theorem kinds_no {d : D} (h : isiAny ["list", "tuple"] d = some false) (ht : (tyOfD d).isSome = true) : F_check_kinds [.sh d] = some (.exc "BadKinds" [("value", .int (-1))], [.sh d]) := by
  have r := row_no h ht
  have ng : negD (.int 1) = some (.int (-1)) := rfl
  unfold F_check_kinds b_check_kinds
  simp only [DL.mSeq, DL.mIfS, DL.mTest, DL.mAnd, DL.mOr, DL.mNot, DL.mAndV, DL.mOrV, DL.mNotV, DL.mIf, DL.mChain, DL.mOp, DL.mUn, DL.mCall, DL.mC, DL.mVar, DL.pE, DL.pO, DL.fE, DL.aNil, DL.aCons, DL.mFn, DL.mFnG, DL.mTru, DL.mIsi, DL.mIsiT, DL.mNext, DL.mRet, DL.mRetO, DL.mRetF, DL.mRetN, DL.mDrop, DL.mAsg, DL.mOwn, DL.mAug, DL.mSetL, DL.mMt, DL.mTup, DL.mLstF, DL.mDTF, DL.mDKF, DL.mYes, DL.gNm, DL.gTp, DL.gsNil, DL.gsCons, DL.mFrz, DL.frz, DL.mListF, DL.mListRg2, DL.mListRg1, DL.mFnB, List.map_cons, List.map_nil, DL.flatD, DL.mLcF, DL.okW, DL.wipeR, DL.restR, DL.rngD_len, Int.toNat_natCast, Bool.and_self, Bool.and_true, Bool.true_and, DL.mFor, DL.mRng1, DL.mRng2, DL.mIter, DL.mEnumA, Option.bind_some, Option.bind_none, Option.map_some, Option.map_none, List.getElem?_cons_succ, List.getElem?_cons_zero, List.getElem?_nil, List.set_cons_succ, List.set_cons_zero, DL.Sl.oc, DL.Sl.put, DL.ocAt, DL.putAt, DL.ocFits, DL.isIo, DL.rsv, DL.rsvs, DL.vals, DL.toSl, DL.toSls, DL.back, DL.owns, DL.ocD, DL.fin, DL.runF, DL.runG, DL.runP, DL.runQ, List.length_cons, List.length_nil, List.length_set, List.replicate, List.cons_append, List.nil_append, List.nodup_nil, List.nodup_cons, List.not_mem_nil, not_false_eq_true, and_self, and_true, true_and, if_true, if_false, reduceCtorEq, Bool.false_eq_true, ite_true, ite_false, List.mem_cons, or_false, false_or, DL.addD, DL.subD, DL.iD, DL.cmpD, DL.ltD, DL.leD, DL.gtD, DL.geD, DL.ixD, DL.int1D, DL.int2D, DL.intD, DL.absD, DL.min2D, DL.max2D, DL.lenD, DL.itemsD, DL.tupleD, DL.negD, DL.truD, DL.isD, DL.isNotD, DL.isNone, Bool.not_true, Bool.not_false, Nat.reduceAdd, Nat.reduceSub, Nat.reduceLT, Nat.reduceLeDiff, ↓reduceIte, DL.OC.lst.injEq, DL.mUn, DL.mBindX, DL.kDrop, DL.kRet, DL.kAsg, DL.runX, DL.okX, DL.mSetF, DL.putFD, DL.mSIn, DL.mSGet, DL.mIterS, r, ng, rsv, mRaise, ocD, vals, List.zip_cons_cons, List.zip_nil_left, List.zip_nil_right, List.reverse_cons, List.reverse_nil, List.nil_append, List.append_nil]
theorem orders_no {d kn : D} (h : isiAny ["list", "tuple"] d = some false) (ht : (tyOfD d).isSome = true) : F_check_orders [.sh d, .sh kn] = some (.exc "BadOrders" [("value", .int (-1))], [.sh d, .sh kn]) := by
  have r := row_no h ht
  have ng : negD (.int 1) = some (.int (-1)) := rfl
  unfold F_check_orders b_check_orders
  simp only [DL.mSeq, DL.mIfS, DL.mTest, DL.mAnd, DL.mOr, DL.mNot, DL.mAndV, DL.mOrV, DL.mNotV, DL.mIf, DL.mChain, DL.mOp, DL.mUn, DL.mCall, DL.mC, DL.mVar, DL.pE, DL.pO, DL.fE, DL.aNil, DL.aCons, DL.mFn, DL.mFnG, DL.mTru, DL.mIsi, DL.mIsiT, DL.mNext, DL.mRet, DL.mRetO, DL.mRetF, DL.mRetN, DL.mDrop, DL.mAsg, DL.mOwn, DL.mAug, DL.mSetL, DL.mMt, DL.mTup, DL.mLstF, DL.mDTF, DL.mDKF, DL.mYes, DL.gNm, DL.gTp, DL.gsNil, DL.gsCons, DL.mFrz, DL.frz, DL.mListF, DL.mListRg2, DL.mListRg1, DL.mFnB, List.map_cons, List.map_nil, DL.flatD, DL.mLcF, DL.okW, DL.wipeR, DL.restR, DL.rngD_len, Int.toNat_natCast, Bool.and_self, Bool.and_true, Bool.true_and, DL.mFor, DL.mRng1, DL.mRng2, DL.mIter, DL.mEnumA, Option.bind_some, Option.bind_none, Option.map_some, Option.map_none, List.getElem?_cons_succ, List.getElem?_cons_zero, List.getElem?_nil, List.set_cons_succ, List.set_cons_zero, DL.Sl.oc, DL.Sl.put, DL.ocAt, DL.putAt, DL.ocFits, DL.isIo, DL.rsv, DL.rsvs, DL.vals, DL.toSl, DL.toSls, DL.back, DL.owns, DL.ocD, DL.fin, DL.runF, DL.runG, DL.runP, DL.runQ, List.length_cons, List.length_nil, List.length_set, List.replicate, List.cons_append, List.nil_append, List.nodup_nil, List.nodup_cons, List.not_mem_nil, not_false_eq_true, and_self, and_true, true_and, if_true, if_false, reduceCtorEq, Bool.false_eq_true, ite_true, ite_false, List.mem_cons, or_false, false_or, DL.addD, DL.subD, DL.iD, DL.cmpD, DL.ltD, DL.leD, DL.gtD, DL.geD, DL.ixD, DL.int1D, DL.int2D, DL.intD, DL.absD, DL.min2D, DL.max2D, DL.lenD, DL.itemsD, DL.tupleD, DL.negD, DL.truD, DL.isD, DL.isNotD, DL.isNone, Bool.not_true, Bool.not_false, Nat.reduceAdd, Nat.reduceSub, Nat.reduceLT, Nat.reduceLeDiff, ↓reduceIte, DL.OC.lst.injEq, DL.mUn, DL.mBindX, DL.kDrop, DL.kRet, DL.kAsg, DL.runX, DL.okX, DL.mSetF, DL.putFD, DL.mSIn, DL.mSGet, DL.mIterS, r, ng, rsv, mRaise, ocD, vals, List.zip_cons_cons, List.zip_nil_left, List.zip_nil_right, List.reverse_cons, List.reverse_nil, List.nil_append, List.append_nil]
theorem kinds_len {d : D} {n : Nat} (r : Rl d n) (h : n = 0 ∨ 4 < n) : F_check_kinds [.sh d] = some (.exc "BadKinds" [("value", .int (-1))], [.sh d]) := by
  have r1 := r.row
  have r2 := r.len
  have ng : negD (.int 1) = some (.int (-1)) := rfl
  unfold F_check_kinds b_check_kinds
  generalize (lenD : List D → Option D) = ln at *
  rcases h with h | h
  · have d1 : decide ((1 : Int) ≤ (n : Nat)) = false := decide_eq_false (by omega)
    simp only [DL.mSeq, DL.mIfS, DL.mTest, DL.mAnd, DL.mOr, DL.mNot, DL.mAndV, DL.mOrV, DL.mNotV, DL.mIf, DL.mChain, DL.mOp, DL.mUn, DL.mCall, DL.mC, DL.mVar, DL.pE, DL.pO, DL.fE, DL.aNil, DL.aCons, DL.mFn, DL.mFnG, DL.mTru, DL.mIsi, DL.mIsiT, DL.mNext, DL.mRet, DL.mRetO, DL.mRetF, DL.mRetN, DL.mDrop, DL.mAsg, DL.mOwn, DL.mAug, DL.mSetL, DL.mMt, DL.mTup, DL.mLstF, DL.mDTF, DL.mDKF, DL.mYes, DL.gNm, DL.gTp, DL.gsNil, DL.gsCons, DL.mFrz, DL.frz, DL.mListF, DL.mListRg2, DL.mListRg1, DL.mFnB, List.map_cons, List.map_nil, DL.flatD, DL.mLcF, DL.okW, DL.wipeR, DL.restR, DL.rngD_len, Int.toNat_natCast, Bool.and_self, Bool.and_true, Bool.true_and, DL.mFor, DL.mRng1, DL.mRng2, DL.mIter, DL.mEnumA, Option.bind_some, Option.bind_none, Option.map_some, Option.map_none, List.getElem?_cons_succ, List.getElem?_cons_zero, List.getElem?_nil, List.set_cons_succ, List.set_cons_zero, DL.Sl.oc, DL.Sl.put, DL.ocAt, DL.putAt, DL.ocFits, DL.isIo, DL.rsv, DL.rsvs, DL.vals, DL.toSl, DL.toSls, DL.back, DL.owns, DL.ocD, DL.fin, DL.runF, DL.runG, DL.runP, DL.runQ, List.length_cons, List.length_nil, List.length_set, List.replicate, List.cons_append, List.nil_append, List.nodup_nil, List.nodup_cons, List.not_mem_nil, not_false_eq_true, and_self, and_true, true_and, if_true, if_false, reduceCtorEq, Bool.false_eq_true, ite_true, ite_false, List.mem_cons, or_false, false_or, DL.addD, DL.subD, DL.iD, DL.cmpD, DL.ltD, DL.leD, DL.gtD, DL.geD, DL.ixD, DL.int1D, DL.int2D, DL.intD, DL.absD, DL.min2D, DL.max2D, DL.lenD, DL.itemsD, DL.tupleD, DL.negD, DL.truD, DL.isD, DL.isNotD, DL.isNone, Bool.not_true, Bool.not_false, Nat.reduceAdd, Nat.reduceSub, Nat.reduceLT, Nat.reduceLeDiff, ↓reduceIte, DL.OC.lst.injEq, DL.mUn, DL.mBindX, DL.kDrop, DL.kRet, DL.kAsg, DL.runX, DL.okX, DL.mSetF, DL.putFD, DL.mSIn, DL.mSGet, DL.mIterS, r1, r2, d1, ng, rsv, mRaise, ocD, vals, List.zip_cons_cons, List.zip_nil_left, List.zip_nil_right, List.reverse_cons, List.reverse_nil, List.nil_append, List.append_nil]
  · have d1 : decide ((1 : Int) ≤ (n : Nat)) = true := decide_eq_true (by omega)
    have d2 : decide (((n : Nat) : Int) ≤ 4) = false := decide_eq_false (by omega)
    simp only [DL.mSeq, DL.mIfS, DL.mTest, DL.mAnd, DL.mOr, DL.mNot, DL.mAndV, DL.mOrV, DL.mNotV, DL.mIf, DL.mChain, DL.mOp, DL.mUn, DL.mCall, DL.mC, DL.mVar, DL.pE, DL.pO, DL.fE, DL.aNil, DL.aCons, DL.mFn, DL.mFnG, DL.mTru, DL.mIsi, DL.mIsiT, DL.mNext, DL.mRet, DL.mRetO, DL.mRetF, DL.mRetN, DL.mDrop, DL.mAsg, DL.mOwn, DL.mAug, DL.mSetL, DL.mMt, DL.mTup, DL.mLstF, DL.mDTF, DL.mDKF, DL.mYes, DL.gNm, DL.gTp, DL.gsNil, DL.gsCons, DL.mFrz, DL.frz, DL.mListF, DL.mListRg2, DL.mListRg1, DL.mFnB, List.map_cons, List.map_nil, DL.flatD, DL.mLcF, DL.okW, DL.wipeR, DL.restR, DL.rngD_len, Int.toNat_natCast, Bool.and_self, Bool.and_true, Bool.true_and, DL.mFor, DL.mRng1, DL.mRng2, DL.mIter, DL.mEnumA, Option.bind_some, Option.bind_none, Option.map_some, Option.map_none, List.getElem?_cons_succ, List.getElem?_cons_zero, List.getElem?_nil, List.set_cons_succ, List.set_cons_zero, DL.Sl.oc, DL.Sl.put, DL.ocAt, DL.putAt, DL.ocFits, DL.isIo, DL.rsv, DL.rsvs, DL.vals, DL.toSl, DL.toSls, DL.back, DL.owns, DL.ocD, DL.fin, DL.runF, DL.runG, DL.runP, DL.runQ, List.length_cons, List.length_nil, List.length_set, List.replicate, List.cons_append, List.nil_append, List.nodup_nil, List.nodup_cons, List.not_mem_nil, not_false_eq_true, and_self, and_true, true_and, if_true, if_false, reduceCtorEq, Bool.false_eq_true, ite_true, ite_false, List.mem_cons, or_false, false_or, DL.addD, DL.subD, DL.iD, DL.cmpD, DL.ltD, DL.leD, DL.gtD, DL.geD, DL.ixD, DL.int1D, DL.int2D, DL.intD, DL.absD, DL.min2D, DL.max2D, DL.lenD, DL.itemsD, DL.tupleD, DL.negD, DL.truD, DL.isD, DL.isNotD, DL.isNone, Bool.not_true, Bool.not_false, Nat.reduceAdd, Nat.reduceSub, Nat.reduceLT, Nat.reduceLeDiff, ↓reduceIte, DL.OC.lst.injEq, DL.mUn, DL.mBindX, DL.kDrop, DL.kRet, DL.kAsg, DL.runX, DL.okX, DL.mSetF, DL.putFD, DL.mSIn, DL.mSGet, DL.mIterS, r1, r2, d1, d2, ng, rsv, mRaise, ocD, vals, List.zip_cons_cons, List.zip_nil_left, List.zip_nil_right, List.reverse_cons, List.reverse_nil, List.nil_append, List.append_nil]
theorem orders_len {d kn : D} {n : Nat} (r : Rl d n) (h : n = 0 ∨ 5 < n) : F_check_orders [.sh d, .sh kn] = some (.exc "BadOrders" [("value", .int (-1))], [.sh d, .sh kn]) := by
  have r1 := r.row
  have r2 := r.len
  have ng : negD (.int 1) = some (.int (-1)) := rfl
  unfold F_check_orders b_check_orders
  generalize (lenD : List D → Option D) = ln at *
  rcases h with h | h
  · have d1 : decide ((1 : Int) ≤ (n : Nat)) = false := decide_eq_false (by omega)
    simp only [DL.mSeq, DL.mIfS, DL.mTest, DL.mAnd, DL.mOr, DL.mNot, DL.mAndV, DL.mOrV, DL.mNotV, DL.mIf, DL.mChain, DL.mOp, DL.mUn, DL.mCall, DL.mC, DL.mVar, DL.pE, DL.pO, DL.fE, DL.aNil, DL.aCons, DL.mFn, DL.mFnG, DL.mTru, DL.mIsi, DL.mIsiT, DL.mNext, DL.mRet, DL.mRetO, DL.mRetF, DL.mRetN, DL.mDrop, DL.mAsg, DL.mOwn, DL.mAug, DL.mSetL, DL.mMt, DL.mTup, DL.mLstF, DL.mDTF, DL.mDKF, DL.mYes, DL.gNm, DL.gTp, DL.gsNil, DL.gsCons, DL.mFrz, DL.frz, DL.mListF, DL.mListRg2, DL.mListRg1, DL.mFnB, List.map_cons, List.map_nil, DL.flatD, DL.mLcF, DL.okW, DL.wipeR, DL.restR, DL.rngD_len, Int.toNat_natCast, Bool.and_self, Bool.and_true, Bool.true_and, DL.mFor, DL.mRng1, DL.mRng2, DL.mIter, DL.mEnumA, Option.bind_some, Option.bind_none, Option.map_some, Option.map_none, List.getElem?_cons_succ, List.getElem?_cons_zero, List.getElem?_nil, List.set_cons_succ, List.set_cons_zero, DL.Sl.oc, DL.Sl.put, DL.ocAt, DL.putAt, DL.ocFits, DL.isIo, DL.rsv, DL.rsvs, DL.vals, DL.toSl, DL.toSls, DL.back, DL.owns, DL.ocD, DL.fin, DL.runF, DL.runG, DL.runP, DL.runQ, List.length_cons, List.length_nil, List.length_set, List.replicate, List.cons_append, List.nil_append, List.nodup_nil, List.nodup_cons, List.not_mem_nil, not_false_eq_true, and_self, and_true, true_and, if_true, if_false, reduceCtorEq, Bool.false_eq_true, ite_true, ite_false, List.mem_cons, or_false, false_or, DL.addD, DL.subD, DL.iD, DL.cmpD, DL.ltD, DL.leD, DL.gtD, DL.geD, DL.ixD, DL.int1D, DL.int2D, DL.intD, DL.absD, DL.min2D, DL.max2D, DL.lenD, DL.itemsD, DL.tupleD, DL.negD, DL.truD, DL.isD, DL.isNotD, DL.isNone, Bool.not_true, Bool.not_false, Nat.reduceAdd, Nat.reduceSub, Nat.reduceLT, Nat.reduceLeDiff, ↓reduceIte, DL.OC.lst.injEq, DL.mUn, DL.mBindX, DL.kDrop, DL.kRet, DL.kAsg, DL.runX, DL.okX, DL.mSetF, DL.putFD, DL.mSIn, DL.mSGet, DL.mIterS, r1, r2, d1, ng, rsv, mRaise, ocD, vals, List.zip_cons_cons, List.zip_nil_left, List.zip_nil_right, List.reverse_cons, List.reverse_nil, List.nil_append, List.append_nil]
  · have d1 : decide ((1 : Int) ≤ (n : Nat)) = true := decide_eq_true (by omega)
    have d2 : decide (((n : Nat) : Int) ≤ 5) = false := decide_eq_false (by omega)
    simp only [DL.mSeq, DL.mIfS, DL.mTest, DL.mAnd, DL.mOr, DL.mNot, DL.mAndV, DL.mOrV, DL.mNotV, DL.mIf, DL.mChain, DL.mOp, DL.mUn, DL.mCall, DL.mC, DL.mVar, DL.pE, DL.pO, DL.fE, DL.aNil, DL.aCons, DL.mFn, DL.mFnG, DL.mTru, DL.mIsi, DL.mIsiT, DL.mNext, DL.mRet, DL.mRetO, DL.mRetF, DL.mRetN, DL.mDrop, DL.mAsg, DL.mOwn, DL.mAug, DL.mSetL, DL.mMt, DL.mTup, DL.mLstF, DL.mDTF, DL.mDKF, DL.mYes, DL.gNm, DL.gTp, DL.gsNil, DL.gsCons, DL.mFrz, DL.frz, DL.mListF, DL.mListRg2, DL.mListRg1, DL.mFnB, List.map_cons, List.map_nil, DL.flatD, DL.mLcF, DL.okW, DL.wipeR, DL.restR, DL.rngD_len, Int.toNat_natCast, Bool.and_self, Bool.and_true, Bool.true_and, DL.mFor, DL.mRng1, DL.mRng2, DL.mIter, DL.mEnumA, Option.bind_some, Option.bind_none, Option.map_some, Option.map_none, List.getElem?_cons_succ, List.getElem?_cons_zero, List.getElem?_nil, List.set_cons_succ, List.set_cons_zero, DL.Sl.oc, DL.Sl.put, DL.ocAt, DL.putAt, DL.ocFits, DL.isIo, DL.rsv, DL.rsvs, DL.vals, DL.toSl, DL.toSls, DL.back, DL.owns, DL.ocD, DL.fin, DL.runF, DL.runG, DL.runP, DL.runQ, List.length_cons, List.length_nil, List.length_set, List.replicate, List.cons_append, List.nil_append, List.nodup_nil, List.nodup_cons, List.not_mem_nil, not_false_eq_true, and_self, and_true, true_and, if_true, if_false, reduceCtorEq, Bool.false_eq_true, ite_true, ite_false, List.mem_cons, or_false, false_or, DL.addD, DL.subD, DL.iD, DL.cmpD, DL.ltD, DL.leD, DL.gtD, DL.geD, DL.ixD, DL.int1D, DL.int2D, DL.intD, DL.absD, DL.min2D, DL.max2D, DL.lenD, DL.itemsD, DL.tupleD, DL.negD, DL.truD, DL.isD, DL.isNotD, DL.isNone, Bool.not_true, Bool.not_false, Nat.reduceAdd, Nat.reduceSub, Nat.reduceLT, Nat.reduceLeDiff, ↓reduceIte, DL.OC.lst.injEq, DL.mUn, DL.mBindX, DL.kDrop, DL.kRet, DL.kAsg, DL.runX, DL.okX, DL.mSetF, DL.putFD, DL.mSIn, DL.mSGet, DL.mIterS, r1, r2, d1, d2, ng, rsv, mRaise, ocD, vals, List.zip_cons_cons, List.zip_nil_left, List.zip_nil_right, List.reverse_cons, List.reverse_nil, List.nil_append, List.append_nil]
/-! ### what is no kind, no order -/
theorem kind_no1 {d : D} (hd : isDict d = false) (h : isTn 6 d = false) : F_is_kind [.sh d] = some (.bool false, [.sh d]) := by
  have t : F_is_tuple_of [.sh d, .sh (.int 6)] = some (.bool false, [.sh d, .sh (.int 6)]) := by
    have := tupof_any hd 6
    rw [h] at this
    exact this
  unfold F_is_kind b_is_kind
  simp only [DL.mSeq, DL.mIfS, DL.mTest, DL.mAnd, DL.mOr, DL.mNot, DL.mAndV, DL.mOrV, DL.mNotV, DL.mIf, DL.mChain, DL.mOp, DL.mUn, DL.mCall, DL.mC, DL.mVar, DL.pE, DL.pO, DL.fE, DL.aNil, DL.aCons, DL.mFn, DL.mFnG, DL.mTru, DL.mIsi, DL.mIsiT, DL.mNext, DL.mRet, DL.mRetO, DL.mRetF, DL.mRetN, DL.mDrop, DL.mAsg, DL.mOwn, DL.mAug, DL.mSetL, DL.mMt, DL.mTup, DL.mLstF, DL.mDTF, DL.mDKF, DL.mYes, DL.gNm, DL.gTp, DL.gsNil, DL.gsCons, DL.mFrz, DL.frz, DL.mListF, DL.mListRg2, DL.mListRg1, DL.mFnB, List.map_cons, List.map_nil, DL.flatD, DL.mLcF, DL.okW, DL.wipeR, DL.restR, DL.rngD_len, Int.toNat_natCast, Bool.and_self, Bool.and_true, Bool.true_and, DL.mFor, DL.mRng1, DL.mRng2, DL.mIter, DL.mEnumA, Option.bind_some, Option.bind_none, Option.map_some, Option.map_none, List.getElem?_cons_succ, List.getElem?_cons_zero, List.getElem?_nil, List.set_cons_succ, List.set_cons_zero, DL.Sl.oc, DL.Sl.put, DL.ocAt, DL.putAt, DL.ocFits, DL.isIo, DL.rsv, DL.rsvs, DL.vals, DL.toSl, DL.toSls, DL.back, DL.owns, DL.ocD, DL.fin, DL.runF, DL.runG, DL.runP, DL.runQ, List.length_cons, List.length_nil, List.length_set, List.replicate, List.cons_append, List.nil_append, List.nodup_nil, List.nodup_cons, List.not_mem_nil, not_false_eq_true, and_self, and_true, true_and, if_true, if_false, reduceCtorEq, Bool.false_eq_true, ite_true, ite_false, List.mem_cons, or_false, false_or, DL.addD, DL.subD, DL.iD, DL.cmpD, DL.ltD, DL.leD, DL.gtD, DL.geD, DL.ixD, DL.int1D, DL.int2D, DL.intD, DL.absD, DL.min2D, DL.max2D, DL.lenD, DL.itemsD, DL.tupleD, DL.negD, DL.truD, DL.isD, DL.isNotD, DL.isNone, Bool.not_true, Bool.not_false, Nat.reduceAdd, Nat.reduceSub, Nat.reduceLT, Nat.reduceLeDiff, ↓reduceIte, DL.OC.lst.injEq, DL.mUn, DL.mBindX, DL.kDrop, DL.kRet, DL.kAsg, DL.runX, DL.okX, DL.mSetF, DL.putFD, DL.mSIn, DL.mSGet, DL.mIterS, t]
theorem name_gen (s : Str) (b : Bool) (h8 : s.length ≤ 8) (h1 : 1 ≤ s.length) (hs : (s.cps.toList.all fun c => strIn ⟨#[c]⟩ "abcdefghijklmnopqrstuvwxyz") = b) : F_is_name [.sh (.str s)] = some (.bool b, [.sh (.str s)]) := by
  have t1 : isiB "str" (.str s) = some true := rfl
  have hl : lenD [.str s] = some (.int (s.length : Nat)) := if_pos (by omega)
  have d1 : decide ((1 : Int) ≤ (s.length : Nat)) = true := decide_eq_true (by omega)
  have d2 : decide (((s.length : Nat) : Int) ≤ 8) = true := decide_eq_true (by omega)
  unfold F_is_name b_is_name
  generalize hE : (mOp inD _ _ : ME) = el
  have hcc := compD_mapA (vs := [1]) (g := gNm 1) (elt := el) (ρ := [.sh (.str s), .no]) (fun c : Nat => PyData.str ⟨#[c]⟩) (fun c => PyData.bool (strIn ⟨#[c]⟩ "abcdefghijklmnopqrstuvwxyz")) s.cps.toList fun c hm => by
    refine ⟨[.sh (.str s), .sh (.str ⟨#[c]⟩)], rfl, ?_, rfl, rfl⟩
    have h2 : inD (.str ⟨#[c]⟩) (.str "abcdefghijklmnopqrstuvwxyz") = some (.bool (strIn ⟨#[c]⟩ "abcdefghijklmnopqrstuvwxyz")) := rfl
    generalize (inD : D → D → Option D) = iin at *
    subst hE
    simp only [DL.mSeq, DL.mIfS, DL.mTest, DL.mAnd, DL.mOr, DL.mNot, DL.mAndV, DL.mOrV, DL.mNotV, DL.mIf, DL.mChain, DL.mOp, DL.mUn, DL.mCall, DL.mC, DL.mVar, DL.pE, DL.pO, DL.fE, DL.aNil, DL.aCons, DL.mFn, DL.mFnG, DL.mTru, DL.mIsi, DL.mIsiT, DL.mNext, DL.mRet, DL.mRetO, DL.mRetF, DL.mRetN, DL.mDrop, DL.mAsg, DL.mOwn, DL.mAug, DL.mSetL, DL.mMt, DL.mTup, DL.mLstF, DL.mDTF, DL.mDKF, DL.mYes, DL.gNm, DL.gTp, DL.gsNil, DL.gsCons, DL.mFrz, DL.frz, DL.mListF, DL.mListRg2, DL.mListRg1, DL.mFnB, List.map_cons, List.map_nil, DL.flatD, DL.mLcF, DL.okW, DL.wipeR, DL.restR, DL.rngD_len, Int.toNat_natCast, Bool.and_self, Bool.and_true, Bool.true_and, DL.mFor, DL.mRng1, DL.mRng2, DL.mIter, DL.mEnumA, Option.bind_some, Option.bind_none, Option.map_some, Option.map_none, List.getElem?_cons_succ, List.getElem?_cons_zero, List.getElem?_nil, List.set_cons_succ, List.set_cons_zero, DL.Sl.oc, DL.Sl.put, DL.ocAt, DL.putAt, DL.ocFits, DL.isIo, DL.rsv, DL.rsvs, DL.vals, DL.toSl, DL.toSls, DL.back, DL.owns, DL.ocD, DL.fin, DL.runF, DL.runG, DL.runP, DL.runQ, List.length_cons, List.length_nil, List.length_set, List.replicate, List.cons_append, List.nil_append, List.nodup_nil, List.nodup_cons, List.not_mem_nil, not_false_eq_true, and_self, and_true, true_and, if_true, if_false, reduceCtorEq, Bool.false_eq_true, ite_true, ite_false, List.mem_cons, or_false, false_or, DL.addD, DL.subD, DL.iD, DL.cmpD, DL.ltD, DL.leD, DL.gtD, DL.geD, DL.ixD, DL.int1D, DL.int2D, DL.intD, DL.absD, DL.min2D, DL.max2D, DL.lenD, DL.itemsD, DL.tupleD, DL.negD, DL.truD, DL.isD, DL.isNotD, DL.isNone, Bool.not_true, Bool.not_false, Nat.reduceAdd, Nat.reduceSub, Nat.reduceLT, Nat.reduceLeDiff, ↓reduceIte, DL.OC.lst.injEq, DL.mUn, DL.mBindX, DL.kDrop, DL.kRet, DL.kAsg, DL.runX, DL.okX, DL.mSetF, DL.putFD, DL.mSIn, DL.mSGet, DL.mIterS, h2]
  have hall := allD_map (fun c : Nat => strIn ⟨#[c]⟩ "abcdefghijklmnopqrstuvwxyz") s.cps.toList
  rw [hs] at hall
  have hsl : (signs s).length ≤ 50000 := by unfold signs; rw [List.length_map]; exact Nat.le_trans h8 (by omega)
  have hcc : compD [1] (gNm 1) mYes el (signs s) [.sh (.str s), .no] = _ := hcc
  generalize (s.cps.toList.map fun c => PyData.bool (strIn ⟨#[c]⟩ "abcdefghijklmnopqrstuvwxyz")) = BB at *
  generalize (lenD : List D → Option D) = ln at *
  generalize (allD : List D → Option D) = al at *
  simp only [DL.mSeq, DL.mIfS, DL.mTest, DL.mAnd, DL.mOr, DL.mNot, DL.mAndV, DL.mOrV, DL.mNotV, DL.mIf, DL.mChain, DL.mOp, DL.mUn, DL.mCall, DL.mC, DL.mVar, DL.pE, DL.pO, DL.fE, DL.aNil, DL.aCons, DL.mFn, DL.mFnG, DL.mTru, DL.mIsi, DL.mIsiT, DL.mNext, DL.mRet, DL.mRetO, DL.mRetF, DL.mRetN, DL.mDrop, DL.mAsg, DL.mOwn, DL.mAug, DL.mSetL, DL.mMt, DL.mTup, DL.mLstF, DL.mDTF, DL.mDKF, DL.mYes, DL.gNm, DL.gTp, DL.gsNil, DL.gsCons, DL.mFrz, DL.frz, DL.mListF, DL.mListRg2, DL.mListRg1, DL.mFnB, List.map_cons, List.map_nil, DL.flatD, DL.mLcF, DL.okW, DL.wipeR, DL.restR, DL.rngD_len, Int.toNat_natCast, Bool.and_self, Bool.and_true, Bool.true_and, DL.mFor, DL.mRng1, DL.mRng2, DL.mIter, DL.mEnumA, Option.bind_some, Option.bind_none, Option.map_some, Option.map_none, List.getElem?_cons_succ, List.getElem?_cons_zero, List.getElem?_nil, List.set_cons_succ, List.set_cons_zero, DL.Sl.oc, DL.Sl.put, DL.ocAt, DL.putAt, DL.ocFits, DL.isIo, DL.rsv, DL.rsvs, DL.vals, DL.toSl, DL.toSls, DL.back, DL.owns, DL.ocD, DL.fin, DL.runF, DL.runG, DL.runP, DL.runQ, List.length_cons, List.length_nil, List.length_set, List.replicate, List.cons_append, List.nil_append, List.nodup_nil, List.nodup_cons, List.not_mem_nil, not_false_eq_true, and_self, and_true, true_and, if_true, if_false, reduceCtorEq, Bool.false_eq_true, ite_true, ite_false, List.mem_cons, or_false, false_or, DL.addD, DL.subD, DL.iD, DL.cmpD, DL.ltD, DL.leD, DL.gtD, DL.geD, DL.ixD, DL.int1D, DL.int2D, DL.intD, DL.absD, DL.min2D, DL.max2D, DL.lenD, DL.itemsD, DL.tupleD, DL.negD, DL.truD, DL.isD, DL.isNotD, DL.isNone, Bool.not_true, Bool.not_false, Nat.reduceAdd, Nat.reduceSub, Nat.reduceLT, Nat.reduceLeDiff, ↓reduceIte, DL.OC.lst.injEq, DL.mUn, DL.mBindX, DL.kDrop, DL.kRet, DL.kAsg, DL.runX, DL.okX, DL.mSetF, DL.putFD, DL.mSIn, DL.mSGet, DL.mIterS, t1, hl, d1, d2, hsl, hcc, hall, ocD]
theorem name_no : F_is_name [.sh (.str "X")] = some (.bool false, [.sh (.str "X")]) := name_gen "X" false (by decide) (by decide) (by decide +kernel)
theorem kind_noX : F_is_kind [.sh (.tuple [.str "X", .int 1, .int 1, .int 1, .int 1, .int 1])] = some (.bool false, [.sh (.tuple [.str "X", .int 1, .int 1, .int 1, .int 1, .int 1])]) := by
  have t : F_is_tuple_of [.sh (.tuple [.str "X", .int 1, .int 1, .int 1, .int 1, .int 1]), .sh (.int 6)] = some (.bool true, [.sh (.tuple [.str "X", .int 1, .int 1, .int 1, .int 1, .int 1]), .sh (.int 6)]) := tupof_any rfl 6
  have n := name_no
  have i0 : ixD (.tuple [.str "X", .int 1, .int 1, .int 1, .int 1, .int 1]) (.int 0) = some (.str "X") := rfl
  unfold F_is_kind b_is_kind
  generalize PyData.tuple [.str "X", .int 1, .int 1, .int 1, .int 1, .int 1] = T at *
  generalize (ixD : D → D → Option D) = ix at *
  simp only [DL.mSeq, DL.mIfS, DL.mTest, DL.mAnd, DL.mOr, DL.mNot, DL.mAndV, DL.mOrV, DL.mNotV, DL.mIf, DL.mChain, DL.mOp, DL.mUn, DL.mCall, DL.mC, DL.mVar, DL.pE, DL.pO, DL.fE, DL.aNil, DL.aCons, DL.mFn, DL.mFnG, DL.mTru, DL.mIsi, DL.mIsiT, DL.mNext, DL.mRet, DL.mRetO, DL.mRetF, DL.mRetN, DL.mDrop, DL.mAsg, DL.mOwn, DL.mAug, DL.mSetL, DL.mMt, DL.mTup, DL.mLstF, DL.mDTF, DL.mDKF, DL.mYes, DL.gNm, DL.gTp, DL.gsNil, DL.gsCons, DL.mFrz, DL.frz, DL.mListF, DL.mListRg2, DL.mListRg1, DL.mFnB, List.map_cons, List.map_nil, DL.flatD, DL.mLcF, DL.okW, DL.wipeR, DL.restR, DL.rngD_len, Int.toNat_natCast, Bool.and_self, Bool.and_true, Bool.true_and, DL.mFor, DL.mRng1, DL.mRng2, DL.mIter, DL.mEnumA, Option.bind_some, Option.bind_none, Option.map_some, Option.map_none, List.getElem?_cons_succ, List.getElem?_cons_zero, List.getElem?_nil, List.set_cons_succ, List.set_cons_zero, DL.Sl.oc, DL.Sl.put, DL.ocAt, DL.putAt, DL.ocFits, DL.isIo, DL.rsv, DL.rsvs, DL.vals, DL.toSl, DL.toSls, DL.back, DL.owns, DL.ocD, DL.fin, DL.runF, DL.runG, DL.runP, DL.runQ, List.length_cons, List.length_nil, List.length_set, List.replicate, List.cons_append, List.nil_append, List.nodup_nil, List.nodup_cons, List.not_mem_nil, not_false_eq_true, and_self, and_true, true_and, if_true, if_false, reduceCtorEq, Bool.false_eq_true, ite_true, ite_false, List.mem_cons, or_false, false_or, DL.addD, DL.subD, DL.iD, DL.cmpD, DL.ltD, DL.leD, DL.gtD, DL.geD, DL.ixD, DL.int1D, DL.int2D, DL.intD, DL.absD, DL.min2D, DL.max2D, DL.lenD, DL.itemsD, DL.tupleD, DL.negD, DL.truD, DL.isD, DL.isNotD, DL.isNone, Bool.not_true, Bool.not_false, Nat.reduceAdd, Nat.reduceSub, Nat.reduceLT, Nat.reduceLeDiff, ↓reduceIte, DL.OC.lst.injEq, DL.mUn, DL.mBindX, DL.kDrop, DL.kRet, DL.kAsg, DL.runX, DL.okX, DL.mSetF, DL.putFD, DL.mSIn, DL.mSGet, DL.mIterS, t, n, i0]
theorem within_no {x a b : Int} (h : ¬ (a ≤ x ∧ x ≤ b)) : F_is_within [.sh (.int x), .sh (.int a), .sh (.int b)] = some (.bool false, [.sh (.int x), .sh (.int a), .sh (.int b)]) := by
  rw [within_any rfl, show inR a b (.int x) = false from by
    unfold inR
    rw [Bool.eq_false_iff]
    intro z
    simp only [Bool.and_eq_true, decide_eq_true_eq] at z
    exact h z]
theorem kind_no2 {m l s b f : Int} (nm : F_is_name [.sh (.str "x")] = some (.bool true, [.sh (.str "x")])) (h : (m = 0 ∧ l = 1 ∧ s = 1 ∧ b = 1 ∧ f = 1) ∨ (m = 1 ∧ l = 2 ∧ s = 1 ∧ b = 1 ∧ f = 1) ∨ (m = 1 ∧ l = 1 ∧ s = 9 ∧ b = 1 ∧ f = 1) ∨ (m = 1 ∧ l = 1 ∧ s = 1 ∧ b = 5 ∧ f = 1)) :
    F_is_kind [.sh (.tuple [.str "x", .int m, .int l, .int s, .int b, .int f])] = some (.bool false, [.sh (.tuple [.str "x", .int m, .int l, .int s, .int b, .int f])]) := by
  have t : F_is_tuple_of [.sh (.tuple [.str "x", .int m, .int l, .int s, .int b, .int f]), .sh (.int 6)] = some (.bool true, [.sh (.tuple [.str "x", .int m, .int l, .int s, .int b, .int f]), .sh (.int 6)]) := tupof_any rfl 6
  have i0 : ixD (.tuple [.str "x", .int m, .int l, .int s, .int b, .int f]) (.int 0) = some (.str "x") := rfl
  have i1 : ixD (.tuple [.str "x", .int m, .int l, .int s, .int b, .int f]) (.int 1) = some (.int m) := rfl
  have i2 : ixD (.tuple [.str "x", .int m, .int l, .int s, .int b, .int f]) (.int 2) = some (.int l) := rfl
  have i3 : ixD (.tuple [.str "x", .int m, .int l, .int s, .int b, .int f]) (.int 3) = some (.int s) := rfl
  have i4 : ixD (.tuple [.str "x", .int m, .int l, .int s, .int b, .int f]) (.int 4) = some (.int b) := rfl
  have i5 : ixD (.tuple [.str "x", .int m, .int l, .int s, .int b, .int f]) (.int 5) = some (.int f) := rfl
  unfold F_is_kind b_is_kind
  generalize PyData.tuple [.str "x", .int m, .int l, .int s, .int b, .int f] = T at *
  generalize (ixD : D → D → Option D) = ix at *
  rcases h with ⟨rfl, rfl, rfl, rfl, rfl⟩ | ⟨rfl, rfl, rfl, rfl, rfl⟩ | ⟨rfl, rfl, rfl, rfl, rfl⟩ | ⟨rfl, rfl, rfl, rfl, rfl⟩
  · have w := within_no (x := 0) (a := 1) (b := 3) (by omega)
    simp only [DL.mSeq, DL.mIfS, DL.mTest, DL.mAnd, DL.mOr, DL.mNot, DL.mAndV, DL.mOrV, DL.mNotV, DL.mIf, DL.mChain, DL.mOp, DL.mUn, DL.mCall, DL.mC, DL.mVar, DL.pE, DL.pO, DL.fE, DL.aNil, DL.aCons, DL.mFn, DL.mFnG, DL.mTru, DL.mIsi, DL.mIsiT, DL.mNext, DL.mRet, DL.mRetO, DL.mRetF, DL.mRetN, DL.mDrop, DL.mAsg, DL.mOwn, DL.mAug, DL.mSetL, DL.mMt, DL.mTup, DL.mLstF, DL.mDTF, DL.mDKF, DL.mYes, DL.gNm, DL.gTp, DL.gsNil, DL.gsCons, DL.mFrz, DL.frz, DL.mListF, DL.mListRg2, DL.mListRg1, DL.mFnB, List.map_cons, List.map_nil, DL.flatD, DL.mLcF, DL.okW, DL.wipeR, DL.restR, DL.rngD_len, Int.toNat_natCast, Bool.and_self, Bool.and_true, Bool.true_and, DL.mFor, DL.mRng1, DL.mRng2, DL.mIter, DL.mEnumA, Option.bind_some, Option.bind_none, Option.map_some, Option.map_none, List.getElem?_cons_succ, List.getElem?_cons_zero, List.getElem?_nil, List.set_cons_succ, List.set_cons_zero, DL.Sl.oc, DL.Sl.put, DL.ocAt, DL.putAt, DL.ocFits, DL.isIo, DL.rsv, DL.rsvs, DL.vals, DL.toSl, DL.toSls, DL.back, DL.owns, DL.ocD, DL.fin, DL.runF, DL.runG, DL.runP, DL.runQ, List.length_cons, List.length_nil, List.length_set, List.replicate, List.cons_append, List.nil_append, List.nodup_nil, List.nodup_cons, List.not_mem_nil, not_false_eq_true, and_self, and_true, true_and, if_true, if_false, reduceCtorEq, Bool.false_eq_true, ite_true, ite_false, List.mem_cons, or_false, false_or, DL.addD, DL.subD, DL.iD, DL.cmpD, DL.ltD, DL.leD, DL.gtD, DL.geD, DL.ixD, DL.int1D, DL.int2D, DL.intD, DL.absD, DL.min2D, DL.max2D, DL.lenD, DL.itemsD, DL.tupleD, DL.negD, DL.truD, DL.isD, DL.isNotD, DL.isNone, Bool.not_true, Bool.not_false, Nat.reduceAdd, Nat.reduceSub, Nat.reduceLT, Nat.reduceLeDiff, ↓reduceIte, DL.OC.lst.injEq, DL.mUn, DL.mBindX, DL.kDrop, DL.kRet, DL.kAsg, DL.runX, DL.okX, DL.mSetF, DL.putFD, DL.mSIn, DL.mSGet, DL.mIterS, t, nm, i0, i1, w]
  · have w := within_int (x := 1) (a := 1) (b := 3) (by omega) (by omega)
    have w2 := within_int (x := 1) (a := 0) (b := 8) (by omega) (by omega)
    have w3 := within_no (x := 2) (a := 0) (b := 1) (by omega)
    simp only [DL.mSeq, DL.mIfS, DL.mTest, DL.mAnd, DL.mOr, DL.mNot, DL.mAndV, DL.mOrV, DL.mNotV, DL.mIf, DL.mChain, DL.mOp, DL.mUn, DL.mCall, DL.mC, DL.mVar, DL.pE, DL.pO, DL.fE, DL.aNil, DL.aCons, DL.mFn, DL.mFnG, DL.mTru, DL.mIsi, DL.mIsiT, DL.mNext, DL.mRet, DL.mRetO, DL.mRetF, DL.mRetN, DL.mDrop, DL.mAsg, DL.mOwn, DL.mAug, DL.mSetL, DL.mMt, DL.mTup, DL.mLstF, DL.mDTF, DL.mDKF, DL.mYes, DL.gNm, DL.gTp, DL.gsNil, DL.gsCons, DL.mFrz, DL.frz, DL.mListF, DL.mListRg2, DL.mListRg1, DL.mFnB, List.map_cons, List.map_nil, DL.flatD, DL.mLcF, DL.okW, DL.wipeR, DL.restR, DL.rngD_len, Int.toNat_natCast, Bool.and_self, Bool.and_true, Bool.true_and, DL.mFor, DL.mRng1, DL.mRng2, DL.mIter, DL.mEnumA, Option.bind_some, Option.bind_none, Option.map_some, Option.map_none, List.getElem?_cons_succ, List.getElem?_cons_zero, List.getElem?_nil, List.set_cons_succ, List.set_cons_zero, DL.Sl.oc, DL.Sl.put, DL.ocAt, DL.putAt, DL.ocFits, DL.isIo, DL.rsv, DL.rsvs, DL.vals, DL.toSl, DL.toSls, DL.back, DL.owns, DL.ocD, DL.fin, DL.runF, DL.runG, DL.runP, DL.runQ, List.length_cons, List.length_nil, List.length_set, List.replicate, List.cons_append, List.nil_append, List.nodup_nil, List.nodup_cons, List.not_mem_nil, not_false_eq_true, and_self, and_true, true_and, if_true, if_false, reduceCtorEq, Bool.false_eq_true, ite_true, ite_false, List.mem_cons, or_false, false_or, DL.addD, DL.subD, DL.iD, DL.cmpD, DL.ltD, DL.leD, DL.gtD, DL.geD, DL.ixD, DL.int1D, DL.int2D, DL.intD, DL.absD, DL.min2D, DL.max2D, DL.lenD, DL.itemsD, DL.tupleD, DL.negD, DL.truD, DL.isD, DL.isNotD, DL.isNone, Bool.not_true, Bool.not_false, Nat.reduceAdd, Nat.reduceSub, Nat.reduceLT, Nat.reduceLeDiff, ↓reduceIte, DL.OC.lst.injEq, DL.mUn, DL.mBindX, DL.kDrop, DL.kRet, DL.kAsg, DL.runX, DL.okX, DL.mSetF, DL.putFD, DL.mSIn, DL.mSGet, DL.mIterS, t, nm, i0, i1, i2, i3, w, w2, w3]
  · have w := within_int (x := 1) (a := 1) (b := 3) (by omega) (by omega)
    have w2 := within_no (x := 9) (a := 0) (b := 8) (by omega)
    simp only [DL.mSeq, DL.mIfS, DL.mTest, DL.mAnd, DL.mOr, DL.mNot, DL.mAndV, DL.mOrV, DL.mNotV, DL.mIf, DL.mChain, DL.mOp, DL.mUn, DL.mCall, DL.mC, DL.mVar, DL.pE, DL.pO, DL.fE, DL.aNil, DL.aCons, DL.mFn, DL.mFnG, DL.mTru, DL.mIsi, DL.mIsiT, DL.mNext, DL.mRet, DL.mRetO, DL.mRetF, DL.mRetN, DL.mDrop, DL.mAsg, DL.mOwn, DL.mAug, DL.mSetL, DL.mMt, DL.mTup, DL.mLstF, DL.mDTF, DL.mDKF, DL.mYes, DL.gNm, DL.gTp, DL.gsNil, DL.gsCons, DL.mFrz, DL.frz, DL.mListF, DL.mListRg2, DL.mListRg1, DL.mFnB, List.map_cons, List.map_nil, DL.flatD, DL.mLcF, DL.okW, DL.wipeR, DL.restR, DL.rngD_len, Int.toNat_natCast, Bool.and_self, Bool.and_true, Bool.true_and, DL.mFor, DL.mRng1, DL.mRng2, DL.mIter, DL.mEnumA, Option.bind_some, Option.bind_none, Option.map_some, Option.map_none, List.getElem?_cons_succ, List.getElem?_cons_zero, List.getElem?_nil, List.set_cons_succ, List.set_cons_zero, DL.Sl.oc, DL.Sl.put, DL.ocAt, DL.putAt, DL.ocFits, DL.isIo, DL.rsv, DL.rsvs, DL.vals, DL.toSl, DL.toSls, DL.back, DL.owns, DL.ocD, DL.fin, DL.runF, DL.runG, DL.runP, DL.runQ, List.length_cons, List.length_nil, List.length_set, List.replicate, List.cons_append, List.nil_append, List.nodup_nil, List.nodup_cons, List.not_mem_nil, not_false_eq_true, and_self, and_true, true_and, if_true, if_false, reduceCtorEq, Bool.false_eq_true, ite_true, ite_false, List.mem_cons, or_false, false_or, DL.addD, DL.subD, DL.iD, DL.cmpD, DL.ltD, DL.leD, DL.gtD, DL.geD, DL.ixD, DL.int1D, DL.int2D, DL.intD, DL.absD, DL.min2D, DL.max2D, DL.lenD, DL.itemsD, DL.tupleD, DL.negD, DL.truD, DL.isD, DL.isNotD, DL.isNone, Bool.not_true, Bool.not_false, Nat.reduceAdd, Nat.reduceSub, Nat.reduceLT, Nat.reduceLeDiff, ↓reduceIte, DL.OC.lst.injEq, DL.mUn, DL.mBindX, DL.kDrop, DL.kRet, DL.kAsg, DL.runX, DL.okX, DL.mSetF, DL.putFD, DL.mSIn, DL.mSGet, DL.mIterS, t, nm, i0, i1, i2, i3, w, w2]
  · have w := within_int (x := 1) (a := 1) (b := 3) (by omega) (by omega)
    have w2 := within_int (x := 1) (a := 0) (b := 8) (by omega) (by omega)
    have w3 := within_int (x := 1) (a := 0) (b := 1) (by omega) (by omega)
    have w4 := within_no (x := 5) (a := 1) (b := 4) (by omega)
    simp only [DL.mSeq, DL.mIfS, DL.mTest, DL.mAnd, DL.mOr, DL.mNot, DL.mAndV, DL.mOrV, DL.mNotV, DL.mIf, DL.mChain, DL.mOp, DL.mUn, DL.mCall, DL.mC, DL.mVar, DL.pE, DL.pO, DL.fE, DL.aNil, DL.aCons, DL.mFn, DL.mFnG, DL.mTru, DL.mIsi, DL.mIsiT, DL.mNext, DL.mRet, DL.mRetO, DL.mRetF, DL.mRetN, DL.mDrop, DL.mAsg, DL.mOwn, DL.mAug, DL.mSetL, DL.mMt, DL.mTup, DL.mLstF, DL.mDTF, DL.mDKF, DL.mYes, DL.gNm, DL.gTp, DL.gsNil, DL.gsCons, DL.mFrz, DL.frz, DL.mListF, DL.mListRg2, DL.mListRg1, DL.mFnB, List.map_cons, List.map_nil, DL.flatD, DL.mLcF, DL.okW, DL.wipeR, DL.restR, DL.rngD_len, Int.toNat_natCast, Bool.and_self, Bool.and_true, Bool.true_and, DL.mFor, DL.mRng1, DL.mRng2, DL.mIter, DL.mEnumA, Option.bind_some, Option.bind_none, Option.map_some, Option.map_none, List.getElem?_cons_succ, List.getElem?_cons_zero, List.getElem?_nil, List.set_cons_succ, List.set_cons_zero, DL.Sl.oc, DL.Sl.put, DL.ocAt, DL.putAt, DL.ocFits, DL.isIo, DL.rsv, DL.rsvs, DL.vals, DL.toSl, DL.toSls, DL.back, DL.owns, DL.ocD, DL.fin, DL.runF, DL.runG, DL.runP, DL.runQ, List.length_cons, List.length_nil, List.length_set, List.replicate, List.cons_append, List.nil_append, List.nodup_nil, List.nodup_cons, List.not_mem_nil, not_false_eq_true, and_self, and_true, true_and, if_true, if_false, reduceCtorEq, Bool.false_eq_true, ite_true, ite_false, List.mem_cons, or_false, false_or, DL.addD, DL.subD, DL.iD, DL.cmpD, DL.ltD, DL.leD, DL.gtD, DL.geD, DL.ixD, DL.int1D, DL.int2D, DL.intD, DL.absD, DL.min2D, DL.max2D, DL.lenD, DL.itemsD, DL.tupleD, DL.negD, DL.truD, DL.isD, DL.isNotD, DL.isNone, Bool.not_true, Bool.not_false, Nat.reduceAdd, Nat.reduceSub, Nat.reduceLT, Nat.reduceLeDiff, ↓reduceIte, DL.OC.lst.injEq, DL.mUn, DL.mBindX, DL.kDrop, DL.kRet, DL.kAsg, DL.runX, DL.okX, DL.mSetF, DL.putFD, DL.mSIn, DL.mSGet, DL.mIterS, t, nm, i0, i1, i2, i3, i4, w, w2, w3, w4]
theorem nm_x : F_is_name [.sh (.str "x")] = some (.bool true, [.sh (.str "x")]) := name_of "x" (by decide) (by decide) (by decide +kernel)
theorem order_no1 {d kn : D} (hd : isDict d = false) (h : isTn 2 d = false) : F_is_order [.sh d, .sh kn] = some (.bool false, [.sh d, .sh kn]) := by
  have t : F_is_tuple_of [.sh d, .sh (.int 2)] = some (.bool false, [.sh d, .sh (.int 2)]) := by
    have := tupof_any hd 2
    rw [h] at this
    exact this
  unfold F_is_order b_is_order
  simp only [DL.mSeq, DL.mIfS, DL.mTest, DL.mAnd, DL.mOr, DL.mNot, DL.mAndV, DL.mOrV, DL.mNotV, DL.mIf, DL.mChain, DL.mOp, DL.mUn, DL.mCall, DL.mC, DL.mVar, DL.pE, DL.pO, DL.fE, DL.aNil, DL.aCons, DL.mFn, DL.mFnG, DL.mTru, DL.mIsi, DL.mIsiT, DL.mNext, DL.mRet, DL.mRetO, DL.mRetF, DL.mRetN, DL.mDrop, DL.mAsg, DL.mOwn, DL.mAug, DL.mSetL, DL.mMt, DL.mTup, DL.mLstF, DL.mDTF, DL.mDKF, DL.mYes, DL.gNm, DL.gTp, DL.gsNil, DL.gsCons, DL.mFrz, DL.frz, DL.mListF, DL.mListRg2, DL.mListRg1, DL.mFnB, List.map_cons, List.map_nil, DL.flatD, DL.mLcF, DL.okW, DL.wipeR, DL.restR, DL.rngD_len, Int.toNat_natCast, Bool.and_self, Bool.and_true, Bool.true_and, DL.mFor, DL.mRng1, DL.mRng2, DL.mIter, DL.mEnumA, Option.bind_some, Option.bind_none, Option.map_some, Option.map_none, List.getElem?_cons_succ, List.getElem?_cons_zero, List.getElem?_nil, List.set_cons_succ, List.set_cons_zero, DL.Sl.oc, DL.Sl.put, DL.ocAt, DL.putAt, DL.ocFits, DL.isIo, DL.rsv, DL.rsvs, DL.vals, DL.toSl, DL.toSls, DL.back, DL.owns, DL.ocD, DL.fin, DL.runF, DL.runG, DL.runP, DL.runQ, List.length_cons, List.length_nil, List.length_set, List.replicate, List.cons_append, List.nil_append, List.nodup_nil, List.nodup_cons, List.not_mem_nil, not_false_eq_true, and_self, and_true, true_and, if_true, if_false, reduceCtorEq, Bool.false_eq_true, ite_true, ite_false, List.mem_cons, or_false, false_or, DL.addD, DL.subD, DL.iD, DL.cmpD, DL.ltD, DL.leD, DL.gtD, DL.geD, DL.ixD, DL.int1D, DL.int2D, DL.intD, DL.absD, DL.min2D, DL.max2D, DL.lenD, DL.itemsD, DL.tupleD, DL.negD, DL.truD, DL.isD, DL.isNotD, DL.isNone, Bool.not_true, Bool.not_false, Nat.reduceAdd, Nat.reduceSub, Nat.reduceLT, Nat.reduceLeDiff, ↓reduceIte, DL.OC.lst.injEq, DL.mUn, DL.mBindX, DL.kDrop, DL.kRet, DL.kAsg, DL.runX, DL.okX, DL.mSetF, DL.putFD, DL.mSIn, DL.mSGet, DL.mIterS, t]
theorem order_no5 {kn : D} : F_is_order [.sh (.tuple [.int 5, .int 3]), .sh kn] = some (.bool false, [.sh (.tuple [.int 5, .int 3]), .sh kn]) := by
  have t : F_is_tuple_of [.sh (.tuple [.int 5, .int 3]), .sh (.int 2)] = some (.bool true, [.sh (.tuple [.int 5, .int 3]), .sh (.int 2)]) := tupof_any rfl 2
  have i0 : ixD (.tuple [.int 5, .int 3]) (.int 0) = some (.int 5) := rfl
  have s : isiB "str" (.int 5) = some false := rfl
  unfold F_is_order b_is_order
  generalize PyData.tuple [.int 5, .int 3] = T at *
  generalize (ixD : D → D → Option D) = ix at *
  simp only [DL.mSeq, DL.mIfS, DL.mTest, DL.mAnd, DL.mOr, DL.mNot, DL.mAndV, DL.mOrV, DL.mNotV, DL.mIf, DL.mChain, DL.mOp, DL.mUn, DL.mCall, DL.mC, DL.mVar, DL.pE, DL.pO, DL.fE, DL.aNil, DL.aCons, DL.mFn, DL.mFnG, DL.mTru, DL.mIsi, DL.mIsiT, DL.mNext, DL.mRet, DL.mRetO, DL.mRetF, DL.mRetN, DL.mDrop, DL.mAsg, DL.mOwn, DL.mAug, DL.mSetL, DL.mMt, DL.mTup, DL.mLstF, DL.mDTF, DL.mDKF, DL.mYes, DL.gNm, DL.gTp, DL.gsNil, DL.gsCons, DL.mFrz, DL.frz, DL.mListF, DL.mListRg2, DL.mListRg1, DL.mFnB, List.map_cons, List.map_nil, DL.flatD, DL.mLcF, DL.okW, DL.wipeR, DL.restR, DL.rngD_len, Int.toNat_natCast, Bool.and_self, Bool.and_true, Bool.true_and, DL.mFor, DL.mRng1, DL.mRng2, DL.mIter, DL.mEnumA, Option.bind_some, Option.bind_none, Option.map_some, Option.map_none, List.getElem?_cons_succ, List.getElem?_cons_zero, List.getElem?_nil, List.set_cons_succ, List.set_cons_zero, DL.Sl.oc, DL.Sl.put, DL.ocAt, DL.putAt, DL.ocFits, DL.isIo, DL.rsv, DL.rsvs, DL.vals, DL.toSl, DL.toSls, DL.back, DL.owns, DL.ocD, DL.fin, DL.runF, DL.runG, DL.runP, DL.runQ, List.length_cons, List.length_nil, List.length_set, List.replicate, List.cons_append, List.nil_append, List.nodup_nil, List.nodup_cons, List.not_mem_nil, not_false_eq_true, and_self, and_true, true_and, if_true, if_false, reduceCtorEq, Bool.false_eq_true, ite_true, ite_false, List.mem_cons, or_false, false_or, DL.addD, DL.subD, DL.iD, DL.cmpD, DL.ltD, DL.leD, DL.gtD, DL.geD, DL.ixD, DL.int1D, DL.int2D, DL.intD, DL.absD, DL.min2D, DL.max2D, DL.lenD, DL.itemsD, DL.tupleD, DL.negD, DL.truD, DL.isD, DL.isNotD, DL.isNone, Bool.not_true, Bool.not_false, Nat.reduceAdd, Nat.reduceSub, Nat.reduceLT, Nat.reduceLeDiff, ↓reduceIte, DL.OC.lst.injEq, DL.mUn, DL.mBindX, DL.kDrop, DL.kRet, DL.kAsg, DL.runX, DL.okX, DL.mSetF, DL.putFD, DL.mSIn, DL.mSGet, DL.mIterS, t, i0, s]
theorem sget_none {p : Pt} (v : Pv p) {nm : Str} (h : nm ∉ p.kinds.map Kd.name) : sget (knL p) (.str nm) = some none := by
  obtain ⟨l1, l4⟩ := kn_len v
  unfold sget
  rw [if_pos]
  · show some (((knL p).find? fun q => keyEq q.1 (.inr nm)).map (·.2)) = _
    unfold knL
    rw [kn_find, List.find?_eq_none.mpr]
    · rfl
    · intro k hk
      rw [beq_iff_eq]
      intro z
      exact h (z ▸ List.mem_map_of_mem hk)
  · refine ⟨fun z => ?_, ?_⟩
    · have := congrArg List.length z
      unfold knL at this
      rw [List.length_map] at this
      simp at this
      rw [this] at l1
      simp at l1
    · rw [List.all_eq_true]
      intro q hq
      obtain ⟨k, _, rfl⟩ := List.mem_map.mp hq
      rfl
theorem order_noN {p : Pt} (v : Pv p) : F_is_order [.sh (.tuple [.str "nobody", .int 3]), .sh (.dict (knL p))] = some (.bool false, [.sh (.tuple [.str "nobody", .int 3]), .sh (.dict (knL p))]) := by
  have t : F_is_tuple_of [.sh (.tuple [.str "nobody", .int 3]), .sh (.int 2)] = some (.bool true, [.sh (.tuple [.str "nobody", .int 3]), .sh (.int 2)]) := tupof_any rfl 2
  have i0 : ixD (.tuple [.str "nobody", .int 3]) (.int 0) = some (.str "nobody") := rfl
  have s : isiB "str" (.str "nobody") = some true := rfl
  have g : sget (knL p) (.str "nobody") = some none := sget_none v fun z => by
    obtain ⟨n, _, _, e⟩ := v.kn
    rw [e] at z
    have := List.mem_of_mem_take z
    revert this
    decide +kernel
  unfold F_is_order b_is_order
  generalize PyData.tuple [.str "nobody", .int 3] = T at *
  generalize knL p = KN at *
  generalize (ixD : D → D → Option D) = ix at *
  simp only [DL.mSeq, DL.mIfS, DL.mTest, DL.mAnd, DL.mOr, DL.mNot, DL.mAndV, DL.mOrV, DL.mNotV, DL.mIf, DL.mChain, DL.mOp, DL.mUn, DL.mCall, DL.mC, DL.mVar, DL.pE, DL.pO, DL.fE, DL.aNil, DL.aCons, DL.mFn, DL.mFnG, DL.mTru, DL.mIsi, DL.mIsiT, DL.mNext, DL.mRet, DL.mRetO, DL.mRetF, DL.mRetN, DL.mDrop, DL.mAsg, DL.mOwn, DL.mAug, DL.mSetL, DL.mMt, DL.mTup, DL.mLstF, DL.mDTF, DL.mDKF, DL.mYes, DL.gNm, DL.gTp, DL.gsNil, DL.gsCons, DL.mFrz, DL.frz, DL.mListF, DL.mListRg2, DL.mListRg1, DL.mFnB, List.map_cons, List.map_nil, DL.flatD, DL.mLcF, DL.okW, DL.wipeR, DL.restR, DL.rngD_len, Int.toNat_natCast, Bool.and_self, Bool.and_true, Bool.true_and, DL.mFor, DL.mRng1, DL.mRng2, DL.mIter, DL.mEnumA, Option.bind_some, Option.bind_none, Option.map_some, Option.map_none, List.getElem?_cons_succ, List.getElem?_cons_zero, List.getElem?_nil, List.set_cons_succ, List.set_cons_zero, DL.Sl.oc, DL.Sl.put, DL.ocAt, DL.putAt, DL.ocFits, DL.isIo, DL.rsv, DL.rsvs, DL.vals, DL.toSl, DL.toSls, DL.back, DL.owns, DL.ocD, DL.fin, DL.runF, DL.runG, DL.runP, DL.runQ, List.length_cons, List.length_nil, List.length_set, List.replicate, List.cons_append, List.nil_append, List.nodup_nil, List.nodup_cons, List.not_mem_nil, not_false_eq_true, and_self, and_true, true_and, if_true, if_false, reduceCtorEq, Bool.false_eq_true, ite_true, ite_false, List.mem_cons, or_false, false_or, DL.addD, DL.subD, DL.iD, DL.cmpD, DL.ltD, DL.leD, DL.gtD, DL.geD, DL.ixD, DL.int1D, DL.int2D, DL.intD, DL.absD, DL.min2D, DL.max2D, DL.lenD, DL.itemsD, DL.tupleD, DL.negD, DL.truD, DL.isD, DL.isNotD, DL.isNone, Bool.not_true, Bool.not_false, Nat.reduceAdd, Nat.reduceSub, Nat.reduceLT, Nat.reduceLeDiff, ↓reduceIte, DL.OC.lst.injEq, DL.mUn, DL.mBindX, DL.kDrop, DL.kRet, DL.kAsg, DL.runX, DL.okX, DL.mSetF, DL.putFD, DL.mSIn, DL.mSGet, DL.mIterS, t, i0, s, g, Option.isSome_none]
theorem rye_in {p : Pt} (v : Pv p) : ("rye" : Str) ∈ p.kinds.map Kd.name := by
  obtain ⟨n, h1, _, e⟩ := v.kn
  rw [e]
  cases n with
  | zero => omega
  | succ n => exact List.mem_cons_self ..
theorem order_noH {p : Pt} (v : Pv p) {d : D} (hd : isDict d = false) (h : inR 0 20 d = false) : F_is_order [.sh (.tuple [.str "rye", d]), .sh (.dict (knL p))] = some (.bool false, [.sh (.tuple [.str "rye", d]), .sh (.dict (knL p))]) := by
  have t : F_is_tuple_of [.sh (.tuple [.str "rye", d]), .sh (.int 2)] = some (.bool true, [.sh (.tuple [.str "rye", d]), .sh (.int 2)]) := tupof_any rfl 2
  have i0 : ixD (.tuple [.str "rye", d]) (.int 0) = some (.str "rye") := rfl
  have i1 : ixD (.tuple [.str "rye", d]) (.int 1) = some d := rfl
  have s : isiB "str" (.str "rye") = some true := rfl
  have g := sget_known v (rye_in v)
  have w := within_any hd 0 20
  rw [h] at w
  unfold F_is_order b_is_order
  generalize kdD (kindOf p "rye") = KO at *
  generalize PyData.tuple [.str "rye", d] = T at *
  generalize knL p = KN at *
  generalize (ixD : D → D → Option D) = ix at *
  simp only [DL.mSeq, DL.mIfS, DL.mTest, DL.mAnd, DL.mOr, DL.mNot, DL.mAndV, DL.mOrV, DL.mNotV, DL.mIf, DL.mChain, DL.mOp, DL.mUn, DL.mCall, DL.mC, DL.mVar, DL.pE, DL.pO, DL.fE, DL.aNil, DL.aCons, DL.mFn, DL.mFnG, DL.mTru, DL.mIsi, DL.mIsiT, DL.mNext, DL.mRet, DL.mRetO, DL.mRetF, DL.mRetN, DL.mDrop, DL.mAsg, DL.mOwn, DL.mAug, DL.mSetL, DL.mMt, DL.mTup, DL.mLstF, DL.mDTF, DL.mDKF, DL.mYes, DL.gNm, DL.gTp, DL.gsNil, DL.gsCons, DL.mFrz, DL.frz, DL.mListF, DL.mListRg2, DL.mListRg1, DL.mFnB, List.map_cons, List.map_nil, DL.flatD, DL.mLcF, DL.okW, DL.wipeR, DL.restR, DL.rngD_len, Int.toNat_natCast, Bool.and_self, Bool.and_true, Bool.true_and, DL.mFor, DL.mRng1, DL.mRng2, DL.mIter, DL.mEnumA, Option.bind_some, Option.bind_none, Option.map_some, Option.map_none, List.getElem?_cons_succ, List.getElem?_cons_zero, List.getElem?_nil, List.set_cons_succ, List.set_cons_zero, DL.Sl.oc, DL.Sl.put, DL.ocAt, DL.putAt, DL.ocFits, DL.isIo, DL.rsv, DL.rsvs, DL.vals, DL.toSl, DL.toSls, DL.back, DL.owns, DL.ocD, DL.fin, DL.runF, DL.runG, DL.runP, DL.runQ, List.length_cons, List.length_nil, List.length_set, List.replicate, List.cons_append, List.nil_append, List.nodup_nil, List.nodup_cons, List.not_mem_nil, not_false_eq_true, and_self, and_true, true_and, if_true, if_false, reduceCtorEq, Bool.false_eq_true, ite_true, ite_false, List.mem_cons, or_false, false_or, DL.addD, DL.subD, DL.iD, DL.cmpD, DL.ltD, DL.leD, DL.gtD, DL.geD, DL.ixD, DL.int1D, DL.int2D, DL.intD, DL.absD, DL.min2D, DL.max2D, DL.lenD, DL.itemsD, DL.tupleD, DL.negD, DL.truD, DL.isD, DL.isNotD, DL.isNone, Bool.not_true, Bool.not_false, Nat.reduceAdd, Nat.reduceSub, Nat.reduceLT, Nat.reduceLeDiff, ↓reduceIte, DL.OC.lst.injEq, DL.mUn, DL.mBindX, DL.kDrop, DL.kRet, DL.kAsg, DL.runX, DL.okX, DL.mSetF, DL.putFD, DL.mSIn, DL.mSGet, DL.mIterS, t, i0, i1, s, g, w, Option.isSome_some]
end Lk11
set_option Elab.async false
set_option linter.all false
set_option maxRecDepth 100000
set_option maxHeartbeats 4000000
namespace Lk11
open PySem L2 DL
/-! ### the wrong one among the right ones -/
theorem kinds_to {W : D} {body : MS}
    (hB : (mSeq (mIfS (mOr (mNot (mTru (pE (mFn F_is_kind (aCons (pE (mVar 3)) aNil))))) (mTest (mOp inD (pE (mOp ixD (pE (mVar 3)) (pE (mC (.int 0))))) (pO 1)))) (mRaise "BadKinds" ["value"] [] (aCons (pE (mVar 2)) aNil)) mNext)
    (mDrop (mMt true appendO 1 (aCons (pE (mOp ixD (pE (mVar 3)) (pE (mC (.int 0))))) aNil))) : MS) = body) (T : List D) :
    ∀ (ks : List Kd) (i : Nat) (pre : List Str) (u2 u3 : Sl), (∀ x ∈ pre, x ∈ names4) → (∀ k ∈ ks, Kv k ∧ k.name ∈ names4) → (pre ++ ks.map Kd.name).Nodup → pre.length + ks.length ≤ 50 → ((u2 = .no ∧ u3 = .no) ∨ ∃ a b, u2 = .sh a ∧ u3 = .sh b) →
      ∃ v2 v3, ((v2 = .no ∧ v3 = .no) ∨ ∃ a b, v2 = .sh a ∧ v3 = .sh b) ∧ forD (gTp 2 (gsCons (gNm 2) (gsCons (gNm 3) gsNil))) body (enumD i (ks.map kdD ++ T)) [.sh W, .ow (.lst (pre.map .str)), u2, u3] = forD (gTp 2 (gsCons (gNm 2) (gsCons (gNm 3) gsNil))) body (enumD (i + ks.length) T) [.sh W, .ow (.lst ((pre ++ ks.map Kd.name).map .str)), v2, v3]
  | [], i, pre, u2, u3, _, _, _, _, hu => ⟨u2, u3, hu, by rw [show ([] : List Kd).map Kd.name = [] from rfl, List.append_nil]; rfl⟩
  | k :: ks, i, pre, u2, u3, hpre, hk, hnd, hl, hu => by
    obtain ⟨v, hn⟩ := hk k (List.mem_cons_self ..)
    have hnd2 : ((pre ++ [k.name]) ++ ks.map Kd.name).Nodup := by rw [List.append_assoc]; exact hnd
    obtain ⟨v2, v3, hv, e⟩ := kinds_to (W := W) hB T ks (i + 1) (pre ++ [k.name]) (.sh (.int i)) (.sh (kdD k)) (fun x hx => by
      rcases List.mem_append.mp hx with hx | hx
      · exact hpre x hx
      · rw [List.mem_singleton.mp hx]; exact hn) (fun x hx => hk x (List.mem_cons_of_mem _ hx)) hnd2 (by rw [List.length_append]; simp at hl ⊢; omega) (.inr ⟨_, _, rfl, rfl⟩)
    refine ⟨v2, v3, hv, ?_⟩
    have h1 := kind_ok v hn
    have h2 := (kd_ix k).1
    have hc : pre.contains k.name = false := by
      rw [← Bool.not_eq_true, List.contains_iff_mem]
      intro z
      have := (List.nodup_append.mp hnd).2.2 k.name z k.name (List.mem_cons_self ..)
      exact this rfl
    have h3 := in_strs (so_names _ hn) (fun x hx => so_names x (hpre x hx))
    rw [hc] at h3
    have hap : (pre.map PyData.str).length < 100000 := by rw [List.length_map]; simp at hl; omega
    have hs : body [.sh W, .ow (.lst (pre.map .str)), .sh (.int i), .sh (kdD k)] = some (.nx [.sh W, .ow (.lst ((pre ++ [k.name]).map .str)), .sh (.int i), .sh (kdD k)]) := by
      rw [List.map_append, show [k.name].map PyData.str = [.str k.name] from rfl]
      generalize pre.map PyData.str = PRE at *
      generalize kdD k = KD at *
      generalize (ixD : D → D → Option D) = ix at *
      generalize (inD : D → D → Option D) = iin at *
      subst hB
      simp only [DL.mSeq, DL.mIfS, DL.mTest, DL.mAnd, DL.mOr, DL.mNot, DL.mAndV, DL.mOrV, DL.mNotV, DL.mIf, DL.mChain, DL.mOp, DL.mUn, DL.mCall, DL.mC, DL.mVar, DL.pE, DL.pO, DL.fE, DL.aNil, DL.aCons, DL.mFn, DL.mFnG, DL.mTru, DL.mIsi, DL.mIsiT, DL.mNext, DL.mRet, DL.mRetO, DL.mRetF, DL.mRetN, DL.mDrop, DL.mAsg, DL.mOwn, DL.mAug, DL.mSetL, DL.mMt, DL.mTup, DL.mLstF, DL.mDTF, DL.mDKF, DL.mYes, DL.gNm, DL.gTp, DL.gsNil, DL.gsCons, DL.mFrz, DL.frz, DL.mListF, DL.mListRg2, DL.mListRg1, DL.mFnB, List.map_cons, List.map_nil, DL.flatD, DL.mLcF, DL.okW, DL.wipeR, DL.restR, DL.rngD_len, Int.toNat_natCast, Bool.and_self, Bool.and_true, Bool.true_and, DL.mFor, DL.mRng1, DL.mRng2, DL.mIter, DL.mEnumA, Option.bind_some, Option.bind_none, Option.map_some, Option.map_none, List.getElem?_cons_succ, List.getElem?_cons_zero, List.getElem?_nil, List.set_cons_succ, List.set_cons_zero, DL.Sl.oc, DL.Sl.put, DL.ocAt, DL.putAt, DL.ocFits, DL.isIo, DL.rsv, DL.rsvs, DL.vals, DL.toSl, DL.toSls, DL.back, DL.owns, DL.ocD, DL.fin, DL.runF, DL.runG, DL.runP, DL.runQ, List.length_cons, List.length_nil, List.length_set, List.replicate, List.cons_append, List.nil_append, List.nodup_nil, List.nodup_cons, List.not_mem_nil, not_false_eq_true, and_self, and_true, true_and, if_true, if_false, reduceCtorEq, Bool.false_eq_true, ite_true, ite_false, List.mem_cons, or_false, false_or, DL.addD, DL.subD, DL.iD, DL.cmpD, DL.ltD, DL.leD, DL.gtD, DL.geD, DL.ixD, DL.int1D, DL.int2D, DL.intD, DL.absD, DL.min2D, DL.max2D, DL.lenD, DL.itemsD, DL.tupleD, DL.negD, DL.truD, DL.isD, DL.isNotD, DL.isNone, Bool.not_true, Bool.not_false, Nat.reduceAdd, Nat.reduceSub, Nat.reduceLT, Nat.reduceLeDiff, ↓reduceIte, DL.OC.lst.injEq, DL.mUn, DL.mBindX, DL.kDrop, DL.kRet, DL.kAsg, DL.runX, DL.okX, DL.mSetF, DL.putFD, DL.mSIn, DL.mSGet, DL.mIterS, h1, h2, h3, rsv, ocD, appendO, hap]
    have hg : gTp 2 (gsCons (gNm 2) (gsCons (gNm 3) gsNil)) (.tuple [.int i, kdD k]) [.sh W, .ow (.lst (pre.map .str)), u2, u3] = some [.sh W, .ow (.lst (pre.map .str)), .sh (.int i), .sh (kdD k)] := by
      rcases hu with ⟨rfl, rfl⟩ | ⟨_, _, rfl, rfl⟩ <;> rfl
    show forD _ body (.tuple [.int i, kdD k] :: enumD (i + 1) (ks.map kdD ++ T)) _ = _
    rw [forD_cons, hg, Option.bind_some, hs, Option.bind_some]
    rw [List.append_assoc] at e
    rw [show i + (k :: ks).length = i + 1 + ks.length by rw [List.length_cons]; omega]
    exact e
theorem kinds_at {p : Pt} (v : Pv p) {k : Nat} (hk : k < p.kinds.length) {odd : D} {rest : List D} (hr : rest.length + k + 1 ≤ 4)
    (h : F_is_kind [.sh odd] = some (.bool false, [.sh odd]) ∨ ∃ q ∈ p.kinds.take k, odd = kdD q) :
    F_check_kinds [.sh (.list ((p.kinds.take k).map kdD ++ odd :: rest))] = some (.exc "BadKinds" [("value", .int k)], [.sh (.list ((p.kinds.take k).map kdD ++ odd :: rest))]) := by
  obtain ⟨l1, l4⟩ := kn_len v
  have hlen : ((p.kinds.take k).map kdD ++ odd :: rest).length = k + 1 + rest.length := by
    rw [List.length_append, List.length_map, List.length_take, List.length_cons]; omega
  have hrow := row_lst ((p.kinds.take k).map kdD ++ odd :: rest)
  have hl : lenD [.list ((p.kinds.take k).map kdD ++ odd :: rest)] = some (.int ((k + 1 + rest.length : Nat) : Int)) := by show some (PyData.int (((p.kinds.take k).map kdD ++ odd :: rest).length : Nat)) = _; rw [hlen]
  have d1 : decide ((1 : Int) ≤ ((k + 1 + rest.length : Nat) : Int)) = true := decide_eq_true (by omega)
  have d2 : decide (((k + 1 + rest.length : Nat) : Int) ≤ 4) = true := decide_eq_true (by omega)
  unfold F_check_kinds b_check_kinds
  generalize hB : (mSeq (mIfS (mOr (mNot (mTru (pE (mFn F_is_kind _)))) _) _ _) _ : MS) = body
  have hmem : ∀ q ∈ p.kinds.take k, Kv q ∧ q.name ∈ names4 := fun q hq => kn_mem v q (List.mem_of_mem_take hq)
  have hsub : ((p.kinds.take k).map Kd.name).Nodup := by
    obtain ⟨n, _, _, e⟩ := v.kn
    rw [List.map_take, e]
    exact (nodup4 n).sublist (List.take_sublist _ _)
  obtain ⟨v2, v3, hv, e⟩ := kinds_to (W := .list ((p.kinds.take k).map kdD ++ odd :: rest)) hB (odd :: rest) (p.kinds.take k) 0 [] .no .no (fun _ h => (nomatch h)) hmem (by rw [List.nil_append]; exact hsub) (by simp; omega) (.inl ⟨rfl, rfl⟩)
  have e : forD _ body (enumD 0 ((p.kinds.take k).map kdD ++ odd :: rest)) [.sh (.list ((p.kinds.take k).map kdD ++ odd :: rest)), .ow (.lst []), .no, .no] = _ := e
  rw [List.nil_append, show 0 + (p.kinds.take k).length = k by rw [List.length_take]; omega] at e
  have e2 : forD (gTp 2 (gsCons (gNm 2) (gsCons (gNm 3) gsNil))) body (enumD k (odd :: rest)) [.sh (.list ((p.kinds.take k).map kdD ++ odd :: rest)), .ow (.lst (((p.kinds.take k).map Kd.name).map .str)), v2, v3] =
      some (.ex "BadKinds" [("value", .int k)] [.sh (.list ((p.kinds.take k).map kdD ++ odd :: rest)), .ow (.lst (((p.kinds.take k).map Kd.name).map .str)), .sh (.int k), .sh odd]) := by
    generalize PyData.list ((p.kinds.take k).map kdD ++ odd :: rest) = W at *
    have hg : gTp 2 (gsCons (gNm 2) (gsCons (gNm 3) gsNil)) (.tuple [.int k, odd]) [.sh W, .ow (.lst (((p.kinds.take k).map Kd.name).map .str)), v2, v3] = some [.sh W, .ow (.lst (((p.kinds.take k).map Kd.name).map .str)), .sh (.int k), .sh odd] := by
      rcases hv with ⟨rfl, rfl⟩ | ⟨_, _, rfl, rfl⟩ <;> rfl
    have hs : body [.sh W, .ow (.lst (((p.kinds.take k).map Kd.name).map .str)), .sh (.int k), .sh odd] = some (.ex "BadKinds" [("value", .int k)] [.sh W, .ow (.lst (((p.kinds.take k).map Kd.name).map .str)), .sh (.int k), .sh odd]) := by
      rcases h with h | ⟨q, hq, rfl⟩
      · generalize ((p.kinds.take k).map Kd.name).map PyData.str = PRE at *
        subst hB
        simp only [DL.mSeq, DL.mIfS, DL.mTest, DL.mAnd, DL.mOr, DL.mNot, DL.mAndV, DL.mOrV, DL.mNotV, DL.mIf, DL.mChain, DL.mOp, DL.mUn, DL.mCall, DL.mC, DL.mVar, DL.pE, DL.pO, DL.fE, DL.aNil, DL.aCons, DL.mFn, DL.mFnG, DL.mTru, DL.mIsi, DL.mIsiT, DL.mNext, DL.mRet, DL.mRetO, DL.mRetF, DL.mRetN, DL.mDrop, DL.mAsg, DL.mOwn, DL.mAug, DL.mSetL, DL.mMt, DL.mTup, DL.mLstF, DL.mDTF, DL.mDKF, DL.mYes, DL.gNm, DL.gTp, DL.gsNil, DL.gsCons, DL.mFrz, DL.frz, DL.mListF, DL.mListRg2, DL.mListRg1, DL.mFnB, List.map_cons, List.map_nil, DL.flatD, DL.mLcF, DL.okW, DL.wipeR, DL.restR, DL.rngD_len, Int.toNat_natCast, Bool.and_self, Bool.and_true, Bool.true_and, DL.mFor, DL.mRng1, DL.mRng2, DL.mIter, DL.mEnumA, Option.bind_some, Option.bind_none, Option.map_some, Option.map_none, List.getElem?_cons_succ, List.getElem?_cons_zero, List.getElem?_nil, List.set_cons_succ, List.set_cons_zero, DL.Sl.oc, DL.Sl.put, DL.ocAt, DL.putAt, DL.ocFits, DL.isIo, DL.rsv, DL.rsvs, DL.vals, DL.toSl, DL.toSls, DL.back, DL.owns, DL.ocD, DL.fin, DL.runF, DL.runG, DL.runP, DL.runQ, List.length_cons, List.length_nil, List.length_set, List.replicate, List.cons_append, List.nil_append, List.nodup_nil, List.nodup_cons, List.not_mem_nil, not_false_eq_true, and_self, and_true, true_and, if_true, if_false, reduceCtorEq, Bool.false_eq_true, ite_true, ite_false, List.mem_cons, or_false, false_or, DL.addD, DL.subD, DL.iD, DL.cmpD, DL.ltD, DL.leD, DL.gtD, DL.geD, DL.ixD, DL.int1D, DL.int2D, DL.intD, DL.absD, DL.min2D, DL.max2D, DL.lenD, DL.itemsD, DL.tupleD, DL.negD, DL.truD, DL.isD, DL.isNotD, DL.isNone, Bool.not_true, Bool.not_false, Nat.reduceAdd, Nat.reduceSub, Nat.reduceLT, Nat.reduceLeDiff, ↓reduceIte, DL.OC.lst.injEq, DL.mUn, DL.mBindX, DL.kDrop, DL.kRet, DL.kAsg, DL.runX, DL.okX, DL.mSetF, DL.putFD, DL.mSIn, DL.mSGet, DL.mIterS, h, rsv, mRaise, ocD, vals, List.zip_cons_cons, List.zip_nil_left, List.zip_nil_right, List.reverse_cons, List.reverse_nil, List.nil_append, List.append_nil]
      · have h1 := kind_ok (hmem q hq).1 (hmem q hq).2
        have h2 := (kd_ix q).1
        have hc : ((p.kinds.take k).map Kd.name).contains q.name = true := List.contains_iff_mem.mpr (List.mem_map_of_mem hq)
        have h3 := in_strs (l := (p.kinds.take k).map Kd.name) (so_names _ (hmem q hq).2) (fun x hx => by
          obtain ⟨y, hy, rfl⟩ := List.mem_map.mp hx
          exact so_names _ (hmem y hy).2)
        rw [hc] at h3
        generalize ((p.kinds.take k).map Kd.name).map PyData.str = PRE at *
        generalize kdD q = KD at *
        generalize (ixD : D → D → Option D) = ix at *
        generalize (inD : D → D → Option D) = iin at *
        subst hB
        simp only [DL.mSeq, DL.mIfS, DL.mTest, DL.mAnd, DL.mOr, DL.mNot, DL.mAndV, DL.mOrV, DL.mNotV, DL.mIf, DL.mChain, DL.mOp, DL.mUn, DL.mCall, DL.mC, DL.mVar, DL.pE, DL.pO, DL.fE, DL.aNil, DL.aCons, DL.mFn, DL.mFnG, DL.mTru, DL.mIsi, DL.mIsiT, DL.mNext, DL.mRet, DL.mRetO, DL.mRetF, DL.mRetN, DL.mDrop, DL.mAsg, DL.mOwn, DL.mAug, DL.mSetL, DL.mMt, DL.mTup, DL.mLstF, DL.mDTF, DL.mDKF, DL.mYes, DL.gNm, DL.gTp, DL.gsNil, DL.gsCons, DL.mFrz, DL.frz, DL.mListF, DL.mListRg2, DL.mListRg1, DL.mFnB, List.map_cons, List.map_nil, DL.flatD, DL.mLcF, DL.okW, DL.wipeR, DL.restR, DL.rngD_len, Int.toNat_natCast, Bool.and_self, Bool.and_true, Bool.true_and, DL.mFor, DL.mRng1, DL.mRng2, DL.mIter, DL.mEnumA, Option.bind_some, Option.bind_none, Option.map_some, Option.map_none, List.getElem?_cons_succ, List.getElem?_cons_zero, List.getElem?_nil, List.set_cons_succ, List.set_cons_zero, DL.Sl.oc, DL.Sl.put, DL.ocAt, DL.putAt, DL.ocFits, DL.isIo, DL.rsv, DL.rsvs, DL.vals, DL.toSl, DL.toSls, DL.back, DL.owns, DL.ocD, DL.fin, DL.runF, DL.runG, DL.runP, DL.runQ, List.length_cons, List.length_nil, List.length_set, List.replicate, List.cons_append, List.nil_append, List.nodup_nil, List.nodup_cons, List.not_mem_nil, not_false_eq_true, and_self, and_true, true_and, if_true, if_false, reduceCtorEq, Bool.false_eq_true, ite_true, ite_false, List.mem_cons, or_false, false_or, DL.addD, DL.subD, DL.iD, DL.cmpD, DL.ltD, DL.leD, DL.gtD, DL.geD, DL.ixD, DL.int1D, DL.int2D, DL.intD, DL.absD, DL.min2D, DL.max2D, DL.lenD, DL.itemsD, DL.tupleD, DL.negD, DL.truD, DL.isD, DL.isNotD, DL.isNone, Bool.not_true, Bool.not_false, Nat.reduceAdd, Nat.reduceSub, Nat.reduceLT, Nat.reduceLeDiff, ↓reduceIte, DL.OC.lst.injEq, DL.mUn, DL.mBindX, DL.kDrop, DL.kRet, DL.kAsg, DL.runX, DL.okX, DL.mSetF, DL.putFD, DL.mSIn, DL.mSGet, DL.mIterS, h1, h2, h3, rsv, mRaise, ocD, vals, List.zip_cons_cons, List.zip_nil_left, List.zip_nil_right, List.reverse_cons, List.reverse_nil, List.nil_append, List.append_nil]
    show forD _ body (.tuple [.int k, odd] :: enumD (k + 1) rest) _ = _
    rw [forD_cons, hg, Option.bind_some, hs, Option.bind_some]
  rw [e2] at e
  generalize ((p.kinds.take k).map kdD ++ odd :: rest) = KS at *
  generalize (lenD : List D → Option D) = ln at *
  simp only [DL.mSeq, DL.mIfS, DL.mTest, DL.mAnd, DL.mOr, DL.mNot, DL.mAndV, DL.mOrV, DL.mNotV, DL.mIf, DL.mChain, DL.mOp, DL.mUn, DL.mCall, DL.mC, DL.mVar, DL.pE, DL.pO, DL.fE, DL.aNil, DL.aCons, DL.mFn, DL.mFnG, DL.mTru, DL.mIsi, DL.mIsiT, DL.mNext, DL.mRet, DL.mRetO, DL.mRetF, DL.mRetN, DL.mDrop, DL.mAsg, DL.mOwn, DL.mAug, DL.mSetL, DL.mMt, DL.mTup, DL.mLstF, DL.mDTF, DL.mDKF, DL.mYes, DL.gNm, DL.gTp, DL.gsNil, DL.gsCons, DL.mFrz, DL.frz, DL.mListF, DL.mListRg2, DL.mListRg1, DL.mFnB, List.map_cons, List.map_nil, DL.flatD, DL.mLcF, DL.okW, DL.wipeR, DL.restR, DL.rngD_len, Int.toNat_natCast, Bool.and_self, Bool.and_true, Bool.true_and, DL.mFor, DL.mRng1, DL.mRng2, DL.mIter, DL.mEnumA, Option.bind_some, Option.bind_none, Option.map_some, Option.map_none, List.getElem?_cons_succ, List.getElem?_cons_zero, List.getElem?_nil, List.set_cons_succ, List.set_cons_zero, DL.Sl.oc, DL.Sl.put, DL.ocAt, DL.putAt, DL.ocFits, DL.isIo, DL.rsv, DL.rsvs, DL.vals, DL.toSl, DL.toSls, DL.back, DL.owns, DL.ocD, DL.fin, DL.runF, DL.runG, DL.runP, DL.runQ, List.length_cons, List.length_nil, List.length_set, List.replicate, List.cons_append, List.nil_append, List.nodup_nil, List.nodup_cons, List.not_mem_nil, not_false_eq_true, and_self, and_true, true_and, if_true, if_false, reduceCtorEq, Bool.false_eq_true, ite_true, ite_false, List.mem_cons, or_false, false_or, DL.addD, DL.subD, DL.iD, DL.cmpD, DL.ltD, DL.leD, DL.gtD, DL.geD, DL.ixD, DL.int1D, DL.int2D, DL.intD, DL.absD, DL.min2D, DL.max2D, DL.lenD, DL.itemsD, DL.tupleD, DL.negD, DL.truD, DL.isD, DL.isNotD, DL.isNone, Bool.not_true, Bool.not_false, Nat.reduceAdd, Nat.reduceSub, Nat.reduceLT, Nat.reduceLeDiff, ↓reduceIte, DL.OC.lst.injEq, DL.mUn, DL.mBindX, DL.kDrop, DL.kRet, DL.kAsg, DL.runX, DL.okX, DL.mSetF, DL.putFD, DL.mSIn, DL.mSGet, DL.mIterS, hrow, hl, d1, d2, e]
theorem orders_to {p : Pt} (v : Pv p) {W : D} {body : MS} (hB : (mIfS (mNot (mTru (pE (mFn F_is_order (aCons (pE (mVar 3)) (aCons (pE (mVar 1)) aNil)))))) (mRaise "BadOrders" ["value"] [] (aCons (pE (mVar 2)) aNil)) mNext : MS) = body) (T : List D) :
    ∀ (qs : List (Str × Int)) (i : Nat) (u2 u3 : Sl), (∀ q ∈ qs, q ∈ p.orders) → ((u2 = .no ∧ u3 = .no) ∨ ∃ a b, u2 = .sh a ∧ u3 = .sh b) →
      ∃ v2 v3, ((v2 = .no ∧ v3 = .no) ∨ ∃ a b, v2 = .sh a ∧ v3 = .sh b) ∧ forD (gTp 2 (gsCons (gNm 2) (gsCons (gNm 3) gsNil))) body (enumD i (qs.map odD ++ T)) [.sh W, .sh (.dict (knL p)), u2, u3] = forD (gTp 2 (gsCons (gNm 2) (gsCons (gNm 3) gsNil))) body (enumD (i + qs.length) T) [.sh W, .sh (.dict (knL p)), v2, v3]
  | [], i, u2, u3, _, hu => ⟨u2, u3, hu, rfl⟩
  | q :: qs, i, u2, u3, hq, hu => by
    obtain ⟨v2, v3, hv, e⟩ := orders_to v (W := W) hB T qs (i + 1) (.sh (.int i)) (.sh (odD q)) (fun x hx => hq x (List.mem_cons_of_mem _ hx)) (.inr ⟨_, _, rfl, rfl⟩)
    refine ⟨v2, v3, hv, ?_⟩
    have h1 := order_ok v (hq q (List.mem_cons_self ..))
    have hs : body [.sh W, .sh (.dict (knL p)), .sh (.int i), .sh (odD q)] = some (.nx [.sh W, .sh (.dict (knL p)), .sh (.int i), .sh (odD q)]) := by
      generalize odD q = OD at *
      generalize knL p = KN at *
      subst hB
      simp only [DL.mSeq, DL.mIfS, DL.mTest, DL.mAnd, DL.mOr, DL.mNot, DL.mAndV, DL.mOrV, DL.mNotV, DL.mIf, DL.mChain, DL.mOp, DL.mUn, DL.mCall, DL.mC, DL.mVar, DL.pE, DL.pO, DL.fE, DL.aNil, DL.aCons, DL.mFn, DL.mFnG, DL.mTru, DL.mIsi, DL.mIsiT, DL.mNext, DL.mRet, DL.mRetO, DL.mRetF, DL.mRetN, DL.mDrop, DL.mAsg, DL.mOwn, DL.mAug, DL.mSetL, DL.mMt, DL.mTup, DL.mLstF, DL.mDTF, DL.mDKF, DL.mYes, DL.gNm, DL.gTp, DL.gsNil, DL.gsCons, DL.mFrz, DL.frz, DL.mListF, DL.mListRg2, DL.mListRg1, DL.mFnB, List.map_cons, List.map_nil, DL.flatD, DL.mLcF, DL.okW, DL.wipeR, DL.restR, DL.rngD_len, Int.toNat_natCast, Bool.and_self, Bool.and_true, Bool.true_and, DL.mFor, DL.mRng1, DL.mRng2, DL.mIter, DL.mEnumA, Option.bind_some, Option.bind_none, Option.map_some, Option.map_none, List.getElem?_cons_succ, List.getElem?_cons_zero, List.getElem?_nil, List.set_cons_succ, List.set_cons_zero, DL.Sl.oc, DL.Sl.put, DL.ocAt, DL.putAt, DL.ocFits, DL.isIo, DL.rsv, DL.rsvs, DL.vals, DL.toSl, DL.toSls, DL.back, DL.owns, DL.ocD, DL.fin, DL.runF, DL.runG, DL.runP, DL.runQ, List.length_cons, List.length_nil, List.length_set, List.replicate, List.cons_append, List.nil_append, List.nodup_nil, List.nodup_cons, List.not_mem_nil, not_false_eq_true, and_self, and_true, true_and, if_true, if_false, reduceCtorEq, Bool.false_eq_true, ite_true, ite_false, List.mem_cons, or_false, false_or, DL.addD, DL.subD, DL.iD, DL.cmpD, DL.ltD, DL.leD, DL.gtD, DL.geD, DL.ixD, DL.int1D, DL.int2D, DL.intD, DL.absD, DL.min2D, DL.max2D, DL.lenD, DL.itemsD, DL.tupleD, DL.negD, DL.truD, DL.isD, DL.isNotD, DL.isNone, Bool.not_true, Bool.not_false, Nat.reduceAdd, Nat.reduceSub, Nat.reduceLT, Nat.reduceLeDiff, ↓reduceIte, DL.OC.lst.injEq, DL.mUn, DL.mBindX, DL.kDrop, DL.kRet, DL.kAsg, DL.runX, DL.okX, DL.mSetF, DL.putFD, DL.mSIn, DL.mSGet, DL.mIterS, h1]
    have hg : gTp 2 (gsCons (gNm 2) (gsCons (gNm 3) gsNil)) (.tuple [.int i, odD q]) [.sh W, .sh (.dict (knL p)), u2, u3] = some [.sh W, .sh (.dict (knL p)), .sh (.int i), .sh (odD q)] := by
      rcases hu with ⟨rfl, rfl⟩ | ⟨_, _, rfl, rfl⟩ <;> rfl
    show forD _ body (.tuple [.int i, odD q] :: enumD (i + 1) (qs.map odD ++ T)) _ = _
    rw [forD_cons, hg, Option.bind_some, hs, Option.bind_some]
    rw [show i + (q :: qs).length = i + 1 + qs.length by rw [List.length_cons]; omega]
    exact e
theorem orders_at {p : Pt} (v : Pv p) {k : Nat} (hk : k < p.orders.length) {odd : D} {rest : List D} (hr : rest.length + k + 1 ≤ 5)
    (h : F_is_order [.sh odd, .sh (.dict (knL p))] = some (.bool false, [.sh odd, .sh (.dict (knL p))])) :
    F_check_orders [.sh (.list ((p.orders.take k).map odD ++ odd :: rest)), .sh (.dict (knL p))] = some (.exc "BadOrders" [("value", .int k)], [.sh (.list ((p.orders.take k).map odD ++ odd :: rest)), .sh (.dict (knL p))]) := by
  have hlen : ((p.orders.take k).map odD ++ odd :: rest).length = k + 1 + rest.length := by
    rw [List.length_append, List.length_map, List.length_take, List.length_cons]; omega
  have hrow := row_lst ((p.orders.take k).map odD ++ odd :: rest)
  have hl : lenD [.list ((p.orders.take k).map odD ++ odd :: rest)] = some (.int ((k + 1 + rest.length : Nat) : Int)) := by show some (PyData.int (((p.orders.take k).map odD ++ odd :: rest).length : Nat)) = _; rw [hlen]
  have d1 : decide ((1 : Int) ≤ ((k + 1 + rest.length : Nat) : Int)) = true := decide_eq_true (by omega)
  have d2 : decide (((k + 1 + rest.length : Nat) : Int) ≤ 5) = true := decide_eq_true (by omega)
  unfold F_check_orders b_check_orders
  generalize hB : (mIfS (mNot (mTru (pE (mFn F_is_order _)))) _ _ : MS) = body
  obtain ⟨v2, v3, hv, e⟩ := orders_to v (W := .list ((p.orders.take k).map odD ++ odd :: rest)) hB (odd :: rest) (p.orders.take k) 0 .no .no (fun q hq => List.mem_of_mem_take hq) (.inl ⟨rfl, rfl⟩)
  rw [show 0 + (p.orders.take k).length = k by rw [List.length_take]; omega] at e
  have e2 : forD (gTp 2 (gsCons (gNm 2) (gsCons (gNm 3) gsNil))) body (enumD k (odd :: rest)) [.sh (.list ((p.orders.take k).map odD ++ odd :: rest)), .sh (.dict (knL p)), v2, v3] =
      some (.ex "BadOrders" [("value", .int k)] [.sh (.list ((p.orders.take k).map odD ++ odd :: rest)), .sh (.dict (knL p)), .sh (.int k), .sh odd]) := by
    generalize PyData.list ((p.orders.take k).map odD ++ odd :: rest) = W at *
    generalize knL p = KN at *
    have hg : gTp 2 (gsCons (gNm 2) (gsCons (gNm 3) gsNil)) (.tuple [.int k, odd]) [.sh W, .sh (.dict KN), v2, v3] = some [.sh W, .sh (.dict KN), .sh (.int k), .sh odd] := by
      rcases hv with ⟨rfl, rfl⟩ | ⟨_, _, rfl, rfl⟩ <;> rfl
    have hs : body [.sh W, .sh (.dict KN), .sh (.int k), .sh odd] = some (.ex "BadOrders" [("value", .int k)] [.sh W, .sh (.dict KN), .sh (.int k), .sh odd]) := by
      subst hB
      simp only [DL.mSeq, DL.mIfS, DL.mTest, DL.mAnd, DL.mOr, DL.mNot, DL.mAndV, DL.mOrV, DL.mNotV, DL.mIf, DL.mChain, DL.mOp, DL.mUn, DL.mCall, DL.mC, DL.mVar, DL.pE, DL.pO, DL.fE, DL.aNil, DL.aCons, DL.mFn, DL.mFnG, DL.mTru, DL.mIsi, DL.mIsiT, DL.mNext, DL.mRet, DL.mRetO, DL.mRetF, DL.mRetN, DL.mDrop, DL.mAsg, DL.mOwn, DL.mAug, DL.mSetL, DL.mMt, DL.mTup, DL.mLstF, DL.mDTF, DL.mDKF, DL.mYes, DL.gNm, DL.gTp, DL.gsNil, DL.gsCons, DL.mFrz, DL.frz, DL.mListF, DL.mListRg2, DL.mListRg1, DL.mFnB, List.map_cons, List.map_nil, DL.flatD, DL.mLcF, DL.okW, DL.wipeR, DL.restR, DL.rngD_len, Int.toNat_natCast, Bool.and_self, Bool.and_true, Bool.true_and, DL.mFor, DL.mRng1, DL.mRng2, DL.mIter, DL.mEnumA, Option.bind_some, Option.bind_none, Option.map_some, Option.map_none, List.getElem?_cons_succ, List.getElem?_cons_zero, List.getElem?_nil, List.set_cons_succ, List.set_cons_zero, DL.Sl.oc, DL.Sl.put, DL.ocAt, DL.putAt, DL.ocFits, DL.isIo, DL.rsv, DL.rsvs, DL.vals, DL.toSl, DL.toSls, DL.back, DL.owns, DL.ocD, DL.fin, DL.runF, DL.runG, DL.runP, DL.runQ, List.length_cons, List.length_nil, List.length_set, List.replicate, List.cons_append, List.nil_append, List.nodup_nil, List.nodup_cons, List.not_mem_nil, not_false_eq_true, and_self, and_true, true_and, if_true, if_false, reduceCtorEq, Bool.false_eq_true, ite_true, ite_false, List.mem_cons, or_false, false_or, DL.addD, DL.subD, DL.iD, DL.cmpD, DL.ltD, DL.leD, DL.gtD, DL.geD, DL.ixD, DL.int1D, DL.int2D, DL.intD, DL.absD, DL.min2D, DL.max2D, DL.lenD, DL.itemsD, DL.tupleD, DL.negD, DL.truD, DL.isD, DL.isNotD, DL.isNone, Bool.not_true, Bool.not_false, Nat.reduceAdd, Nat.reduceSub, Nat.reduceLT, Nat.reduceLeDiff, ↓reduceIte, DL.OC.lst.injEq, DL.mUn, DL.mBindX, DL.kDrop, DL.kRet, DL.kAsg, DL.runX, DL.okX, DL.mSetF, DL.putFD, DL.mSIn, DL.mSGet, DL.mIterS, h, rsv, mRaise, ocD, vals, List.zip_cons_cons, List.zip_nil_left, List.zip_nil_right, List.reverse_cons, List.reverse_nil, List.nil_append, List.append_nil]
    show forD _ body (.tuple [.int k, odd] :: enumD (k + 1) rest) _ = _
    rw [forD_cons, hg, Option.bind_some, hs, Option.bind_some]
  rw [e2] at e
  generalize ((p.orders.take k).map odD ++ odd :: rest) = OS at *
  generalize knL p = KN at *
  generalize (lenD : List D → Option D) = ln at *
  simp only [DL.mSeq, DL.mIfS, DL.mTest, DL.mAnd, DL.mOr, DL.mNot, DL.mAndV, DL.mOrV, DL.mNotV, DL.mIf, DL.mChain, DL.mOp, DL.mUn, DL.mCall, DL.mC, DL.mVar, DL.pE, DL.pO, DL.fE, DL.aNil, DL.aCons, DL.mFn, DL.mFnG, DL.mTru, DL.mIsi, DL.mIsiT, DL.mNext, DL.mRet, DL.mRetO, DL.mRetF, DL.mRetN, DL.mDrop, DL.mAsg, DL.mOwn, DL.mAug, DL.mSetL, DL.mMt, DL.mTup, DL.mLstF, DL.mDTF, DL.mDKF, DL.mYes, DL.gNm, DL.gTp, DL.gsNil, DL.gsCons, DL.mFrz, DL.frz, DL.mListF, DL.mListRg2, DL.mListRg1, DL.mFnB, List.map_cons, List.map_nil, DL.flatD, DL.mLcF, DL.okW, DL.wipeR, DL.restR, DL.rngD_len, Int.toNat_natCast, Bool.and_self, Bool.and_true, Bool.true_and, DL.mFor, DL.mRng1, DL.mRng2, DL.mIter, DL.mEnumA, Option.bind_some, Option.bind_none, Option.map_some, Option.map_none, List.getElem?_cons_succ, List.getElem?_cons_zero, List.getElem?_nil, List.set_cons_succ, List.set_cons_zero, DL.Sl.oc, DL.Sl.put, DL.ocAt, DL.putAt, DL.ocFits, DL.isIo, DL.rsv, DL.rsvs, DL.vals, DL.toSl, DL.toSls, DL.back, DL.owns, DL.ocD, DL.fin, DL.runF, DL.runG, DL.runP, DL.runQ, List.length_cons, List.length_nil, List.length_set, List.replicate, List.cons_append, List.nil_append, List.nodup_nil, List.nodup_cons, List.not_mem_nil, not_false_eq_true, and_self, and_true, true_and, if_true, if_false, reduceCtorEq, Bool.false_eq_true, ite_true, ite_false, List.mem_cons, or_false, false_or, DL.addD, DL.subD, DL.iD, DL.cmpD, DL.ltD, DL.leD, DL.gtD, DL.geD, DL.ixD, DL.int1D, DL.int2D, DL.intD, DL.absD, DL.min2D, DL.max2D, DL.lenD, DL.itemsD, DL.tupleD, DL.negD, DL.truD, DL.isD, DL.isNotD, DL.isNone, Bool.not_true, Bool.not_false, Nat.reduceAdd, Nat.reduceSub, Nat.reduceLT, Nat.reduceLeDiff, ↓reduceIte, DL.OC.lst.injEq, DL.mUn, DL.mBindX, DL.kDrop, DL.kRet, DL.kAsg, DL.runX, DL.okX, DL.mSetF, DL.putFD, DL.mSIn, DL.mSGet, DL.mIterS, hrow, hl, d1, d2, e]
theorem check_orders_okL {p : Pt} (v : Pv p) : F_check_orders [.sh (.list (p.orders.map odD)), .sh (.dict (knL p))] = some (.ret .none, [.sh (.list (p.orders.map odD)), .sh (.dict (knL p))]) := by
  obtain ⟨l1, l4⟩ := v.ol
  have hr := row_lst (p.orders.map odD)
  have hl : lenD [.list (p.orders.map odD)] = some (.int (p.orders.length : Nat)) := by show some (PyData.int ((p.orders.map odD).length : Nat)) = _; rw [List.length_map]
  have d1 : decide ((1 : Int) ≤ (p.orders.length : Nat)) = true := decide_eq_true (by omega)
  have d2 : decide (((p.orders.length : Nat) : Int) ≤ 5) = true := decide_eq_true (by omega)
  unfold F_check_orders b_check_orders
  generalize hB : (mIfS (mNot (mTru (pE (mFn F_is_order _)))) _ _ : MS) = body
  obtain ⟨ρ', e, v2, v3, rfl, _⟩ := forD_inv (g := gTp 2 (gsCons (gNm 2) (gsCons (gNm 3) gsNil))) (b := body) (fun ρ => ∃ u2 u3, ρ = [.sh (.list (p.orders.map odD)), .sh (.dict (knL p)), u2, u3] ∧ ((u2 = .no ∧ u3 = .no) ∨ ∃ a b, u2 = .sh a ∧ u3 = .sh b)) (enumD 0 (p.orders.map odD)) [.sh (.list (p.orders.map odD)), .sh (.dict (knL p)), .no, .no] ⟨_, _, rfl, .inl ⟨rfl, rfl⟩⟩ fun d hd ρ ⟨u2, u3, e, hu⟩ => by
    subst e
    obtain ⟨j, x, rfl, hx⟩ := enumD_mem _ _ _ hd
    obtain ⟨q, hq, rfl⟩ := List.mem_map.mp hx
    have h1 := order_ok v hq
    refine ⟨[.sh (.list (p.orders.map odD)), .sh (.dict (knL p)), .sh (.int j), .sh (odD q)], [.sh (.list (p.orders.map odD)), .sh (.dict (knL p)), .sh (.int j), .sh (odD q)], ?_, ?_, _, _, rfl, .inr ⟨_, _, rfl, rfl⟩⟩
    · rcases hu with ⟨rfl, rfl⟩ | ⟨_, _, rfl, rfl⟩ <;> rfl
    · generalize odD q = OD at *
      generalize knL p = KN at *
      subst hB
      simp only [DL.mSeq, DL.mIfS, DL.mTest, DL.mAnd, DL.mOr, DL.mNot, DL.mAndV, DL.mOrV, DL.mNotV, DL.mIf, DL.mChain, DL.mOp, DL.mUn, DL.mCall, DL.mC, DL.mVar, DL.pE, DL.pO, DL.fE, DL.aNil, DL.aCons, DL.mFn, DL.mFnG, DL.mTru, DL.mIsi, DL.mIsiT, DL.mNext, DL.mRet, DL.mRetO, DL.mRetF, DL.mRetN, DL.mDrop, DL.mAsg, DL.mOwn, DL.mAug, DL.mSetL, DL.mMt, DL.mTup, DL.mLstF, DL.mDTF, DL.mDKF, DL.mYes, DL.gNm, DL.gTp, DL.gsNil, DL.gsCons, DL.mFrz, DL.frz, DL.mListF, DL.mListRg2, DL.mListRg1, DL.mFnB, List.map_cons, List.map_nil, DL.flatD, DL.mLcF, DL.okW, DL.wipeR, DL.restR, DL.rngD_len, Int.toNat_natCast, Bool.and_self, Bool.and_true, Bool.true_and, DL.mFor, DL.mRng1, DL.mRng2, DL.mIter, DL.mEnumA, Option.bind_some, Option.bind_none, Option.map_some, Option.map_none, List.getElem?_cons_succ, List.getElem?_cons_zero, List.getElem?_nil, List.set_cons_succ, List.set_cons_zero, DL.Sl.oc, DL.Sl.put, DL.ocAt, DL.putAt, DL.ocFits, DL.isIo, DL.rsv, DL.rsvs, DL.vals, DL.toSl, DL.toSls, DL.back, DL.owns, DL.ocD, DL.fin, DL.runF, DL.runG, DL.runP, DL.runQ, List.length_cons, List.length_nil, List.length_set, List.replicate, List.cons_append, List.nil_append, List.nodup_nil, List.nodup_cons, List.not_mem_nil, not_false_eq_true, and_self, and_true, true_and, if_true, if_false, reduceCtorEq, Bool.false_eq_true, ite_true, ite_false, List.mem_cons, or_false, false_or, DL.addD, DL.subD, DL.iD, DL.cmpD, DL.ltD, DL.leD, DL.gtD, DL.geD, DL.ixD, DL.int1D, DL.int2D, DL.intD, DL.absD, DL.min2D, DL.max2D, DL.lenD, DL.itemsD, DL.tupleD, DL.negD, DL.truD, DL.isD, DL.isNotD, DL.isNone, Bool.not_true, Bool.not_false, Nat.reduceAdd, Nat.reduceSub, Nat.reduceLT, Nat.reduceLeDiff, ↓reduceIte, DL.OC.lst.injEq, DL.mUn, DL.mBindX, DL.kDrop, DL.kRet, DL.kAsg, DL.runX, DL.okX, DL.mSetF, DL.putFD, DL.mSIn, DL.mSGet, DL.mIterS, h1]
  generalize p.orders.map odD = OS at *
  generalize (lenD : List D → Option D) = ln at *
  simp only [DL.mSeq, DL.mIfS, DL.mTest, DL.mAnd, DL.mOr, DL.mNot, DL.mAndV, DL.mOrV, DL.mNotV, DL.mIf, DL.mChain, DL.mOp, DL.mUn, DL.mCall, DL.mC, DL.mVar, DL.pE, DL.pO, DL.fE, DL.aNil, DL.aCons, DL.mFn, DL.mFnG, DL.mTru, DL.mIsi, DL.mIsiT, DL.mNext, DL.mRet, DL.mRetO, DL.mRetF, DL.mRetN, DL.mDrop, DL.mAsg, DL.mOwn, DL.mAug, DL.mSetL, DL.mMt, DL.mTup, DL.mLstF, DL.mDTF, DL.mDKF, DL.mYes, DL.gNm, DL.gTp, DL.gsNil, DL.gsCons, DL.mFrz, DL.frz, DL.mListF, DL.mListRg2, DL.mListRg1, DL.mFnB, List.map_cons, List.map_nil, DL.flatD, DL.mLcF, DL.okW, DL.wipeR, DL.restR, DL.rngD_len, Int.toNat_natCast, Bool.and_self, Bool.and_true, Bool.true_and, DL.mFor, DL.mRng1, DL.mRng2, DL.mIter, DL.mEnumA, Option.bind_some, Option.bind_none, Option.map_some, Option.map_none, List.getElem?_cons_succ, List.getElem?_cons_zero, List.getElem?_nil, List.set_cons_succ, List.set_cons_zero, DL.Sl.oc, DL.Sl.put, DL.ocAt, DL.putAt, DL.ocFits, DL.isIo, DL.rsv, DL.rsvs, DL.vals, DL.toSl, DL.toSls, DL.back, DL.owns, DL.ocD, DL.fin, DL.runF, DL.runG, DL.runP, DL.runQ, List.length_cons, List.length_nil, List.length_set, List.replicate, List.cons_append, List.nil_append, List.nodup_nil, List.nodup_cons, List.not_mem_nil, not_false_eq_true, and_self, and_true, true_and, if_true, if_false, reduceCtorEq, Bool.false_eq_true, ite_true, ite_false, List.mem_cons, or_false, false_or, DL.addD, DL.subD, DL.iD, DL.cmpD, DL.ltD, DL.leD, DL.gtD, DL.geD, DL.ixD, DL.int1D, DL.int2D, DL.intD, DL.absD, DL.min2D, DL.max2D, DL.lenD, DL.itemsD, DL.tupleD, DL.negD, DL.truD, DL.isD, DL.isNotD, DL.isNone, Bool.not_true, Bool.not_false, Nat.reduceAdd, Nat.reduceSub, Nat.reduceLT, Nat.reduceLeDiff, ↓reduceIte, DL.OC.lst.injEq, DL.mUn, DL.mBindX, DL.kDrop, DL.kRet, DL.kAsg, DL.runX, DL.okX, DL.mSetF, DL.putFD, DL.mSIn, DL.mSGet, DL.mIterS, hr, hl, d1, d2, e]
theorem init_okL {p : Pt} (v : Pv p) : F_Night_init [.io (.ins "Night" []), .sh (.int p.hands), .sh (.int p.ovens), .sh (.tuple (p.kinds.map kdD)), .sh (.list (p.orders.map odD)), .sh (.tuple [.int p.b0, .int p.b1, .int p.b2]), .sh (.int p.repair)] =
    some (.ret .none, [.io (.ins "Night" (ntF p)), .sh (.int p.hands), .sh (.int p.ovens), .sh (.tuple (p.kinds.map kdD)), .sh (.list (p.orders.map odD)), .sh (.tuple [.int p.b0, .int p.b1, .int p.b2]), .sh (.int p.repair)]) := by
  have c1 := check_hands_ok v.h
  have c2 := check_ovens_ok v.o
  have c3 := check_kinds_ok v
  have c4 := check_orders_okL v
  have c5 := check_budgets_ok v.b.1 v.b.2.1 v.b.2.2
  have c6 := check_repair_ok v.r
  obtain ⟨l1, l4⟩ := kn_len v
  have hk5 : (p.kinds.map kdD).length ≤ 50000 := by rw [List.length_map]; omega
  have ho5 : (p.orders.map odD).length ≤ 50000 := by have := v.ol; rw [List.length_map]; omega
  unfold F_Night_init b_Night_init
  generalize hMK : (mOp ixD (pE (mVar 8)) (pE (mC (.int 0))) : ME) = mk
  have kl := known_loop (mk := mk) (vs := [8]) (g := gNm 8) (mv := mVar 8) (ρ := [.io (.ins "Night" []), .sh (.int p.hands), .sh (.int p.ovens), .sh (.tuple (p.kinds.map kdD)), .sh (.list (p.orders.map odD)), .sh (.tuple [.int p.b0, .int p.b1, .int p.b2]), .sh (.int p.repair), .no, .no, .no, .no]) (fun k => by
    have i0 := (kd_ix k).1
    refine ⟨[.io (.ins "Night" []), .sh (.int p.hands), .sh (.int p.ovens), .sh (.tuple (p.kinds.map kdD)), .sh (.list (p.orders.map odD)), .sh (.tuple [.int p.b0, .int p.b1, .int p.b2]), .sh (.int p.repair), .no, .sh (kdD k), .no, .no], rfl, ?_, rfl, rfl, rfl⟩
    generalize kdD k = KD at *
    generalize (ixD : D → D → Option D) = ix at *
    subst hMK
    simp only [DL.mSeq, DL.mIfS, DL.mTest, DL.mAnd, DL.mOr, DL.mNot, DL.mAndV, DL.mOrV, DL.mNotV, DL.mIf, DL.mChain, DL.mOp, DL.mUn, DL.mCall, DL.mC, DL.mVar, DL.pE, DL.pO, DL.fE, DL.aNil, DL.aCons, DL.mFn, DL.mFnG, DL.mTru, DL.mIsi, DL.mIsiT, DL.mNext, DL.mRet, DL.mRetO, DL.mRetF, DL.mRetN, DL.mDrop, DL.mAsg, DL.mOwn, DL.mAug, DL.mSetL, DL.mMt, DL.mTup, DL.mLstF, DL.mDTF, DL.mDKF, DL.mYes, DL.gNm, DL.gTp, DL.gsNil, DL.gsCons, DL.mFrz, DL.frz, DL.mListF, DL.mListRg2, DL.mListRg1, DL.mFnB, List.map_cons, List.map_nil, DL.flatD, DL.mLcF, DL.okW, DL.wipeR, DL.restR, DL.rngD_len, Int.toNat_natCast, Bool.and_self, Bool.and_true, Bool.true_and, DL.mFor, DL.mRng1, DL.mRng2, DL.mIter, DL.mEnumA, Option.bind_some, Option.bind_none, Option.map_some, Option.map_none, List.getElem?_cons_succ, List.getElem?_cons_zero, List.getElem?_nil, List.set_cons_succ, List.set_cons_zero, DL.Sl.oc, DL.Sl.put, DL.ocAt, DL.putAt, DL.ocFits, DL.isIo, DL.rsv, DL.rsvs, DL.vals, DL.toSl, DL.toSls, DL.back, DL.owns, DL.ocD, DL.fin, DL.runF, DL.runG, DL.runP, DL.runQ, List.length_cons, List.length_nil, List.length_set, List.replicate, List.cons_append, List.nil_append, List.nodup_nil, List.nodup_cons, List.not_mem_nil, not_false_eq_true, and_self, and_true, true_and, if_true, if_false, reduceCtorEq, Bool.false_eq_true, ite_true, ite_false, List.mem_cons, or_false, false_or, DL.addD, DL.subD, DL.iD, DL.cmpD, DL.ltD, DL.leD, DL.gtD, DL.geD, DL.ixD, DL.int1D, DL.int2D, DL.intD, DL.absD, DL.min2D, DL.max2D, DL.lenD, DL.itemsD, DL.tupleD, DL.negD, DL.truD, DL.isD, DL.isNotD, DL.isNone, Bool.not_true, Bool.not_false, Nat.reduceAdd, Nat.reduceSub, Nat.reduceLT, Nat.reduceLeDiff, ↓reduceIte, DL.OC.lst.injEq, DL.mUn, DL.mBindX, DL.kDrop, DL.kRet, DL.kAsg, DL.runX, DL.okX, DL.mSetF, DL.putFD, DL.mSIn, DL.mSGet, DL.mIterS, i0]) p.kinds [] (by
      obtain ⟨n, _, _, e⟩ := v.kn
      have : (p.kinds.map fun k : Kd => (Sum.inr k.name : Key)) = (names4.take n).map Sum.inr := by rw [← e, List.map_map]; rfl
      rw [this]
      refine List.pairwise_map.mpr ((nodup4 n).imp fun h z => h ?_)
      cases z; rfl) (by simp; omega)
  rw [List.nil_append] at kl
  have hkn : (p.kinds.map fun k : Kd => ((Sum.inr k.name : Key), kdD k)).map (fun kv => (keyD kv.1, kv.2)) = knL p := by rw [List.map_map]; rfl
  generalize (p.kinds.map fun k : Kd => ((Sum.inr k.name : Key), kdD k)) = KV at *
  -- own
  generalize hEL : (mSGet (mVar 7) (mVar 9) : ME) = el
  generalize hGG : (gTp 2 (gsCons (gNm 9) (gsCons (gNm 10) gsNil)) : MG) = gg
  have ow : ∀ fs : List (Str × D), compD [9, 10] gg mYes el (p.orders.map odD) [.io (.ins "Night" fs), .sh (.int p.hands), .sh (.int p.ovens), .sh (.tuple (p.kinds.map kdD)), .sh (.list (p.orders.map odD)), .sh (.tuple [.int p.b0, .int p.b1, .int p.b2]), .sh (.int p.repair), .sh (.dict (knL p)), .no, .no, .no] =
      some ((ownK p).map kdD, [.io (.ins "Night" fs), .sh (.int p.hands), .sh (.int p.ovens), .sh (.tuple (p.kinds.map kdD)), .sh (.list (p.orders.map odD)), .sh (.tuple [.int p.b0, .int p.b1, .int p.b2]), .sh (.int p.repair), .sh (.dict (knL p)), .no, .no, .no]) := fun fs => by
    unfold ownK
    rw [List.map_map]
    refine compD_mapA odD (fun q => kdD (kindOf p q.1)) p.orders fun q hq => ⟨[.io (.ins "Night" fs), .sh (.int p.hands), .sh (.int p.ovens), .sh (.tuple (p.kinds.map kdD)), .sh (.list (p.orders.map odD)), .sh (.tuple [.int p.b0, .int p.b1, .int p.b2]), .sh (.int p.repair), .sh (.dict (knL p)), .no, .sh (.str q.1), .sh (.int q.2)], ?_, ?_, rfl, rfl⟩
    · subst hGG; rfl
    · have g := sget_known v (v.os q hq).1
      generalize knL p = KN at *
      subst hEL
      simp only [DL.mSeq, DL.mIfS, DL.mTest, DL.mAnd, DL.mOr, DL.mNot, DL.mAndV, DL.mOrV, DL.mNotV, DL.mIf, DL.mChain, DL.mOp, DL.mUn, DL.mCall, DL.mC, DL.mVar, DL.pE, DL.pO, DL.fE, DL.aNil, DL.aCons, DL.mFn, DL.mFnG, DL.mTru, DL.mIsi, DL.mIsiT, DL.mNext, DL.mRet, DL.mRetO, DL.mRetF, DL.mRetN, DL.mDrop, DL.mAsg, DL.mOwn, DL.mAug, DL.mSetL, DL.mMt, DL.mTup, DL.mLstF, DL.mDTF, DL.mDKF, DL.mYes, DL.gNm, DL.gTp, DL.gsNil, DL.gsCons, DL.mFrz, DL.frz, DL.mListF, DL.mListRg2, DL.mListRg1, DL.mFnB, List.map_cons, List.map_nil, DL.flatD, DL.mLcF, DL.okW, DL.wipeR, DL.restR, DL.rngD_len, Int.toNat_natCast, Bool.and_self, Bool.and_true, Bool.true_and, DL.mFor, DL.mRng1, DL.mRng2, DL.mIter, DL.mEnumA, Option.bind_some, Option.bind_none, Option.map_some, Option.map_none, List.getElem?_cons_succ, List.getElem?_cons_zero, List.getElem?_nil, List.set_cons_succ, List.set_cons_zero, DL.Sl.oc, DL.Sl.put, DL.ocAt, DL.putAt, DL.ocFits, DL.isIo, DL.rsv, DL.rsvs, DL.vals, DL.toSl, DL.toSls, DL.back, DL.owns, DL.ocD, DL.fin, DL.runF, DL.runG, DL.runP, DL.runQ, List.length_cons, List.length_nil, List.length_set, List.replicate, List.cons_append, List.nil_append, List.nodup_nil, List.nodup_cons, List.not_mem_nil, not_false_eq_true, and_self, and_true, true_and, if_true, if_false, reduceCtorEq, Bool.false_eq_true, ite_true, ite_false, List.mem_cons, or_false, false_or, DL.addD, DL.subD, DL.iD, DL.cmpD, DL.ltD, DL.leD, DL.gtD, DL.geD, DL.ixD, DL.int1D, DL.int2D, DL.intD, DL.absD, DL.min2D, DL.max2D, DL.lenD, DL.itemsD, DL.tupleD, DL.negD, DL.truD, DL.isD, DL.isNotD, DL.isNone, Bool.not_true, Bool.not_false, Nat.reduceAdd, Nat.reduceSub, Nat.reduceLT, Nat.reduceLeDiff, ↓reduceIte, DL.OC.lst.injEq, DL.mUn, DL.mBindX, DL.kDrop, DL.kRet, DL.kAsg, DL.runX, DL.okX, DL.mSetF, DL.putFD, DL.mSIn, DL.mSGet, DL.mIterS, g]
  generalize hS1 : mSetF "Night" 0 "hands" (mVar 1) = S1
  generalize hS2 : mSetF "Night" 0 "ovens" (mVar 2) = S2
  generalize hS3 : mSetF "Night" 0 "kinds" _ = S3
  generalize hS4 : mSetF "Night" 0 "orders" _ = S4
  generalize hS5 : mSetF "Night" 0 "budgets" (mVar 5) = S5
  generalize hS6 : mSetF "Night" 0 "repair" (mVar 6) = S6
  generalize hS7 : mSetF "Night" 0 "own" _ = S7
  have n1 : putFD "hands" (.int p.hands) [] = (ntF p).take 1 := rfl
  have n2 : putFD "ovens" (.int p.ovens) ((ntF p).take 1) = (ntF p).take 2 := putFD_new rfl
  have n3 : putFD "kinds" (.tuple (p.kinds.map kdD)) ((ntF p).take 2) = (ntF p).take 3 := putFD_new rfl
  have n4 : putFD "orders" (.tuple (p.orders.map odD)) ((ntF p).take 3) = (ntF p).take 4 := putFD_new rfl
  have n5 : putFD "budgets" (.tuple [.int p.b0, .int p.b1, .int p.b2]) ((ntF p).take 4) = (ntF p).take 5 := putFD_new rfl
  have n6 : putFD "repair" (.int p.repair) ((ntF p).take 5) = (ntF p).take 6 := putFD_new rfl
  have n7 : putFD "own" (.tuple ((ownK p).map kdD)) ((ntF p).take 6) = ntF p := putFD_new rfl
  have L1 : ((ntF p).take 1).length < 1000 := by show 1 < 1000; omega
  have L2 : ((ntF p).take 2).length < 1000 := by show 2 < 1000; omega
  have L3 : ((ntF p).take 3).length < 1000 := by show 3 < 1000; omega
  have L4 : ((ntF p).take 4).length < 1000 := by show 4 < 1000; omega
  have L5 : ((ntF p).take 5).length < 1000 := by show 5 < 1000; omega
  have L6 : ((ntF p).take 6).length < 1000 := by show 6 < 1000; omega
  generalize (ntF p).take 1 = f1 at *
  generalize (ntF p).take 2 = f2 at *
  generalize (ntF p).take 3 = f3 at *
  generalize (ntF p).take 4 = f4 at *
  generalize (ntF p).take 5 = f5 at *
  generalize (ntF p).take 6 = f6 at *
  generalize ntF p = f7 at *
  generalize (ownK p).map kdD = OW at *
  generalize p.kinds.map kdD = KS at *
  generalize p.orders.map odD = OS at *
  generalize knL p = KN at *
  have t3 : tupleD [.tuple KS] = some (.tuple KS) := rfl
  have t4 : tupleD [.list OS] = some (.tuple OS) := rfl
  have t7 : tupleD [.list OW] = some (.tuple OW) := rfl
  generalize (tupleD : List D → Option D) = tp at *
  have k1 : S1 [.io (.ins "Night" []), .sh (.int p.hands), .sh (.int p.ovens), .sh (.tuple KS), .sh (.list OS), .sh (.tuple [.int p.b0, .int p.b1, .int p.b2]), .sh (.int p.repair), .sh (.dict KN), .no, .no, .no] = some (.nx [.io (.ins "Night" f1), .sh (.int p.hands), .sh (.int p.ovens), .sh (.tuple KS), .sh (.list OS), .sh (.tuple [.int p.b0, .int p.b1, .int p.b2]), .sh (.int p.repair), .sh (.dict KN), .no, .no, .no]) := by
    rw [← hS1]; exact setF0 rfl (by show 0 < 1000; omega) n1
  have k2 : S2 [.io (.ins "Night" f1), .sh (.int p.hands), .sh (.int p.ovens), .sh (.tuple KS), .sh (.list OS), .sh (.tuple [.int p.b0, .int p.b1, .int p.b2]), .sh (.int p.repair), .sh (.dict KN), .no, .no, .no] = some (.nx [.io (.ins "Night" f2), .sh (.int p.hands), .sh (.int p.ovens), .sh (.tuple KS), .sh (.list OS), .sh (.tuple [.int p.b0, .int p.b1, .int p.b2]), .sh (.int p.repair), .sh (.dict KN), .no, .no, .no]) := by
    rw [← hS2]; exact setF0 rfl L1 n2
  have k3 : S3 [.io (.ins "Night" f2), .sh (.int p.hands), .sh (.int p.ovens), .sh (.tuple KS), .sh (.list OS), .sh (.tuple [.int p.b0, .int p.b1, .int p.b2]), .sh (.int p.repair), .sh (.dict KN), .no, .no, .no] = some (.nx [.io (.ins "Night" f3), .sh (.int p.hands), .sh (.int p.ovens), .sh (.tuple KS), .sh (.list OS), .sh (.tuple [.int p.b0, .int p.b1, .int p.b2]), .sh (.int p.repair), .sh (.dict KN), .no, .no, .no]) := by
    rw [← hS3]; exact setF0 (by simp only [DL.mSeq, DL.mIfS, DL.mTest, DL.mAnd, DL.mOr, DL.mNot, DL.mAndV, DL.mOrV, DL.mNotV, DL.mIf, DL.mChain, DL.mOp, DL.mUn, DL.mCall, DL.mC, DL.mVar, DL.pE, DL.pO, DL.fE, DL.aNil, DL.aCons, DL.mFn, DL.mFnG, DL.mTru, DL.mIsi, DL.mIsiT, DL.mNext, DL.mRet, DL.mRetO, DL.mRetF, DL.mRetN, DL.mDrop, DL.mAsg, DL.mOwn, DL.mAug, DL.mSetL, DL.mMt, DL.mTup, DL.mLstF, DL.mDTF, DL.mDKF, DL.mYes, DL.gNm, DL.gTp, DL.gsNil, DL.gsCons, DL.mFrz, DL.frz, DL.mListF, DL.mListRg2, DL.mListRg1, DL.mFnB, List.map_cons, List.map_nil, DL.flatD, DL.mLcF, DL.okW, DL.wipeR, DL.restR, DL.rngD_len, Int.toNat_natCast, Bool.and_self, Bool.and_true, Bool.true_and, DL.mFor, DL.mRng1, DL.mRng2, DL.mIter, DL.mEnumA, Option.bind_some, Option.bind_none, Option.map_some, Option.map_none, List.getElem?_cons_succ, List.getElem?_cons_zero, List.getElem?_nil, List.set_cons_succ, List.set_cons_zero, DL.Sl.oc, DL.Sl.put, DL.ocAt, DL.putAt, DL.ocFits, DL.isIo, DL.rsv, DL.rsvs, DL.vals, DL.toSl, DL.toSls, DL.back, DL.owns, DL.ocD, DL.fin, DL.runF, DL.runG, DL.runP, DL.runQ, List.length_cons, List.length_nil, List.length_set, List.replicate, List.cons_append, List.nil_append, List.nodup_nil, List.nodup_cons, List.not_mem_nil, not_false_eq_true, and_self, and_true, true_and, if_true, if_false, reduceCtorEq, Bool.false_eq_true, ite_true, ite_false, List.mem_cons, or_false, false_or, DL.addD, DL.subD, DL.iD, DL.cmpD, DL.ltD, DL.leD, DL.gtD, DL.geD, DL.ixD, DL.int1D, DL.int2D, DL.intD, DL.absD, DL.min2D, DL.max2D, DL.lenD, DL.itemsD, DL.tupleD, DL.negD, DL.truD, DL.isD, DL.isNotD, DL.isNone, Bool.not_true, Bool.not_false, Nat.reduceAdd, Nat.reduceSub, Nat.reduceLT, Nat.reduceLeDiff, ↓reduceIte, DL.OC.lst.injEq, DL.mUn, DL.mBindX, DL.kDrop, DL.kRet, DL.kAsg, DL.runX, DL.okX, DL.mSetF, DL.putFD, DL.mSIn, DL.mSGet, DL.mIterS, t3]) L2 n3
  have k4 : S4 [.io (.ins "Night" f3), .sh (.int p.hands), .sh (.int p.ovens), .sh (.tuple KS), .sh (.list OS), .sh (.tuple [.int p.b0, .int p.b1, .int p.b2]), .sh (.int p.repair), .sh (.dict KN), .no, .no, .no] = some (.nx [.io (.ins "Night" f4), .sh (.int p.hands), .sh (.int p.ovens), .sh (.tuple KS), .sh (.list OS), .sh (.tuple [.int p.b0, .int p.b1, .int p.b2]), .sh (.int p.repair), .sh (.dict KN), .no, .no, .no]) := by
    rw [← hS4]; exact setF0 (by simp only [DL.mSeq, DL.mIfS, DL.mTest, DL.mAnd, DL.mOr, DL.mNot, DL.mAndV, DL.mOrV, DL.mNotV, DL.mIf, DL.mChain, DL.mOp, DL.mUn, DL.mCall, DL.mC, DL.mVar, DL.pE, DL.pO, DL.fE, DL.aNil, DL.aCons, DL.mFn, DL.mFnG, DL.mTru, DL.mIsi, DL.mIsiT, DL.mNext, DL.mRet, DL.mRetO, DL.mRetF, DL.mRetN, DL.mDrop, DL.mAsg, DL.mOwn, DL.mAug, DL.mSetL, DL.mMt, DL.mTup, DL.mLstF, DL.mDTF, DL.mDKF, DL.mYes, DL.gNm, DL.gTp, DL.gsNil, DL.gsCons, DL.mFrz, DL.frz, DL.mListF, DL.mListRg2, DL.mListRg1, DL.mFnB, List.map_cons, List.map_nil, DL.flatD, DL.mLcF, DL.okW, DL.wipeR, DL.restR, DL.rngD_len, Int.toNat_natCast, Bool.and_self, Bool.and_true, Bool.true_and, DL.mFor, DL.mRng1, DL.mRng2, DL.mIter, DL.mEnumA, Option.bind_some, Option.bind_none, Option.map_some, Option.map_none, List.getElem?_cons_succ, List.getElem?_cons_zero, List.getElem?_nil, List.set_cons_succ, List.set_cons_zero, DL.Sl.oc, DL.Sl.put, DL.ocAt, DL.putAt, DL.ocFits, DL.isIo, DL.rsv, DL.rsvs, DL.vals, DL.toSl, DL.toSls, DL.back, DL.owns, DL.ocD, DL.fin, DL.runF, DL.runG, DL.runP, DL.runQ, List.length_cons, List.length_nil, List.length_set, List.replicate, List.cons_append, List.nil_append, List.nodup_nil, List.nodup_cons, List.not_mem_nil, not_false_eq_true, and_self, and_true, true_and, if_true, if_false, reduceCtorEq, Bool.false_eq_true, ite_true, ite_false, List.mem_cons, or_false, false_or, DL.addD, DL.subD, DL.iD, DL.cmpD, DL.ltD, DL.leD, DL.gtD, DL.geD, DL.ixD, DL.int1D, DL.int2D, DL.intD, DL.absD, DL.min2D, DL.max2D, DL.lenD, DL.itemsD, DL.tupleD, DL.negD, DL.truD, DL.isD, DL.isNotD, DL.isNone, Bool.not_true, Bool.not_false, Nat.reduceAdd, Nat.reduceSub, Nat.reduceLT, Nat.reduceLeDiff, ↓reduceIte, DL.OC.lst.injEq, DL.mUn, DL.mBindX, DL.kDrop, DL.kRet, DL.kAsg, DL.runX, DL.okX, DL.mSetF, DL.putFD, DL.mSIn, DL.mSGet, DL.mIterS, t4]) L3 n4
  have k5 : S5 [.io (.ins "Night" f4), .sh (.int p.hands), .sh (.int p.ovens), .sh (.tuple KS), .sh (.list OS), .sh (.tuple [.int p.b0, .int p.b1, .int p.b2]), .sh (.int p.repair), .sh (.dict KN), .no, .no, .no] = some (.nx [.io (.ins "Night" f5), .sh (.int p.hands), .sh (.int p.ovens), .sh (.tuple KS), .sh (.list OS), .sh (.tuple [.int p.b0, .int p.b1, .int p.b2]), .sh (.int p.repair), .sh (.dict KN), .no, .no, .no]) := by
    rw [← hS5]; exact setF0 rfl L4 n5
  have k6 : S6 [.io (.ins "Night" f5), .sh (.int p.hands), .sh (.int p.ovens), .sh (.tuple KS), .sh (.list OS), .sh (.tuple [.int p.b0, .int p.b1, .int p.b2]), .sh (.int p.repair), .sh (.dict KN), .no, .no, .no] = some (.nx [.io (.ins "Night" f6), .sh (.int p.hands), .sh (.int p.ovens), .sh (.tuple KS), .sh (.list OS), .sh (.tuple [.int p.b0, .int p.b1, .int p.b2]), .sh (.int p.repair), .sh (.dict KN), .no, .no, .no]) := by
    rw [← hS6]; exact setF0 rfl L5 n6
  have k7 : S7 [.io (.ins "Night" f6), .sh (.int p.hands), .sh (.int p.ovens), .sh (.tuple KS), .sh (.list OS), .sh (.tuple [.int p.b0, .int p.b1, .int p.b2]), .sh (.int p.repair), .sh (.dict KN), .no, .no, .no] = some (.nx [.io (.ins "Night" f7), .sh (.int p.hands), .sh (.int p.ovens), .sh (.tuple KS), .sh (.list OS), .sh (.tuple [.int p.b0, .int p.b1, .int p.b2]), .sh (.int p.repair), .sh (.dict KN), .no, .no, .no]) := by
    have ow6 := ow f6
    rw [← hS7]; exact setF0 (by simp only [DL.mSeq, DL.mIfS, DL.mTest, DL.mAnd, DL.mOr, DL.mNot, DL.mAndV, DL.mOrV, DL.mNotV, DL.mIf, DL.mChain, DL.mOp, DL.mUn, DL.mCall, DL.mC, DL.mVar, DL.pE, DL.pO, DL.fE, DL.aNil, DL.aCons, DL.mFn, DL.mFnG, DL.mTru, DL.mIsi, DL.mIsiT, DL.mNext, DL.mRet, DL.mRetO, DL.mRetF, DL.mRetN, DL.mDrop, DL.mAsg, DL.mOwn, DL.mAug, DL.mSetL, DL.mMt, DL.mTup, DL.mLstF, DL.mDTF, DL.mDKF, DL.mYes, DL.gNm, DL.gTp, DL.gsNil, DL.gsCons, DL.mFrz, DL.frz, DL.mListF, DL.mListRg2, DL.mListRg1, DL.mFnB, List.map_cons, List.map_nil, DL.flatD, DL.mLcF, DL.okW, DL.wipeR, DL.restR, DL.rngD_len, Int.toNat_natCast, Bool.and_self, Bool.and_true, Bool.true_and, DL.mFor, DL.mRng1, DL.mRng2, DL.mIter, DL.mEnumA, Option.bind_some, Option.bind_none, Option.map_some, Option.map_none, List.getElem?_cons_succ, List.getElem?_cons_zero, List.getElem?_nil, List.set_cons_succ, List.set_cons_zero, DL.Sl.oc, DL.Sl.put, DL.ocAt, DL.putAt, DL.ocFits, DL.isIo, DL.rsv, DL.rsvs, DL.vals, DL.toSl, DL.toSls, DL.back, DL.owns, DL.ocD, DL.fin, DL.runF, DL.runG, DL.runP, DL.runQ, List.length_cons, List.length_nil, List.length_set, List.replicate, List.cons_append, List.nil_append, List.nodup_nil, List.nodup_cons, List.not_mem_nil, not_false_eq_true, and_self, and_true, true_and, if_true, if_false, reduceCtorEq, Bool.false_eq_true, ite_true, ite_false, List.mem_cons, or_false, false_or, DL.addD, DL.subD, DL.iD, DL.cmpD, DL.ltD, DL.leD, DL.gtD, DL.geD, DL.ixD, DL.int1D, DL.int2D, DL.intD, DL.absD, DL.min2D, DL.max2D, DL.lenD, DL.itemsD, DL.tupleD, DL.negD, DL.truD, DL.isD, DL.isNotD, DL.isNone, Bool.not_true, Bool.not_false, Nat.reduceAdd, Nat.reduceSub, Nat.reduceLT, Nat.reduceLeDiff, ↓reduceIte, DL.OC.lst.injEq, DL.mUn, DL.mBindX, DL.kDrop, DL.kRet, DL.kAsg, DL.runX, DL.okX, DL.mSetF, DL.putFD, DL.mSIn, DL.mSGet, DL.mIterS, ho5, ow6, t7, ocD]) L6 n7
  simp only [DL.mSeq, DL.mIfS, DL.mTest, DL.mAnd, DL.mOr, DL.mNot, DL.mAndV, DL.mOrV, DL.mNotV, DL.mIf, DL.mChain, DL.mOp, DL.mUn, DL.mCall, DL.mC, DL.mVar, DL.pE, DL.pO, DL.fE, DL.aNil, DL.aCons, DL.mFn, DL.mFnG, DL.mTru, DL.mIsi, DL.mIsiT, DL.mNext, DL.mRet, DL.mRetO, DL.mRetF, DL.mRetN, DL.mDrop, DL.mAsg, DL.mOwn, DL.mAug, DL.mSetL, DL.mMt, DL.mTup, DL.mLstF, DL.mDTF, DL.mDKF, DL.mYes, DL.gNm, DL.gTp, DL.gsNil, DL.gsCons, DL.mFrz, DL.frz, DL.mListF, DL.mListRg2, DL.mListRg1, DL.mFnB, List.map_cons, List.map_nil, DL.flatD, DL.mLcF, DL.okW, DL.wipeR, DL.restR, DL.rngD_len, Int.toNat_natCast, Bool.and_self, Bool.and_true, Bool.true_and, DL.mFor, DL.mRng1, DL.mRng2, DL.mIter, DL.mEnumA, Option.bind_some, Option.bind_none, Option.map_some, Option.map_none, List.getElem?_cons_succ, List.getElem?_cons_zero, List.getElem?_nil, List.set_cons_succ, List.set_cons_zero, DL.Sl.oc, DL.Sl.put, DL.ocAt, DL.putAt, DL.ocFits, DL.isIo, DL.rsv, DL.rsvs, DL.vals, DL.toSl, DL.toSls, DL.back, DL.owns, DL.ocD, DL.fin, DL.runF, DL.runG, DL.runP, DL.runQ, List.length_cons, List.length_nil, List.length_set, List.replicate, List.cons_append, List.nil_append, List.nodup_nil, List.nodup_cons, List.not_mem_nil, not_false_eq_true, and_self, and_true, true_and, if_true, if_false, reduceCtorEq, Bool.false_eq_true, ite_true, ite_false, List.mem_cons, or_false, false_or, DL.addD, DL.subD, DL.iD, DL.cmpD, DL.ltD, DL.leD, DL.gtD, DL.geD, DL.ixD, DL.int1D, DL.int2D, DL.intD, DL.absD, DL.min2D, DL.max2D, DL.lenD, DL.itemsD, DL.tupleD, DL.negD, DL.truD, DL.isD, DL.isNotD, DL.isNone, Bool.not_true, Bool.not_false, Nat.reduceAdd, Nat.reduceSub, Nat.reduceLT, Nat.reduceLeDiff, ↓reduceIte, DL.OC.lst.injEq, DL.mUn, DL.mBindX, DL.kDrop, DL.kRet, DL.kAsg, DL.runX, DL.okX, DL.mSetF, DL.putFD, DL.mSIn, DL.mSGet, DL.mIterS, c1, c2, c3, mDcF, hk5, kl, ocD, hkn, c4, c5, c6, k1, k2, k3, k4, k5, k6, k7]
end Lk11
set_option Elab.async false
set_option linter.all false
set_option maxRecDepth 100000
set_option maxHeartbeats 4000000
namespace Lk11
open PySem L2 DL
/-! ### a night is refused -/
theorem known_ok {p : Pt} (v : Pv p) (a b o bu r : D) : mAsg (fE (mDcF (mIter (mVar 3)) [8] (gNm 8) mYes (mOp ixD (pE (mVar 8)) (pE (mC (.int 0)))) (mVar 8))) (gNm 7) [.io (.ins "Night" []), .sh a, .sh b, .sh (.tuple (p.kinds.map kdD)), .sh o, .sh bu, .sh r, .no, .no, .no, .no] =
    some (.nx [.io (.ins "Night" []), .sh a, .sh b, .sh (.tuple (p.kinds.map kdD)), .sh o, .sh bu, .sh r, .sh (.dict (knL p)), .no, .no, .no]) := by
  obtain ⟨l1, l4⟩ := kn_len v
  have hk5 : (p.kinds.map kdD).length ≤ 50000 := by rw [List.length_map]; omega
  generalize hMK : (mOp ixD (pE (mVar 8)) (pE (mC (.int 0))) : ME) = mk
  have kl := known_loop (mk := mk) (vs := [8]) (g := gNm 8) (mv := mVar 8) (ρ := [.io (.ins "Night" []), .sh a, .sh b, .sh (.tuple (p.kinds.map kdD)), .sh o, .sh bu, .sh r, .no, .no, .no, .no]) (fun k => by
    have i0 := (kd_ix k).1
    refine ⟨[.io (.ins "Night" []), .sh a, .sh b, .sh (.tuple (p.kinds.map kdD)), .sh o, .sh bu, .sh r, .no, .sh (kdD k), .no, .no], rfl, ?_, rfl, rfl, rfl⟩
    generalize kdD k = KD at *
    generalize (ixD : D → D → Option D) = ix at *
    subst hMK
    simp only [DL.mSeq, DL.mIfS, DL.mTest, DL.mAnd, DL.mOr, DL.mNot, DL.mAndV, DL.mOrV, DL.mNotV, DL.mIf, DL.mChain, DL.mOp, DL.mUn, DL.mCall, DL.mC, DL.mVar, DL.pE, DL.pO, DL.fE, DL.aNil, DL.aCons, DL.mFn, DL.mFnG, DL.mTru, DL.mIsi, DL.mIsiT, DL.mNext, DL.mRet, DL.mRetO, DL.mRetF, DL.mRetN, DL.mDrop, DL.mAsg, DL.mOwn, DL.mAug, DL.mSetL, DL.mMt, DL.mTup, DL.mLstF, DL.mDTF, DL.mDKF, DL.mYes, DL.gNm, DL.gTp, DL.gsNil, DL.gsCons, DL.mFrz, DL.frz, DL.mListF, DL.mListRg2, DL.mListRg1, DL.mFnB, List.map_cons, List.map_nil, DL.flatD, DL.mLcF, DL.okW, DL.wipeR, DL.restR, DL.rngD_len, Int.toNat_natCast, Bool.and_self, Bool.and_true, Bool.true_and, DL.mFor, DL.mRng1, DL.mRng2, DL.mIter, DL.mEnumA, Option.bind_some, Option.bind_none, Option.map_some, Option.map_none, List.getElem?_cons_succ, List.getElem?_cons_zero, List.getElem?_nil, List.set_cons_succ, List.set_cons_zero, DL.Sl.oc, DL.Sl.put, DL.ocAt, DL.putAt, DL.ocFits, DL.isIo, DL.rsv, DL.rsvs, DL.vals, DL.toSl, DL.toSls, DL.back, DL.owns, DL.ocD, DL.fin, DL.runF, DL.runG, DL.runP, DL.runQ, List.length_cons, List.length_nil, List.length_set, List.replicate, List.cons_append, List.nil_append, List.nodup_nil, List.nodup_cons, List.not_mem_nil, not_false_eq_true, and_self, and_true, true_and, if_true, if_false, reduceCtorEq, Bool.false_eq_true, ite_true, ite_false, List.mem_cons, or_false, false_or, DL.addD, DL.subD, DL.iD, DL.cmpD, DL.ltD, DL.leD, DL.gtD, DL.geD, DL.ixD, DL.int1D, DL.int2D, DL.intD, DL.absD, DL.min2D, DL.max2D, DL.lenD, DL.itemsD, DL.tupleD, DL.negD, DL.truD, DL.isD, DL.isNotD, DL.isNone, Bool.not_true, Bool.not_false, Nat.reduceAdd, Nat.reduceSub, Nat.reduceLT, Nat.reduceLeDiff, ↓reduceIte, DL.OC.lst.injEq, DL.mUn, DL.mBindX, DL.kDrop, DL.kRet, DL.kAsg, DL.runX, DL.okX, DL.mSetF, DL.putFD, DL.mSIn, DL.mSGet, DL.mIterS, i0]) p.kinds [] (by
      obtain ⟨n, _, _, e⟩ := v.kn
      have : (p.kinds.map fun k : Kd => (Sum.inr k.name : Key)) = (names4.take n).map Sum.inr := by rw [← e, List.map_map]; rfl
      rw [this]
      refine List.pairwise_map.mpr ((nodup4 n).imp fun h z => h ?_)
      cases z; rfl) (by simp; omega)
  rw [List.nil_append] at kl
  have hkn : (p.kinds.map fun k : Kd => ((Sum.inr k.name : Key), kdD k)).map (fun kv => (keyD kv.1, kv.2)) = knL p := by rw [List.map_map]; rfl
  generalize (p.kinds.map fun k : Kd => ((Sum.inr k.name : Key), kdD k)) = KV at *
  generalize p.kinds.map kdD = KS at *
  generalize knL p = KN at *
  simp only [DL.mSeq, DL.mIfS, DL.mTest, DL.mAnd, DL.mOr, DL.mNot, DL.mAndV, DL.mOrV, DL.mNotV, DL.mIf, DL.mChain, DL.mOp, DL.mUn, DL.mCall, DL.mC, DL.mVar, DL.pE, DL.pO, DL.fE, DL.aNil, DL.aCons, DL.mFn, DL.mFnG, DL.mTru, DL.mIsi, DL.mIsiT, DL.mNext, DL.mRet, DL.mRetO, DL.mRetF, DL.mRetN, DL.mDrop, DL.mAsg, DL.mOwn, DL.mAug, DL.mSetL, DL.mMt, DL.mTup, DL.mLstF, DL.mDTF, DL.mDKF, DL.mYes, DL.gNm, DL.gTp, DL.gsNil, DL.gsCons, DL.mFrz, DL.frz, DL.mListF, DL.mListRg2, DL.mListRg1, DL.mFnB, List.map_cons, List.map_nil, DL.flatD, DL.mLcF, DL.okW, DL.wipeR, DL.restR, DL.rngD_len, Int.toNat_natCast, Bool.and_self, Bool.and_true, Bool.true_and, DL.mFor, DL.mRng1, DL.mRng2, DL.mIter, DL.mEnumA, Option.bind_some, Option.bind_none, Option.map_some, Option.map_none, List.getElem?_cons_succ, List.getElem?_cons_zero, List.getElem?_nil, List.set_cons_succ, List.set_cons_zero, DL.Sl.oc, DL.Sl.put, DL.ocAt, DL.putAt, DL.ocFits, DL.isIo, DL.rsv, DL.rsvs, DL.vals, DL.toSl, DL.toSls, DL.back, DL.owns, DL.ocD, DL.fin, DL.runF, DL.runG, DL.runP, DL.runQ, List.length_cons, List.length_nil, List.length_set, List.replicate, List.cons_append, List.nil_append, List.nodup_nil, List.nodup_cons, List.not_mem_nil, not_false_eq_true, and_self, and_true, true_and, if_true, if_false, reduceCtorEq, Bool.false_eq_true, ite_true, ite_false, List.mem_cons, or_false, false_or, DL.addD, DL.subD, DL.iD, DL.cmpD, DL.ltD, DL.leD, DL.gtD, DL.geD, DL.ixD, DL.int1D, DL.int2D, DL.intD, DL.absD, DL.min2D, DL.max2D, DL.lenD, DL.itemsD, DL.tupleD, DL.negD, DL.truD, DL.isD, DL.isNotD, DL.isNone, Bool.not_true, Bool.not_false, Nat.reduceAdd, Nat.reduceSub, Nat.reduceLT, Nat.reduceLeDiff, ↓reduceIte, DL.OC.lst.injEq, DL.mUn, DL.mBindX, DL.kDrop, DL.kRet, DL.kAsg, DL.runX, DL.okX, DL.mSetF, DL.putFD, DL.mSIn, DL.mSGet, DL.mIterS, mDcF, hk5, kl, ocD, hkn]
theorem init_bad0 {p : Pt} (v : Pv p) {d r1 r2 r3 r4 r5 : D} {c : Str} {fs : List (Str × D)} (h : F_check_hands [.sh d] = some (.exc c fs, [.sh d])) :
    F_Night_init [.io (.ins "Night" []), .sh (d), .sh (r1), .sh (r2), .sh (r3), .sh (r4), .sh (r5)] = some (.exc c fs, [.io (.ins "Night" []), .sh (d), .sh (r1), .sh (r2), .sh (r3), .sh (r4), .sh (r5)]) := by
  unfold F_Night_init b_Night_init
  simp only [DL.mSeq, DL.mIfS, DL.mTest, DL.mAnd, DL.mOr, DL.mNot, DL.mAndV, DL.mOrV, DL.mNotV, DL.mIf, DL.mChain, DL.mOp, DL.mUn, DL.mCall, DL.mC, DL.mVar, DL.pE, DL.pO, DL.fE, DL.aNil, DL.aCons, DL.mFn, DL.mFnG, DL.mTru, DL.mIsi, DL.mIsiT, DL.mNext, DL.mRet, DL.mRetO, DL.mRetF, DL.mRetN, DL.mDrop, DL.mAsg, DL.mOwn, DL.mAug, DL.mSetL, DL.mMt, DL.mTup, DL.mLstF, DL.mDTF, DL.mDKF, DL.mYes, DL.gNm, DL.gTp, DL.gsNil, DL.gsCons, DL.mFrz, DL.frz, DL.mListF, DL.mListRg2, DL.mListRg1, DL.mFnB, List.map_cons, List.map_nil, DL.flatD, DL.mLcF, DL.okW, DL.wipeR, DL.restR, DL.rngD_len, Int.toNat_natCast, Bool.and_self, Bool.and_true, Bool.true_and, DL.mFor, DL.mRng1, DL.mRng2, DL.mIter, DL.mEnumA, Option.bind_some, Option.bind_none, Option.map_some, Option.map_none, List.getElem?_cons_succ, List.getElem?_cons_zero, List.getElem?_nil, List.set_cons_succ, List.set_cons_zero, DL.Sl.oc, DL.Sl.put, DL.ocAt, DL.putAt, DL.ocFits, DL.isIo, DL.rsv, DL.rsvs, DL.vals, DL.toSl, DL.toSls, DL.back, DL.owns, DL.ocD, DL.fin, DL.runF, DL.runG, DL.runP, DL.runQ, List.length_cons, List.length_nil, List.length_set, List.replicate, List.cons_append, List.nil_append, List.nodup_nil, List.nodup_cons, List.not_mem_nil, not_false_eq_true, and_self, and_true, true_and, if_true, if_false, reduceCtorEq, Bool.false_eq_true, ite_true, ite_false, List.mem_cons, or_false, false_or, DL.addD, DL.subD, DL.iD, DL.cmpD, DL.ltD, DL.leD, DL.gtD, DL.geD, DL.ixD, DL.int1D, DL.int2D, DL.intD, DL.absD, DL.min2D, DL.max2D, DL.lenD, DL.itemsD, DL.tupleD, DL.negD, DL.truD, DL.isD, DL.isNotD, DL.isNone, Bool.not_true, Bool.not_false, Nat.reduceAdd, Nat.reduceSub, Nat.reduceLT, Nat.reduceLeDiff, ↓reduceIte, DL.OC.lst.injEq, DL.mUn, DL.mBindX, DL.kDrop, DL.kRet, DL.kAsg, DL.runX, DL.okX, DL.mSetF, DL.putFD, DL.mSIn, DL.mSGet, DL.mIterS, h]
theorem init_bad1 {p : Pt} (v : Pv p) {d r2 r3 r4 r5 : D} {c : Str} {fs : List (Str × D)} (h : F_check_ovens [.sh d] = some (.exc c fs, [.sh d])) :
    F_Night_init [.io (.ins "Night" []), .sh (.int p.hands), .sh (d), .sh (r2), .sh (r3), .sh (r4), .sh (r5)] = some (.exc c fs, [.io (.ins "Night" []), .sh (.int p.hands), .sh (d), .sh (r2), .sh (r3), .sh (r4), .sh (r5)]) := by
  have c0 := check_hands_ok v.h
  unfold F_Night_init b_Night_init
  simp only [DL.mSeq, DL.mIfS, DL.mTest, DL.mAnd, DL.mOr, DL.mNot, DL.mAndV, DL.mOrV, DL.mNotV, DL.mIf, DL.mChain, DL.mOp, DL.mUn, DL.mCall, DL.mC, DL.mVar, DL.pE, DL.pO, DL.fE, DL.aNil, DL.aCons, DL.mFn, DL.mFnG, DL.mTru, DL.mIsi, DL.mIsiT, DL.mNext, DL.mRet, DL.mRetO, DL.mRetF, DL.mRetN, DL.mDrop, DL.mAsg, DL.mOwn, DL.mAug, DL.mSetL, DL.mMt, DL.mTup, DL.mLstF, DL.mDTF, DL.mDKF, DL.mYes, DL.gNm, DL.gTp, DL.gsNil, DL.gsCons, DL.mFrz, DL.frz, DL.mListF, DL.mListRg2, DL.mListRg1, DL.mFnB, List.map_cons, List.map_nil, DL.flatD, DL.mLcF, DL.okW, DL.wipeR, DL.restR, DL.rngD_len, Int.toNat_natCast, Bool.and_self, Bool.and_true, Bool.true_and, DL.mFor, DL.mRng1, DL.mRng2, DL.mIter, DL.mEnumA, Option.bind_some, Option.bind_none, Option.map_some, Option.map_none, List.getElem?_cons_succ, List.getElem?_cons_zero, List.getElem?_nil, List.set_cons_succ, List.set_cons_zero, DL.Sl.oc, DL.Sl.put, DL.ocAt, DL.putAt, DL.ocFits, DL.isIo, DL.rsv, DL.rsvs, DL.vals, DL.toSl, DL.toSls, DL.back, DL.owns, DL.ocD, DL.fin, DL.runF, DL.runG, DL.runP, DL.runQ, List.length_cons, List.length_nil, List.length_set, List.replicate, List.cons_append, List.nil_append, List.nodup_nil, List.nodup_cons, List.not_mem_nil, not_false_eq_true, and_self, and_true, true_and, if_true, if_false, reduceCtorEq, Bool.false_eq_true, ite_true, ite_false, List.mem_cons, or_false, false_or, DL.addD, DL.subD, DL.iD, DL.cmpD, DL.ltD, DL.leD, DL.gtD, DL.geD, DL.ixD, DL.int1D, DL.int2D, DL.intD, DL.absD, DL.min2D, DL.max2D, DL.lenD, DL.itemsD, DL.tupleD, DL.negD, DL.truD, DL.isD, DL.isNotD, DL.isNone, Bool.not_true, Bool.not_false, Nat.reduceAdd, Nat.reduceSub, Nat.reduceLT, Nat.reduceLeDiff, ↓reduceIte, DL.OC.lst.injEq, DL.mUn, DL.mBindX, DL.kDrop, DL.kRet, DL.kAsg, DL.runX, DL.okX, DL.mSetF, DL.putFD, DL.mSIn, DL.mSGet, DL.mIterS, c0, h]
theorem init_bad2 {p : Pt} (v : Pv p) {d r3 r4 r5 : D} {c : Str} {fs : List (Str × D)} (h : F_check_kinds [.sh d] = some (.exc c fs, [.sh d])) :
    F_Night_init [.io (.ins "Night" []), .sh (.int p.hands), .sh (.int p.ovens), .sh (d), .sh (r3), .sh (r4), .sh (r5)] = some (.exc c fs, [.io (.ins "Night" []), .sh (.int p.hands), .sh (.int p.ovens), .sh (d), .sh (r3), .sh (r4), .sh (r5)]) := by
  have c0 := check_hands_ok v.h
  have c1 := check_ovens_ok v.o
  unfold F_Night_init b_Night_init
  simp only [DL.mSeq, DL.mIfS, DL.mTest, DL.mAnd, DL.mOr, DL.mNot, DL.mAndV, DL.mOrV, DL.mNotV, DL.mIf, DL.mChain, DL.mOp, DL.mUn, DL.mCall, DL.mC, DL.mVar, DL.pE, DL.pO, DL.fE, DL.aNil, DL.aCons, DL.mFn, DL.mFnG, DL.mTru, DL.mIsi, DL.mIsiT, DL.mNext, DL.mRet, DL.mRetO, DL.mRetF, DL.mRetN, DL.mDrop, DL.mAsg, DL.mOwn, DL.mAug, DL.mSetL, DL.mMt, DL.mTup, DL.mLstF, DL.mDTF, DL.mDKF, DL.mYes, DL.gNm, DL.gTp, DL.gsNil, DL.gsCons, DL.mFrz, DL.frz, DL.mListF, DL.mListRg2, DL.mListRg1, DL.mFnB, List.map_cons, List.map_nil, DL.flatD, DL.mLcF, DL.okW, DL.wipeR, DL.restR, DL.rngD_len, Int.toNat_natCast, Bool.and_self, Bool.and_true, Bool.true_and, DL.mFor, DL.mRng1, DL.mRng2, DL.mIter, DL.mEnumA, Option.bind_some, Option.bind_none, Option.map_some, Option.map_none, List.getElem?_cons_succ, List.getElem?_cons_zero, List.getElem?_nil, List.set_cons_succ, List.set_cons_zero, DL.Sl.oc, DL.Sl.put, DL.ocAt, DL.putAt, DL.ocFits, DL.isIo, DL.rsv, DL.rsvs, DL.vals, DL.toSl, DL.toSls, DL.back, DL.owns, DL.ocD, DL.fin, DL.runF, DL.runG, DL.runP, DL.runQ, List.length_cons, List.length_nil, List.length_set, List.replicate, List.cons_append, List.nil_append, List.nodup_nil, List.nodup_cons, List.not_mem_nil, not_false_eq_true, and_self, and_true, true_and, if_true, if_false, reduceCtorEq, Bool.false_eq_true, ite_true, ite_false, List.mem_cons, or_false, false_or, DL.addD, DL.subD, DL.iD, DL.cmpD, DL.ltD, DL.leD, DL.gtD, DL.geD, DL.ixD, DL.int1D, DL.int2D, DL.intD, DL.absD, DL.min2D, DL.max2D, DL.lenD, DL.itemsD, DL.tupleD, DL.negD, DL.truD, DL.isD, DL.isNotD, DL.isNone, Bool.not_true, Bool.not_false, Nat.reduceAdd, Nat.reduceSub, Nat.reduceLT, Nat.reduceLeDiff, ↓reduceIte, DL.OC.lst.injEq, DL.mUn, DL.mBindX, DL.kDrop, DL.kRet, DL.kAsg, DL.runX, DL.okX, DL.mSetF, DL.putFD, DL.mSIn, DL.mSGet, DL.mIterS, c0, c1, h]
theorem init_bad3 {p : Pt} (v : Pv p) {d r4 r5 : D} {c : Str} {fs : List (Str × D)} (h : F_check_orders [.sh d, .sh (.dict (knL p))] = some (.exc c fs, [.sh d, .sh (.dict (knL p))])) :
    F_Night_init [.io (.ins "Night" []), .sh (.int p.hands), .sh (.int p.ovens), .sh (.tuple (p.kinds.map kdD)), .sh (d), .sh (r4), .sh (r5)] = some (.exc c fs, [.io (.ins "Night" []), .sh (.int p.hands), .sh (.int p.ovens), .sh (.tuple (p.kinds.map kdD)), .sh (d), .sh (r4), .sh (r5)]) := by
  have c0 := check_hands_ok v.h
  have c1 := check_ovens_ok v.o
  have c2 := check_kinds_ok v
  have kn := known_ok v (.int p.hands) (.int p.ovens) (d) (r4) (r5)
  unfold F_Night_init b_Night_init
  generalize hA : mAsg (fE (mDcF _ _ _ _ _ _)) (gNm 7) = A at *
  generalize knL p = KN at *
  generalize p.kinds.map kdD = KS at *
  generalize p.orders.map odD = OS at *
  simp only [DL.mSeq, DL.mIfS, DL.mTest, DL.mAnd, DL.mOr, DL.mNot, DL.mAndV, DL.mOrV, DL.mNotV, DL.mIf, DL.mChain, DL.mOp, DL.mUn, DL.mCall, DL.mC, DL.mVar, DL.pE, DL.pO, DL.fE, DL.aNil, DL.aCons, DL.mFn, DL.mFnG, DL.mTru, DL.mIsi, DL.mIsiT, DL.mNext, DL.mRet, DL.mRetO, DL.mRetF, DL.mRetN, DL.mDrop, DL.mAsg, DL.mOwn, DL.mAug, DL.mSetL, DL.mMt, DL.mTup, DL.mLstF, DL.mDTF, DL.mDKF, DL.mYes, DL.gNm, DL.gTp, DL.gsNil, DL.gsCons, DL.mFrz, DL.frz, DL.mListF, DL.mListRg2, DL.mListRg1, DL.mFnB, List.map_cons, List.map_nil, DL.flatD, DL.mLcF, DL.okW, DL.wipeR, DL.restR, DL.rngD_len, Int.toNat_natCast, Bool.and_self, Bool.and_true, Bool.true_and, DL.mFor, DL.mRng1, DL.mRng2, DL.mIter, DL.mEnumA, Option.bind_some, Option.bind_none, Option.map_some, Option.map_none, List.getElem?_cons_succ, List.getElem?_cons_zero, List.getElem?_nil, List.set_cons_succ, List.set_cons_zero, DL.Sl.oc, DL.Sl.put, DL.ocAt, DL.putAt, DL.ocFits, DL.isIo, DL.rsv, DL.rsvs, DL.vals, DL.toSl, DL.toSls, DL.back, DL.owns, DL.ocD, DL.fin, DL.runF, DL.runG, DL.runP, DL.runQ, List.length_cons, List.length_nil, List.length_set, List.replicate, List.cons_append, List.nil_append, List.nodup_nil, List.nodup_cons, List.not_mem_nil, not_false_eq_true, and_self, and_true, true_and, if_true, if_false, reduceCtorEq, Bool.false_eq_true, ite_true, ite_false, List.mem_cons, or_false, false_or, DL.addD, DL.subD, DL.iD, DL.cmpD, DL.ltD, DL.leD, DL.gtD, DL.geD, DL.ixD, DL.int1D, DL.int2D, DL.intD, DL.absD, DL.min2D, DL.max2D, DL.lenD, DL.itemsD, DL.tupleD, DL.negD, DL.truD, DL.isD, DL.isNotD, DL.isNone, Bool.not_true, Bool.not_false, Nat.reduceAdd, Nat.reduceSub, Nat.reduceLT, Nat.reduceLeDiff, ↓reduceIte, DL.OC.lst.injEq, DL.mUn, DL.mBindX, DL.kDrop, DL.kRet, DL.kAsg, DL.runX, DL.okX, DL.mSetF, DL.putFD, DL.mSIn, DL.mSGet, DL.mIterS, c0, c1, c2, kn, h]
theorem init_bad4 {p : Pt} (v : Pv p) {d r5 : D} {c : Str} {fs : List (Str × D)} (h : F_check_budgets [.sh d] = some (.exc c fs, [.sh d])) :
    F_Night_init [.io (.ins "Night" []), .sh (.int p.hands), .sh (.int p.ovens), .sh (.tuple (p.kinds.map kdD)), .sh (.tuple (p.orders.map odD)), .sh (d), .sh (r5)] = some (.exc c fs, [.io (.ins "Night" []), .sh (.int p.hands), .sh (.int p.ovens), .sh (.tuple (p.kinds.map kdD)), .sh (.tuple (p.orders.map odD)), .sh (d), .sh (r5)]) := by
  have c0 := check_hands_ok v.h
  have c1 := check_ovens_ok v.o
  have c2 := check_kinds_ok v
  have c3 := check_orders_ok v
  have kn := known_ok v (.int p.hands) (.int p.ovens) (.tuple (p.orders.map odD)) (d) (r5)
  unfold F_Night_init b_Night_init
  generalize hA : mAsg (fE (mDcF _ _ _ _ _ _)) (gNm 7) = A at *
  generalize knL p = KN at *
  generalize p.kinds.map kdD = KS at *
  generalize p.orders.map odD = OS at *
  simp only [DL.mSeq, DL.mIfS, DL.mTest, DL.mAnd, DL.mOr, DL.mNot, DL.mAndV, DL.mOrV, DL.mNotV, DL.mIf, DL.mChain, DL.mOp, DL.mUn, DL.mCall, DL.mC, DL.mVar, DL.pE, DL.pO, DL.fE, DL.aNil, DL.aCons, DL.mFn, DL.mFnG, DL.mTru, DL.mIsi, DL.mIsiT, DL.mNext, DL.mRet, DL.mRetO, DL.mRetF, DL.mRetN, DL.mDrop, DL.mAsg, DL.mOwn, DL.mAug, DL.mSetL, DL.mMt, DL.mTup, DL.mLstF, DL.mDTF, DL.mDKF, DL.mYes, DL.gNm, DL.gTp, DL.gsNil, DL.gsCons, DL.mFrz, DL.frz, DL.mListF, DL.mListRg2, DL.mListRg1, DL.mFnB, List.map_cons, List.map_nil, DL.flatD, DL.mLcF, DL.okW, DL.wipeR, DL.restR, DL.rngD_len, Int.toNat_natCast, Bool.and_self, Bool.and_true, Bool.true_and, DL.mFor, DL.mRng1, DL.mRng2, DL.mIter, DL.mEnumA, Option.bind_some, Option.bind_none, Option.map_some, Option.map_none, List.getElem?_cons_succ, List.getElem?_cons_zero, List.getElem?_nil, List.set_cons_succ, List.set_cons_zero, DL.Sl.oc, DL.Sl.put, DL.ocAt, DL.putAt, DL.ocFits, DL.isIo, DL.rsv, DL.rsvs, DL.vals, DL.toSl, DL.toSls, DL.back, DL.owns, DL.ocD, DL.fin, DL.runF, DL.runG, DL.runP, DL.runQ, List.length_cons, List.length_nil, List.length_set, List.replicate, List.cons_append, List.nil_append, List.nodup_nil, List.nodup_cons, List.not_mem_nil, not_false_eq_true, and_self, and_true, true_and, if_true, if_false, reduceCtorEq, Bool.false_eq_true, ite_true, ite_false, List.mem_cons, or_false, false_or, DL.addD, DL.subD, DL.iD, DL.cmpD, DL.ltD, DL.leD, DL.gtD, DL.geD, DL.ixD, DL.int1D, DL.int2D, DL.intD, DL.absD, DL.min2D, DL.max2D, DL.lenD, DL.itemsD, DL.tupleD, DL.negD, DL.truD, DL.isD, DL.isNotD, DL.isNone, Bool.not_true, Bool.not_false, Nat.reduceAdd, Nat.reduceSub, Nat.reduceLT, Nat.reduceLeDiff, ↓reduceIte, DL.OC.lst.injEq, DL.mUn, DL.mBindX, DL.kDrop, DL.kRet, DL.kAsg, DL.runX, DL.okX, DL.mSetF, DL.putFD, DL.mSIn, DL.mSGet, DL.mIterS, c0, c1, c2, c3, kn, h]
theorem init_bad5 {p : Pt} (v : Pv p) {d : D} {c : Str} {fs : List (Str × D)} (h : F_check_repair [.sh d] = some (.exc c fs, [.sh d])) :
    F_Night_init [.io (.ins "Night" []), .sh (.int p.hands), .sh (.int p.ovens), .sh (.tuple (p.kinds.map kdD)), .sh (.tuple (p.orders.map odD)), .sh (.tuple [.int p.b0, .int p.b1, .int p.b2]), .sh (d)] = some (.exc c fs, [.io (.ins "Night" []), .sh (.int p.hands), .sh (.int p.ovens), .sh (.tuple (p.kinds.map kdD)), .sh (.tuple (p.orders.map odD)), .sh (.tuple [.int p.b0, .int p.b1, .int p.b2]), .sh (d)]) := by
  have c0 := check_hands_ok v.h
  have c1 := check_ovens_ok v.o
  have c2 := check_kinds_ok v
  have c3 := check_orders_ok v
  have c4 := check_budgets_ok v.b.1 v.b.2.1 v.b.2.2
  have kn := known_ok v (.int p.hands) (.int p.ovens) (.tuple (p.orders.map odD)) (.tuple [.int p.b0, .int p.b1, .int p.b2]) (d)
  unfold F_Night_init b_Night_init
  generalize hA : mAsg (fE (mDcF _ _ _ _ _ _)) (gNm 7) = A at *
  generalize knL p = KN at *
  generalize p.kinds.map kdD = KS at *
  generalize p.orders.map odD = OS at *
  simp only [DL.mSeq, DL.mIfS, DL.mTest, DL.mAnd, DL.mOr, DL.mNot, DL.mAndV, DL.mOrV, DL.mNotV, DL.mIf, DL.mChain, DL.mOp, DL.mUn, DL.mCall, DL.mC, DL.mVar, DL.pE, DL.pO, DL.fE, DL.aNil, DL.aCons, DL.mFn, DL.mFnG, DL.mTru, DL.mIsi, DL.mIsiT, DL.mNext, DL.mRet, DL.mRetO, DL.mRetF, DL.mRetN, DL.mDrop, DL.mAsg, DL.mOwn, DL.mAug, DL.mSetL, DL.mMt, DL.mTup, DL.mLstF, DL.mDTF, DL.mDKF, DL.mYes, DL.gNm, DL.gTp, DL.gsNil, DL.gsCons, DL.mFrz, DL.frz, DL.mListF, DL.mListRg2, DL.mListRg1, DL.mFnB, List.map_cons, List.map_nil, DL.flatD, DL.mLcF, DL.okW, DL.wipeR, DL.restR, DL.rngD_len, Int.toNat_natCast, Bool.and_self, Bool.and_true, Bool.true_and, DL.mFor, DL.mRng1, DL.mRng2, DL.mIter, DL.mEnumA, Option.bind_some, Option.bind_none, Option.map_some, Option.map_none, List.getElem?_cons_succ, List.getElem?_cons_zero, List.getElem?_nil, List.set_cons_succ, List.set_cons_zero, DL.Sl.oc, DL.Sl.put, DL.ocAt, DL.putAt, DL.ocFits, DL.isIo, DL.rsv, DL.rsvs, DL.vals, DL.toSl, DL.toSls, DL.back, DL.owns, DL.ocD, DL.fin, DL.runF, DL.runG, DL.runP, DL.runQ, List.length_cons, List.length_nil, List.length_set, List.replicate, List.cons_append, List.nil_append, List.nodup_nil, List.nodup_cons, List.not_mem_nil, not_false_eq_true, and_self, and_true, true_and, if_true, if_false, reduceCtorEq, Bool.false_eq_true, ite_true, ite_false, List.mem_cons, or_false, false_or, DL.addD, DL.subD, DL.iD, DL.cmpD, DL.ltD, DL.leD, DL.gtD, DL.geD, DL.ixD, DL.int1D, DL.int2D, DL.intD, DL.absD, DL.min2D, DL.max2D, DL.lenD, DL.itemsD, DL.tupleD, DL.negD, DL.truD, DL.isD, DL.isNotD, DL.isNone, Bool.not_true, Bool.not_false, Nat.reduceAdd, Nat.reduceSub, Nat.reduceLT, Nat.reduceLeDiff, ↓reduceIte, DL.OC.lst.injEq, DL.mUn, DL.mBindX, DL.kDrop, DL.kRet, DL.kAsg, DL.runX, DL.okX, DL.mSetF, DL.putFD, DL.mSIn, DL.mSGet, DL.mIterS, c0, c1, c2, c3, c4, kn, h]
def pL (p : Pt) : List D := [.int p.hands, .int p.ovens, .tuple (p.kinds.map kdD), .tuple (p.orders.map odD), .tuple [.int p.b0, .int p.b1, .int p.b2], .int p.repair]
/-- d at a place is refused by the word w, with the value x -/
structure Due (p : Pt) (k : Nat) (d : D) (w : Str) (x : D) : Prop where
  ok : okR (.tuple [.str w, x]) = true
  bad : (k = 0 ∧ w = "hands" ∧ F_check_hands [.sh d] = some (.exc "BadHands" [("value", x)], [.sh d])) ∨
    (k = 1 ∧ w = "ovens" ∧ F_check_ovens [.sh d] = some (.exc "BadOvens" [("value", x)], [.sh d])) ∨
    (k = 2 ∧ w = "kinds" ∧ F_check_kinds [.sh d] = some (.exc "BadKinds" [("value", x)], [.sh d])) ∨
    (k = 3 ∧ w = "orders" ∧ F_check_orders [.sh d, .sh (.dict (knL p))] = some (.exc "BadOrders" [("value", x)], [.sh d, .sh (.dict (knL p))])) ∨
    (k = 4 ∧ w = "budgets" ∧ F_check_budgets [.sh d] = some (.exc "BadBudgets" [("value", x)], [.sh d])) ∨
    (k = 5 ∧ w = "repair" ∧ F_check_repair [.sh d] = some (.exc "BadRepair" [("value", x)], [.sh d]))
theorem due_init {p : Pt} (v : Pv p) {k : Nat} {d : D} {w : Str} {x : D} (h : Due p k d w x) {s0 s1 s2 s3 s4 s5 : D} (ht : [s0, s1, s2, s3, s4, s5].take (k + 1) = (pL p).take k ++ [d]) :
    ∃ c, F_Night_init [.io (.ins "Night" []), .sh s0, .sh s1, .sh s2, .sh s3, .sh s4, .sh s5] = some (.exc c [("value", x)], [.io (.ins "Night" []), .sh s0, .sh s1, .sh s2, .sh s3, .sh s4, .sh s5]) ∧ F_law_refused (.exc c [("value", x)]) = some (.tuple [.str w, x]) := by
  rcases h.bad with ⟨rfl, rfl, b⟩ | ⟨rfl, rfl, b⟩ | ⟨rfl, rfl, b⟩ | ⟨rfl, rfl, b⟩ | ⟨rfl, rfl, b⟩ | ⟨rfl, rfl, b⟩
  · simp only [pL, List.take_succ_cons, List.take_zero, List.nil_append, List.cons_append, List.cons.injEq, and_true] at ht
    subst ht
    exact ⟨"BadHands", init_bad0 v b, rfl⟩
  · simp only [pL, List.take_succ_cons, List.take_zero, List.nil_append, List.cons_append, List.cons.injEq, and_true] at ht
    obtain ⟨rfl, rfl⟩ := ht
    exact ⟨"BadOvens", init_bad1 v b, rfl⟩
  · simp only [pL, List.take_succ_cons, List.take_zero, List.nil_append, List.cons_append, List.cons.injEq, and_true] at ht
    obtain ⟨rfl, rfl, rfl⟩ := ht
    exact ⟨"BadKinds", init_bad2 v b, rfl⟩
  · simp only [pL, List.take_succ_cons, List.take_zero, List.nil_append, List.cons_append, List.cons.injEq, and_true] at ht
    obtain ⟨rfl, rfl, rfl, rfl⟩ := ht
    exact ⟨"BadOrders", init_bad3 v b, rfl⟩
  · simp only [pL, List.take_succ_cons, List.take_zero, List.nil_append, List.cons_append, List.cons.injEq, and_true] at ht
    obtain ⟨rfl, rfl, rfl, rfl, rfl⟩ := ht
    exact ⟨"BadBudgets", init_bad4 v b, rfl⟩
  · simp only [pL, List.take_succ_cons, List.take_zero, List.nil_append, List.cons_append, List.cons.injEq, and_true] at ht
    obtain ⟨rfl, rfl, rfl, rfl, rfl, rfl⟩ := ht
    exact ⟨"BadRepair", init_bad5 v b, rfl⟩
end Lk11
set_option Elab.async false
set_option linter.all false
set_option maxRecDepth 100000
set_option maxHeartbeats 4000000
namespace Lk11
open PySem L2 DL
/-! ### something wrong in a place -/
theorem pt_ix (p : Pt) : ixD (ptD p) (.int 0) = some (.int p.hands) ∧ ixD (ptD p) (.int 1) = some (.int p.ovens) ∧ ixD (ptD p) (.int 2) = some (.tuple (p.kinds.map kdD)) ∧ ixD (ptD p) (.int 3) = some (.tuple (p.orders.map odD)) ∧ ixD (ptD p) (.int 4) = some (.tuple [.int p.b0, .int p.b1, .int p.b2]) ∧ ixD (ptD p) (.int 5) = some (.int p.repair) := ⟨rfl, rfl, rfl, rfl, rfl, rfl⟩
theorem spoilt_0 {p : Pt} {ns : List Int} {o : OC} (hr : Rw ns o) (hn : ns.length ≤ 63) : ∃ (d : D) (w : Str) (x : D) (o' : OC), F_law_spoilt [.io o, .sh (ptD p), .sh (.int 0)] = some (.tuple [d, .str w, x], [.io o', .sh (ptD p), .sh (.int 0)]) ∧ Due p 0 d w x ∧ Rw ns o' := by
  obtain ⟨d, o', hp, hm, hr'⟩ := pick hr hn [.int 0, .int 4, .bool true, .none, .str "1", .int (-1)] (by decide) (by decide)
  refine ⟨d, "hands", d, o', ?_, ?_, hr'⟩
  · have ng : negD (.int 1) = some (.int (-1)) := rfl
    have j0 : eqD (.int 0) (.int 0) = some (.bool true) := eqD_int 0 0
    have lt : ltD (.int 0) (.int 5) = some (.bool true) := rfl
    have q1 : mulD (.list [.str "repair"]) (.int 4) = some (.list [.str "repair", .str "repair", .str "repair", .str "repair"]) := rfl
    have q2 : addD (.list [.str "hands", .str "ovens"]) (.list [.str "repair", .str "repair", .str "repair", .str "repair"]) = some (.list [.str "hands", .str "ovens", .str "repair", .str "repair", .str "repair", .str "repair"]) := rfl
    have q3 : ixD (.list [.str "hands", .str "ovens", .str "repair", .str "repair", .str "repair", .str "repair"]) (.int 0) = some (.str "hands") := rfl
    unfold F_law_spoilt b_law_spoilt
    generalize ptD p = PT at *
    generalize (eqD : D → D → Option D) = eqd at *
    generalize (ltD : D → D → Option D) = ltd at *
    generalize (mulD : D → D → Option D) = mu at *
    generalize (addD : D → D → Option D) = ad at *
    generalize (ixD : D → D → Option D) = ix at *
    generalize (negD : D → Option D) = ne at *
    simp only [DL.mSeq, DL.mIfS, DL.mTest, DL.mAnd, DL.mOr, DL.mNot, DL.mAndV, DL.mOrV, DL.mNotV, DL.mIf, DL.mChain, DL.mOp, DL.mUn, DL.mCall, DL.mC, DL.mVar, DL.pE, DL.pO, DL.fE, DL.aNil, DL.aCons, DL.mFn, DL.mFnG, DL.mTru, DL.mIsi, DL.mIsiT, DL.mNext, DL.mRet, DL.mRetO, DL.mRetF, DL.mRetN, DL.mDrop, DL.mAsg, DL.mOwn, DL.mAug, DL.mSetL, DL.mMt, DL.mTup, DL.mLstF, DL.mDTF, DL.mDKF, DL.mYes, DL.gNm, DL.gTp, DL.gsNil, DL.gsCons, DL.mFrz, DL.frz, DL.mListF, DL.mListRg2, DL.mListRg1, DL.mFnB, List.map_cons, List.map_nil, DL.flatD, DL.mLcF, DL.okW, DL.wipeR, DL.restR, DL.rngD_len, Int.toNat_natCast, Bool.and_self, Bool.and_true, Bool.true_and, DL.mFor, DL.mRng1, DL.mRng2, DL.mIter, DL.mEnumA, Option.bind_some, Option.bind_none, Option.map_some, Option.map_none, List.getElem?_cons_succ, List.getElem?_cons_zero, List.getElem?_nil, List.set_cons_succ, List.set_cons_zero, DL.Sl.oc, DL.Sl.put, DL.ocAt, DL.putAt, DL.ocFits, DL.isIo, DL.rsv, DL.rsvs, DL.vals, DL.toSl, DL.toSls, DL.back, DL.owns, DL.ocD, DL.fin, DL.runF, DL.runG, DL.runP, DL.runQ, List.length_cons, List.length_nil, List.length_set, List.replicate, List.cons_append, List.nil_append, List.nodup_nil, List.nodup_cons, List.not_mem_nil, not_false_eq_true, and_self, and_true, true_and, if_true, if_false, reduceCtorEq, Bool.false_eq_true, ite_true, ite_false, List.mem_cons, or_false, false_or, DL.addD, DL.subD, DL.iD, DL.cmpD, DL.ltD, DL.leD, DL.gtD, DL.geD, DL.ixD, DL.int1D, DL.int2D, DL.intD, DL.absD, DL.min2D, DL.max2D, DL.lenD, DL.itemsD, DL.tupleD, DL.negD, DL.truD, DL.isD, DL.isNotD, DL.isNone, Bool.not_true, Bool.not_false, Nat.reduceAdd, Nat.reduceSub, Nat.reduceLT, Nat.reduceLeDiff, ↓reduceIte, DL.OC.lst.injEq, DL.mUn, DL.mBindX, DL.kDrop, DL.kRet, DL.kAsg, DL.runX, DL.okX, DL.mSetF, DL.putFD, DL.mSIn, DL.mSGet, DL.mIterS, j0, lt, ng, hp, q1, q2, q3, ocD]
  · simp only [List.mem_cons, List.not_mem_nil, or_false] at hm
    rcases hm with rfl | rfl | rfl | rfl | rfl | rfl <;> exact ⟨by decide +kernel, .inl ⟨rfl, rfl, hands_bad rfl rfl⟩⟩
theorem spoilt_1 {p : Pt} {ns : List Int} {o : OC} (hr : Rw ns o) (hn : ns.length ≤ 63) : ∃ (d : D) (w : Str) (x : D) (o' : OC), F_law_spoilt [.io o, .sh (ptD p), .sh (.int 1)] = some (.tuple [d, .str w, x], [.io o', .sh (ptD p), .sh (.int 1)]) ∧ Due p 1 d w x ∧ Rw ns o' := by
  obtain ⟨d, o', hp, hm, hr'⟩ := pick hr hn [.int 0, .int 4, .bool true, .none, .str "1", .int (-1)] (by decide) (by decide)
  refine ⟨d, "ovens", d, o', ?_, ?_, hr'⟩
  · have ng : negD (.int 1) = some (.int (-1)) := rfl
    have j0 : eqD (.int 1) (.int 0) = some (.bool false) := eqD_int 1 0
    have j1 : eqD (.int 1) (.int 1) = some (.bool true) := eqD_int 1 1
    have lt : ltD (.int 1) (.int 5) = some (.bool true) := rfl
    have q1 : mulD (.list [.str "repair"]) (.int 4) = some (.list [.str "repair", .str "repair", .str "repair", .str "repair"]) := rfl
    have q2 : addD (.list [.str "hands", .str "ovens"]) (.list [.str "repair", .str "repair", .str "repair", .str "repair"]) = some (.list [.str "hands", .str "ovens", .str "repair", .str "repair", .str "repair", .str "repair"]) := rfl
    have q3 : ixD (.list [.str "hands", .str "ovens", .str "repair", .str "repair", .str "repair", .str "repair"]) (.int 1) = some (.str "ovens") := rfl
    unfold F_law_spoilt b_law_spoilt
    generalize ptD p = PT at *
    generalize (eqD : D → D → Option D) = eqd at *
    generalize (ltD : D → D → Option D) = ltd at *
    generalize (mulD : D → D → Option D) = mu at *
    generalize (addD : D → D → Option D) = ad at *
    generalize (ixD : D → D → Option D) = ix at *
    generalize (negD : D → Option D) = ne at *
    simp only [DL.mSeq, DL.mIfS, DL.mTest, DL.mAnd, DL.mOr, DL.mNot, DL.mAndV, DL.mOrV, DL.mNotV, DL.mIf, DL.mChain, DL.mOp, DL.mUn, DL.mCall, DL.mC, DL.mVar, DL.pE, DL.pO, DL.fE, DL.aNil, DL.aCons, DL.mFn, DL.mFnG, DL.mTru, DL.mIsi, DL.mIsiT, DL.mNext, DL.mRet, DL.mRetO, DL.mRetF, DL.mRetN, DL.mDrop, DL.mAsg, DL.mOwn, DL.mAug, DL.mSetL, DL.mMt, DL.mTup, DL.mLstF, DL.mDTF, DL.mDKF, DL.mYes, DL.gNm, DL.gTp, DL.gsNil, DL.gsCons, DL.mFrz, DL.frz, DL.mListF, DL.mListRg2, DL.mListRg1, DL.mFnB, List.map_cons, List.map_nil, DL.flatD, DL.mLcF, DL.okW, DL.wipeR, DL.restR, DL.rngD_len, Int.toNat_natCast, Bool.and_self, Bool.and_true, Bool.true_and, DL.mFor, DL.mRng1, DL.mRng2, DL.mIter, DL.mEnumA, Option.bind_some, Option.bind_none, Option.map_some, Option.map_none, List.getElem?_cons_succ, List.getElem?_cons_zero, List.getElem?_nil, List.set_cons_succ, List.set_cons_zero, DL.Sl.oc, DL.Sl.put, DL.ocAt, DL.putAt, DL.ocFits, DL.isIo, DL.rsv, DL.rsvs, DL.vals, DL.toSl, DL.toSls, DL.back, DL.owns, DL.ocD, DL.fin, DL.runF, DL.runG, DL.runP, DL.runQ, List.length_cons, List.length_nil, List.length_set, List.replicate, List.cons_append, List.nil_append, List.nodup_nil, List.nodup_cons, List.not_mem_nil, not_false_eq_true, and_self, and_true, true_and, if_true, if_false, reduceCtorEq, Bool.false_eq_true, ite_true, ite_false, List.mem_cons, or_false, false_or, DL.addD, DL.subD, DL.iD, DL.cmpD, DL.ltD, DL.leD, DL.gtD, DL.geD, DL.ixD, DL.int1D, DL.int2D, DL.intD, DL.absD, DL.min2D, DL.max2D, DL.lenD, DL.itemsD, DL.tupleD, DL.negD, DL.truD, DL.isD, DL.isNotD, DL.isNone, Bool.not_true, Bool.not_false, Nat.reduceAdd, Nat.reduceSub, Nat.reduceLT, Nat.reduceLeDiff, ↓reduceIte, DL.OC.lst.injEq, DL.mUn, DL.mBindX, DL.kDrop, DL.kRet, DL.kAsg, DL.runX, DL.okX, DL.mSetF, DL.putFD, DL.mSIn, DL.mSGet, DL.mIterS, j0, j1, lt, ng, hp, q1, q2, q3, ocD]
  · simp only [List.mem_cons, List.not_mem_nil, or_false] at hm
    rcases hm with rfl | rfl | rfl | rfl | rfl | rfl <;> exact ⟨by decide +kernel, .inr (.inl ⟨rfl, rfl, ovens_bad rfl rfl⟩)⟩
theorem spoilt_5 {p : Pt} {ns : List Int} {o : OC} (hr : Rw ns o) (hn : ns.length ≤ 63) : ∃ (d : D) (w : Str) (x : D) (o' : OC), F_law_spoilt [.io o, .sh (ptD p), .sh (.int 5)] = some (.tuple [d, .str w, x], [.io o', .sh (ptD p), .sh (.int 5)]) ∧ Due p 5 d w x ∧ Rw ns o' := by
  obtain ⟨d, o', hp, hm, hr'⟩ := pick hr hn [.int 0, .int 5, .bool true, .none, .str "1", .int (-1)] (by decide) (by decide)
  refine ⟨d, "repair", d, o', ?_, ?_, hr'⟩
  · have ng : negD (.int 1) = some (.int (-1)) := rfl
    have j0 : eqD (.int 5) (.int 0) = some (.bool false) := eqD_int 5 0
    have j1 : eqD (.int 5) (.int 1) = some (.bool false) := eqD_int 5 1
    have j5 : eqD (.int 5) (.int 5) = some (.bool true) := eqD_int 5 5
    have lt : ltD (.int 5) (.int 5) = some (.bool false) := rfl
    have q1 : mulD (.list [.str "repair"]) (.int 4) = some (.list [.str "repair", .str "repair", .str "repair", .str "repair"]) := rfl
    have q2 : addD (.list [.str "hands", .str "ovens"]) (.list [.str "repair", .str "repair", .str "repair", .str "repair"]) = some (.list [.str "hands", .str "ovens", .str "repair", .str "repair", .str "repair", .str "repair"]) := rfl
    have q3 : ixD (.list [.str "hands", .str "ovens", .str "repair", .str "repair", .str "repair", .str "repair"]) (.int 5) = some (.str "repair") := rfl
    unfold F_law_spoilt b_law_spoilt
    generalize ptD p = PT at *
    generalize (eqD : D → D → Option D) = eqd at *
    generalize (ltD : D → D → Option D) = ltd at *
    generalize (mulD : D → D → Option D) = mu at *
    generalize (addD : D → D → Option D) = ad at *
    generalize (ixD : D → D → Option D) = ix at *
    generalize (negD : D → Option D) = ne at *
    simp only [DL.mSeq, DL.mIfS, DL.mTest, DL.mAnd, DL.mOr, DL.mNot, DL.mAndV, DL.mOrV, DL.mNotV, DL.mIf, DL.mChain, DL.mOp, DL.mUn, DL.mCall, DL.mC, DL.mVar, DL.pE, DL.pO, DL.fE, DL.aNil, DL.aCons, DL.mFn, DL.mFnG, DL.mTru, DL.mIsi, DL.mIsiT, DL.mNext, DL.mRet, DL.mRetO, DL.mRetF, DL.mRetN, DL.mDrop, DL.mAsg, DL.mOwn, DL.mAug, DL.mSetL, DL.mMt, DL.mTup, DL.mLstF, DL.mDTF, DL.mDKF, DL.mYes, DL.gNm, DL.gTp, DL.gsNil, DL.gsCons, DL.mFrz, DL.frz, DL.mListF, DL.mListRg2, DL.mListRg1, DL.mFnB, List.map_cons, List.map_nil, DL.flatD, DL.mLcF, DL.okW, DL.wipeR, DL.restR, DL.rngD_len, Int.toNat_natCast, Bool.and_self, Bool.and_true, Bool.true_and, DL.mFor, DL.mRng1, DL.mRng2, DL.mIter, DL.mEnumA, Option.bind_some, Option.bind_none, Option.map_some, Option.map_none, List.getElem?_cons_succ, List.getElem?_cons_zero, List.getElem?_nil, List.set_cons_succ, List.set_cons_zero, DL.Sl.oc, DL.Sl.put, DL.ocAt, DL.putAt, DL.ocFits, DL.isIo, DL.rsv, DL.rsvs, DL.vals, DL.toSl, DL.toSls, DL.back, DL.owns, DL.ocD, DL.fin, DL.runF, DL.runG, DL.runP, DL.runQ, List.length_cons, List.length_nil, List.length_set, List.replicate, List.cons_append, List.nil_append, List.nodup_nil, List.nodup_cons, List.not_mem_nil, not_false_eq_true, and_self, and_true, true_and, if_true, if_false, reduceCtorEq, Bool.false_eq_true, ite_true, ite_false, List.mem_cons, or_false, false_or, DL.addD, DL.subD, DL.iD, DL.cmpD, DL.ltD, DL.leD, DL.gtD, DL.geD, DL.ixD, DL.int1D, DL.int2D, DL.intD, DL.absD, DL.min2D, DL.max2D, DL.lenD, DL.itemsD, DL.tupleD, DL.negD, DL.truD, DL.isD, DL.isNotD, DL.isNone, Bool.not_true, Bool.not_false, Nat.reduceAdd, Nat.reduceSub, Nat.reduceLT, Nat.reduceLeDiff, ↓reduceIte, DL.OC.lst.injEq, DL.mUn, DL.mBindX, DL.kDrop, DL.kRet, DL.kAsg, DL.runX, DL.okX, DL.mSetF, DL.putFD, DL.mSIn, DL.mSGet, DL.mIterS, j0, j1, j5, lt, ng, hp, q1, q2, q3, ocD]
  · simp only [List.mem_cons, List.not_mem_nil, or_false] at hm
    rcases hm with rfl | rfl | rfl | rfl | rfl | rfl <;> exact ⟨by decide +kernel, .inr (.inr (.inr (.inr (.inr ⟨rfl, rfl, repair_bad rfl rfl⟩))))⟩
theorem spoilt_4 {p : Pt} {ns : List Int} {o : OC} (hr : Rw ns o) (hn : ns.length ≤ 63) : ∃ (d : D) (w : Str) (x : D) (o' : OC), F_law_spoilt [.io o, .sh (ptD p), .sh (.int 4)] = some (.tuple [d, .str w, x], [.io o', .sh (ptD p), .sh (.int 4)]) ∧ Due p 4 d w x ∧ Rw ns o' := by
  obtain ⟨d, o', hp, hm, hr'⟩ := pick hr hn [.tuple [.int 0, .int 0], .list [.int 0, .int 0, .int 0], .tuple [.int 0, .int 0, .int 4], .tuple [.int 0, .int (-1), .int 0], .none, .tuple [.int 0, .int 0, .bool true], .tuple [.int 0, .int 0, .int 0, .int 0]] (by decide) (by decide)
  refine ⟨d, "budgets", d, o', ?_, ?_, hr'⟩
  · have ng : negD (.int 1) = some (.int (-1)) := rfl
    have j0 : eqD (.int 4) (.int 0) = some (.bool false) := eqD_int 4 0
    have j1 : eqD (.int 4) (.int 1) = some (.bool false) := eqD_int 4 1
    have j5 : eqD (.int 4) (.int 5) = some (.bool false) := eqD_int 4 5
    have j4 : eqD (.int 4) (.int 4) = some (.bool true) := eqD_int 4 4
    unfold F_law_spoilt b_law_spoilt
    generalize ptD p = PT at *
    generalize (eqD : D → D → Option D) = eqd at *
    generalize (negD : D → Option D) = ne at *
    simp only [DL.mSeq, DL.mIfS, DL.mTest, DL.mAnd, DL.mOr, DL.mNot, DL.mAndV, DL.mOrV, DL.mNotV, DL.mIf, DL.mChain, DL.mOp, DL.mUn, DL.mCall, DL.mC, DL.mVar, DL.pE, DL.pO, DL.fE, DL.aNil, DL.aCons, DL.mFn, DL.mFnG, DL.mTru, DL.mIsi, DL.mIsiT, DL.mNext, DL.mRet, DL.mRetO, DL.mRetF, DL.mRetN, DL.mDrop, DL.mAsg, DL.mOwn, DL.mAug, DL.mSetL, DL.mMt, DL.mTup, DL.mLstF, DL.mDTF, DL.mDKF, DL.mYes, DL.gNm, DL.gTp, DL.gsNil, DL.gsCons, DL.mFrz, DL.frz, DL.mListF, DL.mListRg2, DL.mListRg1, DL.mFnB, List.map_cons, List.map_nil, DL.flatD, DL.mLcF, DL.okW, DL.wipeR, DL.restR, DL.rngD_len, Int.toNat_natCast, Bool.and_self, Bool.and_true, Bool.true_and, DL.mFor, DL.mRng1, DL.mRng2, DL.mIter, DL.mEnumA, Option.bind_some, Option.bind_none, Option.map_some, Option.map_none, List.getElem?_cons_succ, List.getElem?_cons_zero, List.getElem?_nil, List.set_cons_succ, List.set_cons_zero, DL.Sl.oc, DL.Sl.put, DL.ocAt, DL.putAt, DL.ocFits, DL.isIo, DL.rsv, DL.rsvs, DL.vals, DL.toSl, DL.toSls, DL.back, DL.owns, DL.ocD, DL.fin, DL.runF, DL.runG, DL.runP, DL.runQ, List.length_cons, List.length_nil, List.length_set, List.replicate, List.cons_append, List.nil_append, List.nodup_nil, List.nodup_cons, List.not_mem_nil, not_false_eq_true, and_self, and_true, true_and, if_true, if_false, reduceCtorEq, Bool.false_eq_true, ite_true, ite_false, List.mem_cons, or_false, false_or, DL.addD, DL.subD, DL.iD, DL.cmpD, DL.ltD, DL.leD, DL.gtD, DL.geD, DL.ixD, DL.int1D, DL.int2D, DL.intD, DL.absD, DL.min2D, DL.max2D, DL.lenD, DL.itemsD, DL.tupleD, DL.negD, DL.truD, DL.isD, DL.isNotD, DL.isNone, Bool.not_true, Bool.not_false, Nat.reduceAdd, Nat.reduceSub, Nat.reduceLT, Nat.reduceLeDiff, ↓reduceIte, DL.OC.lst.injEq, DL.mUn, DL.mBindX, DL.kDrop, DL.kRet, DL.kAsg, DL.runX, DL.okX, DL.mSetF, DL.putFD, DL.mSIn, DL.mSGet, DL.mIterS, j0, j1, j5, j4, ng, hp, ocD]
  · simp only [List.mem_cons, List.not_mem_nil, or_false] at hm
    rcases hm with rfl | rfl | rfl | rfl | rfl | rfl | rfl
    · exact ⟨by decide +kernel, .inr (.inr (.inr (.inr (.inl ⟨rfl, rfl, budgets_bad1 rfl rfl⟩))))⟩
    · exact ⟨by decide +kernel, .inr (.inr (.inr (.inr (.inl ⟨rfl, rfl, budgets_bad1 rfl rfl⟩))))⟩
    · exact ⟨by decide +kernel, .inr (.inr (.inr (.inr (.inl ⟨rfl, rfl, budgets_bad3 rfl rfl rfl rfl⟩))))⟩
    · exact ⟨by decide +kernel, .inr (.inr (.inr (.inr (.inl ⟨rfl, rfl, budgets_bad3 rfl rfl rfl rfl⟩))))⟩
    · exact ⟨by decide +kernel, .inr (.inr (.inr (.inr (.inl ⟨rfl, rfl, budgets_bad1 rfl rfl⟩))))⟩
    · exact ⟨by decide +kernel, .inr (.inr (.inr (.inr (.inl ⟨rfl, rfl, budgets_bad3 rfl rfl rfl rfl⟩))))⟩
    · exact ⟨by decide +kernel, .inr (.inr (.inr (.inr (.inl ⟨rfl, rfl, budgets_bad1 rfl rfl⟩))))⟩
end Lk11
set_option Elab.async false
set_option linter.all false
set_option maxRecDepth 100000
set_option maxHeartbeats 4000000
namespace Lk11
open PySem L2 DL
/-! ### a row with something wrong in it -/
theorem addL (xs ys : List D) (h : xs.length + ys.length ≤ 100000) : addD (.list xs) (.list ys) = some (.list (xs ++ ys)) := if_pos h
theorem put_slL {xs : List D} {k : Nat} (hk : k < xs.length) (hl : xs.length ≤ 1000) (d : D) : slD (.list xs) none (some (k : Int)) = some (.list (xs.take k)) ∧ slD (.list xs) (some ((k : Int) + 1)) none = some (.list (xs.drop (k + 1))) ∧
    addD (.list (xs.take k)) (.list [d]) = some (.list (xs.take k ++ [d])) ∧ addD (.list (xs.take k ++ [d])) (.list (xs.drop (k + 1))) = some (.list (xs.take k ++ [d] ++ xs.drop (k + 1))) := by
  have h1 : (xs.take k).length = k := by rw [List.length_take]; omega
  refine ⟨?_, ?_, addL _ _ (by rw [h1, List.length_singleton]; omega), addL _ _ (by rw [List.length_append, h1, List.length_singleton, List.length_drop]; omega)⟩
  · show some (PyData.list (cutD xs none (some (k : Int)))) = _
    rw [cut_take]
  · have := cut_drop xs (k + 1)
    rw [Int.natCast_succ] at this
    show some (PyData.list (cutD xs (some ((k : Int) + 1)) none)) = _
    rw [this]
def spRet : MS := (mRet (mTup (aCons (pE (mOp addD (pE (mOp addD (pE (mSl (pE (mVar 4)) oNone (oSome (mVar 6)))) (pE (fE (mLstF (aCons (pE (mVar 7)) aNil)))))) (pE (mSl (pE (mVar 4)) (oSome (mOp addD (pE (mVar 6)) (pE (mC (.int 1))))) oNone)))) (aCons (pE (mVar 3)) (aCons (pE (mVar 6)) aNil)))))
theorem sp_ret {a0 a1 a2 a5 : Sl} {items : List D} {m : Nat} {odd : D} {w : D} (hk : m < items.length) (hl : items.length ≤ 10) : spRet [a0, a1, a2, .sh w, .sh (.list items), a5, .sh (.int m), .sh odd] =
    some (.rt (.tuple [.list (items.take m ++ [odd] ++ items.drop (m + 1)), w, .int m]) [a0, a1, a2, .sh w, .sh (.list items), a5, .sh (.int m), .sh odd]) := by
  obtain ⟨s1, s2, s3, s4⟩ := put_slL hk (by omega) odd
  have e1 : addD (.int m) (.int 1) = some (.int ((m : Int) + 1)) := rfl
  unfold spRet
  generalize PyData.list (items.take m ++ [odd] ++ items.drop (m + 1)) = R at *
  generalize PyData.list (items.take m ++ [odd]) = R1 at *
  generalize PyData.list (items.take m) = R2 at *
  generalize PyData.list (items.drop (m + 1)) = R3 at *
  generalize PyData.list items = IT at *
  generalize (addD : D → D → Option D) = ad at *
  simp only [DL.mSeq, DL.mIfS, DL.mTest, DL.mAnd, DL.mOr, DL.mNot, DL.mAndV, DL.mOrV, DL.mNotV, DL.mIf, DL.mChain, DL.mOp, DL.mUn, DL.mCall, DL.mC, DL.mVar, DL.pE, DL.pO, DL.fE, DL.aNil, DL.aCons, DL.mFn, DL.mFnG, DL.mTru, DL.mIsi, DL.mIsiT, DL.mNext, DL.mRet, DL.mRetO, DL.mRetF, DL.mRetN, DL.mDrop, DL.mAsg, DL.mOwn, DL.mAug, DL.mSetL, DL.mMt, DL.mTup, DL.mLstF, DL.mDTF, DL.mDKF, DL.mYes, DL.gNm, DL.gTp, DL.gsNil, DL.gsCons, DL.mFrz, DL.frz, DL.mListF, DL.mListRg2, DL.mListRg1, DL.mFnB, List.map_cons, List.map_nil, DL.flatD, DL.mLcF, DL.okW, DL.wipeR, DL.restR, DL.rngD_len, Int.toNat_natCast, Bool.and_self, Bool.and_true, Bool.true_and, DL.mFor, DL.mRng1, DL.mRng2, DL.mIter, DL.mEnumA, Option.bind_some, Option.bind_none, Option.map_some, Option.map_none, List.getElem?_cons_succ, List.getElem?_cons_zero, List.getElem?_nil, List.set_cons_succ, List.set_cons_zero, DL.Sl.oc, DL.Sl.put, DL.ocAt, DL.putAt, DL.ocFits, DL.isIo, DL.rsv, DL.rsvs, DL.vals, DL.toSl, DL.toSls, DL.back, DL.owns, DL.ocD, DL.fin, DL.runF, DL.runG, DL.runP, DL.runQ, List.length_cons, List.length_nil, List.length_set, List.replicate, List.cons_append, List.nil_append, List.nodup_nil, List.nodup_cons, List.not_mem_nil, not_false_eq_true, and_self, and_true, true_and, if_true, if_false, reduceCtorEq, Bool.false_eq_true, ite_true, ite_false, List.mem_cons, or_false, false_or, DL.addD, DL.subD, DL.iD, DL.cmpD, DL.ltD, DL.leD, DL.gtD, DL.geD, DL.ixD, DL.int1D, DL.int2D, DL.intD, DL.absD, DL.min2D, DL.max2D, DL.lenD, DL.itemsD, DL.tupleD, DL.negD, DL.truD, DL.isD, DL.isNotD, DL.isNone, Bool.not_true, Bool.not_false, Nat.reduceAdd, Nat.reduceSub, Nat.reduceLT, Nat.reduceLeDiff, ↓reduceIte, DL.OC.lst.injEq, DL.mUn, DL.mBindX, DL.kDrop, DL.kRet, DL.kAsg, DL.runX, DL.okX, DL.mSetF, DL.putFD, DL.mSIn, DL.mSGet, DL.mIterS, s1, s2, s3, s4, e1, mSl, oNone, oSome, ocD]
theorem six (xs : List D) (h : xs.length ≤ 5) : mulD (.list xs) (.int 6) = some (.list (List.replicate 6 xs).flatten) := if_pos ⟨by omega, by omega, by omega⟩
theorem six_len (xs : List D) : (List.replicate 6 xs).flatten.length = 6 * xs.length := by
  rw [List.length_flatten, List.map_replicate, List.sum_replicate_nat]
theorem ok_pair (w : Str) (h : Sm (.str w) 0 40) {m : Nat} (hm : m ≤ 10) : okR (.tuple [.str w, .int m]) = true := by
  refine okR_of (k := 1) (w := 2 * (40 + 1)) (sm_tup (k := 0) (w := 40) (fun d hd => ?_) (by show 2 ≤ 2; omega)) rfl (by omega) (by omega)
  simp only [List.mem_cons, List.not_mem_nil, or_false] at hd
  rcases hd with rfl | rfl
  · exact h
  · exact sm_int (by omega)
def kdL (k : Kd) : List D := [.str k.name, .int k.mix, .int k.least, .int k.most, .int k.bake, .int k.fresh]
def odL (q : Str × Int) : List D := [.str q.1, .int q.2]
theorem spoilt_3 {p : Pt} (v : Pv p) {ns : List Int} {o : OC} (hr : Rw ns o) (hn : ns.length ≤ 63) : ∃ (d : D) (w : Str) (x : D) (o' : OC), F_law_spoilt [.io o, .sh (ptD p), .sh (.int 3)] = some (.tuple [d, .str w, x], [.io o', .sh (ptD p), .sh (.int 3)]) ∧ Due p 3 d w x ∧ Rw ns o' := by
  obtain ⟨n1, n4⟩ := v.ol
  have ng : negD (.int 1) = some (.int (-1)) := rfl
  have j0 : eqD (.int 3) (.int 0) = some (.bool false) := eqD_int 3 0
  have j1 : eqD (.int 3) (.int 1) = some (.bool false) := eqD_int 3 1
  have j5 : eqD (.int 3) (.int 5) = some (.bool false) := eqD_int 3 5
  have j4 : eqD (.int 3) (.int 4) = some (.bool false) := eqD_int 3 4
  have j2 : eqD (.int 3) (.int 2) = some (.bool false) := eqD_int 3 2
  have sb : subD (.int 3) (.int 2) = some (.int 1) := rfl
  have w0 : ixD (.list [.str "kinds", .str "orders"]) (.int 1) = some (.str "orders") := rfl
  have ip := (pt_ix p).2.2.2.1
  have it : itemsD (.tuple (p.orders.map odD)) = some (p.orders.map odD) := rfl
  have hlen : (p.orders.map odD).length = p.orders.length := List.length_map ..
  have ln : lenD [.list (p.orders.map odD)] = some (.int (p.orders.length : Nat)) := by show some (PyData.int ((p.orders.map odD).length : Nat)) = _; rw [hlen]
  have h5 : (p.orders.map odD).length ≤ 50000 := by omega
  have mu := six (p.orders.map odD) (by omega)
  obtain ⟨t, o1, ht, t0, t1, hr1⟩ := taken hr hn 4 (by decide) (by decide)
  by_cases z : t = 0
  · subst z
    obtain ⟨d, o2, hp, hm, hr2⟩ := pick hr1 hn [.none, .dict [], .int 5, .list [], .tuple [], .list (List.replicate 6 (p.orders.map odD)).flatten] (by show 0 < 6; omega) (by show 6 ≤ 1000; omega)
    refine ⟨d, "orders", .int (-1), o2, ?_, ?_, hr2⟩
    · have k0 : eqD (.int 0) (.int 0) = some (.bool true) := eqD_int 0 0
      unfold F_law_spoilt b_law_spoilt
      generalize (mRet (mTup (aCons (pE (mOp addD (pE (mOp addD _ _)) _)) _)) : MS) = rt at *
      generalize (List.replicate 6 (p.orders.map odD)).flatten = SX at *
      generalize p.orders.map odD = IT at *
      generalize ptD p = PT at *
      generalize (eqD : D → D → Option D) = eqd at *
      generalize (subD : D → D → Option D) = sbd at *
      generalize (mulD : D → D → Option D) = mud at *
      generalize (ixD : D → D → Option D) = ix at *
      generalize (gtD : D → D → Option D) = gtd at *
      generalize (negD : D → Option D) = ned at *
      generalize (lenD : List D → Option D) = lnd at *
      simp only [DL.mSeq, DL.mIfS, DL.mTest, DL.mAnd, DL.mOr, DL.mNot, DL.mAndV, DL.mOrV, DL.mNotV, DL.mIf, DL.mChain, DL.mOp, DL.mUn, DL.mCall, DL.mC, DL.mVar, DL.pE, DL.pO, DL.fE, DL.aNil, DL.aCons, DL.mFn, DL.mFnG, DL.mTru, DL.mIsi, DL.mIsiT, DL.mNext, DL.mRet, DL.mRetO, DL.mRetF, DL.mRetN, DL.mDrop, DL.mAsg, DL.mOwn, DL.mAug, DL.mSetL, DL.mMt, DL.mTup, DL.mLstF, DL.mDTF, DL.mDKF, DL.mYes, DL.gNm, DL.gTp, DL.gsNil, DL.gsCons, DL.mFrz, DL.frz, DL.mListF, DL.mListRg2, DL.mListRg1, DL.mFnB, List.map_cons, List.map_nil, DL.flatD, DL.mLcF, DL.okW, DL.wipeR, DL.restR, DL.rngD_len, Int.toNat_natCast, Bool.and_self, Bool.and_true, Bool.true_and, DL.mFor, DL.mRng1, DL.mRng2, DL.mIter, DL.mEnumA, Option.bind_some, Option.bind_none, Option.map_some, Option.map_none, List.getElem?_cons_succ, List.getElem?_cons_zero, List.getElem?_nil, List.set_cons_succ, List.set_cons_zero, DL.Sl.oc, DL.Sl.put, DL.ocAt, DL.putAt, DL.ocFits, DL.isIo, DL.rsv, DL.rsvs, DL.vals, DL.toSl, DL.toSls, DL.back, DL.owns, DL.ocD, DL.fin, DL.runF, DL.runG, DL.runP, DL.runQ, List.length_cons, List.length_nil, List.length_set, List.replicate, List.cons_append, List.nil_append, List.nodup_nil, List.nodup_cons, List.not_mem_nil, not_false_eq_true, and_self, and_true, true_and, if_true, if_false, reduceCtorEq, Bool.false_eq_true, ite_true, ite_false, List.mem_cons, or_false, false_or, DL.addD, DL.subD, DL.iD, DL.cmpD, DL.ltD, DL.leD, DL.gtD, DL.geD, DL.ixD, DL.int1D, DL.int2D, DL.intD, DL.absD, DL.min2D, DL.max2D, DL.lenD, DL.itemsD, DL.tupleD, DL.negD, DL.truD, DL.isD, DL.isNotD, DL.isNone, Bool.not_true, Bool.not_false, Nat.reduceAdd, Nat.reduceSub, Nat.reduceLT, Nat.reduceLeDiff, ↓reduceIte, DL.OC.lst.injEq, DL.mUn, DL.mBindX, DL.kDrop, DL.kRet, DL.kAsg, DL.runX, DL.okX, DL.mSetF, DL.putFD, DL.mSIn, DL.mSGet, DL.mIterS, j0, j1, j5, j4, j2, sb, w0, ip, it, mu, ht, k0, ng, hp, ocD, mListF, mPar, nE, nNil, setS, plainSl, h5, List.map_nil]
    · refine ⟨by decide +kernel, ?_⟩
      simp only [List.mem_cons, List.not_mem_nil, or_false] at hm
      rcases hm with rfl | rfl | rfl | rfl | rfl | rfl
      · exact .inr (.inr (.inr (.inl ⟨rfl, rfl, orders_no rfl rfl⟩)))
      · exact .inr (.inr (.inr (.inl ⟨rfl, rfl, orders_no rfl rfl⟩)))
      · exact .inr (.inr (.inr (.inl ⟨rfl, rfl, orders_no rfl rfl⟩)))
      · exact .inr (.inr (.inr (.inl ⟨rfl, rfl, orders_len (rl_lst []) (.inl rfl)⟩)))
      · exact .inr (.inr (.inr (.inl ⟨rfl, rfl, orders_len (rl_tup []) (.inl rfl)⟩)))
      · exact .inr (.inr (.inr (.inl ⟨rfl, rfl, orders_len (rl_lst _) (.inr (by rw [six_len]; omega))⟩)))
  · have k0 : eqD (.int t) (.int 0) = some (.bool false) := by rw [eqD_int, beq_eq_false_iff_ne.mpr z]
    obtain ⟨s, o2, hs, s0, s1, hr2⟩ := taken hr1 hn (p.orders.length : Nat) (by omega) (by omega)
    obtain ⟨m, rfl⟩ : ∃ m : Nat, s = m := ⟨s.toNat, by omega⟩
    have hm : m < p.orders.length := by omega
    obtain ⟨q, hq⟩ : ∃ q, p.orders[m]? = some q := ⟨_, List.getElem?_eq_getElem hm⟩
    have iq : ixD (.list (p.orders.map odD)) (.int m) = some (.tuple (odL q)) := by
      show atI (p.orders.map odD) m = _
      exact atI_of (n := m) rfl (by rw [List.getElem?_map, hq]; rfl)
    have l5 : (odL q).length ≤ 50000 := by show 2 ≤ 50000; omega
    obtain ⟨d1, o3, hp1, hm1, hr3⟩ := pick hr2 hn [.none, .list (odL q), .tuple [.str "rye"], .tuple [.str "nobody", .int 3], .tuple [.str "rye", .int 21], .tuple [.str "rye", .int (-1)], .tuple [.str "rye", .bool true], .tuple [.int 5, .int 3]] (by show 0 < 8; omega) (by show 8 ≤ 1000; omega)
    have rest : (p.orders.map odD).drop (m + 1) = (p.orders.drop (m + 1)).map odD := (List.map_drop ..).symm
    have fin : ∀ odd : D, (p.orders.map odD).take m ++ [odd] ++ (p.orders.map odD).drop (m + 1) = (p.orders.take m).map odD ++ odd :: (p.orders.map odD).drop (m + 1) := fun odd => by
      rw [List.map_take, List.append_assoc]; rfl
    have rl : ((p.orders.map odD).drop (m + 1)).length + m + 1 ≤ 5 := by rw [List.length_drop, hlen]; omega
    refine ⟨.list ((p.orders.map odD).take m ++ [d1] ++ (p.orders.map odD).drop (m + 1)), "orders", .int m, o3, ?_, ?_, hr3⟩
    · have rr := sp_ret (a0 := .io o3) (a1 := .sh (ptD p)) (a2 := .sh (.int 3)) (a5 := .sh (.int t)) (items := p.orders.map odD) (m := m) (odd := d1) (w := .str "orders") (by omega) (by omega)
      unfold F_law_spoilt b_law_spoilt
      rw [show (mRet (mTup (aCons (pE (mOp addD (pE (mOp addD (pE (mSl (pE (mVar 4)) oNone (oSome (mVar 6)))) (pE (fE (mLstF (aCons (pE (mVar 7)) aNil)))))) (pE (mSl (pE (mVar 4)) (oSome (mOp addD (pE (mVar 6)) (pE (mC (.int 1))))) oNone)))) (aCons (pE (mVar 3)) (aCons (pE (mVar 6)) aNil)))) : MS) = spRet from rfl]
      generalize spRet = rt at *
      generalize PyData.list ((p.orders.map odD).take m ++ [d1] ++ (p.orders.map odD).drop (m + 1)) = RES at *
      generalize odL q = LQ at *
      generalize p.orders.map odD = IT at *
      generalize ptD p = PT at *
      generalize (eqD : D → D → Option D) = eqd at *
      generalize (subD : D → D → Option D) = sbd at *
      generalize (mulD : D → D → Option D) = mud at *
      generalize (ixD : D → D → Option D) = ix at *
      generalize (gtD : D → D → Option D) = gtd at *
      generalize (negD : D → Option D) = ned at *
      generalize (lenD : List D → Option D) = lnd at *
      simp only [DL.mSeq, DL.mIfS, DL.mTest, DL.mAnd, DL.mOr, DL.mNot, DL.mAndV, DL.mOrV, DL.mNotV, DL.mIf, DL.mChain, DL.mOp, DL.mUn, DL.mCall, DL.mC, DL.mVar, DL.pE, DL.pO, DL.fE, DL.aNil, DL.aCons, DL.mFn, DL.mFnG, DL.mTru, DL.mIsi, DL.mIsiT, DL.mNext, DL.mRet, DL.mRetO, DL.mRetF, DL.mRetN, DL.mDrop, DL.mAsg, DL.mOwn, DL.mAug, DL.mSetL, DL.mMt, DL.mTup, DL.mLstF, DL.mDTF, DL.mDKF, DL.mYes, DL.gNm, DL.gTp, DL.gsNil, DL.gsCons, DL.mFrz, DL.frz, DL.mListF, DL.mListRg2, DL.mListRg1, DL.mFnB, List.map_cons, List.map_nil, DL.flatD, DL.mLcF, DL.okW, DL.wipeR, DL.restR, DL.rngD_len, Int.toNat_natCast, Bool.and_self, Bool.and_true, Bool.true_and, DL.mFor, DL.mRng1, DL.mRng2, DL.mIter, DL.mEnumA, Option.bind_some, Option.bind_none, Option.map_some, Option.map_none, List.getElem?_cons_succ, List.getElem?_cons_zero, List.getElem?_nil, List.set_cons_succ, List.set_cons_zero, DL.Sl.oc, DL.Sl.put, DL.ocAt, DL.putAt, DL.ocFits, DL.isIo, DL.rsv, DL.rsvs, DL.vals, DL.toSl, DL.toSls, DL.back, DL.owns, DL.ocD, DL.fin, DL.runF, DL.runG, DL.runP, DL.runQ, List.length_cons, List.length_nil, List.length_set, List.replicate, List.cons_append, List.nil_append, List.nodup_nil, List.nodup_cons, List.not_mem_nil, not_false_eq_true, and_self, and_true, true_and, if_true, if_false, reduceCtorEq, Bool.false_eq_true, ite_true, ite_false, List.mem_cons, or_false, false_or, DL.addD, DL.subD, DL.iD, DL.cmpD, DL.ltD, DL.leD, DL.gtD, DL.geD, DL.ixD, DL.int1D, DL.int2D, DL.intD, DL.absD, DL.min2D, DL.max2D, DL.lenD, DL.itemsD, DL.tupleD, DL.negD, DL.truD, DL.isD, DL.isNotD, DL.isNone, Bool.not_true, Bool.not_false, Nat.reduceAdd, Nat.reduceSub, Nat.reduceLT, Nat.reduceLeDiff, ↓reduceIte, DL.OC.lst.injEq, DL.mUn, DL.mBindX, DL.kDrop, DL.kRet, DL.kAsg, DL.runX, DL.okX, DL.mSetF, DL.putFD, DL.mSIn, DL.mSGet, DL.mIterS, j0, j1, j5, j4, j2, sb, w0, ip, it, ht, k0, ln, hs, iq, l5, ng, hp1, ocD, mListF, mPar, nE, nNil, setS, plainSl, h5, rr]
    · refine ⟨ok_pair "orders" (sm_str (by decide +kernel) (by decide +kernel)) (by omega), .inr (.inr (.inr (.inl ⟨rfl, rfl, ?_⟩)))⟩
      rw [fin]
      refine orders_at v hm rl ?_
      simp only [List.mem_cons, List.not_mem_nil, or_false] at hm1
      rcases hm1 with rfl | rfl | rfl | rfl | rfl | rfl | rfl | rfl
      · exact order_no1 rfl rfl
      · exact order_no1 rfl rfl
      · exact order_no1 rfl rfl
      · exact order_noN v
      · exact order_noH v rfl rfl
      · exact order_noH v rfl rfl
      · exact order_noH v rfl rfl
      · exact order_no5
theorem spoilt_2 {p : Pt} (v : Pv p) {ns : List Int} {o : OC} (hr : Rw ns o) (hn : ns.length ≤ 63) : ∃ (d : D) (w : Str) (x : D) (o' : OC), F_law_spoilt [.io o, .sh (ptD p), .sh (.int 2)] = some (.tuple [d, .str w, x], [.io o', .sh (ptD p), .sh (.int 2)]) ∧ Due p 2 d w x ∧ Rw ns o' := by
  obtain ⟨n1, n4⟩ := kn_len v
  have ng : negD (.int 1) = some (.int (-1)) := rfl
  have j0 : eqD (.int 2) (.int 0) = some (.bool false) := eqD_int 2 0
  have j1 : eqD (.int 2) (.int 1) = some (.bool false) := eqD_int 2 1
  have j5 : eqD (.int 2) (.int 5) = some (.bool false) := eqD_int 2 5
  have j4 : eqD (.int 2) (.int 4) = some (.bool false) := eqD_int 2 4
  have j2 : eqD (.int 2) (.int 2) = some (.bool true) := eqD_int 2 2
  have sb : subD (.int 2) (.int 2) = some (.int 0) := rfl
  have w0 : ixD (.list [.str "kinds", .str "orders"]) (.int 0) = some (.str "kinds") := rfl
  have ip := (pt_ix p).2.2.1
  have it : itemsD (.tuple (p.kinds.map kdD)) = some (p.kinds.map kdD) := rfl
  have hlen : (p.kinds.map kdD).length = p.kinds.length := List.length_map ..
  have ln : lenD [.list (p.kinds.map kdD)] = some (.int (p.kinds.length : Nat)) := by show some (PyData.int ((p.kinds.map kdD).length : Nat)) = _; rw [hlen]
  have h5 : (p.kinds.map kdD).length ≤ 50000 := by omega
  have mu := six (p.kinds.map kdD) (by omega)
  obtain ⟨t, o1, ht, t0, t1, hr1⟩ := taken hr hn 4 (by decide) (by decide)
  by_cases z : t = 0
  · subst z
    obtain ⟨d, o2, hp, hm, hr2⟩ := pick hr1 hn [.none, .dict [], .int 5, .list [], .tuple [], .list (List.replicate 6 (p.kinds.map kdD)).flatten] (by show 0 < 6; omega) (by show 6 ≤ 1000; omega)
    refine ⟨d, "kinds", .int (-1), o2, ?_, ?_, hr2⟩
    · have k0 : eqD (.int 0) (.int 0) = some (.bool true) := eqD_int 0 0
      unfold F_law_spoilt b_law_spoilt
      generalize (mRet (mTup (aCons (pE (mOp addD (pE (mOp addD _ _)) _)) _)) : MS) = rt at *
      generalize (List.replicate 6 (p.kinds.map kdD)).flatten = SX at *
      generalize p.kinds.map kdD = IT at *
      generalize ptD p = PT at *
      generalize (eqD : D → D → Option D) = eqd at *
      generalize (subD : D → D → Option D) = sbd at *
      generalize (mulD : D → D → Option D) = mud at *
      generalize (ixD : D → D → Option D) = ix at *
      generalize (gtD : D → D → Option D) = gtd at *
      generalize (negD : D → Option D) = ned at *
      generalize (lenD : List D → Option D) = lnd at *
      simp only [DL.mSeq, DL.mIfS, DL.mTest, DL.mAnd, DL.mOr, DL.mNot, DL.mAndV, DL.mOrV, DL.mNotV, DL.mIf, DL.mChain, DL.mOp, DL.mUn, DL.mCall, DL.mC, DL.mVar, DL.pE, DL.pO, DL.fE, DL.aNil, DL.aCons, DL.mFn, DL.mFnG, DL.mTru, DL.mIsi, DL.mIsiT, DL.mNext, DL.mRet, DL.mRetO, DL.mRetF, DL.mRetN, DL.mDrop, DL.mAsg, DL.mOwn, DL.mAug, DL.mSetL, DL.mMt, DL.mTup, DL.mLstF, DL.mDTF, DL.mDKF, DL.mYes, DL.gNm, DL.gTp, DL.gsNil, DL.gsCons, DL.mFrz, DL.frz, DL.mListF, DL.mListRg2, DL.mListRg1, DL.mFnB, List.map_cons, List.map_nil, DL.flatD, DL.mLcF, DL.okW, DL.wipeR, DL.restR, DL.rngD_len, Int.toNat_natCast, Bool.and_self, Bool.and_true, Bool.true_and, DL.mFor, DL.mRng1, DL.mRng2, DL.mIter, DL.mEnumA, Option.bind_some, Option.bind_none, Option.map_some, Option.map_none, List.getElem?_cons_succ, List.getElem?_cons_zero, List.getElem?_nil, List.set_cons_succ, List.set_cons_zero, DL.Sl.oc, DL.Sl.put, DL.ocAt, DL.putAt, DL.ocFits, DL.isIo, DL.rsv, DL.rsvs, DL.vals, DL.toSl, DL.toSls, DL.back, DL.owns, DL.ocD, DL.fin, DL.runF, DL.runG, DL.runP, DL.runQ, List.length_cons, List.length_nil, List.length_set, List.replicate, List.cons_append, List.nil_append, List.nodup_nil, List.nodup_cons, List.not_mem_nil, not_false_eq_true, and_self, and_true, true_and, if_true, if_false, reduceCtorEq, Bool.false_eq_true, ite_true, ite_false, List.mem_cons, or_false, false_or, DL.addD, DL.subD, DL.iD, DL.cmpD, DL.ltD, DL.leD, DL.gtD, DL.geD, DL.ixD, DL.int1D, DL.int2D, DL.intD, DL.absD, DL.min2D, DL.max2D, DL.lenD, DL.itemsD, DL.tupleD, DL.negD, DL.truD, DL.isD, DL.isNotD, DL.isNone, Bool.not_true, Bool.not_false, Nat.reduceAdd, Nat.reduceSub, Nat.reduceLT, Nat.reduceLeDiff, ↓reduceIte, DL.OC.lst.injEq, DL.mUn, DL.mBindX, DL.kDrop, DL.kRet, DL.kAsg, DL.runX, DL.okX, DL.mSetF, DL.putFD, DL.mSIn, DL.mSGet, DL.mIterS, j0, j1, j5, j4, j2, sb, w0, ip, it, mu, ht, k0, ng, hp, ocD, mListF, mPar, nE, nNil, setS, plainSl, h5, List.map_nil]
    · refine ⟨by decide +kernel, ?_⟩
      simp only [List.mem_cons, List.not_mem_nil, or_false] at hm
      rcases hm with rfl | rfl | rfl | rfl | rfl | rfl
      · exact .inr (.inr (.inl ⟨rfl, rfl, kinds_no rfl rfl⟩))
      · exact .inr (.inr (.inl ⟨rfl, rfl, kinds_no rfl rfl⟩))
      · exact .inr (.inr (.inl ⟨rfl, rfl, kinds_no rfl rfl⟩))
      · exact .inr (.inr (.inl ⟨rfl, rfl, kinds_len (rl_lst []) (.inl rfl)⟩))
      · exact .inr (.inr (.inl ⟨rfl, rfl, kinds_len (rl_tup []) (.inl rfl)⟩))
      · exact .inr (.inr (.inl ⟨rfl, rfl, kinds_len (rl_lst _) (.inr (by rw [six_len]; omega))⟩))
  · have k0 : eqD (.int t) (.int 0) = some (.bool false) := by rw [eqD_int, beq_eq_false_iff_ne.mpr z]
    obtain ⟨s, o2, hs, s0, s1, hr2⟩ := taken hr1 hn (p.kinds.length : Nat) (by omega) (by omega)
    obtain ⟨m, rfl⟩ : ∃ m : Nat, s = m := ⟨s.toNat, by omega⟩
    have hm : m < p.kinds.length := by omega
    obtain ⟨q, hq⟩ : ∃ q, p.kinds[m]? = some q := ⟨_, List.getElem?_eq_getElem hm⟩
    have iq : ixD (.list (p.kinds.map kdD)) (.int m) = some (.tuple (kdL q)) := by
      show atI (p.kinds.map kdD) m = _
      exact atI_of (n := m) rfl (by rw [List.getElem?_map, hq]; rfl)
    have l5 : (kdL q).length ≤ 50000 := by show 6 ≤ 50000; omega
    obtain ⟨d1, o3, hp1, hm1, hr3⟩ := pick hr2 hn [.none, .list (kdL q), .tuple [.str "rye"], .tuple [.str "nobody", .int 3], .tuple [.str "rye", .int 21], .tuple [.str "rye", .int (-1)], .tuple [.str "rye", .bool true], .tuple [.int 5, .int 3]] (by show 0 < 8; omega) (by show 8 ≤ 1000; omega)
    have rest : (p.kinds.map kdD).drop (m + 1) = (p.kinds.drop (m + 1)).map kdD := (List.map_drop ..).symm
    have fin : ∀ odd : D, (p.kinds.map kdD).take m ++ [odd] ++ (p.kinds.map kdD).drop (m + 1) = (p.kinds.take m).map kdD ++ odd :: (p.kinds.map kdD).drop (m + 1) := fun odd => by
      rw [List.map_take, List.append_assoc]; rfl
    have rl : ((p.kinds.map kdD).drop (m + 1)).length + m + 1 ≤ 4 := by rw [List.length_drop, hlen]; omega
    obtain ⟨d2, o4, hp2, hm2, hr4⟩ := pick hr3 hn [.none, .list (kdL q), .tuple [.str "x", .int 0, .int 1, .int 1, .int 1, .int 1], .tuple [.str "x", .int 1, .int 2, .int 1, .int 1, .int 1], .tuple [.str "x", .int 1, .int 1, .int 9, .int 1, .int 1], .tuple [.str "x", .int 1, .int 1, .int 1, .int 5, .int 1], .tuple [.str "X", .int 1, .int 1, .int 1, .int 1, .int 1]] (by show 0 < 7; omega) (by show 7 ≤ 1000; omega)
    -- how the last steps go: another odd thing stands in its place
    have goal : ∀ (odd : D) (o5 : OC), Rw ns o5 → (F_is_kind [.sh odd] = some (.bool false, [.sh odd]) ∨ ∃ q ∈ p.kinds.take m, odd = kdD q) →
        (mIfS (mAnd (mTest (mOp gtD (pE (mVar 6)) (pE (mC (.int 0))))) (mTest (mOp eqD (pE (mFn F_law_taken (aCons (pO 0) (aCons (pE (mC (.int 2))) aNil)))) (pE (mC (.int 0)))))) (mAsg (mOp ixD (pE (mVar 4)) (pE (mC (.int 0)))) (gNm 7)) mNext) [.io o4, .sh (ptD p), .sh (.int 2), .sh (.str "kinds"), .sh (.list (p.kinds.map kdD)), .sh (.int t), .sh (.int m), .sh d2] = some (.nx [.io o5, .sh (ptD p), .sh (.int 2), .sh (.str "kinds"), .sh (.list (p.kinds.map kdD)), .sh (.int t), .sh (.int m), .sh odd]) →
        ∃ (d : D) (w : Str) (x : D) (o' : OC), F_law_spoilt [.io o, .sh (ptD p), .sh (.int 2)] = some (.tuple [d, .str w, x], [.io o', .sh (ptD p), .sh (.int 2)]) ∧ Due p 2 d w x ∧ Rw ns o' := fun odd o5 hr5 hodd hst => by
      refine ⟨.list ((p.kinds.map kdD).take m ++ [odd] ++ (p.kinds.map kdD).drop (m + 1)), "kinds", .int m, o5, ?_, ?_, hr5⟩
      · have rr := sp_ret (a0 := .io o5) (a1 := .sh (ptD p)) (a2 := .sh (.int 2)) (a5 := .sh (.int t)) (items := p.kinds.map kdD) (m := m) (odd := odd) (w := .str "kinds") (by omega) (by omega)
        unfold F_law_spoilt b_law_spoilt
        rw [show (mRet (mTup (aCons (pE (mOp addD (pE (mOp addD (pE (mSl (pE (mVar 4)) oNone (oSome (mVar 6)))) (pE (fE (mLstF (aCons (pE (mVar 7)) aNil)))))) (pE (mSl (pE (mVar 4)) (oSome (mOp addD (pE (mVar 6)) (pE (mC (.int 1))))) oNone)))) (aCons (pE (mVar 3)) (aCons (pE (mVar 6)) aNil)))) : MS) = spRet from rfl]
        generalize spRet = rt at *
        generalize (mIfS (mAnd (mTest (mOp gtD _ _)) _) _ _ : MS) = stp at *
        generalize PyData.list ((p.kinds.map kdD).take m ++ [odd] ++ (p.kinds.map kdD).drop (m + 1)) = RES at *
        generalize kdL q = LQ at *
        generalize p.kinds.map kdD = IT at *
        generalize ptD p = PT at *
        generalize (eqD : D → D → Option D) = eqd at *
        generalize (subD : D → D → Option D) = sbd at *
        generalize (mulD : D → D → Option D) = mud at *
        generalize (ixD : D → D → Option D) = ix at *
        generalize (gtD : D → D → Option D) = gtd at *
        generalize (negD : D → Option D) = ned at *
        generalize (lenD : List D → Option D) = lnd at *
        simp only [DL.mSeq, DL.mIfS, DL.mTest, DL.mAnd, DL.mOr, DL.mNot, DL.mAndV, DL.mOrV, DL.mNotV, DL.mIf, DL.mChain, DL.mOp, DL.mUn, DL.mCall, DL.mC, DL.mVar, DL.pE, DL.pO, DL.fE, DL.aNil, DL.aCons, DL.mFn, DL.mFnG, DL.mTru, DL.mIsi, DL.mIsiT, DL.mNext, DL.mRet, DL.mRetO, DL.mRetF, DL.mRetN, DL.mDrop, DL.mAsg, DL.mOwn, DL.mAug, DL.mSetL, DL.mMt, DL.mTup, DL.mLstF, DL.mDTF, DL.mDKF, DL.mYes, DL.gNm, DL.gTp, DL.gsNil, DL.gsCons, DL.mFrz, DL.frz, DL.mListF, DL.mListRg2, DL.mListRg1, DL.mFnB, List.map_cons, List.map_nil, DL.flatD, DL.mLcF, DL.okW, DL.wipeR, DL.restR, DL.rngD_len, Int.toNat_natCast, Bool.and_self, Bool.and_true, Bool.true_and, DL.mFor, DL.mRng1, DL.mRng2, DL.mIter, DL.mEnumA, Option.bind_some, Option.bind_none, Option.map_some, Option.map_none, List.getElem?_cons_succ, List.getElem?_cons_zero, List.getElem?_nil, List.set_cons_succ, List.set_cons_zero, DL.Sl.oc, DL.Sl.put, DL.ocAt, DL.putAt, DL.ocFits, DL.isIo, DL.rsv, DL.rsvs, DL.vals, DL.toSl, DL.toSls, DL.back, DL.owns, DL.ocD, DL.fin, DL.runF, DL.runG, DL.runP, DL.runQ, List.length_cons, List.length_nil, List.length_set, List.replicate, List.cons_append, List.nil_append, List.nodup_nil, List.nodup_cons, List.not_mem_nil, not_false_eq_true, and_self, and_true, true_and, if_true, if_false, reduceCtorEq, Bool.false_eq_true, ite_true, ite_false, List.mem_cons, or_false, false_or, DL.addD, DL.subD, DL.iD, DL.cmpD, DL.ltD, DL.leD, DL.gtD, DL.geD, DL.ixD, DL.int1D, DL.int2D, DL.intD, DL.absD, DL.min2D, DL.max2D, DL.lenD, DL.itemsD, DL.tupleD, DL.negD, DL.truD, DL.isD, DL.isNotD, DL.isNone, Bool.not_true, Bool.not_false, Nat.reduceAdd, Nat.reduceSub, Nat.reduceLT, Nat.reduceLeDiff, ↓reduceIte, DL.OC.lst.injEq, DL.mUn, DL.mBindX, DL.kDrop, DL.kRet, DL.kAsg, DL.runX, DL.okX, DL.mSetF, DL.putFD, DL.mSIn, DL.mSGet, DL.mIterS, j0, j1, j5, j4, j2, sb, w0, ip, it, ht, k0, ln, hs, iq, l5, ng, hp1, hp2, ocD, mListF, mPar, nE, nNil, setS, plainSl, h5, hst, rr]
      · refine ⟨ok_pair "kinds" (sm_str (by decide +kernel) (by decide +kernel)) (by omega), .inr (.inr (.inl ⟨rfl, rfl, ?_⟩))⟩
        rw [fin]
        exact kinds_at v hm rl hodd
    have bad2 : F_is_kind [.sh d2] = some (.bool false, [.sh d2]) := by
      simp only [List.mem_cons, List.not_mem_nil, or_false] at hm2
      rcases hm2 with rfl | rfl | rfl | rfl | rfl | rfl | rfl
      · exact kind_no1 rfl rfl
      · exact kind_no1 rfl rfl
      · exact kind_no2 nm_x (.inl ⟨rfl, rfl, rfl, rfl, rfl⟩)
      · exact kind_no2 nm_x (.inr (.inl ⟨rfl, rfl, rfl, rfl, rfl⟩))
      · exact kind_no2 nm_x (.inr (.inr (.inl ⟨rfl, rfl, rfl, rfl, rfl⟩)))
      · exact kind_no2 nm_x (.inr (.inr (.inr ⟨rfl, rfl, rfl, rfl, rfl⟩)))
      · exact kind_noX
    by_cases zm : m = 0
    · subst zm
      refine goal d2 o4 hr4 (.inl bad2) ?_
      have g0 : gtD (.int (0 : Nat)) (.int 0) = some (.bool false) := rfl
      generalize ptD p = PT at *
      generalize p.kinds.map kdD = IT at *
      generalize (gtD : D → D → Option D) = gtd at *
      simp only [DL.mSeq, DL.mIfS, DL.mTest, DL.mAnd, DL.mOr, DL.mNot, DL.mAndV, DL.mOrV, DL.mNotV, DL.mIf, DL.mChain, DL.mOp, DL.mUn, DL.mCall, DL.mC, DL.mVar, DL.pE, DL.pO, DL.fE, DL.aNil, DL.aCons, DL.mFn, DL.mFnG, DL.mTru, DL.mIsi, DL.mIsiT, DL.mNext, DL.mRet, DL.mRetO, DL.mRetF, DL.mRetN, DL.mDrop, DL.mAsg, DL.mOwn, DL.mAug, DL.mSetL, DL.mMt, DL.mTup, DL.mLstF, DL.mDTF, DL.mDKF, DL.mYes, DL.gNm, DL.gTp, DL.gsNil, DL.gsCons, DL.mFrz, DL.frz, DL.mListF, DL.mListRg2, DL.mListRg1, DL.mFnB, List.map_cons, List.map_nil, DL.flatD, DL.mLcF, DL.okW, DL.wipeR, DL.restR, DL.rngD_len, Int.toNat_natCast, Bool.and_self, Bool.and_true, Bool.true_and, DL.mFor, DL.mRng1, DL.mRng2, DL.mIter, DL.mEnumA, Option.bind_some, Option.bind_none, Option.map_some, Option.map_none, List.getElem?_cons_succ, List.getElem?_cons_zero, List.getElem?_nil, List.set_cons_succ, List.set_cons_zero, DL.Sl.oc, DL.Sl.put, DL.ocAt, DL.putAt, DL.ocFits, DL.isIo, DL.rsv, DL.rsvs, DL.vals, DL.toSl, DL.toSls, DL.back, DL.owns, DL.ocD, DL.fin, DL.runF, DL.runG, DL.runP, DL.runQ, List.length_cons, List.length_nil, List.length_set, List.replicate, List.cons_append, List.nil_append, List.nodup_nil, List.nodup_cons, List.not_mem_nil, not_false_eq_true, and_self, and_true, true_and, if_true, if_false, reduceCtorEq, Bool.false_eq_true, ite_true, ite_false, List.mem_cons, or_false, false_or, DL.addD, DL.subD, DL.iD, DL.cmpD, DL.ltD, DL.leD, DL.gtD, DL.geD, DL.ixD, DL.int1D, DL.int2D, DL.intD, DL.absD, DL.min2D, DL.max2D, DL.lenD, DL.itemsD, DL.tupleD, DL.negD, DL.truD, DL.isD, DL.isNotD, DL.isNone, Bool.not_true, Bool.not_false, Nat.reduceAdd, Nat.reduceSub, Nat.reduceLT, Nat.reduceLeDiff, ↓reduceIte, DL.OC.lst.injEq, DL.mUn, DL.mBindX, DL.kDrop, DL.kRet, DL.kAsg, DL.runX, DL.okX, DL.mSetF, DL.putFD, DL.mSIn, DL.mSGet, DL.mIterS, g0]
    · have g0 : gtD (.int m) (.int 0) = some (.bool true) := by
        show some (PyData.bool (decide ((m : Int) > 0))) = _
        rw [decide_eq_true (by omega)]
      obtain ⟨u, o5, hu, u0, u1, hr5⟩ := taken hr4 hn 2 (by decide) (by decide)
      by_cases zu : u = 0
      · subst zu
        obtain ⟨q0, hq0⟩ : ∃ q, p.kinds[0]? = some q := ⟨_, List.getElem?_eq_getElem (by omega)⟩
        have i0 : ixD (.list (p.kinds.map kdD)) (.int 0) = some (kdD q0) := by
          show atI (p.kinds.map kdD) 0 = _
          exact atI_of (n := 0) rfl (by rw [List.getElem?_map, hq0]; rfl)
        have e0 : eqD (.int 0) (.int 0) = some (.bool true) := eqD_int 0 0
        refine goal (kdD q0) o5 hr5 (.inr ⟨q0, ?_, rfl⟩) ?_
        · exact List.mem_of_getElem? (i := 0) (by rw [List.getElem?_take_of_lt (by omega)]; exact hq0)
        · generalize ptD p = PT at *
          generalize kdD q0 = K0 at *
          generalize p.kinds.map kdD = IT at *
          generalize (gtD : D → D → Option D) = gtd at *
          generalize (eqD : D → D → Option D) = eqd at *
          generalize (ixD : D → D → Option D) = ix at *
          simp only [DL.mSeq, DL.mIfS, DL.mTest, DL.mAnd, DL.mOr, DL.mNot, DL.mAndV, DL.mOrV, DL.mNotV, DL.mIf, DL.mChain, DL.mOp, DL.mUn, DL.mCall, DL.mC, DL.mVar, DL.pE, DL.pO, DL.fE, DL.aNil, DL.aCons, DL.mFn, DL.mFnG, DL.mTru, DL.mIsi, DL.mIsiT, DL.mNext, DL.mRet, DL.mRetO, DL.mRetF, DL.mRetN, DL.mDrop, DL.mAsg, DL.mOwn, DL.mAug, DL.mSetL, DL.mMt, DL.mTup, DL.mLstF, DL.mDTF, DL.mDKF, DL.mYes, DL.gNm, DL.gTp, DL.gsNil, DL.gsCons, DL.mFrz, DL.frz, DL.mListF, DL.mListRg2, DL.mListRg1, DL.mFnB, List.map_cons, List.map_nil, DL.flatD, DL.mLcF, DL.okW, DL.wipeR, DL.restR, DL.rngD_len, Int.toNat_natCast, Bool.and_self, Bool.and_true, Bool.true_and, DL.mFor, DL.mRng1, DL.mRng2, DL.mIter, DL.mEnumA, Option.bind_some, Option.bind_none, Option.map_some, Option.map_none, List.getElem?_cons_succ, List.getElem?_cons_zero, List.getElem?_nil, List.set_cons_succ, List.set_cons_zero, DL.Sl.oc, DL.Sl.put, DL.ocAt, DL.putAt, DL.ocFits, DL.isIo, DL.rsv, DL.rsvs, DL.vals, DL.toSl, DL.toSls, DL.back, DL.owns, DL.ocD, DL.fin, DL.runF, DL.runG, DL.runP, DL.runQ, List.length_cons, List.length_nil, List.length_set, List.replicate, List.cons_append, List.nil_append, List.nodup_nil, List.nodup_cons, List.not_mem_nil, not_false_eq_true, and_self, and_true, true_and, if_true, if_false, reduceCtorEq, Bool.false_eq_true, ite_true, ite_false, List.mem_cons, or_false, false_or, DL.addD, DL.subD, DL.iD, DL.cmpD, DL.ltD, DL.leD, DL.gtD, DL.geD, DL.ixD, DL.int1D, DL.int2D, DL.intD, DL.absD, DL.min2D, DL.max2D, DL.lenD, DL.itemsD, DL.tupleD, DL.negD, DL.truD, DL.isD, DL.isNotD, DL.isNone, Bool.not_true, Bool.not_false, Nat.reduceAdd, Nat.reduceSub, Nat.reduceLT, Nat.reduceLeDiff, ↓reduceIte, DL.OC.lst.injEq, DL.mUn, DL.mBindX, DL.kDrop, DL.kRet, DL.kAsg, DL.runX, DL.okX, DL.mSetF, DL.putFD, DL.mSIn, DL.mSGet, DL.mIterS, g0, hu, e0, i0]
      · have e0 : eqD (.int u) (.int 0) = some (.bool false) := by rw [eqD_int, beq_eq_false_iff_ne.mpr zu]
        refine goal d2 o5 hr5 (.inl bad2) ?_
        generalize ptD p = PT at *
        generalize p.kinds.map kdD = IT at *
        generalize (gtD : D → D → Option D) = gtd at *
        generalize (eqD : D → D → Option D) = eqd at *
        generalize (ixD : D → D → Option D) = ix at *
        simp only [DL.mSeq, DL.mIfS, DL.mTest, DL.mAnd, DL.mOr, DL.mNot, DL.mAndV, DL.mOrV, DL.mNotV, DL.mIf, DL.mChain, DL.mOp, DL.mUn, DL.mCall, DL.mC, DL.mVar, DL.pE, DL.pO, DL.fE, DL.aNil, DL.aCons, DL.mFn, DL.mFnG, DL.mTru, DL.mIsi, DL.mIsiT, DL.mNext, DL.mRet, DL.mRetO, DL.mRetF, DL.mRetN, DL.mDrop, DL.mAsg, DL.mOwn, DL.mAug, DL.mSetL, DL.mMt, DL.mTup, DL.mLstF, DL.mDTF, DL.mDKF, DL.mYes, DL.gNm, DL.gTp, DL.gsNil, DL.gsCons, DL.mFrz, DL.frz, DL.mListF, DL.mListRg2, DL.mListRg1, DL.mFnB, List.map_cons, List.map_nil, DL.flatD, DL.mLcF, DL.okW, DL.wipeR, DL.restR, DL.rngD_len, Int.toNat_natCast, Bool.and_self, Bool.and_true, Bool.true_and, DL.mFor, DL.mRng1, DL.mRng2, DL.mIter, DL.mEnumA, Option.bind_some, Option.bind_none, Option.map_some, Option.map_none, List.getElem?_cons_succ, List.getElem?_cons_zero, List.getElem?_nil, List.set_cons_succ, List.set_cons_zero, DL.Sl.oc, DL.Sl.put, DL.ocAt, DL.putAt, DL.ocFits, DL.isIo, DL.rsv, DL.rsvs, DL.vals, DL.toSl, DL.toSls, DL.back, DL.owns, DL.ocD, DL.fin, DL.runF, DL.runG, DL.runP, DL.runQ, List.length_cons, List.length_nil, List.length_set, List.replicate, List.cons_append, List.nil_append, List.nodup_nil, List.nodup_cons, List.not_mem_nil, not_false_eq_true, and_self, and_true, true_and, if_true, if_false, reduceCtorEq, Bool.false_eq_true, ite_true, ite_false, List.mem_cons, or_false, false_or, DL.addD, DL.subD, DL.iD, DL.cmpD, DL.ltD, DL.leD, DL.gtD, DL.geD, DL.ixD, DL.int1D, DL.int2D, DL.intD, DL.absD, DL.min2D, DL.max2D, DL.lenD, DL.itemsD, DL.tupleD, DL.negD, DL.truD, DL.isD, DL.isNotD, DL.isNone, Bool.not_true, Bool.not_false, Nat.reduceAdd, Nat.reduceSub, Nat.reduceLT, Nat.reduceLeDiff, ↓reduceIte, DL.OC.lst.injEq, DL.mUn, DL.mBindX, DL.kDrop, DL.kRet, DL.kAsg, DL.runX, DL.okX, DL.mSetF, DL.putFD, DL.mSIn, DL.mSGet, DL.mIterS, g0, hu, e0]
end Lk11
set_option Elab.async false
set_option linter.all false
set_option maxRecDepth 100000
set_option maxHeartbeats 4000000
namespace Lk11
open PySem L2 DL
/-! ### a turn -/
def Nn (x : Sl) : Prop := x = .no ∨ ∃ d, x = .sh d
def Nw (x : Sl) : Prop := x = .no ∨ ∃ c, x = .ow c
theorem spoilt_is {p : Pt} (v : Pv p) {ns : List Int} {o : OC} (hr : Rw ns o) (hn : ns.length ≤ 63) {k : Nat} (hk : k < 6) : ∃ (d : D) (w : Str) (x : D) (o' : OC), F_law_spoilt [.io o, .sh (.tuple (pL p)), .sh (.int k)] = some (.tuple [d, .str w, x], [.io o', .sh (.tuple (pL p)), .sh (.int k)]) ∧ Due p k d w x ∧ Rw ns o' := by
  match k, hk with
  | 0, _ => exact spoilt_0 hr hn
  | 1, _ => exact spoilt_1 hr hn
  | 2, _ => exact spoilt_2 v hr hn
  | 3, _ => exact spoilt_3 v hr hn
  | 4, _ => exact spoilt_4 hr hn
  | 5, _ => exact spoilt_5 hr hn
noncomputable def tA : MS := (mPar [6, 7] (nF (mListF (pE (mVar 2))) (nE (mFn F_law_taken (aCons (pO 1) (aCons (pE (mC (.int 6))) aNil))) nNil)))
noncomputable def tB : MS := (mAsg (mFn F_law_spoilt (aCons (pO 1) (aCons (pE (mVar 2)) (aCons (pE (mVar 7)) aNil)))) (gNm 8))
noncomputable def tC : MS := (mSetL 6 (pE (mVar 7)) (mOp ixD (pE (mVar 8)) (pE (mC (.int 0)))))
noncomputable def tI : MS := (mIfS (mTest (mOp eqD (pE (mFn F_law_taken (aCons (pO 1) (aCons (pE (mC (.int 3))) aNil)))) (pE (mC (.int 0))))) (mSetL 6 (pE (mVar 9)) (mOp ixD (pE (mFn F_law_spoilt (aCons (pO 1) (aCons (pE (mVar 2)) (aCons (pE (mVar 9)) aNil))))) (pE (mC (.int 0))))) mNext)
noncomputable def tD : MS := (mFor (mRng2 (mOp addD (pE (mVar 7)) (pE (mC (.int 1)))) (mC (.int 6))) (gNm 9) tI)
noncomputable def tE : MS := (mAsg (mLam F_law_refused (mlMk "Night" F_Night_init [] (aCons (pE (mOp ixD (pO 6) (pE (mC (.int 0))))) (aCons (pE (mOp ixD (pO 6) (pE (mC (.int 1))))) (aCons (pE (mOp ixD (pO 6) (pE (mC (.int 2))))) (aCons (pE (mOp ixD (pO 6) (pE (mC (.int 3))))) (aCons (pE (mOp ixD (pO 6) (pE (mC (.int 4))))) (aCons (pE (mOp ixD (pO 6) (pE (mC (.int 5))))) aNil)))))))) (gNm 10))
noncomputable def tF : MS := (mIfS (mTest (mOp neSD (pE (mCall reprW (aCons (pE (mVar 10)) aNil))) (pE (mCall reprW (aCons (pE (mTup (aCons (pE (mOp ixD (pE (mVar 8)) (pE (mC (.int 1))))) (aCons (pE (mOp ixD (pE (mVar 8)) (pE (mC (.int 2))))) aNil)))) aNil))))) (mRet (mC (.bool false))) mNext)
noncomputable def tBody : MS := mSeq tA (mSeq tB (mSeq tC (mSeq tD (mSeq tE tF))))
theorem tA_ok {p : Pt} {ns : List Int} (hn : ns.length ≤ 63) {o : OC} (hr : Rw ns o) {a0 a3 a4 a5 x6 x7 x8 x9 x10 : Sl} (h6 : Nw x6) (h7 : Nn x7) :
    ∃ (k : Nat) (o' : OC), k < 6 ∧ Rw ns o' ∧ tA [a0, .ow o, .sh (.tuple (pL p)), a3, a4, a5, x6, x7, x8, x9, x10, .no, .no] = some (.nx [a0, .ow o', .sh (.tuple (pL p)), a3, a4, a5, .ow (.lst (pL p)), .sh (.int k), x8, x9, x10, .no, .no]) := by
  obtain ⟨t, o', ht, t0, t1, hr'⟩ := taken hr hn 6 (by decide) (by decide)
  obtain ⟨k, rfl⟩ : ∃ k : Nat, t = k := ⟨t.toNat, by omega⟩
  refine ⟨k, o', by omega, hr', ?_⟩
  unfold tA
  generalize pL p = PL at *
  rcases h6 with rfl | ⟨c, rfl⟩ <;> rcases h7 with rfl | ⟨d, rfl⟩ <;> simp only [DL.mSeq, DL.mIfS, DL.mTest, DL.mAnd, DL.mOr, DL.mNot, DL.mAndV, DL.mOrV, DL.mNotV, DL.mIf, DL.mChain, DL.mOp, DL.mUn, DL.mCall, DL.mC, DL.mVar, DL.pE, DL.pO, DL.fE, DL.aNil, DL.aCons, DL.mFn, DL.mFnG, DL.mTru, DL.mIsi, DL.mIsiT, DL.mNext, DL.mRet, DL.mRetO, DL.mRetF, DL.mRetN, DL.mDrop, DL.mAsg, DL.mOwn, DL.mAug, DL.mSetL, DL.mMt, DL.mTup, DL.mLstF, DL.mDTF, DL.mDKF, DL.mYes, DL.gNm, DL.gTp, DL.gsNil, DL.gsCons, DL.mFrz, DL.frz, DL.mListF, DL.mListRg2, DL.mListRg1, DL.mFnB, List.map_cons, List.map_nil, DL.flatD, DL.mLcF, DL.okW, DL.wipeR, DL.restR, DL.rngD_len, Int.toNat_natCast, Bool.and_self, Bool.and_true, Bool.true_and, DL.mFor, DL.mRng1, DL.mRng2, DL.mIter, DL.mEnumA, Option.bind_some, Option.bind_none, Option.map_some, Option.map_none, List.getElem?_cons_succ, List.getElem?_cons_zero, List.getElem?_nil, List.set_cons_succ, List.set_cons_zero, DL.Sl.oc, DL.Sl.put, DL.ocAt, DL.putAt, DL.ocFits, DL.isIo, DL.rsv, DL.rsvs, DL.vals, DL.toSl, DL.toSls, DL.back, DL.owns, DL.ocD, DL.fin, DL.runF, DL.runG, DL.runP, DL.runQ, List.length_cons, List.length_nil, List.length_set, List.replicate, List.cons_append, List.nil_append, List.nodup_nil, List.nodup_cons, List.not_mem_nil, not_false_eq_true, and_self, and_true, true_and, if_true, if_false, reduceCtorEq, Bool.false_eq_true, ite_true, ite_false, List.mem_cons, or_false, false_or, DL.addD, DL.subD, DL.iD, DL.cmpD, DL.ltD, DL.leD, DL.gtD, DL.geD, DL.ixD, DL.int1D, DL.int2D, DL.intD, DL.absD, DL.min2D, DL.max2D, DL.lenD, DL.itemsD, DL.tupleD, DL.negD, DL.truD, DL.isD, DL.isNotD, DL.isNone, Bool.not_true, Bool.not_false, Nat.reduceAdd, Nat.reduceSub, Nat.reduceLT, Nat.reduceLeDiff, ↓reduceIte, DL.OC.lst.injEq, DL.mUn, DL.mBindX, DL.kDrop, DL.kRet, DL.kAsg, DL.runX, DL.okX, DL.mSetF, DL.putFD, DL.mSIn, DL.mSGet, DL.mIterS, rsv, ht, mListF, mPar, nF, nE, nNil, setS, plainSl, ocD]
theorem setL_at {l : List D} {j : Nat} (h : j < l.length) (hl : l.length ≤ 100000) : ixN l.length (j : Int) = some j := by
  unfold ixN
  rw [if_pos (by omega), if_pos (by omega), Int.toNat_natCast]
theorem tBC_ok {p : Pt} {d w x : D} {k : Nat} (hk : k < 6) {o o' : OC} {a0 a3 a4 a5 x8 x9 x10 : Sl} (h8 : Nn x8) (hs : F_law_spoilt [.io o, .sh (.tuple (pL p)), .sh (.int k)] = some (.tuple [d, w, x], [.io o', .sh (.tuple (pL p)), .sh (.int k)])) :
    (mSeq tB tC) [a0, .ow o, .sh (.tuple (pL p)), a3, a4, a5, .ow (.lst (pL p)), .sh (.int k), x8, x9, x10, .no, .no] = some (.nx [a0, .ow o', .sh (.tuple (pL p)), a3, a4, a5, .ow (.lst ((pL p).set k d)), .sh (.int k), .sh (.tuple [d, w, x]), x9, x10, .no, .no]) := by
  have i0 : ixD (.tuple [d, w, x]) (.int 0) = some d := rfl
  have hx : ixN (pL p).length (k : Int) = some k := setL_at (by show k < 6; exact hk) (by show 6 ≤ 100000; omega)
  unfold tB tC
  generalize PyData.tuple [d, w, x] = T at *
  generalize pL p = PL at *
  generalize (ixD : D → D → Option D) = ix at *
  rcases h8 with rfl | ⟨e, rfl⟩ <;> simp only [DL.mSeq, DL.mIfS, DL.mTest, DL.mAnd, DL.mOr, DL.mNot, DL.mAndV, DL.mOrV, DL.mNotV, DL.mIf, DL.mChain, DL.mOp, DL.mUn, DL.mCall, DL.mC, DL.mVar, DL.pE, DL.pO, DL.fE, DL.aNil, DL.aCons, DL.mFn, DL.mFnG, DL.mTru, DL.mIsi, DL.mIsiT, DL.mNext, DL.mRet, DL.mRetO, DL.mRetF, DL.mRetN, DL.mDrop, DL.mAsg, DL.mOwn, DL.mAug, DL.mSetL, DL.mMt, DL.mTup, DL.mLstF, DL.mDTF, DL.mDKF, DL.mYes, DL.gNm, DL.gTp, DL.gsNil, DL.gsCons, DL.mFrz, DL.frz, DL.mListF, DL.mListRg2, DL.mListRg1, DL.mFnB, List.map_cons, List.map_nil, DL.flatD, DL.mLcF, DL.okW, DL.wipeR, DL.restR, DL.rngD_len, Int.toNat_natCast, Bool.and_self, Bool.and_true, Bool.true_and, DL.mFor, DL.mRng1, DL.mRng2, DL.mIter, DL.mEnumA, Option.bind_some, Option.bind_none, Option.map_some, Option.map_none, List.getElem?_cons_succ, List.getElem?_cons_zero, List.getElem?_nil, List.set_cons_succ, List.set_cons_zero, DL.Sl.oc, DL.Sl.put, DL.ocAt, DL.putAt, DL.ocFits, DL.isIo, DL.rsv, DL.rsvs, DL.vals, DL.toSl, DL.toSls, DL.back, DL.owns, DL.ocD, DL.fin, DL.runF, DL.runG, DL.runP, DL.runQ, List.length_cons, List.length_nil, List.length_set, List.replicate, List.cons_append, List.nil_append, List.nodup_nil, List.nodup_cons, List.not_mem_nil, not_false_eq_true, and_self, and_true, true_and, if_true, if_false, reduceCtorEq, Bool.false_eq_true, ite_true, ite_false, List.mem_cons, or_false, false_or, DL.addD, DL.subD, DL.iD, DL.cmpD, DL.ltD, DL.leD, DL.gtD, DL.geD, DL.ixD, DL.int1D, DL.int2D, DL.intD, DL.absD, DL.min2D, DL.max2D, DL.lenD, DL.itemsD, DL.tupleD, DL.negD, DL.truD, DL.isD, DL.isNotD, DL.isNone, Bool.not_true, Bool.not_false, Nat.reduceAdd, Nat.reduceSub, Nat.reduceLT, Nat.reduceLeDiff, ↓reduceIte, DL.OC.lst.injEq, DL.mUn, DL.mBindX, DL.kDrop, DL.kRet, DL.kAsg, DL.runX, DL.okX, DL.mSetF, DL.putFD, DL.mSIn, DL.mSGet, DL.mIterS, rsv, hs, i0, hx, mSetL, ocD]
theorem inner {p : Pt} (v : Pv p) {ns : List Int} (hn : ns.length ≤ 63) {k : Nat} {pre : List D} {a0 a3 a4 a5 x7 x8 x10 : Sl} : ∀ (r j : Nat) (l : List D) (o : OC) (x9 : Sl), Rw ns o → Nn x9 → l.length = 6 → l.take (k + 1) = pre → k < j → j + r = 6 →
    ∃ (l' : List D) (o' : OC) (w9 : Sl), Rw ns o' ∧ Nn w9 ∧ l'.length = 6 ∧ l'.take (k + 1) = pre ∧
      forD (gNm 9) tI (rngD (j : Int) r) [a0, .ow o, .sh (.tuple (pL p)), a3, a4, a5, .ow (.lst l), x7, x8, x9, x10, .no, .no] = some (.nx [a0, .ow o', .sh (.tuple (pL p)), a3, a4, a5, .ow (.lst l'), x7, x8, w9, x10, .no, .no])
  | 0, j, l, o, x9, hr, h9, hl, ht, _, _ => ⟨l, o, x9, hr, h9, hl, ht, rfl⟩
  | r + 1, j, l, o, x9, hr, h9, hl, ht, hkj, hj => by
    obtain ⟨t, o1, e1, t0, t1, hr1⟩ := taken hr hn 3 (by decide) (by decide)
    have hg : gNm 9 (.int j) [a0, .ow o, .sh (.tuple (pL p)), a3, a4, a5, .ow (.lst l), x7, x8, x9, x10, .no, .no] = some [a0, .ow o, .sh (.tuple (pL p)), a3, a4, a5, .ow (.lst l), x7, x8, .sh (.int j), x10, .no, .no] := by
      rcases h9 with rfl | ⟨d, rfl⟩ <;> rfl
    have step : ∃ (l1 : List D) (o2 : OC), Rw ns o2 ∧ l1.length = 6 ∧ l1.take (k + 1) = pre ∧ tI [a0, .ow o, .sh (.tuple (pL p)), a3, a4, a5, .ow (.lst l), x7, x8, .sh (.int j), x10, .no, .no] = some (.nx [a0, .ow o2, .sh (.tuple (pL p)), a3, a4, a5, .ow (.lst l1), x7, x8, .sh (.int j), x10, .no, .no]) := by
      by_cases z : t = 0
      · subst z
        obtain ⟨d, w, x, o2, hs, _, hr2⟩ := spoilt_is v hr1 hn (k := j) (by omega)
        have e0 : eqD (.int 0) (.int 0) = some (.bool true) := eqD_int 0 0
        have i0 : ixD (.tuple [d, .str w, x]) (.int 0) = some d := rfl
        have hx : ixN l.length (j : Int) = some j := setL_at (by omega) (by omega)
        refine ⟨l.set j d, o2, hr2, by rw [List.length_set]; exact hl, ?_, ?_⟩
        · rw [List.take_set_of_le (by omega)]; exact ht
        · unfold tI
          generalize PyData.tuple [d, .str w, x] = T at *
          generalize pL p = PL at *
          generalize (eqD : D → D → Option D) = eqd at *
          generalize (ixD : D → D → Option D) = ix at *
          simp only [DL.mSeq, DL.mIfS, DL.mTest, DL.mAnd, DL.mOr, DL.mNot, DL.mAndV, DL.mOrV, DL.mNotV, DL.mIf, DL.mChain, DL.mOp, DL.mUn, DL.mCall, DL.mC, DL.mVar, DL.pE, DL.pO, DL.fE, DL.aNil, DL.aCons, DL.mFn, DL.mFnG, DL.mTru, DL.mIsi, DL.mIsiT, DL.mNext, DL.mRet, DL.mRetO, DL.mRetF, DL.mRetN, DL.mDrop, DL.mAsg, DL.mOwn, DL.mAug, DL.mSetL, DL.mMt, DL.mTup, DL.mLstF, DL.mDTF, DL.mDKF, DL.mYes, DL.gNm, DL.gTp, DL.gsNil, DL.gsCons, DL.mFrz, DL.frz, DL.mListF, DL.mListRg2, DL.mListRg1, DL.mFnB, List.map_cons, List.map_nil, DL.flatD, DL.mLcF, DL.okW, DL.wipeR, DL.restR, DL.rngD_len, Int.toNat_natCast, Bool.and_self, Bool.and_true, Bool.true_and, DL.mFor, DL.mRng1, DL.mRng2, DL.mIter, DL.mEnumA, Option.bind_some, Option.bind_none, Option.map_some, Option.map_none, List.getElem?_cons_succ, List.getElem?_cons_zero, List.getElem?_nil, List.set_cons_succ, List.set_cons_zero, DL.Sl.oc, DL.Sl.put, DL.ocAt, DL.putAt, DL.ocFits, DL.isIo, DL.rsv, DL.rsvs, DL.vals, DL.toSl, DL.toSls, DL.back, DL.owns, DL.ocD, DL.fin, DL.runF, DL.runG, DL.runP, DL.runQ, List.length_cons, List.length_nil, List.length_set, List.replicate, List.cons_append, List.nil_append, List.nodup_nil, List.nodup_cons, List.not_mem_nil, not_false_eq_true, and_self, and_true, true_and, if_true, if_false, reduceCtorEq, Bool.false_eq_true, ite_true, ite_false, List.mem_cons, or_false, false_or, DL.addD, DL.subD, DL.iD, DL.cmpD, DL.ltD, DL.leD, DL.gtD, DL.geD, DL.ixD, DL.int1D, DL.int2D, DL.intD, DL.absD, DL.min2D, DL.max2D, DL.lenD, DL.itemsD, DL.tupleD, DL.negD, DL.truD, DL.isD, DL.isNotD, DL.isNone, Bool.not_true, Bool.not_false, Nat.reduceAdd, Nat.reduceSub, Nat.reduceLT, Nat.reduceLeDiff, ↓reduceIte, DL.OC.lst.injEq, DL.mUn, DL.mBindX, DL.kDrop, DL.kRet, DL.kAsg, DL.runX, DL.okX, DL.mSetF, DL.putFD, DL.mSIn, DL.mSGet, DL.mIterS, rsv, e1, e0, hs, i0, hx, mSetL, ocD]
      · have e0 : eqD (.int t) (.int 0) = some (.bool false) := by rw [eqD_int, beq_eq_false_iff_ne.mpr z]
        refine ⟨l, o1, hr1, hl, ht, ?_⟩
        unfold tI
        generalize pL p = PL at *
        generalize (eqD : D → D → Option D) = eqd at *
        simp only [DL.mSeq, DL.mIfS, DL.mTest, DL.mAnd, DL.mOr, DL.mNot, DL.mAndV, DL.mOrV, DL.mNotV, DL.mIf, DL.mChain, DL.mOp, DL.mUn, DL.mCall, DL.mC, DL.mVar, DL.pE, DL.pO, DL.fE, DL.aNil, DL.aCons, DL.mFn, DL.mFnG, DL.mTru, DL.mIsi, DL.mIsiT, DL.mNext, DL.mRet, DL.mRetO, DL.mRetF, DL.mRetN, DL.mDrop, DL.mAsg, DL.mOwn, DL.mAug, DL.mSetL, DL.mMt, DL.mTup, DL.mLstF, DL.mDTF, DL.mDKF, DL.mYes, DL.gNm, DL.gTp, DL.gsNil, DL.gsCons, DL.mFrz, DL.frz, DL.mListF, DL.mListRg2, DL.mListRg1, DL.mFnB, List.map_cons, List.map_nil, DL.flatD, DL.mLcF, DL.okW, DL.wipeR, DL.restR, DL.rngD_len, Int.toNat_natCast, Bool.and_self, Bool.and_true, Bool.true_and, DL.mFor, DL.mRng1, DL.mRng2, DL.mIter, DL.mEnumA, Option.bind_some, Option.bind_none, Option.map_some, Option.map_none, List.getElem?_cons_succ, List.getElem?_cons_zero, List.getElem?_nil, List.set_cons_succ, List.set_cons_zero, DL.Sl.oc, DL.Sl.put, DL.ocAt, DL.putAt, DL.ocFits, DL.isIo, DL.rsv, DL.rsvs, DL.vals, DL.toSl, DL.toSls, DL.back, DL.owns, DL.ocD, DL.fin, DL.runF, DL.runG, DL.runP, DL.runQ, List.length_cons, List.length_nil, List.length_set, List.replicate, List.cons_append, List.nil_append, List.nodup_nil, List.nodup_cons, List.not_mem_nil, not_false_eq_true, and_self, and_true, true_and, if_true, if_false, reduceCtorEq, Bool.false_eq_true, ite_true, ite_false, List.mem_cons, or_false, false_or, DL.addD, DL.subD, DL.iD, DL.cmpD, DL.ltD, DL.leD, DL.gtD, DL.geD, DL.ixD, DL.int1D, DL.int2D, DL.intD, DL.absD, DL.min2D, DL.max2D, DL.lenD, DL.itemsD, DL.tupleD, DL.negD, DL.truD, DL.isD, DL.isNotD, DL.isNone, Bool.not_true, Bool.not_false, Nat.reduceAdd, Nat.reduceSub, Nat.reduceLT, Nat.reduceLeDiff, ↓reduceIte, DL.OC.lst.injEq, DL.mUn, DL.mBindX, DL.kDrop, DL.kRet, DL.kAsg, DL.runX, DL.okX, DL.mSetF, DL.putFD, DL.mSIn, DL.mSGet, DL.mIterS, rsv, e1, e0, ocD]
    obtain ⟨l1, o2, hr2, hl1, ht1, hs⟩ := step
    obtain ⟨l', o', w9, q1, q2, q3, q4, q5⟩ := inner v hn r (j + 1) l1 o2 (.sh (.int j)) hr2 (.inr ⟨_, rfl⟩) hl1 ht1 (by omega) (by omega)
    refine ⟨l', o', w9, q1, q2, q3, q4, ?_⟩
    show forD (gNm 9) tI (.int j :: rngD ((j : Int) + 1) r) _ = _
    rw [forD_cons, hg, Option.bind_some, hs, Option.bind_some]
    exact q5
theorem rng2_ok {p q : ME} {i j : Int} {ρ : Rho} (hp : p ρ = some (.int i, ρ)) (hq : q ρ = some (.int j, ρ)) (h1 : -1000000 ≤ i) (h2 : i ≤ 1000000) (h3 : -1000000 ≤ j) (h4 : j ≤ 1000000) : mRng2 p q ρ = some (rngD i (j - i).toNat, ρ) := by
  unfold mRng2
  rw [hp, Option.bind_some, hq, Option.bind_some]
  exact if_pos ⟨h1, h2, h3, h4⟩
theorem tD_ok {p : Pt} (v : Pv p) {ns : List Int} (hn : ns.length ≤ 63) {k : Nat} (hk : k < 6) {pre : List D} {a0 a3 a4 a5 x8 x9 x10 : Sl} {l : List D} {o : OC} (hr : Rw ns o) (h9 : Nn x9) (hl : l.length = 6) (ht : l.take (k + 1) = pre) :
    ∃ (l' : List D) (o' : OC) (w9 : Sl), Rw ns o' ∧ Nn w9 ∧ l'.length = 6 ∧ l'.take (k + 1) = pre ∧
      tD [a0, .ow o, .sh (.tuple (pL p)), a3, a4, a5, .ow (.lst l), .sh (.int k), x8, x9, x10, .no, .no] = some (.nx [a0, .ow o', .sh (.tuple (pL p)), a3, a4, a5, .ow (.lst l'), .sh (.int k), x8, w9, x10, .no, .no]) := by
  obtain ⟨l', o', w9, q1, q2, q3, q4, q5⟩ := inner v hn (k := k) (pre := pre) (a0 := a0) (a3 := a3) (a4 := a4) (a5 := a5) (x7 := .sh (.int k)) (x8 := x8) (x10 := x10) (5 - k) (k + 1) l o x9 hr h9 hl ht (by omega) (by omega)
  refine ⟨l', o', w9, q1, q2, q3, q4, ?_⟩
  have e1 : addD (.int k) (.int 1) = some (.int ((k : Int) + 1)) := rfl
  have e2 : ((6 : Int) - ((k : Int) + 1)).toNat = 5 - k := by omega
  rw [show ((k + 1 : Nat) : Int) = (k : Int) + 1 from Int.natCast_succ k] at q5
  have rg := rng2_ok (p := mOp addD (pE (mVar 7)) (pE (mC (.int 1)))) (q := mC (.int 6)) (i := (k : Int) + 1) (j := 6) (ρ := [a0, .ow o, .sh (.tuple (pL p)), a3, a4, a5, .ow (.lst l), .sh (.int k), x8, x9, x10, .no, .no]) (by
    generalize (k : Int) + 1 = J at *
    generalize pL p = PL at *
    generalize (addD : D → D → Option D) = ad at *
    simp only [DL.mSeq, DL.mIfS, DL.mTest, DL.mAnd, DL.mOr, DL.mNot, DL.mAndV, DL.mOrV, DL.mNotV, DL.mIf, DL.mChain, DL.mOp, DL.mUn, DL.mCall, DL.mC, DL.mVar, DL.pE, DL.pO, DL.fE, DL.aNil, DL.aCons, DL.mFn, DL.mFnG, DL.mTru, DL.mIsi, DL.mIsiT, DL.mNext, DL.mRet, DL.mRetO, DL.mRetF, DL.mRetN, DL.mDrop, DL.mAsg, DL.mOwn, DL.mAug, DL.mSetL, DL.mMt, DL.mTup, DL.mLstF, DL.mDTF, DL.mDKF, DL.mYes, DL.gNm, DL.gTp, DL.gsNil, DL.gsCons, DL.mFrz, DL.frz, DL.mListF, DL.mListRg2, DL.mListRg1, DL.mFnB, List.map_cons, List.map_nil, DL.flatD, DL.mLcF, DL.okW, DL.wipeR, DL.restR, DL.rngD_len, Int.toNat_natCast, Bool.and_self, Bool.and_true, Bool.true_and, DL.mFor, DL.mRng1, DL.mRng2, DL.mIter, DL.mEnumA, Option.bind_some, Option.bind_none, Option.map_some, Option.map_none, List.getElem?_cons_succ, List.getElem?_cons_zero, List.getElem?_nil, List.set_cons_succ, List.set_cons_zero, DL.Sl.oc, DL.Sl.put, DL.ocAt, DL.putAt, DL.ocFits, DL.isIo, DL.rsv, DL.rsvs, DL.vals, DL.toSl, DL.toSls, DL.back, DL.owns, DL.ocD, DL.fin, DL.runF, DL.runG, DL.runP, DL.runQ, List.length_cons, List.length_nil, List.length_set, List.replicate, List.cons_append, List.nil_append, List.nodup_nil, List.nodup_cons, List.not_mem_nil, not_false_eq_true, and_self, and_true, true_and, if_true, if_false, reduceCtorEq, Bool.false_eq_true, ite_true, ite_false, List.mem_cons, or_false, false_or, DL.addD, DL.subD, DL.iD, DL.cmpD, DL.ltD, DL.leD, DL.gtD, DL.geD, DL.ixD, DL.int1D, DL.int2D, DL.intD, DL.absD, DL.min2D, DL.max2D, DL.lenD, DL.itemsD, DL.tupleD, DL.negD, DL.truD, DL.isD, DL.isNotD, DL.isNone, Bool.not_true, Bool.not_false, Nat.reduceAdd, Nat.reduceSub, Nat.reduceLT, Nat.reduceLeDiff, ↓reduceIte, DL.OC.lst.injEq, DL.mUn, DL.mBindX, DL.kDrop, DL.kRet, DL.kAsg, DL.runX, DL.okX, DL.mSetF, DL.putFD, DL.mSIn, DL.mSGet, DL.mIterS, e1]) rfl (by omega) (by omega) (by omega) (by omega)
  rw [e2] at rg
  unfold tD mFor
  rw [rg, Option.bind_some]
  exact q5
theorem mk_no {args : MAs} {ρ : Rho} {c : Str} {x : D} {s0 s1 s2 s3 s4 s5 : D} (ha : args ρ = some ([.val s0, .val s1, .val s2, .val s3, .val s4, .val s5], ρ)) (hi : F_Night_init [.io (.ins "Night" []), .sh s0, .sh s1, .sh s2, .sh s3, .sh s4, .sh s5] = some (.exc c [("value", x)], [.io (.ins "Night" []), .sh s0, .sh s1, .sh s2, .sh s3, .sh s4, .sh s5])) :
    mlMk "Night" F_Night_init [] args ρ = some (.exc c [("value", x)], ρ) := by
  have h0 : (ρ ++ [Sl.ow (.ins "Night" [])])[ρ.length]? = some (Sl.ow (.ins "Night" [])) := by simp
  have h1 : (ρ ++ [Sl.ow (.ins "Night" [])]).set ρ.length (Sl.ow (.ins "Night" [])) = ρ ++ [Sl.ow (.ins "Night" [])] := by
    rw [List.set_append_right _ _ (Nat.le_refl _), Nat.sub_self]; rfl
  have h2 : (ρ ++ [Sl.ow (.ins "Night" [])]).getLast? = some (Sl.ow (.ins "Night" [])) := by simp
  have h3 : (ρ ++ [Sl.ow (.ins "Night" [])]).dropLast = ρ := by simp
  have a : mMkX "Night" F_Night_init [] args kRetC ρ = some (.ex c [("value", x)] ρ) := by
    unfold mMkX
    rw [ha]
    generalize hR : ρ ++ [Sl.ow (.ins "Night" [])] = R at *
    simp only [DL.mSeq, DL.mIfS, DL.mTest, DL.mAnd, DL.mOr, DL.mNot, DL.mAndV, DL.mOrV, DL.mNotV, DL.mIf, DL.mChain, DL.mOp, DL.mUn, DL.mCall, DL.mC, DL.mVar, DL.pE, DL.pO, DL.fE, DL.aNil, DL.aCons, DL.mFn, DL.mFnG, DL.mTru, DL.mIsi, DL.mIsiT, DL.mNext, DL.mRet, DL.mRetO, DL.mRetF, DL.mRetN, DL.mDrop, DL.mAsg, DL.mOwn, DL.mAug, DL.mSetL, DL.mMt, DL.mTup, DL.mLstF, DL.mDTF, DL.mDKF, DL.mYes, DL.gNm, DL.gTp, DL.gsNil, DL.gsCons, DL.mFrz, DL.frz, DL.mListF, DL.mListRg2, DL.mListRg1, DL.mFnB, List.map_cons, List.map_nil, DL.flatD, DL.mLcF, DL.okW, DL.wipeR, DL.restR, DL.rngD_len, Int.toNat_natCast, Bool.and_self, Bool.and_true, Bool.true_and, DL.mFor, DL.mRng1, DL.mRng2, DL.mIter, DL.mEnumA, Option.bind_some, Option.bind_none, Option.map_some, Option.map_none, List.getElem?_cons_succ, List.getElem?_cons_zero, List.getElem?_nil, List.set_cons_succ, List.set_cons_zero, DL.Sl.oc, DL.Sl.put, DL.ocAt, DL.putAt, DL.ocFits, DL.isIo, DL.rsv, DL.rsvs, DL.vals, DL.toSl, DL.toSls, DL.back, DL.owns, DL.ocD, DL.fin, DL.runF, DL.runG, DL.runP, DL.runQ, List.length_cons, List.length_nil, List.length_set, List.replicate, List.cons_append, List.nil_append, List.nodup_nil, List.nodup_cons, List.not_mem_nil, not_false_eq_true, and_self, and_true, true_and, if_true, if_false, reduceCtorEq, Bool.false_eq_true, ite_true, ite_false, List.mem_cons, or_false, false_or, DL.addD, DL.subD, DL.iD, DL.cmpD, DL.ltD, DL.leD, DL.gtD, DL.geD, DL.ixD, DL.int1D, DL.int2D, DL.intD, DL.absD, DL.min2D, DL.max2D, DL.lenD, DL.itemsD, DL.tupleD, DL.negD, DL.truD, DL.isD, DL.isNotD, DL.isNone, Bool.not_true, Bool.not_false, Nat.reduceAdd, Nat.reduceSub, Nat.reduceLT, Nat.reduceLeDiff, ↓reduceIte, DL.OC.lst.injEq, DL.mUn, DL.mBindX, DL.kDrop, DL.kRet, DL.kAsg, DL.runX, DL.okX, DL.mSetF, DL.putFD, DL.mSIn, DL.mSGet, DL.mIterS, hi, h0, h1, h2, h3, toSls, back, hR]
  unfold mlMk
  rw [a]
theorem tE_ok {p : Pt} {c : Str} {w x : D} {o : OC} {a0 a3 a4 a5 a7 x8 x9 x10 : Sl} {s0 s1 s2 s3 s4 s5 : D} (h10 : Nn x10) (hi : F_Night_init [.io (.ins "Night" []), .sh s0, .sh s1, .sh s2, .sh s3, .sh s4, .sh s5] = some (.exc c [("value", x)], [.io (.ins "Night" []), .sh s0, .sh s1, .sh s2, .sh s3, .sh s4, .sh s5])) (hf : F_law_refused (.exc c [("value", x)]) = some (.tuple [w, x])) :
    tE [a0, .ow o, .sh (.tuple (pL p)), a3, a4, a5, .ow (.lst [s0, s1, s2, s3, s4, s5]), a7, x8, x9, x10, .no, .no] = some (.nx [a0, .ow o, .sh (.tuple (pL p)), a3, a4, a5, .ow (.lst [s0, s1, s2, s3, s4, s5]), a7, x8, x9, .sh (.tuple [w, x]), .no, .no]) := by
  have i0 : ixD (.list [s0, s1, s2, s3, s4, s5]) (.int 0) = some s0 := rfl
  have i1 : ixD (.list [s0, s1, s2, s3, s4, s5]) (.int 1) = some s1 := rfl
  have i2 : ixD (.list [s0, s1, s2, s3, s4, s5]) (.int 2) = some s2 := rfl
  have i3 : ixD (.list [s0, s1, s2, s3, s4, s5]) (.int 3) = some s3 := rfl
  have i4 : ixD (.list [s0, s1, s2, s3, s4, s5]) (.int 4) = some s4 := rfl
  have i5 : ixD (.list [s0, s1, s2, s3, s4, s5]) (.int 5) = some s5 := rfl
  unfold tE
  generalize hM : mlMk _ _ _ _ = ML
  have hm : ML [a0, .ow o, .sh (.tuple (pL p)), a3, a4, a5, .ow (.lst [s0, s1, s2, s3, s4, s5]), a7, x8, x9, x10, .no, .no] = some (.exc c [("value", x)], [a0, .ow o, .sh (.tuple (pL p)), a3, a4, a5, .ow (.lst [s0, s1, s2, s3, s4, s5]), a7, x8, x9, x10, .no, .no]) := by
    rw [← hM]
    refine mk_no ?_ hi
    generalize pL p = PL at *
    generalize [s0, s1, s2, s3, s4, s5] = L at *
    generalize (ixD : D → D → Option D) = ix at *
    simp only [DL.mSeq, DL.mIfS, DL.mTest, DL.mAnd, DL.mOr, DL.mNot, DL.mAndV, DL.mOrV, DL.mNotV, DL.mIf, DL.mChain, DL.mOp, DL.mUn, DL.mCall, DL.mC, DL.mVar, DL.pE, DL.pO, DL.fE, DL.aNil, DL.aCons, DL.mFn, DL.mFnG, DL.mTru, DL.mIsi, DL.mIsiT, DL.mNext, DL.mRet, DL.mRetO, DL.mRetF, DL.mRetN, DL.mDrop, DL.mAsg, DL.mOwn, DL.mAug, DL.mSetL, DL.mMt, DL.mTup, DL.mLstF, DL.mDTF, DL.mDKF, DL.mYes, DL.gNm, DL.gTp, DL.gsNil, DL.gsCons, DL.mFrz, DL.frz, DL.mListF, DL.mListRg2, DL.mListRg1, DL.mFnB, List.map_cons, List.map_nil, DL.flatD, DL.mLcF, DL.okW, DL.wipeR, DL.restR, DL.rngD_len, Int.toNat_natCast, Bool.and_self, Bool.and_true, Bool.true_and, DL.mFor, DL.mRng1, DL.mRng2, DL.mIter, DL.mEnumA, Option.bind_some, Option.bind_none, Option.map_some, Option.map_none, List.getElem?_cons_succ, List.getElem?_cons_zero, List.getElem?_nil, List.set_cons_succ, List.set_cons_zero, DL.Sl.oc, DL.Sl.put, DL.ocAt, DL.putAt, DL.ocFits, DL.isIo, DL.rsv, DL.rsvs, DL.vals, DL.toSl, DL.toSls, DL.back, DL.owns, DL.ocD, DL.fin, DL.runF, DL.runG, DL.runP, DL.runQ, List.length_cons, List.length_nil, List.length_set, List.replicate, List.cons_append, List.nil_append, List.nodup_nil, List.nodup_cons, List.not_mem_nil, not_false_eq_true, and_self, and_true, true_and, if_true, if_false, reduceCtorEq, Bool.false_eq_true, ite_true, ite_false, List.mem_cons, or_false, false_or, DL.addD, DL.subD, DL.iD, DL.cmpD, DL.ltD, DL.leD, DL.gtD, DL.geD, DL.ixD, DL.int1D, DL.int2D, DL.intD, DL.absD, DL.min2D, DL.max2D, DL.lenD, DL.itemsD, DL.tupleD, DL.negD, DL.truD, DL.isD, DL.isNotD, DL.isNone, Bool.not_true, Bool.not_false, Nat.reduceAdd, Nat.reduceSub, Nat.reduceLT, Nat.reduceLeDiff, ↓reduceIte, DL.OC.lst.injEq, DL.mUn, DL.mBindX, DL.kDrop, DL.kRet, DL.kAsg, DL.runX, DL.okX, DL.mSetF, DL.putFD, DL.mSIn, DL.mSGet, DL.mIterS, i0, i1, i2, i3, i4, i5, rsv, ocD]
  generalize F_law_refused = RF at *
  generalize PyData.tuple [w, x] = T at *
  generalize pL p = PL at *
  generalize [s0, s1, s2, s3, s4, s5] = L at *
  rcases h10 with rfl | ⟨e, rfl⟩ <;> simp only [DL.mSeq, DL.mIfS, DL.mTest, DL.mAnd, DL.mOr, DL.mNot, DL.mAndV, DL.mOrV, DL.mNotV, DL.mIf, DL.mChain, DL.mOp, DL.mUn, DL.mCall, DL.mC, DL.mVar, DL.pE, DL.pO, DL.fE, DL.aNil, DL.aCons, DL.mFn, DL.mFnG, DL.mTru, DL.mIsi, DL.mIsiT, DL.mNext, DL.mRet, DL.mRetO, DL.mRetF, DL.mRetN, DL.mDrop, DL.mAsg, DL.mOwn, DL.mAug, DL.mSetL, DL.mMt, DL.mTup, DL.mLstF, DL.mDTF, DL.mDKF, DL.mYes, DL.gNm, DL.gTp, DL.gsNil, DL.gsCons, DL.mFrz, DL.frz, DL.mListF, DL.mListRg2, DL.mListRg1, DL.mFnB, List.map_cons, List.map_nil, DL.flatD, DL.mLcF, DL.okW, DL.wipeR, DL.restR, DL.rngD_len, Int.toNat_natCast, Bool.and_self, Bool.and_true, Bool.true_and, DL.mFor, DL.mRng1, DL.mRng2, DL.mIter, DL.mEnumA, Option.bind_some, Option.bind_none, Option.map_some, Option.map_none, List.getElem?_cons_succ, List.getElem?_cons_zero, List.getElem?_nil, List.set_cons_succ, List.set_cons_zero, DL.Sl.oc, DL.Sl.put, DL.ocAt, DL.putAt, DL.ocFits, DL.isIo, DL.rsv, DL.rsvs, DL.vals, DL.toSl, DL.toSls, DL.back, DL.owns, DL.ocD, DL.fin, DL.runF, DL.runG, DL.runP, DL.runQ, List.length_cons, List.length_nil, List.length_set, List.replicate, List.cons_append, List.nil_append, List.nodup_nil, List.nodup_cons, List.not_mem_nil, not_false_eq_true, and_self, and_true, true_and, if_true, if_false, reduceCtorEq, Bool.false_eq_true, ite_true, ite_false, List.mem_cons, or_false, false_or, DL.addD, DL.subD, DL.iD, DL.cmpD, DL.ltD, DL.leD, DL.gtD, DL.geD, DL.ixD, DL.int1D, DL.int2D, DL.intD, DL.absD, DL.min2D, DL.max2D, DL.lenD, DL.itemsD, DL.tupleD, DL.negD, DL.truD, DL.isD, DL.isNotD, DL.isNone, Bool.not_true, Bool.not_false, Nat.reduceAdd, Nat.reduceSub, Nat.reduceLT, Nat.reduceLeDiff, ↓reduceIte, DL.OC.lst.injEq, DL.mUn, DL.mBindX, DL.kDrop, DL.kRet, DL.kAsg, DL.runX, DL.okX, DL.mSetF, DL.putFD, DL.mSIn, DL.mSGet, DL.mIterS, mLam, hm, hf]
theorem tF_ok {d x : D} {w : Str} (hk : okR (.tuple [.str w, x]) = true) {a0 a1 a2 a3 a4 a5 a6 a7 a9 : Sl} :
    tF [a0, a1, a2, a3, a4, a5, a6, a7, .sh (.tuple [d, .str w, x]), a9, .sh (.tuple [.str w, x]), .no, .no] = some (.nx [a0, a1, a2, a3, a4, a5, a6, a7, .sh (.tuple [d, .str w, x]), a9, .sh (.tuple [.str w, x]), .no, .no]) := by
  have i1 : ixD (.tuple [d, .str w, x]) (.int 1) = some (.str w) := rfl
  have i2 : ixD (.tuple [d, .str w, x]) (.int 2) = some x := rfl
  have r := reprW_of hk
  have n := neS_same (PyData.shown (.tuple [.str w, x]))
  unfold tF
  generalize PyData.tuple [d, .str w, x] = T at *
  generalize PyData.shown (.tuple [.str w, x]) = SH at *
  generalize (ixD : D → D → Option D) = ix at *
  generalize (reprW : List D → Option D) = rw' at *
  generalize (neSD : D → D → Option D) = nes at *
  simp only [DL.mSeq, DL.mIfS, DL.mTest, DL.mAnd, DL.mOr, DL.mNot, DL.mAndV, DL.mOrV, DL.mNotV, DL.mIf, DL.mChain, DL.mOp, DL.mUn, DL.mCall, DL.mC, DL.mVar, DL.pE, DL.pO, DL.fE, DL.aNil, DL.aCons, DL.mFn, DL.mFnG, DL.mTru, DL.mIsi, DL.mIsiT, DL.mNext, DL.mRet, DL.mRetO, DL.mRetF, DL.mRetN, DL.mDrop, DL.mAsg, DL.mOwn, DL.mAug, DL.mSetL, DL.mMt, DL.mTup, DL.mLstF, DL.mDTF, DL.mDKF, DL.mYes, DL.gNm, DL.gTp, DL.gsNil, DL.gsCons, DL.mFrz, DL.frz, DL.mListF, DL.mListRg2, DL.mListRg1, DL.mFnB, List.map_cons, List.map_nil, DL.flatD, DL.mLcF, DL.okW, DL.wipeR, DL.restR, DL.rngD_len, Int.toNat_natCast, Bool.and_self, Bool.and_true, Bool.true_and, DL.mFor, DL.mRng1, DL.mRng2, DL.mIter, DL.mEnumA, Option.bind_some, Option.bind_none, Option.map_some, Option.map_none, List.getElem?_cons_succ, List.getElem?_cons_zero, List.getElem?_nil, List.set_cons_succ, List.set_cons_zero, DL.Sl.oc, DL.Sl.put, DL.ocAt, DL.putAt, DL.ocFits, DL.isIo, DL.rsv, DL.rsvs, DL.vals, DL.toSl, DL.toSls, DL.back, DL.owns, DL.ocD, DL.fin, DL.runF, DL.runG, DL.runP, DL.runQ, List.length_cons, List.length_nil, List.length_set, List.replicate, List.cons_append, List.nil_append, List.nodup_nil, List.nodup_cons, List.not_mem_nil, not_false_eq_true, and_self, and_true, true_and, if_true, if_false, reduceCtorEq, Bool.false_eq_true, ite_true, ite_false, List.mem_cons, or_false, false_or, DL.addD, DL.subD, DL.iD, DL.cmpD, DL.ltD, DL.leD, DL.gtD, DL.geD, DL.ixD, DL.int1D, DL.int2D, DL.intD, DL.absD, DL.min2D, DL.max2D, DL.lenD, DL.itemsD, DL.tupleD, DL.negD, DL.truD, DL.isD, DL.isNotD, DL.isNone, Bool.not_true, Bool.not_false, Nat.reduceAdd, Nat.reduceSub, Nat.reduceLT, Nat.reduceLeDiff, ↓reduceIte, DL.OC.lst.injEq, DL.mUn, DL.mBindX, DL.kDrop, DL.kRet, DL.kAsg, DL.runX, DL.okX, DL.mSetF, DL.putFD, DL.mSIn, DL.mSGet, DL.mIterS, i1, i2, r, n, ocD]
theorem turn_ok {p : Pt} (v : Pv p) {ns : List Int} (hn : ns.length ≤ 63) {o : OC} (hr : Rw ns o) {a0 a3 a4 a5 x6 x7 x8 x9 x10 : Sl} (h6 : Nw x6) (h7 : Nn x7) (h8 : Nn x8) (h9 : Nn x9) (h10 : Nn x10) :
    ∃ (o' : OC) (w6 w7 w8 w9 w10 : Sl), Rw ns o' ∧ Nw w6 ∧ Nn w7 ∧ Nn w8 ∧ Nn w9 ∧ Nn w10 ∧ tBody [a0, .ow o, .sh (.tuple (pL p)), a3, a4, a5, x6, x7, x8, x9, x10, .no, .no] = some (.nx [a0, .ow o', .sh (.tuple (pL p)), a3, a4, a5, w6, w7, w8, w9, w10, .no, .no]) := by
  obtain ⟨k, o1, hk, r1, eA⟩ := tA_ok (p := p) hn hr (a0 := a0) (a3 := a3) (a4 := a4) (a5 := a5) (x8 := x8) (x9 := x9) (x10 := x10) h6 h7
  obtain ⟨d, w, x, o2, hs, due, r2⟩ := spoilt_is v r1 hn hk
  have eB := tBC_ok (a0 := a0) (a3 := a3) (a4 := a4) (a5 := a5) (x9 := x9) (x10 := x10) hk h8 hs
  have hpre : ((pL p).set k d).take (k + 1) = (pL p).take k ++ [d] := by
    have hl : k < (pL p).length := hk
    rw [List.take_succ, List.getElem?_set_self hl, List.take_set_of_le (Nat.le_refl _)]; rfl
  obtain ⟨l, o3, w9, r3, n9, hl, ht, eD⟩ := tD_ok v hn hk (a0 := a0) (a3 := a3) (a4 := a4) (a5 := a5) (x8 := .sh (.tuple [d, .str w, x])) (x10 := x10) r2 h9 (by rw [List.length_set]; rfl) hpre
  obtain ⟨s0, s1, s2, s3, s4, s5, rfl⟩ : ∃ s0 s1 s2 s3 s4 s5, l = [s0, s1, s2, s3, s4, s5] := by
    match l, hl with
    | [a, b, c, d, e, f], _ => exact ⟨a, b, c, d, e, f, rfl⟩
  obtain ⟨c, hi, hf⟩ := due_init v due ht
  have eE := tE_ok (p := p) (o := o3) (a0 := a0) (a3 := a3) (a4 := a4) (a5 := a5) (a7 := .sh (.int k)) (x8 := .sh (.tuple [d, .str w, x])) (x9 := w9) h10 hi hf
  have eF := tF_ok (d := d) due.ok (a0 := a0) (a1 := .ow o3) (a2 := .sh (.tuple (pL p))) (a3 := a3) (a4 := a4) (a5 := a5) (a6 := .ow (.lst [s0, s1, s2, s3, s4, s5])) (a7 := .sh (.int k)) (a9 := w9)
  refine ⟨o3, .ow (.lst [s0, s1, s2, s3, s4, s5]), .sh (.int k), .sh (.tuple [d, .str w, x]), w9, .sh (.tuple [.str w, x]), r3, .inr ⟨_, rfl⟩, .inr ⟨_, rfl⟩, .inr ⟨_, rfl⟩, n9, .inr ⟨_, rfl⟩, ?_⟩
  have eBC : ∀ r : MS, mSeq tB (mSeq tC r) [a0, .ow o1, .sh (.tuple (pL p)), a3, a4, a5, .ow (.lst (pL p)), .sh (.int k), x8, x9, x10, .no, .no] = r [a0, .ow o2, .sh (.tuple (pL p)), a3, a4, a5, .ow (.lst ((pL p).set k d)), .sh (.int k), .sh (.tuple [d, .str w, x]), x9, x10, .no, .no] := fun r => by
    have : mSeq tB (mSeq tC r) = mSeq (mSeq tB tC) r := by
      funext ρ
      unfold mSeq
      cases tB ρ with
      | none => rfl
      | some o => cases o <;> rfl
    rw [this]
    unfold mSeq at *
    rw [eB]; rfl
  unfold tBody
  rw [show mSeq tA (mSeq tB (mSeq tC (mSeq tD (mSeq tE tF)))) [a0, .ow o, .sh (.tuple (pL p)), a3, a4, a5, x6, x7, x8, x9, x10, .no, .no] = mSeq tB (mSeq tC (mSeq tD (mSeq tE tF))) [a0, .ow o1, .sh (.tuple (pL p)), a3, a4, a5, .ow (.lst (pL p)), .sh (.int k), x8, x9, x10, .no, .no] from by
    show (tA _).bind _ = _
    rw [eA]; rfl]
  rw [eBC]
  show (tD _).bind _ = _
  rw [eD]
  show (tE _).bind _ = _
  rw [eE]
  exact eF
end Lk11
set_option Elab.async false
set_option linter.all false
set_option maxRecDepth 100000
set_option maxHeartbeats 4000000
namespace Lk11
open PySem L2 DL
/-! ### the law -/
noncomputable def g0 : MS := (mOwn (mLstF (aCons (pE (mVar 0)) (aCons (pE (mC (.int 0))) (aCons (pE (mC (.int 1111))) (aCons (pE (mC (.int 0))) aNil))))) 1)
noncomputable def g1 : MS := (mAsg (mFn F_law_wide_night (aCons (pO 1) aNil)) (gNm 2))
noncomputable def g2 : MS := (mAsg (fE (mLcF (mIter (mOp ixD (pE (mVar 2)) (pE (mC (.int 2))))) [11] (gNm 11) mYes (mOp ixD (pE (mVar 11)) (pE (mC (.int 0)))))) (gNm 3))
noncomputable def g3 : MS := (mIfS (mTest (mOp neD (pE (mLam F_law_refused (mlMk "Night" F_Night_init [] (aCons (pE (mOp ixD (pE (mVar 2)) (pE (mC (.int 0))))) (aCons (pE (mOp ixD (pE (mVar 2)) (pE (mC (.int 1))))) (aCons (pE (mOp ixD (pE (mVar 2)) (pE (mC (.int 2))))) (aCons (pE (mOp ixD (pE (mVar 2)) (pE (mC (.int 3))))) (aCons (pE (mOp ixD (pE (mVar 2)) (pE (mC (.int 4))))) (aCons (pE (mOp ixD (pE (mVar 2)) (pE (mC (.int 5))))) aNil))))))))) (pE (mTup (aCons (pE (mC (.str ""))) (aCons (pE (mC .none)) aNil)))))) (mRet (mC (.bool false))) mNext)
noncomputable def g4 : MS := (mFor (mRng1 (mC (.int 4))) (gNm 4) tBody)
noncomputable def g5 : MS := (mAsg (fE (mLcF (mIter (fE (mLstF (aCons (pE (mC (.int 0))) (aCons (pE (mC (.int 20))) (aCons (pE (mC (.int 20))) (aCons (pE (mC (.int 0))) (aCons (pE (mC (.int 7))) aNil)))))))) [12] (gNm 12) mYes (mTup (aCons (pE (mC (.str "rye"))) (aCons (pE (mVar 12)) aNil))))) (gNm 5))
noncomputable def g6 : MS := (mIfS (mOr (mTest (mOp neD (pE (mUn (fldD "Night" "orders") (pE (fE (mMkF "Night" F_Night_init [] (aCons (pE (mC (.int 3))) (aCons (pE (mC (.int 3))) (aCons (pE (mOp ixD (pE (mVar 2)) (pE (mC (.int 2))))) (aCons (pE (fE (mListF (pE (mVar 5))))) (aCons (pE (mTup (aCons (pE (mC (.int 3))) (aCons (pE (mC (.int 3))) (aCons (pE (mC (.int 3))) aNil))))) (aCons (pE (mC (.int 4))) aNil))))))))))) (pE (mCall tupleD (aCons (pE (mVar 5)) aNil))))) (mTest (mOp neD (pE (mOp ixD (pE (mVar 3)) (pE (mC (.int 0))))) (pE (mC (.str "rye")))))) (mRet (mC (.bool false))) mNext)
noncomputable def g7 : MS := (mRet (mOp eqD (pE (mLam F_law_refused (mlMk "Night" F_Night_init df_Night (aCons (pE (mC (.int 3))) (aCons (pE (mC (.int 3))) (aCons (pE (mOp ixD (pE (mVar 2)) (pE (mC (.int 2))))) (aCons (pE (mOp addD (pE (mVar 5)) (pE (fE (mLstF (aCons (pE (mTup (aCons (pE (mC (.str "rye"))) (aCons (pE (mC (.int 3))) aNil)))) aNil)))))) aNil))))))) (pE (mTup (aCons (pE (mC (.str "orders"))) (aCons (pE (mUn negD (pE (mC (.int 1))))) aNil))))))
theorem mk_noD {args : MAs} {df : List D} {xs : List AD} {ρ : Rho} {c : Str} {x : D} {s0 s1 s2 s3 s4 s5 : D} (ha : args ρ = some (xs, ρ)) (hx : xs ++ df.map .val = [.val s0, .val s1, .val s2, .val s3, .val s4, .val s5]) (hi : F_Night_init [.io (.ins "Night" []), .sh s0, .sh s1, .sh s2, .sh s3, .sh s4, .sh s5] = some (.exc c [("value", x)], [.io (.ins "Night" []), .sh s0, .sh s1, .sh s2, .sh s3, .sh s4, .sh s5])) :
    mlMk "Night" F_Night_init df args ρ = some (.exc c [("value", x)], ρ) := by
  have h0 : (ρ ++ [Sl.ow (.ins "Night" [])])[ρ.length]? = some (Sl.ow (.ins "Night" [])) := by simp
  have h1 : (ρ ++ [Sl.ow (.ins "Night" [])]).set ρ.length (Sl.ow (.ins "Night" [])) = ρ ++ [Sl.ow (.ins "Night" [])] := by
    rw [List.set_append_right _ _ (Nat.le_refl _), Nat.sub_self]; rfl
  have h2 : (ρ ++ [Sl.ow (.ins "Night" [])]).getLast? = some (Sl.ow (.ins "Night" [])) := by simp
  have h3 : (ρ ++ [Sl.ow (.ins "Night" [])]).dropLast = ρ := by simp
  have a : mMkX "Night" F_Night_init df args kRetC ρ = some (.ex c [("value", x)] ρ) := by
    unfold mMkX
    rw [ha, Option.bind_some]
    dsimp only
    rw [hx]
    generalize hR : ρ ++ [Sl.ow (.ins "Night" [])] = R at *
    simp only [DL.mSeq, DL.mIfS, DL.mTest, DL.mAnd, DL.mOr, DL.mNot, DL.mAndV, DL.mOrV, DL.mNotV, DL.mIf, DL.mChain, DL.mOp, DL.mUn, DL.mCall, DL.mC, DL.mVar, DL.pE, DL.pO, DL.fE, DL.aNil, DL.aCons, DL.mFn, DL.mFnG, DL.mTru, DL.mIsi, DL.mIsiT, DL.mNext, DL.mRet, DL.mRetO, DL.mRetF, DL.mRetN, DL.mDrop, DL.mAsg, DL.mOwn, DL.mAug, DL.mSetL, DL.mMt, DL.mTup, DL.mLstF, DL.mDTF, DL.mDKF, DL.mYes, DL.gNm, DL.gTp, DL.gsNil, DL.gsCons, DL.mFrz, DL.frz, DL.mListF, DL.mListRg2, DL.mListRg1, DL.mFnB, List.map_cons, List.map_nil, DL.flatD, DL.mLcF, DL.okW, DL.wipeR, DL.restR, DL.rngD_len, Int.toNat_natCast, Bool.and_self, Bool.and_true, Bool.true_and, DL.mFor, DL.mRng1, DL.mRng2, DL.mIter, DL.mEnumA, Option.bind_some, Option.bind_none, Option.map_some, Option.map_none, List.getElem?_cons_succ, List.getElem?_cons_zero, List.getElem?_nil, List.set_cons_succ, List.set_cons_zero, DL.Sl.oc, DL.Sl.put, DL.ocAt, DL.putAt, DL.ocFits, DL.isIo, DL.rsv, DL.rsvs, DL.vals, DL.toSl, DL.toSls, DL.back, DL.owns, DL.ocD, DL.fin, DL.runF, DL.runG, DL.runP, DL.runQ, List.length_cons, List.length_nil, List.length_set, List.replicate, List.cons_append, List.nil_append, List.nodup_nil, List.nodup_cons, List.not_mem_nil, not_false_eq_true, and_self, and_true, true_and, if_true, if_false, reduceCtorEq, Bool.false_eq_true, ite_true, ite_false, List.mem_cons, or_false, false_or, DL.addD, DL.subD, DL.iD, DL.cmpD, DL.ltD, DL.leD, DL.gtD, DL.geD, DL.ixD, DL.int1D, DL.int2D, DL.intD, DL.absD, DL.min2D, DL.max2D, DL.lenD, DL.itemsD, DL.tupleD, DL.negD, DL.truD, DL.isD, DL.isNotD, DL.isNone, Bool.not_true, Bool.not_false, Nat.reduceAdd, Nat.reduceSub, Nat.reduceLT, Nat.reduceLeDiff, ↓reduceIte, DL.OC.lst.injEq, DL.mUn, DL.mBindX, DL.kDrop, DL.kRet, DL.kAsg, DL.runX, DL.okX, DL.mSetF, DL.putFD, DL.mSIn, DL.mSGet, DL.mIterS, hi, h0, h1, h2, h3, toSls, back, hR]
  unfold mlMk
  rw [a]
theorem mk_yes {args : MAs} {ρ : Rho} {F : List (Str × D)} {s0 s1 s2 s3 s4 s5 : D} (ha : args ρ = some ([.val s0, .val s1, .val s2, .val s3, .val s4, .val s5], ρ)) (hi : F_Night_init [.io (.ins "Night" []), .sh s0, .sh s1, .sh s2, .sh s3, .sh s4, .sh s5] = some (.ret .none, [.io (.ins "Night" F), .sh s0, .sh s1, .sh s2, .sh s3, .sh s4, .sh s5])) :
    mlMk "Night" F_Night_init [] args ρ = some (.ret (insD "Night" F), ρ) ∧ mMkF "Night" F_Night_init [] args ρ = some (.ins "Night" F, ρ) := by
  have h0 : (ρ ++ [Sl.ow (.ins "Night" [])])[ρ.length]? = some (Sl.ow (.ins "Night" [])) := by simp
  have h1 : (ρ ++ [Sl.ow (.ins "Night" [])]).set ρ.length (Sl.ow (.ins "Night" F)) = ρ ++ [Sl.ow (.ins "Night" F)] := by
    rw [List.set_append_right _ _ (Nat.le_refl _), Nat.sub_self]; rfl
  have h2 : (ρ ++ [Sl.ow (.ins "Night" F)]).getLast? = some (Sl.ow (.ins "Night" F)) := by simp
  have h3 : (ρ ++ [Sl.ow (.ins "Night" F)]).dropLast = ρ := by simp
  have a : mMkX "Night" F_Night_init [] args kRetC ρ = some (.rt (insD "Night" F) ρ) := by
    unfold mMkX
    rw [ha]
    generalize hR : ρ ++ [Sl.ow (.ins "Night" [])] = R at *
    generalize hR2 : ρ ++ [Sl.ow (.ins "Night" F)] = R2 at *
    simp only [DL.mSeq, DL.mIfS, DL.mTest, DL.mAnd, DL.mOr, DL.mNot, DL.mAndV, DL.mOrV, DL.mNotV, DL.mIf, DL.mChain, DL.mOp, DL.mUn, DL.mCall, DL.mC, DL.mVar, DL.pE, DL.pO, DL.fE, DL.aNil, DL.aCons, DL.mFn, DL.mFnG, DL.mTru, DL.mIsi, DL.mIsiT, DL.mNext, DL.mRet, DL.mRetO, DL.mRetF, DL.mRetN, DL.mDrop, DL.mAsg, DL.mOwn, DL.mAug, DL.mSetL, DL.mMt, DL.mTup, DL.mLstF, DL.mDTF, DL.mDKF, DL.mYes, DL.gNm, DL.gTp, DL.gsNil, DL.gsCons, DL.mFrz, DL.frz, DL.mListF, DL.mListRg2, DL.mListRg1, DL.mFnB, List.map_cons, List.map_nil, DL.flatD, DL.mLcF, DL.okW, DL.wipeR, DL.restR, DL.rngD_len, Int.toNat_natCast, Bool.and_self, Bool.and_true, Bool.true_and, DL.mFor, DL.mRng1, DL.mRng2, DL.mIter, DL.mEnumA, Option.bind_some, Option.bind_none, Option.map_some, Option.map_none, List.getElem?_cons_succ, List.getElem?_cons_zero, List.getElem?_nil, List.set_cons_succ, List.set_cons_zero, DL.Sl.oc, DL.Sl.put, DL.ocAt, DL.putAt, DL.ocFits, DL.isIo, DL.rsv, DL.rsvs, DL.vals, DL.toSl, DL.toSls, DL.back, DL.owns, DL.ocD, DL.fin, DL.runF, DL.runG, DL.runP, DL.runQ, List.length_cons, List.length_nil, List.length_set, List.replicate, List.cons_append, List.nil_append, List.nodup_nil, List.nodup_cons, List.not_mem_nil, not_false_eq_true, and_self, and_true, true_and, if_true, if_false, reduceCtorEq, Bool.false_eq_true, ite_true, ite_false, List.mem_cons, or_false, false_or, DL.addD, DL.subD, DL.iD, DL.cmpD, DL.ltD, DL.leD, DL.gtD, DL.geD, DL.ixD, DL.int1D, DL.int2D, DL.intD, DL.absD, DL.min2D, DL.max2D, DL.lenD, DL.itemsD, DL.tupleD, DL.negD, DL.truD, DL.isD, DL.isNotD, DL.isNone, Bool.not_true, Bool.not_false, Nat.reduceAdd, Nat.reduceSub, Nat.reduceLT, Nat.reduceLeDiff, ↓reduceIte, DL.OC.lst.injEq, DL.mUn, DL.mBindX, DL.kDrop, DL.kRet, DL.kAsg, DL.runX, DL.okX, DL.mSetF, DL.putFD, DL.mSIn, DL.mSGet, DL.mIterS, hi, h0, h1, h2, h3, toSls, back, hR, hR2, kRetC, ocD]
  have b : mMkF "Night" F_Night_init [] args ρ = some (.ins "Night" F, ρ) := by
    unfold mMkF
    rw [ha]
    generalize hR : ρ ++ [Sl.ow (.ins "Night" [])] = R at *
    generalize hR2 : ρ ++ [Sl.ow (.ins "Night" F)] = R2 at *
    simp only [DL.mSeq, DL.mIfS, DL.mTest, DL.mAnd, DL.mOr, DL.mNot, DL.mAndV, DL.mOrV, DL.mNotV, DL.mIf, DL.mChain, DL.mOp, DL.mUn, DL.mCall, DL.mC, DL.mVar, DL.pE, DL.pO, DL.fE, DL.aNil, DL.aCons, DL.mFn, DL.mFnG, DL.mTru, DL.mIsi, DL.mIsiT, DL.mNext, DL.mRet, DL.mRetO, DL.mRetF, DL.mRetN, DL.mDrop, DL.mAsg, DL.mOwn, DL.mAug, DL.mSetL, DL.mMt, DL.mTup, DL.mLstF, DL.mDTF, DL.mDKF, DL.mYes, DL.gNm, DL.gTp, DL.gsNil, DL.gsCons, DL.mFrz, DL.frz, DL.mListF, DL.mListRg2, DL.mListRg1, DL.mFnB, List.map_cons, List.map_nil, DL.flatD, DL.mLcF, DL.okW, DL.wipeR, DL.restR, DL.rngD_len, Int.toNat_natCast, Bool.and_self, Bool.and_true, Bool.true_and, DL.mFor, DL.mRng1, DL.mRng2, DL.mIter, DL.mEnumA, Option.bind_some, Option.bind_none, Option.map_some, Option.map_none, List.getElem?_cons_succ, List.getElem?_cons_zero, List.getElem?_nil, List.set_cons_succ, List.set_cons_zero, DL.Sl.oc, DL.Sl.put, DL.ocAt, DL.putAt, DL.ocFits, DL.isIo, DL.rsv, DL.rsvs, DL.vals, DL.toSl, DL.toSls, DL.back, DL.owns, DL.ocD, DL.fin, DL.runF, DL.runG, DL.runP, DL.runQ, List.length_cons, List.length_nil, List.length_set, List.replicate, List.cons_append, List.nil_append, List.nodup_nil, List.nodup_cons, List.not_mem_nil, not_false_eq_true, and_self, and_true, true_and, if_true, if_false, reduceCtorEq, Bool.false_eq_true, ite_true, ite_false, List.mem_cons, or_false, false_or, DL.addD, DL.subD, DL.iD, DL.cmpD, DL.ltD, DL.leD, DL.gtD, DL.geD, DL.ixD, DL.int1D, DL.int2D, DL.intD, DL.absD, DL.min2D, DL.max2D, DL.lenD, DL.itemsD, DL.tupleD, DL.negD, DL.truD, DL.isD, DL.isNotD, DL.isNone, Bool.not_true, Bool.not_false, Nat.reduceAdd, Nat.reduceSub, Nat.reduceLT, Nat.reduceLeDiff, ↓reduceIte, DL.OC.lst.injEq, DL.mUn, DL.mBindX, DL.kDrop, DL.kRet, DL.kAsg, DL.runX, DL.okX, DL.mSetF, DL.putFD, DL.mSIn, DL.mSGet, DL.mIterS, hi, h0, h1, h2, h3, toSls, back, hR, hR2, okX]
  refine ⟨?_, b⟩
  unfold mlMk
  rw [a]
theorem parts6 {p : Pt} {ρ : Rho} (h : ρ[2]? = some (.sh (ptD p))) : (aCons (pE (mOp ixD (pE (mVar 2)) (pE (mC (.int 0))))) (aCons (pE (mOp ixD (pE (mVar 2)) (pE (mC (.int 1))))) (aCons (pE (mOp ixD (pE (mVar 2)) (pE (mC (.int 2))))) (aCons (pE (mOp ixD (pE (mVar 2)) (pE (mC (.int 3))))) (aCons (pE (mOp ixD (pE (mVar 2)) (pE (mC (.int 4))))) (aCons (pE (mOp ixD (pE (mVar 2)) (pE (mC (.int 5))))) aNil)))))) ρ =
    some ([.val (.int p.hands), .val (.int p.ovens), .val (.tuple (p.kinds.map kdD)), .val (.tuple (p.orders.map odD)), .val (.tuple [.int p.b0, .int p.b1, .int p.b2]), .val (.int p.repair)], ρ) := by
  obtain ⟨i0, i1, i2, i3, i4, i5⟩ := pt_ix p
  generalize p.kinds.map kdD = KS at *
  generalize p.orders.map odD = OS at *
  generalize ptD p = PT at *
  generalize (ixD : D → D → Option D) = ix at *
  simp only [DL.mSeq, DL.mIfS, DL.mTest, DL.mAnd, DL.mOr, DL.mNot, DL.mAndV, DL.mOrV, DL.mNotV, DL.mIf, DL.mChain, DL.mOp, DL.mUn, DL.mCall, DL.mC, DL.mVar, DL.pE, DL.pO, DL.fE, DL.aNil, DL.aCons, DL.mFn, DL.mFnG, DL.mTru, DL.mIsi, DL.mIsiT, DL.mNext, DL.mRet, DL.mRetO, DL.mRetF, DL.mRetN, DL.mDrop, DL.mAsg, DL.mOwn, DL.mAug, DL.mSetL, DL.mMt, DL.mTup, DL.mLstF, DL.mDTF, DL.mDKF, DL.mYes, DL.gNm, DL.gTp, DL.gsNil, DL.gsCons, DL.mFrz, DL.frz, DL.mListF, DL.mListRg2, DL.mListRg1, DL.mFnB, List.map_cons, List.map_nil, DL.flatD, DL.mLcF, DL.okW, DL.wipeR, DL.restR, DL.rngD_len, Int.toNat_natCast, Bool.and_self, Bool.and_true, Bool.true_and, DL.mFor, DL.mRng1, DL.mRng2, DL.mIter, DL.mEnumA, Option.bind_some, Option.bind_none, Option.map_some, Option.map_none, List.getElem?_cons_succ, List.getElem?_cons_zero, List.getElem?_nil, List.set_cons_succ, List.set_cons_zero, DL.Sl.oc, DL.Sl.put, DL.ocAt, DL.putAt, DL.ocFits, DL.isIo, DL.rsv, DL.rsvs, DL.vals, DL.toSl, DL.toSls, DL.back, DL.owns, DL.ocD, DL.fin, DL.runF, DL.runG, DL.runP, DL.runQ, List.length_cons, List.length_nil, List.length_set, List.replicate, List.cons_append, List.nil_append, List.nodup_nil, List.nodup_cons, List.not_mem_nil, not_false_eq_true, and_self, and_true, true_and, if_true, if_false, reduceCtorEq, Bool.false_eq_true, ite_true, ite_false, List.mem_cons, or_false, false_or, DL.addD, DL.subD, DL.iD, DL.cmpD, DL.ltD, DL.leD, DL.gtD, DL.geD, DL.ixD, DL.int1D, DL.int2D, DL.intD, DL.absD, DL.min2D, DL.max2D, DL.lenD, DL.itemsD, DL.tupleD, DL.negD, DL.truD, DL.isD, DL.isNotD, DL.isNone, Bool.not_true, Bool.not_false, Nat.reduceAdd, Nat.reduceSub, Nat.reduceLT, Nat.reduceLeDiff, ↓reduceIte, DL.OC.lst.injEq, DL.mUn, DL.mBindX, DL.kDrop, DL.kRet, DL.kAsg, DL.runX, DL.okX, DL.mSetF, DL.putFD, DL.mSIn, DL.mSGet, DL.mIterS, h, i0, i1, i2, i3, i4, i5]
theorem outer {p : Pt} (v : Pv p) {ns : List Int} (hn : ns.length ≤ 63) {a0 a3 a5 : Sl} : ∀ (r : Nat) (j : Int) (o : OC) (x4 x6 x7 x8 x9 x10 : Sl), Rw ns o → Nn x4 → Nw x6 → Nn x7 → Nn x8 → Nn x9 → Nn x10 →
    ∃ (o' : OC) (w4 w6 w7 w8 w9 w10 : Sl), Rw ns o' ∧ forD (gNm 4) tBody (rngD j r) [a0, .ow o, .sh (.tuple (pL p)), a3, x4, a5, x6, x7, x8, x9, x10, .no, .no] = some (.nx [a0, .ow o', .sh (.tuple (pL p)), a3, w4, a5, w6, w7, w8, w9, w10, .no, .no])
  | 0, j, o, x4, x6, x7, x8, x9, x10, hr, _, _, _, _, _, _ => ⟨o, x4, x6, x7, x8, x9, x10, hr, rfl⟩
  | r + 1, j, o, x4, x6, x7, x8, x9, x10, hr, h4, h6, h7, h8, h9, h10 => by
    have hg : gNm 4 (.int j) [a0, .ow o, .sh (.tuple (pL p)), a3, x4, a5, x6, x7, x8, x9, x10, .no, .no] = some [a0, .ow o, .sh (.tuple (pL p)), a3, .sh (.int j), a5, x6, x7, x8, x9, x10, .no, .no] := by
      rcases h4 with rfl | ⟨d, rfl⟩ <;> rfl
    obtain ⟨o1, w6, w7, w8, w9, w10, q1, q6, q7, q8, q9, q10, e⟩ := turn_ok v hn hr (a0 := a0) (a3 := a3) (a4 := .sh (.int j)) (a5 := a5) h6 h7 h8 h9 h10
    obtain ⟨o', w4, u6, u7, u8, u9, u10, r1, e2⟩ := outer v hn r (j + 1) o1 (.sh (.int j)) w6 w7 w8 w9 w10 q1 (.inr ⟨_, rfl⟩) q6 q7 q8 q9 q10
    refine ⟨o', w4, u6, u7, u8, u9, u10, r1, ?_⟩
    show forD (gNm 4) tBody (.int j :: rngD (j + 1) r) _ = _
    rw [forD_cons, hg, Option.bind_some, e, Option.bind_some]
    exact e2
end Lk11
set_option Elab.async false
set_option linter.all false
set_option maxRecDepth 100000
set_option maxHeartbeats 4000000
namespace Lk11
open PySem L2 DL
theorem same_no {d : D} (h : SeqAt.shaped d = true) (e : PyData.eqv d d = true) : neD d d = some (.bool false) ∧ eqD d d = some (.bool true) := by
  unfold neD eqD
  rw [if_pos ⟨h, h⟩, if_pos ⟨h, h⟩, e]
  exact ⟨rfl, rfl⟩
theorem ne_blank : neD (.tuple [.str "", .none]) (.tuple [.str "", .none]) = some (.bool false) :=
  (same_no (by decide +kernel) (by simp [PyData.eqv, PyData.eqvAll])).1
theorem eq_orders : eqD (.tuple [.str "orders", .int (-1)]) (.tuple [.str "orders", .int (-1)]) = some (.bool true) :=
  (same_no (by decide +kernel) (by simp [PyData.eqv, PyData.eqvAll])).2
theorem ne_rye : neD (.str "rye") (.str "rye") = some (.bool false) :=
  (same_no (by decide +kernel) (by simp [PyData.eqv])).1
def fullL : List (Str × Int) := [("rye", 0), ("rye", 20), ("rye", 20), ("rye", 0), ("rye", 7)]
theorem ne_full : neD (.tuple (fullL.map odD)) (.tuple (fullL.map odD)) = some (.bool false) :=
  (same_no (by decide +kernel) (by simp [PyData.eqv, PyData.eqvAll, fullL, odD])).1
theorem rye0 {p : Pt} (v : Pv p) : ixD (.list (p.kinds.map fun k => PyData.str k.name)) (.int 0) = some (.str "rye") := by
  obtain ⟨n, h1, _, e⟩ := v.kn
  show atI (p.kinds.map fun k => PyData.str k.name) 0 = _
  refine atI_of (n := 0) rfl ?_
  have : (p.kinds.map fun k => PyData.str k.name) = (names4.take n).map PyData.str := by rw [← e, List.map_map]; rfl
  rw [this]
  cases n with
  | zero => omega
  | succ n => rfl
def fP (p : Pt) : Pt := ⟨3, 3, p.kinds, fullL, 3, 3, 3, 4⟩
theorem fP_v {p : Pt} (v : Pv p) : Pv (fP p) := by
  refine ⟨by show 1 ≤ (3 : Int) ∧ (3 : Int) ≤ 3; omega, by show 1 ≤ (3 : Int) ∧ (3 : Int) ≤ 3; omega, v.ks, v.kn, fun q hq => ?_, by show 1 ≤ 5 ∧ 5 ≤ 5; omega, by show (0 ≤ (3 : Int) ∧ (3 : Int) ≤ 3) ∧ (0 ≤ (3 : Int) ∧ (3 : Int) ≤ 3) ∧ 0 ≤ (3 : Int) ∧ (3 : Int) ≤ 3; omega, by show 1 ≤ (4 : Int) ∧ (4 : Int) ≤ 4; omega⟩
  have hr := rye_in v
  have hq : q ∈ fullL := hq
  simp only [fullL, List.mem_cons, List.not_mem_nil, or_false] at hq
  rcases hq with rfl | rfl | rfl | rfl | rfl <;> exact ⟨hr, by decide, by decide⟩
theorem g2_ok {p : Pt} (v : Pv p) {a0 a1 a4 a5 a6 a7 a8 a9 a10 : Sl} : g2 [a0, a1, .sh (ptD p), .no, a4, a5, a6, a7, a8, a9, a10, .no, .no] = some (.nx [a0, a1, .sh (ptD p), .sh (.list (p.kinds.map fun k => PyData.str k.name)), a4, a5, a6, a7, a8, a9, a10, .no, .no]) := by
  obtain ⟨l1, l4⟩ := kn_len v
  have i2 := (pt_ix p).2.2.1
  unfold g2
  generalize hE : (mOp ixD (pE (mVar 11)) (pE (mC (.int 0))) : ME) = el
  have hc := compD_mapA (vs := [11]) (g := gNm 11) (elt := el) (ρ := [a0, a1, .sh (ptD p), .no, a4, a5, a6, a7, a8, a9, a10, .no, .no]) kdD (fun k => PyData.str k.name) p.kinds fun k hk => by
    refine ⟨[a0, a1, .sh (ptD p), .no, a4, a5, a6, a7, a8, a9, a10, .sh (kdD k), .no], rfl, ?_, rfl, rfl⟩
    have i0 := (kd_ix k).1
    generalize kdD k = KD at *
    generalize ptD p = PT at *
    generalize (ixD : D → D → Option D) = ix at *
    subst hE
    simp only [DL.mSeq, DL.mIfS, DL.mTest, DL.mAnd, DL.mOr, DL.mNot, DL.mAndV, DL.mOrV, DL.mNotV, DL.mIf, DL.mChain, DL.mOp, DL.mUn, DL.mCall, DL.mC, DL.mVar, DL.pE, DL.pO, DL.fE, DL.aNil, DL.aCons, DL.mFn, DL.mFnG, DL.mTru, DL.mIsi, DL.mIsiT, DL.mNext, DL.mRet, DL.mRetO, DL.mRetF, DL.mRetN, DL.mDrop, DL.mAsg, DL.mOwn, DL.mAug, DL.mSetL, DL.mMt, DL.mTup, DL.mLstF, DL.mDTF, DL.mDKF, DL.mYes, DL.gNm, DL.gTp, DL.gsNil, DL.gsCons, DL.mFrz, DL.frz, DL.mListF, DL.mListRg2, DL.mListRg1, DL.mFnB, List.map_cons, List.map_nil, DL.flatD, DL.mLcF, DL.okW, DL.wipeR, DL.restR, DL.rngD_len, Int.toNat_natCast, Bool.and_self, Bool.and_true, Bool.true_and, DL.mFor, DL.mRng1, DL.mRng2, DL.mIter, DL.mEnumA, Option.bind_some, Option.bind_none, Option.map_some, Option.map_none, List.getElem?_cons_succ, List.getElem?_cons_zero, List.getElem?_nil, List.set_cons_succ, List.set_cons_zero, DL.Sl.oc, DL.Sl.put, DL.ocAt, DL.putAt, DL.ocFits, DL.isIo, DL.rsv, DL.rsvs, DL.vals, DL.toSl, DL.toSls, DL.back, DL.owns, DL.ocD, DL.fin, DL.runF, DL.runG, DL.runP, DL.runQ, List.length_cons, List.length_nil, List.length_set, List.replicate, List.cons_append, List.nil_append, List.nodup_nil, List.nodup_cons, List.not_mem_nil, not_false_eq_true, and_self, and_true, true_and, if_true, if_false, reduceCtorEq, Bool.false_eq_true, ite_true, ite_false, List.mem_cons, or_false, false_or, DL.addD, DL.subD, DL.iD, DL.cmpD, DL.ltD, DL.leD, DL.gtD, DL.geD, DL.ixD, DL.int1D, DL.int2D, DL.intD, DL.absD, DL.min2D, DL.max2D, DL.lenD, DL.itemsD, DL.tupleD, DL.negD, DL.truD, DL.isD, DL.isNotD, DL.isNone, Bool.not_true, Bool.not_false, Nat.reduceAdd, Nat.reduceSub, Nat.reduceLT, Nat.reduceLeDiff, ↓reduceIte, DL.OC.lst.injEq, DL.mUn, DL.mBindX, DL.kDrop, DL.kRet, DL.kAsg, DL.runX, DL.okX, DL.mSetF, DL.putFD, DL.mSIn, DL.mSGet, DL.mIterS, i0]
  have h5 : (p.kinds.map kdD).length ≤ 50000 := by rw [List.length_map]; omega
  generalize p.kinds.map kdD = KS at *
  generalize (p.kinds.map fun k => PyData.str k.name) = NS at *
  generalize ptD p = PT at *
  generalize (ixD : D → D → Option D) = ix at *
  simp only [DL.mSeq, DL.mIfS, DL.mTest, DL.mAnd, DL.mOr, DL.mNot, DL.mAndV, DL.mOrV, DL.mNotV, DL.mIf, DL.mChain, DL.mOp, DL.mUn, DL.mCall, DL.mC, DL.mVar, DL.pE, DL.pO, DL.fE, DL.aNil, DL.aCons, DL.mFn, DL.mFnG, DL.mTru, DL.mIsi, DL.mIsiT, DL.mNext, DL.mRet, DL.mRetO, DL.mRetF, DL.mRetN, DL.mDrop, DL.mAsg, DL.mOwn, DL.mAug, DL.mSetL, DL.mMt, DL.mTup, DL.mLstF, DL.mDTF, DL.mDKF, DL.mYes, DL.gNm, DL.gTp, DL.gsNil, DL.gsCons, DL.mFrz, DL.frz, DL.mListF, DL.mListRg2, DL.mListRg1, DL.mFnB, List.map_cons, List.map_nil, DL.flatD, DL.mLcF, DL.okW, DL.wipeR, DL.restR, DL.rngD_len, Int.toNat_natCast, Bool.and_self, Bool.and_true, Bool.true_and, DL.mFor, DL.mRng1, DL.mRng2, DL.mIter, DL.mEnumA, Option.bind_some, Option.bind_none, Option.map_some, Option.map_none, List.getElem?_cons_succ, List.getElem?_cons_zero, List.getElem?_nil, List.set_cons_succ, List.set_cons_zero, DL.Sl.oc, DL.Sl.put, DL.ocAt, DL.putAt, DL.ocFits, DL.isIo, DL.rsv, DL.rsvs, DL.vals, DL.toSl, DL.toSls, DL.back, DL.owns, DL.ocD, DL.fin, DL.runF, DL.runG, DL.runP, DL.runQ, List.length_cons, List.length_nil, List.length_set, List.replicate, List.cons_append, List.nil_append, List.nodup_nil, List.nodup_cons, List.not_mem_nil, not_false_eq_true, and_self, and_true, true_and, if_true, if_false, reduceCtorEq, Bool.false_eq_true, ite_true, ite_false, List.mem_cons, or_false, false_or, DL.addD, DL.subD, DL.iD, DL.cmpD, DL.ltD, DL.leD, DL.gtD, DL.geD, DL.ixD, DL.int1D, DL.int2D, DL.intD, DL.absD, DL.min2D, DL.max2D, DL.lenD, DL.itemsD, DL.tupleD, DL.negD, DL.truD, DL.isD, DL.isNotD, DL.isNone, Bool.not_true, Bool.not_false, Nat.reduceAdd, Nat.reduceSub, Nat.reduceLT, Nat.reduceLeDiff, ↓reduceIte, DL.OC.lst.injEq, DL.mUn, DL.mBindX, DL.kDrop, DL.kRet, DL.kAsg, DL.runX, DL.okX, DL.mSetF, DL.putFD, DL.mSIn, DL.mSGet, DL.mIterS, i2, h5, hc, ocD]
theorem g3_ok {p : Pt} (v : Pv p) {a0 a1 a3 a4 a5 a6 a7 a8 a9 a10 : Sl} : g3 [a0, a1, .sh (ptD p), a3, a4, a5, a6, a7, a8, a9, a10, .no, .no] = some (.nx [a0, a1, .sh (ptD p), a3, a4, a5, a6, a7, a8, a9, a10, .no, .no]) := by
  have m := (mk_yes (parts6 (p := p) (ρ := [a0, a1, .sh (ptD p), a3, a4, a5, a6, a7, a8, a9, a10, .no, .no]) rfl) (init_ok v)).1
  have hf : F_law_refused (.ret (insD "Night" (ntF p))) = some (.tuple [.str "", .none]) := rfl
  have ne := ne_blank
  unfold g3
  generalize mlMk _ _ _ _ = ML at *
  generalize F_law_refused = RF at *
  generalize insD "Night" (ntF p) = NT at *
  generalize ptD p = PT at *
  generalize hT : PyData.tuple [.str "", .none] = T at *
  generalize (neD : D → D → Option D) = ned at *
  simp only [DL.mSeq, DL.mIfS, DL.mTest, DL.mAnd, DL.mOr, DL.mNot, DL.mAndV, DL.mOrV, DL.mNotV, DL.mIf, DL.mChain, DL.mOp, DL.mUn, DL.mCall, DL.mC, DL.mVar, DL.pE, DL.pO, DL.fE, DL.aNil, DL.aCons, DL.mFn, DL.mFnG, DL.mTru, DL.mIsi, DL.mIsiT, DL.mNext, DL.mRet, DL.mRetO, DL.mRetF, DL.mRetN, DL.mDrop, DL.mAsg, DL.mOwn, DL.mAug, DL.mSetL, DL.mMt, DL.mTup, DL.mLstF, DL.mDTF, DL.mDKF, DL.mYes, DL.gNm, DL.gTp, DL.gsNil, DL.gsCons, DL.mFrz, DL.frz, DL.mListF, DL.mListRg2, DL.mListRg1, DL.mFnB, List.map_cons, List.map_nil, DL.flatD, DL.mLcF, DL.okW, DL.wipeR, DL.restR, DL.rngD_len, Int.toNat_natCast, Bool.and_self, Bool.and_true, Bool.true_and, DL.mFor, DL.mRng1, DL.mRng2, DL.mIter, DL.mEnumA, Option.bind_some, Option.bind_none, Option.map_some, Option.map_none, List.getElem?_cons_succ, List.getElem?_cons_zero, List.getElem?_nil, List.set_cons_succ, List.set_cons_zero, DL.Sl.oc, DL.Sl.put, DL.ocAt, DL.putAt, DL.ocFits, DL.isIo, DL.rsv, DL.rsvs, DL.vals, DL.toSl, DL.toSls, DL.back, DL.owns, DL.ocD, DL.fin, DL.runF, DL.runG, DL.runP, DL.runQ, List.length_cons, List.length_nil, List.length_set, List.replicate, List.cons_append, List.nil_append, List.nodup_nil, List.nodup_cons, List.not_mem_nil, not_false_eq_true, and_self, and_true, true_and, if_true, if_false, reduceCtorEq, Bool.false_eq_true, ite_true, ite_false, List.mem_cons, or_false, false_or, DL.addD, DL.subD, DL.iD, DL.cmpD, DL.ltD, DL.leD, DL.gtD, DL.geD, DL.ixD, DL.int1D, DL.int2D, DL.intD, DL.absD, DL.min2D, DL.max2D, DL.lenD, DL.itemsD, DL.tupleD, DL.negD, DL.truD, DL.isD, DL.isNotD, DL.isNone, Bool.not_true, Bool.not_false, Nat.reduceAdd, Nat.reduceSub, Nat.reduceLT, Nat.reduceLeDiff, ↓reduceIte, DL.OC.lst.injEq, DL.mUn, DL.mBindX, DL.kDrop, DL.kRet, DL.kAsg, DL.runX, DL.okX, DL.mSetF, DL.putFD, DL.mSIn, DL.mSGet, DL.mIterS, mLam, m, hf, hT, ne, ocD]
theorem g5_ok {a0 a1 a2 a3 a4 a6 a7 a8 a9 a10 : Sl} : g5 [a0, a1, a2, a3, a4, .no, a6, a7, a8, a9, a10, .no, .no] = some (.nx [a0, a1, a2, a3, a4, .sh (.list (fullL.map odD)), a6, a7, a8, a9, a10, .no, .no]) := by
  unfold g5
  generalize hE : (mTup _ : ME) = el
  have hc := compD_mapA (vs := [12]) (g := gNm 12) (elt := el) (ρ := [a0, a1, a2, a3, a4, .no, a6, a7, a8, a9, a10, .no, .no]) (fun q : Str × Int => PyData.int q.2) (fun q => PyData.tuple [.str "rye", .int q.2]) fullL fun q hq => by
    refine ⟨[a0, a1, a2, a3, a4, .no, a6, a7, a8, a9, a10, .no, .sh (.int q.2)], rfl, ?_, rfl, rfl⟩
    subst hE
    simp only [DL.mSeq, DL.mIfS, DL.mTest, DL.mAnd, DL.mOr, DL.mNot, DL.mAndV, DL.mOrV, DL.mNotV, DL.mIf, DL.mChain, DL.mOp, DL.mUn, DL.mCall, DL.mC, DL.mVar, DL.pE, DL.pO, DL.fE, DL.aNil, DL.aCons, DL.mFn, DL.mFnG, DL.mTru, DL.mIsi, DL.mIsiT, DL.mNext, DL.mRet, DL.mRetO, DL.mRetF, DL.mRetN, DL.mDrop, DL.mAsg, DL.mOwn, DL.mAug, DL.mSetL, DL.mMt, DL.mTup, DL.mLstF, DL.mDTF, DL.mDKF, DL.mYes, DL.gNm, DL.gTp, DL.gsNil, DL.gsCons, DL.mFrz, DL.frz, DL.mListF, DL.mListRg2, DL.mListRg1, DL.mFnB, List.map_cons, List.map_nil, DL.flatD, DL.mLcF, DL.okW, DL.wipeR, DL.restR, DL.rngD_len, Int.toNat_natCast, Bool.and_self, Bool.and_true, Bool.true_and, DL.mFor, DL.mRng1, DL.mRng2, DL.mIter, DL.mEnumA, Option.bind_some, Option.bind_none, Option.map_some, Option.map_none, List.getElem?_cons_succ, List.getElem?_cons_zero, List.getElem?_nil, List.set_cons_succ, List.set_cons_zero, DL.Sl.oc, DL.Sl.put, DL.ocAt, DL.putAt, DL.ocFits, DL.isIo, DL.rsv, DL.rsvs, DL.vals, DL.toSl, DL.toSls, DL.back, DL.owns, DL.ocD, DL.fin, DL.runF, DL.runG, DL.runP, DL.runQ, List.length_cons, List.length_nil, List.length_set, List.replicate, List.cons_append, List.nil_append, List.nodup_nil, List.nodup_cons, List.not_mem_nil, not_false_eq_true, and_self, and_true, true_and, if_true, if_false, reduceCtorEq, Bool.false_eq_true, ite_true, ite_false, List.mem_cons, or_false, false_or, DL.addD, DL.subD, DL.iD, DL.cmpD, DL.ltD, DL.leD, DL.gtD, DL.geD, DL.ixD, DL.int1D, DL.int2D, DL.intD, DL.absD, DL.min2D, DL.max2D, DL.lenD, DL.itemsD, DL.tupleD, DL.negD, DL.truD, DL.isD, DL.isNotD, DL.isNone, Bool.not_true, Bool.not_false, Nat.reduceAdd, Nat.reduceSub, Nat.reduceLT, Nat.reduceLeDiff, ↓reduceIte, DL.OC.lst.injEq, DL.mUn, DL.mBindX, DL.kDrop, DL.kRet, DL.kAsg, DL.runX, DL.okX, DL.mSetF, DL.putFD, DL.mSIn, DL.mSGet, DL.mIterS, ocD]
  have e1 : (fullL.map fun q : Str × Int => PyData.int q.2) = [.int 0, .int 20, .int 20, .int 0, .int 7] := rfl
  have e2 : (fullL.map fun q : Str × Int => PyData.tuple [.str "rye", .int q.2]) = fullL.map odD := rfl
  rw [e1, e2] at hc
  have h5 : ([.int 0, .int 20, .int 20, .int 0, .int 7] : List D).length ≤ 50000 := by decide
  have h6 : ([.int 0, .int 20, .int 20, .int 0, .int 7] : List D).length ≤ 100000 := by decide
  generalize fullL.map odD = FL at *
  generalize hL : ([.int 0, .int 20, .int 20, .int 0, .int 7] : List D) = L5 at *
  simp only [DL.mSeq, DL.mIfS, DL.mTest, DL.mAnd, DL.mOr, DL.mNot, DL.mAndV, DL.mOrV, DL.mNotV, DL.mIf, DL.mChain, DL.mOp, DL.mUn, DL.mCall, DL.mC, DL.mVar, DL.pE, DL.pO, DL.fE, DL.aNil, DL.aCons, DL.mFn, DL.mFnG, DL.mTru, DL.mIsi, DL.mIsiT, DL.mNext, DL.mRet, DL.mRetO, DL.mRetF, DL.mRetN, DL.mDrop, DL.mAsg, DL.mOwn, DL.mAug, DL.mSetL, DL.mMt, DL.mTup, DL.mLstF, DL.mDTF, DL.mDKF, DL.mYes, DL.gNm, DL.gTp, DL.gsNil, DL.gsCons, DL.mFrz, DL.frz, DL.mListF, DL.mListRg2, DL.mListRg1, DL.mFnB, List.map_cons, List.map_nil, DL.flatD, DL.mLcF, DL.okW, DL.wipeR, DL.restR, DL.rngD_len, Int.toNat_natCast, Bool.and_self, Bool.and_true, Bool.true_and, DL.mFor, DL.mRng1, DL.mRng2, DL.mIter, DL.mEnumA, Option.bind_some, Option.bind_none, Option.map_some, Option.map_none, List.getElem?_cons_succ, List.getElem?_cons_zero, List.getElem?_nil, List.set_cons_succ, List.set_cons_zero, DL.Sl.oc, DL.Sl.put, DL.ocAt, DL.putAt, DL.ocFits, DL.isIo, DL.rsv, DL.rsvs, DL.vals, DL.toSl, DL.toSls, DL.back, DL.owns, DL.ocD, DL.fin, DL.runF, DL.runG, DL.runP, DL.runQ, List.length_cons, List.length_nil, List.length_set, List.replicate, List.cons_append, List.nil_append, List.nodup_nil, List.nodup_cons, List.not_mem_nil, not_false_eq_true, and_self, and_true, true_and, if_true, if_false, reduceCtorEq, Bool.false_eq_true, ite_true, ite_false, List.mem_cons, or_false, false_or, DL.addD, DL.subD, DL.iD, DL.cmpD, DL.ltD, DL.leD, DL.gtD, DL.geD, DL.ixD, DL.int1D, DL.int2D, DL.intD, DL.absD, DL.min2D, DL.max2D, DL.lenD, DL.itemsD, DL.tupleD, DL.negD, DL.truD, DL.isD, DL.isNotD, DL.isNone, Bool.not_true, Bool.not_false, Nat.reduceAdd, Nat.reduceSub, Nat.reduceLT, Nat.reduceLeDiff, ↓reduceIte, DL.OC.lst.injEq, DL.mUn, DL.mBindX, DL.kDrop, DL.kRet, DL.kAsg, DL.runX, DL.okX, DL.mSetF, DL.putFD, DL.mSIn, DL.mSGet, DL.mIterS, hL, h5, h6, hc, ocD]
theorem g6_ok {p : Pt} (v : Pv p) {a0 a1 a4 a6 a7 a8 a9 a10 : Sl} : g6 [a0, a1, .sh (ptD p), .sh (.list (p.kinds.map fun k => PyData.str k.name)), a4, .sh (.list (fullL.map odD)), a6, a7, a8, a9, a10, .no, .no] = some (.nx [a0, a1, .sh (ptD p), .sh (.list (p.kinds.map fun k => PyData.str k.name)), a4, .sh (.list (fullL.map odD)), a6, a7, a8, a9, a10, .no, .no]) := by
  have i2 := (pt_ix p).2.2.1
  have r0 := rye0 v
  have n1 := ne_full
  have n2 := ne_rye
  have tf : tupleD [.list (fullL.map odD)] = some (.tuple (fullL.map odD)) := rfl
  have fo : fldD "Night" "orders" (insD "Night" (ntF (fP p))) = some (.tuple (fullL.map odD)) := rfl
  have hi := init_okL (fP_v v)
  have hi : F_Night_init [.io (.ins "Night" []), .sh (.int 3), .sh (.int 3), .sh (.tuple (p.kinds.map kdD)), .sh (.list (fullL.map odD)), .sh (.tuple [.int 3, .int 3, .int 3]), .sh (.int 4)] = some (.ret .none, [.io (.ins "Night" (ntF (fP p))), .sh (.int 3), .sh (.int 3), .sh (.tuple (p.kinds.map kdD)), .sh (.list (fullL.map odD)), .sh (.tuple [.int 3, .int 3, .int 3]), .sh (.int 4)]) := hi
  unfold g6
  generalize hA : (aCons (pE (mC (.int 3))) _ : MAs) = AR
  have ha : AR [a0, a1, .sh (ptD p), .sh (.list (p.kinds.map fun k => PyData.str k.name)), a4, .sh (.list (fullL.map odD)), a6, a7, a8, a9, a10, .no, .no] = some ([.val (.int 3), .val (.int 3), .val (.tuple (p.kinds.map kdD)), .val (.list (fullL.map odD)), .val (.tuple [.int 3, .int 3, .int 3]), .val (.int 4)], [a0, a1, .sh (ptD p), .sh (.list (p.kinds.map fun k => PyData.str k.name)), a4, .sh (.list (fullL.map odD)), a6, a7, a8, a9, a10, .no, .no]) := by
    generalize p.kinds.map kdD = KS at *
    generalize (p.kinds.map fun k => PyData.str k.name) = NS at *
    generalize fullL.map odD = FL at *
    generalize ptD p = PT at *
    generalize (ixD : D → D → Option D) = ix at *
    subst hA
    simp only [DL.mSeq, DL.mIfS, DL.mTest, DL.mAnd, DL.mOr, DL.mNot, DL.mAndV, DL.mOrV, DL.mNotV, DL.mIf, DL.mChain, DL.mOp, DL.mUn, DL.mCall, DL.mC, DL.mVar, DL.pE, DL.pO, DL.fE, DL.aNil, DL.aCons, DL.mFn, DL.mFnG, DL.mTru, DL.mIsi, DL.mIsiT, DL.mNext, DL.mRet, DL.mRetO, DL.mRetF, DL.mRetN, DL.mDrop, DL.mAsg, DL.mOwn, DL.mAug, DL.mSetL, DL.mMt, DL.mTup, DL.mLstF, DL.mDTF, DL.mDKF, DL.mYes, DL.gNm, DL.gTp, DL.gsNil, DL.gsCons, DL.mFrz, DL.frz, DL.mListF, DL.mListRg2, DL.mListRg1, DL.mFnB, List.map_cons, List.map_nil, DL.flatD, DL.mLcF, DL.okW, DL.wipeR, DL.restR, DL.rngD_len, Int.toNat_natCast, Bool.and_self, Bool.and_true, Bool.true_and, DL.mFor, DL.mRng1, DL.mRng2, DL.mIter, DL.mEnumA, Option.bind_some, Option.bind_none, Option.map_some, Option.map_none, List.getElem?_cons_succ, List.getElem?_cons_zero, List.getElem?_nil, List.set_cons_succ, List.set_cons_zero, DL.Sl.oc, DL.Sl.put, DL.ocAt, DL.putAt, DL.ocFits, DL.isIo, DL.rsv, DL.rsvs, DL.vals, DL.toSl, DL.toSls, DL.back, DL.owns, DL.ocD, DL.fin, DL.runF, DL.runG, DL.runP, DL.runQ, List.length_cons, List.length_nil, List.length_set, List.replicate, List.cons_append, List.nil_append, List.nodup_nil, List.nodup_cons, List.not_mem_nil, not_false_eq_true, and_self, and_true, true_and, if_true, if_false, reduceCtorEq, Bool.false_eq_true, ite_true, ite_false, List.mem_cons, or_false, false_or, DL.addD, DL.subD, DL.iD, DL.cmpD, DL.ltD, DL.leD, DL.gtD, DL.geD, DL.ixD, DL.int1D, DL.int2D, DL.intD, DL.absD, DL.min2D, DL.max2D, DL.lenD, DL.itemsD, DL.tupleD, DL.negD, DL.truD, DL.isD, DL.isNotD, DL.isNone, Bool.not_true, Bool.not_false, Nat.reduceAdd, Nat.reduceSub, Nat.reduceLT, Nat.reduceLeDiff, ↓reduceIte, DL.OC.lst.injEq, DL.mUn, DL.mBindX, DL.kDrop, DL.kRet, DL.kAsg, DL.runX, DL.okX, DL.mSetF, DL.putFD, DL.mSIn, DL.mSGet, DL.mIterS, i2, mListF, ocD]
  have m := (mk_yes ha hi).2
  generalize mMkF _ _ _ _ = MF' at *
  clear hi ha hA
  generalize hF : ntF (fP p) = F at *
  generalize (fldD "Night" "orders" : D → Option D) = fd at *
  generalize (p.kinds.map fun k => PyData.str k.name) = NS at *
  generalize fullL.map odD = FL at *
  generalize ptD p = PT at *
  generalize (ixD : D → D → Option D) = ix at *
  generalize (neD : D → D → Option D) = ned at *
  generalize (tupleD : List D → Option D) = tp at *
  simp only [DL.mSeq, DL.mIfS, DL.mTest, DL.mAnd, DL.mOr, DL.mNot, DL.mAndV, DL.mOrV, DL.mNotV, DL.mIf, DL.mChain, DL.mOp, DL.mUn, DL.mCall, DL.mC, DL.mVar, DL.pE, DL.pO, DL.fE, DL.aNil, DL.aCons, DL.mFn, DL.mFnG, DL.mTru, DL.mIsi, DL.mIsiT, DL.mNext, DL.mRet, DL.mRetO, DL.mRetF, DL.mRetN, DL.mDrop, DL.mAsg, DL.mOwn, DL.mAug, DL.mSetL, DL.mMt, DL.mTup, DL.mLstF, DL.mDTF, DL.mDKF, DL.mYes, DL.gNm, DL.gTp, DL.gsNil, DL.gsCons, DL.mFrz, DL.frz, DL.mListF, DL.mListRg2, DL.mListRg1, DL.mFnB, List.map_cons, List.map_nil, DL.flatD, DL.mLcF, DL.okW, DL.wipeR, DL.restR, DL.rngD_len, Int.toNat_natCast, Bool.and_self, Bool.and_true, Bool.true_and, DL.mFor, DL.mRng1, DL.mRng2, DL.mIter, DL.mEnumA, Option.bind_some, Option.bind_none, Option.map_some, Option.map_none, List.getElem?_cons_succ, List.getElem?_cons_zero, List.getElem?_nil, List.set_cons_succ, List.set_cons_zero, DL.Sl.oc, DL.Sl.put, DL.ocAt, DL.putAt, DL.ocFits, DL.isIo, DL.rsv, DL.rsvs, DL.vals, DL.toSl, DL.toSls, DL.back, DL.owns, DL.ocD, DL.fin, DL.runF, DL.runG, DL.runP, DL.runQ, List.length_cons, List.length_nil, List.length_set, List.replicate, List.cons_append, List.nil_append, List.nodup_nil, List.nodup_cons, List.not_mem_nil, not_false_eq_true, and_self, and_true, true_and, if_true, if_false, reduceCtorEq, Bool.false_eq_true, ite_true, ite_false, List.mem_cons, or_false, false_or, DL.addD, DL.subD, DL.iD, DL.cmpD, DL.ltD, DL.leD, DL.gtD, DL.geD, DL.ixD, DL.int1D, DL.int2D, DL.intD, DL.absD, DL.min2D, DL.max2D, DL.lenD, DL.itemsD, DL.tupleD, DL.negD, DL.truD, DL.isD, DL.isNotD, DL.isNone, Bool.not_true, Bool.not_false, Nat.reduceAdd, Nat.reduceSub, Nat.reduceLT, Nat.reduceLeDiff, ↓reduceIte, DL.OC.lst.injEq, DL.mUn, DL.mBindX, DL.kDrop, DL.kRet, DL.kAsg, DL.runX, DL.okX, DL.mSetF, DL.putFD, DL.mSIn, DL.mSGet, DL.mIterS, m, ocD, fo, tf, n1, r0, n2]
theorem g7_ok {p : Pt} (v : Pv p) {a0 a1 a3 a4 a6 a7 a8 a9 a10 : Sl} : g7 [a0, a1, .sh (ptD p), a3, a4, .sh (.list (fullL.map odD)), a6, a7, a8, a9, a10, .no, .no] = some (.rt (.bool true) [a0, a1, .sh (ptD p), a3, a4, .sh (.list (fullL.map odD)), a6, a7, a8, a9, a10, .no, .no]) := by
  have i2 := (pt_ix p).2.2.1
  have e := eq_orders
  have ad : addD (.list (fullL.map odD)) (.list [.tuple [.str "rye", .int 3]]) = some (.list (fullL.map odD ++ [.tuple [.str "rye", .int 3]])) := rfl
  have ng : negD (.int 1) = some (.int (-1)) := rfl
  have bad : F_check_orders [.sh (.list (fullL.map odD ++ [.tuple [.str "rye", .int 3]])), .sh (.dict (knL (fP p)))] = some (.exc "BadOrders" [("value", .int (-1))], [.sh (.list (fullL.map odD ++ [.tuple [.str "rye", .int 3]])), .sh (.dict (knL (fP p)))]) := orders_len (n := 6) (rl_lst _) (.inr (by omega))
  have hi := init_bad3 (fP_v v) (r4 := lkd (.tuple [.int 0, .int 0, .int 0])) (r5 := .int 1) bad
  have hi : F_Night_init [.io (.ins "Night" []), .sh (.int 3), .sh (.int 3), .sh (.tuple (p.kinds.map kdD)), .sh (.list (fullL.map odD ++ [.tuple [.str "rye", .int 3]])), .sh (lkd (.tuple [.int 0, .int 0, .int 0])), .sh (.int 1)] = some (.exc "BadOrders" [("value", .int (-1))], [.io (.ins "Night" []), .sh (.int 3), .sh (.int 3), .sh (.tuple (p.kinds.map kdD)), .sh (.list (fullL.map odD ++ [.tuple [.str "rye", .int 3]])), .sh (lkd (.tuple [.int 0, .int 0, .int 0])), .sh (.int 1)]) := hi
  have hf : F_law_refused (.exc "BadOrders" [("value", .int (-1))]) = some (.tuple [.str "orders", .int (-1)]) := rfl
  unfold g7
  generalize hA : (aCons (pE (mC (.int 3))) _ : MAs) = AR
  have ha : AR [a0, a1, .sh (ptD p), a3, a4, .sh (.list (fullL.map odD)), a6, a7, a8, a9, a10, .no, .no] = some ([.val (.int 3), .val (.int 3), .val (.tuple (p.kinds.map kdD)), .val (.list (fullL.map odD ++ [.tuple [.str "rye", .int 3]]))], [a0, a1, .sh (ptD p), a3, a4, .sh (.list (fullL.map odD)), a6, a7, a8, a9, a10, .no, .no]) := by
    generalize p.kinds.map kdD = KS at *
    generalize fullL.map odD ++ [.tuple [.str "rye", .int 3]] = FX at *
    generalize fullL.map odD = FL at *
    generalize ptD p = PT at *
    generalize (ixD : D → D → Option D) = ix at *
    generalize (addD : D → D → Option D) = add at *
    subst hA
    simp only [DL.mSeq, DL.mIfS, DL.mTest, DL.mAnd, DL.mOr, DL.mNot, DL.mAndV, DL.mOrV, DL.mNotV, DL.mIf, DL.mChain, DL.mOp, DL.mUn, DL.mCall, DL.mC, DL.mVar, DL.pE, DL.pO, DL.fE, DL.aNil, DL.aCons, DL.mFn, DL.mFnG, DL.mTru, DL.mIsi, DL.mIsiT, DL.mNext, DL.mRet, DL.mRetO, DL.mRetF, DL.mRetN, DL.mDrop, DL.mAsg, DL.mOwn, DL.mAug, DL.mSetL, DL.mMt, DL.mTup, DL.mLstF, DL.mDTF, DL.mDKF, DL.mYes, DL.gNm, DL.gTp, DL.gsNil, DL.gsCons, DL.mFrz, DL.frz, DL.mListF, DL.mListRg2, DL.mListRg1, DL.mFnB, List.map_cons, List.map_nil, DL.flatD, DL.mLcF, DL.okW, DL.wipeR, DL.restR, DL.rngD_len, Int.toNat_natCast, Bool.and_self, Bool.and_true, Bool.true_and, DL.mFor, DL.mRng1, DL.mRng2, DL.mIter, DL.mEnumA, Option.bind_some, Option.bind_none, Option.map_some, Option.map_none, List.getElem?_cons_succ, List.getElem?_cons_zero, List.getElem?_nil, List.set_cons_succ, List.set_cons_zero, DL.Sl.oc, DL.Sl.put, DL.ocAt, DL.putAt, DL.ocFits, DL.isIo, DL.rsv, DL.rsvs, DL.vals, DL.toSl, DL.toSls, DL.back, DL.owns, DL.ocD, DL.fin, DL.runF, DL.runG, DL.runP, DL.runQ, List.length_cons, List.length_nil, List.length_set, List.replicate, List.cons_append, List.nil_append, List.nodup_nil, List.nodup_cons, List.not_mem_nil, not_false_eq_true, and_self, and_true, true_and, if_true, if_false, reduceCtorEq, Bool.false_eq_true, ite_true, ite_false, List.mem_cons, or_false, false_or, DL.addD, DL.subD, DL.iD, DL.cmpD, DL.ltD, DL.leD, DL.gtD, DL.geD, DL.ixD, DL.int1D, DL.int2D, DL.intD, DL.absD, DL.min2D, DL.max2D, DL.lenD, DL.itemsD, DL.tupleD, DL.negD, DL.truD, DL.isD, DL.isNotD, DL.isNone, Bool.not_true, Bool.not_false, Nat.reduceAdd, Nat.reduceSub, Nat.reduceLT, Nat.reduceLeDiff, ↓reduceIte, DL.OC.lst.injEq, DL.mUn, DL.mBindX, DL.kDrop, DL.kRet, DL.kAsg, DL.runX, DL.okX, DL.mSetF, DL.putFD, DL.mSIn, DL.mSGet, DL.mIterS, i2, ad, ocD]
  have m := mk_noD (df := df_Night) ha rfl hi
  generalize mlMk _ _ _ _ = ML at *
  clear hi ha hA ad bad
  generalize F_law_refused = RF at *
  generalize hT : PyData.tuple [.str "orders", .int (-1)] = T at *
  generalize fullL.map odD = FL at *
  generalize ptD p = PT at *
  generalize (eqD : D → D → Option D) = eqd at *
  generalize (negD : D → Option D) = ned at *
  simp only [DL.mSeq, DL.mIfS, DL.mTest, DL.mAnd, DL.mOr, DL.mNot, DL.mAndV, DL.mOrV, DL.mNotV, DL.mIf, DL.mChain, DL.mOp, DL.mUn, DL.mCall, DL.mC, DL.mVar, DL.pE, DL.pO, DL.fE, DL.aNil, DL.aCons, DL.mFn, DL.mFnG, DL.mTru, DL.mIsi, DL.mIsiT, DL.mNext, DL.mRet, DL.mRetO, DL.mRetF, DL.mRetN, DL.mDrop, DL.mAsg, DL.mOwn, DL.mAug, DL.mSetL, DL.mMt, DL.mTup, DL.mLstF, DL.mDTF, DL.mDKF, DL.mYes, DL.gNm, DL.gTp, DL.gsNil, DL.gsCons, DL.mFrz, DL.frz, DL.mListF, DL.mListRg2, DL.mListRg1, DL.mFnB, List.map_cons, List.map_nil, DL.flatD, DL.mLcF, DL.okW, DL.wipeR, DL.restR, DL.rngD_len, Int.toNat_natCast, Bool.and_self, Bool.and_true, Bool.true_and, DL.mFor, DL.mRng1, DL.mRng2, DL.mIter, DL.mEnumA, Option.bind_some, Option.bind_none, Option.map_some, Option.map_none, List.getElem?_cons_succ, List.getElem?_cons_zero, List.getElem?_nil, List.set_cons_succ, List.set_cons_zero, DL.Sl.oc, DL.Sl.put, DL.ocAt, DL.putAt, DL.ocFits, DL.isIo, DL.rsv, DL.rsvs, DL.vals, DL.toSl, DL.toSls, DL.back, DL.owns, DL.ocD, DL.fin, DL.runF, DL.runG, DL.runP, DL.runQ, List.length_cons, List.length_nil, List.length_set, List.replicate, List.cons_append, List.nil_append, List.nodup_nil, List.nodup_cons, List.not_mem_nil, not_false_eq_true, and_self, and_true, true_and, if_true, if_false, reduceCtorEq, Bool.false_eq_true, ite_true, ite_false, List.mem_cons, or_false, false_or, DL.addD, DL.subD, DL.iD, DL.cmpD, DL.ltD, DL.leD, DL.gtD, DL.geD, DL.ixD, DL.int1D, DL.int2D, DL.intD, DL.absD, DL.min2D, DL.max2D, DL.lenD, DL.itemsD, DL.tupleD, DL.negD, DL.truD, DL.isD, DL.isNotD, DL.isNone, Bool.not_true, Bool.not_false, Nat.reduceAdd, Nat.reduceSub, Nat.reduceLT, Nat.reduceLeDiff, ↓reduceIte, DL.OC.lst.injEq, DL.mUn, DL.mBindX, DL.kDrop, DL.kRet, DL.kAsg, DL.runX, DL.okX, DL.mSetF, DL.putFD, DL.mSIn, DL.mSGet, DL.mIterS, mLam, m, hf, ng, hT, e, ocD]
theorem law_is_true (ns : List Int) (hn : ns.length ≤ 63) : ∃ ρ', F_law [.sh (lkd (.list (ns.map .int)))] = some (.bool true, ρ') := by
  have r0 : Rw ns (.lst [lkd (.list (ns.map .int)), .int 0, .int 1111, .int 0]) := ⟨0, 1111, 0, rfl, by omega, by omega, by omega, by omega⟩
  obtain ⟨p, o1, e1, v, r1⟩ := wide_night r0 hn
  generalize hS : lkd (.list (ns.map .int)) = SC at *
  have s0 : g0 [.sh SC, .no, .no, .no, .no, .no, .no, .no, .no, .no, .no, .no, .no] = some (.nx [.sh SC, .ow (.lst [SC, .int 0, .int 1111, .int 0]), .no, .no, .no, .no, .no, .no, .no, .no, .no, .no, .no]) := by
    unfold g0
    simp only [DL.mSeq, DL.mIfS, DL.mTest, DL.mAnd, DL.mOr, DL.mNot, DL.mAndV, DL.mOrV, DL.mNotV, DL.mIf, DL.mChain, DL.mOp, DL.mUn, DL.mCall, DL.mC, DL.mVar, DL.pE, DL.pO, DL.fE, DL.aNil, DL.aCons, DL.mFn, DL.mFnG, DL.mTru, DL.mIsi, DL.mIsiT, DL.mNext, DL.mRet, DL.mRetO, DL.mRetF, DL.mRetN, DL.mDrop, DL.mAsg, DL.mOwn, DL.mAug, DL.mSetL, DL.mMt, DL.mTup, DL.mLstF, DL.mDTF, DL.mDKF, DL.mYes, DL.gNm, DL.gTp, DL.gsNil, DL.gsCons, DL.mFrz, DL.frz, DL.mListF, DL.mListRg2, DL.mListRg1, DL.mFnB, List.map_cons, List.map_nil, DL.flatD, DL.mLcF, DL.okW, DL.wipeR, DL.restR, DL.rngD_len, Int.toNat_natCast, Bool.and_self, Bool.and_true, Bool.true_and, DL.mFor, DL.mRng1, DL.mRng2, DL.mIter, DL.mEnumA, Option.bind_some, Option.bind_none, Option.map_some, Option.map_none, List.getElem?_cons_succ, List.getElem?_cons_zero, List.getElem?_nil, List.set_cons_succ, List.set_cons_zero, DL.Sl.oc, DL.Sl.put, DL.ocAt, DL.putAt, DL.ocFits, DL.isIo, DL.rsv, DL.rsvs, DL.vals, DL.toSl, DL.toSls, DL.back, DL.owns, DL.ocD, DL.fin, DL.runF, DL.runG, DL.runP, DL.runQ, List.length_cons, List.length_nil, List.length_set, List.replicate, List.cons_append, List.nil_append, List.nodup_nil, List.nodup_cons, List.not_mem_nil, not_false_eq_true, and_self, and_true, true_and, if_true, if_false, reduceCtorEq, Bool.false_eq_true, ite_true, ite_false, List.mem_cons, or_false, false_or, DL.addD, DL.subD, DL.iD, DL.cmpD, DL.ltD, DL.leD, DL.gtD, DL.geD, DL.ixD, DL.int1D, DL.int2D, DL.intD, DL.absD, DL.min2D, DL.max2D, DL.lenD, DL.itemsD, DL.tupleD, DL.negD, DL.truD, DL.isD, DL.isNotD, DL.isNone, Bool.not_true, Bool.not_false, Nat.reduceAdd, Nat.reduceSub, Nat.reduceLT, Nat.reduceLeDiff, ↓reduceIte, DL.OC.lst.injEq, DL.mUn, DL.mBindX, DL.kDrop, DL.kRet, DL.kAsg, DL.runX, DL.okX, DL.mSetF, DL.putFD, DL.mSIn, DL.mSGet, DL.mIterS, ocD]
  have s1 : g1 [.sh SC, .ow (.lst [SC, .int 0, .int 1111, .int 0]), .no, .no, .no, .no, .no, .no, .no, .no, .no, .no, .no] = some (.nx [.sh SC, .ow o1, .sh (ptD p), .no, .no, .no, .no, .no, .no, .no, .no, .no, .no]) := by
    unfold g1
    generalize ptD p = PT at *
    simp only [DL.mSeq, DL.mIfS, DL.mTest, DL.mAnd, DL.mOr, DL.mNot, DL.mAndV, DL.mOrV, DL.mNotV, DL.mIf, DL.mChain, DL.mOp, DL.mUn, DL.mCall, DL.mC, DL.mVar, DL.pE, DL.pO, DL.fE, DL.aNil, DL.aCons, DL.mFn, DL.mFnG, DL.mTru, DL.mIsi, DL.mIsiT, DL.mNext, DL.mRet, DL.mRetO, DL.mRetF, DL.mRetN, DL.mDrop, DL.mAsg, DL.mOwn, DL.mAug, DL.mSetL, DL.mMt, DL.mTup, DL.mLstF, DL.mDTF, DL.mDKF, DL.mYes, DL.gNm, DL.gTp, DL.gsNil, DL.gsCons, DL.mFrz, DL.frz, DL.mListF, DL.mListRg2, DL.mListRg1, DL.mFnB, List.map_cons, List.map_nil, DL.flatD, DL.mLcF, DL.okW, DL.wipeR, DL.restR, DL.rngD_len, Int.toNat_natCast, Bool.and_self, Bool.and_true, Bool.true_and, DL.mFor, DL.mRng1, DL.mRng2, DL.mIter, DL.mEnumA, Option.bind_some, Option.bind_none, Option.map_some, Option.map_none, List.getElem?_cons_succ, List.getElem?_cons_zero, List.getElem?_nil, List.set_cons_succ, List.set_cons_zero, DL.Sl.oc, DL.Sl.put, DL.ocAt, DL.putAt, DL.ocFits, DL.isIo, DL.rsv, DL.rsvs, DL.vals, DL.toSl, DL.toSls, DL.back, DL.owns, DL.ocD, DL.fin, DL.runF, DL.runG, DL.runP, DL.runQ, List.length_cons, List.length_nil, List.length_set, List.replicate, List.cons_append, List.nil_append, List.nodup_nil, List.nodup_cons, List.not_mem_nil, not_false_eq_true, and_self, and_true, true_and, if_true, if_false, reduceCtorEq, Bool.false_eq_true, ite_true, ite_false, List.mem_cons, or_false, false_or, DL.addD, DL.subD, DL.iD, DL.cmpD, DL.ltD, DL.leD, DL.gtD, DL.geD, DL.ixD, DL.int1D, DL.int2D, DL.intD, DL.absD, DL.min2D, DL.max2D, DL.lenD, DL.itemsD, DL.tupleD, DL.negD, DL.truD, DL.isD, DL.isNotD, DL.isNone, Bool.not_true, Bool.not_false, Nat.reduceAdd, Nat.reduceSub, Nat.reduceLT, Nat.reduceLeDiff, ↓reduceIte, DL.OC.lst.injEq, DL.mUn, DL.mBindX, DL.kDrop, DL.kRet, DL.kAsg, DL.runX, DL.okX, DL.mSetF, DL.putFD, DL.mSIn, DL.mSGet, DL.mIterS, rsv, e1, ocD]
  have s2 := g2_ok v (a0 := .sh SC) (a1 := .ow o1) (a4 := .no) (a5 := .no) (a6 := .no) (a7 := .no) (a8 := .no) (a9 := .no) (a10 := .no)
  have s3 := g3_ok v (a0 := .sh SC) (a1 := .ow o1) (a3 := .sh (.list (p.kinds.map fun k => PyData.str k.name))) (a4 := .no) (a5 := .no) (a6 := .no) (a7 := .no) (a8 := .no) (a9 := .no) (a10 := .no)
  obtain ⟨o2, w4, w6, w7, w8, w9, w10, r2, eO⟩ := outer v hn (a0 := .sh SC) (a3 := .sh (.list (p.kinds.map fun k => PyData.str k.name))) (a5 := .no) 4 0 o1 .no .no .no .no .no .no r1 (.inl rfl) (.inl rfl) (.inl rfl) (.inl rfl) (.inl rfl) (.inl rfl)
  have eO : forD (gNm 4) tBody (rngD 0 4) [.sh SC, .ow o1, .sh (ptD p), .sh (.list (p.kinds.map fun k => PyData.str k.name)), .no, .no, .no, .no, .no, .no, .no, .no, .no] = some (.nx [.sh SC, .ow o2, .sh (ptD p), .sh (.list (p.kinds.map fun k => PyData.str k.name)), w4, .no, w6, w7, w8, w9, w10, .no, .no]) := eO
  have s4 : g4 [.sh SC, .ow o1, .sh (ptD p), .sh (.list (p.kinds.map fun k => PyData.str k.name)), .no, .no, .no, .no, .no, .no, .no, .no, .no] = some (.nx [.sh SC, .ow o2, .sh (ptD p), .sh (.list (p.kinds.map fun k => PyData.str k.name)), w4, .no, w6, w7, w8, w9, w10, .no, .no]) := by
    have r2' : (4 : Int).toNat = 4 := rfl
    have b2 : -1000000 ≤ (4 : Int) ∧ (4 : Int) ≤ 1000000 := by omega
    unfold g4
    generalize tBody = TB at *
    generalize (p.kinds.map fun k => PyData.str k.name) = NS at *
    generalize ptD p = PT at *
    simp only [DL.mSeq, DL.mIfS, DL.mTest, DL.mAnd, DL.mOr, DL.mNot, DL.mAndV, DL.mOrV, DL.mNotV, DL.mIf, DL.mChain, DL.mOp, DL.mUn, DL.mCall, DL.mC, DL.mVar, DL.pE, DL.pO, DL.fE, DL.aNil, DL.aCons, DL.mFn, DL.mFnG, DL.mTru, DL.mIsi, DL.mIsiT, DL.mNext, DL.mRet, DL.mRetO, DL.mRetF, DL.mRetN, DL.mDrop, DL.mAsg, DL.mOwn, DL.mAug, DL.mSetL, DL.mMt, DL.mTup, DL.mLstF, DL.mDTF, DL.mDKF, DL.mYes, DL.gNm, DL.gTp, DL.gsNil, DL.gsCons, DL.mFrz, DL.frz, DL.mListF, DL.mListRg2, DL.mListRg1, DL.mFnB, List.map_cons, List.map_nil, DL.flatD, DL.mLcF, DL.okW, DL.wipeR, DL.restR, DL.rngD_len, Int.toNat_natCast, Bool.and_self, Bool.and_true, Bool.true_and, DL.mFor, DL.mRng1, DL.mRng2, DL.mIter, DL.mEnumA, Option.bind_some, Option.bind_none, Option.map_some, Option.map_none, List.getElem?_cons_succ, List.getElem?_cons_zero, List.getElem?_nil, List.set_cons_succ, List.set_cons_zero, DL.Sl.oc, DL.Sl.put, DL.ocAt, DL.putAt, DL.ocFits, DL.isIo, DL.rsv, DL.rsvs, DL.vals, DL.toSl, DL.toSls, DL.back, DL.owns, DL.ocD, DL.fin, DL.runF, DL.runG, DL.runP, DL.runQ, List.length_cons, List.length_nil, List.length_set, List.replicate, List.cons_append, List.nil_append, List.nodup_nil, List.nodup_cons, List.not_mem_nil, not_false_eq_true, and_self, and_true, true_and, if_true, if_false, reduceCtorEq, Bool.false_eq_true, ite_true, ite_false, List.mem_cons, or_false, false_or, DL.addD, DL.subD, DL.iD, DL.cmpD, DL.ltD, DL.leD, DL.gtD, DL.geD, DL.ixD, DL.int1D, DL.int2D, DL.intD, DL.absD, DL.min2D, DL.max2D, DL.lenD, DL.itemsD, DL.tupleD, DL.negD, DL.truD, DL.isD, DL.isNotD, DL.isNone, Bool.not_true, Bool.not_false, Nat.reduceAdd, Nat.reduceSub, Nat.reduceLT, Nat.reduceLeDiff, ↓reduceIte, DL.OC.lst.injEq, DL.mUn, DL.mBindX, DL.kDrop, DL.kRet, DL.kAsg, DL.runX, DL.okX, DL.mSetF, DL.putFD, DL.mSIn, DL.mSGet, DL.mIterS, r2', b2.1, b2.2, eO]
  have s5 := g5_ok (a0 := .sh SC) (a1 := .ow o2) (a2 := .sh (ptD p)) (a3 := .sh (.list (p.kinds.map fun k => PyData.str k.name))) (a4 := w4) (a6 := w6) (a7 := w7) (a8 := w8) (a9 := w9) (a10 := w10)
  have s6 := g6_ok v (a0 := .sh SC) (a1 := .ow o2) (a4 := w4) (a6 := w6) (a7 := w7) (a8 := w8) (a9 := w9) (a10 := w10)
  have s7 := g7_ok v (a0 := .sh SC) (a1 := .ow o2) (a3 := .sh (.list (p.kinds.map fun k => PyData.str k.name))) (a4 := w4) (a6 := w6) (a7 := w7) (a8 := w8) (a9 := w9) (a10 := w10)
  unfold F_law b_law
  change ∃ ρ', runP 1 13 (mSeq g0 (mSeq g1 (mSeq g2 (mSeq g3 (mSeq g4 (mSeq g5 (mSeq g6 g7))))))) _ = _
  generalize g0 = G0 at *
  generalize g1 = G1 at *
  generalize g2 = G2 at *
  generalize g3 = G3 at *
  generalize g4 = G4 at *
  generalize g5 = G5 at *
  generalize g6 = G6 at *
  generalize g7 = G7 at *
  generalize (p.kinds.map fun k => PyData.str k.name) = NS at *
  generalize fullL.map odD = FL at *
  generalize ptD p = PT at *
  clear eO
  simp only [DL.mSeq, DL.mIfS, DL.mTest, DL.mAnd, DL.mOr, DL.mNot, DL.mAndV, DL.mOrV, DL.mNotV, DL.mIf, DL.mChain, DL.mOp, DL.mUn, DL.mCall, DL.mC, DL.mVar, DL.pE, DL.pO, DL.fE, DL.aNil, DL.aCons, DL.mFn, DL.mFnG, DL.mTru, DL.mIsi, DL.mIsiT, DL.mNext, DL.mRet, DL.mRetO, DL.mRetF, DL.mRetN, DL.mDrop, DL.mAsg, DL.mOwn, DL.mAug, DL.mSetL, DL.mMt, DL.mTup, DL.mLstF, DL.mDTF, DL.mDKF, DL.mYes, DL.gNm, DL.gTp, DL.gsNil, DL.gsCons, DL.mFrz, DL.frz, DL.mListF, DL.mListRg2, DL.mListRg1, DL.mFnB, List.map_cons, List.map_nil, DL.flatD, DL.mLcF, DL.okW, DL.wipeR, DL.restR, DL.rngD_len, Int.toNat_natCast, Bool.and_self, Bool.and_true, Bool.true_and, DL.mFor, DL.mRng1, DL.mRng2, DL.mIter, DL.mEnumA, Option.bind_some, Option.bind_none, Option.map_some, Option.map_none, List.getElem?_cons_succ, List.getElem?_cons_zero, List.getElem?_nil, List.set_cons_succ, List.set_cons_zero, DL.Sl.oc, DL.Sl.put, DL.ocAt, DL.putAt, DL.ocFits, DL.isIo, DL.rsv, DL.rsvs, DL.vals, DL.toSl, DL.toSls, DL.back, DL.owns, DL.ocD, DL.fin, DL.runF, DL.runG, DL.runP, DL.runQ, List.length_cons, List.length_nil, List.length_set, List.replicate, List.cons_append, List.nil_append, List.nodup_nil, List.nodup_cons, List.not_mem_nil, not_false_eq_true, and_self, and_true, true_and, if_true, if_false, reduceCtorEq, Bool.false_eq_true, ite_true, ite_false, List.mem_cons, or_false, false_or, DL.addD, DL.subD, DL.iD, DL.cmpD, DL.ltD, DL.leD, DL.gtD, DL.geD, DL.ixD, DL.int1D, DL.int2D, DL.intD, DL.absD, DL.min2D, DL.max2D, DL.lenD, DL.itemsD, DL.tupleD, DL.negD, DL.truD, DL.isD, DL.isNotD, DL.isNone, Bool.not_true, Bool.not_false, Nat.reduceAdd, Nat.reduceSub, Nat.reduceLT, Nat.reduceLeDiff, ↓reduceIte, DL.OC.lst.injEq, DL.mUn, DL.mBindX, DL.kDrop, DL.kRet, DL.kAsg, DL.runX, DL.okX, DL.mSetF, DL.putFD, DL.mSIn, DL.mSGet, DL.mIterS, s0, s1, s2, s3, s4, s5, s6, s7]
  exact ⟨_, rfl⟩
end Lk11
set_option Elab.async false
set_option linter.all false
set_option maxRecDepth 100000
set_option maxHeartbeats 4000000
namespace Lk11
open PySem L2 DL LamX
theorem law_true (ns : List Int) (hn : ns.length ≤ 63) : ∃ ρ', F_law [.sh (lkd (.list (ns.map .int)))] = some (.bool true, ρ') := law_is_true ns hn
end Lk11
open PySem PySem.W PyProof.Rows in
set_option maxRecDepth 100000 in
set_option maxHeartbeats 0 in
theorem PySem.Challenge.cw_nightloaf_k11_refusals_of_nights_holds : PySem.Challenge.rw_nightloaf_k11_refusals_of_nights.Holds := by
  w_on; o_law; k_head; (case hw => w_witness2)
  k_fill
  refine DL.walkTG (l := PySem.Challenge.rw_nightloaf_k11_refusals_of_nights) (k := 8) (st := Lk11.topS 44) (N := ["script", "row", "parts", "names", "turn", "full", "some", "first", "told", "later", "found", "kind", "hour"]) (LN := Lk11.lamNames) rfl rfl rfl ⟨rfl, by decide, by decide⟩ (fun w h Y => Y.1) Lk11.sc_law (fun _ _ _ _ _ _ _ => rfl) ?F Lk11.law_true
  case F =>
    intro w mg h Y KX G
    refine (fun T => ⟨Lk11.Txt.d_law T, [("law", _, _)], DL.LamAll.hd (.cons (DL.lam1_mk KX G (by k_is) (by k_is) (by rfl) (by k_is) (by rfl) (by kernel_rfl) (by kernel_rfl) (Y.2 _ (by decide))) .nil) (by rfl) (by decide), fun base Z f s H E cdv hc => Lk11.ok_law T base Z f cdv hc s H E⟩ : Lk11.Txt _ mg → _) ?_
    · constructor
      · trivial
      · exact PySem.W.mg_none_of KX G (by k_is)
      · exact PySem.W.mg_none_of KX G (by k_is)
      · exact PySem.W.mg_none_of KX G (by k_is)
      · exact PySem.W.mg_none_of KX G (by k_is)
      · exact PySem.W.mg_none_of KX G (by k_is)
      · exact PySem.W.mg_none_of KX G (by k_is)
      · exact PySem.W.mg_none_of KX G (by k_is)
      · exact PySem.W.mg_none_of KX G (by k_is)
      · exact PySem.W.mg_none_of KX G (by k_is)
      · exact PySem.W.mg_none_of KX G (by k_is)
      · exact PySem.W.mg_none_of KX G (by k_is)
      · exact ⟨_, PySem.W.mg_of KX G (by k_is)⟩
      · exact ⟨_, PySem.W.mg_of KX G (by k_is)⟩
      · exact ⟨_, PySem.W.mg_of KX G (by k_is)⟩
      · exact ⟨_, PySem.W.mg_of KX G (by k_is)⟩
      · exact ⟨_, PySem.W.mg_of KX G (by k_is)⟩
      · exact ⟨_, PySem.W.mg_of KX G (by k_is)⟩
      · exact ⟨_, PySem.W.mg_of KX G (by k_is)⟩
      · exact ⟨_, PySem.W.mg_of KX G (by k_is)⟩
      · exact ⟨_, PySem.W.mg_of KX G (by k_is)⟩
      · exact ⟨_, PySem.W.mg_of KX G (by k_is)⟩
      · exact ⟨_, PySem.W.mg_of KX G (by k_is)⟩
      · exact DL.errTxt_mk KX G (by k_is) (by k_is) (by decide +kernel) (by k_is) (by k_is) (by k_is) (by k_is) (by k_is) (by k_is) (by k_is) (by k_is) (by k_is) (DL.dfl_none (by k_is)) (by intro f hf; simp only [List.mem_cons, List.not_mem_nil, or_false] at hf; rcases hf with rfl <;> k_is)
      · exact DL.errTxt_mk KX G (by k_is) (by k_is) (by decide +kernel) (by k_is) (by k_is) (by k_is) (by k_is) (by k_is) (by k_is) (by k_is) (by k_is) (by k_is) (DL.dfl_none (by k_is)) (by intro f hf; simp only [List.mem_cons, List.not_mem_nil, or_false] at hf; rcases hf with rfl <;> k_is)
      · exact DL.errTxt_mk KX G (by k_is) (by k_is) (by decide +kernel) (by k_is) (by k_is) (by k_is) (by k_is) (by k_is) (by k_is) (by k_is) (by k_is) (by k_is) (DL.dfl_none (by k_is)) (by intro f hf; simp only [List.mem_cons, List.not_mem_nil, or_false] at hf; rcases hf with rfl <;> k_is)
      · exact DL.errTxt_mk KX G (by k_is) (by k_is) (by decide +kernel) (by k_is) (by k_is) (by k_is) (by k_is) (by k_is) (by k_is) (by k_is) (by k_is) (by k_is) (DL.dfl_none (by k_is)) (by intro f hf; simp only [List.mem_cons, List.not_mem_nil, or_false] at hf; rcases hf with rfl <;> k_is)
      · exact DL.errTxt_mk KX G (by k_is) (by k_is) (by decide +kernel) (by k_is) (by k_is) (by k_is) (by k_is) (by k_is) (by k_is) (by k_is) (by k_is) (by k_is) (DL.dfl_none (by k_is)) (by intro f hf; simp only [List.mem_cons, List.not_mem_nil, or_false] at hf; rcases hf with rfl <;> k_is)
      · exact DL.errTxt_mk KX G (by k_is) (by k_is) (by decide +kernel) (by k_is) (by k_is) (by k_is) (by k_is) (by k_is) (by k_is) (by k_is) (by k_is) (by k_is) (DL.dfl_none (by k_is)) (by intro f hf; simp only [List.mem_cons, List.not_mem_nil, or_false] at hf; rcases hf with rfl <;> k_is)
      · exact DL.clsGl_mk KX G (by k_is)
      · exact DL.clsGl_mk KX G (by k_is)
      · exact DL.clsGl_mk KX G (by k_is)
      · exact DL.clsGl_mk KX G (by k_is)
      · exact DL.clsGl_mk KX G (by k_is)
      · exact DL.clsGl_mk KX G (by k_is)
      · kernel_rfl
      · kernel_rfl
      · kernel_rfl
      · exact DL.initTxt_mk KX G (by k_is) (by k_is) (by k_is) (by k_is) (by k_is) (by k_is) (by k_is) (by k_is) (DL.dfl_vv (by k_is) (by simp) (by rfl)) (by rfl)
      · refine DL.initTxtD_mk KX G (by k_is) (by k_is) (by k_is) (by k_is) (by k_is) (by k_is) (by k_is) (by k_is) (DL.dfl_vv (by k_is) (by simp) (by rfl)) ?_
        intro B
        refine' .cons (.lkt (DL.sqtK ?l0 ?z0 ?o0) ?r0) (.cons (.int _) (.nil))
        case l0 => k_is
        case z0 => decide
        case o0 => rfl
        case r0 => exact .cons (.int _) (.cons (.int _) (.cons (.int _) (.nil)))
      · exact DL.defAt_mk KX G (fun _ _ _ _ _ _ us hl => match us, hl with | [_, _], _ => rfl) (fun _ _ _ _ _ _ us hl => match us, hl with | [_, _], _ => rfl) (by k_is) (by k_is) (by k_is) (by k_is)
      · exact DL.defAt_mk KX G (fun _ _ _ _ _ _ us hl => match us, hl with | [_], _ => rfl) (fun _ _ _ _ _ _ us hl => match us, hl with | [_], _ => rfl) (by k_is) (by k_is) (by k_is) (by k_is)
      · exact DL.defAt_mk KX G (fun _ _ _ _ _ _ us hl => match us, hl with | [_, _, _], _ => rfl) (fun _ _ _ _ _ _ us hl => match us, hl with | [_, _, _], _ => rfl) (by k_is) (by k_is) (by k_is) (by k_is)
      · exact DL.defAt_mk KX G (fun _ _ _ _ _ _ us hl => match us, hl with | [_], _ => rfl) (fun _ _ _ _ _ _ us hl => match us, hl with | [_], _ => rfl) (by k_is) (by k_is) (by k_is) (by k_is)
      · exact DL.defAt_mk KX G (fun _ _ _ _ _ _ us hl => match us, hl with | [_], _ => rfl) (fun _ _ _ _ _ _ us hl => match us, hl with | [_], _ => rfl) (by k_is) (by k_is) (by k_is) (by k_is)
      · exact DL.defAt_mk KX G (fun _ _ _ _ _ _ us hl => match us, hl with | [_], _ => rfl) (fun _ _ _ _ _ _ us hl => match us, hl with | [_], _ => rfl) (by k_is) (by k_is) (by k_is) (by k_is)
      · exact DL.defAt_mk KX G (fun _ _ _ _ _ _ us hl => match us, hl with | [_], _ => rfl) (fun _ _ _ _ _ _ us hl => match us, hl with | [_], _ => rfl) (by k_is) (by k_is) (by k_is) (by k_is)
      · exact DL.defAt_mk KX G (fun _ _ _ _ _ _ us hl => match us, hl with | [_], _ => rfl) (fun _ _ _ _ _ _ us hl => match us, hl with | [_], _ => rfl) (by k_is) (by k_is) (by k_is) (by k_is)
      · exact DL.defAt_mk KX G (fun _ _ _ _ _ _ us hl => match us, hl with | [_], _ => rfl) (fun _ _ _ _ _ _ us hl => match us, hl with | [_], _ => rfl) (by k_is) (by k_is) (by k_is) (by k_is)
      · exact DL.defAt_mk KX G (fun _ _ _ _ _ _ us hl => match us, hl with | [_, _], _ => rfl) (fun _ _ _ _ _ _ us hl => match us, hl with | [_, _], _ => rfl) (by k_is) (by k_is) (by k_is) (by k_is)
      · exact DL.defAt_mk KX G (fun _ _ _ _ _ _ us hl => match us, hl with | [_, _], _ => rfl) (fun _ _ _ _ _ _ us hl => match us, hl with | [_, _], _ => rfl) (by k_is) (by k_is) (by k_is) (by k_is)
      · exact DL.defAt_mk KX G (fun _ _ _ _ _ _ us hl => match us, hl with | [_], _ => rfl) (fun _ _ _ _ _ _ us hl => match us, hl with | [_], _ => rfl) (by k_is) (by k_is) (by k_is) (by k_is)
      · exact DL.defAt_mk KX G (fun _ _ _ _ _ _ us hl => match us, hl with | [_], _ => rfl) (fun _ _ _ _ _ _ us hl => match us, hl with | [_], _ => rfl) (by k_is) (by k_is) (by k_is) (by k_is)
      · exact DL.defAt_mk KX G (fun _ _ _ _ _ _ us hl => match us, hl with | [_], _ => rfl) (fun _ _ _ _ _ _ us hl => match us, hl with | [_], _ => rfl) (by k_is) (by k_is) (by k_is) (by k_is)
      · exact DL.defAt_mk KX G (fun _ _ _ _ _ _ us hl => match us, hl with | [_, _], _ => rfl) (fun _ _ _ _ _ _ us hl => match us, hl with | [_, _], _ => rfl) (by k_is) (by k_is) (by k_is) (by k_is)
      · exact DL.defAt_mk KX G (fun _ _ _ _ _ _ us hl => match us, hl with | [_, _], _ => rfl) (fun _ _ _ _ _ _ us hl => match us, hl with | [_, _], _ => rfl) (by k_is) (by k_is) (by k_is) (by k_is)
      · exact DL.defAt_mk KX G (fun _ _ _ _ _ _ us hl => match us, hl with | [_, _, _], _ => rfl) (fun _ _ _ _ _ _ us hl => match us, hl with | [_, _, _], _ => rfl) (by k_is) (by k_is) (by k_is) (by k_is)
      · exact DL.defAt_mk KX G (fun _ _ _ _ _ _ us hl => match us, hl with | [_, _], _ => rfl) (fun _ _ _ _ _ _ us hl => match us, hl with | [_, _], _ => rfl) (by k_is) (by k_is) (by k_is) (by k_is)
      · exact DL.defAt_mk KX G (fun _ _ _ _ _ _ us hl => match us, hl with | [_], _ => rfl) (fun _ _ _ _ _ _ us hl => match us, hl with | [_], _ => rfl) (by k_is) (by k_is) (by k_is) (by k_is)
      · exact DL.defAt_mk KX G (fun _ _ _ _ _ _ us hl => match us, hl with | [_], _ => rfl) (fun _ _ _ _ _ _ us hl => match us, hl with | [_], _ => rfl) (by k_is) (by k_is) (by k_is) (by k_is)
