import PyProof.Rows.All
import HandS.Base
import HandS.Call
import HandS.CallSlots
import HandS.Codes
import HandS.Comp
import HandS.Defaults
import HandS.Dict
import HandS.Ends
import HandS.ExcCtx
import HandS.ExcField
import HandS.ExcInit
import HandS.ExcIs
import HandS.ExcOwn
import HandS.Gcd
import HandS.Head0
import HandS.Head1
import HandS.Head2
import HandS.Head3
import HandS.HeadEnd
import HandS.HeadHook1
import HandS.HeadHook2
import HandS.HotCalls
import HandS.IsInst
import HandS.Iter
import HandS.List
import HandS.More
import HandS.RaiseMore
import HandS.Text
import HandS.TryMany
import HandS.Wide
import HandS.WideBits
import HandS.Words
import HandS.WordsExc
import HandS.Zip
import KE.GoesMore
import KE.GoesNew
import KE.IntBitsLaws
import KE.IntTextText
import KE.KMathG
import KE.KStateDown
import OpenK.AllK
import PyProof.ReprRoads
import PyProof.Rows.StrDigitsNeg
import PyProof.Rows.StrIntSpec
import PyProof.Rows.StrNews2
import PyProof.StrLawsFirst
import PyProof.StrLawsTight
import Wide.All
import Wide.FinOn
import PySem.Challenge.RW_ownbest_k02_better_of_two

/-! text DL1 -/
set_option maxHeartbeats 400000
set_option Elab.async false
set_option linter.all false
set_option maxRecDepth 100000
/-! DL1: data over the abstract heap: regions, slots, judgements. -/
namespace DL
open PySem PySem.Spec PyProof.Rows L2

abbrev D := PyData
abbrev Rg := Addr → Prop

/-! ### data that stand in a region -/
def KL (K : PySem.W.Frag) (a : Addr) (xs : List V) : Prop :=
  ∃ (o : Obj) (its : Array Value) (n : Nat), K.lookup a = some o ∧ o.cls = .type "list" ∧ o.dict = none ∧ o.data = .seq its n ∧ its.size ≤ sizeLine ∧ Vals xs its.toList
def KT (K : PySem.W.Frag) (a : Addr) (xs : List V) : Prop :=
  ∃ (o : Obj) (its : Array Value) (n : Nat), K.lookup a = some o ∧ o.cls = .type "tuple" ∧ o.data = .seq its n ∧ its.size ≤ sizeLine ∧ Vals xs its.toList
mutual
inductive Dv (K : PySem.W.Frag) (R : Rg) (H : Hp) : V → D → Prop
  | non : Dv K R H .non .none
  | bl (b : Bool) : Dv K R H (.bl b) (.bool b)
  | int (i : Int) : Dv K R H (.int i) (.int i)
  | str (x : Str) : Dv K R H (.str x) (.str x)
  | lst {a : Addr} {xs : List V} {ds : List D} : ((R a ∧ Rd H a (.lst xs)) ∨ KL K a xs) → Dvs K R H xs ds → Dv K R H (.ref a) (.list ds)
  | tup {a : Addr} {xs : List V} {ds : List D} : ((R a ∧ Rd H a (.tup xs)) ∨ KT K a xs) → Dvs K R H xs ds → Dv K R H (.ref a) (.tuple ds)
  | emp {a : Addr} : R a → H a = some (.dK []) → Dv K R H (.ref a) (.dict [])
inductive Dvs (K : PySem.W.Frag) (R : Rg) (H : Hp) : List V → List D → Prop
  | nil : Dvs K R H [] []
  | cons {v : V} {vs : List V} {d : D} {ds : List D} : Dv K R H v d → Dvs K R H vs ds → Dvs K R H (v :: vs) (d :: ds)
end
/-- what a step keeps of a region -/
structure Keeps (R : Rg) (H : Hp) (R' : Rg) (H' : Hp) : Prop where
  sub : ∀ b, R b → R' b
  keep : ∀ b o, R b → H b = some o → H' b = some o
theorem Keeps.refl (R : Rg) (H : Hp) : Keeps R H R H := ⟨fun _ h => h, fun _ _ _ h => h⟩
theorem Keeps.trans {R R1 R2 : Rg} {H H1 H2 : Hp} (a : Keeps R H R1 H1) (b : Keeps R1 H1 R2 H2) : Keeps R H R2 H2 :=
  ⟨fun c h => b.sub c (a.sub c h), fun c o h e => b.keep c o (a.sub c h) (a.keep c o h e)⟩
theorem Keeps.rd {R R' : Rg} {H H' : Hp} (k : Keeps R H R' H') {a : Addr} {u : HO} (h : R a ∧ Rd H a u) : R' a ∧ Rd H' a u := by
  obtain ⟨r, h⟩ := h
  refine ⟨k.sub _ r, ?_⟩
  rcases h with h | ⟨o, h⟩
  · exact .inl (k.keep _ _ r h)
  · exact .inr ⟨o, k.keep _ _ r h⟩
section
variable {K : PySem.W.Frag} {R R' : Rg} {H H' : Hp}
mutual
theorem Dv.mono (k : Keeps R H R' H') : ∀ {v : V} {d : D}, Dv K R H v d → Dv K R' H' v d
  | _, _, .non => .non
  | _, _, .bl b => .bl b
  | _, _, .int i => .int i
  | _, _, .str x => .str x
  | _, _, .lst h hs => .lst (h.imp k.rd id) (Dvs.mono k hs)
  | _, _, .tup h hs => .tup (h.imp k.rd id) (Dvs.mono k hs)
  | _, _, .emp r h => .emp (k.sub _ r) (k.keep _ _ r h)
theorem Dvs.mono (k : Keeps R H R' H') : ∀ {vs : List V} {ds : List D}, Dvs K R H vs ds → Dvs K R' H' vs ds
  | _, _, .nil => .nil
  | _, _, .cons h hs => .cons (Dv.mono k h) (Dvs.mono k hs)
end
theorem Dvs.length : ∀ {vs : List V} {ds : List D}, Dvs K R H vs ds → vs.length = ds.length
  | _, _, .nil => rfl
  | _, _, .cons _ hs => by rw [List.length_cons, List.length_cons, Dvs.length hs]
theorem Dvs.get : ∀ {vs : List V} {ds : List D}, Dvs K R H vs ds → ∀ {i : Nat} {d : D}, ds[i]? = some d → ∃ v, vs[i]? = some v ∧ Dv K R H v d
  | _, _, .nil, i, d, e => by simp at e
  | _, _, .cons h hs, 0, d, e => by
    simp at e
    subst e
    exact ⟨_, rfl, h⟩
  | _, _, .cons h hs, i + 1, d, e => by
    obtain ⟨v, e1, h1⟩ := Dvs.get hs (i := i) (d := d) (by simpa using e)
    exact ⟨v, by simpa using e1, h1⟩
theorem Dvs.getV : ∀ {vs : List V} {ds : List D}, Dvs K R H vs ds → ∀ {i : Nat} {v : V}, vs[i]? = some v → ∃ d, ds[i]? = some d ∧ Dv K R H v d
  | _, _, .nil, i, d, e => by simp at e
  | _, _, .cons h hs, 0, d, e => by
    simp at e
    subst e
    exact ⟨_, rfl, h⟩
  | _, _, .cons h hs, i + 1, d, e => by
    obtain ⟨v, e1, h1⟩ := Dvs.getV hs (i := i) (v := d) (by simpa using e)
    exact ⟨v, by simpa using e1, h1⟩
theorem Dvs.append : ∀ {vs ws : List V} {ds es : List D}, Dvs K R H vs ds → Dvs K R H ws es → Dvs K R H (vs ++ ws) (ds ++ es)
  | _, _, _, _, .nil, h => h
  | _, _, _, _, .cons a b, h => .cons a (Dvs.append b h)
theorem Dvs.take : ∀ {vs : List V} {ds : List D} (n : Nat), Dvs K R H vs ds → Dvs K R H (vs.take n) (ds.take n)
  | _, _, 0, _ => .nil
  | _, _, _ + 1, .nil => .nil
  | _, _, n + 1, .cons r t => .cons r (Dvs.take n t)
theorem Dvs.drop : ∀ {vs : List V} {ds : List D} (n : Nat), Dvs K R H vs ds → Dvs K R H (vs.drop n) (ds.drop n)
  | _, _, 0, r => r
  | _, _, _ + 1, .nil => .nil
  | _, _, n + 1, .cons _ t => Dvs.drop n t
theorem Dvs.set {x : V} {d : D} (r : Dv K R H x d) : ∀ {vs : List V} {ds : List D} (i : Nat), Dvs K R H vs ds → Dvs K R H (vs.set i x) (ds.set i d)
  | _, _, _, .nil => .nil
  | _, _, 0, .cons _ t => .cons r t
  | _, _, i + 1, .cons q t => .cons q (Dvs.set r i t)
theorem Dvs.eraseIdx : ∀ {vs : List V} {ds : List D} (i : Nat), Dvs K R H vs ds → Dvs K R H (vs.eraseIdx i) (ds.eraseIdx i)
  | _, _, _, .nil => .nil
  | _, _, 0, .cons _ t => t
  | _, _, i + 1, .cons q t => .cons q (Dvs.eraseIdx i t)
theorem Dvs.reverse : ∀ {vs : List V} {ds : List D}, Dvs K R H vs ds → Dvs K R H vs.reverse ds.reverse
  | _, _, .nil => .nil
  | _, _, .cons q t => by
    rw [List.reverse_cons, List.reverse_cons]
    exact (Dvs.reverse t).append (.cons q .nil)
theorem Dvs.ints : ∀ ns : List Int, Dvs K R H (ns.map V.int) (ns.map PyData.int)
  | [] => .nil
  | n :: r => .cons (.int n) (Dvs.ints r)
theorem Dv.seqL {a : Addr} {ds : List D} (h : Dv K R H (.ref a) (.list ds)) : ∃ xs, SqL K H a xs ∧ Dvs K R H xs ds := by
  cases h with
  | lst h hs =>
    refine ⟨_, ?_, hs⟩
    rcases h with ⟨_, h⟩ | h
    · exact .inl h
    · exact .inr h
theorem Dv.seqT {a : Addr} {ds : List D} (h : Dv K R H (.ref a) (.tuple ds)) : ∃ xs, SqT K H a xs ∧ Dvs K R H xs ds := by
  cases h with
  | tup h hs =>
    refine ⟨_, ?_, hs⟩
    rcases h with ⟨_, h⟩ | h
    · exact .inl h
    · exact .inr h
theorem Dv.list_ref {v : V} {ds : List D} (h : Dv K R H v (.list ds)) : ∃ a, v = .ref a := by
  cases h with
  | lst h hs => exact ⟨_, rfl⟩
theorem Dv.tuple_ref {v : V} {ds : List D} (h : Dv K R H v (.tuple ds)) : ∃ a, v = .ref a := by
  cases h with
  | tup h hs => exact ⟨_, rfl⟩
theorem Dv.int_inv {v : V} {i : Int} (h : Dv K R H v (.int i)) : v = .int i := by
  cases h
  rfl
theorem Dv.str_inv {v : V} {i : Str} (h : Dv K R H v (.str i)) : v = .str i := by
  cases h
  rfl
theorem Dv.bl_inv {v : V} {i : Bool} (h : Dv K R H v (.bool i)) : v = .bl i := by
  cases h
  rfl
theorem Dv.non_inv {v : V} (h : Dv K R H v .none) : v = .non := by
  cases h
  rfl
mutual
theorem Dv.dp : ∀ {v : V} {d : D}, Dv K R H v d → d.hasDict = false → Dp K H v d
  | _, _, .non, _ => .non
  | _, _, .bl b, _ => .bl b
  | _, _, .int i, _ => .int i
  | _, _, .str x, _ => .str x
  | _, _, .lst h hs, n => .lst (by
      rcases h with ⟨_, h⟩ | h
      · exact .inl h
      · exact .inr h) (Dvs.dp hs (by simpa [PyData.hasDict] using n))
  | _, _, .tup h hs, n => .tup (by
      rcases h with ⟨_, h⟩ | h
      · exact .inl h
      · exact .inr h) (Dvs.dp hs (by simpa [PyData.hasDict] using n))
  | _, _, .emp _ _, n => by simp [PyData.hasDict] at n
theorem Dvs.dp : ∀ {vs : List V} {ds : List D}, Dvs K R H vs ds → PyData.hasDictAll ds = false → DpAll K H vs ds
  | _, _, .nil, _ => .nil
  | _, _, .cons h hs, n => by
    have n' := n
    simp [PyData.hasDictAll] at n'
    exact .cons (Dv.dp h n'.1) (Dvs.dp hs n'.2)
end
end

/-! ### what a slot holds -/
inductive Sl where
  /-- nothing is known -/
  | no
  /-- data that never change -/
  | im (d : D)
  /-- a list of the def's own -/
  | ow (ds : List D)
  /-- a list of the caller's, to be changed -/
  | bw (ds : List D)
/-- what an expression hands on -/
inductive Rv where
  | im (d : D)
  | ow (ds : List D)
def Rv.dat : Rv → D
  | .im d => d
  | .ow ds => .list ds
def Rv.sl : Rv → Sl
  | .im d => .im d
  | .ow ds => .ow ds
abbrev Ds := List Sl
abbrev Ds.at (δ : Ds) (i : Nat) : Sl := δ.getD i .no
def sat (σ : L2.St) (i : Nat) : Option V := (σ[i]?).join
/-- an exception of a class of the text: the class's address, its fields -/
structure Ex where
  cls : Addr
  fs : List (Str × D)

/-- a def's frame: the entry's heap and region, the lists that the caller lends (slot, address) -/
structure Fr where
  K : PySem.W.Frag
  H0 : Hp
  R0 : Rg
  B : List (Nat × Addr)

def SlOk (F : Fr) (R : Rg) (H : Hp) (i : Nat) (x : Option V) : Sl → Prop
  | .no => True
  | .im d => ∃ v, x = some v ∧ Dv F.K R H v d
  | .ow ds => ∃ a vs, x = some (.ref a) ∧ H a = some (.lst vs) ∧ Dvs F.K R H vs ds ∧ ¬ R a ∧ F.H0 a = none
  | .bw ds => ∃ a vs, x = some (.ref a) ∧ H a = some (.lst vs) ∧ Dvs F.K R H vs ds ∧ ¬ R a ∧ (i, a) ∈ F.B
def Sl.isOw : Sl → Bool
  | .ow _ => true
  | _ => false
def Sl.isMut : Sl → Bool
  | .ow _ => true
  | .bw _ => true
  | _ => false
def MutAt (σ : L2.St) (δ : Ds) (i : Nat) (a : Addr) : Prop := (δ.at i).isMut = true ∧ sat σ i = some (.ref a)
def OwAt (σ : L2.St) (δ : Ds) (i : Nat) (a : Addr) : Prop := (δ.at i).isOw = true ∧ sat σ i = some (.ref a)

structure Ok (F : Fr) (R : Rg) (σ : L2.St) (δ : Ds) (H : Hp) : Prop where
  len : σ.length = δ.length
  sl : ∀ i, SlOk F R H i (sat σ i) (δ.at i)
  nd : ∀ i j a, MutAt σ δ i a → MutAt σ δ j a → i = j
  keep : ∀ b o, F.H0 b = some o → (∀ i, (i, b) ∉ F.B) → H b = some o
  there : ∀ b, F.H0 b ≠ none → H b ≠ none
  sub : ∀ b, F.R0 b → R b
  new : ∀ b, R b → F.R0 b ∨ F.H0 b = none
  rin : ∀ b, R b → H b ≠ none
  fB : ∀ i b, (i, b) ∈ F.B → ¬ F.R0 b ∧ F.H0 b ≠ none

/-- what an expression does: the slots' values stay, some own lists may be given into the region -/
structure Eff (σ : L2.St) (R : Rg) (H : Hp) (δ : Ds) (R' : Rg) (H' : Hp) (δ' : Ds) : Prop where
  keep : ∀ b o, H b = some o → (∀ i, ¬ MutAt σ δ i b) → H' b = some o
  there : ∀ b, H b ≠ none → H' b ≠ none
  sub : ∀ b, R b → R' b
  new : ∀ b, R' b → R b ∨ H b = none ∨ ∃ i, OwAt σ δ i b
  mt : ∀ i a, MutAt σ δ' i a → MutAt σ δ i a
  ow : ∀ i a, OwAt σ δ' i a → OwAt σ δ i a
theorem Eff.refl (σ : L2.St) (R : Rg) (H : Hp) (δ : Ds) : Eff σ R H δ R H δ :=
  ⟨fun _ _ h _ => h, fun _ h => h, fun _ h => h, fun _ h => .inl h, fun _ _ h => h, fun _ _ h => h⟩
theorem Eff.trans {σ : L2.St} {R R1 R2 : Rg} {H H1 H2 : Hp} {δ δ1 δ2 : Ds} (a : Eff σ R H δ R1 H1 δ1) (b : Eff σ R1 H1 δ1 R2 H2 δ2) : Eff σ R H δ R2 H2 δ2 where
  keep := fun c o h n => b.keep c o (a.keep c o h n) fun i m => n i (a.mt i c m)
  there := fun c h => b.there c (a.there c h)
  sub := fun c h => b.sub c (a.sub c h)
  new := fun c h => by
    rcases b.new c h with h | h | ⟨i, h⟩
    · exact a.new c h
    · refine .inr (.inl ?_)
      cases e : H c with
      | none => rfl
      | some o => exact absurd h (a.there c (by rw [e]; simp))
    · exact .inr (.inr ⟨i, a.ow i c h⟩)
  mt := fun i c m => a.mt i c (b.mt i c m)
  ow := fun i c m => a.ow i c (b.ow i c m)
theorem MutAt.notR {F : Fr} {R : Rg} {σ : L2.St} {δ : Ds} {H : Hp} (ok : Ok F R σ δ H) {i : Nat} {a : Addr} (m : MutAt σ δ i a) : ¬ R a := by
  have h := ok.sl i
  obtain ⟨m1, m2⟩ := m
  cases e : δ.at i with
  | no => rw [e] at m1; cases m1
  | im d => rw [e] at m1; cases m1
  | ow ds =>
    rw [e] at h
    obtain ⟨b, vs, e1, _, _, n, _⟩ := h
    rw [m2] at e1
    cases e1
    exact n
  | bw ds =>
    rw [e] at h
    obtain ⟨b, vs, e1, _, _, n, _⟩ := h
    rw [m2] at e1
    cases e1
    exact n
theorem MutAt.some {F : Fr} {R : Rg} {σ : L2.St} {δ : Ds} {H : Hp} (ok : Ok F R σ δ H) {i : Nat} {a : Addr} (m : MutAt σ δ i a) : H a ≠ none := by
  have h := ok.sl i
  obtain ⟨m1, m2⟩ := m
  cases e : δ.at i with
  | no => rw [e] at m1; cases m1
  | im d => rw [e] at m1; cases m1
  | ow ds =>
    rw [e] at h
    obtain ⟨b, vs, e1, e2, _, n, _⟩ := h
    rw [m2] at e1
    cases e1
    rw [e2]
    simp
  | bw ds =>
    rw [e] at h
    obtain ⟨b, vs, e1, e2, _, n, _⟩ := h
    rw [m2] at e1
    cases e1
    rw [e2]
    simp
theorem Eff.keeps {F : Fr} {R R' : Rg} {σ : L2.St} {δ δ' : Ds} {H H' : Hp} (e : Eff σ R H δ R' H' δ') (ok : Ok F R σ δ H) : Keeps R H R' H' :=
  ⟨e.sub, fun b o r h => e.keep b o h fun i m => m.notR ok r⟩

/-- a value handed on -/
def RvOk (F : Fr) (R : Rg) (H : Hp) (σ : L2.St) (δ : Ds) (v : V) : Rv → Prop
  | .im d => Dv F.K R H v d
  | .ow ds => ∃ a vs, v = .ref a ∧ H a = some (.lst vs) ∧ Dvs F.K R H vs ds ∧ ¬ R a ∧ F.H0 a = none ∧ ∀ i, ¬ MutAt σ δ i a
/-- .. and where it comes from -/
def RvNew (σ : L2.St) (δ : Ds) (H : Hp) (v : V) : Rv → Prop
  | .im _ => True
  | .ow _ => ∀ a, v = .ref a → H a = none ∨ ∃ i, OwAt σ δ i a
theorem Eff.back {σ : L2.St} {R R' : Rg} {H H' : Hp} {δ δ' : Ds} (e : Eff σ R H δ R' H' δ') {v : V} {rv : Rv} (h : RvNew σ δ' H' v rv) : RvNew σ δ H v rv := by
  cases rv with
  | im d => trivial
  | ow ds =>
    intro a ea
    rcases h a ea with h | ⟨i, h⟩
    · refine .inl ?_
      cases q : H a with
      | none => rfl
      | some o => exact absurd h (e.there a (by rw [q]; simp))
    · exact .inr ⟨i, e.ow i a h⟩
/-- an exception as it lies: its class, its own dict -/
def ExOk (F : Fr) (R : Rg) (H : Hp) (cls : Value) (d : Option Addr) (ex : Ex) : Prop :=
  cls = .ref ex.cls ∧ ∃ (a : Addr) (fs : List (Str × V)), d = some a ∧ H a = some (.xd fs) ∧ R a ∧ fs.map (·.1) = ex.fs.map (·.1) ∧ Dvs F.K R H (fs.map (·.2)) (ex.fs.map (·.2))

/-! ### readings at the data's level -/
abbrev Xd := Ex → Ds → Prop
/-- an expression's reading, with own lists; one that hands on data alone; a test's; an argument list's -/
abbrev TD := Ds → (Rv → Ds → Prop) → Xd → Prop
abbrev TI := Ds → (D → Ds → Prop) → Xd → Prop
abbrev TB := Ds → (Bool → Ds → Prop) → Xd → Prop
abbrev TL := Ds → (List D → Ds → Prop) → Xd → Prop
structure En where
  nx : Ds → Prop
  rt : Rv → Ds → Prop
  bk : Ds → Prop := fun _ => False
  ct : Ds → Prop := fun _ => False
  ex : Ex → Ds → Prop := fun _ _ => False
abbrev TSd := En → Ds → Prop

section
variable (F : Fr) (W : WX)
def XLk (R : Rg) (σ : L2.St) (δ : Ds) (H : Hp) (X : Xd) : Prop := ∀ R' δ' H' cls d ex, Ok F R' σ δ' H' → Eff σ R H δ R' H' δ' → ExOk F R' H' cls d ex → X ex δ' → W cls d σ H'
def liftE (t : TD) : TE := fun σ H Q => ∃ (R : Rg) (δ : Ds) (Qd : Rv → Ds → Prop) (X : Xd), Ok F R σ δ H ∧ t δ Qd X ∧
  (∀ R' δ' H' v rv, Ok F R' σ δ' H' → Eff σ R H δ R' H' δ' → RvOk F R' H' σ δ' v rv → RvNew σ δ H v rv → Qd rv δ' → Q v H') ∧ XLk F W R σ δ H X
def liftI (t : TI) : TE := fun σ H Q => ∃ (R : Rg) (δ : Ds) (Qd : D → Ds → Prop) (X : Xd), Ok F R σ δ H ∧ t δ Qd X ∧
  (∀ R' δ' H' v d, Ok F R' σ δ' H' → Eff σ R H δ R' H' δ' → Dv F.K R' H' v d → Qd d δ' → Q v H') ∧ XLk F W R σ δ H X
def liftB (t : TB) : TT := fun σ H Q => ∃ (R : Rg) (δ : Ds) (Qd : Bool → Ds → Prop) (X : Xd), Ok F R σ δ H ∧ t δ Qd X ∧
  (∀ R' δ' H' b, Ok F R' σ δ' H' → Eff σ R H δ R' H' δ' → Qd b δ' → Q b H') ∧ XLk F W R σ δ H X
def liftL (t : TL) : TA := fun σ H Q => ∃ (R : Rg) (δ : Ds) (Qd : List D → Ds → Prop) (X : Xd), Ok F R σ δ H ∧ t δ Qd X ∧
  (∀ R' δ' H' vs ds, Ok F R' σ δ' H' → Eff σ R H δ R' H' δ' → Dvs F.K R' H' vs ds → Qd ds δ' → Q vs H') ∧ XLk F W R σ δ H X
/-- the ends of a statement, over the heap -/
structure Lk (R : Rg) (H : Hp) (De : En) (De' : Ends) : Prop where
  nx : ∀ R' σ' δ' H', Ok F R' σ' δ' H' → Keeps R H R' H' → De.nx δ' → De'.nx σ' H'
  bk : ∀ R' σ' δ' H', Ok F R' σ' δ' H' → Keeps R H R' H' → De.bk δ' → De'.bk σ' H'
  ct : ∀ R' σ' δ' H', Ok F R' σ' δ' H' → Keeps R H R' H' → De.ct δ' → De'.ct σ' H'
  rt : ∀ R' σ' δ' H' v rv, Ok F R' σ' δ' H' → Keeps R H R' H' → RvOk F R' H' σ' δ' v rv → De.rt rv δ' → De'.rt v H'
  ex : ∀ R' σ' δ' H' cls d ex, Ok F R' σ' δ' H' → Keeps R H R' H' → ExOk F R' H' cls d ex → De.ex ex δ' → W cls d σ' H'
def liftS (t : TSd) : TS := fun De' σ H => ∃ (R : Rg) (δ : Ds) (De : En), Ok F R σ δ H ∧ t De δ ∧ Lk F W R H De De'
end
def DE (F : Fr) (W : WX) (X : Cx) (e : Expr) (t : TD) : Prop := PE X e (liftE F W t)
def DI (F : Fr) (W : WX) (X : Cx) (e : Expr) (t : TI) : Prop := PE X e (liftI F W t)
def DT (F : Fr) (W : WX) (X : Cx) (e : Expr) (t : TB) : Prop := PT X e (liftB F W t)
def DA (F : Fr) (W : WX) (X : Cx) (es : List Expr) (t : TL) : Prop := PA X es (liftL F W t)
def DS (F : Fr) (W : WX) (X : Cx) (st : Stmt) (t : TSd) : Prop := PS X st (liftS F W t)
def DSs (F : Fr) (W : WX) (X : Cx) (st : List Stmt) (t : TSd) : Prop := PSs X st (liftS F W t)

theorem _root_.L2.PE.imp {X : Cx} {e : Expr} {t t' : TE} (h : PE X e t) (i : ∀ σ H Q, t' σ H Q → t σ H Q) : PE X e t' := ⟨fun pins s σ H Q I q => h.run pins s σ H Q I (i σ H Q q)⟩
theorem _root_.L2.PT.imp {X : Cx} {e : Expr} {t t' : TT} (h : PT X e t) (i : ∀ σ H Q, t' σ H Q → t σ H Q) : PT X e t' := ⟨fun pins s σ H Q I q => h.run pins s σ H Q I (i σ H Q q)⟩
theorem _root_.L2.PW.imp {X : Cx} {e : Expr} {t t' : TT} (h : PW X e t) (i : ∀ σ H Q, t' σ H Q → t σ H Q) : PW X e t' := ⟨fun w pins s σ H Q I q => h.run w pins s σ H Q I (i σ H Q q)⟩
theorem _root_.L2.PA.imp {X : Cx} {e : List Expr} {t t' : TA} (h : PA X e t) (i : ∀ σ H Q, t' σ H Q → t σ H Q) : PA X e t' := ⟨fun pos pins s σ H Q I q => h.run pos pins s σ H Q I (i σ H Q q)⟩
theorem _root_.L2.PS.imp {X : Cx} {e : Stmt} {t t' : TS} (h : PS X e t) (i : ∀ D σ H, t' D σ H → t D σ H) : PS X e t' := ⟨fun pins s σ H D I q => h.run pins s σ H D I (i D σ H q)⟩
theorem _root_.L2.PSs.imp {X : Cx} {e : List Stmt} {t t' : TS} (h : PSs X e t) (i : ∀ D σ H, t' D σ H → t D σ H) : PSs X e t' := ⟨fun pins s σ H D I q => h.run pins s σ H D I (i D σ H q)⟩
end DL


/-! text DL2 -/
set_option maxHeartbeats 400000
set_option Elab.async false
set_option linter.all false
set_option maxRecDepth 100000
/-! DL2: the state's own lemmas. -/
namespace DL
open PySem PySem.Spec PyProof.Rows L2

theorem at_set {δ : Ds} {i j : Nat} {s : Sl} : Ds.at (δ.set i s) j = if i = j ∧ i < δ.length then s else δ.at j := by
  unfold Ds.at
  rw [List.getD_eq_getElem?_getD, List.getD_eq_getElem?_getD, List.getElem?_set]
  by_cases h : i = j
  · subst h
    by_cases h2 : i < δ.length
    · simp [h2]
    · simp [h2, List.getElem?_eq_none (Nat.le_of_not_lt h2)]
  · simp [h]
theorem at_lt {δ : Ds} {i : Nat} (h : δ.at i ≠ .no) : i < δ.length := by
  by_cases q : i < δ.length
  · exact q
  · refine absurd ?_ h
    unfold Ds.at
    rw [List.getD_eq_getElem?_getD, List.getElem?_eq_none (Nat.le_of_not_lt q)]
    rfl
theorem sat_set {σ : L2.St} {i j : Nat} {v : V} : sat (σ.set i (some v)) j = if i = j ∧ i < σ.length then some v else sat σ j := by
  unfold sat
  rw [List.getElem?_set]
  by_cases h : i = j
  · subst h
    by_cases h2 : i < σ.length
    · simp [h2]
    · simp [h2, List.getElem?_eq_none (Nat.le_of_not_lt h2)]
  · simp [h]
theorem sat_some {σ : L2.St} {i : Nat} {v : V} (h : sat σ i = some v) : σ[i]? = some (some v) := by
  unfold sat at h
  cases e : σ[i]? with
  | none => rw [e] at h; cases h
  | some x =>
    rw [e] at h
    have h' : x = some v := h
    rw [h']
/-- a new address is apart from all -/
theorem Keeps.new {R : Rg} {H : Hp} {p : Addr} {o : HO} (hp : H p = none) (R' : Rg) (s : ∀ b, R b → R' b) : Keeps R H R' (upd H p o) :=
  ⟨s, fun b u _ h => by rw [upd_ne (ne_of_none h hp)]; exact h⟩
section
variable {F : Fr} {R R' : Rg} {σ : L2.St} {δ : Ds} {H H' : Hp} {i j : Nat} {a p : Addr}
/-- a slot, over a step that leaves the changeable lists as they are -/
theorem SlOk.mono {x : Option V} {s : Sl} (h : SlOk F R H i x s) (k : Keeps R H R' H') (m : s.isMut = true → ∀ b, x = some (.ref b) → H' b = H b ∧ ¬ R' b) : SlOk F R' H' i x s := by
  cases s with
  | no => trivial
  | im d =>
    obtain ⟨v, e, h⟩ := h
    exact ⟨v, e, h.mono k⟩
  | ow ds =>
    obtain ⟨b, vs, e, e2, h, n, f⟩ := h
    obtain ⟨m1, m2⟩ := m rfl b e
    exact ⟨b, vs, e, m1.trans e2, h.mono k, m2, f⟩
  | bw ds =>
    obtain ⟨b, vs, e, e2, h, n, f⟩ := h
    obtain ⟨m1, m2⟩ := m rfl b e
    exact ⟨b, vs, e, m1.trans e2, h.mono k, m2, f⟩
theorem Ok.fresh0 (ok : Ok F R σ δ H) (hp : H p = none) : F.H0 p = none := by
  cases e : F.H0 p with
  | none => rfl
  | some o => exact absurd hp (ok.there p (by rw [e]; simp))
theorem Ok.mutNe (ok : Ok F R σ δ H) (hp : H p = none) (m : MutAt σ δ j a) : a ≠ p := by
  rintro rfl
  exact m.some ok hp
/-- a new object that is given to the region -/
theorem Ok.newIm {o : HO} (ok : Ok F R σ δ H) (hp : H p = none) : Ok F (fun b => R b ∨ b = p) σ δ (upd H p o) ∧ Eff σ R H δ (fun b => R b ∨ b = p) (upd H p o) δ := by
  have k : Keeps R H (fun b => R b ∨ b = p) (upd H p o) := Keeps.new hp _ fun _ h => .inl h
  have h0 := ok.fresh0 hp
  refine ⟨⟨ok.len, fun j => (ok.sl j).mono k fun m b e => ?_, ok.nd, fun b u h n => ?_, fun b h => ?_, fun b h => .inl (ok.sub b h), fun b h => ?_, fun b h => ?_, ok.fB⟩, fun b u h _ => ?_, fun b h => ?_, fun _ h => .inl h, fun b h => ?_, fun _ _ h => h, fun _ _ h => h⟩
  · have mm : MutAt σ δ j b := ⟨m, e⟩
    have ne := ok.mutNe hp mm
    exact ⟨upd_ne ne, fun h => h.elim (fun r => mm.notR ok r) ne⟩
  · rw [upd_ne (ne_of_none h h0)]
    exact ok.keep b u h n
  · by_cases e : b = p
    · subst e
      rw [upd_same]
      simp
    · rw [upd_ne e]
      exact ok.there b h
  · rcases h with h | h
    · exact ok.new b h
    · subst h
      exact .inr h0
  · rcases h with h | h
    · have := ok.rin b h
      by_cases e : b = p
      · subst e
        exact absurd hp this
      · rw [upd_ne e]
        exact this
    · subst h
      rw [upd_same]
      simp
  · rw [upd_ne (ne_of_none h hp)]
    exact h
  · by_cases e : b = p
    · subst e
      rw [upd_same]
      simp
    · rw [upd_ne e]
      exact h
  · rcases h with h | h
    · exact .inl h
    · subst h
      exact .inr (.inl hp)
/-- a new object that stays one's own -/
theorem Ok.newOw {o : HO} (ok : Ok F R σ δ H) (hp : H p = none) : Ok F R σ δ (upd H p o) ∧ Eff σ R H δ R (upd H p o) δ ∧ ¬ R p ∧ ∀ i, ¬ MutAt σ δ i p := by
  have k : Keeps R H R (upd H p o) := Keeps.new hp _ fun _ h => h
  have h0 := ok.fresh0 hp
  refine ⟨⟨ok.len, fun j => (ok.sl j).mono k fun m b e => ?_, ok.nd, fun b u h n => ?_, fun b h => ?_, ok.sub, ok.new, fun b h => ?_, ok.fB⟩, ⟨fun b u h _ => ?_, fun b h => ?_, fun _ h => h, fun b h => .inl h, fun _ _ h => h, fun _ _ h => h⟩, fun r => ok.rin p r hp, fun i m => m.some ok hp⟩
  · have mm : MutAt σ δ j b := ⟨m, e⟩
    exact ⟨upd_ne (ok.mutNe hp mm), mm.notR ok⟩
  · rw [upd_ne (ne_of_none h h0)]
    exact ok.keep b u h n
  · by_cases e : b = p
    · subst e
      rw [upd_same]
      simp
    · rw [upd_ne e]
      exact ok.there b h
  · have := ok.rin b h
    by_cases e : b = p
    · subst e
      exact absurd hp this
    · rw [upd_ne e]
      exact this
  · rw [upd_ne (ne_of_none h hp)]
    exact h
  · by_cases e : b = p
    · subst e
      rw [upd_same]
      simp
    · rw [upd_ne e]
      exact h
theorem Dv.newTup {K : PySem.W.Frag} {xs : List V} {ds : List D} (h : Dvs K R H xs ds) (hp : H p = none) : Dv K (fun b => R b ∨ b = p) (upd H p (.tup xs)) (.ref p) (.tuple ds) :=
  .tup (.inl ⟨.inr rfl, .inl upd_same⟩) (h.mono (Keeps.new hp _ fun _ h => .inl h))
theorem Dv.newLst {K : PySem.W.Frag} {xs : List V} {ds : List D} (h : Dvs K R H xs ds) (hp : H p = none) : Dv K (fun b => R b ∨ b = p) (upd H p (.lst xs)) (.ref p) (.list ds) :=
  .lst (.inl ⟨.inr rfl, .inl upd_same⟩) (h.mono (Keeps.new hp _ fun _ h => .inl h))
theorem MutAt.setOff {s : Sl} (hs : s.isMut = false) (m : MutAt σ (δ.set i s) j a) : MutAt σ δ j a ∧ (j ≠ i ∨ δ.length ≤ i) := by
  obtain ⟨m1, m2⟩ := m
  rw [at_set] at m1
  by_cases h : i = j ∧ i < δ.length
  · rw [if_pos h, hs] at m1
    cases m1
  · rw [if_neg h] at m1
    refine ⟨⟨m1, m2⟩, ?_⟩
    by_cases e : j = i
    · exact .inr (Nat.le_of_not_lt fun q => h ⟨e.symm, q⟩)
    · exact .inl e
theorem OwAt.setOff {s : Sl} (hs : s.isOw = false) (m : OwAt σ (δ.set i s) j a) : OwAt σ δ j a := by
  obtain ⟨m1, m2⟩ := m
  rw [at_set] at m1
  by_cases h : i = j ∧ i < δ.length
  · rw [if_pos h, hs] at m1
    cases m1
  · rw [if_neg h] at m1
    exact ⟨m1, m2⟩
/-- an own list is given to the region -/
theorem Ok.freeze {ds : List D} (ok : Ok F R σ δ H) (e : δ.at i = .ow ds) : ∃ (a : Addr) (R' : Rg), sat σ i = some (.ref a) ∧ Ok F R' σ (δ.set i (.im (.list ds))) H ∧ Eff σ R H δ R' H (δ.set i (.im (.list ds))) ∧ Dv F.K R' H (.ref a) (.list ds) := by
  have hs := ok.sl i
  rw [e] at hs
  obtain ⟨a, vs, e1, e2, h, n, f⟩ := hs
  have k : Keeps R H (fun b => R b ∨ b = a) H := ⟨fun _ h => .inl h, fun _ _ _ h => h⟩
  have dv : Dv F.K (fun b => R b ∨ b = a) H (.ref a) (.list ds) := .lst (.inl ⟨.inr rfl, .inl e2⟩) (h.mono k)
  have mi : MutAt σ δ i a := ⟨by rw [e]; rfl, e1⟩
  refine ⟨a, fun b => R b ∨ b = a, e1, ⟨by rw [List.length_set]; exact ok.len, fun j => ?_, fun j1 j2 b m1 m2 => ok.nd j1 j2 b (MutAt.setOff rfl m1).1 (MutAt.setOff rfl m2).1, ok.keep, ok.there, fun b h => .inl (ok.sub b h), fun b h => ?_, fun b h => ?_, ok.fB⟩,
    ⟨fun _ _ h _ => h, fun _ h => h, fun _ h => .inl h, fun b h => ?_, fun j b m => (MutAt.setOff rfl m).1, fun j b m => OwAt.setOff rfl m⟩, dv⟩
  · rw [at_set]
    by_cases q : i = j ∧ i < δ.length
    · rw [if_pos q]
      obtain ⟨q1, _⟩ := q
      subst q1
      exact ⟨_, e1, dv⟩
    · rw [if_neg q]
      have lt : i < δ.length := at_lt (by rw [e]; simp)
      have ne : j ≠ i := fun z => q ⟨z.symm, lt⟩
      refine (ok.sl j).mono k fun m b eb => ⟨rfl, fun r => ?_⟩
      have mj : MutAt σ δ j b := ⟨m, eb⟩
      rcases r with r | r
      · exact mj.notR ok r
      · subst r
        exact ne (ok.nd j i b mj mi)
  · rcases h with h | h
    · exact ok.new b h
    · subst h
      exact .inr f
  · rcases h with h | h
    · exact ok.rin b h
    · subst h
      rw [e2]
      simp
  · rcases h with h | h
    · exact .inl h
    · subst h
      exact .inr (.inr ⟨i, by show (δ.at i).isOw = true; rw [e]; rfl, e1⟩)
/-- a slot is emptied -/
theorem Ok.drop (ok : Ok F R σ δ H) (i : Nat) : Ok F R σ (δ.set i .no) H ∧ Eff σ R H δ R H (δ.set i .no) := by
  refine ⟨⟨by rw [List.length_set]; exact ok.len, fun j => ?_, fun j1 j2 b m1 m2 => ok.nd j1 j2 b (MutAt.setOff rfl m1).1 (MutAt.setOff rfl m2).1, ok.keep, ok.there, ok.sub, ok.new, ok.rin, ok.fB⟩,
    ⟨fun _ _ h _ => h, fun _ h => h, fun _ h => h, fun b h => .inl h, fun j b m => (MutAt.setOff rfl m).1, fun j b m => OwAt.setOff rfl m⟩⟩
  rw [at_set]
  by_cases q : i = j ∧ i < δ.length
  · rw [if_pos q]
    trivial
  · rw [if_neg q]
    exact ok.sl j
/-- an own list is taken out of its slot -/
theorem Ok.move {ds : List D} (ok : Ok F R σ δ H) (e : δ.at i = .ow ds) : ∃ (a : Addr), sat σ i = some (.ref a) ∧ RvOk F R H σ (δ.set i .no) (.ref a) (.ow ds) := by
  have hs := ok.sl i
  rw [e] at hs
  obtain ⟨a, vs, e1, e2, h, n, f⟩ := hs
  have mi : MutAt σ δ i a := ⟨by rw [e]; rfl, e1⟩
  have lt : i < δ.length := at_lt (by rw [e]; simp)
  refine ⟨a, e1, a, vs, rfl, e2, h, n, f, fun j m => ?_⟩
  obtain ⟨m1, m2⟩ := MutAt.setOff rfl m
  rcases m2 with m2 | m2
  · exact m2 (ok.nd j i a m1 mi)
  · omega
/-- a value that is handed on is given to the region -/
theorem RvOk.freeze {Rs : Rg} {Hs : Hp} {δs : Ds} {v : V} {rv : Rv} (h : RvOk F R H σ δ v rv) (w : RvNew σ δs Hs v rv) (ok : Ok F R σ δ H) (ef : Eff σ Rs Hs δs R H δ) : ∃ R', Ok F R' σ δ H ∧ Eff σ Rs Hs δs R' H δ ∧ Dv F.K R' H v rv.dat := by
  cases rv with
  | im d => exact ⟨R, ok, ef, h⟩
  | ow ds =>
    obtain ⟨a, vs, rfl, e2, h, n, f, nm⟩ := h
    have k : Keeps R H (fun b => R b ∨ b = a) H := ⟨fun _ h => .inl h, fun _ _ _ h => h⟩
    refine ⟨fun b => R b ∨ b = a, ⟨ok.len, fun j => (ok.sl j).mono k fun m b eb => ⟨rfl, fun r => ?_⟩, ok.nd, ok.keep, ok.there, fun b h => .inl (ok.sub b h), fun b h => ?_, fun b h => ?_, ok.fB⟩,
      ⟨ef.keep, ef.there, fun b h => .inl (ef.sub b h), fun b h => ?_, ef.mt, ef.ow⟩, .lst (.inl ⟨.inr rfl, .inl e2⟩) (h.mono k)⟩
    · have mj : MutAt σ δ j b := ⟨m, eb⟩
      rcases r with r | r
      · exact mj.notR ok r
      · subst r
        exact nm j mj
    · rcases h with h | h
      · exact ok.new b h
      · subst h
        exact .inr f
    · rcases h with h | h
      · exact ok.rin b h
      · subst h
        rw [e2]
        simp
    · rcases h with h | h
      · exact ef.new b h
      · subst h
        exact .inr (w b rfl)
/-- a name is stored -/
theorem Ok.assign {v : V} {rv : Rv} (ok : Ok F R σ δ H) (h : RvOk F R H σ δ v rv) (i : Nat) : Ok F R (σ.set i (some v)) (δ.set i rv.sl) H := by
  have mo : ∀ j b, MutAt (σ.set i (some v)) (δ.set i rv.sl) j b → (j = i ∧ i < δ.length ∧ rv.sl.isMut = true ∧ v = .ref b) ∨ ((j ≠ i ∨ δ.length ≤ i) ∧ MutAt σ δ j b) := by
    intro j b m
    obtain ⟨m1, m2⟩ := m
    rw [at_set] at m1
    rw [sat_set, ok.len] at m2
    by_cases q : i = j ∧ i < δ.length
    · rw [if_pos q] at m1 m2
      exact .inl ⟨q.1.symm, q.2, m1, Option.some.inj m2⟩
    · rw [if_neg q] at m1 m2
      refine .inr ⟨?_, m1, m2⟩
      by_cases e : j = i
      · exact .inr (Nat.le_of_not_lt fun z => q ⟨e.symm, z⟩)
      · exact .inl e
  have apart : ∀ j b, rv.sl.isMut = true → v = .ref b → ¬ MutAt σ δ j b := by
    intro j b m e
    cases rv with
    | im d => cases m
    | ow ds =>
      obtain ⟨a, vs, rfl, _, _, _, _, nm⟩ := h
      cases e
      exact nm j
  refine ⟨by rw [List.length_set, List.length_set]; exact ok.len, fun j => ?_, fun j1 j2 b m1 m2 => ?_, ok.keep, ok.there, ok.sub, ok.new, ok.rin, ok.fB⟩
  · rw [at_set, sat_set, ok.len]
    by_cases q : i = j ∧ i < δ.length
    · rw [if_pos q, if_pos q]
      cases rv with
      | im d => exact ⟨v, rfl, h⟩
      | ow ds =>
        obtain ⟨a, vs, rfl, e2, h, n, f, nm⟩ := h
        exact ⟨a, vs, rfl, e2, h, n, f⟩
    · rw [if_neg q, if_neg q]
      exact ok.sl j
  · rcases mo j1 b m1 with ⟨p1, p2, p3, p4⟩ | ⟨p1, p2⟩ <;> rcases mo j2 b m2 with ⟨q1, q2, q3, q4⟩ | ⟨q1, q2⟩
    · rw [p1, q1]
    · exact absurd q2 (apart j2 b p3 p4)
    · exact absurd p2 (apart j1 b q3 q4)
    · exact ok.nd j1 j2 b p2 q2
def Sl.put : Sl → List D → Sl
  | .ow _, ds => .ow ds
  | .bw _, ds => .bw ds
  | s, _ => s
def Sl.lst? : Sl → Option (List D)
  | .ow ds => some ds
  | .bw ds => some ds
  | _ => none
/-- the list of a slot that may be changed -/
theorem Ok.mutL {ds : List D} (ok : Ok F R σ δ H) (e : (δ.at i).lst? = some ds) : ∃ (a : Addr) (vs : List V), sat σ i = some (.ref a) ∧ H a = some (.lst vs) ∧ Dvs F.K R H vs ds ∧ MutAt σ δ i a := by
  have hs := ok.sl i
  cases q : δ.at i with
  | no => rw [q] at e; cases e
  | im d => rw [q] at e; cases e
  | ow es =>
    rw [q] at e hs
    cases e
    obtain ⟨a, vs, e1, e2, h, n, f⟩ := hs
    exact ⟨a, vs, e1, e2, h, by show (δ.at i).isMut = true; rw [q]; rfl, e1⟩
  | bw es =>
    rw [q] at e hs
    cases e
    obtain ⟨a, vs, e1, e2, h, n, f⟩ := hs
    exact ⟨a, vs, e1, e2, h, by show (δ.at i).isMut = true; rw [q]; rfl, e1⟩
/-- a list that may be changed is changed -/
theorem Ok.write {ds es : List D} {ws : List V} (ok : Ok F R σ δ H) (e : (δ.at i).lst? = some ds) (ea : sat σ i = some (.ref a)) (hw : Dvs F.K R H ws es) :
    Ok F R σ (δ.set i ((δ.at i).put es)) (upd H a (.lst ws)) ∧ Eff σ R H δ R (upd H a (.lst ws)) (δ.set i ((δ.at i).put es)) ∧ Keeps R H R (upd H a (.lst ws)) := by
  obtain ⟨a', vs, e1, e2, h, mi⟩ := ok.mutL e
  rw [ea] at e1
  cases e1
  have nr : ¬ R a := mi.notR ok
  have k : Keeps R H R (upd H a (.lst ws)) := ⟨fun _ h => h, fun b o r h => by
    have ne : b ≠ a := fun z => nr (z ▸ r)
    rw [upd_ne ne]
    exact h⟩
  have hmut : ∀ j, (Ds.at (δ.set i ((δ.at i).put es)) j).isMut = (δ.at j).isMut := fun j => by
    rw [at_set]
    by_cases q : i = j ∧ i < δ.length
    · rw [if_pos q, ← q.1]
      cases δ.at i <;> rfl
    · rw [if_neg q]
  have how : ∀ j, (Ds.at (δ.set i ((δ.at i).put es)) j).isOw = (δ.at j).isOw := fun j => by
    rw [at_set]
    by_cases q : i = j ∧ i < δ.length
    · rw [if_pos q, ← q.1]
      cases δ.at i <;> rfl
    · rw [if_neg q]
  have th : ∀ b, H b ≠ none → upd H a (.lst ws) b ≠ none := fun b h => by
    by_cases q : b = a
    · subst q
      rw [upd_same]
      simp
    · rw [upd_ne q]
      exact h
  refine ⟨⟨by rw [List.length_set]; exact ok.len, fun j => ?_, fun j1 j2 b m1 m2 => ok.nd j1 j2 b ⟨(hmut j1) ▸ m1.1, m1.2⟩ ⟨(hmut j2) ▸ m2.1, m2.2⟩, fun b o hb n => ?_, fun b h => th b (ok.there b h), ok.sub, ok.new, fun b h => th b (ok.rin b h), ok.fB⟩,
    ⟨fun b o hb n => ?_, th, fun _ h => h, fun _ h => .inl h, fun j b m => ⟨(hmut j) ▸ m.1, m.2⟩, fun j b m => ⟨(how j) ▸ m.1, m.2⟩⟩, k⟩
  · rw [at_set]
    by_cases q : i = j ∧ i < δ.length
    · rw [if_pos q, ← q.1]
      have hs := ok.sl i
      cases z : δ.at i with
      | no => rw [z] at e; cases e
      | im d => rw [z] at e; cases e
      | ow ds' =>
        rw [z] at hs
        obtain ⟨a', vs', e1', e2', h', n', f'⟩ := hs
        rw [ea] at e1'
        cases e1'
        exact ⟨a, ws, ea, upd_same, hw.mono k, nr, f'⟩
      | bw ds' =>
        rw [z] at hs
        obtain ⟨a', vs', e1', e2', h', n', f'⟩ := hs
        rw [ea] at e1'
        cases e1'
        exact ⟨a, ws, ea, upd_same, hw.mono k, nr, f'⟩
    · rw [if_neg q]
      refine (ok.sl j).mono k fun m b eb => ?_
      have mj : MutAt σ δ j b := ⟨m, eb⟩
      have lt : i < δ.length := at_lt (by
        intro z
        rw [z] at e
        cases e)
      have ne : b ≠ a := fun z => q ⟨(ok.nd i j a mi (z ▸ mj)), lt⟩
      exact ⟨upd_ne ne, mj.notR ok⟩
  · have ne : b ≠ a := by
      rintro rfl
      have hs := ok.sl i
      cases z : δ.at i with
      | no => rw [z] at e; cases e
      | im d => rw [z] at e; cases e
      | ow ds' =>
        rw [z] at hs
        obtain ⟨a', vs', e1', e2', h', n', f'⟩ := hs
        rw [ea] at e1'
        cases e1'
        rw [hb] at f'
        cases f'
      | bw ds' =>
        rw [z] at hs
        obtain ⟨a', vs', e1', e2', h', n', f'⟩ := hs
        rw [ea] at e1'
        cases e1'
        exact n i f'
    rw [upd_ne ne]
    exact ok.keep b o hb n
  · have ne : b ≠ a := fun z => n i (z ▸ mi)
    rw [upd_ne ne]
    exact hb
end
end DL


/-! text DL3 -/
set_option maxHeartbeats 400000
set_option Elab.async false
set_option linter.all false
set_option maxRecDepth 100000
/-! DL3: rules for expressions. -/
namespace DL
open PySem PySem.Spec PyProof.Rows L2

section
variable {F : Fr} {W : WX} {X : Cx} {e a b c : Expr} {pos : Pos}

theorem XLk.refl {R : Rg} {σ : L2.St} {δ : Ds} {H : Hp} {X : Xd} (h : ∀ R' δ' H' cls d ex, Ok F R' σ δ' H' → Eff σ R H δ R' H' δ' → ExOk F R' H' cls d ex → X ex δ' → W cls d σ H') : XLk F W R σ δ H X := h
theorem XLk.step {R R1 : Rg} {σ : L2.St} {δ δ1 : Ds} {H H1 : Hp} {X : Xd} (h : XLk F W R σ δ H X) (e : Eff σ R H δ R1 H1 δ1) : XLk F W R1 σ δ1 H1 X :=
  fun R' δ' H' cls d ex ok ef ex' q => h R' δ' H' cls d ex ok (e.trans ef) ex' q

/-! ### from one kind to another -/
def dEm (t : TI) : TD := fun δ Q X => t δ (fun d δ' => Q (.im d) δ') X
theorem de_di {t : TI} (h : DI F W X e t) : DE F W X e (dEm t) :=
  PE.imp h fun σ H Q ⟨R, δ, Qd, Xq, ok, ht, hn, hx⟩ => ⟨R, δ, _, Xq, ok, ht, fun R' δ' H' v d ok' ef dv q => hn R' δ' H' v (.im d) ok' ef dv trivial q, hx⟩
/-- what is own is given away -/
def dFz (t : TD) : TI := fun δ Q X => t δ (fun rv δ' => Q rv.dat δ') X
theorem di_fz {t : TD} (h : DE F W X e t) : DI F W X e (dFz t) :=
  PE.imp h fun σ H Q ⟨R, δ, Qd, Xq, ok, ht, hn, hx⟩ => ⟨R, δ, _, Xq, ok, ht, fun R' δ' H' v rv ok' ef rvk nw q => by
    obtain ⟨R2, ok2, ef2, dv⟩ := rvk.freeze nw ok' ef
    exact hn R2 δ' H' v _ ok2 ef2 dv q, hx⟩

/-! ### names, constants -/
def dC (d : D) : TI := fun δ Q _ => Q d δ
theorem di_c {v : V} {d : D} (h : PE X e (tC v)) (hv : ∀ R H, Dv F.K R H v d) : DI F W X e (dC d) :=
  PE.imp h fun σ H Q ⟨R, δ, Qd, Xq, ok, ht, hn, hx⟩ => hn R δ H v d ok (Eff.refl _ _ _ _) (hv R H) ht
theorem di_int {i j} : DI F W X (.Constant (.int i) j pos) (dC (.int i)) := di_c pe_int fun _ _ => .int i
theorem di_bl {b j} : DI F W X (.Constant (.bool b) j pos) (dC (.bool b)) := di_c pe_bl fun _ _ => .bl b
theorem di_str {x j} : DI F W X (.Constant (.str x) j pos) (dC (.str x)) := di_c pe_str fun _ _ => .str x
theorem di_non {j} : DI F W X (.Constant .none j pos) (dC .none) := di_c pe_non fun _ _ => .non
theorem di_gint {x : Str} {i : Int} (hg : Gl X x) (hm : ∃ t, X.mg x = some (.int i t)) (hd : (x == ("__debug__" : Str)) = false := by decide) : DI F W X (.Name x pos) (dC (.int i)) := by
  obtain ⟨t, hm⟩ := hm
  exact di_c (v := .int i) (pe_glob hg hm ⟨t, rfl⟩ hd) fun _ _ => .int i
theorem di_gstr {x z : Str} (hg : Gl X x) (hm : ∃ t, X.mg x = some (.str z t)) (hd : (x == ("__debug__" : Str)) = false := by decide) : DI F W X (.Name x pos) (dC (.str z)) := by
  obtain ⟨t, hm⟩ := hm
  exact di_c (v := .str z) (pe_glob hg hm ⟨t, rfl⟩ hd) fun _ _ => .str z
/-- a name as data: an own list is given away -/
def dV (i : Nat) : TI := fun δ Q _ => match δ.at i with
  | .im d => Q d δ
  | .ow ds => Q (.list ds) (δ.set i (.im (.list ds)))
  | _ => False
theorem di_v {i : Nat} (h : PE X e (tVar i)) : DI F W X e (dV i) := by
  refine PE.imp h fun σ H Q ⟨R, δ, Qd, Xq, ok, ht, hn, hx⟩ => ?_
  have hs := ok.sl i
  unfold dV at ht
  cases q : δ.at i with
  | no => rw [q] at ht; exact ht.elim
  | im d =>
    rw [q] at ht hs
    obtain ⟨v, e1, dv⟩ := hs
    exact ⟨v, sat_some e1, hn R δ H v d ok (Eff.refl _ _ _ _) dv ht⟩
  | ow ds =>
    rw [q] at ht
    obtain ⟨a, R', e1, ok', ef, dv⟩ := ok.freeze q
    exact ⟨.ref a, sat_some e1, hn R' _ H _ _ ok' ef dv ht⟩
  | bw ds => rw [q] at ht; exact ht.elim
/-- a name, moved: an own list stays one's own, its slot is empty behind it -/
def dM (i : Nat) : TD := fun δ Q _ => match δ.at i with
  | .im d => Q (.im d) δ
  | .ow ds => Q (.ow ds) (δ.set i .no)
  | _ => False
theorem de_m {i : Nat} (h : PE X e (tVar i)) : DE F W X e (dM i) := by
  refine PE.imp h fun σ H Q ⟨R, δ, Qd, Xq, ok, ht, hn, hx⟩ => ?_
  have hs := ok.sl i
  unfold dM at ht
  cases q : δ.at i with
  | no => rw [q] at ht; exact ht.elim
  | im d =>
    rw [q] at ht hs
    obtain ⟨v, e1, dv⟩ := hs
    exact ⟨v, sat_some e1, hn R δ H v (.im d) ok (Eff.refl _ _ _ _) dv trivial ht⟩
  | ow ds =>
    rw [q] at ht
    obtain ⟨a, e1, rv⟩ := ok.move q
    obtain ⟨ok', ef⟩ := ok.drop i
    refine ⟨.ref a, sat_some e1, hn R _ H _ (.ow ds) ok' ef rv (fun b eb => ?_) ht⟩
    cases eb
    exact .inr ⟨i, by show (δ.at i).isOw = true; rw [q]; rfl, e1⟩
  | bw ds => rw [q] at ht; exact ht.elim

/-! ### two operands -/
/-- flat data: what needs no heap -/
def flat : D → Option V
  | .none => some .non
  | .bool b => some (.bl b)
  | .int i => some (.int i)
  | .str x => some (.str x)
  | _ => none
theorem flat_dv {K : PySem.W.Frag} {R : Rg} {H : Hp} {d : D} {v : V} (h : flat d = some v) : Dv K R H v d := by
  cases d with
  | none => cases h; exact .non
  | bool b => cases h; exact .bl b
  | int i => cases h; exact .int i
  | str x => cases h; exact .str x
  | list _ => cases h
  | tuple _ => cases h
  | dict _ => cases h
abbrev RB := D → D → (D → Prop) → Prop
def dBin (r : RB) (ta tb : TI) : TI := fun δ Q X => ta δ (fun x δ1 => tb δ1 (fun y δ2 => r x y fun z => Q z δ2) X) X
/-- an operator on data whose answer is flat -/
def OpD (F : Fr) (X : Cx) (f : Value → Value → Sem Value) (r : RB) : Prop := ∃ r0 : R2, OpR X f r0 ∧ ∀ (R : Rg) (H : Hp) (x y : V) (d e : D) (k : D → Prop) (Q : VK), Dv F.K R H x d → Dv F.K R H y e → r d e k → (∀ z v, k z → flat z = some v → Q v H) → r0 x y H Q
theorem di_bin_of {f : Value → Value → Sem Value} {r : RB} {ta tb : TI} (ho : OpD F X f r) {r0 : Expr} (hpe : ∀ (r0 : R2) (ta tb : TE), OpR X f r0 → PE X a ta → PE X b tb → PE X e (tOp r0 ta tb)) (ha : DI F W X a ta) (hb : DI F W X b tb) : DI F W X e (dBin r ta tb) := by
  obtain ⟨r0, h0, hr⟩ := ho
  refine PE.imp (hpe r0 _ _ h0 ha hb) fun σ H Q ⟨R, δ, Qd, Xq, ok, ht, hn, hx⟩ => ?_
  refine ⟨R, δ, _, Xq, ok, ht, fun R1 δ1 H1 x d ok1 ef1 dv1 h1 => ?_, hx⟩
  refine ⟨R1, δ1, _, Xq, ok1, h1, fun R2 δ2 H2 y e ok2 ef2 dv2 h2 => ?_, hx.step ef1⟩
  exact hr R2 H2 x y d e _ Q (dv1.mono (ef2.keeps ok1)) dv2 h2 fun z v q ez => hn R2 δ2 H2 v z ok2 (ef1.trans ef2) (flat_dv ez) q
theorem di_op {op : Operator} {r : RB} {ta tb : TI} (ho : OpD F X (binaryOp op) r) (ha : DI F W X a ta) (hb : DI F W X b tb) : DI F W X (.BinOp a op b pos) (dBin r ta tb) :=
  di_bin_of (r0 := a) ho (fun r0 ta tb h0 ha hb => pe_op h0 ha hb) ha hb
theorem di_cmp {op : CmpOp} {r : RB} {ta tb : TI} (ho : OpD F X (compareOp op) r) (ha : DI F W X a ta) (hb : DI F W X b tb) (hm : behindInMarks op b = false) : DI F W X (.Compare a [op] [b] pos) (dBin r ta tb) :=
  di_bin_of (r0 := a) ho (fun r0 ta tb h0 ha hb => pe_cmpR h0 ha hb hm) ha hb
/-- an expression that gives True or False, as a test -/
def dB (t : TI) : TB := fun δ Q X => t δ (fun d δ' => match d with
  | .bool b => Q b δ'
  | _ => False) X
theorem dt_cmp {op : CmpOp} {r : RB} {ta tb : TI} (ho : OpD F X (compareOp op) r) (ha : DI F W X a ta) (hb : DI F W X b tb) (hm : behindInMarks op b = false) : DT F W X (.Compare a [op] [b] pos) (dB (dBin r ta tb)) := by
  obtain ⟨r0, h0, hr⟩ := ho
  refine PT.imp (pt_cmpR h0 ha hb hm) fun σ H Q ⟨R, δ, Qd, Xq, ok, ht, hn, hx⟩ => ?_
  refine ⟨R, δ, _, Xq, ok, ht, fun R1 δ1 H1 x d ok1 ef1 dv1 h1 => ?_, hx⟩
  refine ⟨R1, δ1, _, Xq, ok1, h1, fun R2 δ2 H2 y e ok2 ef2 dv2 h2 => ?_, hx.step ef1⟩
  refine hr R2 H2 x y d e _ _ (dv1.mono (ef2.keeps ok1)) dv2 h2 fun z v q ez => ?_
  cases z with
  | bool k =>
    cases ez
    exact ⟨k, rfl, hn R2 δ2 H2 k ok2 (ef1.trans ef2) q⟩
  | none => exact q.elim
  | int _ => exact q.elim
  | str _ => exact q.elim
  | list _ => exact q.elim
  | tuple _ => exact q.elim
  | dict _ => exact q.elim
theorem dt_val {t : TI} (h : DI F W X e t) (he : ∀ whole, isTrue e X.env whole = (do let v ← whole; standAt e.pos; holding [v] (truthy v)) := by intro _; rfl) : DT F W X e (dB t) := by
  refine PT.imp (pt_val h he) fun σ H Q ⟨R, δ, Qd, Xq, ok, ht, hn, hx⟩ => ?_
  refine ⟨R, δ, _, Xq, ok, ht, fun R1 δ1 H1 x d ok1 ef1 dv1 h1 => ?_, hx⟩
  cases d with
  | bool k =>
    cases dv1
    exact ⟨k, rfl, hn R1 δ1 H1 k ok1 ef1 h1⟩
  | none => exact h1.elim
  | int _ => exact h1.elim
  | str _ => exact h1.elim
  | list _ => exact h1.elim
  | tuple _ => exact h1.elim
  | dict _ => exact h1.elim

/-- two ints to an int -/
def rII (C : Int → Int → Prop) (g : Int → Int → Int) : RB := fun x y k => match x, y with
  | .int i, .int j => C i j ∧ k (.int (g i j))
  | _, _ => False
def rII0 (g : Int → Int → Int) : RB := fun x y k => match x, y with
  | .int i, .int j => k (.int (g i j))
  | _, _ => False
def rIB (g : Int → Int → Bool) : RB := fun x y k => match x, y with
  | .int i, .int j => k (.bool (g i j))
  | _, _ => False
theorem opd_ii {f : Value → Value → Sem Value} {C : Int → Int → Prop} {g : Int → Int → Int} (h : OpR X f (rI C fun i j => .int (g i j))) : OpD F X f (rII C g) := by
  refine ⟨_, h, fun R H x y d e k Q dx dy hr hk => ?_⟩
  unfold rII at hr
  cases d <;> first | exact hr.elim | skip
  cases e <;> first | exact hr.elim | skip
  cases dx
  cases dy
  exact ⟨_, _, rfl, rfl, hr.1, hk _ _ hr.2 rfl⟩
theorem opd_ii0 {f : Value → Value → Sem Value} {g : Int → Int → Int} (h : OpR X f (rI0 fun i j => .int (g i j))) : OpD F X f (rII0 g) := by
  refine ⟨_, h, fun R H x y d e k Q dx dy hr hk => ?_⟩
  unfold rII0 at hr
  cases d <;> first | exact hr.elim | skip
  cases e <;> first | exact hr.elim | skip
  cases dx
  cases dy
  exact ⟨_, _, rfl, rfl, hk _ _ hr rfl⟩
theorem opd_ib {f : Value → Value → Sem Value} {g : Int → Int → Bool} (h : OpR X f (rI0 fun i j => .bl (g i j))) : OpD F X f (rIB g) := by
  refine ⟨_, h, fun R H x y d e k Q dx dy hr hk => ?_⟩
  unfold rIB at hr
  cases d <;> first | exact hr.elim | skip
  cases e <;> first | exact hr.elim | skip
  cases dx
  cases dy
  exact ⟨_, _, rfl, rfl, hk _ _ hr rfl⟩
def MulOk (i j : Int) : Prop := CMulX i j
/-- // where no long division by Python is asked: a divisor in hand, or no greater quotient -/
def DivOk (i j : Int) : Prop := 0 < j ∧ (j.natAbs < 2 ^ 8999 ∨ i.natAbs ≤ j.natAbs)
def rSub : RB := rII0 fun i j => i - j
def rMul : RB := rII MulOk fun i j => i * j
def rDiv : RB := rII DivOk fun i j => i / j
def rMod : RB := rII (fun _ j => 0 < j) fun i j => i % j
def rPow : RB := rII CPow fun i j => i ^ j.toNat
def rShl : RB := rII CShl fun i j => i * 2 ^ j.toNat
def rLt : RB := rIB fun i j => decide (i < j)
def rLe : RB := rIB fun i j => decide (i ≤ j)
def rGt : RB := rIB fun i j => decide (j < i)
def rGe : RB := rIB fun i j => decide (j ≤ i)
theorem od_sub : OpD F X (binaryOp .Sub) rSub := opd_ii0 op_sub
theorem od_mul : OpD F X (binaryOp .Mult) rMul := opd_ii op_mulX
theorem noPy_le {i j : Int} (hj : 0 < j) (h : i.natAbs ≤ j.natAbs) : Builtin.divisionGoesByPylong i j = false := by
  have key : ∀ a : Int, (if a == 0 then 0 else a.natAbs.log2 / 30 + 1) = if a = 0 then 0 else a.natAbs.log2 / 30 + 1 := fun a => by
    by_cases q : a = 0
    · subst q; rfl
    · rw [if_neg (by simpa using q), if_neg q]
  have le : (if i == 0 then 0 else i.natAbs.log2 / 30 + 1) ≤ (if j == 0 then 0 else j.natAbs.log2 / 30 + 1) := by
    rw [key, key]
    by_cases q : i = 0
    · rw [if_pos q]; exact Nat.zero_le _
    · rw [if_neg q, if_neg (by omega)]
      have h1 : j.natAbs < 2 ^ (j.natAbs.log2 + 1) := Nat.lt_log2_self
      have h2 : i.natAbs.log2 < j.natAbs.log2 + 1 := (Nat.log2_lt (by omega)).mpr (Nat.lt_of_le_of_lt h h1)
      omega
  have f : decide ((if i == 0 then 0 else i.natAbs.log2 / 30 + 1) > (if j == 0 then 0 else j.natAbs.log2 / 30 + 1) + 150) = false := decide_eq_false (by omega)
  unfold Builtin.divisionGoesByPylong
  simp only [f, Bool.and_false]
theorem divOk_w {i j : Int} (h : DivOk i j) : Builtin.divisionGoesByPylong i j = false := by
  rcases h.2 with h2 | h2
  · exact PyProof.noPylong_of_log2 (wide_div (i := i) h.1 h2 (by decide) (by decide)).2
  · exact noPy_le h.1 h2
theorem op_divD : OpR X (binaryOp .FloorDiv) (rI DivOk fun i j => .int (i / j)) := opI fun i j _ _ _ _ _ hc q => by
  have h1 : (0 : Int) < j := hc.1
  exact floordiv_int (by omega) (by rw [Int.fdiv_eq_ediv_of_nonneg i (by omega)]; exact q) (.inl (divOk_w hc))
theorem od_div : OpD F X (binaryOp .FloorDiv) rDiv := by
  refine ⟨_, op_divD, fun R H x y d e k Q dx dy hr hk => ?_⟩
  unfold rDiv rII at hr
  cases d <;> first | exact hr.elim | skip
  cases e <;> first | exact hr.elim | skip
  cases dx
  cases dy
  exact ⟨_, _, rfl, rfl, hr.1, hk _ _ hr.2 rfl⟩
theorem od_mod : OpD F X (binaryOp .Mod) rMod := opd_ii op_mod
theorem od_pow : OpD F X (binaryOp .Pow) rPow := opd_ii op_pow
theorem od_shl : OpD F X (binaryOp .LShift) rShl := opd_ii op_shlW
theorem od_lt : OpD F X (compareOp .Lt) rLt := opd_ib op_lt
theorem od_le : OpD F X (compareOp .LtE) rLe := opd_ib op_le
theorem od_gt : OpD F X (compareOp .Gt) rGt := opd_ib op_gt
theorem od_ge : OpD F X (compareOp .GtE) rGe := opd_ib op_ge
/-- + of ints, of texts -/
def rAdd : RB := fun x y k => match x, y with
  | .int i, .int j => k (.int (i + j))
  | .str i, .str j => i.length + j.length ≤ sizeLine ∧ k (.str (i ++ j))
  | _, _ => False
theorem od_add : OpD F X (binaryOp .Add) rAdd := by
  refine ⟨_, OpR.or op_add op_add_str, fun R H x y d e k Q dx dy hr hk => ?_⟩
  unfold rAdd at hr
  cases d with
  | int i =>
    cases e <;> first | exact hr.elim | skip
    cases dx
    cases dy
    exact .inl ⟨_, _, rfl, rfl, hk _ _ hr rfl⟩
  | str i =>
    cases e <;> first | exact hr.elim | skip
    cases dx
    cases dy
    exact .inr ⟨_, _, rfl, rfl, hr.1, hk _ _ hr.2 rfl⟩
  | _ => exact hr.elim
/-- == of data -/
def eqD (x y : D) : Bool := PyData.eqv x y
def cmpOk (x y : D) : Prop := match x, y with
  | .int _, .int _ => True
  | .str _, .str _ => True
  | .bool _, .bool _ => True
  | .none, _ => y.hasDict = false ∧ SeqAt.shaped y = true
  | _, _ => x.hasDict = false ∧ y.hasDict = false ∧ SeqAt.shaped x = true ∧ SeqAt.shaped y = true
def rEq : RB := fun x y k => cmpOk x y ∧ k (.bool (eqD x y))
def rNe : RB := fun x y k => cmpOk x y ∧ k (.bool (!eqD x y))
theorem eqv_int {i j : Int} : PyData.eqv (.int i) (.int j) = (i == j) := by simp [PyData.eqv]
theorem eqv_str {i j : Str} : PyData.eqv (.str i) (.str j) = (i == j) := by simp [PyData.eqv]
theorem eqv_bool {i j : Bool} : PyData.eqv (.bool i) (.bool j) = (i == j) := by simp [PyData.eqv]
theorem cmp_split {K : PySem.W.Frag} {R : Rg} {H : Hp} {x y : V} {d e : D} (h : cmpOk d e) (dx : Dv K R H x d) (dy : Dv K R H y e) :
    (scal x y = true ∧ decide (x = y) = PyData.eqv d e) ∨ (d.hasDict = false ∧ e.hasDict = false ∧ SeqAt.shaped d = true ∧ SeqAt.shaped e = true) := by
  unfold cmpOk at h
  cases d with
  | none => exact .inr ⟨by simp [PyData.hasDict], h.1, by decide, h.2⟩
  | int i =>
    cases e with
    | int j =>
      cases dx; cases dy
      refine .inl ⟨rfl, ?_⟩
      rw [dec_int, eqv_int]
    | _ => exact .inr h
  | str i =>
    cases e with
    | str j =>
      cases dx; cases dy
      refine .inl ⟨rfl, ?_⟩
      rw [dec_str, eqv_str]
    | _ => exact .inr h
  | bool i =>
    cases e with
    | bool j =>
      cases dx; cases dy
      refine .inl ⟨rfl, ?_⟩
      rw [dec_bl, eqv_bool]
    | _ => exact .inr h
  | _ => exact .inr h
theorem od_eq (hu : X.A.units + 64 < cLine) (hK : F.K = X.K) : OpD F X (compareOp .Eq) rEq := by
  refine ⟨_, OpR.or op_eq (op_eqD hu), fun R H x y d e k Q dx dy hr hk => ?_⟩
  rcases cmp_split hr.1 dx dy with ⟨s, q⟩ | ⟨h1, h2, h3, h4⟩
  · refine .inl ⟨s, ?_⟩
    rw [q]
    exact hk _ _ hr.2 rfl
  · exact .inr ⟨d, e, hK ▸ dx.dp h1, hK ▸ dy.dp h2, h3, h4, hk _ _ hr.2 rfl⟩
theorem od_ne (hu : X.A.units + 64 < cLine) (hK : F.K = X.K) : OpD F X (compareOp .NotEq) rNe := by
  refine ⟨_, OpR.or op_ne (op_neD hu), fun R H x y d e k Q dx dy hr hk => ?_⟩
  rcases cmp_split hr.1 dx dy with ⟨s, q⟩ | ⟨h1, h2, h3, h4⟩
  · refine .inl ⟨s, ?_⟩
    rw [q]
    exact hk _ _ hr.2 rfl
  · exact .inr ⟨d, e, hK ▸ dx.dp h1, hK ▸ dy.dp h2, h3, h4, hk _ _ hr.2 rfl⟩
/-- is None, is not None -/
def isN : D → Bool
  | .none => true
  | _ => false
def rIsN : RB := fun x y k => match y with
  | .none => k (.bool (isN x))
  | _ => False
def rNotN : RB := fun x y k => match y with
  | .none => k (.bool (!isN x))
  | _ => False
theorem isN_dv {K : PySem.W.Frag} {R : Rg} {H : Hp} {x : V} {d : D} (h : Dv K R H x d) : decide (x = .non) = isN d := by
  cases h <;> first | rfl | exact decide_eq_false (fun q => nomatch q)
theorem od_isN : OpD F X (compareOp .Is) rIsN := by
  refine ⟨_, op_isN, fun R H x y d e k Q dx dy hr hk => ?_⟩
  unfold rIsN at hr
  cases e <;> first | exact hr.elim | skip
  cases dy
  refine ⟨rfl, ?_⟩
  rw [isN_dv dx]
  exact hk _ _ hr rfl
theorem od_notN : OpD F X (compareOp .IsNot) rNotN := by
  refine ⟨_, op_notN, fun R H x y d e k Q dx dy hr hk => ?_⟩
  unfold rNotN at hr
  cases e <;> first | exact hr.elim | skip
  cases dy
  refine ⟨rfl, ?_⟩
  rw [isN_dv dx]
  exact hk _ _ hr rfl
end
end DL


/-! text DL4 -/
set_option maxHeartbeats 400000
set_option Elab.async false
set_option linter.all false
set_option maxRecDepth 100000
/-! DL4: promises of defs, calls, argument lists. -/
namespace DL
open PySem PySem.Spec PyProof.Rows L2

/-! ### defs that keep a promise, where no guard stands around -/
structure FnG (P : Program) (w : World) (K : PySem.W.Frag) (mg : Str → Option Value) (base : Heap) (CX : CXT) (k : Nat) (f : Addr) (fd : FuncData) (ps : List Str) (sp : Sp) : Prop where
  len : ∀ vs H Q E, sp vs H Q E → vs.length = ps.length
  run : ∀ (A : Around) (outer : List Env) (s : Shared) (H : Hp) (args : Args) (us : List Value) (vs : List V) (Q : VK) (E : XK), Room k A → A.guards = some [] → Env0 P w K mg base A outer s H → BindsTo s fd args (ps.zip us) → Vals vs us → sp vs H Q E →
    codeAny (model P w) A (.call (.ref f) args) (CR CX outer P w H s Q E) s
theorem FnG.mono {P : Program} {w : World} {K : PySem.W.Frag} {mg : Str → Option Value} {base : Heap} {CX : CXT} {j k : Nat} {f : Addr} {fd : FuncData} {ps : List Str} {sp : Sp} (F : FnG P w K mg base CX j f fd ps sp) (h : j ≤ k) :
    FnG P w K mg base CX k f fd ps sp := ⟨F.len, fun A outer s H args us vs Q E hr => F.run A outer s H args us vs Q E (hr.mono h)⟩
theorem FnG.imp {P : Program} {w : World} {K : PySem.W.Frag} {mg : Str → Option Value} {base : Heap} {CX : CXT} {k : Nat} {f : Addr} {fd : FuncData} {ps : List Str} {sp sp' : Sp} (F : FnG P w K mg base CX k f fd ps sp)
    (h : ∀ vs H Q E, sp' vs H Q E → sp vs H Q E) : FnG P w K mg base CX k f fd ps sp' :=
  ⟨fun vs H Q E q => F.len vs H Q E (h _ _ _ _ q), fun A outer s H args us vs Q E hr hg he hb hv hs => F.run A outer s H args us vs Q E hr hg he hb hv (h _ _ _ _ hs)⟩
theorem guards_deeper (A : Around) (env : Env) : (A.deeper env).guards = A.guards := rfl
theorem fn_ofG {CX : CXT} {P : Program} {w : World} {K : PySem.W.Frag} {mg : Str → Option Value} {base : Heap} {k : Nat} {f : Addr} {name qual : Str} {params : Arguments} {body : List Stmt} {scope : Scope} {dV kV doc pm cdv ct oc : Value} {an od : Option Addr}
    {osl : Array (Option Value)} {N ps : List Str} {sp : Sp} (lk : K.lookup f = some ⟨oc, od, .func (PySem.W.fnOf name qual params body scope dV kV doc pm an cdv ct), osl⟩) (hcd : PySem.W.codeIn K cdv qual = true) (S : FnScope N ps scope)
    (len : ∀ vs H Q E, sp vs H Q E → vs.length = ps.length)
    (hbody : ∀ (A : Around) (outer : List Env) (s : Shared) (H : Hp) (vs : List V) (Q : VK) (E : XK), Room k (A.deeper (envOfC qual scope s.heap.objs.size f cdv)) → (A.deeper (envOfC qual scope s.heap.objs.size f cdv)).guards = some [] → sp vs H Q E →
      ∃ t, PSs (cxOf CX P w K mg base N qual scope f cdv A outer s H E) body t ∧ t { nx := fun _ H' => Q .non H', rt := Q } (start N vs) H) :
    FnG P w K mg base CX (k + 1) f (PySem.W.fnOf name qual params body scope dV kV doc pm an cdv ct) ps sp := by
  refine ⟨len, fun A outer s H args us vs Q E hr hg e0 hb r hsp => ?_⟩
  have hl := len _ _ _ _ hsp
  have KX : K.In s.heap := e0.mod.kin.keeps fun b o e => (e0.bs b o e).1
  have lim : s.heap.NoLimit := e0.mod.nolimit.keeps fun b o e => (e0.bs b o e).1
  have hkind : ∀ y ∈ ps.zip us, scope.names.lookup y.1 = some .local ∨ (scope.names.lookup y.1 = some .cell ∧ ((cellsFrom (s.heap.objs.size + 1) scope.names []).lookup y.1).isSome = true) := fun ⟨n, v⟩ hy => by
    rcases S.par n (List.of_mem_zip hy).1 with q | q
    · exact .inl q
    · exact .inr ⟨q, PySem.W.cellsFrom_some _ _ _ (.inl q)⟩
  refine codeAny_call_function hr.depth (KX _ _ lk) rfl S.co S.gen rfl (PySem.W.codeRec_of KX hcd) (hb _ _ _ _ ?_)
  refine wpAny_newFunctionEnv_cells S.kind hkind fun env he s1 x => ?_
  subst he
  refine ⟨lim.keeps x.toInCall.keep, codeAny_func ?_⟩
  obtain ⟨t, ht, hq⟩ := hbody A outer s H vs Q E (hr.deeper _) ((guards_deeper _ _).trans hg) hsp
  have I : Inv (cxOf CX P w K mg base N qual scope f cdv A outer s H E) [] (start N vs) H s1 := inv_start S hr.hd e0 hl r x
  refine wpAny_mono (ht.run [] s1 (start N vs) H _ I hq) (fun fl s' hs => ?_) fun e s' hs => hs
  have fin : ∀ {σ' : L2.St} {H' : Hp} {v : V} {u : Value}, Inv (cxOf CX P w K mg base N qual scope f cdv A outer s H E) [] σ' H' s' → RelV v u → Q v H' → CE outer P w H s Q u s' :=
    fun {σ' H' v u} J rv q => ⟨v, H', J.os, J.bare, J.base, J.hok, rv, q⟩
  cases fl with
  | ret u =>
    obtain ⟨v, σ', H', J, rv, q⟩ := hs
    exact fin J rv q
  | next =>
    obtain ⟨σ', H', J, q⟩ := hs
    exact fin (v := V.non) (u := Value.none) J rfl q
  | brk =>
    obtain ⟨_, _, _, q⟩ := hs
    exact False.elim q
  | cont =>
    obtain ⟨_, _, _, q⟩ := hs
    exact False.elim q

/-! ### promises over data -/
/-- an argument: data, or a list that the def may change -/
inductive Ag where
  | im (d : D)
  | mt (ds : List D)
/-- a def's promise over data: its arguments, what is wanted of its answer and of the lists that it changed, what of an exception -/
abbrev DSp := List Ag → (Rv → List (List D) → Prop) → (Ex → List (List D) → Prop) → Prop
def AgOk (K : PySem.W.Frag) (R : Rg) (H : Hp) (v : V) : Ag → Prop
  | .im d => Dv K R H v d
  | .mt ds => ∃ a vs, v = .ref a ∧ ¬ R a ∧ H a = some (.lst vs) ∧ Dvs K R H vs ds
def adr : V → Addr
  | .ref a => a
  | _ => 0
def mts : List V → List Ag → List Addr
  | v :: vs, .mt _ :: ags => adr v :: mts vs ags
  | _ :: vs, .im _ :: ags => mts vs ags
  | _, _ => []
structure Post (K : PySem.W.Frag) (R : Rg) (H : Hp) (as : List Addr) (R' : Rg) (H' : Hp) (outs : List (List D)) : Prop where
  keep : ∀ b o, H b = some o → b ∉ as → H' b = some o
  there : ∀ b, H b ≠ none → H' b ≠ none
  sub : ∀ b, R b → R' b
  new : ∀ b, R' b → R b ∨ H b = none
  rin : ∀ b, R' b → H' b ≠ none
  outs : Paired (fun a ds => ∃ vs, H' a = some (.lst vs) ∧ Dvs K R' H' vs ds) as outs
def RetOk (K : PySem.W.Frag) (R' : Rg) (H' : Hp) (H : Hp) (v : V) : Rv → Prop
  | .im d => Dv K R' H' v d
  | .ow ds => ∃ a vs, v = .ref a ∧ H' a = some (.lst vs) ∧ Dvs K R' H' vs ds ∧ ¬ R' a ∧ H a = none
def ExOkK (K : PySem.W.Frag) (R : Rg) (H : Hp) (cls : Value) (d : Option Addr) (ex : Ex) : Prop :=
  cls = .ref ex.cls ∧ ∃ (a : Addr) (fs : List (Str × V)), d = some a ∧ H a = some (.xd fs) ∧ R a ∧ fs.map (·.1) = ex.fs.map (·.1) ∧ Dvs K R H (fs.map (·.2)) (ex.fs.map (·.2))
def lsp (K : PySem.W.Frag) (dsp : DSp) : Sp := fun vs H Q E => ∃ (R : Rg) (ags : List Ag) (Qd : Rv → List (List D) → Prop) (Xq : Ex → List (List D) → Prop),
  Paired (AgOk K R H) vs ags ∧ (mts vs ags).Nodup ∧ (∀ b, R b → H b ≠ none) ∧ dsp ags Qd Xq ∧
  (∀ R' H' v rv outs, Post K R H (mts vs ags) R' H' outs → RetOk K R' H' H v rv → Qd rv outs → Q v H') ∧
  (∀ R' H' cls d ex outs, Post K R H (mts vs ags) R' H' outs → ExOkK K R' H' cls d ex → Xq ex outs → E cls d H')

/-! ### argument lists -/
inductive Ar where
  | da (d : D)
  | mt (i : Nat)
abbrev TM := Ds → (List Ar → Ds → Prop) → Xd → Prop
def ArOk (F : Fr) (R : Rg) (H : Hp) (σ : L2.St) (v : V) : Ar → Prop
  | .da d => Dv F.K R H v d
  | .mt i => sat σ i = some v
def liftM (F : Fr) (W : WX) (t : TM) : TA := fun σ H Q => ∃ (R : Rg) (δ : Ds) (Qd : List Ar → Ds → Prop) (X : Xd), Ok F R σ δ H ∧ t δ Qd X ∧
  (∀ R' δ' H' vs ars, Ok F R' σ δ' H' → Eff σ R H δ R' H' δ' → Paired (ArOk F R' H' σ) vs ars → Qd ars δ' → Q vs H') ∧ XLk F W R σ δ H X
def DM (F : Fr) (W : WX) (X : Cx) (es : List Expr) (t : TM) : Prop := PA X es (liftM F W t)
section
variable {F : Fr} {W : WX} {X : Cx} {e a b c : Expr} {es : List Expr} {pos : Pos}
def dNil : TL := fun δ Q _ => Q [] δ
def dCons (t : TI) (u : TL) : TL := fun δ Q X => t δ (fun d δ1 => u δ1 (fun ds δ2 => Q (d :: ds) δ2) X) X
theorem da_nil : DA F W X [] dNil :=
  PA.imp pa_nil fun σ H Q ⟨R, δ, Qd, Xq, ok, ht, hn, hx⟩ => hn R δ H [] [] ok (Eff.refl _ _ _ _) .nil ht
theorem da_cons {t : TI} {u : TL} (h : DI F W X e t) (hs : DA F W X es u) (hst : starEach (e :: es) X.env = (false, eval e X.env) :: starEach es X.env := by rfl) : DA F W X (e :: es) (dCons t u) := by
  refine PA.imp (pa_cons h hs hst) fun σ H Q ⟨R, δ, Qd, Xq, ok, ht, hn, hx⟩ => ?_
  refine ⟨R, δ, _, Xq, ok, ht, fun R1 δ1 H1 x d ok1 ef1 dv1 h1 => ?_, hx⟩
  refine ⟨R1, δ1, _, Xq, ok1, h1, fun R2 δ2 H2 ys ds ok2 ef2 dv2 h2 => ?_, hx.step ef1⟩
  exact hn R2 δ2 H2 _ _ ok2 (ef1.trans ef2) (.cons (dv1.mono (ef2.keeps ok1)) dv2) h2
def mNil : TM := fun δ Q _ => Q [] δ
def mCons (t : TI) (u : TM) : TM := fun δ Q X => t δ (fun d δ1 => u δ1 (fun ds δ2 => Q (.da d :: ds) δ2) X) X
/-- the list in a slot, to be changed by the callee -/
def mMut (i : Nat) (u : TM) : TM := fun δ Q X => (δ.at i).isMut = true ∧ u δ (fun ds δ2 => Q (.mt i :: ds) δ2) X
theorem dm_nil : DM F W X [] mNil :=
  PA.imp pa_nil fun σ H Q ⟨R, δ, Qd, Xq, ok, ht, hn, hx⟩ => hn R δ H [] [] ok (Eff.refl _ _ _ _) .nil ht
theorem ArOk.mono {R R' : Rg} {H H' : Hp} {σ : L2.St} {v : V} {ar : Ar} (h : ArOk F R H σ v ar) (k : Keeps R H R' H') : ArOk F R' H' σ v ar := by
  cases ar with
  | da d => exact Dv.mono k h
  | mt i => exact h
theorem dm_cons {t : TI} {u : TM} (h : DI F W X e t) (hs : DM F W X es u) (hst : starEach (e :: es) X.env = (false, eval e X.env) :: starEach es X.env := by rfl) : DM F W X (e :: es) (mCons t u) := by
  refine PA.imp (pa_cons h hs hst) fun σ H Q ⟨R, δ, Qd, Xq, ok, ht, hn, hx⟩ => ?_
  refine ⟨R, δ, _, Xq, ok, ht, fun R1 δ1 H1 x d ok1 ef1 dv1 h1 => ?_, hx⟩
  refine ⟨R1, δ1, _, Xq, ok1, h1, fun R2 δ2 H2 ys ds ok2 ef2 dv2 h2 => ?_, hx.step ef1⟩
  exact hn R2 δ2 H2 _ _ ok2 (ef1.trans ef2) (.cons (show ArOk F R2 H2 σ x (.da d) from dv1.mono (ef2.keeps ok1)) dv2) h2
theorem mut_sat {R : Rg} {σ : L2.St} {δ : Ds} {H : Hp} (ok : Ok F R σ δ H) {i : Nat} (m : (δ.at i).isMut = true) : ∃ a, sat σ i = some (.ref a) := by
  have hs := ok.sl i
  cases q : δ.at i with
  | no => rw [q] at m; cases m
  | im d => rw [q] at m; cases m
  | ow ds =>
    rw [q] at hs
    obtain ⟨a, _, e, _⟩ := hs
    exact ⟨a, e⟩
  | bw ds =>
    rw [q] at hs
    obtain ⟨a, _, e, _⟩ := hs
    exact ⟨a, e⟩
theorem dm_mut {i : Nat} {u : TM} (h : PE X e (tVar i)) (hs : DM F W X es u) (hst : starEach (e :: es) X.env = (false, eval e X.env) :: starEach es X.env := by rfl) : DM F W X (e :: es) (mMut i u) := by
  refine PA.imp (pa_cons h hs hst) fun σ H Q ⟨R, δ, Qd, Xq, ok, ht, hn, hx⟩ => ?_
  obtain ⟨m, ht⟩ := ht
  obtain ⟨a, ea⟩ := mut_sat ok m
  refine ⟨.ref a, sat_some ea, R, δ, _, Xq, ok, ht, fun R2 δ2 H2 ys ds ok2 ef2 dv2 h2 => ?_, hx⟩
  exact hn R2 δ2 H2 _ _ ok2 ef2 (.cons (show ArOk F R2 H2 σ (.ref a) (.mt i) from ea) dv2) h2

/-! ### calls of one's own defs -/
def agsOf (δ : Ds) : List Ar → Option (List Ag)
  | [] => some []
  | .da d :: r => (agsOf δ r).map (.im d :: ·)
  | .mt i :: r => match (δ.at i).lst? with
    | some ds => (agsOf δ r).map (.mt ds :: ·)
    | none => none
def arMts : List Ar → List Nat
  | [] => []
  | .da _ :: r => arMts r
  | .mt i :: r => i :: arMts r
/-- the lists that a callee changed, put back -/
def putOuts : Ds → List Nat → List (List D) → Ds
  | δ, i :: is, o :: os => putOuts (δ.set i ((δ.at i).put o)) is os
  | δ, _, _ => δ
def callD (sp : DSp) (ars : List Ar) (δ : Ds) (Q : Rv → Ds → Prop) (X : Xd) : Prop := match agsOf δ ars with
  | some ags => (arMts ars).Nodup ∧ sp ags (fun rv outs => Q rv (putOuts δ (arMts ars) outs)) (fun ex outs => X ex (putOuts δ (arMts ars) outs))
  | none => False
def dCall (sp : DSp) (t : TM) : TD := fun δ Q X => t δ (fun ars δ1 => callD sp ars δ1 Q X) X
/-- the arguments as the callee wants them -/
theorem ags_ok {R : Rg} {H : Hp} {σ : L2.St} {δ : Ds} (ok : Ok F R σ δ H) : ∀ {vs : List V} {ars : List Ar} {ags : List Ag}, Paired (ArOk F R H σ) vs ars → agsOf δ ars = some ags →
    Paired (AgOk F.K R H) vs ags ∧ Paired (fun a i => MutAt σ δ i a) (mts vs ags) (arMts ars)
  | _, _, _, .nil, e => by
    cases e
    exact ⟨.nil, .nil⟩
  | v :: vs, .da d :: ars, ags, .cons h hs, e => by
    have e' : (agsOf δ ars).map (.im d :: ·) = some ags := e
    obtain ⟨ags', e1, rfl⟩ := Option.map_eq_some_iff.mp e'
    obtain ⟨h1, h2⟩ := ags_ok ok hs e1
    exact ⟨.cons h h1, h2⟩
  | v :: vs, .mt i :: ars, ags, .cons h hs, e => by
    cases q : (δ.at i).lst? with
    | none =>
      have e' : (match (δ.at i).lst? with
        | some ds => (agsOf δ ars).map (.mt ds :: ·)
        | none => none) = some ags := e
      rw [q] at e'
      cases e'
    | some ds =>
      have e' : (match (δ.at i).lst? with
        | some ds => (agsOf δ ars).map (.mt ds :: ·)
        | none => none) = some ags := e
      rw [q] at e'
      obtain ⟨ags', e1, rfl⟩ := Option.map_eq_some_iff.mp e'
      obtain ⟨h1, h2⟩ := ags_ok ok hs e1
      obtain ⟨a, ws, ea, eh, dv, mi⟩ := ok.mutL q
      have ev : sat σ i = some v := h
      rw [ea] at ev
      cases ev
      exact ⟨.cons ⟨a, ws, rfl, mi.notR ok, eh, dv⟩ h1, .cons mi h2⟩
theorem mts_nodup {R : Rg} {H : Hp} {σ : L2.St} {δ : Ds} (ok : Ok F R σ δ H) : ∀ {as : List Addr} {is : List Nat}, Paired (fun a i => MutAt σ δ i a) as is → is.Nodup → as.Nodup
  | _, _, .nil, _ => List.nodup_nil
  | a :: as, i :: is, .cons h hs, n => by
    obtain ⟨n1, n2⟩ := List.nodup_cons.mp n
    refine List.nodup_cons.mpr ⟨fun m => n1 ?_, mts_nodup ok hs n2⟩
    have : ∀ {as : List Addr} {is : List Nat}, Paired (fun a i => MutAt σ δ i a) as is → a ∈ as → i ∈ is := by
      intro as is p
      induction p with
      | nil => intro m; cases m
      | cons h' t ih =>
        intro m
        rcases List.mem_cons.mp m with e | m
        · subst e
          rw [ok.nd _ _ _ h h']
          exact List.mem_cons_self
        · exact List.mem_cons_of_mem _ (ih m)
    exact this hs m
end
end DL


/-! text DL5 -/
set_option maxHeartbeats 400000
set_option Elab.async false
set_option linter.all false
set_option maxRecDepth 100000
/-! DL5: behind a call; the rule for a call; the rule for a def. -/
namespace DL
open PySem PySem.Spec PyProof.Rows L2
theorem put_isMut (s : Sl) (ds : List D) : (s.put ds).isMut = s.isMut := by cases s <;> rfl
theorem put_isOw (s : Sl) (ds : List D) : (s.put ds).isOw = s.isOw := by cases s <;> rfl
theorem putOuts_len : ∀ {is : List Nat} {os : List (List D)} {δ : Ds}, (putOuts δ is os).length = δ.length
  | [], _, _ => rfl
  | _ :: _, [], _ => rfl
  | i :: is, o :: os, δ => by
    show (putOuts (δ.set i ((δ.at i).put o)) is os).length = _
    rw [putOuts_len, List.length_set]
theorem putOuts_isMut : ∀ {is : List Nat} {os : List (List D)} {δ : Ds} (j : Nat), (Ds.at (putOuts δ is os) j).isMut = (δ.at j).isMut ∧ (Ds.at (putOuts δ is os) j).isOw = (δ.at j).isOw
  | [], _, _, _ => ⟨rfl, rfl⟩
  | _ :: _, [], _, _ => ⟨rfl, rfl⟩
  | i :: is, o :: os, δ, j => by
    obtain ⟨h1, h2⟩ := putOuts_isMut (is := is) (os := os) (δ := δ.set i ((δ.at i).put o)) j
    show (Ds.at (putOuts (δ.set i ((δ.at i).put o)) is os) j).isMut = _ ∧ (Ds.at (putOuts (δ.set i ((δ.at i).put o)) is os) j).isOw = _
    rw [h1, h2, at_set]
    by_cases q : i = j ∧ i < δ.length
    · rw [if_pos q, put_isMut, put_isOw, q.1]
      exact ⟨rfl, rfl⟩
    · rw [if_neg q]
      exact ⟨rfl, rfl⟩
theorem putOuts_off : ∀ {is : List Nat} {os : List (List D)} {δ : Ds} {j : Nat}, j ∉ is → Ds.at (putOuts δ is os) j = δ.at j
  | [], _, _, _, _ => rfl
  | _ :: _, [], _, _, _ => rfl
  | i :: is, o :: os, δ, j, h => by
    show Ds.at (putOuts (δ.set i ((δ.at i).put o)) is os) j = _
    rw [putOuts_off (fun m => h (List.mem_cons_of_mem _ m)), at_set, if_neg]
    rintro ⟨q, _⟩
    subst q
    exact h List.mem_cons_self
theorem putOuts_on : ∀ {is : List Nat} {os : List (List D)} {δ : Ds} {k i : Nat} {o : List D}, is.Nodup → is[k]? = some i → os[k]? = some o → i < δ.length → Ds.at (putOuts δ is os) i = (δ.at i).put o
  | [], _, _, k, i, o, _, h, _, _ => by simp at h
  | _ :: _, [], _, k, i, o, _, _, h, _ => by simp at h
  | i :: is, o :: os, δ, 0, j, p, n, h1, h2, lt => by
    simp at h1 h2
    subst h1 h2
    show Ds.at (putOuts (δ.set i ((δ.at i).put o)) is os) i = _
    rw [putOuts_off (List.nodup_cons.mp n).1, at_set, if_pos ⟨rfl, lt⟩]
  | i :: is, o :: os, δ, k + 1, j, p, n, h1, h2, lt => by
    show Ds.at (putOuts (δ.set i ((δ.at i).put o)) is os) j = _
    have hj : is[k]? = some j := by simpa using h1
    rw [putOuts_on (k := k) (o := p) (List.nodup_cons.mp n).2 hj (by simpa using h2) (by rw [List.length_set]; exact lt), at_set, if_neg]
    rintro ⟨q, _⟩
    subst q
    exact (List.nodup_cons.mp n).1 (List.mem_of_getElem? hj)
theorem paired_get {α β : Type} {G : α → β → Prop} : ∀ {l₁ : List α} {l₂ : List β}, Paired G l₁ l₂ → ∀ {k : Nat} {b : β}, l₂[k]? = some b → ∃ a, l₁[k]? = some a ∧ G a b
  | _, _, .nil, k, b, h => by simp at h
  | _, _, .cons r t, 0, b, h => by
    simp at h
    subst h
    exact ⟨_, rfl, r⟩
  | _, _, .cons r t, k + 1, b, h => by
    obtain ⟨a, h1, h2⟩ := paired_get t (k := k) (b := b) (by simpa using h)
    exact ⟨a, by simpa using h1, h2⟩
theorem paired_getL {α β : Type} {G : α → β → Prop} : ∀ {l₁ : List α} {l₂ : List β}, Paired G l₁ l₂ → ∀ {k : Nat} {a : α}, l₁[k]? = some a → ∃ b, l₂[k]? = some b ∧ G a b
  | _, _, .nil, k, b, h => by simp at h
  | _, _, .cons r t, 0, b, h => by
    simp at h
    subst h
    exact ⟨_, rfl, r⟩
  | _, _, .cons r t, k + 1, b, h => by
    obtain ⟨a, h1, h2⟩ := paired_getL t (k := k) (a := b) (by simpa using h)
    exact ⟨a, by simpa using h1, h2⟩
section
variable {F : Fr} {R R' : Rg} {σ : L2.St} {δ : Ds} {H H' : Hp}
theorem Ok.mutH0 (ok : Ok F R σ δ H) {i : Nat} {a : Addr} (m : MutAt σ δ i a) {o : HO} (h : F.H0 a = some o) : (i, a) ∈ F.B := by
  have hs := ok.sl i
  obtain ⟨m1, m2⟩ := m
  cases z : δ.at i with
  | no => rw [z] at m1; cases m1
  | im d => rw [z] at m1; cases m1
  | ow ds' =>
    rw [z] at hs
    obtain ⟨a', vs', e1', e2', h', n', f'⟩ := hs
    rw [m2] at e1'
    cases e1'
    rw [h] at f'
    cases f'
  | bw ds' =>
    rw [z] at hs
    obtain ⟨a', vs', e1', e2', h', n', f'⟩ := hs
    rw [m2] at e1'
    cases e1'
    exact f'
theorem Ok.back {as : List Addr} {is : List Nat} {outs : List (List D)} (ok : Ok F R σ δ H) (p : Paired (fun a i => MutAt σ δ i a) as is) (n : is.Nodup) (q : Post F.K R H as R' H' outs) :
    Ok F R' σ (putOuts δ is outs) H' ∧ Eff σ R H δ R' H' (putOuts δ is outs) := by
  have inAs : ∀ b, b ∈ as → ∃ (k i : Nat), as[k]? = some b ∧ is[k]? = some i ∧ MutAt σ δ i b := fun b hb => by
    obtain ⟨k, hk⟩ := List.getElem?_of_mem hb
    obtain ⟨i, hi, m⟩ := paired_getL p hk
    exact ⟨k, i, hk, hi, m⟩
  have k : Keeps R H R' H' := ⟨q.sub, fun b o r h => q.keep b o h fun hb => by
    obtain ⟨_, i, _, _, m⟩ := inAs b hb
    exact m.notR ok r⟩
  have nr : ∀ i b, MutAt σ δ i b → ¬ R' b := fun i b m r => (q.new b r).elim (m.notR ok) (m.some ok)
  refine ⟨⟨by rw [putOuts_len]; exact ok.len, fun j => ?_, fun j1 j2 b m1 m2 => ok.nd j1 j2 b ⟨(putOuts_isMut j1).1 ▸ m1.1, m1.2⟩ ⟨(putOuts_isMut j2).1 ▸ m2.1, m2.2⟩, fun b o hb nb => ?_, fun b h => q.there b (ok.there b h), fun b h => q.sub b (ok.sub b h), fun b h => ?_, q.rin, ok.fB⟩,
    ⟨fun b o hb nb => q.keep b o hb fun hm => ?_, q.there, q.sub, fun b h => (q.new b h).imp id .inl, fun j b m => ⟨(putOuts_isMut j).1 ▸ m.1, m.2⟩, fun j b m => ⟨(putOuts_isMut j).2 ▸ m.1, m.2⟩⟩⟩
  · by_cases hj : j ∈ is
    · obtain ⟨kk, hk⟩ := List.getElem?_of_mem hj
      obtain ⟨a, ha, m⟩ := paired_get p hk
      obtain ⟨ds, hd, vs, e1, e2⟩ := paired_getL q.outs ha
      have lt : j < δ.length := at_lt (by
        intro z
        have m1 : (δ.at j).isMut = true := m.1
        rw [z] at m1
        cases m1)
      rw [putOuts_on n hk hd lt]
      have hs := ok.sl j
      obtain ⟨m1, m2⟩ := m
      cases z : δ.at j with
      | no => rw [z] at m1; cases m1
      | im d => rw [z] at m1; cases m1
      | ow ds' =>
        rw [z] at hs
        obtain ⟨a', vs', e1', e2', h', n', f'⟩ := hs
        rw [m2] at e1'
        cases e1'
        exact ⟨a, vs, m2, e1, e2, nr j a ⟨m1, m2⟩, f'⟩
      | bw ds' =>
        rw [z] at hs
        obtain ⟨a', vs', e1', e2', h', n', f'⟩ := hs
        rw [m2] at e1'
        cases e1'
        exact ⟨a, vs, m2, e1, e2, nr j a ⟨m1, m2⟩, f'⟩
    · rw [putOuts_off hj]
      refine (ok.sl j).mono k fun m b eb => ?_
      have mj : MutAt σ δ j b := ⟨m, eb⟩
      have hb : b ∉ as := fun hb => by
        obtain ⟨_, i, _, hi, mi⟩ := inAs b hb
        exact hj (ok.nd j i b mj mi ▸ List.mem_of_getElem? hi)
      refine ⟨?_, nr j b mj⟩
      cases e : H b with
      | none => exact absurd e (mj.some ok)
      | some o => exact q.keep b o e hb
  · refine q.keep b o (ok.keep b o hb nb) fun hm => ?_
    obtain ⟨_, i, _, _, m⟩ := inAs b hm
    exact nb i (ok.mutH0 m hb)
  · rcases q.new b h with h | h
    · exact ok.new b h
    · exact .inr (ok.fresh0 h)
  · obtain ⟨_, i, _, _, m⟩ := inAs b hm
    exact nb i m
theorem RetOk.rv {as : List Addr} {is : List Nat} {outs : List (List D)} (ok : Ok F R σ δ H) (q : Post F.K R H as R' H' outs) {v : V} {rv : Rv} (h : RetOk F.K R' H' H v rv) : RvOk F R' H' σ (putOuts δ is outs) v rv ∧ RvNew σ δ H v rv := by
  cases rv with
  | im d => exact ⟨h, trivial⟩
  | ow ds =>
    obtain ⟨a, vs, rfl, e1, e2, nR, ne⟩ := h
    refine ⟨⟨a, vs, rfl, e1, e2, nR, ok.fresh0 ne, fun i m => ?_⟩, fun b eb => ?_⟩
    · have m' : MutAt σ δ i a := ⟨(putOuts_isMut i).1 ▸ m.1, m.2⟩
      exact m'.some ok ne
    · cases eb
      exact .inl ne
end

/-! ### the rule for a call -/
section
variable {F : Fr} {W : WX} {X : Cx} {e : Expr} {es : List Expr} {pos p : Pos} {x : Str} {k : Nat} {f : Addr} {fd : FuncData} {ps : List Str} {sp : DSp} {t : TM} {CX : CXT}
/-- a call's reading over the heap, from its reading over data -/
theorem call_down {σ : L2.St} {H : Hp} {R : Rg} {δ : Ds} {Qd : Rv → Ds → Prop} {Xq : Xd} {Q : VK} {vs : List V} {ars : List Ar} (ok : Ok F R σ δ H) (hv : Paired (ArOk F R H σ) vs ars) (h : callD sp ars δ Qd Xq)
    (hn : ∀ R' δ' H' v rv, Ok F R' σ δ' H' → Eff σ R H δ R' H' δ' → RvOk F R' H' σ δ' v rv → RvNew σ δ H v rv → Qd rv δ' → Q v H') (hx : XLk F W R σ δ H Xq) : lsp F.K sp vs H Q (WE W σ) := by
  unfold callD at h
  cases q : agsOf δ ars with
  | none => rw [q] at h; exact h.elim
  | some ags =>
    rw [q] at h
    obtain ⟨nd, h⟩ := h
    obtain ⟨h1, h2⟩ := ags_ok ok hv q
    refine ⟨R, ags, _, _, h1, mts_nodup ok h2 nd, ok.rin, h, fun R' H' v rv outs po ret hq => ?_, fun R' H' cls d ex outs po ex' hq => ?_⟩
    · obtain ⟨ok', ef⟩ := ok.back h2 nd po
      obtain ⟨rk, nw⟩ := RetOk.rv (is := arMts ars) ok po ret
      exact hn R' _ H' v rv ok' ef rk nw hq
    · obtain ⟨ok', ef⟩ := ok.back h2 nd po
      exact hx R' _ H' cls d ex ok' ef ex' hq
theorem run_fnG {CX : CXT} {E : XK} {sp : Sp} {pins : List (Addr × Obj)} {σ : L2.St} {H : Hp} {s : Shared} {Q : VK} {us ds : List Value} {vs dvs : List V} (G : FnG X.prog X.w X.K X.mg X.base CX k f fd ps sp) (hr : Room k X.A) (hg : X.A.guards = some []) (hb : Binds X.K fd ps ds) (hd : Vals dvs ds) (hx : PassesAt CX X σ E)
    (I : Inv X pins σ H s) (r : Vals vs us) (h : sp (vs ++ dvs) H Q E) : wpAny (model X.prog X.w) X.A (call (.ref f) us) (EP X pins σ Q) X.xe s := by
  have r2 : Vals (vs ++ dvs) (us ++ ds) := r.append hd
  have hl : (us ++ ds).length = ps.length := by rw [← r2.length]; exact G.len _ _ _ _ h
  refine wpAny_call (codeAny_mono (G.run X.A X.stack s H ⟨us, []⟩ (us ++ ds) (vs ++ dvs) Q E hr hg I.env0 (hb s us I.kIn hl) r2 h) fun r s' hq => ?_)
  cases r with
  | error e => exact hx pins H s e s' I hq
  | ok fl =>
    cases fl with
    | ret u => exact I.after hq
    | next => exact False.elim hq
    | brk => exact False.elim hq
    | cont => exact False.elim hq
theorem pe_callG {sp : Sp} {E : L2.St → XK} {dvs : List V} {ds : List Value} {t : TA} (G : FnG X.prog X.w X.K X.mg X.base CX k f fd ps sp) (hr : Room k X.A) (hgd : X.A.guards = some []) (hg : Gl X x) (hm : X.mg x = some (.ref f)) (hk : PySem.W.keepIn X.K (.ref f) = true) (hb : Binds X.K fd ps ds) (hd : Vals dvs ds) (hx : ∀ σ, PassesAt CX X σ (E σ))
    (ha : PA X (e :: es) t) (hdb : (x == ("__debug__" : Str)) = false := by decide) (he : starEach (e :: es) X.env = (false, eval e X.env) :: starEach es X.env := by rfl) (hpl : (backTo pos (starEach es X.env)).any (·.1) = false := by rfl) :
    PE X (.Call (.Name x p) (e :: es) [] pos) (tCallSD sp dvs E t) := by
  refine ⟨fun pins s σ H Q I h => ?_⟩
  refine wpAny_Call_Name_kw (ld_glob I hg hm ?_ hdb)
  refine PySem.W.callWith_K (h₀ := X.base) I.ok.mod.kin hk (thn (ha.run pos pins s σ H _ I h) fun us s1 ⟨vs, H1, I1, r, q⟩ => ⟨I1.kIn, ?_⟩) he hpl
  exact run_fnG G hr hgd hb hd (hx σ) I1 r q
/-- what is known of a def of the text, for its calls -/
structure Dg (P : Program) (w : World) (K : PySem.W.Frag) (mg : Str → Option Value) (base : Heap) (x : Str) (k : Nat) (ps : List Str) (sp : DSp) : Prop where
  ex : ∃ (f : Addr) (fd : FuncData), FnG P w K mg base (L2N.CX P w) k f fd ps (lsp K sp) ∧ mg x = some (.ref f) ∧ PySem.W.keepIn K (.ref f) = true ∧ Binds K fd ps []
abbrev Df (X : Cx) := Dg X.prog X.w X.K X.mg X.base
/-- f(e, ..) -/
theorem de_call (hK : F.K = X.K) (D : Df X x k ps sp) (hr : Room k X.A) (hgd : X.A.guards = some []) (tk : L2N.Takes X W) (ha : DM F W X (e :: es) t) (hg : Gl X x := by rfl) (hdb : (x == ("__debug__" : Str)) = false := by decide)
    (he : starEach (e :: es) X.env = (false, eval e X.env) :: starEach es X.env := by rfl) (hpl : (backTo pos (starEach es X.env)).any (·.1) = false := by rfl) : DE F W X (.Call (.Name x p) (e :: es) [] pos) (dCall sp t) := by
  obtain ⟨f, fd, G, hm, hk, hb⟩ := D.ex
  refine PE.imp (pe_callG (dvs := []) (ds := []) G hr hgd hg hm hk hb .nil (fun σ => L2N.passAt tk σ) ha hdb he hpl) fun σ H Q ⟨R, δ, Qd, Xq, ok, ht, hn, hx⟩ => ?_
  refine ⟨R, δ, _, Xq, ok, ht, fun R1 δ1 H1 vs ars ok1 ef1 hv h1 => ?_, hx⟩
  show lsp X.K sp (vs ++ []) H1 Q (WE W σ)
  rw [List.append_nil, ← hK]
  refine call_down ok1 hv h1 (fun R' δ' H' v rv ok' ef rk nw q => hn R' δ' H' v rv ok' (ef1.trans ef) rk (ef1.back nw) q) (hx.step ef1)
end

/-! ### the rule for a def -/
def agSl : Ag → Sl
  | .im d => .im d
  | .mt ds => .bw ds
def startD (N : List Str) (ags : List Ag) : Ds := ags.map agSl ++ List.replicate (N.length - ags.length) .no
/-- the changed lists at the end -/
def outsFrom (δ : Ds) : Nat → List Ag → Option (List (List D))
  | _, [] => some []
  | i, .im _ :: r => outsFrom δ (i + 1) r
  | i, .mt _ :: r => match δ.at i with
    | .bw ds => (outsFrom δ (i + 1) r).map (ds :: ·)
    | _ => none
def endD (ags : List Ag) (Qd : Rv → List (List D) → Prop) (Xq : Ex → List (List D) → Prop) : En where
  nx := fun δ => match outsFrom δ 0 ags with
    | some o => Qd (.im .none) o
    | none => False
  rt := fun rv δ => match outsFrom δ 0 ags with
    | some o => Qd rv o
    | none => False
  ex := fun ex δ => match outsFrom δ 0 ags with
    | some o => Xq ex o
    | none => False
def lent : Nat → List V → List Ag → List (Nat × Addr)
  | i, v :: vs, .mt _ :: ags => (i, adr v) :: lent (i + 1) vs ags
  | i, _ :: vs, .im _ :: ags => lent (i + 1) vs ags
  | _, _, _ => []
theorem lent_mts : ∀ {vs : List V} {ags : List Ag} {i : Nat}, (lent i vs ags).map (·.2) = mts vs ags
  | [], [], _ => rfl
  | [], .im _ :: _, _ => rfl
  | [], .mt _ :: _, _ => rfl
  | _ :: _, [], _ => rfl
  | v :: vs, .mt _ :: ags, i => by
    show adr v :: (lent (i + 1) vs ags).map (·.2) = adr v :: mts vs ags
    rw [lent_mts]
  | _ :: vs, .im _ :: ags, i => lent_mts (vs := vs) (ags := ags) (i := i + 1)
theorem lent_mem {b : Addr} : ∀ {vs : List V} {ags : List Ag} {i j : Nat}, (j, b) ∈ lent i vs ags → ∃ m v ds, j = i + m ∧ vs[m]? = some v ∧ ags[m]? = some (.mt ds) ∧ adr v = b
  | [], [], _, _, h => nomatch h
  | [], .im _ :: _, _, _, h => nomatch h
  | [], .mt _ :: _, _, _, h => nomatch h
  | _ :: _, [], _, _, h => nomatch h
  | v :: vs, .mt ds :: ags, i, j, h => by
    rcases List.mem_cons.mp h with e | h
    · cases e
      exact ⟨0, v, ds, rfl, rfl, rfl, rfl⟩
    · obtain ⟨m, v', ds', e, h1, h2, h3⟩ := lent_mem (vs := vs) (ags := ags) h
      exact ⟨m + 1, v', ds', by omega, by simpa using h1, by simpa using h2, h3⟩
  | v :: vs, .im d :: ags, i, j, h => by
    obtain ⟨m, v', ds', e, h1, h2, h3⟩ := lent_mem (vs := vs) (ags := ags) h
    exact ⟨m + 1, v', ds', by omega, by simpa using h1, by simpa using h2, h3⟩
theorem lent_in : ∀ {vs : List V} {ags : List Ag} {i m : Nat} {v : V} {ds : List D}, vs[m]? = some v → ags[m]? = some (.mt ds) → (i + m, adr v) ∈ lent i vs ags
  | [], _, _, _, _, _, h, _ => by simp at h
  | _ :: _, [], _, _, _, _, _, h => by simp at h
  | v :: vs, .mt ds :: ags, i, 0, w, es, h1, h2 => by
    simp at h1
    subst h1
    exact List.mem_cons_self
  | v :: vs, .im d :: ags, i, 0, w, es, h1, h2 => by simp at h2
  | v :: vs, .mt ds :: ags, i, m + 1, w, es, h1, h2 => by
    have := lent_in (vs := vs) (ags := ags) (i := i + 1) (m := m) (v := w) (ds := es) (by simpa using h1) (by simpa using h2)
    rw [show i + (m + 1) = i + 1 + m by omega]
    exact List.mem_cons_of_mem _ this
  | v :: vs, .im d :: ags, i, m + 1, w, es, h1, h2 => by
    have := lent_in (vs := vs) (ags := ags) (i := i + 1) (m := m) (v := w) (ds := es) (by simpa using h1) (by simpa using h2)
    rw [show i + (m + 1) = i + 1 + m by omega]
    exact this
theorem ags_at {K : PySem.W.Frag} {R : Rg} {H : Hp} : ∀ {vs : List V} {ags : List Ag}, Paired (AgOk K R H) vs ags → ∀ {i : Nat} {ag : Ag}, ags[i]? = some ag → ∃ v, vs[i]? = some v ∧ AgOk K R H v ag := fun p => fun {i ag} h => paired_get p h
theorem outsFrom_ok {F : Fr} {R' : Rg} {σ : L2.St} {δ : Ds} {H' : Hp} (ok : Ok F R' σ δ H') : ∀ {vs : List V} {ags : List Ag} {i : Nat} {os : List (List D)}, vs.length = ags.length → (∀ m v ds, vs[m]? = some v → ags[m]? = some (.mt ds) → ∀ b, (i + m, b) ∈ F.B → b = adr v) → outsFrom δ i ags = some os →
    Paired (fun a ds => ∃ vs, H' a = some (.lst vs) ∧ Dvs F.K R' H' vs ds) (mts vs ags) os
  | [], [], _, os, _, _, e => by
    cases e
    exact .nil
  | [], _ :: _, _, _, l, _, _ => by cases l
  | _ :: _, [], _, _, l, _, _ => by cases l
  | v :: vs, .im d :: ags, i, os, l, hb, e => by
    have e' : outsFrom δ (i + 1) ags = some os := e
    exact outsFrom_ok ok (vs := vs) (by simpa using l) (fun m v' ds h1 h2 b hm => hb (m + 1) v' ds (by simpa using h1) (by simpa using h2) b (by rw [show i + (m + 1) = i + 1 + m by omega]; exact hm)) e'
  | v :: vs, .mt d :: ags, i, os, l, hb, e => by
    have e' : (match δ.at i with
      | .bw ds => (outsFrom δ (i + 1) ags).map (ds :: ·)
      | _ => none) = some os := e
    have hs := ok.sl i
    cases q : δ.at i with
    | no => rw [q] at e'; cases e'
    | im d => rw [q] at e'; cases e'
    | ow d => rw [q] at e'; cases e'
    | bw ds =>
      rw [q] at e' hs
      obtain ⟨os', e1, rfl⟩ := Option.map_eq_some_iff.mp e'
      obtain ⟨a, ws, ea, eh, dv, _, mb⟩ := hs
      have := hb 0 v d rfl rfl a (by simpa using mb)
      subst this
      exact .cons ⟨ws, eh, dv⟩ (outsFrom_ok ok (vs := vs) (by simpa using l) (fun m v' ds h1 h2 b hm => hb (m + 1) v' ds (by simpa using h1) (by simpa using h2) b (by rw [show i + (m + 1) = i + 1 + m by omega]; exact hm)) e1)
theorem start_sat {N : List Str} {vs : List V} {i : Nat} : sat (L2.start N vs) i = vs[i]? := by
  unfold sat L2.start
  by_cases h : i < vs.length
  · rw [List.getElem?_append_left (by simpa using h), List.getElem?_map]
    cases vs[i]? <;> rfl
  · rw [List.getElem?_append_right (by simpa using h), List.getElem?_replicate, List.getElem?_eq_none (Nat.le_of_not_lt h)]
    split <;> rfl
theorem start_at {N : List Str} {ags : List Ag} {i : Nat} : Ds.at (startD N ags) i = match ags[i]? with
    | some ag => agSl ag
    | none => .no := by
  unfold Ds.at startD
  rw [List.getD_eq_getElem?_getD]
  by_cases h : i < ags.length
  · rw [List.getElem?_append_left (by simpa using h), List.getElem?_map, List.getElem?_eq_getElem h]
    rfl
  · rw [List.getElem?_append_right (by simpa using h), List.getElem?_replicate, List.getElem?_eq_none (Nat.le_of_not_lt h)]
    split <;> rfl
theorem mts_get {vs : List V} {ags : List Ag} {a : Addr} : ∀ {i j : Nat} {dsi dsj : List D} {vs : List V} {ags : List Ag}, (mts vs ags).Nodup → vs[i]? = some (.ref a) → vs[j]? = some (.ref a) → ags[i]? = some (.mt dsi) → ags[j]? = some (.mt dsj) → i = j := by
  have mem : ∀ {vs : List V} {ags : List Ag} {i : Nat} {ds : List D}, vs[i]? = some (.ref a) → ags[i]? = some (.mt ds) → a ∈ mts vs ags := by
    intro vs
    induction vs with
    | nil => intro ags i ds h _; simp at h
    | cons v vs ih =>
      intro ags i ds h1 h2
      cases ags with
      | nil => simp at h2
      | cons ag ags =>
        cases i with
        | zero =>
          simp at h1 h2
          subst h1 h2
          exact List.mem_cons_self
        | succ i =>
          have := ih (ags := ags) (i := i) (ds := ds) (by simpa using h1) (by simpa using h2)
          cases ag with
          | im d => exact this
          | mt d => exact List.mem_cons_of_mem _ this
  intro i
  induction i with
  | zero =>
    intro j dsi dsj vs ags n h1 h2 h3 h4
    cases j with
    | zero => rfl
    | succ j =>
      cases vs with
      | nil => simp at h1
      | cons v vs =>
        cases ags with
        | nil => simp at h3
        | cons ag ags =>
          simp at h1 h3
          subst h1 h3
          have := mem (vs := vs) (ags := ags) (i := j) (ds := dsj) (by simpa using h2) (by simpa using h4)
          exact absurd this (List.nodup_cons.mp n).1
  | succ i ih =>
    intro j dsi dsj vs ags n h1 h2 h3 h4
    cases vs with
    | nil => simp at h1
    | cons v vs =>
      cases ags with
      | nil => simp at h3
      | cons ag ags =>
        cases j with
        | zero =>
          simp at h2 h4
          subst h2 h4
          have := mem (vs := vs) (ags := ags) (i := i) (ds := dsi) (by simpa using h1) (by simpa using h3)
          exact absurd this (List.nodup_cons.mp n).1
        | succ j =>
          have n' : (mts vs ags).Nodup := by
            cases ag with
            | im d => exact n
            | mt d => exact (List.nodup_cons.mp n).2
          have := ih (j := j) (vs := vs) (ags := ags) n' (by simpa using h1) (by simpa using h2) (by simpa using h3) (by simpa using h4)
          omega
theorem Ok.start {K : PySem.W.Frag} {R : Rg} {H : Hp} {N : List Str} {vs : List V} {ags : List Ag} (p : Paired (AgOk K R H) vs ags) (nd : (mts vs ags).Nodup) (rin : ∀ b, R b → H b ≠ none) (hl : ags.length ≤ N.length) :
    Ok ⟨K, H, R, lent 0 vs ags⟩ R (L2.start N vs) (startD N ags) H := by
  have len := Paired.length p
  refine ⟨?_, fun i => ?_, fun i j a m1 m2 => ?_, fun b o h _ => h, fun b h => h, fun b h => h, fun b h => .inl h, rin, fun i b h => ?_⟩
  · unfold L2.start startD
    rw [List.length_append, List.length_append, List.length_map, List.length_map, List.length_replicate, List.length_replicate, len]
  · rw [start_sat, start_at]
    cases q : ags[i]? with
    | none => trivial
    | some ag =>
      obtain ⟨v, e, h⟩ := paired_get p q
      cases ag with
      | im d => exact ⟨v, e, h⟩
      | mt ds =>
        obtain ⟨a, ws, rfl, nr, eh, dv⟩ := h
        have := lent_in (i := 0) e q
        exact ⟨a, ws, e, eh, dv, nr, by simpa [adr] using this⟩
  · obtain ⟨m1, e1⟩ := m1
    obtain ⟨m2, e2⟩ := m2
    rw [start_at] at m1 m2
    rw [start_sat] at e1 e2
    cases q1 : ags[i]? with
    | none => rw [q1] at m1; cases m1
    | some ag1 =>
      cases q2 : ags[j]? with
      | none => rw [q2] at m2; cases m2
      | some ag2 =>
        rw [q1] at m1
        rw [q2] at m2
        cases ag1 with
        | im d => cases m1
        | mt d1 =>
          cases ag2 with
          | im d => cases m2
          | mt d2 => exact mts_get (vs := vs) (ags := ags) nd e1 e2 q1 q2
  · obtain ⟨m, v, ds, e, h1, h2, h3⟩ := lent_mem h
    obtain ⟨v', e', h'⟩ := paired_get p h2
    rw [h1] at e'
    cases e'
    obtain ⟨a, ws, rfl, nr, eh, _⟩ := h'
    subst h3
    refine ⟨nr, ?_⟩
    show H a ≠ none
    rw [eh]
    simp
/-- what a body's walk may lean on -/
structure Cq (X : Cx) (W : WX) (k : Nat) : Prop where
  hr : Room k X.A
  gd : X.A.guards = some []
  tk : L2N.Takes X W
  po : PassesOwn (model X.prog X.w) X.A X.env X.xe
  calm : X.calm = true
theorem Cq.hu {X : Cx} {W : WX} {k : Nat} (C : Cq X W k) : X.A.units + 64 < cLine := C.hr.units
section
variable {P : Program} {w : World} {K : PySem.W.Frag} {mg : Str → Option Value} {base : Heap} {x qual : Str} {params : Arguments} {body : List Stmt} {scope : Scope} {dvs : List V} {kws : List (Str × V)} {f : Addr} {fd : FuncData}
/-- THE RULE for a def: its body's reading over data -/
theorem okG {N ps : List Str} {k : Nat} {sp : DSp} (F : FunD K x qual params body scope dvs kws f fd) (S : FnScope N ps scope) (len : ∀ ags Q E, sp ags Q E → ags.length = ps.length)
    (hbody : ∀ (cdv : Value) (A : Around) (outer : List Env) (s : Shared) (H : Hp) (E : XK) (R : Rg) (B : List (Nat × Addr)) (ags : List Ag) (Qd : Rv → List (List D) → Prop) (Xq : Ex → List (List D) → Prop),
      Cq (cxOf (L2N.CX P w) P w K mg base N qual scope f cdv A outer s H E) (fun cls d _ H => E cls d H) k → sp ags Qd Xq →
      ∃ t, DSs ⟨K, H, R, B⟩ (fun cls d _ H => E cls d H) (cxOf (L2N.CX P w) P w K mg base N qual scope f cdv A outer s H E) body t ∧ t (endD ags Qd Xq) (startD N ags)) :
    FnG P w K mg base (L2N.CX P w) (k + 1) f fd ps (lsp K sp) := by
  obtain ⟨oc, od, dV, kV, doc, pm, an, cdv, ct, osl, rfl, lk, hcd, _, _⟩ := F.ex
  have hlen : ∀ vs H Q E, lsp K sp vs H Q E → vs.length = ps.length := fun vs H Q E ⟨R, ags, Qd, Xq, p, _, _, h, _⟩ => by rw [Paired.length p]; exact len _ _ _ h
  refine fn_ofG lk hcd S hlen fun A outer s H vs Q E hr hg hsp => ?_
  obtain ⟨R, ags, Qd, Xq, p, nd, rin, h, hq, hx⟩ := hsp
  have hpl : ps.length ≤ N.length := by have := congrArg List.length S.pre; rw [List.length_take] at this; omega
  have ok : Ok ⟨K, H, R, lent 0 vs ags⟩ R (L2.start N vs) (startD N ags) H := Ok.start p nd rin (by rw [len _ _ _ h]; exact hpl)
  obtain ⟨t, ht, hd⟩ := hbody cdv A outer s H E R (lent 0 vs ags) ags Qd Xq ⟨hr, hg, L2N.takes_of rfl rfl rfl rfl, passes_of rfl, rfl⟩ h
  refine ⟨_, ht, R, startD N ags, endD ags Qd Xq, ok, hd, ?_⟩
  have post : ∀ {R' : Rg} {σ' : L2.St} {δ' : Ds} {H' : Hp} {o : List (List D)}, Ok ⟨K, H, R, lent 0 vs ags⟩ R' σ' δ' H' → outsFrom δ' 0 ags = some o → Post K R H (mts vs ags) R' H' o := by
    intro R' σ' δ' H' o ok' e
    refine ⟨fun b u hb nb => ok'.keep b u hb fun i hm => nb ?_, ok'.there, ok'.sub, ok'.new, ok'.rin, outsFrom_ok ok' (Paired.length p) (fun m v ds h1 h2 b hm => ?_) e⟩
    · rw [← lent_mts (i := 0)]
      exact List.mem_map.mpr ⟨(i, b), hm, rfl⟩
    · obtain ⟨m', v', ds', e1, h1', h2', h3'⟩ := lent_mem hm
      have em : m = m' := by omega
      subst em
      rw [h1] at h1'
      cases h1'
      exact h3'.symm
  refine ⟨fun R' σ' δ' H' ok' kp h => ?_, fun R' σ' δ' H' ok' kp h => h, fun R' σ' δ' H' ok' kp h => h, fun R' σ' δ' H' v rv ok' kp rk h => ?_, fun R' σ' δ' H' cls d ex ok' kp ek h => ?_⟩
  · have h' : (match outsFrom δ' 0 ags with
      | some o => Qd (.im .none) o
      | none => False) := h
    cases e : outsFrom δ' 0 ags with
    | none => rw [e] at h'; exact h'.elim
    | some o =>
      rw [e] at h'
      exact hq R' H' .non (.im .none) o (post ok' e) .non h'
  · have h' : (match outsFrom δ' 0 ags with
      | some o => Qd rv o
      | none => False) := h
    cases e : outsFrom δ' 0 ags with
    | none => rw [e] at h'; exact h'.elim
    | some o =>
      rw [e] at h'
      refine hq R' H' v rv o (post ok' e) ?_ h'
      cases rv with
      | im d => exact rk
      | ow ds =>
        obtain ⟨a, ws, e1, e2, e3, e4, e5, _⟩ := rk
        exact ⟨a, ws, e1, e2, e3, e4, e5⟩
  · have h' : (match outsFrom δ' 0 ags with
      | some o => Xq ex o
      | none => False) := h
    cases e : outsFrom δ' 0 ags with
    | none => rw [e] at h'; exact h'.elim
    | some o =>
      rw [e] at h'
      exact hx R' H' cls d ex o (post ok' e) ek h'
end
end DL


/-! text DL6 -/
set_option maxHeartbeats 400000
set_option Elab.async false
set_option linter.all false
set_option maxRecDepth 100000
/-! DL6: statements, loops, comprehensions. -/
namespace DL
open PySem PySem.Spec PyProof.Rows L2

section
variable {F : Fr} {W : WX} {X : Cx} {e a b c : Expr} {st : Stmt} {sts : List Stmt} {pos : Pos}
theorem Lk.step {R R1 : Rg} {H H1 : Hp} {De : En} {D : Ends} (l : Lk F W R H De D) (k : Keeps R H R1 H1) : Lk F W R1 H1 De D :=
  ⟨fun R' σ' δ' H' ok k' q => l.nx R' σ' δ' H' ok (k.trans k') q, fun R' σ' δ' H' ok k' q => l.bk R' σ' δ' H' ok (k.trans k') q, fun R' σ' δ' H' ok k' q => l.ct R' σ' δ' H' ok (k.trans k') q,
   fun R' σ' δ' H' v rv ok k' r q => l.rt R' σ' δ' H' v rv ok (k.trans k') r q, fun R' σ' δ' H' cls d ex ok k' r q => l.ex R' σ' δ' H' cls d ex ok (k.trans k') r q⟩
/-- the exceptions of an expression in a statement -/
theorem Lk.x {R : Rg} {σ : L2.St} {δ : Ds} {H : Hp} {De : En} {D : Ends} (l : Lk F W R H De D) (ok : Ok F R σ δ H) : XLk F W R σ δ H De.ex :=
  fun R' δ' H' cls d ex ok' ef r q => l.ex R' σ δ' H' cls d ex ok' (ef.keeps ok) r q
def dNext : TSd := fun De δ => De.nx δ
def dSeq (t u : TSd) : TSd := fun De δ => t { De with nx := u De } δ
theorem dss_nil : DSs F W X [] dNext := PSs.imp pss_nil fun D σ H ⟨R, δ, De, ok, ht, l⟩ => l.nx R σ δ H ok (Keeps.refl _ _) ht
theorem lk_seq {R : Rg} {H : Hp} {De : En} {D : Ends} {u : TSd} (l : Lk F W R H De D) : Lk F W R H { De with nx := u De } { D with nx := liftS F W u D } :=
  ⟨fun R' σ' δ' H' ok' k q => ⟨R', δ', De, ok', q, l.step k⟩, l.bk, l.ct, l.rt, l.ex⟩
theorem dss_cons {t u : TSd} (h1 : DS F W X st t) (h2 : DSs F W X sts u) : DSs F W X (st :: sts) (dSeq t u) :=
  PSs.imp (pss_cons h1 h2) fun D σ H ⟨R, δ, De, ok, ht, l⟩ => ⟨R, δ, { De with nx := u De }, ok, ht, lk_seq l⟩
theorem dss_one {t : TSd} (h1 : DS F W X st t) : DSs F W X [st] t := pss_one h1
def dBreak : TSd := fun De δ => De.bk δ
def dCont : TSd := fun De δ => De.ct δ
theorem ds_pass : DS F W X (.Pass pos) dNext := PS.imp ps_pass fun D σ H ⟨R, δ, De, ok, ht, l⟩ => l.nx R σ δ H ok (Keeps.refl _ _) ht
theorem ds_break : DS F W X (.Break pos) dBreak := PS.imp ps_break fun D σ H ⟨R, δ, De, ok, ht, l⟩ => l.bk R σ δ H ok (Keeps.refl _ _) ht
theorem ds_cont : DS F W X (.Continue pos) dCont := PS.imp ps_continue fun D σ H ⟨R, δ, De, ok, ht, l⟩ => l.ct R σ δ H ok (Keeps.refl _ _) ht
def dDrop (te : TD) : TSd := fun De δ => te δ (fun _ δ' => De.nx δ') De.ex
theorem ds_expr {te : TD} (he : DE F W X e te) (hs : swapsWith e none pos.line X.env = pure false := by rfl) : DS F W X (.Expr e pos) (dDrop te) :=
  PS.imp (ps_expr he hs) fun D σ H ⟨R, δ, De, ok, ht, l⟩ => ⟨R, δ, _, De.ex, ok, ht, fun R' δ' H' v rv ok' ef _ _ q => l.nx R' σ δ' H' ok' (ef.keeps ok) q, l.x ok⟩
def dRet (te : TD) : TSd := fun De δ => te δ De.rt De.ex
theorem ds_ret {te : TD} (he : DE F W X e te) : DS F W X (.Return (some e) pos) (dRet te) :=
  PS.imp (ps_ret he) fun D σ H ⟨R, δ, De, ok, ht, l⟩ => ⟨R, δ, _, De.ex, ok, ht, fun R' δ' H' v rv ok' ef r _ q => l.rt R' σ δ' H' v rv ok' (ef.keeps ok) r q, l.x ok⟩
def dRetN : TSd := fun De δ => De.rt (.im .none) δ
theorem ds_retN : DS F W X (.Return none pos) dRetN := PS.imp ps_retN fun D σ H ⟨R, δ, De, ok, ht, l⟩ => l.rt R σ δ H .non (.im .none) ok (Keeps.refl _ _) .non ht
def dIf (c : TB) (t u : TSd) : TSd := fun De δ => c δ (fun b δ' => if b = true then t De δ' else u De δ') De.ex
theorem ds_if {x y : List Stmt} {tc : TB} {t u : TSd} (hc : DT F W X c tc) (hx : DSs F W X x t) (hy : DSs F W X y u) : DS F W X (.If c x y pos) (dIf tc t u) := by
  refine PS.imp (ps_if hc hx hy) fun D σ H ⟨R, δ, De, ok, ht, l⟩ => ⟨R, δ, _, De.ex, ok, ht, fun R' δ' H' b ok' ef q => ?_, l.x ok⟩
  cases b with
  | true =>
    rw [if_pos rfl] at q ⊢
    exact ⟨R', δ', De, ok', q, l.step (ef.keeps ok)⟩
  | false =>
    rw [if_neg Bool.false_ne_true] at q ⊢
    exact ⟨R', δ', De, ok', q, l.step (ef.keeps ok)⟩
/-- name = e -/
def dAsg (te : TD) (i : Nat) : TSd := fun De δ => te δ (fun rv δ' => De.nx (δ'.set i rv.sl)) De.ex
theorem asg_down {te : TD} {i : Nat} (D : Ends) (σ : L2.St) (H : Hp) (h : liftS F W (dAsg te i) D σ H) : tAsg (liftE F W te) (gName i) D σ H := by
  obtain ⟨R, δ, De, ok, ht, l⟩ := h
  exact ⟨R, δ, _, De.ex, ok, ht, fun R' δ' H' v rv ok' ef r _ q => l.nx R' _ _ H' (ok'.assign r i) (ef.keeps ok) q, l.x ok⟩
theorem ds_set {i : Nat} {x : Str} {pos' : Pos} {te : TD} (hN : X.N.Nodup) (hi : X.N[i]? = some x) (hx : Loc X.env.scope x) (he : DE F W X e te) (hs : swapsWith e (some (.Name x pos')) pos.line X.env = pure false := by rfl) (hf : X.fn x = true ∨ X.env.scope.names.lookup x = some .local := by first | exact .inl rfl | exact .inr rfl | assumption) :
    DS F W X (.Assign [.Name x pos'] e pos) (dAsg te i) := PS.imp (ps_set hN hi hx he hs hf) asg_down
/-! targets -/
abbrev TGd := D → Ds → (Ds → Prop) → Prop
/-- what a target's store does to the slots: only those at is hold something else, data -/
structure Gs (is : List Nat) (σ : L2.St) (δ : Ds) (σ' : L2.St) (δ' : Ds) : Prop where
  mt : ∀ i a, MutAt σ' δ' i a → MutAt σ δ i a
  ow : ∀ i a, OwAt σ' δ' i a → OwAt σ δ i a
  wp : ∀ vs, (∀ i ∈ is, i ∈ vs) → wipe σ' vs = wipe σ vs
def liftG (F : Fr) (is : List Nat) (g : TGd) : TG := fun v σ H Q => ∃ (R : Rg) (δ : Ds) (d : D) (k : Ds → Prop), Ok F R σ δ H ∧ Dv F.K R H v d ∧ g d δ k ∧ ∀ σ' δ', Ok F R σ' δ' H → Gs is σ δ σ' δ' → k δ' → Q σ' H
def DG (F : Fr) (X : Cx) (tg : Expr) (is : List Nat) (g : TGd) : Prop := PG X tg (liftG F is g)
theorem wipe_sat {σ : L2.St} {j : Nat} : ∀ {vs : List Nat}, sat (wipe σ vs) j = if j ∈ vs then none else sat σ j
  | [] => by simp [wipe]
  | v :: vs => by
    show sat ((wipe σ vs).set v none) j = _
    unfold sat
    rw [List.getElem?_set]
    by_cases h : v = j
    · subst h
      by_cases lt : v < (wipe σ vs).length
      · simp [lt]
      · have lt' : ¬ v < σ.length := by rw [wipe_length] at lt; exact lt
        simp [lt]
    · have ih : sat (wipe σ vs) j = if j ∈ vs then none else sat σ j := wipe_sat
      unfold sat at ih
      simp only [h, if_false, ih, List.mem_cons, show ¬ j = v from fun z => h z.symm, false_or]
theorem wipe_wipe {σ : L2.St} {vs : List Nat} {i : Nat} {v : V} (h : i ∈ vs) : wipe (σ.set i (some v)) vs = wipe σ vs := by
  refine List.ext_getElem? fun j => ?_
  have len : (wipe (σ.set i (some v)) vs).length = (wipe σ vs).length := by rw [wipe_length, wipe_length, List.length_set]
  by_cases lt : j < (wipe σ vs).length
  · have h1 : sat (wipe (σ.set i (some v)) vs) j = sat (wipe σ vs) j := by
      rw [wipe_sat, wipe_sat]
      by_cases hj : j ∈ vs
      · rw [if_pos hj, if_pos hj]
      · rw [if_neg hj, if_neg hj, sat_set, if_neg (fun (z : i = j ∧ i < σ.length) => hj (z.1 ▸ h))]
    unfold sat at h1
    rw [List.getElem?_eq_getElem lt, List.getElem?_eq_getElem (len ▸ lt)] at h1 ⊢
    exact congrArg some h1
  · rw [List.getElem?_eq_none (Nat.le_of_not_lt lt), List.getElem?_eq_none (Nat.le_of_not_lt (len ▸ lt))]
theorem gs_set {σ : L2.St} {δ : Ds} {i : Nat} {v : V} {d : D} (l : σ.length = δ.length) : Gs [i] σ δ (σ.set i (some v)) (δ.set i (.im d)) := by
  refine ⟨fun j a m => ?_, fun j a m => ?_, fun vs h => wipe_wipe (h i (by simp))⟩
  · obtain ⟨m1, m2⟩ := m
    rw [at_set] at m1
    rw [sat_set, l] at m2
    by_cases q : i = j ∧ i < δ.length
    · rw [if_pos q] at m1; cases m1
    · rw [if_neg q] at m1 m2; exact ⟨m1, m2⟩
  · obtain ⟨m1, m2⟩ := m
    rw [at_set] at m1
    rw [sat_set, l] at m2
    by_cases q : i = j ∧ i < δ.length
    · rw [if_pos q] at m1; cases m1
    · rw [if_neg q] at m1 m2; exact ⟨m1, m2⟩
theorem Gs.trans {is js : List Nat} {σ σ1 σ2 : L2.St} {δ δ1 δ2 : Ds} (a : Gs is σ δ σ1 δ1) (b : Gs js σ1 δ1 σ2 δ2) : Gs (is ++ js) σ δ σ2 δ2 :=
  ⟨fun i c m => a.mt i c (b.mt i c m), fun i c m => a.ow i c (b.ow i c m), fun vs h => (b.wp vs fun i hi => h i (List.mem_append_right _ hi)).trans (a.wp vs fun i hi => h i (List.mem_append_left _ hi))⟩
theorem _root_.L2.PG.imp {X : Cx} {tg : Expr} {t t' : TG} (h : PG X tg t) (i : ∀ v σ H Q, t' v σ H Q → t v σ H Q) : PG X tg t' := ⟨fun pins s σ H v u Q I r q => h.run pins s σ H v u Q I r (i v σ H Q q)⟩
def gN (i : Nat) : TGd := fun d δ k => k (δ.set i (.im d))
theorem dg_name {i : Nat} {x : Str} (hN : X.N.Nodup) (hi : X.N[i]? = some x) (hx : Loc X.env.scope x) (hf : X.fn x = true ∨ X.env.scope.names.lookup x = some .local := by first | exact .inl rfl | exact .inr rfl | assumption) : DG F X (.Name x pos) [i] (gN i) :=
  PG.imp (pg_name hN hi hx hf) fun v σ H Q ⟨R, δ, d, k, ok, dv, hg, hk⟩ => hk _ _ (ok.assign (rv := .im d) dv i) (gs_set ok.len) hg
/-- a, b = .. -/
def gN2 (i j : Nat) : TGd := fun d δ k => match d with
  | .tuple [x, y] => k ((δ.set i (.im x)).set j (.im y))
  | _ => False
theorem dvs2 {K : PySem.W.Frag} {R : Rg} {H : Hp} {xs : List V} {d e : D} (h : Dvs K R H xs [d, e]) : ∃ x y, xs = [x, y] ∧ Dv K R H x d ∧ Dv K R H y e := by
  cases h with
  | cons h1 h =>
    cases h with
    | cons h2 h =>
      cases h
      exact ⟨_, _, rfl, h1, h2⟩
theorem dvs3 {K : PySem.W.Frag} {R : Rg} {H : Hp} {xs : List V} {d e f : D} (h : Dvs K R H xs [d, e, f]) : ∃ x y z, xs = [x, y, z] ∧ Dv K R H x d ∧ Dv K R H y e ∧ Dv K R H z f := by
  cases h with
  | cons h1 h =>
    obtain ⟨x, y, rfl, h2, h3⟩ := dvs2 h
    exact ⟨_, _, _, rfl, h1, h2, h3⟩
theorem dg_name2 {i j : Nat} {x y : Str} {p1 p2 : Pos} {k : Nat} (hK : F.K = X.K) (hc : X.calm = true) (hN : X.N.Nodup) (hi : X.N[i]? = some x) (hx : Loc X.env.scope x) (hj : X.N[j]? = some y) (hy : Loc X.env.scope y)
    (hf : X.fn x = true ∨ X.env.scope.names.lookup x = some .local := by first | exact .inl rfl | exact .inr rfl | assumption) (hf2 : X.fn y = true ∨ X.env.scope.names.lookup y = some .local := by first | exact .inl rfl | exact .inr rfl | assumption)
    (hn : (assignEach [.Name x p1, .Name y p2] X.env).length = 2 := by rfl) (hst : (assignEach [.Name x p1, .Name y p2] X.env).findIdx? (·.1) = none := by rfl)
    (hs1 : (assignEach [.Name x p1, .Name y p2] X.env).map (·.2) = assign (.Name x p1) X.env :: (assignEach [.Name y p2] X.env).map (·.2) := by rfl) (hs2 : (assignEach [.Name y p2] X.env).map (·.2) = assign (.Name y p2) X.env :: (assignEach [] X.env).map (·.2) := by rfl) :
    DG F X (.Tuple [.Name x p1, .Name y p2] k pos) [i, j] (gN2 i j) := by
  refine PG.imp (pg_tup hc (pgs_cons (pg_name hN hi hx hf) (pgs_cons (pg_name hN hj hy hf2) pgs_nil hs2) hs1) hn hst) fun v σ H Q ⟨R, δ, d, kk, ok, dv, hg, hk⟩ => ?_
  unfold gN2 at hg
  cases d with
  | tuple ds =>
    match ds, hg, dv with
    | [d1, d2], hg, dv =>
      obtain ⟨a, rfl⟩ := dv.tuple_ref
      obtain ⟨xs, hs, hd⟩ := dv.seqT
      obtain ⟨x1, x2, rfl, h1, h2⟩ := dvs2 hd
      have ok1 := ok.assign (rv := .im d1) h1 i
      have ok2 := ok1.assign (rv := .im d2) h2 j
      exact ⟨a, _, rfl, hK ▸ hs, rfl, x1, [x2], rfl, x2, [], rfl, rfl, hk _ _ ok2 ((gs_set ok.len).trans (gs_set ok1.len)) hg⟩
  | _ => exact hg.elim
def gN3 (i j k : Nat) : TGd := fun d δ q => match d with
  | .tuple [x, y, z] => q (((δ.set i (.im x)).set j (.im y)).set k (.im z))
  | _ => False
theorem dg_name3 {i j l : Nat} {x y z : Str} {p1 p2 p3 : Pos} {k : Nat} (hK : F.K = X.K) (hc : X.calm = true) (hN : X.N.Nodup) (hi : X.N[i]? = some x) (hx : Loc X.env.scope x) (hj : X.N[j]? = some y) (hy : Loc X.env.scope y) (hl : X.N[l]? = some z) (hz : Loc X.env.scope z)
    (hf : X.fn x = true ∨ X.env.scope.names.lookup x = some .local := by first | exact .inl rfl | exact .inr rfl | assumption) (hf2 : X.fn y = true ∨ X.env.scope.names.lookup y = some .local := by first | exact .inl rfl | exact .inr rfl | assumption) (hf3 : X.fn z = true ∨ X.env.scope.names.lookup z = some .local := by first | exact .inl rfl | exact .inr rfl | assumption)
    (hn : (assignEach [.Name x p1, .Name y p2, .Name z p3] X.env).length = 3 := by rfl) (hst : (assignEach [.Name x p1, .Name y p2, .Name z p3] X.env).findIdx? (·.1) = none := by rfl)
    (hs1 : (assignEach [.Name x p1, .Name y p2, .Name z p3] X.env).map (·.2) = assign (.Name x p1) X.env :: (assignEach [.Name y p2, .Name z p3] X.env).map (·.2) := by rfl) (hs2 : (assignEach [.Name y p2, .Name z p3] X.env).map (·.2) = assign (.Name y p2) X.env :: (assignEach [.Name z p3] X.env).map (·.2) := by rfl)
    (hs3 : (assignEach [.Name z p3] X.env).map (·.2) = assign (.Name z p3) X.env :: (assignEach [] X.env).map (·.2) := by rfl) :
    DG F X (.Tuple [.Name x p1, .Name y p2, .Name z p3] k pos) [i, j, l] (gN3 i j l) := by
  refine PG.imp (pg_tup hc (pgs_cons (pg_name hN hi hx hf) (pgs_cons (pg_name hN hj hy hf2) (pgs_cons (pg_name hN hl hz hf3) pgs_nil hs3) hs2) hs1) hn hst) fun v σ H Q ⟨R, δ, d, kk, ok, dv, hg, hk⟩ => ?_
  unfold gN3 at hg
  cases d with
  | tuple ds =>
    match ds, hg, dv with
    | [d1, d2, d3], hg, dv =>
      obtain ⟨a, rfl⟩ := dv.tuple_ref
      obtain ⟨xs, hs, hd⟩ := dv.seqT
      obtain ⟨x1, x2, x3, rfl, h1, h2, h3⟩ := dvs3 hd
      have ok1 := ok.assign (rv := .im d1) h1 i
      have ok2 := ok1.assign (rv := .im d2) h2 j
      have ok3 := ok2.assign (rv := .im d3) h3 l
      exact ⟨a, _, rfl, hK ▸ hs, rfl, x1, _, rfl, x2, _, rfl, x3, [], rfl, rfl, hk _ _ ok3 ((gs_set ok.len).trans ((gs_set ok1.len).trans (gs_set ok2.len))) hg⟩
  | _ => exact hg.elim
/-- target = data -/
def dAsgG (te : TI) (g : TGd) : TSd := fun De δ => te δ (fun d δ' => g d δ' De.nx) De.ex
theorem ds_asg {tg : Expr} {is : List Nat} {te : TI} {g : TGd} (he : DI F W X e te) (hg : DG F X tg is g) (hs : swapsWithSole [tg] e pos.line X.env = pure false := by rfl) (hw : swappedStores [tg] e X.env = pure none := by rfl)
    (h1 : (assignEach [tg] X.env).map (·.2) = [assign tg X.env] := by rfl) : DS F W X (.Assign [tg] e pos) (dAsgG te g) :=
  PS.imp (ps_asg he hg hs hw h1) fun D σ H ⟨R, δ, De, ok, ht, l⟩ => ⟨R, δ, _, De.ex, ok, ht, fun R' δ' H' v d ok' ef dv q => ⟨R', δ', d, De.nx, ok', dv, q, fun σ2 δ2 ok2 _ h2 => l.nx R' σ2 δ2 H' ok2 (ef.keeps ok) h2⟩, l.x ok⟩
/-- a, b = x, y -/
def dPar (i j : Nat) (ta : TL) : TSd := fun De δ => ta δ (fun ds δ' => match ds with
  | [x, y] => De.nx ((δ'.set i (.im x)).set j (.im y))
  | _ => False) De.ex
theorem ds_par {i j : Nat} {x y : Str} {ta : TL} {px py pt : Pos} {kt k2 pt2} (hc : X.calm = true) (hN : X.N.Nodup) (hi : X.N[i]? = some x) (hj : X.N[j]? = some y) (hij : i ≠ j)
    (hx : X.env.scope.names.lookup x = some .local) (hy : X.env.scope.names.lookup y = some .local) (ha : DA F W X [a, b] ta)
    (hw : swappedStores [.Tuple [.Name x px, .Name y py] kt pt] (.Tuple [a, b] k2 pt2) X.env = pure (some [x, y]) := by rfl)
    (hs : swapsWithSole [.Tuple [.Name x px, .Name y py] kt pt] (.Tuple [a, b] k2 pt2) pos.line X.env = pure false := by rfl) :
    DS F W X (.Assign [.Tuple [.Name x px, .Name y py] kt pt] (.Tuple [a, b] k2 pt2) pos) (dPar i j ta) := by
  refine PS.imp (ps_par hc hN hi hj hij hx hy ha hw hs) fun D σ H ⟨R, δ, De, ok, ht, l⟩ => ⟨R, δ, _, De.ex, ok, ht, fun R' δ' H' vs ds ok' ef dv q => ?_, l.x ok⟩
  match ds, q, dv with
  | [d1, d2], q, dv =>
    obtain ⟨x1, x2, rfl, h1, h2⟩ := dvs2 dv
    have ok1 := ok'.assign (rv := .im d1) h1 i
    have ok2 := ok1.assign (rv := .im d2) h2 j
    exact ⟨x1, x2, rfl, l.nx R' _ _ H' ok2 (ef.keeps ok) q⟩
/-- name op= e -/
theorem ds_while_aux : True := trivial
/-- while: a word of the slots with a measure -/
def dWhile (c : TB) (tb : TSd) : TSd := fun De δ => ∃ I : Nat → Ds → Prop, (∃ m, I m δ) ∧ ∀ m δ, I m δ → c δ (fun b δ' => if b = true then tb { De with nx := fun δ2 => ∃ m', m' < m ∧ I m' δ2, ct := fun δ2 => ∃ m', m' < m ∧ I m' δ2, bk := De.nx } δ' else De.nx δ') De.ex
theorem ds_while {tc : TB} {tb : TSd} (hp : PassesOwn (model X.prog X.w) X.A X.env X.xe) (hc : DT F W X c tc) (hb : DSs F W X sts tb) : DS F W X (.While c sts [] pos) (dWhile tc tb) := by
  refine PS.imp (ps_while hp hc hb) fun D σ H ⟨R, δ, De, ok, ht, l⟩ => ?_
  obtain ⟨I, ⟨m0, h0⟩, hI⟩ := ht
  refine ⟨fun m σ' H' => ∃ R' δ', Ok F R' σ' δ' H' ∧ Keeps R H R' H' ∧ I m δ', ⟨m0, R, δ, ok, Keeps.refl _ _, h0⟩, ?_⟩
  rintro m σ1 H1 ⟨R1, δ1, ok1, k1, h1⟩
  refine ⟨R1, δ1, _, De.ex, ok1, hI m δ1 h1, fun R2 δ2 H2 b ok2 ef q => ?_, (l.step k1).x ok1⟩
  have k2 := ef.keeps ok1
  cases b with
  | true =>
    rw [if_pos rfl] at q
    refine iteT ⟨fun σ' H' => ∃ m', m' < m ∧ ∃ R' δ', Ok F R' σ' δ' H' ∧ Keeps R H R' H' ∧ I m' δ', fun σ' H' h => h, R2, δ2, _, ok2, q, ?_⟩
    exact ⟨fun R' σ' δ' H' ok' k' ⟨m', lt, h⟩ => ⟨m', lt, R', δ', ok', (k1.trans k2).trans k', h⟩, fun R' σ' δ' H' ok' k' h => l.nx R' σ' δ' H' ok' ((k1.trans k2).trans k') h,
      fun R' σ' δ' H' ok' k' ⟨m', lt, h⟩ => ⟨m', lt, R', δ', ok', (k1.trans k2).trans k', h⟩, (l.step (k1.trans k2)).rt, (l.step (k1.trans k2)).ex⟩
  | false =>
    rw [if_neg Bool.false_ne_true] at q
    refine iteF ?_
    exact l.nx R2 σ1 δ2 H2 ok2 (k1.trans k2) q

/-! ### what is walked -/
structure Wk (F : Fr) (R0 : Rg) (H0 : Hp) (J : It) (ds : List D) : Prop where
  go : ∀ (i : Nat) (R : Rg) (H : Hp), Keeps R0 H0 R H → i < ds.length → J.go i H
  stop : ∀ (R : Rg) (H : Hp), Keeps R0 H0 R H → J.stop ds.length H
  yld : ∀ (i : Nat) (R : Rg) (H H' : Hp) (x : V) (σ : L2.St) (δ : Ds), Keeps R0 H0 R H → Ok F R σ δ H → i < ds.length → J.yld i H x H' → ∃ R' d, Ok F R' σ δ H' ∧ Eff σ R H δ R' H' δ ∧ ds[i]? = some d ∧ Dv F.K R' H' x d
def DW (F : Fr) (W : WX) (X : Cx) (tg iter : Expr) (src : TL) : Prop := ∃ wi : L2.TI, PI X tg iter wi ∧ ∀ (σ : L2.St) (H : Hp) (R : Rg) (δ : Ds) (Qd : List D → Ds → Prop) (Xq : Xd) (Rw : It → Hp → Prop), Ok F R σ δ H → src δ Qd Xq →
  (∀ R' δ' H' J ds, Ok F R' σ δ' H' → Eff σ R H δ R' H' δ' → Wk F R' H' J ds → Qd ds δ' → Rw J H') → XLk F W R σ δ H Xq → wi σ H Rw
/-- for -/
def dFor (src : TL) (g : TGd) (tb : TSd) : TSd := fun De δ => src δ (fun ds δ1 => ∃ I : Nat → Ds → Prop, I 0 δ1 ∧
  (∀ i d δ2, ds[i]? = some d → I i δ2 → g d δ2 fun δ3 => tb { De with nx := I (i + 1), ct := I (i + 1), bk := De.nx } δ3) ∧ (∀ δ2, I ds.length δ2 → De.nx δ2)) De.ex
theorem ds_for {tg iter : Expr} {is : List Nat} {src : TL} {g : TGd} {tb : TSd} (hp : PassesOwn (model X.prog X.w) X.A X.env X.xe) (hc : X.calm = true) (hi : DW F W X tg iter src) (hg : DG F X tg is g) (hb : DSs F W X sts tb)
    (hs : ∀ x, foldedSetIterable iter X.env x = pure x := by intro _; rfl) : DS F W X (.For tg iter sts [] pos) (dFor src g tb) := by
  obtain ⟨wi, hpi, hw⟩ := hi
  refine PS.imp (ps_for hp hc hpi hg hb hs) fun D σ H ⟨R, δ, De, ok, ht, l⟩ => ?_
  refine hw σ H R δ _ De.ex _ ok ht (fun R1 δ1 H1 J ds ok1 ef1 wk h1 => ?_) (l.x ok)
  obtain ⟨I, h0, hI, hE⟩ := h1
  have k1 := ef1.keeps ok
  refine ⟨fun i m σ' H' => m = ds.length - i ∧ i ≤ ds.length ∧ ∃ R' δ', Ok F R' σ' δ' H' ∧ Keeps R1 H1 R' H' ∧ I i δ', ⟨ds.length, by simp, Nat.zero_le _, R1, δ1, ok1, Keeps.refl _ _, h0⟩, ?_⟩
  rintro i m σ2 H2 ⟨rfl, hle, R2, δ2, ok2, k2, h2⟩
  by_cases lt : i < ds.length
  · refine .inr ⟨wk.go i R2 H2 k2 lt, fun σ' H' => ∃ R' δ', Ok F R' σ' δ' H' ∧ Keeps R1 H1 R' H' ∧ I (i + 1) δ', fun σ' H' h => ⟨ds.length - (i + 1), by omega, rfl, lt, h⟩, fun x H3 hy => ?_⟩
    obtain ⟨R3, d, ok3, ef3, ed, dv⟩ := wk.yld i R2 H2 H3 x σ2 δ2 k2 ok2 lt hy
    have k3 := k2.trans (ef3.keeps ok2)
    refine ⟨R3, δ2, d, _, ok3, dv, hI i d δ2 ed h2, fun σ4 δ4 ok4 _ h4 => ⟨R3, δ4, _, ok4, h4, ?_⟩⟩
    exact ⟨fun R' σ' δ' H' ok' k' h => ⟨R', δ', ok', k3.trans k', h⟩, fun R' σ' δ' H' ok' k' h => l.nx R' σ' δ' H' ok' ((k1.trans k3).trans k') h, fun R' σ' δ' H' ok' k' h => ⟨R', δ', ok', k3.trans k', h⟩,
      (l.step (k1.trans k3)).rt, (l.step (k1.trans k3)).ex⟩
  · have e : i = ds.length := by omega
    subst e
    exact .inl ⟨wk.stop R2 H2 k2, l.nx R2 σ2 δ2 H2 ok2 (k1.trans k2) (hE δ2 h2)⟩
/-- over a list -/
def wL (te : TI) : TL := fun δ Q X => te δ (fun d δ' => match d with
  | .list ds => Q ds δ'
  | _ => False) X
theorem dw_list {tg : Expr} {te : TI} (hK : F.K = X.K) (h : DI F W X e te) : DW F W X tg e (wL te) := by
  refine ⟨_, pi_list h, fun σ H R δ Qd Xq Rw ok hs hq hx => ?_⟩
  refine ⟨R, δ, _, Xq, ok, hs, fun R' δ' H' v d ok' ef dv q => ?_, hx⟩
  cases d with
  | list ds =>
    obtain ⟨a, rfl⟩ := dv.list_ref
    obtain ⟨xs, hsl, hd⟩ := dv.seqL
    refine ⟨a, rfl, ⟨xs, hK ▸ hsl⟩, hq R' δ' H' _ ds ok' ef ?_ q⟩
    refine ⟨fun i R2 H2 k lt => ?_, fun R2 H2 k => ?_, fun i R2 H2 H3 x σ2 δ2 k ok2 lt hy => ?_⟩
    · obtain ⟨xs2, hs2, hd2⟩ := (dv.mono k).seqL
      obtain ⟨v, ev, _⟩ := hd2.get (List.getElem?_eq_getElem lt)
      exact ⟨xs2, v, hK ▸ hs2, ev⟩
    · obtain ⟨xs2, hs2, hd2⟩ := (dv.mono k).seqL
      exact ⟨xs2, hK ▸ hs2, by rw [hd2.length]; exact Nat.le_refl _⟩
    · obtain ⟨xs2, hs2, hd2⟩ := (dv.mono k).seqL
      obtain ⟨rfl, hy⟩ := hy
      obtain ⟨v, ev, dv2⟩ := hd2.get (List.getElem?_eq_getElem lt)
      have := hy xs2 (hK ▸ hs2)
      rw [ev] at this
      cases this
      exact ⟨R2, _, ok2, Eff.refl _ _ _ _, List.getElem?_eq_getElem lt, dv2⟩
  | _ => exact q.elim
/-- over a tuple -/
def wT (te : TI) : TL := fun δ Q X => te δ (fun d δ' => match d with
  | .tuple ds => Q ds δ'
  | _ => False) X
theorem dw_tup {tg : Expr} {te : TI} (hK : F.K = X.K) (h : DI F W X e te) : DW F W X tg e (wT te) := by
  refine ⟨_, pi_tup h, fun σ H R δ Qd Xq Rw ok hs hq hx => ?_⟩
  refine ⟨R, δ, _, Xq, ok, hs, fun R' δ' H' v d ok' ef dv q => ?_, hx⟩
  cases d with
  | tuple ds =>
    obtain ⟨a, rfl⟩ := dv.tuple_ref
    obtain ⟨xs, hsl, hd⟩ := dv.seqT
    refine ⟨a, rfl, ⟨xs, hK ▸ hsl⟩, hq R' δ' H' _ ds ok' ef ?_ q⟩
    refine ⟨fun i R2 H2 k lt => ?_, fun R2 H2 k => ?_, fun i R2 H2 H3 x σ2 δ2 k ok2 lt hy => ?_⟩
    · obtain ⟨xs2, hs2, hd2⟩ := (dv.mono k).seqT
      obtain ⟨v, ev, _⟩ := hd2.get (List.getElem?_eq_getElem lt)
      exact ⟨xs2, v, hK ▸ hs2, ev⟩
    · obtain ⟨xs2, hs2, hd2⟩ := (dv.mono k).seqT
      exact ⟨xs2, hK ▸ hs2, by rw [hd2.length]; exact Nat.le_refl _⟩
    · obtain ⟨xs2, hs2, hd2⟩ := (dv.mono k).seqT
      obtain ⟨rfl, hy⟩ := hy
      obtain ⟨v, ev, dv2⟩ := hd2.get (List.getElem?_eq_getElem lt)
      have := hy xs2 (hK ▸ hs2)
      rw [ev] at this
      cases this
      exact ⟨R2, _, ok2, Eff.refl _ _ _ _, List.getElem?_eq_getElem lt, dv2⟩
  | _ => exact q.elim
/-- over a list or a tuple -/
def seqOf : D → Option (List D)
  | .list ds => some ds
  | .tuple ds => some ds
  | _ => none
end
end DL


/-! text DL7 -/
set_option maxHeartbeats 400000
set_option Elab.async false
set_option linter.all false
set_option maxRecDepth 100000
/-! DL7: what is walked, comprehensions. -/
namespace DL
open PySem PySem.Spec PyProof.Rows L2
section
variable {F : Fr} {W : WX} {X : Cx} {e a b c : Expr} {es : List Expr} {pos p : Pos}
/-! ranges -/
def upTo (lo c : Int) (n : Nat) : List D := (List.range n).map fun i => .int (lo + (i : Nat) * c)
theorem upTo_len {lo c : Int} {n : Nat} : (upTo lo c n).length = n := by unfold upTo; rw [List.length_map, List.length_range]
theorem upTo_get {lo c : Int} {n i : Nat} (h : i < n) : (upTo lo c n)[i]? = some (.int (lo + (i : Nat) * c)) := by
  unfold upTo
  rw [List.getElem?_map, List.getElem?_range h]
  rfl
def inR (i : Int) : Prop := -(2 ^ 62) ≤ i ∧ i < 2 ^ 62
def wR1 (ta : TL) : TL := fun δ Q X => ta δ (fun ds δ' => match ds with
  | [.int n] => inR n ∧ Q (upTo 0 1 n.toNat) δ'
  | _ => False) X
theorem dvs_int1 {K : PySem.W.Frag} {R : Rg} {H : Hp} {xs : List V} {i : Int} (h : Dvs K R H xs [.int i]) : xs = [.int i] := by
  cases h with
  | cons h1 h =>
    cases h
    cases h1
    rfl
theorem dvs1 {K : PySem.W.Frag} {R : Rg} {H : Hp} {xs : List V} {d : D} (h : Dvs K R H xs [d]) : ∃ x, xs = [x] ∧ Dv K R H x d := by
  cases h with
  | cons h1 h =>
    cases h
    exact ⟨_, rfl, h1⟩
theorem dw_range1 {tg : Expr} {ta : TL} (hm : X.mg "range" = none) (ha : DA F W X [a] ta) (hg : Gl X "range" := by rfl) (hs : starEach [a] X.env = [(false, eval a X.env)] := by rfl) : DW F W X tg (.Call (.Name "range" p) [a] [] pos) (wR1 ta) := by
  refine ⟨_, pi_range1 hg hm ha hs, fun σ H R δ Qd Xq Rw ok hsr hq hx => ?_⟩
  refine ⟨R, δ, _, Xq, ok, hsr, fun R' δ' H' vs ds ok' ef dv q => ?_, hx⟩
  match ds, q, dv with
  | [.int n], q, dv =>
    obtain ⟨⟨q1, q2⟩, q⟩ := q
    refine ⟨n, dvs_int1 dv, q1, q2, hq R' δ' H' _ _ ok' ef ⟨fun i R2 H2 k lt => ?_, fun R2 H2 k => ?_, fun i R2 H2 H3 x σ2 δ2 k ok2 lt hy => ?_⟩ q⟩
    · rw [upTo_len] at lt; exact lt
    · rw [upTo_len]; exact Nat.le_refl _
    · rw [upTo_len] at lt
      obtain ⟨rfl, rfl⟩ := hy
      refine ⟨R2, _, ok2, Eff.refl _ _ _ _, upTo_get lt, ?_⟩
      rw [Int.mul_one]
      exact .int _
def wR2 (ta : TL) : TL := fun δ Q X => ta δ (fun ds δ' => match ds with
  | [.int m, .int n] => inR m ∧ inR n ∧ Q (upTo m 1 (n - m).toNat) δ'
  | _ => False) X
theorem dw_range2 {tg : Expr} {ta : TL} (hm : X.mg "range" = none) (ha : DA F W X [a, b] ta) (hg : Gl X "range" := by rfl) (hs : starEach [a, b] X.env = [(false, eval a X.env), (false, eval b X.env)] := by rfl) (hs2 : starEach [b] X.env = [(false, eval b X.env)] := by rfl) : DW F W X tg (.Call (.Name "range" p) [a, b] [] pos) (wR2 ta) := by
  refine ⟨_, pi_range2 hg hm ha hs hs2, fun σ H R δ Qd Xq Rw ok hsr hq hx => ?_⟩
  refine ⟨R, δ, _, Xq, ok, hsr, fun R' δ' H' vs ds ok' ef dv q => ?_, hx⟩
  match ds, q, dv with
  | [.int m, .int n], q, dv =>
    obtain ⟨⟨q1, q2⟩, ⟨q3, q4⟩, q⟩ := q
    obtain ⟨x1, x2, rfl, h1, h2⟩ := dvs2 dv
    cases h1
    cases h2
    refine ⟨m, n, rfl, ⟨q1, q2, q3, q4⟩, hq R' δ' H' _ _ ok' ef ⟨fun i R2 H2 k lt => ?_, fun R2 H2 k => ?_, fun i R2 H2 H3 x σ2 δ2 k ok2 lt hy => ?_⟩ q⟩
    · rw [upTo_len] at lt; exact lt
    · rw [upTo_len]; exact Nat.le_refl _
    · rw [upTo_len] at lt
      obtain ⟨rfl, rfl⟩ := hy
      refine ⟨R2, _, ok2, Eff.refl _ _ _ _, upTo_get lt, ?_⟩
      rw [Int.mul_one]
      exact .int _
def wR3 (ta : TL) : TL := fun δ Q X => ta δ (fun ds δ' => match ds with
  | [.int i, .int j, .int c] => ∃ n, RgC i j c n ∧ Q (upTo i c n) δ'
  | _ => False) X
theorem dw_range3 {tg : Expr} {ta : TL} (hm : X.mg "range" = none) (ha : DA F W X [a, b, c] ta) (hg : Gl X "range" := by rfl)
    (hs : starEach [a, b, c] X.env = (false, eval a X.env) :: starEach [b, c] X.env := by rfl) (hpl : (backTo pos (starEach [b, c] X.env)).any (fun x => x.1) = false := by rfl) :
    DW F W X tg (.Call (.Name "range" p) [a, b, c] [] pos) (wR3 ta) := by
  refine ⟨_, pi_range3 hg hm ha hs hpl, fun σ H R δ Qd Xq Rw ok hsr hq hx => ?_⟩
  refine ⟨R, δ, _, Xq, ok, hsr, fun R' δ' H' vs ds ok' ef dv q => ?_, hx⟩
  match ds, q, dv with
  | [.int i, .int j, .int c], q, dv =>
    obtain ⟨n, q1, q⟩ := q
    obtain ⟨x1, x2, x3, rfl, h1, h2, h3⟩ := dvs3 dv
    cases h1
    cases h2
    cases h3
    refine ⟨i, j, c, n, rfl, q1, hq R' δ' H' _ _ ok' ef ⟨fun i R2 H2 k lt => ?_, fun R2 H2 k => ?_, fun i R2 H2 H3 x σ2 δ2 k ok2 lt hy => ?_⟩ q⟩
    · rw [upTo_len] at lt; exact lt
    · rw [upTo_len]; exact Nat.le_refl _
    · rw [upTo_len] at lt
      obtain ⟨rfl, rfl⟩ := hy
      exact ⟨R2, _, ok2, Eff.refl _ _ _ _, upTo_get lt, .int _⟩
/-! enumerate, zip -/
def pairN : Nat → List D → List D
  | _, [] => []
  | i, d :: ds => .tuple [.int (i : Nat), d] :: pairN (i + 1) ds
theorem pairN_len : ∀ {ds : List D} {i : Nat}, (pairN i ds).length = ds.length
  | [], _ => rfl
  | _ :: ds, i => by show (pairN (i + 1) ds).length + 1 = ds.length + 1; rw [pairN_len]
theorem pairN_get : ∀ {ds : List D} {i j : Nat} {d : D}, ds[j]? = some d → (pairN i ds)[j]? = some (.tuple [.int ((i + j : Nat) : Int), d])
  | [], _, _, _, h => by simp at h
  | x :: ds, i, 0, d, h => by
    simp at h
    subst h
    rfl
  | x :: ds, i, j + 1, d, h => by
    show (pairN (i + 1) ds)[j]? = _
    rw [pairN_get (j := j) (d := d) (by simpa using h), show i + 1 + j = i + (j + 1) by omega]
def wEn (ta : TL) : TL := fun δ Q X => ta δ (fun ds δ' => match ds with
  | [.list xs] => Q (pairN 0 xs) δ'
  | _ => False) X
theorem dw_enum {tpos : Pos} {elts : List Expr} {kk : Nat} {ta : TL} (hK : F.K = X.K) (hm : X.mg "enumerate" = none) (ha : DA F W X [a] ta) (hg : Gl X "enumerate" := by rfl) (hs : starEach [a] X.env = [(false, eval a X.env)] := by rfl) :
    DW F W X (.Tuple elts kk tpos) (.Call (.Name "enumerate" p) [a] [] pos) (wEn ta) := by
  refine ⟨_, pi_enum hg hm ha hs, fun σ H R δ Qd Xq Rw ok hsr hq hx => ?_⟩
  refine ⟨R, δ, _, Xq, ok, hsr, fun R' δ' H' vs ds ok' ef dv q => ?_, hx⟩
  match ds, q, dv with
  | [.list xs], q, dv =>
    obtain ⟨v, rfl, dl⟩ := dvs1 dv
    obtain ⟨ad, rfl⟩ := dl.list_ref
    obtain ⟨ws, hsl, hd⟩ := dl.seqL
    refine ⟨ad, ws, rfl, hK ▸ hsl, hq R' δ' H' _ _ ok' ef ⟨fun i R2 H2 k lt => ?_, fun R2 H2 k => ?_, fun i R2 H2 H3 x σ2 δ2 k ok2 lt hy => ?_⟩ q⟩
    · rw [pairN_len] at lt
      obtain ⟨xs2, hs2, hd2⟩ := (dl.mono k).seqL
      obtain ⟨v, ev, _⟩ := hd2.get (List.getElem?_eq_getElem lt)
      exact ⟨xs2, v, hK ▸ hs2, ev⟩
    · obtain ⟨xs2, hs2, hd2⟩ := (dl.mono k).seqL
      exact ⟨xs2, hK ▸ hs2, by rw [pairN_len, hd2.length]; exact Nat.le_refl _⟩
    · rw [pairN_len] at lt
      obtain ⟨xs2, hs2, hd2⟩ := (dl.mono k).seqL
      obtain ⟨T, y, rfl, hT, rfl, hy⟩ := hy
      obtain ⟨v, ev, dv2⟩ := hd2.get (List.getElem?_eq_getElem lt)
      have := hy xs2 (hK ▸ hs2)
      rw [ev] at this
      cases this
      obtain ⟨ok3, ef3⟩ := ok2.newIm (o := .tup [.int (i : Nat), y]) hT
      have g := pairN_get (i := 0) (List.getElem?_eq_getElem lt)
      rw [Nat.zero_add] at g
      exact ⟨_, _, ok3, ef3, g, Dv.newTup (.cons (.int _) (.cons dv2 .nil)) hT⟩
def zipD : List D → List D → List D
  | x :: xs, y :: ys => .tuple [x, y] :: zipD xs ys
  | _, _ => []
theorem zipD_len : ∀ {xs ys : List D}, (zipD xs ys).length = min xs.length ys.length
  | [], ys => by simp [zipD]
  | _ :: _, [] => by simp [zipD]
  | x :: xs, y :: ys => by
    show (zipD xs ys).length + 1 = _
    rw [zipD_len, List.length_cons, List.length_cons]
    omega
theorem zipD_get : ∀ {xs ys : List D} {i : Nat} {x y : D}, xs[i]? = some x → ys[i]? = some y → (zipD xs ys)[i]? = some (.tuple [x, y])
  | [], _, _, _, _, h, _ => by simp at h
  | _ :: _, [], _, _, _, _, h => by simp at h
  | a :: xs, b :: ys, 0, x, y, h1, h2 => by
    simp at h1 h2
    subst h1 h2
    rfl
  | a :: xs, b :: ys, i + 1, x, y, h1, h2 => by
    show (zipD xs ys)[i]? = _
    exact zipD_get (by simpa using h1) (by simpa using h2)
def wZ (ta : TL) : TL := fun δ Q X => ta δ (fun ds δ' => match ds with
  | [.list xs, .list ys] => Q (zipD xs ys) δ'
  | _ => False) X
theorem dw_zip {tpos : Pos} {elts : List Expr} {kk : Nat} {ta : TL} (hK : F.K = X.K) (hm : X.mg "zip" = none) (ha : DA F W X [a, b] ta) (hg : Gl X "zip" := by rfl) (hs : starEach [a, b] X.env = (false, eval a X.env) :: starEach [b] X.env := by rfl) (hpl : (backTo pos (starEach [b] X.env)).any (·.1) = false := by rfl) :
    DW F W X (.Tuple elts kk tpos) (.Call (.Name "zip" p) [a, b] [] pos) (wZ ta) := by
  refine ⟨_, pi_zip hg hm ha hs hpl, fun σ H R δ Qd Xq Rw ok hsr hq hx => ?_⟩
  refine ⟨R, δ, _, Xq, ok, hsr, fun R' δ' H' vs ds ok' ef dv q => ?_, hx⟩
  match ds, q, dv with
  | [.list xs, .list ys], q, dv =>
    obtain ⟨v, u, rfl, dl, dm⟩ := dvs2 dv
    obtain ⟨ad, rfl⟩ := dl.list_ref
    obtain ⟨bd, rfl⟩ := dm.list_ref
    obtain ⟨ws, hsl, hd⟩ := dl.seqL
    obtain ⟨us, hsm, hdm⟩ := dm.seqL
    refine ⟨ad, bd, ws, us, rfl, hK ▸ hsl, hK ▸ hsm, hq R' δ' H' _ _ ok' ef ⟨fun i R2 H2 k lt => ?_, fun R2 H2 k => ?_, fun i R2 H2 H3 x σ2 δ2 k ok2 lt hy => ?_⟩ q⟩
    · rw [zipD_len] at lt
      obtain ⟨xs2, hs2, hd2⟩ := (dl.mono k).seqL
      obtain ⟨ys2, hs3, hd3⟩ := (dm.mono k).seqL
      obtain ⟨v, ev, _⟩ := hd2.get (List.getElem?_eq_getElem (show i < xs.length by omega))
      obtain ⟨v', ev', _⟩ := hd3.get (List.getElem?_eq_getElem (show i < ys.length by omega))
      exact ⟨xs2, ys2, v, v', hK ▸ hs2, hK ▸ hs3, ev, ev'⟩
    · obtain ⟨xs2, hs2, hd2⟩ := (dl.mono k).seqL
      obtain ⟨ys2, hs3, hd3⟩ := (dm.mono k).seqL
      exact ⟨xs2, ys2, hK ▸ hs2, hK ▸ hs3, by rw [zipD_len, hd2.length, hd3.length]; omega⟩
    · rw [zipD_len] at lt
      obtain ⟨xs2, hs2, hd2⟩ := (dl.mono k).seqL
      obtain ⟨ys2, hs3, hd3⟩ := (dm.mono k).seqL
      obtain ⟨T, y, z, rfl, hT, rfl, hy, hz⟩ := hy
      obtain ⟨v, ev, dv2⟩ := hd2.get (List.getElem?_eq_getElem (show i < xs.length by omega))
      obtain ⟨v', ev', dv3⟩ := hd3.get (List.getElem?_eq_getElem (show i < ys.length by omega))
      have h1 := hy xs2 (hK ▸ hs2)
      rw [ev] at h1
      cases h1
      have h2 := hz ys2 (hK ▸ hs3)
      rw [ev'] at h2
      cases h2
      obtain ⟨ok3, ef3⟩ := ok2.newIm (o := .tup [y, z]) hT
      exact ⟨_, _, ok3, ef3, zipD_get (List.getElem?_eq_getElem (show i < xs.length by omega)) (List.getElem?_eq_getElem (show i < ys.length by omega)), Dv.newTup (.cons dv2 (.cons dv3 .nil)) hT⟩
/-! signs of a text -/
def signsD (x : Str) : List D := x.cps.toList.map fun c => .str ⟨#[c]⟩
theorem signsD_len {x : Str} : (signsD x).length = x.cps.size := by unfold signsD; rw [List.length_map, Array.length_toList]
theorem signsD_get {x : Str} {i : Nat} {c : Nat} (h : x.cps[i]? = some c) : (signsD x)[i]? = some (.str ⟨#[c]⟩) := by
  unfold signsD
  rw [List.getElem?_map, Array.getElem?_toList, h]
  rfl
def wS (te : TI) : TL := fun δ Q X => te δ (fun d δ' => match d with
  | .str x => Q (signsD x) δ'
  | _ => False) X
theorem dw_str {tg : Expr} {te : TI} (h : DI F W X e te) : DW F W X tg e (wS te) := by
  refine ⟨_, pi_str h, fun σ H R δ Qd Xq Rw ok hsr hq hx => ?_⟩
  refine ⟨R, δ, _, Xq, ok, hsr, fun R' δ' H' v d ok' ef dv q => ?_, hx⟩
  cases d with
  | str x =>
    cases dv
    refine ⟨x, rfl, hq R' δ' H' _ _ ok' ef ⟨fun i R2 H2 k lt => ?_, fun R2 H2 k => ?_, fun i R2 H2 H3 x σ2 δ2 k ok2 lt hy => ?_⟩ q⟩
    · rw [signsD_len] at lt; exact lt
    · rw [signsD_len]; exact Nat.le_refl _
    · obtain ⟨rfl, c, hc, rfl⟩ := hy
      exact ⟨R2, _, ok2, Eff.refl _ _ _ _, signsD_get hc, .str _⟩
  | _ => exact q.elim

/-! ### comprehensions -/
def wipeD (δ : Ds) : List Nat → Ds
  | [] => δ
  | v :: vs => (wipeD δ vs).set v .no
/-- behind the block: data stay, an own list of these names is let go -/
def unwipeD (δ0 : Ds) (δ : Ds) : List Nat → Ds
  | [] => δ
  | v :: vs => (unwipeD δ0 δ vs).set v (match δ0.at v with
    | .im d => .im d
    | _ => .no)
theorem wipeD_len (δ : Ds) : ∀ vs, (wipeD δ vs).length = δ.length
  | [] => rfl
  | v :: vs => by unfold wipeD; rw [List.length_set, wipeD_len δ vs]
theorem unwipeD_len (δ0 δ : Ds) : ∀ vs, (unwipeD δ0 δ vs).length = δ.length
  | [] => rfl
  | v :: vs => by unfold unwipeD; rw [List.length_set, unwipeD_len δ0 δ vs]
theorem wipeD_at {δ : Ds} {j : Nat} : ∀ {vs : List Nat}, Ds.at (wipeD δ vs) j = if j ∈ vs then .no else δ.at j
  | [] => by simp [wipeD]
  | v :: vs => by
    show Ds.at ((wipeD δ vs).set v .no) j = _
    rw [at_set, wipeD_at, wipeD_len]
    by_cases h : v = j
    · subst h
      by_cases lt : v < δ.length
      · simp [lt]
      · have : δ.at v = .no := by
          by_cases q : δ.at v = .no
          · exact q
          · exact absurd (at_lt q) lt
        simp [lt, this]
    · simp [h, show ¬ j = v from fun z => h z.symm]
section
variable {R R' : Rg} {σ : L2.St} {δ δ' : Ds} {H H' : Hp}
theorem mut_wipe {vs : List Nat} {i : Nat} {a : Addr} (m : MutAt (wipe σ vs) (wipeD δ vs) i a) : MutAt σ δ i a ∧ i ∉ vs := by
  obtain ⟨m1, m2⟩ := m
  rw [wipeD_at] at m1
  rw [wipe_sat] at m2
  by_cases h : i ∈ vs
  · rw [if_pos h] at m2
    cases m2
  · rw [if_neg h] at m1 m2
    exact ⟨⟨m1, m2⟩, h⟩
theorem ow_wipe {vs : List Nat} {i : Nat} {a : Addr} (m : OwAt (wipe σ vs) (wipeD δ vs) i a) : OwAt σ δ i a := by
  obtain ⟨m1, m2⟩ := m
  rw [wipeD_at] at m1
  rw [wipe_sat] at m2
  by_cases h : i ∈ vs
  · rw [if_pos h] at m2
    cases m2
  · rw [if_neg h] at m1 m2
    exact ⟨m1, m2⟩
theorem Ok.wipe (ok : Ok F R σ δ H) (vs : List Nat) : Ok F R (L2.wipe σ vs) (wipeD δ vs) H := by
  refine ⟨by rw [wipe_length, wipeD_len]; exact ok.len, fun i => ?_, fun i j a m1 m2 => ok.nd i j a (mut_wipe m1).1 (mut_wipe m2).1, ok.keep, ok.there, ok.sub, ok.new, ok.rin, ok.fB⟩
  rw [wipeD_at, wipe_sat]
  by_cases h : i ∈ vs
  · rw [if_pos h, if_pos h]
    trivial
  · rw [if_neg h, if_neg h]
    exact ok.sl i
theorem unwipeD_at {δ0 δ : Ds} {j : Nat} : ∀ {vs : List Nat}, Ds.at (unwipeD δ0 δ vs) j = if j ∈ vs ∧ j < δ.length then (match δ0.at j with
    | .im d => .im d
    | _ => .no) else δ.at j
  | [] => by simp [unwipeD]
  | v :: vs => by
    show Ds.at ((unwipeD δ0 δ vs).set v _) j = _
    rw [at_set, unwipeD_at, unwipeD_len]
    by_cases h : v = j
    · subst h
      by_cases lt : v < δ.length <;> simp [lt]
    · simp [h, show ¬ j = v from fun z => h z.symm]
theorem Ok.unwipe {R1 : Rg} {H1 : Hp} {δ1 : Ds} {vs : List Nat} (ok1 : Ok F R1 σ δ1 H1) (ok : Ok F R' (L2.wipe σ vs) δ' H') (ef : Eff (L2.wipe σ vs) R1 H1 (wipeD δ1 vs) R' H' δ') :
    Ok F R' σ (unwipeD δ1 δ' vs) H' ∧ Eff σ R1 H1 δ1 R' H' (unwipeD δ1 δ' vs) := by
  have k : Keeps R1 H1 R' H' := ef.keeps (ok1.wipe vs)
  have ll : δ'.length = δ1.length := by rw [← ok.len, wipe_length, ok1.len]
  have mu : ∀ i a, MutAt σ (unwipeD δ1 δ' vs) i a → MutAt (L2.wipe σ vs) δ' i a := fun i a m => by
    obtain ⟨m1, m2⟩ := m
    rw [unwipeD_at] at m1
    by_cases h : i ∈ vs ∧ i < δ'.length
    · rw [if_pos h] at m1
      cases q : δ1.at i <;> rw [q] at m1 <;> cases m1
    · rw [if_neg h] at m1
      have lt : i < δ'.length := at_lt fun z => by rw [z] at m1; cases m1
      refine ⟨m1, ?_⟩
      rw [wipe_sat, if_neg fun z => h ⟨z, lt⟩]
      exact m2
  have mo : ∀ i a, OwAt σ (unwipeD δ1 δ' vs) i a → OwAt (L2.wipe σ vs) δ' i a := fun i a m => by
    obtain ⟨m1, m2⟩ := m
    rw [unwipeD_at] at m1
    by_cases h : i ∈ vs ∧ i < δ'.length
    · rw [if_pos h] at m1
      cases q : δ1.at i <;> rw [q] at m1 <;> cases m1
    · rw [if_neg h] at m1
      have lt : i < δ'.length := at_lt fun z => by rw [z] at m1; cases m1
      refine ⟨m1, ?_⟩
      rw [wipe_sat, if_neg fun z => h ⟨z, lt⟩]
      exact m2
  refine ⟨⟨by rw [unwipeD_len, ll]; exact ok1.len, fun i => ?_, fun i j a m1 m2 => ok.nd i j a (mu i a m1) (mu j a m2), ok.keep, ok.there, ok.sub, ok.new, ok.rin, ok.fB⟩,
    ⟨fun b o h n => ef.keep b o h fun i m => n i (mut_wipe m).1, ef.there, ef.sub, fun b h => ?_, fun i a m => (mut_wipe (ef.mt i a (mu i a m))).1, fun i a m => ow_wipe (ef.ow i a (mo i a m))⟩⟩
  · rw [unwipeD_at]
    by_cases h : i ∈ vs ∧ i < δ'.length
    · rw [if_pos h]
      have hs := ok1.sl i
      cases q : δ1.at i with
      | im d =>
        rw [q] at hs
        obtain ⟨v, e, dv⟩ := hs
        exact ⟨v, e, dv.mono k⟩
      | _ => trivial
    · rw [if_neg h]
      by_cases q : δ'.at i = .no
      · rw [q]
        trivial
      · have hs := ok.sl i
        rw [wipe_sat, if_neg fun z => h ⟨z, at_lt q⟩] at hs
        exact hs
  · rcases ef.new b h with h | h | ⟨i, h⟩
    · exact .inl h
    · exact .inr (.inl h)
    · exact .inr (.inr ⟨i, ow_wipe h⟩)
/-- a list that no slot and no region holds is changed -/
theorem Ok.writeOff {D : Addr} {o o' : HO} (ok : Ok F R σ δ H) (hD : H D = some o) (nR : ¬ R D) (n0 : F.H0 D = none) (nm : ∀ i, ¬ MutAt σ δ i D) : Ok F R σ δ (upd H D o') ∧ Keeps R H R (upd H D o') := by
  have k : Keeps R H R (upd H D o') := ⟨fun _ h => h, fun b u r h => by rw [upd_ne (show b ≠ D from fun z => nR (z ▸ r))]; exact h⟩
  have th : ∀ b, H b ≠ none → upd H D o' b ≠ none := fun b h => by
    by_cases q : b = D
    · subst q; rw [upd_same]; simp
    · rw [upd_ne q]; exact h
  refine ⟨⟨ok.len, fun i => (ok.sl i).mono k fun m b e => ?_, ok.nd, fun b u h n => ?_, fun b h => th b (ok.there b h), ok.sub, ok.new, fun b h => th b (ok.rin b h), ok.fB⟩, k⟩
  · have mm : MutAt σ δ i b := ⟨m, e⟩
    exact ⟨upd_ne (show b ≠ D from fun z => nm i (z ▸ mm)), mm.notR ok⟩
  · rw [upd_ne (show b ≠ D from fun z => by rw [z, n0] at h; cases h)]
    exact ok.keep b u h n
end
theorem isOw_isMut {s : Sl} (h : s.isOw = true) : s.isMut = true := by cases s <;> first | rfl | cases h
theorem wipe_idem {σ : L2.St} {vs : List Nat} : wipe (wipe σ vs) vs = wipe σ vs := by
  refine List.ext_getElem? fun j => ?_
  have len : (wipe (wipe σ vs) vs).length = (wipe σ vs).length := by rw [wipe_length]
  by_cases lt : j < (wipe σ vs).length
  · have h1 : sat (wipe (wipe σ vs) vs) j = sat (wipe σ vs) j := by
      rw [wipe_sat]
      by_cases hj : j ∈ vs
      · rw [if_pos hj, wipe_sat, if_pos hj]
      · rw [if_neg hj]
    unfold sat at h1
    rw [List.getElem?_eq_getElem lt, List.getElem?_eq_getElem (len ▸ lt)] at h1 ⊢
    exact congrArg some h1
  · rw [List.getElem?_eq_none (Nat.le_of_not_lt lt), List.getElem?_eq_none (Nat.le_of_not_lt (len ▸ lt))]
def noX : Xd := fun _ _ => False
theorem noX_lk {F : Fr} {R : Rg} {σ : L2.St} {δ : Ds} {H : Hp} {W : WX} : XLk F W R σ δ H noX := fun _ _ _ _ _ _ _ _ _ q => q.elim
def dLc (src : TL) (vs : List Nat) (g : TGd) (tt : TB) (te : TI) : TD := fun δ Q X => src δ (fun ds δ1 => ds.length < sizeLine ∧ ∃ I : Nat → List D → Ds → Prop, I 0 [] (wipeD δ1 vs) ∧
  (∀ i d acc δ2, ds[i]? = some d → I i acc δ2 → g d δ2 fun δ3 => tt δ3 (fun b δ4 => if b = true then te δ4 (fun y δ5 => I (i + 1) (acc ++ [y]) (wipeD δ5 vs)) noX else I (i + 1) acc (wipeD δ4 vs)) noX) ∧
  (∀ acc δ2, I ds.length acc δ2 → Q (.ow acc) (unwipeD δ1 δ2 vs))) X
def W0 : WX := fun _ _ _ _ => False
def liftBs (F : Fr) (W : WX) (X : Cx) (ifs : List Expr) (t : TB) : Prop := PTs X ifs (liftB F W t)
def bYes : TB := fun δ Q _ => Q true δ
theorem dts_nil : liftBs F W X [] bYes := ⟨fun pins s σ H Q I h => by
  obtain ⟨R, δ, Qd, Xq, ok, ht, hn, hx⟩ := h
  exact wpAny_tests_nil ⟨H, I, hn R δ H true ok (Eff.refl _ _ _ _) ht⟩⟩
theorem dts_one {t : TB} (h : DT F W X c t) : liftBs F W X [c] t := pts_one h
theorem lc_down {wi : L2.TI} {src : TL} {is vs : List Nat} {g : TGd} {tt : TB} {te : TI} {tg iter : Expr}
    (hw : ∀ (σ : L2.St) (H : Hp) (R : Rg) (δ : Ds) (Qd : List D → Ds → Prop) (Xq : Xd) (Rw : It → Hp → Prop), Ok F R σ δ H → src δ Qd Xq → (∀ R' δ' H' J ds, Ok F R' σ δ' H' → Eff σ R H δ R' H' δ' → Wk F R' H' J ds → Qd ds δ' → Rw J H') → XLk F W R σ δ H Xq → wi σ H Rw)
    (hv : ∀ i ∈ is, i ∈ vs) {σ : L2.St} {H : Hp} {R : Rg} {δ : Ds} {Qd : Rv → Ds → Prop} {Xq : Xd} {Q : VK} (ok : Ok F R σ δ H) (ht : dLc src vs g tt te δ Qd Xq)
    (hn : ∀ R' δ' H' v rv, Ok F R' σ δ' H' → Eff σ R H δ R' H' δ' → RvOk F R' H' σ δ' v rv → RvNew σ δ H v rv → Qd rv δ' → Q v H') (hx : XLk F W R σ δ H Xq) :
    tLc wi (liftG F is g) (liftB F W0 tt) (liftI F W0 te) vs σ H Q := by
  refine hw σ H R δ _ Xq _ ok ht (fun R1 δ1 H1 J ds ok1 ef1 wk h1 D hD => ?_) hx
  obtain ⟨hz, I, h0, hI, hE⟩ := h1
  have n0 := ok1.fresh0 hD
  obtain ⟨okD, efD, nRD, nmD⟩ := ok1.newOw (o := .lst []) hD
  have kD : Keeps R1 H1 R1 (upd H1 D (.lst [])) := efD.keeps ok1
  refine ⟨fun i m H' => m = ds.length - i ∧ i ≤ ds.length ∧ ∃ R' δ' acc accV, Ok F R' (wipe σ vs) δ' H' ∧ Eff (wipe σ vs) R1 H1 (wipeD δ1 vs) R' H' δ' ∧ H' D = some (.lst accV) ∧ Dvs F.K R' H' accV acc ∧ ¬ R' D ∧ acc.length ≤ i ∧ I i acc δ',
    ⟨ds.length, by simp, Nat.zero_le _, R1, wipeD δ1 vs, [], [], okD.wipe vs, ?_, upd_same, .nil, nRD, Nat.zero_le _, h0⟩, ?_⟩
  · exact ⟨fun b o h _ => by rw [upd_ne (ne_of_none h hD)]; exact h, efD.there, fun _ h => h, fun _ h => .inl h, fun _ _ m => m, fun _ _ m => m⟩
  · rintro i m H2 ⟨rfl, hle, R2, δ2, acc, accV, ok2, ef2, hD2, dva, nR2, hal, h2⟩
    have nm2 : ∀ j, ¬ MutAt (wipe σ vs) δ2 j D := fun j mm => (ef2.mt j D mm).some (ok1.wipe vs) hD
    have k2 : Keeps R1 H1 R2 H2 := ef2.keeps (ok1.wipe vs)
    by_cases lt : i < ds.length
    · refine .inr ⟨wk.go i R2 H2 k2 lt, fun H' => ∃ R' δ' acc accV, Ok F R' (wipe σ vs) δ' H' ∧ Eff (wipe σ vs) R1 H1 (wipeD δ1 vs) R' H' δ' ∧ H' D = some (.lst accV) ∧ Dvs F.K R' H' accV acc ∧ ¬ R' D ∧ acc.length ≤ i + 1 ∧ I (i + 1) acc δ',
        fun H' h => ⟨ds.length - (i + 1), by omega, rfl, lt, h⟩, fun x H3 hy => ?_⟩
      obtain ⟨R3, d, ok3, ef3, ed, dv⟩ := wk.yld i R2 H2 H3 x _ δ2 k2 ok2 lt hy
      have hD3 : H3 D = some (.lst accV) := ef3.keep D _ hD2 nm2
      have nR3 : ¬ R3 D := fun r => by
        rcases ef3.new D r with r | r | ⟨j, r⟩
        · exact nR2 r
        · rw [hD2] at r; cases r
        · obtain ⟨r1, r2⟩ := r
          refine nm2 j ⟨?_, r2⟩
          exact isOw_isMut r1
      refine ⟨R3, δ2, d, _, ok3, dv, hI i d acc δ2 ed h2, fun σ4 δ4 ok4 gs h4 => ⟨(gs.wp vs hv).trans wipe_idem, ?_⟩⟩
      have gwp : wipe σ4 vs = wipe σ vs := (gs.wp vs hv).trans wipe_idem
      have nm4 : ∀ j, ¬ MutAt σ4 δ4 j D := fun j mm => nm2 j (gs.mt j D mm)
      have ef23 := ef2.trans ef3
      -- behind the test and the element: the step from (σ4, δ4) down to the wiped slots
      have down : ∀ {R5 : Rg} {H5 : Hp} {δ5 : Ds}, Ok F R5 σ4 δ5 H5 → Eff σ4 R3 H3 δ4 R5 H5 δ5 → Ok F R5 (wipe σ vs) (wipeD δ5 vs) H5 ∧ Eff (wipe σ vs) R1 H1 (wipeD δ1 vs) R5 H5 (wipeD δ5 vs) ∧ H5 D = some (.lst accV) ∧ ¬ R5 D ∧ Keeps R2 H2 R5 H5 := by
        intro R5 H5 δ5 ok5 ef5
        have ok5' := ok5.wipe vs
        have mw : ∀ j b, MutAt (wipe σ vs) (wipeD δ5 vs) j b → MutAt (wipe σ vs) δ2 j b := fun j b mm => by
          rw [← gwp] at mm
          exact gs.mt j b (ef5.mt j b (mut_wipe mm).1)
        have ow : ∀ j b, OwAt (wipe σ vs) (wipeD δ5 vs) j b → OwAt (wipe σ vs) δ2 j b := fun j b mm => by
          rw [← gwp] at mm
          exact gs.ow j b (ef5.ow j b (ow_wipe mm))
        have e25 : Eff (wipe σ vs) R3 H3 δ2 R5 H5 (wipeD δ5 vs) := ⟨fun b o h n => ef5.keep b o h fun j mm => n j (gs.mt j b mm), ef5.there, ef5.sub, fun b h => by
          rcases ef5.new b h with h | h | ⟨j, h⟩
          · exact .inl h
          · exact .inr (.inl h)
          · exact .inr (.inr ⟨j, gs.ow j b h⟩), mw, ow⟩
        refine ⟨by rw [← gwp]; exact ok5', ef23.trans e25, ef5.keep D _ hD3 nm4, fun r => ?_, (ef3.keeps ok2).trans (e25.keeps ok3)⟩
        rcases ef5.new D r with r | r | ⟨j, r⟩
        · exact nR3 r
        · rw [hD3] at r; cases r
        · obtain ⟨r1, r2⟩ := r
          refine nm4 j ⟨?_, r2⟩
          exact isOw_isMut r1
      refine ⟨R3, δ4, _, noX, ok4, h4, fun R5 δ5 H5 b ok5 ef5 h5 => ?_, noX_lk⟩
      cases b with
      | true =>
        rw [if_pos rfl] at h5
        refine iteT ⟨R5, δ5, _, noX, ok5, h5, fun R6 δ6 H6 y dy ok6 ef6 dv6 h6 => ?_, noX_lk⟩
        obtain ⟨okw, efw, hD6, nR6, k6⟩ := down ok6 (ef5.trans ef6)
        have nm6 : ∀ j, ¬ MutAt (wipe σ vs) (wipeD δ6 vs) j D := fun j mm => (efw.mt j D mm).some (ok1.wipe vs) hD
        obtain ⟨okW, kW⟩ := okw.writeOff (o' := .lst (accV ++ [y])) hD6 nR6 n0 nm6
        refine ⟨accV, hD6, by rw [dva.length]; omega, R6, wipeD δ6 vs, acc ++ [dy], accV ++ [y], okW, ?_, upd_same, ((dva.mono k6).append (.cons dv6 .nil)).mono kW, nR6, by rw [List.length_append]; show acc.length + 1 ≤ i + 1; omega, h6⟩
        exact ⟨fun b o h n => by rw [upd_ne (ne_of_none h hD)]; exact efw.keep b o h n, fun b h => by
          by_cases q : b = D
          · subst q; rw [upd_same]; simp
          · rw [upd_ne q]; exact efw.there b h, efw.sub, efw.new, efw.mt, efw.ow⟩
      | false =>
        rw [if_neg Bool.false_ne_true] at h5
        refine iteF ?_
        obtain ⟨okw, efw, hD6, nR6, k6⟩ := down ok5 ef5
        exact ⟨R5, wipeD δ5 vs, acc, accV, okw, efw, hD6, dva.mono k6, nR6, by omega, h5⟩
    · have e : i = ds.length := by omega
      subst e
      refine .inl ⟨wk.stop R2 H2 k2, ?_⟩
      obtain ⟨oku, efu⟩ := Ok.unwipe ok1 ok2 ef2
      refine hn R2 _ H2 (.ref D) (.ow acc) oku (ef1.trans efu) ⟨D, accV, rfl, hD2, dva, nR2, n0, fun j mm => (efu.mt j D mm).some ok1 hD⟩ (fun b eb => ?_) (hE acc δ2 h2)
      cases eb
      refine .inl ?_
      cases q : H D with
      | none => rfl
      | some o => exact absurd hD (ef1.there D (by rw [q]; simp))
/-- [elt for target in iter if ..] as a value -/
theorem de_lc {elt tg iter : Expr} {ifs : List Expr} {scope : Scope} {own : List (Str × Nat)} {is : List Nat} {src : TL} {g : TGd} {tt : TB} {te : TI} (hc : X.calm = true) (hN : X.N.Nodup) (hi : DW F W X tg iter src) (ok : BlkOk X.N X.env.scope scope own) (hv : ∀ i ∈ is, i ∈ own.map (·.2))
    (hg : ∀ (s : Shared) (H : Hp) (C : Addr) (cl : List (Str × Addr)) (fp : List Addr), DG F (X.blk s H scope (compEnvC scope cl C X.env) fp) tg is g) (ht : ∀ (s : Shared) (H : Hp) (C : Addr) (cl : List (Str × Addr)) (fp : List Addr), liftBs F W0 (X.blk s H scope (compEnvC scope cl C X.env) fp) ifs tt)
    (he : ∀ (s : Shared) (H : Hp) (C : Addr) (cl : List (Str × Addr)) (fp : List Addr), DI F W0 (X.blk s H scope (compEnvC scope cl C X.env) fp) elt te) (hs : ∀ x, foldedSetIterable iter X.env x = pure x := by intro _; rfl) :
    DE F W X (.ListComp elt [⟨tg, iter, ifs, 0⟩] scope pos) (dLc src (own.map (·.2)) g tt te) := by
  obtain ⟨wi, hpi, hw⟩ := hi
  exact PE.imp (pe_lc hc hN hpi ok hg ht he hs) fun σ H Q ⟨R, δ, Qd, Xq, okk, h, hn, hx⟩ => lc_down (tg := tg) (iter := iter) hw hv okk h hn hx
/-- name = [..] -/
theorem ds_setLc {i : Nat} {y : Str} {py : Pos} {elt tg iter : Expr} {ifs : List Expr} {scope : Scope} {own : List (Str × Nat)} {spos : Pos} {is : List Nat} {src : TL} {g : TGd} {tt : TB} {te : TI} (hc : X.calm = true) (hN : X.N.Nodup) (hy : X.N[i]? = some y) (hyl : X.env.scope.names.lookup y = some .local)
    (hsw : swapsWith (.ListComp elt [⟨tg, iter, ifs, 0⟩] scope pos) (some (.Name y py)) spos.line X.env = pure true) (hi : DW F W X tg iter src) (ok : BlkOk X.N X.env.scope scope own) (hv : ∀ i ∈ is, i ∈ own.map (·.2))
    (hg : ∀ (s : Shared) (H : Hp) (C : Addr) (cl : List (Str × Addr)) (fp : List Addr), DG F (X.blk s H scope (compEnvC scope cl C X.env) fp) tg is g) (ht : ∀ (s : Shared) (H : Hp) (C : Addr) (cl : List (Str × Addr)) (fp : List Addr), liftBs F W0 (X.blk s H scope (compEnvC scope cl C X.env) fp) ifs tt)
    (he : ∀ (s : Shared) (H : Hp) (C : Addr) (cl : List (Str × Addr)) (fp : List Addr), DI F W0 (X.blk s H scope (compEnvC scope cl C X.env) fp) elt te) (hs : ∀ x, foldedSetIterable iter X.env x = pure x := by intro _; rfl) :
    DS F W X (.Assign [.Name y py] (.ListComp elt [⟨tg, iter, ifs, 0⟩] scope pos) spos) (dAsg (dLc src (own.map (·.2)) g tt te) i) := by
  obtain ⟨wi, hpi, hw⟩ := hi
  refine PS.imp (ps_setLc hc hN hy hyl hsw hpi ok hg ht he hs) fun D σ H h => ?_
  obtain ⟨R, δ, De, okk, h, l⟩ := h
  exact lc_down (tg := tg) (iter := iter) hw hv okk h (fun R' δ' H' v rv ok' ef r _ q => l.nx R' _ _ H' (ok'.assign r i) (ef.keeps okk) q) (l.x okk)
end
end DL


/-! text DL8 -/
set_option maxHeartbeats 400000
set_option Elab.async false
set_option linter.all false
set_option maxRecDepth 100000
/-! DL8: more expressions: displays, subscripts, built-ins, methods. -/
namespace DL
open PySem PySem.Spec PyProof.Rows L2
section
variable {F : Fr} {W : WX} {X : Cx} {e a b c : Expr} {es : List Expr} {pos p : Pos}
/-! ### a slot's content, read now -/
def Sl.dat? : Sl → Option D
  | .im d => some d
  | .ow ds => some (.list ds)
  | .bw ds => some (.list ds)
  | .no => none
def anyR : Rg := fun _ => True
theorem Dv.any {K : PySem.W.Frag} {R : Rg} {H : Hp} {v : V} {d : D} (h : Dv K R H v d) : Dv K anyR H v d := h.mono ⟨fun _ _ => trivial, fun _ _ _ h => h⟩
theorem Dvs.any {K : PySem.W.Frag} {R : Rg} {H : Hp} {v : List V} {d : List D} (h : Dvs K R H v d) : Dvs K anyR H v d := h.mono ⟨fun _ _ => trivial, fun _ _ _ h => h⟩
section
variable {R : Rg} {σ : L2.St} {δ : Ds} {H : Hp} {i : Nat}
theorem Ok.val (ok : Ok F R σ δ H) (h : (δ.at i).dat?.isSome = true) : ∃ v, sat σ i = some v := by
  have hs := ok.sl i
  cases q : δ.at i with
  | no => rw [q] at h; cases h
  | im d => rw [q] at hs; obtain ⟨v, e, _⟩ := hs; exact ⟨v, e⟩
  | ow d => rw [q] at hs; obtain ⟨v, _, e, _⟩ := hs; exact ⟨_, e⟩
  | bw d => rw [q] at hs; obtain ⟨v, _, e, _⟩ := hs; exact ⟨_, e⟩
theorem Ok.now (ok : Ok F R σ δ H) {d : D} (h : (δ.at i).dat? = some d) {v : V} (ev : sat σ i = some v) : Dv F.K anyR H v d := by
  have hs := ok.sl i
  cases q : δ.at i with
  | no => rw [q] at h; cases h
  | im d' => rw [q] at hs h; cases h; obtain ⟨v', e, dv⟩ := hs; rw [ev] at e; cases e; exact dv.any
  | ow ds => rw [q] at hs h; cases h; obtain ⟨a, vs, e, e2, dv, _⟩ := hs; rw [ev] at e; cases e; exact .lst (.inl ⟨trivial, .inl e2⟩) dv.any
  | bw ds => rw [q] at hs h; cases h; obtain ⟨a, vs, e, e2, dv, _⟩ := hs; rw [ev] at e; cases e; exact .lst (.inl ⟨trivial, .inl e2⟩) dv.any
/-- .. a row whose items are in the region -/
theorem Ok.nowSeq (ok : Ok F R σ δ H) {ds : List D} (h : (δ.at i).dat?.bind seqOf = some ds) {v : V} (ev : sat σ i = some v) : ∃ a ys, v = .ref a ∧ (SqL F.K H a ys ∨ SqT F.K H a ys) ∧ Dvs F.K R H ys ds := by
  have hs := ok.sl i
  cases q : δ.at i with
  | no => rw [q] at h; cases h
  | im d' =>
    rw [q] at hs h
    obtain ⟨v', e, dv⟩ := hs
    rw [ev] at e
    cases e
    cases d' with
    | list es =>
      have h' : some es = some ds := h
      cases h'
      obtain ⟨a, rfl⟩ := dv.list_ref
      obtain ⟨ys, h1, h2⟩ := dv.seqL
      exact ⟨a, ys, rfl, .inl h1, h2⟩
    | tuple es =>
      have h' : some es = some ds := h
      cases h'
      obtain ⟨a, rfl⟩ := dv.tuple_ref
      obtain ⟨ys, h1, h2⟩ := dv.seqT
      exact ⟨a, ys, rfl, .inr h1, h2⟩
    | _ => cases h
  | ow es =>
    rw [q] at hs h
    have h' : some es = some ds := h
    cases h'
    obtain ⟨a, vs, e, e2, dv, _⟩ := hs
    rw [ev] at e
    cases e
    exact ⟨a, vs, rfl, .inl (SqL.of e2), dv⟩
  | bw es =>
    rw [q] at hs h
    have h' : some es = some ds := h
    cases h'
    obtain ⟨a, vs, e, e2, dv, _⟩ := hs
    rw [ev] at e
    cases e
    exact ⟨a, vs, rfl, .inl (SqL.of e2), dv⟩
theorem Dv.seq {K : PySem.W.Frag} {v : V} {d : D} {ds : List D} (dv : Dv K R H v d) (h : seqOf d = some ds) : ∃ a ys, v = .ref a ∧ (SqL K H a ys ∨ SqT K H a ys) ∧ Dvs K R H ys ds := by
  cases d with
  | list es =>
    cases h
    obtain ⟨a, rfl⟩ := dv.list_ref
    obtain ⟨ys, h1, h2⟩ := dv.seqL
    exact ⟨a, ys, rfl, .inl h1, h2⟩
  | tuple es =>
    cases h
    obtain ⟨a, rfl⟩ := dv.tuple_ref
    obtain ⟨ys, h1, h2⟩ := dv.seqT
    exact ⟨a, ys, rfl, .inr h1, h2⟩
  | _ => cases h
end
/-! ### displays -/
def dTup (t : TL) : TI := fun δ Q X => t δ (fun ds δ' => ds.length ≤ sizeLine ∧ Q (.tuple ds) δ') X
theorem di_tup {x1} {t : TL} (h : DA F W X es t) : DI F W X (.Tuple es x1 pos) (dTup t) := by
  refine PE.imp (pe_tup h) fun σ H Q ⟨R, δ, Qd, Xq, ok, ht, hn, hx⟩ => ⟨R, δ, _, Xq, ok, ht, fun R' δ' H' vs ds ok' ef dv ⟨hl, q⟩ => ⟨by rw [dv.length]; exact hl, fun p hp => ?_⟩, hx⟩
  obtain ⟨ok2, ef2⟩ := ok'.newIm (o := .tup vs) hp
  exact hn _ δ' _ _ _ ok2 (ef.trans ef2) (Dv.newTup dv hp) q
def dLst (t : TL) : TD := fun δ Q X => t δ (fun ds δ' => ds.length ≤ sizeLine ∧ Q (.ow ds) δ') X
/-- a new list is one's own -/
theorem new_ow {R Rs : Rg} {σ : L2.St} {δ δs : Ds} {H Hs : Hp} {p : Addr} {vs : List V} {ds : List D} (ok : Ok F R σ δ H) (ef : Eff σ Rs Hs δs R H δ) (hp : H p = none) (dv : Dvs F.K R H vs ds) :
    Ok F R σ δ (upd H p (.lst vs)) ∧ Eff σ Rs Hs δs R (upd H p (.lst vs)) δ ∧ RvOk F R (upd H p (.lst vs)) σ δ (.ref p) (.ow ds) ∧ RvNew σ δs Hs (.ref p) (.ow ds) := by
  obtain ⟨ok2, ef2, nR, nm⟩ := ok.newOw (o := .lst vs) hp
  refine ⟨ok2, ef.trans ef2, ⟨p, vs, rfl, upd_same, dv.mono (Keeps.new hp R fun _ h => h), nR, ok.fresh0 hp, nm⟩, fun b eb => ?_⟩
  cases eb
  refine .inl ?_
  cases q : Hs p with
  | none => rfl
  | some o => exact absurd hp (ef.there p (by rw [q]; simp))
theorem de_lst {t : TL} (h : DA F W X es t) : DE F W X (.List es pos) (dLst t) := by
  refine PE.imp (pe_lst h) fun σ H Q ⟨R, δ, Qd, Xq, ok, ht, hn, hx⟩ => ⟨R, δ, _, Xq, ok, ht, fun R' δ' H' vs ds ok' ef dv ⟨hl, q⟩ => ⟨by rw [dv.length]; exact hl, fun p hp => ?_⟩, hx⟩
  obtain ⟨ok2, ef2, r, nw⟩ := new_ow ok' ef hp dv
  exact hn _ δ' _ _ _ ok2 ef2 r nw q
/-! ### tests -/
def dAnd (t u : TB) : TB := fun δ Q X => t δ (fun c δ' => if c = true then u δ' Q X else Q false δ') X
def dOr (t u : TB) : TB := fun δ Q X => t δ (fun c δ' => if c = true then Q true δ' else u δ' Q X) X
def dNot (t : TB) : TB := fun δ Q X => t δ (fun c δ' => Q (!c) δ') X
def DW' (F : Fr) (W : WX) (X : Cx) (e : Expr) (t : TB) : Prop := PW X e (liftB F W t)
theorem dw_and1 {t : TB} (h : DT F W X a t) : DW' F W X (.BoolOp .And [a] pos) t := pw_and1 h
theorem dw_or1 {t : TB} (h : DT F W X a t) : DW' F W X (.BoolOp .Or [a] pos) t := pw_or1 h
theorem dw_and {t u : TB} (ha : DT F W X a t) (hb : DW' F W X (.BoolOp .And (b :: es) pos) u) : DW' F W X (.BoolOp .And (a :: b :: es) pos) (dAnd t u) := by
  refine PW.imp (pw_and ha hb) fun σ H Q ⟨R, δ, Qd, Xq, ok, ht, hn, hx⟩ => ⟨R, δ, _, Xq, ok, ht, fun R' δ' H' c ok' ef q => ?_, hx⟩
  cases c with
  | true =>
    rw [if_pos rfl] at q
    exact iteT ⟨R', δ', Qd, Xq, ok', q, fun R2 δ2 H2 c2 ok2 ef2 q2 => hn R2 δ2 H2 c2 ok2 (ef.trans ef2) q2, hx.step ef⟩
  | false =>
    rw [if_neg Bool.false_ne_true] at q
    exact iteF (hn R' δ' H' false ok' ef q)
theorem dw_or {t u : TB} (ha : DT F W X a t) (hb : DW' F W X (.BoolOp .Or (b :: es) pos) u) : DW' F W X (.BoolOp .Or (a :: b :: es) pos) (dOr t u) := by
  refine PW.imp (pw_or ha hb) fun σ H Q ⟨R, δ, Qd, Xq, ok, ht, hn, hx⟩ => ⟨R, δ, _, Xq, ok, ht, fun R' δ' H' c ok' ef q => ?_, hx⟩
  cases c with
  | true =>
    rw [if_pos rfl] at q
    exact iteT (hn R' δ' H' true ok' ef q)
  | false =>
    rw [if_neg Bool.false_ne_true] at q
    exact iteF ⟨R', δ', Qd, Xq, ok', q, fun R2 δ2 H2 c2 ok2 ef2 q2 => hn R2 δ2 H2 c2 ok2 (ef.trans ef2) q2, hx.step ef⟩
theorem dt_w {t : TB} (h : DW' F W X e t) : DT F W X e t := PW.pt h
theorem dt_not {t : TB} (h : DT F W X a t) : DT F W X (.UnaryOp .Not a pos) (dNot t) :=
  PT.imp (pt_not h) fun σ H Q ⟨R, δ, Qd, Xq, ok, ht, hn, hx⟩ => ⟨R, δ, _, Xq, ok, ht, fun R' δ' H' c ok' ef q => hn R' δ' H' _ ok' ef q, hx⟩
/-! and, or, not as values: of True and False -/
def dAndV (t u : TI) : TI := fun δ Q X => t δ (fun d δ' => match d with
  | .bool c => if c = true then u δ' Q X else Q (.bool false) δ'
  | _ => False) X
def dOrV (t u : TI) : TI := fun δ Q X => t δ (fun d δ' => match d with
  | .bool c => if c = true then Q (.bool true) δ' else u δ' Q X
  | _ => False) X
def dNotV (t : TI) : TI := fun δ Q X => t δ (fun d δ' => match d with
  | .bool c => Q (.bool (!c)) δ'
  | _ => False) X
theorem di_one {op} {t : TI} (h : DI F W X a t) : DI F W X (.BoolOp op [a] pos) t := pe_one h
theorem di_and {t u : TI} (ha : DI F W X a t) (hb : DI F W X (.BoolOp .And (b :: es) pos) u) : DI F W X (.BoolOp .And (a :: b :: es) pos) (dAndV t u) := by
  refine PE.imp (pe_and ha hb) fun σ H Q ⟨R, δ, Qd, Xq, ok, ht, hn, hx⟩ => ⟨R, δ, _, Xq, ok, ht, fun R' δ' H' v d ok' ef dv q => ?_, hx⟩
  cases d with
  | bool c =>
    cases dv
    refine ⟨c, rfl, ?_⟩
    cases c with
    | true =>
      rw [if_pos rfl]
      have q' : (if true = true then u δ' Qd Xq else Qd (.bool false) δ') := q
      rw [if_pos rfl] at q'
      exact ⟨R', δ', Qd, Xq, ok', q', fun R2 δ2 H2 v2 d2 ok2 ef2 dv2 q2 => hn R2 δ2 H2 v2 d2 ok2 (ef.trans ef2) dv2 q2, hx.step ef⟩
    | false =>
      rw [if_neg Bool.false_ne_true]
      have q' : (if false = true then u δ' Qd Xq else Qd (.bool false) δ') := q
      rw [if_neg Bool.false_ne_true] at q'
      exact hn R' δ' H' _ _ ok' ef (.bl false) q'
  | _ => exact q.elim
theorem di_or {t u : TI} (ha : DI F W X a t) (hb : DI F W X (.BoolOp .Or (b :: es) pos) u) : DI F W X (.BoolOp .Or (a :: b :: es) pos) (dOrV t u) := by
  refine PE.imp (pe_or ha hb) fun σ H Q ⟨R, δ, Qd, Xq, ok, ht, hn, hx⟩ => ⟨R, δ, _, Xq, ok, ht, fun R' δ' H' v d ok' ef dv q => ?_, hx⟩
  cases d with
  | bool c =>
    cases dv
    refine ⟨c, rfl, ?_⟩
    cases c with
    | true =>
      rw [if_pos rfl]
      have q' : (if true = true then Qd (.bool true) δ' else u δ' Qd Xq) := q
      rw [if_pos rfl] at q'
      exact hn R' δ' H' _ _ ok' ef (.bl true) q'
    | false =>
      rw [if_neg Bool.false_ne_true]
      have q' : (if false = true then Qd (.bool true) δ' else u δ' Qd Xq) := q
      rw [if_neg Bool.false_ne_true] at q'
      exact ⟨R', δ', Qd, Xq, ok', q', fun R2 δ2 H2 v2 d2 ok2 ef2 dv2 q2 => hn R2 δ2 H2 v2 d2 ok2 (ef.trans ef2) dv2 q2, hx.step ef⟩
  | _ => exact q.elim
theorem di_not {t : TI} (ha : DI F W X a t) : DI F W X (.UnaryOp .Not a pos) (dNotV t) := by
  refine PE.imp (pe_not ha) fun σ H Q ⟨R, δ, Qd, Xq, ok, ht, hn, hx⟩ => ⟨R, δ, _, Xq, ok, ht, fun R' δ' H' v d ok' ef dv q => ?_, hx⟩
  cases d with
  | bool c =>
    cases dv
    exact ⟨c, rfl, hn R' δ' H' _ _ ok' ef (.bl _) q⟩
  | _ => exact q.elim
def dIfE (c : TB) (t u : TI) : TI := fun δ Q X => c δ (fun b δ' => if b = true then t δ' Q X else u δ' Q X) X
theorem di_if {tc : TB} {t u : TI} (hc : DT F W X c tc) (ha : DI F W X a t) (hb : DI F W X b u) : DI F W X (.IfExp c a b pos) (dIfE tc t u) := by
  refine PE.imp (pe_ifExp hc ha hb) fun σ H Q ⟨R, δ, Qd, Xq, ok, ht, hn, hx⟩ => ⟨R, δ, _, Xq, ok, ht, fun R' δ' H' c ok' ef q => ?_, hx⟩
  cases c with
  | true =>
    rw [if_pos rfl] at q
    exact iteT ⟨R', δ', Qd, Xq, ok', q, fun R2 δ2 H2 v2 d2 ok2 ef2 dv2 q2 => hn R2 δ2 H2 v2 d2 ok2 (ef.trans ef2) dv2 q2, hx.step ef⟩
  | false =>
    rw [if_neg Bool.false_ne_true] at q
    exact iteF ⟨R', δ', Qd, Xq, ok', q, fun R2 δ2 H2 v2 d2 ok2 ef2 dv2 q2 => hn R2 δ2 H2 v2 d2 ok2 (ef.trans ef2) dv2 q2, hx.step ef⟩
/-- the same where a side may hand on an own list -/
def dIfD (c : TB) (t u : TD) : TD := fun δ Q X => c δ (fun b δ' => if b = true then t δ' Q X else u δ' Q X) X
theorem de_if {tc : TB} {t u : TD} (hc : DT F W X c tc) (ha : DE F W X a t) (hb : DE F W X b u) : DE F W X (.IfExp c a b pos) (dIfD tc t u) := by
  refine PE.imp (pe_ifExp hc ha hb) fun σ H Q ⟨R, δ, Qd, Xq, ok, ht, hn, hx⟩ => ⟨R, δ, _, Xq, ok, ht, fun R' δ' H' c ok' ef q => ?_, hx⟩
  cases c with
  | true =>
    rw [if_pos rfl] at q
    exact iteT ⟨R', δ', Qd, Xq, ok', q, fun R2 δ2 H2 v2 d2 ok2 ef2 dv2 nw q2 => hn R2 δ2 H2 v2 d2 ok2 (ef.trans ef2) dv2 (ef.back nw) q2, hx.step ef⟩
  | false =>
    rw [if_neg Bool.false_ne_true] at q
    exact iteF ⟨R', δ', Qd, Xq, ok', q, fun R2 δ2 H2 v2 d2 ok2 ef2 dv2 nw q2 => hn R2 δ2 H2 v2 d2 ok2 (ef.trans ef2) dv2 (ef.back nw) q2, hx.step ef⟩
/-- -a -/
def dNeg (t : TI) : TI := fun δ Q X => t δ (fun d δ' => match d with
  | .int i => Q (.int (-i)) δ'
  | _ => False) X
theorem di_neg {t : TI} (ha : DI F W X a t) : DI F W X (.UnaryOp .USub a pos) (dNeg t) := by
  refine PE.imp (pe_un un_neg ha) fun σ H Q ⟨R, δ, Qd, Xq, ok, ht, hn, hx⟩ => ⟨R, δ, _, Xq, ok, ht, fun R' δ' H' v d ok' ef dv q => ?_, hx⟩
  cases d with
  | int i =>
    cases dv
    exact ⟨i, rfl, hn R' δ' H' _ _ ok' ef (.int _) q⟩
  | _ => exact q.elim
/-! ### built-ins whose answer is flat -/
abbrev RC := List D → (D → Prop) → Prop
def CallD (F : Fr) (X : Cx) (f : Value) (r : RC) : Prop := ∃ r0 : List V → Hp → VK → Prop, CallR X f r0 ∧ ∀ (R : Rg) (H : Hp) (xs : List V) (ds : List D) (k : D → Prop) (Q : VK), Dvs F.K R H xs ds → r ds k → (∀ z v, k z → flat z = some v → Q v H) → r0 xs H Q
def dCB (r : RC) (t : TL) : TI := fun δ Q X => t δ (fun ds δ' => r ds fun z => Q z δ') X
def dCBN (r : RC) (i : Nat) : TI := fun δ Q _ => match (δ.at i).dat? with
  | some d => r [d] fun z => Q z δ
  | none => False
theorem di_cb {x : Str} {id : String} {r : RC} {t : TL} (hc : CallD F X (.builtin id) r) (hm : X.mg x = none) (hv : bootBuiltins x = some (.builtin id)) (ha : DA F W X (e :: es) t) (hg : Gl X x := by rfl) (hn : x ≠ "__name__" := by decide) (hdb : (x == ("__debug__" : Str)) = false := by decide)
    (he : starEach (e :: es) X.env = (false, eval e X.env) :: starEach es X.env := by rfl) (hpl : (backTo pos (starEach es X.env)).any (·.1) = false := by rfl) : DI F W X (.Call (.Name x p) (e :: es) [] pos) (dCB r t) := by
  obtain ⟨r0, h0, hr⟩ := hc
  exact PE.imp (pe_callB h0 hg hm hv ha hn hdb he hpl) fun σ H Q ⟨R, δ, Qd, Xq, ok, ht, hn, hx⟩ => ⟨R, δ, _, Xq, ok, ht, fun R' δ' H' vs ds ok' ef dv q => hr R' H' vs ds _ Q dv q fun z v q ez => hn R' δ' H' v z ok' ef (flat_dv ez) q, hx⟩
theorem di_ct {x : Str} {T : String} {r : RC} {t : TL} (hc : CallD F X (.type T) r) (hm : X.mg x = none) (hv : bootBuiltins x = some (.type T)) (ha : DA F W X (e :: es) t) (hg : Gl X x := by rfl) (hn : x ≠ "__name__" := by decide) (hdb : (x == ("__debug__" : Str)) = false := by decide)
    (he : starEach (e :: es) X.env = (false, eval e X.env) :: starEach es X.env := by rfl) (hpl : (backTo pos (starEach es X.env)).any (·.1) = false := by rfl) : DI F W X (.Call (.Name x p) (e :: es) [] pos) (dCB r t) := by
  obtain ⟨r0, h0, hr⟩ := hc
  exact PE.imp (pe_callTy h0 hg hm hv ha hn hdb he hpl) fun σ H Q ⟨R, δ, Qd, Xq, ok, ht, hn, hx⟩ => ⟨R, δ, _, Xq, ok, ht, fun R' δ' H' vs ds ok' ef dv q => hr R' H' vs ds _ Q dv q fun z v q ez => hn R' δ' H' v z ok' ef (flat_dv ez) q, hx⟩
theorem di_cf {x : Str} {id : String} {r : RC} {t : TL} (hc : CallD F X (.builtin id) r) (hm : X.mg x = some (.builtin id)) (ha : DA F W X (e :: es) t) (hg : Gl X x := by rfl) (hdb : (x == ("__debug__" : Str)) = false := by decide)
    (he : starEach (e :: es) X.env = (false, eval e X.env) :: starEach es X.env := by rfl) (hpl : (backTo pos (starEach es X.env)).any (·.1) = false := by rfl) : DI F W X (.Call (.Name x p) (e :: es) [] pos) (dCB r t) := by
  obtain ⟨r0, h0, hr⟩ := hc
  exact PE.imp (pe_callBfun h0 hg hm ha hdb he hpl) fun σ H Q ⟨R, δ, Qd, Xq, ok, ht, hn, hx⟩ => ⟨R, δ, _, Xq, ok, ht, fun R' δ' H' vs ds ok' ef dv q => hr R' H' vs ds _ Q dv q fun z v q ez => hn R' δ' H' v z ok' ef (flat_dv ez) q, hx⟩
/-- .. of a name, read now -/
theorem di_cbn {x : Str} {id : String} {r : RC} {i : Nat} (hc : CallD F X (.builtin id) r) (hm : X.mg x = none) (hv : bootBuiltins x = some (.builtin id)) (ha : PE X e (tVar i)) (hg : Gl X x := by rfl) (hn : x ≠ "__name__" := by decide) (hdb : (x == ("__debug__" : Str)) = false := by decide)
    (he : starEach (e :: []) X.env = (false, eval e X.env) :: starEach [] X.env := by rfl) (hpl : (backTo pos (starEach [] X.env)).any (·.1) = false := by rfl) : DI F W X (.Call (.Name x p) [e] [] pos) (dCBN r i) := by
  obtain ⟨r0, h0, hr⟩ := hc
  refine PE.imp (pe_callB h0 hg hm hv (pa_cons ha pa_nil he) hn hdb he hpl) fun σ H Q ⟨R, δ, Qd, Xq, ok, ht, hn, hx⟩ => ?_
  unfold dCBN at ht
  cases q : (δ.at i).dat? with
  | none => rw [q] at ht; exact ht.elim
  | some d =>
    rw [q] at ht
    obtain ⟨v, ev⟩ := ok.val (by rw [q]; rfl)
    exact ⟨v, sat_some ev, hr anyR H [v] [d] _ Q (.cons (ok.now q ev) .nil) ht fun z u q2 ez => hn R δ H u z ok (Eff.refl _ _ _ _) (flat_dv ez) q2⟩
/-! the built-ins -/
def rAbs : RC := fun ds k => match ds with
  | [.int i] => k (.int (i.natAbs : Int))
  | _ => False
theorem cd_abs : CallD F X (.builtin "abs") rAbs := by
  refine ⟨_, call_abs, fun R H xs ds k Q dv hr hk => ?_⟩
  match ds, hr, dv with
  | [.int i], hr, dv =>
    refine ⟨i, dvs_int1 dv, hk _ _ hr ?_⟩
    show some (V.int (i.natAbs : Int)) = _
    congr 2
    split <;> omega
def lenD : D → Option Nat
  | .list ds => some ds.length
  | .tuple ds => some ds.length
  | .str x => some x.length
  | _ => none
def rLen : RC := fun ds k => match ds with
  | [.list ds] => k (.int (ds.length : Nat))
  | [.tuple ds] => k (.int (ds.length : Nat))
  | [.str x] => x.length ≤ sizeLine ∧ k (.int (x.length : Nat))
  | _ => False
theorem cd_len (hK : F.K = X.K) : CallD F X (.builtin "len") rLen := by
  refine ⟨_, call_len, fun R H xs ds k Q dv hr hk => ?_⟩
  match ds, hr, dv with
  | [.list es], hr, dv =>
    obtain ⟨v, rfl, d⟩ := dvs1 dv
    obtain ⟨a, rfl⟩ := d.list_ref
    obtain ⟨ys, h1, h2⟩ := d.seqL
    exact ⟨.ref a, es.length, rfl, .inl ⟨ys, hK ▸ h1, h2.length.symm⟩, hk _ _ hr rfl⟩
  | [.tuple es], hr, dv =>
    obtain ⟨v, rfl, d⟩ := dvs1 dv
    obtain ⟨a, rfl⟩ := d.tuple_ref
    obtain ⟨ys, h1, h2⟩ := d.seqT
    exact ⟨.ref a, es.length, rfl, .inr ⟨ys, hK ▸ h1, h2.length.symm⟩, hk _ _ hr rfl⟩
  | [.str x], hr, dv =>
    obtain ⟨v, rfl, d⟩ := dvs1 dv
    cases d
    exact ⟨.str x, x.length, rfl, ⟨hr.1, rfl⟩, hk _ _ hr.2 rfl⟩
def rMax2 : RC := fun ds k => match ds with
  | [.int i, .int j] => k (.int (if j > i then j else i))
  | _ => False
theorem cd_max2 (hc : X.calm = true) : CallD F X (.builtin "max") rMax2 := by
  refine ⟨_, call_max2 hc, fun R H xs ds k Q dv hr hk => ?_⟩
  match ds, hr, dv with
  | [.int i, .int j], hr, dv =>
    obtain ⟨x, y, rfl, h1, h2⟩ := dvs2 dv
    cases h1
    cases h2
    exact ⟨i, j, rfl, hk _ _ hr rfl⟩
def rMin2 : RC := fun ds k => match ds with
  | [.int i, .int j] => k (.int (if j < i then j else i))
  | _ => False
theorem cd_min2 (hc : X.calm = true) : CallD F X (.builtin "min") rMin2 := by
  refine ⟨_, call_min2 hc, fun R H xs ds k Q dv hr hk => ?_⟩
  match ds, hr, dv with
  | [.int i, .int j], hr, dv =>
    obtain ⟨x, y, rfl, h1, h2⟩ := dvs2 dv
    cases h1
    cases h2
    exact ⟨i, j, rfl, hk _ _ hr rfl⟩
def rInt : RC := fun ds k => match ds with
  | [.int i] => k (.int i)
  | [.bool b] => k (.int (if b then 1 else 0))
  | [.str x] => ∃ n, PySem.intText? x = some n ∧ x.length ≤ 640 ∧ k (.int n)
  | _ => False
theorem CallR.or {f : Value} {r r' : List V → Hp → VK → Prop} (h : CallR X f r) (h' : CallR X f r') : CallR X f (fun xs H Q => r xs H Q ∨ r' xs H Q) := by
  intro pins s σ H xs us Q I rr q
  rcases q with q | q
  · exact h pins s σ H xs us Q I rr q
  · exact h' pins s σ H xs us Q I rr q
theorem cd_int : CallD F X (.type "int") rInt := by
  refine ⟨_, CallR.or call_int1 call_int_str, fun R H xs ds k Q dv hr hk => ?_⟩
  match ds, hr, dv with
  | [.int i], hr, dv => exact .inl (.inl ⟨i, dvs_int1 dv, hk _ _ hr rfl⟩)
  | [.bool b], hr, dv =>
    obtain ⟨v, rfl, d⟩ := dvs1 dv
    cases d
    exact .inl (.inr ⟨b, rfl, hk _ _ hr rfl⟩)
  | [.str x], hr, dv =>
    obtain ⟨v, rfl, d⟩ := dvs1 dv
    cases d
    obtain ⟨n, h1, h2, h3⟩ := hr
    exact .inr ⟨x, n, rfl, h1, h2, hk _ _ h3 rfl⟩
def rGcdD : RC := fun ds k => match ds with
  | [.int i, .int j] => k (.int ((Nat.gcd i.natAbs j.natAbs : Nat) : Int))
  | _ => False
theorem cd_gcd : CallD F X (.builtin "math.gcd") rGcdD := by
  refine ⟨_, cr_gcd, fun R H xs ds k Q dv hr hk => ?_⟩
  match ds, hr, dv with
  | [.int i, .int j], hr, dv =>
    obtain ⟨x, y, rfl, h1, h2⟩ := dvs2 dv
    cases h1
    cases h2
    exact ⟨i, j, rfl, hk _ _ hr rfl⟩
/-- sum of a list of ints -/
def intsOf : List D → Option (List Int)
  | [] => some []
  | .int i :: r => (intsOf r).map (i :: ·)
  | _ :: _ => none
theorem intsOf_map {ds : List D} : ∀ {ns : List Int}, intsOf ds = some ns → ds = ns.map PyData.int := by
  induction ds with
  | nil => intro ns h; cases h; rfl
  | cons d ds ih =>
    intro ns h
    cases d with
    | int i =>
      have h' : (intsOf ds).map (i :: ·) = some ns := h
      obtain ⟨ms, e, rfl⟩ := Option.map_eq_some_iff.mp h'
      rw [ih e]
      rfl
    | _ => cases h
theorem intsOf_ints (ns : List Int) : intsOf (ns.map PyData.int) = some ns := by
  induction ns with
  | nil => rfl
  | cons n r ih =>
    show (intsOf (r.map PyData.int)).map (n :: ·) = _
    rw [ih]
    rfl
theorem dvs_ints {K : PySem.W.Frag} {R : Rg} {H : Hp} : ∀ {ns : List Int} {xs : List V}, Dvs K R H xs (ns.map PyData.int) → xs = ns.map V.int
  | [], xs, h => by cases h; rfl
  | n :: ns, xs, h => by
    cases h with
    | cons h1 h2 =>
      cases h1
      rw [dvs_ints h2]
      rfl
def rSumD : RC := fun ds k => match ds with
  | [.list es] => ∃ ns, intsOf es = some ns ∧ k (.int ns.sum)
  | _ => False
theorem cd_sum (hK : F.K = X.K) (hc : X.calm = true) : CallD F X (.builtin "sum") rSumD := by
  refine ⟨_, cr_sum hc, fun R H xs ds k Q dv hr hk => ?_⟩
  match ds, hr, dv with
  | [.list es], hr, dv =>
    obtain ⟨v, rfl, d⟩ := dvs1 dv
    obtain ⟨a, rfl⟩ := d.list_ref
    obtain ⟨ys, h1, h2⟩ := d.seqL
    obtain ⟨ns, en, hr⟩ := hr
    rw [intsOf_map en] at h2
    rw [dvs_ints h2] at h1
    exact ⟨a, ns, rfl, hK ▸ h1, hk _ _ hr rfl⟩
end
end DL


/-! text DL9 -/
set_option maxHeartbeats 400000
set_option Elab.async false
set_option linter.all false
set_option maxRecDepth 100000
/-! DL9: str, isinstance, list, tuple, divmod, subscripts, slices, methods, stores. -/
namespace DL
open PySem PySem.Spec PyProof.Rows L2
section
variable {F : Fr} {W : WX} {X : Cx} {e a b c : Expr} {es : List Expr} {pos p : Pos}
/-! str -/
def rStr : RC := fun ds k => match ds with
  | [.int i] => i.natAbs < 2 ^ 1919 ∧ k (.str (toString i))
  | [.str x] => k (.str x)
  | _ => False
theorem cd_str : CallD F X (.type "str") rStr := by
  refine ⟨_, CallR.or call_str_int SkE.call_str_str, fun R H xs ds k Q dv hr hk => ?_⟩
  match ds, hr, dv with
  | [.int i], hr, dv => exact .inl ⟨i, dvs_int1 dv, Nat.lt_of_lt_of_le (PySem.Flt.log2_lt_of (by decide) hr.1) (by decide), hk _ _ hr.2 rfl⟩
  | [.str x], hr, dv =>
    obtain ⟨v, rfl, d⟩ := dvs1 dv
    cases d
    exact .inr ⟨x, rfl, hk _ _ hr rfl⟩
/-! isinstance -/
def tyD : D → String
  | .none => "NoneType"
  | .bool _ => "bool"
  | .int _ => "int"
  | .str _ => "str"
  | .list _ => "list"
  | .tuple _ => "tuple"
  | .dict _ => "dict"
theorem tyD_x {K : PySem.W.Frag} {R : Rg} {H : Hp} {v : V} {d : D} (h : Dv K R H v d) : TyX K H v (.type (tyD d)) := by
  cases h with
  | non => exact .base .non
  | bl b => exact .base (.bl b)
  | int i => exact .base (.int i)
  | str x => exact .base (.str x)
  | lst h hs =>
    rcases h with ⟨_, h | ⟨o, h⟩⟩ | ⟨o, its, n, h1, h2, _⟩
    · exact .base (.lst h)
    · exact .base (.frz h)
    · exact .kList h1 h2
  | tup h hs =>
    rcases h with ⟨_, h | ⟨o, h⟩⟩ | ⟨o, its, n, h1, h2, _⟩
    · exact .base (.tup h)
    · exact .fTuple h
    · exact .kTuple h1 h2
  | emp _ h => exact .base (.dK h)
/-- isinstance(e, T), T the name of a built-in class -/
def dIsi (T : String) (t : TI) : TI := fun δ Q X => t δ (fun d δ' => ∃ b, kitB (tyD d) T = some b ∧ Q (.bool b) δ') X
theorem di_isi {T : Str} {Tn : String} {p1 p2 : Pos} {t : TI} (hK : F.K = X.K) (hm : X.mg "isinstance" = none) (hm2 : X.mg T = none) (hv : bootBuiltins T = some (.type Tn)) (h : DI F W X e t) (hg : Gl X "isinstance" := by rfl) (hg2 : Gl X T := by rfl)
    (hn : T ≠ "__name__" := by decide) (hd : (T == ("__debug__" : Str)) = false := by decide)
    (hs1 : starEach [e, .Name T p2] X.env = (false, eval e X.env) :: starEach [.Name T p2] X.env := by rfl) (hs2 : starEach [.Name T p2] X.env = (false, eval (.Name T p2) X.env) :: starEach [] X.env := by rfl) (hpl : (backTo pos (starEach [.Name T p2] X.env)).any (·.1) = false := by rfl) :
    DI F W X (.Call (.Name "isinstance" p1) [e, .Name T p2] [] pos) (dIsi Tn t) := by
  refine PE.imp (pe_callB call_isi hg hm (by decide +kernel) (pa_cons h (pa_cons (pe_bltn (v := .ty Tn) hg2 hm2 hv rfl hn hd) pa_nil hs2) hs1) (by decide) (by decide) hs1 hpl) fun σ H Q ⟨R, δ, Qd, Xq, ok, ht, hn, hx⟩ => ?_
  refine ⟨R, δ, _, Xq, ok, ht, fun R' δ' H' v d ok' ef dv ⟨bb, hb, q⟩ => ?_, hx⟩
  exact ⟨v, .ty Tn, .type (tyD d), .type Tn, bb, rfl, .ty Tn, hK ▸ tyD_x dv, kit_ty hb, hn R' δ' H' _ _ ok' ef (.bl bb) q⟩
/-- isinstance(e, (T1, T2)) -/
def dIsi2 (T1 T2 : String) (t : TI) : TI := fun δ Q X => t δ (fun d δ' => ∃ b1 b2, kitB (tyD d) T1 = some b1 ∧ kitB (tyD d) T2 = some b2 ∧ Q (.bool (b1 || b2)) δ') X
theorem di_isi2 {T U : Str} {Tn Un : String} {p1 p2 p3 pt : Pos} {kk : Nat} {t : TI} (hK : F.K = X.K) (hm : X.mg "isinstance" = none) (hm2 : X.mg T = none) (hv : bootBuiltins T = some (.type Tn)) (hm3 : X.mg U = none) (hv3 : bootBuiltins U = some (.type Un)) (h : DI F W X e t) (hg : Gl X "isinstance" := by rfl) (hg2 : Gl X T := by rfl) (hg3 : Gl X U := by rfl)
    (hn : T ≠ "__name__" := by decide) (hd : (T == ("__debug__" : Str)) = false := by decide) (hn3 : U ≠ "__name__" := by decide) (hd3 : (U == ("__debug__" : Str)) = false := by decide)
    (hs1 : starEach [e, .Tuple [.Name T p2, .Name U p3] kk pt] X.env = (false, eval e X.env) :: starEach [.Tuple [.Name T p2, .Name U p3] kk pt] X.env := by rfl) (hs2 : starEach [.Tuple [.Name T p2, .Name U p3] kk pt] X.env = (false, eval (.Tuple [.Name T p2, .Name U p3] kk pt) X.env) :: starEach [] X.env := by rfl) (hpl : (backTo pos (starEach [.Tuple [.Name T p2, .Name U p3] kk pt] X.env)).any (·.1) = false := by rfl)
    (hs3 : starEach [.Name T p2, .Name U p3] X.env = (false, eval (.Name T p2) X.env) :: starEach [.Name U p3] X.env := by rfl) (hs4 : starEach [.Name U p3] X.env = (false, eval (.Name U p3) X.env) :: starEach [] X.env := by rfl) :
    DI F W X (.Call (.Name "isinstance" p1) [e, .Tuple [.Name T p2, .Name U p3] kk pt] [] pos) (dIsi2 Tn Un t) := by
  refine PE.imp (pe_callB call_isiT hg hm (by decide +kernel) (pa_cons h (pa_cons (pe_tup (pa_cons (pe_bltn (v := .ty Tn) hg2 hm2 hv rfl hn hd) (pa_cons (pe_bltn (v := .ty Un) hg3 hm3 hv3 rfl hn3 hd3) pa_nil hs4) hs3)) pa_nil hs2) hs1) (by decide) (by decide) hs1 hpl) fun σ H Q ⟨R, δ, Qd, Xq, ok, ht, hn, hx⟩ => ?_
  refine ⟨R, δ, _, Xq, ok, ht, fun R' δ' H' v d ok' ef dv ⟨b1, b2, h1, h2, q⟩ => ⟨by show 2 ≤ sizeLine; decide, fun p hp => ?_⟩, hx⟩
  obtain ⟨ok2, ef2⟩ := ok'.newIm (o := .tup [.ty Tn, .ty Un]) hp
  refine ⟨v, p, [.ty Tn, .ty Un], .type (tyD d), [.type Tn, .type Un], b1 || b2, rfl, upd_same, .cons (.ty Tn) (.cons (.ty Un) .nil), hK ▸ tyD_x (dv.mono (ef2.keeps ok')), ?_, hn _ δ' _ _ _ ok2 (ef.trans ef2) (.bl _) q⟩
  refine kitAny_cons (kit_ty h1) (fun e1 => kitAny_cons (kit_ty h2) (fun e2 => ?_) fun e2 => ?_) fun e1 => ?_
  · rw [e1, e2]; exact kitAny_nil
  · rw [e1, e2]; rfl
  · rw [e1]; rfl
/-! list(xs), tuple(xs) -/
/-- a new list of a row -/
def dLo (t : TI) : TD := fun δ Q X => t δ (fun d δ' => match seqOf d with
  | some ds => Q (.ow ds) δ'
  | none => False) X
theorem de_lo {t : TI} (hK : F.K = X.K) (hm : X.mg "list" = none) (h : DI F W X e t) (hg : Gl X "list" := by rfl) (he : starEach (e :: []) X.env = (false, eval e X.env) :: starEach [] X.env := by rfl) (hpl : (backTo pos (starEach [] X.env)).any (·.1) = false := by rfl) : DE F W X (.Call (.Name "list" p) [e] [] pos) (dLo t) := by
  refine PE.imp (pe_callTy call_list_of hg hm (by decide +kernel) (pa_cons h pa_nil he) (by decide) (by decide) he hpl) fun σ H Q ⟨R, δ, Qd, Xq, ok, ht, hn, hx⟩ => ?_
  refine ⟨R, δ, _, Xq, ok, ht, fun R' δ' H' v d ok' ef dv q => ?_, hx⟩
  cases es : seqOf d with
  | none => rw [es] at q; exact q.elim
  | some ds =>
    rw [es] at q
    obtain ⟨ad, ys, rfl, h1, h2⟩ := dv.seq es
    refine ⟨ad, ys, rfl, h1.imp (fun z => hK ▸ z) (fun z => hK ▸ z), fun l hl => ?_⟩
    obtain ⟨ok2, ef2, r, nw⟩ := new_ow ok' ef hl h2
    exact hn _ δ' _ _ _ ok2 ef2 r nw q
/-- .. of a name, read now -/
def dLoN (i : Nat) : TD := fun δ Q _ => match (δ.at i).dat?.bind seqOf with
  | some ds => Q (.ow ds) δ
  | none => False
theorem dat_some {s : Sl} {ds : List D} (h : s.dat?.bind seqOf = some ds) : s.dat?.isSome = true := by
  cases q : s.dat? with
  | none => rw [q] at h; cases h
  | some d => rfl
theorem de_loN {i : Nat} (hK : F.K = X.K) (hm : X.mg "list" = none) (h : PE X e (tVar i)) (hg : Gl X "list" := by rfl) (he : starEach (e :: []) X.env = (false, eval e X.env) :: starEach [] X.env := by rfl) (hpl : (backTo pos (starEach [] X.env)).any (·.1) = false := by rfl) : DE F W X (.Call (.Name "list" p) [e] [] pos) (dLoN i) := by
  refine PE.imp (pe_callTy call_list_of hg hm (by decide +kernel) (pa_cons h pa_nil he) (by decide) (by decide) he hpl) fun σ H Q ⟨R, δ, Qd, Xq, ok, ht, hn, hx⟩ => ?_
  unfold dLoN at ht
  cases es : (δ.at i).dat?.bind seqOf with
  | none => rw [es] at ht; exact ht.elim
  | some ds =>
    rw [es] at ht
    obtain ⟨v, ev⟩ := ok.val (dat_some es)
    obtain ⟨ad, ys, rfl, h1, h2⟩ := ok.nowSeq es ev
    refine ⟨_, sat_some ev, ad, ys, rfl, h1.imp (fun z => hK ▸ z) (fun z => hK ▸ z), fun l hl => ?_⟩
    obtain ⟨ok2, ef2, r, nw⟩ := new_ow ok (Eff.refl σ R H δ) hl h2
    exact hn _ δ _ _ _ ok2 ef2 r nw ht
def dTo (t : TI) : TI := fun δ Q X => t δ (fun d δ' => match seqOf d with
  | some ds => Q (.tuple ds) δ'
  | none => False) X
theorem di_to {t : TI} (hK : F.K = X.K) (hm : X.mg "tuple" = none) (h : DI F W X e t) (hg : Gl X "tuple" := by rfl) (he : starEach (e :: []) X.env = (false, eval e X.env) :: starEach [] X.env := by rfl) (hpl : (backTo pos (starEach [] X.env)).any (·.1) = false := by rfl) : DI F W X (.Call (.Name "tuple" p) [e] [] pos) (dTo t) := by
  refine PE.imp (pe_callTy call_tuple_of hg hm (by decide +kernel) (pa_cons h pa_nil he) (by decide) (by decide) he hpl) fun σ H Q ⟨R, δ, Qd, Xq, ok, ht, hn, hx⟩ => ?_
  refine ⟨R, δ, _, Xq, ok, ht, fun R' δ' H' v d ok' ef dv q => ?_, hx⟩
  cases d with
  | list ds =>
    obtain ⟨ad, rfl⟩ := dv.list_ref
    obtain ⟨ys, h1, h2⟩ := dv.seqL
    refine ⟨ad, ys, rfl, .inl ⟨hK ▸ h1, fun l hl => ?_⟩⟩
    obtain ⟨ok2, ef2⟩ := ok'.newIm (o := .tup ys) hl
    exact hn _ δ' _ _ _ ok2 (ef.trans ef2) (Dv.newTup h2 hl) q
  | tuple ds =>
    obtain ⟨ad, rfl⟩ := dv.tuple_ref
    obtain ⟨ys, h1, h2⟩ := dv.seqT
    exact ⟨ad, ys, rfl, .inr ⟨hK ▸ h1, hn R' δ' H' _ _ ok' ef dv q⟩⟩
  | _ => exact q.elim
def dToN (i : Nat) : TI := fun δ Q _ => match (δ.at i).lst? with
  | some ds => Q (.tuple ds) δ
  | none => False
theorem di_toN {i : Nat} (hK : F.K = X.K) (hm : X.mg "tuple" = none) (h : PE X e (tVar i)) (hg : Gl X "tuple" := by rfl) (he : starEach (e :: []) X.env = (false, eval e X.env) :: starEach [] X.env := by rfl) (hpl : (backTo pos (starEach [] X.env)).any (·.1) = false := by rfl) : DI F W X (.Call (.Name "tuple" p) [e] [] pos) (dToN i) := by
  refine PE.imp (pe_callTy call_tuple_of hg hm (by decide +kernel) (pa_cons h pa_nil he) (by decide) (by decide) he hpl) fun σ H Q ⟨R, δ, Qd, Xq, ok, ht, hn, hx⟩ => ?_
  unfold dToN at ht
  cases es : (δ.at i).lst? with
  | none => rw [es] at ht; exact ht.elim
  | some ds =>
    rw [es] at ht
    obtain ⟨ad, ys, ev, h1, h2, _⟩ := ok.mutL es
    refine ⟨_, sat_some ev, ad, ys, rfl, .inl ⟨SqL.of h1, fun l hl => ?_⟩⟩
    obtain ⟨ok2, ef2⟩ := ok.newIm (o := .tup ys) hl
    exact hn _ δ _ _ _ ok2 ef2 (Dv.newTup h2 hl) ht
/-! divmod -/
def dDivmod (ta : TL) : TI := fun δ Q X => ta δ (fun ds δ' => match ds with
  | [.int i, .int j] => CDivP i j ∧ Q (.tuple [.int (i / j), .int (i % j)]) δ'
  | _ => False) X
theorem di_divmod {t : TL} (hm : X.mg "divmod" = none) (h : DA F W X (e :: es) t) (hg : Gl X "divmod" := by rfl) (he : starEach (e :: es) X.env = (false, eval e X.env) :: starEach es X.env := by rfl) (hpl : (backTo pos (starEach es X.env)).any (·.1) = false := by rfl) : DI F W X (.Call (.Name "divmod" p) (e :: es) [] pos) (dDivmod t) := by
  refine PE.imp (pe_callB call_divmodW hg hm (by decide +kernel) h (by decide) (by decide) he hpl) fun σ H Q ⟨R, δ, Qd, Xq, ok, ht, hn, hx⟩ => ?_
  refine ⟨R, δ, _, Xq, ok, ht, fun R' δ' H' vs ds ok' ef dv q => ?_, hx⟩
  match ds, q, dv with
  | [.int i, .int j], q, dv =>
    obtain ⟨x, y, rfl, h1, h2⟩ := dvs2 dv
    cases h1
    cases h2
    refine ⟨i, j, rfl, q.1, fun l hl => ?_⟩
    obtain ⟨ok2, ef2⟩ := ok'.newIm (o := .tup [.int (i / j), .int (i % j)]) hl
    exact hn _ δ' _ _ _ ok2 (ef.trans ef2) (Dv.newTup (.cons (.int _) (.cons (.int _) .nil)) hl) q.2
/-! bit_length -/
def bitsOf (i : Int) : Nat := Builtin.Int.intBits i
def dBits (t : TI) : TI := fun δ Q X => t δ (fun d δ' => match d with
  | .int i => Q (.int (bitsOf i : Nat)) δ'
  | _ => False) X
theorem di_bits {apos : Pos} {t : TI} (h : DI F W X e t) (hbase : attributeBase e "bit_length" X.env (eval e X.env) = eval e X.env := by rfl) (hline : (apos.endLine == pos.line) = true := by rfl) : DI F W X (.Call (.Attribute e "bit_length" apos) [] [] pos) (dBits t) := by
  refine PE.imp (pe_bits h hbase hline) fun σ H Q ⟨R, δ, Qd, Xq, ok, ht, hn, hx⟩ => ⟨R, δ, _, Xq, ok, ht, fun R' δ' H' v d ok' ef dv q => ?_, hx⟩
  cases d with
  | int i =>
    cases dv
    exact ⟨i, rfl, hn R' δ' H' _ _ ok' ef (.int _) q⟩
  | _ => exact q.elim
/-! ### subscripts -/
/-- row[i], text[i] -/
def itemD (d : D) (i : Int) : Option D := match d with
  | .list ds => atI ds i
  | .tuple ds => atI ds i
  | .str z => if z.length ≤ sizeLine then (atI z.cps.toList i).map fun c => .str ⟨#[c]⟩ else none
  | _ => none
def rIx : D → D → (D → Prop) → Prop := fun x y k => match y with
  | .int i => (match itemD x i with
    | some d => k d
    | none => False)
  | _ => False
theorem atI_dvs {K : PySem.W.Frag} {R : Rg} {H : Hp} {vs : List V} {ds : List D} (h : Dvs K R H vs ds) {i : Int} {d : D} (e : atI ds i = some d) : ∃ v, atI vs i = some v ∧ Dv K R H v d := by
  unfold atI at e ⊢
  rw [h.length]
  cases q : ixN ds.length i with
  | none => rw [q] at e; cases e
  | some j =>
    rw [q] at e
    exact h.get e
theorem ix_down (hK : F.K = X.K) {R : Rg} {H : Hp} {x y : V} {d f : D} {k : D → Prop} {Q : VK} (dx : Dv F.K R H x d) (dy : Dv F.K R H y f) (h : rIx d f k) (hk : ∀ z v, k z → Dv F.K R H v z → Q v H) : (rIxL X.K x y H Q ∨ rIxT X.K x y H Q) ∨ rIxS x y H Q := by
  unfold rIx at h
  cases f with
  | int i =>
    have h' : (match itemD d i with
      | some d => k d
      | none => False) := h
    cases q : itemD d i with
    | none => rw [q] at h'; exact h'.elim
    | some z =>
      rw [q] at h'
      cases dy
      cases d with
      | list ds =>
        obtain ⟨a, rfl⟩ := dx.list_ref
        obtain ⟨ys, h1, h2⟩ := dx.seqL
        obtain ⟨v, e1, e2⟩ := atI_dvs h2 q
        exact .inl (.inl ⟨a, ys, i, v, rfl, rfl, hK ▸ h1, e1, hk z v h' e2⟩)
      | tuple ds =>
        obtain ⟨a, rfl⟩ := dx.tuple_ref
        obtain ⟨ys, h1, h2⟩ := dx.seqT
        obtain ⟨v, e1, e2⟩ := atI_dvs h2 q
        exact .inl (.inr ⟨a, ys, i, v, rfl, rfl, hK ▸ h1, e1, hk z v h' e2⟩)
      | str x =>
        cases dx
        have q' : (if x.length ≤ sizeLine then (atI x.cps.toList i).map fun c => PyData.str ⟨#[c]⟩ else none) = some z := q
        by_cases hz : x.length ≤ sizeLine
        · rw [if_pos hz] at q'
          obtain ⟨c, e1, rfl⟩ := Option.map_eq_some_iff.mp q'
          exact .inr ⟨x, i, c, rfl, rfl, hz, e1, hk _ _ h' (.str _)⟩
        · rw [if_neg hz] at q'
          cases q'
      | _ => cases q
  | _ => exact h.elim
def dIx (ta tb : TI) : TI := fun δ Q X => ta δ (fun x δ1 => tb δ1 (fun y δ2 => rIx x y fun z => Q z δ2) X) X
theorem di_ix {ta tb : TI} (hK : F.K = X.K) (ha : DI F W X a ta) (hb : DI F W X b tb) (hs : PlainIx b := by exact fun _ _ => rfl) : DI F W X (.Subscript a b pos) (dIx ta tb) := by
  refine PE.imp (pe_ix (IxR.or (IxR.or ix_list ix_tup) ix_str) ha hb hs) fun σ H Q ⟨R, δ, Qd, Xq, ok, ht, hn, hx⟩ => ?_
  refine ⟨R, δ, _, Xq, ok, ht, fun R1 δ1 H1 x d ok1 ef1 dv1 h1 => ?_, hx⟩
  refine ⟨R1, δ1, _, Xq, ok1, h1, fun R2 δ2 H2 y f ok2 ef2 dv2 h2 => ?_, hx.step ef1⟩
  exact ix_down hK (dv1.mono (ef2.keeps ok1)) dv2 h2 fun z v q dz => hn R2 δ2 H2 v z ok2 (ef1.trans ef2) dz q
/-- name[i], the name's list read when the index is known -/
def dIxN (i : Nat) (tb : TI) : TI := fun δ Q X => (δ.at i).dat?.isSome = true ∧ tb δ (fun y δ2 => match (δ2.at i).dat? with
  | some x => rIx x y fun z => Q z δ2
  | none => False) X
theorem atI_at {K : PySem.W.Frag} {R : Rg} {H : Hp} {vs : List V} {ds : List D} (h : Dvs K R H vs ds) {i : Int} {d : D} (e : atI ds i = some d) : ∃ v, atI vs i = some v ∧ Dv K R H v d := atI_dvs h e
theorem ixN_down (hK : F.K = X.K) {R : Rg} {σ : L2.St} {δ : Ds} {H : Hp} {i : Nat} {x y : V} {d f : D} {k : D → Prop} {Q : VK} (ok : Ok F R σ δ H) (ex : sat σ i = some x) (ed : (δ.at i).dat? = some d) (dy : Dv F.K R H y f) (h : rIx d f k) (hk : ∀ z v, k z → Dv F.K R H v z → Q v H) :
    (rIxL X.K x y H Q ∨ rIxT X.K x y H Q) ∨ rIxS x y H Q := by
  have hs := ok.sl i
  cases q : δ.at i with
  | no => rw [q] at ed; cases ed
  | im d' =>
    rw [q] at hs ed
    cases ed
    obtain ⟨v, e1, dv⟩ := hs
    rw [ex] at e1
    cases e1
    exact ix_down hK dv dy h hk
  | ow ds =>
    rw [q] at hs ed
    cases ed
    obtain ⟨a, ws, e1, e2, dv, _⟩ := hs
    rw [ex] at e1
    cases e1
    unfold rIx at h
    cases f with
    | int j =>
      have h' : (match atI ds j with
        | some d => k d
        | none => False) := h
      cases z : atI ds j with
      | none => rw [z] at h'; exact h'.elim
      | some w =>
        rw [z] at h'
        cases dy
        obtain ⟨v, f1, f2⟩ := atI_dvs dv z
        exact .inl (.inl ⟨a, ws, j, v, rfl, rfl, SqL.of e2, f1, hk w v h' f2⟩)
    | _ => exact h.elim
  | bw ds =>
    rw [q] at hs ed
    cases ed
    obtain ⟨a, ws, e1, e2, dv, _⟩ := hs
    rw [ex] at e1
    cases e1
    unfold rIx at h
    cases f with
    | int j =>
      have h' : (match atI ds j with
        | some d => k d
        | none => False) := h
      cases z : atI ds j with
      | none => rw [z] at h'; exact h'.elim
      | some w =>
        rw [z] at h'
        cases dy
        obtain ⟨v, f1, f2⟩ := atI_dvs dv z
        exact .inl (.inl ⟨a, ws, j, v, rfl, rfl, SqL.of e2, f1, hk w v h' f2⟩)
    | _ => exact h.elim
theorem di_ixN {i : Nat} {tb : TI} (hK : F.K = X.K) (ha : PE X a (tVar i)) (hb : DI F W X b tb) (hs : PlainIx b := by exact fun _ _ => rfl) : DI F W X (.Subscript a b pos) (dIxN i tb) := by
  refine PE.imp (pe_ix (IxR.or (IxR.or ix_list ix_tup) ix_str) ha hb hs) fun σ H Q ⟨R, δ, Qd, Xq, ok, ⟨h0, ht⟩, hn, hx⟩ => ?_
  obtain ⟨v, ev⟩ := ok.val h0
  refine ⟨v, sat_some ev, R, δ, _, Xq, ok, ht, fun R2 δ2 H2 y f ok2 ef2 dv2 h2 => ?_, hx⟩
  cases q : (δ2.at i).dat? with
  | none => rw [q] at h2; exact h2.elim
  | some x =>
    rw [q] at h2
    exact ixN_down hK ok2 ev q dv2 h2 fun z v q dz => hn R2 δ2 H2 v z ok2 ef2 dz q
/-! == with a name on the left, read when the right side is known -/
def dBinN (r : RB) (i : Nat) (tb : TI) : TI := fun δ Q X => (δ.at i).dat?.isSome = true ∧ tb δ (fun y δ2 => match (δ2.at i).dat? with
  | some x => r x y fun z => Q z δ2
  | none => False) X
theorem di_cmpN {op : CmpOp} {r : RB} {i : Nat} {tb : TI} (ho : OpD F X (compareOp op) r) (ha : PE X a (tVar i)) (hb : DI F W X b tb) (hm : behindInMarks op b = false) : DI F W X (.Compare a [op] [b] pos) (dBinN r i tb) := by
  obtain ⟨r0, h0, hr⟩ := ho
  refine PE.imp (pe_cmpR h0 ha hb hm) fun σ H Q ⟨R, δ, Qd, Xq, ok, ⟨hd, ht⟩, hn, hx⟩ => ?_
  obtain ⟨v, ev⟩ := ok.val hd
  refine ⟨v, sat_some ev, R, δ, _, Xq, ok, ht, fun R2 δ2 H2 y f ok2 ef2 dv2 h2 => ?_, hx⟩
  cases q : (δ2.at i).dat? with
  | none => rw [q] at h2; exact h2.elim
  | some x =>
    rw [q] at h2
    exact hr anyR H2 v y x f _ Q (ok2.now q ev) dv2.any h2 fun z u q2 ez => hn R2 δ2 H2 u z ok2 ef2 (flat_dv ez) q2
theorem dt_cmpN {op : CmpOp} {r : RB} {i : Nat} {tb : TI} (ho : OpD F X (compareOp op) r) (ha : PE X a (tVar i)) (hb : DI F W X b tb) (hm : behindInMarks op b = false) : DT F W X (.Compare a [op] [b] pos) (dB (dBinN r i tb)) := by
  obtain ⟨r0, h0, hr⟩ := ho
  refine PT.imp (pt_cmpR h0 ha hb hm) fun σ H Q ⟨R, δ, Qd, Xq, ok, ⟨hd, ht⟩, hn, hx⟩ => ?_
  obtain ⟨v, ev⟩ := ok.val hd
  refine ⟨v, sat_some ev, R, δ, _, Xq, ok, ht, fun R2 δ2 H2 y f ok2 ef2 dv2 h2 => ?_, hx⟩
  cases q : (δ2.at i).dat? with
  | none => rw [q] at h2; exact h2.elim
  | some x =>
    rw [q] at h2
    refine hr anyR H2 v y x f _ _ (ok2.now q ev) dv2.any h2 fun z u q2 ez => ?_
    cases z with
    | bool k =>
      cases ez
      exact ⟨k, rfl, hn R2 δ2 H2 k ok2 ef2 q2⟩
    | _ => exact q2.elim
/-! ### slices -/
abbrev TP := Ds → (Option Int → Ds → Prop) → Xd → Prop
def liftP (F : Fr) (W : WX) (t : TP) : TO := fun σ H Q => ∃ (R : Rg) (δ : Ds) (Qd : Option Int → Ds → Prop) (X : Xd), Ok F R σ δ H ∧ t δ Qd X ∧
  (∀ R' δ' H' o, Ok F R' σ δ' H' → Eff σ R H δ R' H' δ' → Qd o δ' → Q o H') ∧ XLk F W R σ δ H X
def DP (F : Fr) (W : WX) (X : Cx) (e : Option Expr) (t : TP) : Prop := PO X e (liftP F W t)
theorem PO.imp {X : Cx} {e : Option Expr} {t t' : TO} (h : PO X e t) (i : ∀ σ H Q, t' σ H Q → t σ H Q) : PO X e t' := ⟨fun pins s σ H Q I q => h.run pins s σ H Q I (i σ H Q q)⟩
def pNo : TP := fun δ Q _ => Q none δ
def pSo (t : TI) : TP := fun δ Q X => t δ (fun d δ' => match d with
  | .int i => Q (some i) δ'
  | _ => False) X
theorem dp_no : DP F W X none pNo := PO.imp po_none fun σ H Q ⟨R, δ, Qd, Xq, ok, ht, hn, hx⟩ => hn R δ H none ok (Eff.refl _ _ _ _) ht
theorem dp_so {t : TI} (h : DI F W X e t) : DP F W X (some e) (pSo t) := by
  refine PO.imp (po_some h) fun σ H Q ⟨R, δ, Qd, Xq, ok, ht, hn, hx⟩ => ⟨R, δ, _, Xq, ok, ht, fun R' δ' H' v d ok' ef dv q => ?_, hx⟩
  cases d with
  | int i =>
    cases dv
    exact ⟨i, rfl, hn R' δ' H' _ ok' ef q⟩
  | _ => exact q.elim
def cutD (ds : List D) (lo hi : Option Int) : List D := (ds.drop (HT.sIx ds.length 0 lo)).take (HT.sIx ds.length ds.length hi - HT.sIx ds.length 0 lo)
theorem cutD_dvs {K : PySem.W.Frag} {R : Rg} {H : Hp} {vs : List V} {ds : List D} (h : Dvs K R H vs ds) (lo hi : Option Int) : Dvs K R H (cutV vs lo hi) (cutD ds lo hi) := by
  unfold cutV cutD
  rw [h.length]
  exact (h.drop _).take _
/-- text[lo:hi], row[lo:hi]: a new list of one's own -/
def dSl (ta : TI) (tl th : TP) : TD := fun δ Q X => ta δ (fun d δ1 => tl δ1 (fun lo δ2 => th δ2 (fun hi δ3 => match d with
  | .list ds => Q (.ow (cutD ds lo hi)) δ3
  | .str z => z.length ≤ sizeLine ∧ Q (.im (.str (cutS z lo hi))) δ3
  | _ => False) X) X) X
theorem de_sl {lo hi : Option Expr} {p2 : Pos} {ta : TI} {tl th : TP} (hK : F.K = X.K) (ha : DI F W X a ta) (hl : DP F W X lo tl) (hh : DP F W X hi th) : DE F W X (.Subscript a (.Slice lo hi none p2) pos) (dSl ta tl th) := by
  refine PE.imp (pe_slice (SlR.or sl_list sl_str) ha hl hh) fun σ H Q ⟨R, δ, Qd, Xq, ok, ht, hn, hx⟩ => ?_
  refine ⟨R, δ, _, Xq, ok, ht, fun R1 δ1 H1 x d ok1 ef1 dv1 h1 => ?_, hx⟩
  refine ⟨R1, δ1, _, Xq, ok1, h1, fun R2 δ2 H2 l ok2 ef2 h2 => ?_, hx.step ef1⟩
  refine ⟨R2, δ2, _, Xq, ok2, h2, fun R3 δ3 H3 u ok3 ef3 h3 => ?_, (hx.step ef1).step ef2⟩
  have dv := dv1.mono ((ef2.trans ef3).keeps ok1)
  have ef := ef1.trans (ef2.trans ef3)
  cases d with
  | list ds =>
    obtain ⟨ad, rfl⟩ := dv.list_ref
    obtain ⟨ys, h4, h5⟩ := dv.seqL
    refine .inl ⟨ad, ys, rfl, hK ▸ h4, fun p hp => ?_⟩
    obtain ⟨ok4, ef4, r, nw⟩ := new_ow ok3 ef hp (cutD_dvs h5 l u)
    exact hn _ δ3 _ _ _ ok4 ef4 r nw h3
  | str z =>
    cases dv
    exact .inr ⟨z, rfl, h3.1, hn R3 δ3 H3 _ (.im _) ok3 ef (.str _) trivial h3.2⟩
  | _ => exact h3.elim
/-- .. of a name's list, read now -/
def dSlN (i : Nat) (tl th : TP) : TD := fun δ Q X => (δ.at i).dat?.isSome = true ∧ tl δ (fun lo δ2 => th δ2 (fun hi δ3 => match (δ3.at i).lst? with
  | some ds => Q (.ow (cutD ds lo hi)) δ3
  | none => False) X) X
theorem de_slN {i : Nat} {lo hi : Option Expr} {p2 : Pos} {tl th : TP} (hK : F.K = X.K) (ha : PE X a (tVar i)) (hl : DP F W X lo tl) (hh : DP F W X hi th) : DE F W X (.Subscript a (.Slice lo hi none p2) pos) (dSlN i tl th) := by
  refine PE.imp (pe_slice (SlR.or sl_list sl_str) ha hl hh) fun σ H Q ⟨R, δ, Qd, Xq, ok, ⟨h0, ht⟩, hn, hx⟩ => ?_
  obtain ⟨v, ev⟩ := ok.val h0
  refine ⟨v, sat_some ev, R, δ, _, Xq, ok, ht, fun R2 δ2 H2 l ok2 ef2 h2 => ?_, hx⟩
  refine ⟨R2, δ2, _, Xq, ok2, h2, fun R3 δ3 H3 u ok3 ef3 h3 => ?_, hx.step ef2⟩
  cases q : (δ3.at i).lst? with
  | none => rw [q] at h3; exact h3.elim
  | some ds =>
    rw [q] at h3
    obtain ⟨ad, ys, e1, e2, dv, _⟩ := ok3.mutL q
    rw [ev] at e1
    cases e1
    refine .inl ⟨ad, ys, rfl, SqL.of e2, fun p hp => ?_⟩
    obtain ⟨ok4, ef4, r, nw⟩ := new_ow ok3 (ef2.trans ef3) hp (cutD_dvs dv l u)
    exact hn _ δ3 _ _ _ ok4 ef4 r nw h3
end
end DL


/-! text DL10 -/
set_option maxHeartbeats 400000
set_option Elab.async false
set_option linter.all false
set_option maxRecDepth 100000
/-! DL10: methods, stores, concatenation, repr. -/
namespace DL
open PySem PySem.Spec PyProof.Rows L2
section
variable {F : Fr} {W : WX} {X : Cx} {e a b c : Expr} {es : List Expr} {pos p apos : Pos}
/-! {} -/
def dEmp : TI := fun δ Q _ => Q (.dict []) δ
theorem di_emp : DI F W X (.Dict [] [] pos) dEmp := by
  refine PE.imp pe_dnewK fun σ H Q ⟨R, δ, Qd, Xq, ok, ht, hn, hx⟩ => fun p hp => ?_
  obtain ⟨ok2, ef2⟩ := ok.newIm (o := .dK []) hp
  exact hn _ δ _ _ _ ok2 ef2 (.emp (.inr rfl) upd_same) ht
/-! ### texts -/
def rInS : RB := fun x y k => match x, y with
  | .str i, .str j => k (.bool (!(Builtin.Str.occurrences j i 0 j.length 1).isEmpty))
  | _, _ => False
def rNotInS : RB := fun x y k => match x, y with
  | .str i, .str j => k (.bool (!(!(Builtin.Str.occurrences j i 0 j.length 1).isEmpty)))
  | _, _ => False
theorem od_inS : OpD F X (compareOp .In) rInS := by
  refine ⟨_, op_in_str, fun R H x y d f k Q dx dy hr hk => ?_⟩
  unfold rInS at hr
  cases d with
  | str i =>
    cases f with
    | str j =>
      cases dx
      cases dy
      exact ⟨i, j, rfl, rfl, hk _ _ hr rfl⟩
    | _ => exact hr.elim
  | _ => cases f <;> exact hr.elim
theorem od_notInS : OpD F X (compareOp .NotIn) rNotInS := by
  refine ⟨_, op_notin_str, fun R H x y d f k Q dx dy hr hk => ?_⟩
  unfold rNotInS at hr
  cases d with
  | str i =>
    cases f with
    | str j =>
      cases dx
      cases dy
      exact ⟨i, j, rfl, rfl, hk _ _ hr rfl⟩
    | _ => exact hr.elim
  | _ => cases f <;> exact hr.elim
/-- t.m(u), texts: what the method answers -/
def dM1 (r : Str → Str → (Rv → Prop) → Prop) (to te : TI) : TD := fun δ Q X => to δ (fun x δ1 => match x with
  | .str i => te δ1 (fun y δ2 => match y with
    | .str j => r i j fun z => Q z δ2
    | _ => False) X
  | _ => False) X
def rStarts : Str → Str → (Rv → Prop) → Prop := fun i j k => k (.im (.bool (Txt.startswith i j)))
def rEnds : Str → Str → (Rv → Prop) → Prop := fun i j k => k (.im (.bool (Txt.endswith i j)))
def rSplit : Str → Str → (Rv → Prop) → Prop := fun i j k => (j.length == 0) = false ∧ i.length + 2 ≤ sizeLine ∧ k (.ow ((Txt.split i j).map PyData.str))
def rPart : Str → Str → (Rv → Prop) → Prop := fun i j k => (j.length == 0) = false ∧ i.length ≤ sizeLine ∧ k (.im (.tuple [.str (Txt.partition i j).1, .str (Txt.partition i j).2.1, .str (Txt.partition i j).2.2]))
/-- such a method of the library -/
def M1D (F : Fr) (X : Cx) (r0 : V → List V → Hp → VK → Prop) (r : Str → Str → (Rv → Prop) → Prop) : Prop := ∀ (R Rs : Rg) (σ : L2.St) (δ δs : Ds) (H Hs : Hp) (i j : Str) (k : Rv → Prop) (Q : VK), Ok F R σ δ H → Eff σ Rs Hs δs R H δ → r i j k →
  (∀ R' H' v rv, Ok F R' σ δ H' → Eff σ Rs Hs δs R' H' δ → RvOk F R' H' σ δ v rv → RvNew σ δs Hs v rv → k rv → Q v H') → r0 (.str i) [.str j] H Q
theorem de_m1 {id : String} {name : Str} {r0 : V → List V → Hp → VK → Prop} {r : Str → Str → (Rv → Prop) → Prop} {to te : TI} (slot : Slot "str" name id) (ty : typeOf (.builtin id) = pure (.type "method_descriptor")) (rule : MtR X id r0) (hm : M1D F X r0 r) (ho : DI F W X a to) (he : DI F W X b te)
    (hs : starEach [b] X.env = [(false, eval b X.env)] := by rfl) (hbase : attributeBase a name X.env (eval a X.env) = eval a X.env := by rfl) (hline : (apos.endLine == pos.line) = true := by rfl) :
    DE F W X (.Call (.Attribute a name apos) [b] [] pos) (dM1 r to te) := by
  refine PE.imp (pe_m1 slot ty rule ho he hs hbase hline) fun σ H Q ⟨R, δ, Qd, Xq, ok, ht, hn, hx⟩ => ?_
  refine ⟨R, δ, _, Xq, ok, ht, fun R1 δ1 H1 x d ok1 ef1 dv1 h1 => ?_, hx⟩
  cases d with
  | str i =>
    cases dv1
    refine ⟨⟨i, rfl⟩, R1, δ1, _, Xq, ok1, h1, fun R2 δ2 H2 y f ok2 ef2 dv2 h2 => ?_, hx.step ef1⟩
    cases f with
    | str j =>
      cases dv2
      exact hm R2 R σ δ2 δ H2 H i j _ Q ok2 (ef1.trans ef2) h2 fun R' H' v rv ok' ef' rk nw q => hn R' δ2 H' v rv ok' ef' rk nw q
    | _ => exact h2.elim
  | _ => exact h1.elim
theorem de_starts {to te : TI} (ho : DI F W X a to) (he : DI F W X b te) (hs : starEach [b] X.env = [(false, eval b X.env)] := by rfl) (hbase : attributeBase a "startswith" X.env (eval a X.env) = eval a X.env := by rfl) (hline : (apos.endLine == pos.line) = true := by rfl) :
    DE F W X (.Call (.Attribute a "startswith" apos) [b] [] pos) (dM1 rStarts to te) :=
  de_m1 PySem.F.slot_str_startswith PySem.F.type_str_startswith mt_startswith (fun R Rs σ δ δs H Hs i j k Q ok ef h hn => ⟨i, j, rfl, rfl, hn R H _ (.im (.bool (Txt.startswith i j))) ok ef (Dv.bl _) trivial h⟩) ho he hs hbase hline
theorem de_ends {to te : TI} (ho : DI F W X a to) (he : DI F W X b te) (hs : starEach [b] X.env = [(false, eval b X.env)] := by rfl) (hbase : attributeBase a "endswith" X.env (eval a X.env) = eval a X.env := by rfl) (hline : (apos.endLine == pos.line) = true := by rfl) :
    DE F W X (.Call (.Attribute a "endswith" apos) [b] [] pos) (dM1 rEnds to te) :=
  de_m1 PySem.F.slot_str_endswith PySem.F.type_str_endswith mt_endswith (fun R Rs σ δ δs H Hs i j k Q ok ef h hn => ⟨i, j, rfl, rfl, hn R H _ (.im (.bool (Txt.endswith i j))) ok ef (Dv.bl _) trivial h⟩) ho he hs hbase hline
theorem dvs_strs {K : PySem.W.Frag} {R : Rg} {H : Hp} : ∀ ys : List Str, Dvs K R H (ys.map V.str) (ys.map PyData.str)
  | [] => .nil
  | y :: ys => .cons (.str y) (dvs_strs ys)
theorem de_split {to te : TI} (ho : DI F W X a to) (he : DI F W X b te) (hs : starEach [b] X.env = [(false, eval b X.env)] := by rfl) (hbase : attributeBase a "split" X.env (eval a X.env) = eval a X.env := by rfl) (hline : (apos.endLine == pos.line) = true := by rfl) :
    DE F W X (.Call (.Attribute a "split" apos) [b] [] pos) (dM1 rSplit to te) :=
  de_m1 PySem.F.slot_str_split PySem.F.type_str_split mt_split (fun R Rs σ δ δs H Hs i j k Q ok ef h hn => ⟨i, j, rfl, rfl, h.1, h.2.1, fun p hp => by
    obtain ⟨ok2, ef2, r, nw⟩ := new_ow ok ef hp (dvs_strs _)
    exact hn R _ _ _ ok2 ef2 r nw h.2.2⟩) ho he hs hbase hline
theorem de_part {to te : TI} (ho : DI F W X a to) (he : DI F W X b te) (hs : starEach [b] X.env = [(false, eval b X.env)] := by rfl) (hbase : attributeBase a "partition" X.env (eval a X.env) = eval a X.env := by rfl) (hline : (apos.endLine == pos.line) = true := by rfl) :
    DE F W X (.Call (.Attribute a "partition" apos) [b] [] pos) (dM1 rPart to te) :=
  de_m1 PySem.F.slot_str_partition PySem.F.type_str_partition mt_partition (fun R Rs σ δ δs H Hs i j k Q ok ef h hn => ⟨i, j, rfl, rfl, h.1, h.2.1, fun p hp => by
    obtain ⟨ok2, ef2⟩ := ok.newIm (o := .tup [.str (Txt.partition i j).1, .str (Txt.partition i j).2.1, .str (Txt.partition i j).2.2]) hp
    exact hn _ _ _ (.im _) ok2 (ef.trans ef2) (Dv.newTup (.cons (.str _) (.cons (.str _) (.cons (.str _) .nil))) hp) trivial h.2.2⟩) ho he hs hbase hline
/-! ### a list in a slot is changed -/
/-- name.append(e) -/
def dApp (i : Nat) (te : TI) : TI := fun δ Q X => (δ.at i).isMut = true ∧ te δ (fun d δ2 => match (δ2.at i).lst? with
  | some ds => ds.length < sizeLine ∧ Q .none (δ2.set i ((δ2.at i).put (ds ++ [d])))
  | none => False) X
theorem di_append {i : Nat} {te : TI} (hK : F.K = X.K) (ho : PE X a (tVar i)) (he : DI F W X b te) (hbase : attributeBase a "append" X.env (eval a X.env) = eval a X.env := by rfl)
    (hfew : ((backTo pos (starEach (b :: []) X.env)).all (fun x => !x.1) && (backToKw pos (keywordEach [] X.env)).all (fun x => x.1.isSome)
      && decide ((b :: []).length + ([] : List Keyword).length + (if ([] : List Keyword).isEmpty then 0 else 1) < 30)) = true := by rfl)
    (hline : (apos.endLine == pos.line) = true := by rfl) (hs : starEach (b :: []) X.env = (false, eval b X.env) :: starEach [] X.env := by rfl) (hplain : (backTo pos (starEach [] X.env)).any (·.1) = false := by rfl) :
    DI F W X (.Call (.Attribute a "append" apos) [b] [] pos) (dApp i te) := by
  refine PE.imp (pe_bm PySem.F.plainAttrs_list PySem.F.slot_list_append PySem.F.type_list_append mt_append ho (pa_cons he pa_nil hs) hbase hfew hline hs hplain) fun σ H Q ⟨R, δ, Qd, Xq, ok, ⟨hm, ht⟩, hn, hx⟩ => ?_
  obtain ⟨ad, ea⟩ := mut_sat ok hm
  have hl : ∃ ds, (δ.at i).lst? = some ds := by
    cases q : δ.at i <;> rw [q] at hm <;> first | exact ⟨_, rfl⟩ | cases hm
  obtain ⟨ds0, hl⟩ := hl
  obtain ⟨a0, vs0, e0, h0, _, _⟩ := ok.mutL hl
  rw [ea] at e0
  cases e0
  refine ⟨_, sat_some ea, .inl ⟨rfl, vs0, SqL.of h0⟩, R, δ, _, Xq, ok, ht, fun R2 δ2 H2 y d ok2 ef2 dv2 h2 => ?_, hx⟩
  cases q : (δ2.at i).lst? with
  | none => rw [q] at h2; exact h2.elim
  | some ds =>
    rw [q] at h2
    obtain ⟨a1, vs1, e1, h1, dvl, _⟩ := ok2.mutL q
    rw [ea] at e1
    cases e1
    obtain ⟨ok3, ef3, _⟩ := ok2.write q ea (dvl.append (.cons dv2 .nil))
    exact ⟨ad, vs1, y, rfl, rfl, h1, by rw [dvl.length]; exact h2.1, hn _ _ _ _ _ ok3 (ef2.trans ef3) .non h2.2⟩
/-- name.pop() -/
def dPop (i : Nat) : TI := fun δ Q _ => match (δ.at i).lst? with
  | some ds => (match ds[ds.length - 1]? with
    | some d => Q d (δ.set i ((δ.at i).put ds.dropLast))
    | none => False)
  | none => False
theorem Dvs.dropLast {K : PySem.W.Frag} {R : Rg} {H : Hp} {vs : List V} {ds : List D} (h : Dvs K R H vs ds) : Dvs K R H vs.dropLast ds.dropLast := by
  rw [List.dropLast_eq_take, List.dropLast_eq_take, h.length]
  exact h.take _
theorem di_pop {i : Nat} (hK : F.K = X.K) (ho : PE X a (tVar i)) (hbase : attributeBase a "pop" X.env (eval a X.env) = eval a X.env := by rfl) (hline : (apos.endLine == pos.line) = true := by rfl) : DI F W X (.Call (.Attribute a "pop" apos) [] [] pos) (dPop i) := by
  refine PE.imp (pe_bm0 PySem.F.plainAttrs_list PySem.F.slot_list_pop PySem.F.type_list_pop mt_pop ho hbase hline) fun σ H Q ⟨R, δ, Qd, Xq, ok, ht, hn, hx⟩ => ?_
  unfold dPop at ht
  cases q : (δ.at i).lst? with
  | none => rw [q] at ht; exact ht.elim
  | some ds =>
    rw [q] at ht
    have ht' : (match ds[ds.length - 1]? with
      | some d => Qd d (δ.set i ((δ.at i).put ds.dropLast))
      | none => False) := ht
    cases z : ds[ds.length - 1]? with
    | none => rw [z] at ht'; exact ht'.elim
    | some d =>
      rw [z] at ht'
      obtain ⟨ad, vs, ea, eh, dvl, mi⟩ := ok.mutL q
      obtain ⟨v, ev, dv⟩ := dvl.get z
      obtain ⟨ok3, ef3, k3⟩ := ok.write q ea (Dvs.dropLast dvl)
      exact ⟨_, sat_some ea, .inl ⟨rfl, vs, SqL.of eh⟩, ad, vs, v, rfl, rfl, eh, by rw [dvl.length]; exact ev, hn _ _ _ _ _ ok3 ef3 (dv.mono k3) ht'⟩
/-- name.pop(e) -/
def dPopAt (i : Nat) (te : TI) : TI := fun δ Q X => (δ.at i).isMut = true ∧ te δ (fun y δ2 => match y, (δ2.at i).lst? with
  | .int k, some ds => (match ixN ds.length k with
    | some j => (match ds[j]? with
      | some d => (-(2 ^ 63) ≤ k ∧ k < 2 ^ 63) ∧ Q d (δ2.set i ((δ2.at i).put (ds.eraseIdx j)))
      | none => False)
    | none => False)
  | _, _ => False) X
theorem di_popAt {i : Nat} {te : TI} (hK : F.K = X.K) (ho : PE X a (tVar i)) (he : DI F W X b te) (hbase : attributeBase a "pop" X.env (eval a X.env) = eval a X.env := by rfl)
    (hfew : ((backTo pos (starEach (b :: []) X.env)).all (fun x => !x.1) && (backToKw pos (keywordEach [] X.env)).all (fun x => x.1.isSome)
      && decide ((b :: []).length + ([] : List Keyword).length + (if ([] : List Keyword).isEmpty then 0 else 1) < 30)) = true := by rfl)
    (hline : (apos.endLine == pos.line) = true := by rfl) (hs : starEach (b :: []) X.env = (false, eval b X.env) :: starEach [] X.env := by rfl) (hplain : (backTo pos (starEach [] X.env)).any (·.1) = false := by rfl) :
    DI F W X (.Call (.Attribute a "pop" apos) [b] [] pos) (dPopAt i te) := by
  refine PE.imp (pe_bm PySem.F.plainAttrs_list PySem.F.slot_list_pop PySem.F.type_list_pop mt_popAt ho (pa_cons he pa_nil hs) hbase hfew hline hs hplain) fun σ H Q ⟨R, δ, Qd, Xq, ok, ⟨hm, ht⟩, hn, hx⟩ => ?_
  obtain ⟨ad, ea⟩ := mut_sat ok hm
  have hl : ∃ ds, (δ.at i).lst? = some ds := by
    cases q : δ.at i <;> rw [q] at hm <;> first | exact ⟨_, rfl⟩ | cases hm
  obtain ⟨ds0, hl⟩ := hl
  obtain ⟨a0, vs0, e0, h0, _, _⟩ := ok.mutL hl
  rw [ea] at e0
  cases e0
  refine ⟨_, sat_some ea, .inl ⟨rfl, vs0, SqL.of h0⟩, R, δ, _, Xq, ok, ht, fun R2 δ2 H2 y d ok2 ef2 dv2 h2 => ?_, hx⟩
  cases d with
  | int k =>
    cases q : (δ2.at i).lst? with
    | none => rw [q] at h2; exact h2.elim
    | some ds =>
      rw [q] at h2
      have h3 : (match ixN ds.length k with
        | some j => (match ds[j]? with
          | some d => (-(2 ^ 63) ≤ k ∧ k < 2 ^ 63) ∧ Qd d (δ2.set i ((δ2.at i).put (ds.eraseIdx j)))
          | none => False)
        | none => False) := h2
      cases z : ixN ds.length k with
      | none => rw [z] at h3; exact h3.elim
      | some j =>
        rw [z] at h3
        have h4 : (match ds[j]? with
          | some d => (-(2 ^ 63) ≤ k ∧ k < 2 ^ 63) ∧ Qd d (δ2.set i ((δ2.at i).put (ds.eraseIdx j)))
          | none => False) := h3
        cases z2 : ds[j]? with
        | none => rw [z2] at h4; exact h4.elim
        | some d =>
          rw [z2] at h4
          cases dv2
          obtain ⟨a1, vs1, e1, h1, dvl, _⟩ := ok2.mutL q
          rw [ea] at e1
          cases e1
          obtain ⟨v, ev, dv⟩ := dvl.get z2
          obtain ⟨ok3, ef3, k3⟩ := ok2.write q ea (Dvs.eraseIdx j dvl)
          exact ⟨ad, vs1, k, j, v, rfl, rfl, h1, h4.1.1, h4.1.2, by rw [dvl.length]; exact (ixN_seq z).1, ev, hn _ _ _ _ _ ok3 (ef2.trans ef3) (dv.mono k3) h4.2⟩
  | _ => exact h2.elim
/-- name[i] = e -/
def dSetIx (i : Nat) (te tk : TI) : TSd := fun De δ => te δ (fun d δ1 => (δ1.at i).isMut = true ∧ tk δ1 (fun y δ2 => match y, (δ2.at i).lst? with
  | .int k, some ds => (match ixN ds.length k with
    | some j => De.nx (δ2.set i ((δ2.at i).put (ds.set j d)))
    | none => False)
  | _, _ => False) De.ex) De.ex
theorem ds_setIx {i : Nat} {o : Expr} {p2 : Pos} {te tk : TI} (he : DI F W X e te) (ho : PE X o (tVar i)) (hk : DI F W X b tk)
    (ha : ∀ v, assign (.Subscript o b p2) X.env v = (do
      let ov ← holding [v] (eval o X.env)
      let iv ← holding [v, ov] (eval b X.env)
      standAt p2
      holding [v, ov, iv] (setItem ov iv v)
      release [v, ov, iv] []) := by intro _; rfl)
    (hs : swapsWithSole [.Subscript o b p2] e pos.line X.env = pure false := by rfl) (hw : swappedStores [.Subscript o b p2] e X.env = pure none := by rfl)
    (h1 : (assignEach [.Subscript o b p2] X.env).map (·.2) = [assign (.Subscript o b p2) X.env] := by rfl) : DS F W X (.Assign [.Subscript o b p2] e pos) (dSetIx i te tk) := by
  refine PS.imp (ps_asg he (pg_sub ho hk set_list ha) hs hw h1) fun D σ H ⟨R, δ, De, ok, ht, l⟩ => ?_
  refine ⟨R, δ, _, De.ex, ok, ht, fun R1 δ1 H1 v d ok1 ef1 dv1 ⟨hm, h1⟩ => ?_, l.x ok⟩
  obtain ⟨ad, ea⟩ := mut_sat ok1 hm
  have k1 := ef1.keeps ok
  refine ⟨_, sat_some ea, R1, δ1, _, De.ex, ok1, h1, fun R2 δ2 H2 y f ok2 ef2 dv2 h2 => ?_, (l.step k1).x ok1⟩
  cases f with
  | int k =>
    cases q : (δ2.at i).lst? with
    | none => rw [q] at h2; exact h2.elim
    | some ds =>
      rw [q] at h2
      have h3 : (match ixN ds.length k with
        | some j => De.nx (δ2.set i ((δ2.at i).put (ds.set j d)))
        | none => False) := h2
      cases z : ixN ds.length k with
      | none => rw [z] at h3; exact h3.elim
      | some j =>
        rw [z] at h3
        cases dv2
        obtain ⟨a1, vs1, e1, h4, dvl, _⟩ := ok2.mutL q
        rw [ea] at e1
        cases e1
        have k2 := ef2.keeps ok1
        obtain ⟨ok3, ef3, k3⟩ := ok2.write q ea (Dvs.set (dv1.mono k2) j dvl)
        exact ⟨ad, vs1, k, j, rfl, rfl, h4, by rw [dvl.length]; exact z, l.nx _ _ _ _ ok3 ((k1.trans k2).trans k3) h3⟩
  | _ => exact h2.elim
/-! ### xs + ys -/
/-- of two new lists -/
def dCat (ta tb : TD) : TD := fun δ Q X => ta δ (fun x δ1 => match x with
  | .ow xs => tb δ1 (fun y δ2 => match y with
    | .ow ys => xs.length + ys.length ≤ sizeLine ∧ Q (.ow (xs ++ ys)) δ2
    | _ => False) X
  | _ => False) X
theorem de_cat {ta tb : TD} (ha : DE F W X a ta) (hb : DE F W X b tb) : DE F W X (.BinOp a .Add b pos) (dCat ta tb) := by
  refine PE.imp (pe_op op_cat ha hb) fun σ H Q ⟨R, δ, Qd, Xq, ok, ht, hn, hx⟩ => ?_
  refine ⟨R, δ, _, Xq, ok, ht, fun R1 δ1 H1 x rv ok1 ef1 rk1 _ h1 => ?_, hx⟩
  cases rv with
  | im d => exact h1.elim
  | ow xs =>
    obtain ⟨p1, vs1, rfl, e1, dv1, nR1, n01, nm1⟩ := rk1
    refine ⟨R1, δ1, _, Xq, ok1, h1, fun R2 δ2 H2 y rv ok2 ef2 rk2 _ h2 => ?_, hx.step ef1⟩
    cases rv with
    | im d => exact h2.elim
    | ow ys =>
      obtain ⟨p2, vs2, rfl, e2, dv2, nR2, n02, nm2⟩ := rk2
      have dv1' := dv1.mono (ef2.keeps ok1)
      refine ⟨p1, p2, vs1, vs2, rfl, rfl, ef2.keep p1 _ e1 nm1, e2, by rw [dv1'.length, dv2.length]; exact h2.1, fun p hp => ?_⟩
      obtain ⟨ok3, ef3, r, nw⟩ := new_ow ok2 (ef1.trans ef2) hp (dv1'.append dv2)
      exact hn _ δ2 _ _ _ ok3 ef3 r nw h2.2
/-- of a slot's list and a new one -/
def dCatN (i : Nat) (tb : TD) : TD := fun δ Q X => (δ.at i).isMut = true ∧ tb δ (fun y δ2 => match y, (δ2.at i).lst? with
  | .ow ys, some xs => xs.length + ys.length ≤ sizeLine ∧ Q (.ow (xs ++ ys)) δ2
  | _, _ => False) X
theorem de_catN {i : Nat} {tb : TD} (ha : PE X a (tVar i)) (hb : DE F W X b tb) : DE F W X (.BinOp a .Add b pos) (dCatN i tb) := by
  refine PE.imp (pe_op op_cat ha hb) fun σ H Q ⟨R, δ, Qd, Xq, ok, ⟨hm, ht⟩, hn, hx⟩ => ?_
  obtain ⟨ad, ea⟩ := mut_sat ok hm
  refine ⟨_, sat_some ea, R, δ, _, Xq, ok, ht, fun R2 δ2 H2 y rv ok2 ef2 rk2 _ h2 => ?_, hx⟩
  cases rv with
  | im d => exact h2.elim
  | ow ys =>
    cases q : (δ2.at i).lst? with
    | none => rw [q] at h2; exact h2.elim
    | some xs =>
      rw [q] at h2
      obtain ⟨p2, vs2, rfl, e2, dv2, nR2, n02, nm2⟩ := rk2
      obtain ⟨a1, vs1, e1, h4, dvl, _⟩ := ok2.mutL q
      rw [ea] at e1
      cases e1
      refine ⟨ad, p2, vs1, vs2, rfl, rfl, h4, e2, by rw [dvl.length, dv2.length]; exact h2.1, fun p hp => ?_⟩
      obtain ⟨ok3, ef3, r, nw⟩ := new_ow ok2 ef2 hp (dvl.append dv2)
      exact hn _ δ2 _ _ _ ok3 ef3 r nw h2.2
/-! ### repr of data -/
/-- what the library asks of data that are shown -/
def showOk (d : D) : Prop := d.showable = true ∧ d.hasDict = false ∧ d.depth ≤ 40 ∧ d.shown.length ≤ sizeLine
end
end DL


/-! text DL11 -/
set_option maxHeartbeats 400000
set_option Elab.async false
set_option linter.all false
set_option maxRecDepth 100000
/-! DL11: levels, walks over any sequence, nested targets, lent lists, repr. -/
namespace DL
open PySem PySem.Spec PyProof.Rows L2

theorem Dg.up {P : Program} {w : World} {K : PySem.W.Frag} {mg : Str → Option Value} {base : Heap} {x : Str} {j k : Nat} {ps : List Str} {sp : DSp} (D : Dg P w K mg base x j ps sp) (h : j ≤ k) : Dg P w K mg base x k ps sp := by
  obtain ⟨f, fd, G, r⟩ := D.ex
  exact ⟨f, fd, G.mono h, r⟩
theorem takes0 {X : Cx} : L2N.Takes X W0 := fun u s' h => by
  obtain ⟨_, _, _, _, _, _, _, _, _, _, _, _, _, _, _, _, w⟩ := h
  exact w.elim

section
variable {F : Fr} {W : WX} {X : Cx} {e a b c : Expr} {es : List Expr} {pos p apos : Pos}
/-! ### over a list, a tuple or a text -/
def itemsD : D → Option (List D)
  | .list ds => some ds
  | .tuple ds => some ds
  | .str x => some (signsD x)
  | _ => none
def wA (te : TI) : TL := fun δ Q X => te δ (fun d δ' => match itemsD d with
  | some ds => Q ds δ'
  | none => False) X
def iAny (K : PySem.W.Frag) (te : TE) : L2.TI := fun σ H R => te σ H fun v H1 => (∃ a, v = .ref a ∧ (∃ xs, SqL K H1 a xs) ∧ R (Itl K a) H1) ∨ (∃ a, v = .ref a ∧ (∃ xs, SqT K H1 a xs) ∧ R (Itt K a) H1) ∨ ∃ x, v = .str x ∧ R (Its x) H1
theorem pi_any {tg : Expr} {te : TE} (he : PE X e te) : PI X tg e (iAny X.K te) := by
  refine ⟨fun pins s σ H R I h => ?_⟩
  refine thn (he.run pins s σ H _ I h) fun v s1 ⟨y, H1, I1, r1, q1⟩ => ?_
  have one : ∀ {o : Obj}, ∀ b ∈ [s1.heap.objs.size], FpOk X pins H1 b := fun b hb => by
    have e : b = s1.heap.objs.size := by simpa using hb
    subst e
    exact I1.fpOk (Nat.le_refl _) (I1.hok.fresh (Nat.le_refl _))
  rcases q1 with ⟨a, ea, ⟨xs, hq⟩, q⟩ | ⟨a, ea, ⟨xs, hq⟩, q⟩ | ⟨x, ex, q⟩
  · subst ea
    cases r1
    obtain ⟨its, rv, p, hz⟩ := I1.list hq
    refine wpAny_pyIter_list p.isList ?_
    exact ⟨s1.heap.objs.size, [s1.heap.objs.size], _, _, H1, rfl, I1.kept (t' := s1.toks) fun b o e => Heap.get?_push_of_some _ e, turn_list a _, ⟨_, Heap.get?_push_size _ rfl, rfl, rfl⟩, one (o := default), q⟩
  · subst ea
    cases r1
    obtain ⟨its, rv, p, hz⟩ := I1.tuple hq
    refine wpAny_pyIter_tuple (show s1.heap.IsTuple a its.toArray from p) ?_
    exact ⟨s1.heap.objs.size, [s1.heap.objs.size], _, _, H1, rfl, I1.kept (t' := s1.toks) fun b o e => Heap.get?_push_of_some _ e, turn_tuple a _, ⟨_, Heap.get?_push_size _ rfl, rfl, rfl⟩, one (o := default), q⟩
  · subst ex
    obtain ⟨t, rfl⟩ := r1
    cases ha : x.cps.all (· < 128)
    · exact wpAny_pyIter_wide ha (pi_one (tk := s1.toks) I1 _ (turn_str _ x t "str_iterator" (.inr rfl)) ⟨_, Heap.get?_push_size _ rfl, rfl, rfl⟩ q)
    · exact wpAny_pyIter_ascii ha (pi_one (tk := s1.toks) I1 _ (turn_str _ x t "str_ascii_iterator" (.inl rfl)) ⟨_, Heap.get?_push_size _ rfl, rfl, rfl⟩ q)
theorem dw_any {tg : Expr} {te : TI} (hK : F.K = X.K) (h : DI F W X e te) : DW F W X tg e (wA te) := by
  refine ⟨_, pi_any h, fun σ H R δ Qd Xq Rw ok hs hq hx => ?_⟩
  refine ⟨R, δ, _, Xq, ok, hs, fun R' δ' H' v d ok' ef dv q => ?_, hx⟩
  unfold wA at *
  cases d with
  | list ds =>
    obtain ⟨a, rfl⟩ := dv.list_ref
    obtain ⟨xs, hsl, hd⟩ := dv.seqL
    refine .inl ⟨a, rfl, ⟨xs, hK ▸ hsl⟩, hq R' δ' H' _ ds ok' ef ?_ q⟩
    refine ⟨fun i R2 H2 k lt => ?_, fun R2 H2 k => ?_, fun i R2 H2 H3 x σ2 δ2 k ok2 lt hy => ?_⟩
    · obtain ⟨xs2, hs2, hd2⟩ := (dv.mono k).seqL
      obtain ⟨v, ev, _⟩ := hd2.get (List.getElem?_eq_getElem lt)
      exact ⟨xs2, v, hK ▸ hs2, ev⟩
    · obtain ⟨xs2, hs2, hd2⟩ := (dv.mono k).seqL
      exact ⟨xs2, hK ▸ hs2, by rw [hd2.length]; exact Nat.le_refl _⟩
    · obtain ⟨xs2, hs2, hd2⟩ := (dv.mono k).seqL
      obtain ⟨rfl, hy⟩ := hy
      obtain ⟨v, ev, dv2⟩ := hd2.get (List.getElem?_eq_getElem lt)
      have := hy xs2 (hK ▸ hs2)
      rw [ev] at this
      cases this
      exact ⟨R2, _, ok2, Eff.refl _ _ _ _, List.getElem?_eq_getElem lt, dv2⟩
  | tuple ds =>
    obtain ⟨a, rfl⟩ := dv.tuple_ref
    obtain ⟨xs, hsl, hd⟩ := dv.seqT
    refine .inr (.inl ⟨a, rfl, ⟨xs, hK ▸ hsl⟩, hq R' δ' H' _ ds ok' ef ?_ q⟩)
    refine ⟨fun i R2 H2 k lt => ?_, fun R2 H2 k => ?_, fun i R2 H2 H3 x σ2 δ2 k ok2 lt hy => ?_⟩
    · obtain ⟨xs2, hs2, hd2⟩ := (dv.mono k).seqT
      obtain ⟨v, ev, _⟩ := hd2.get (List.getElem?_eq_getElem lt)
      exact ⟨xs2, v, hK ▸ hs2, ev⟩
    · obtain ⟨xs2, hs2, hd2⟩ := (dv.mono k).seqT
      exact ⟨xs2, hK ▸ hs2, by rw [hd2.length]; exact Nat.le_refl _⟩
    · obtain ⟨xs2, hs2, hd2⟩ := (dv.mono k).seqT
      obtain ⟨rfl, hy⟩ := hy
      obtain ⟨v, ev, dv2⟩ := hd2.get (List.getElem?_eq_getElem lt)
      have := hy xs2 (hK ▸ hs2)
      rw [ev] at this
      cases this
      exact ⟨R2, _, ok2, Eff.refl _ _ _ _, List.getElem?_eq_getElem lt, dv2⟩
  | str x =>
    cases dv
    refine .inr (.inr ⟨x, rfl, hq R' δ' H' _ (signsD x) ok' ef ⟨fun i R2 H2 k lt => ?_, fun R2 H2 k => ?_, fun i R2 H2 H3 x σ2 δ2 k ok2 lt hy => ?_⟩ q⟩)
    · rw [signsD_len] at lt; exact lt
    · rw [signsD_len]; exact Nat.le_refl _
    · obtain ⟨rfl, c, hc, rfl⟩ := hy
      exact ⟨R2, _, ok2, Eff.refl _ _ _ _, signsD_get hc, .str _⟩
  | _ => exact q.elim

/-! ### i, (j, l) -/
def gN12 (i j l : Nat) : TGd := fun d δ k => match d with
  | .tuple [x, .tuple [y, z]] => k (((δ.set i (.im x)).set j (.im y)).set l (.im z))
  | _ => False
theorem dg_n12 {i j l : Nat} {x y z : Str} {p1 p2 p3 p4 : Pos} {k k2 : Nat} (hK : F.K = X.K) (hc : X.calm = true) (hN : X.N.Nodup) (hi : X.N[i]? = some x) (hx : Loc X.env.scope x) (hj : X.N[j]? = some y) (hy : Loc X.env.scope y) (hl : X.N[l]? = some z) (hz : Loc X.env.scope z)
    (hf : X.fn x = true ∨ X.env.scope.names.lookup x = some .local := by first | exact .inl rfl | exact .inr rfl | assumption) (hf2 : X.fn y = true ∨ X.env.scope.names.lookup y = some .local := by first | exact .inl rfl | exact .inr rfl | assumption) (hf3 : X.fn z = true ∨ X.env.scope.names.lookup z = some .local := by first | exact .inl rfl | exact .inr rfl | assumption)
    (hn : (assignEach [.Name x p1, .Tuple [.Name y p2, .Name z p3] k2 p4] X.env).length = 2 := by rfl) (hst : (assignEach [.Name x p1, .Tuple [.Name y p2, .Name z p3] k2 p4] X.env).findIdx? (·.1) = none := by rfl)
    (hs1 : (assignEach [.Name x p1, .Tuple [.Name y p2, .Name z p3] k2 p4] X.env).map (·.2) = assign (.Name x p1) X.env :: (assignEach [.Tuple [.Name y p2, .Name z p3] k2 p4] X.env).map (·.2) := by rfl)
    (hs2 : (assignEach [.Tuple [.Name y p2, .Name z p3] k2 p4] X.env).map (·.2) = assign (.Tuple [.Name y p2, .Name z p3] k2 p4) X.env :: (assignEach [] X.env).map (·.2) := by rfl)
    (hn' : (assignEach [.Name y p2, .Name z p3] X.env).length = 2 := by rfl) (hst' : (assignEach [.Name y p2, .Name z p3] X.env).findIdx? (·.1) = none := by rfl)
    (hs1' : (assignEach [.Name y p2, .Name z p3] X.env).map (·.2) = assign (.Name y p2) X.env :: (assignEach [.Name z p3] X.env).map (·.2) := by rfl) (hs2' : (assignEach [.Name z p3] X.env).map (·.2) = assign (.Name z p3) X.env :: (assignEach [] X.env).map (·.2) := by rfl) :
    DG F X (.Tuple [.Name x p1, .Tuple [.Name y p2, .Name z p3] k2 p4] k pos) [i, j, l] (gN12 i j l) := by
  refine PG.imp (pg_tup hc (pgs_cons (pg_name hN hi hx hf) (pgs_cons (pg_tup hc (pgs_cons (pg_name hN hj hy hf2) (pgs_cons (pg_name hN hl hz hf3) pgs_nil hs2') hs1') hn' hst') pgs_nil hs2) hs1) hn hst) fun v σ H Q ⟨R, δ, d, kk, ok, dv, hg, hk⟩ => ?_
  unfold gN12 at hg
  cases d with
  | tuple ds =>
    match ds, hg, dv with
    | [d1, .tuple [d2, d3]], hg, dv =>
      obtain ⟨a, rfl⟩ := dv.tuple_ref
      obtain ⟨xs, hs, hd⟩ := dv.seqT
      obtain ⟨x1, x2, rfl, h1, h2⟩ := dvs2 hd
      obtain ⟨a2, rfl⟩ := h2.tuple_ref
      obtain ⟨ys, hs2, hd2⟩ := h2.seqT
      obtain ⟨x3, x4, rfl, h3, h4⟩ := dvs2 hd2
      have ok1 := ok.assign (rv := .im d1) h1 i
      have ok2 := ok1.assign (rv := .im d2) h3 j
      have ok3 := ok2.assign (rv := .im d3) h4 l
      exact ⟨a, _, rfl, hK ▸ hs, rfl, x1, [.ref a2], rfl, .ref a2, [], rfl, ⟨a2, _, rfl, hK ▸ hs2, rfl, x3, [x4], rfl, x4, [], rfl, rfl, rfl, hk _ _ ok3 (((gs_set ok.len).trans (gs_set ok1.len)).trans (gs_set ok2.len)) hg⟩⟩
  | _ => exact hg.elim
end
end DL


/-! text DL12 -/
set_option maxHeartbeats 400000
set_option Elab.async false
set_option linter.all false
set_option maxRecDepth 100000
/-! DL12: repr of data; a lent list. -/
namespace DL
open PySem PySem.Spec PyProof.Rows L2

/-- the table of modules stands in the written part: a dict -/
def SysK (K : PySem.W.Frag) : Prop := ∃ o es ep, K.lookup sysModules = some o ∧ o.data = .dict es ep
section
variable {X : Cx} {pins : List (Addr × Obj)} {σ : L2.St} {H : Hp} {s : Shared} {R : Rg}
theorem not_sys (I : Inv X pins σ H s) (S : SysK X.K) {a : Addr} {o : Obj} {its : Array Value} {n : Nat} (ho : s.heap.get? a = some o) (hd : o.data = .seq its n) : a ≠ sysModules := by
  rintro rfl
  obtain ⟨o', es, ep, hl, hd'⟩ := S
  have := I.kIn _ _ hl
  rw [ho] at this
  cases this
  rw [hd] at hd'
  cases hd'
mutual
theorem Dv.reads (I : Inv X pins σ H s) (S : SysK X.K) : ∀ (d : D) (v : V) (u : Value), Dv X.K R H v d → RelV v u → ∃ as, sysModules ∉ as ∧ Reads s.heap u d as
  | .none, _, _, h, r => by
    cases h
    cases r
    exact ⟨_, by simp, Reads.none⟩
  | .bool b, _, _, h, r => by
    cases h
    cases r
    exact ⟨_, by simp, Reads.bool b⟩
  | .int i, _, _, h, r => by
    cases h
    obtain ⟨t, rfl⟩ := r
    exact ⟨_, by simp, Reads.int i t⟩
  | .str x, _, _, h, r => by
    cases h
    obtain ⟨t, rfl⟩ := r
    exact ⟨_, by simp, Reads.str x t⟩
  | .list ds, _, _, h, r => by
    obtain ⟨a, rfl⟩ := h.list_ref
    obtain ⟨xs, hs, ha⟩ := h.seqL
    cases r
    obtain ⟨its, rv, ⟨o, n, ho, hc, _, hd⟩, _⟩ := I.list hs
    obtain ⟨as, hn, hr⟩ := Dvs.reads I S ds _ its ha rv
    exact ⟨_, fun m => (List.mem_cons.mp m).elim (fun e => not_sys I S ho hd e.symm) hn, Reads.list ho hc hd hr⟩
  | .tuple ds, _, _, h, r => by
    obtain ⟨a, rfl⟩ := h.tuple_ref
    obtain ⟨xs, hs, ha⟩ := h.seqT
    cases r
    obtain ⟨its, rv, ⟨o, ho, hc, n, hd⟩, _⟩ := I.tuple hs
    obtain ⟨as, hn, hr⟩ := Dvs.reads I S ds _ its ha rv
    exact ⟨_, hn, Reads.tuple ho hc hd hr⟩
  | .dict kvs, _, _, h, r => by
    cases h with
    | emp hR hH =>
      cases r
      obtain ⟨_, hne, vs, kv, o, es, ep, ho, hex, hd, hko, hp, _⟩ := I.hok _ _ hH
      cases kv
      have e : es.toList = [] := by
        generalize es.toList = l at hp
        cases hp
        rfl
      refine ⟨_, ?_, Reads.dict (kvs := []) (as := []) (bs := []) ho hex.1 hd (by rw [e]; exact ReadsAll.nil) (by rw [e]; exact ReadsAll.nil)⟩
      intro m
      rcases List.mem_append.mp m with m | m
      · rcases List.mem_cons.mp m with m | m
        · rw [← m] at hne
          simp at hne
        · cases m
      · cases m
theorem Dvs.reads (I : Inv X pins σ H s) (S : SysK X.K) : ∀ (ds : List D) (vs : List V) (us : List Value), Dvs X.K R H vs ds → Vals vs us → ∃ as, sysModules ∉ as ∧ ReadsAll s.heap us ds as
  | [], _, _, h, r => by
    cases h
    cases r
    exact ⟨_, by simp, ReadsAll.nil⟩
  | d :: ds, _, _, h, r => by
    cases h with
    | cons h1 h2 =>
      cases r with
      | cons r1 r2 =>
        obtain ⟨as, n1, q1⟩ := Dv.reads I S d _ _ h1 r1
        obtain ⟨bs, n2, q2⟩ := Dvs.reads I S ds _ _ h2 r2
        exact ⟨_, fun m => (List.mem_append.mp m).elim n1 n2, ReadsAll.cons q1 q2⟩
end
end
/-- data that repr shows -/
def shOk (d : D) : Prop := d.showable = true ∧ d.depth ≤ 40 ∧ d.shown.length ≤ sizeLine ∧ ∃ ds, d = .list ds ∨ d = .tuple ds
theorem call_repr {X : Cx} (hu : X.A.units + 64 < cLine) (hg : X.A.guards = some []) (S : SysK X.K) : CallR X (.builtin "repr") (fun xs H Q => ∃ (R : Rg) (v : V) (d : D), xs = [v] ∧ Dv X.K R H v d ∧ shOk d ∧ Q (.str d.shown) H) := by
  intro pins s σ H xs us Q I r h
  obtain ⟨R, v, d, rfl, dv, ⟨h1, h2, h3, ds, h4⟩, q⟩ := h
  obtain ⟨u, rfl, rx⟩ := vals1 r
  have ⟨a, ea⟩ : ∃ a, v = .ref a := by
    rcases h4 with rfl | rfl
    · exact dv.list_ref
    · exact dv.tuple_ref
  subst ea
  obtain ⟨as, hn, hr⟩ := Dv.reads I S d _ _ dv rx
  obtain rfl : u = Value.ref a := rx
  refine repr_of_reads' hr h1 (fun _ => hn) hg (by omega) (fun _ _ e => e) (fun h' t tk k => ?_) h3
  exact ⟨.str d.shown, H, I.kept (t' := tk) k, ⟨t, rfl⟩, q⟩
section
variable {F : Fr} {W : WX} {X : Cx} {e a b c : Expr} {es : List Expr} {pos p apos : Pos}
def rRepr : RC := fun ds k => match ds with
  | [d] => shOk d ∧ k (.str d.shown)
  | _ => False
theorem cd_repr (hK : F.K = X.K) (hu : X.A.units + 64 < cLine) (hg : X.A.guards = some []) (S : SysK X.K) : CallD F X (.builtin "repr") rRepr := by
  refine ⟨_, call_repr hu hg S, fun R H xs ds k Q dv hr hk => ?_⟩
  match ds, hr, dv with
  | [d], hr, dv =>
    obtain ⟨v, rfl, dd⟩ := dvs1 dv
    exact ⟨R, v, d, rfl, hK ▸ dd, hr.1, hk _ _ hr.2 rfl⟩

/-! ### a list lent to a def that only looks -/
theorem Ok.more {R : Rg} {σ : L2.St} {δ : Ds} {H H' : Hp} (ok : Ok F R σ δ H) (k : ∀ b o, H b = some o → H' b = some o) : Ok F R σ δ H' ∧ Eff σ R H δ R H' δ := by
  have th : ∀ b, H b ≠ none → H' b ≠ none := fun b h => by
    cases q : H b with
    | none => exact absurd q h
    | some o => rw [k b o q]; simp
  refine ⟨⟨ok.len, fun j => (ok.sl j).mono ⟨fun _ h => h, fun b o _ h => k b o h⟩ fun m b e => ?_, ok.nd, fun b u h n => k _ _ (ok.keep b u h n), fun b h => th b (ok.there b h), ok.sub, ok.new, fun b h => th b (ok.rin b h), ok.fB⟩,
    ⟨fun b o h _ => k b o h, th, fun _ h => h, fun _ h => .inl h, fun _ _ h => h, fun _ _ h => h⟩⟩
  have mm : MutAt σ δ j b := ⟨m, e⟩
  refine ⟨?_, mm.notR ok⟩
  cases q : H b with
  | none => exact absurd q (mm.some ok)
  | some o => exact k b o q
def dLend (sp : DSp) (i : Nat) (t : TL) : TI := fun δ Q X => (δ.at i).isMut = true ∧ t δ (fun ds δ1 => match (δ1.at i).lst? with
  | some xs => sp (.im (.list xs) :: ds.map .im) (fun rv _ => match rv with
    | .im d => (∃ v, flat d = some v) ∧ Q d δ1
    | .ow _ => False) (fun _ _ => False)
  | none => False) X
theorem paired_im {K : PySem.W.Frag} {R : Rg} {H : Hp} : ∀ {vs : List V} {ds : List D}, Dvs K R H vs ds → Paired (AgOk K R H) vs (ds.map .im) ∧ mts vs (ds.map .im) = []
  | _, _, .nil => ⟨.nil, rfl⟩
  | _, _, .cons h hs => ⟨.cons h (paired_im hs).1, (paired_im hs).2⟩
theorem flat_eq {K : PySem.W.Frag} {R : Rg} {H : Hp} {d : D} {v x : V} (h : flat d = some v) (dv : Dv K R H x d) : x = v := by
  cases d <;> simp [flat] at h <;> subst h <;> cases dv <;> rfl
theorem di_lend {x : Str} {k : Nat} {ps : List Str} {sp : DSp} {i : Nat} {t : TL} (hK : F.K = X.K) (D : Df X x k ps sp) (hr : Room k X.A) (hgd : X.A.guards = some []) (tk : L2N.Takes X W) (hn : PE X e (tVar i)) (ha : DA F W X es t) (hg : Gl X x := by rfl) (hdb : (x == ("__debug__" : Str)) = false := by decide)
    (he : starEach (e :: es) X.env = (false, eval e X.env) :: starEach es X.env := by rfl) (hpl : (backTo pos (starEach es X.env)).any (·.1) = false := by rfl) : DI F W X (.Call (.Name x p) (e :: es) [] pos) (dLend sp i t) := by
  obtain ⟨f, fd, G, hm, hk, hb⟩ := D.ex
  refine PE.imp (pe_callG (dvs := []) (ds := []) G hr hgd hg hm hk hb .nil (fun σ => L2N.passAt tk σ) (pa_cons hn ha he) hdb he hpl) fun σ H Q ⟨R, δ, Qd, Xq, ok, ⟨mu, ht⟩, hn, hx⟩ => ?_
  obtain ⟨ad, ea⟩ := mut_sat ok mu
  refine ⟨_, sat_some ea, R, δ, _, Xq, ok, ht, fun R1 δ1 H1 vs ds ok1 ef1 hv h1 => ?_, hx⟩
  cases q : (δ1.at i).lst? with
  | none => rw [q] at h1; exact h1.elim
  | some xs =>
    rw [q] at h1
    obtain ⟨a, ws, ea', eh, dv, mi⟩ := ok1.mutL q
    rw [ea] at ea'
    cases ea'
    have kR : Keeps R1 H1 (fun b => R1 b ∨ b = ad) H1 := ⟨fun _ h => .inl h, fun _ _ _ h => h⟩
    obtain ⟨p1, p2⟩ := paired_im (hv.mono kR)
    show lsp X.K sp ((.ref ad :: vs) ++ []) H1 Q (WE W σ)
    rw [List.append_nil, ← hK]
    refine ⟨fun b => R1 b ∨ b = ad, .im (.list xs) :: ds.map .im, _, _, .cons (show AgOk F.K (fun b => R1 b ∨ b = ad) H1 (.ref ad) (.im (.list xs)) from Dv.lst (.inl ⟨.inr rfl, .inl eh⟩) (dv.mono kR)) p1, ?_, ?_, h1, fun R' H' v rv outs po ret hq => ?_, fun R' H' cls d ex outs po ex' hq => hq.elim⟩
    · show (mts vs (ds.map .im)).Nodup
      rw [p2]
      exact List.nodup_nil
    · rintro b (h | rfl)
      · exact ok1.rin b h
      · rw [eh]; simp
    · cases rv with
      | ow _ => exact hq.elim
      | im d =>
        obtain ⟨⟨u, eu⟩, hq⟩ := hq
        have ev := flat_eq eu ret
        subst ev
        obtain ⟨ok2, ef2⟩ := ok1.more (fun b o h => po.keep b o h (by show b ∉ mts vs (ds.map .im); rw [p2]; simp))
        exact hn R1 δ1 H' v d ok2 (ef1.trans ef2) (flat_dv eu) hq
end
end DL


/-! text DL13 -/
set_option maxHeartbeats 400000
set_option Elab.async false
set_option linter.all false
set_option maxRecDepth 100000
/-! DL13: own exceptions: their __init__, raise. -/
namespace DL
open PySem PySem.Spec PyProof.Rows L2

/-- the promise of an own exception's __init__ that stores its parameters -/
def spIni (C : Addr) (n : Nat) (fs : List Str) : Sp := fun vs H Q _ => ∃ (a : Addr) (xs : List V), vs = .ref a :: xs ∧ xs.length = n ∧ n = fs.length ∧ H a = some (exo a C none) ∧
  ∀ (H' : Hp) (dx : Addr), H dx = none → dx ≠ a → H' a = some (exo a C (some dx)) → H' dx = some (exd dx (fs.zip xs).reverse) → (∀ b, b ≠ a → b ≠ dx → H' b = H b) → Q .non H'
/-- what the written part says of an own exception's class -/
structure ErrC (P : Program) (w : World) (K : PySem.W.Frag) (mg : Str → Option Value) (base : Heap) (x : Str) (C : Addr) (fs : List Str) : Prop where
  T : OexC K C
  gl : mg x = some (.ref C)
  xf : XfC K C
  xc : ExcC K C
  no : ∀ f ∈ fs, PySem.W.findIn K (.ref C) f = some none
  ini : ∃ (fI : Addr) (fd : FuncData) (ps : List Str), PySem.W.findIn K (.ref C) "__init__" = some (some (.ref fI)) ∧ PySem.W.typeIn K (.ref fI) = some (.type "function") ∧ FnOk P w K mg base CX0 1 fI fd ps (spIni C fs.length fs) ∧ Binds K fd ps []
section
variable {K : PySem.W.Frag} {C : Addr}
theorem ini1 {f : Str} (T : OexC K C) (no : PySem.W.findIn K (.ref C) f = some none) {vs : List V} {H : Hp} {Q : VK} {E : XK} {N : List Str} (hN : 2 ≤ N.length) (h : spIni C 1 [f] vs H Q E) :
    tOst K f (tVar 0) (tVar 1) { nx := fun _ H' => Q .non H', rt := Q } (L2.start N vs) H := by
  obtain ⟨a, xs, rfl, hl, _, ha, hq⟩ := h
  match xs, hl with
  | [x], _ =>
    refine ⟨x, rfl, .ref a, rfl, a, C, rfl, T, no, .inl ⟨ha, fun dx hd ne => ?_⟩⟩
    refine hq _ dx hd ne upd_same ?_ fun b h1 h2 => ?_
    · rw [upd_ne ne, upd_same]
      rfl
    · rw [upd_ne h1, upd_ne h2]
theorem ini2 {f g : Str} (T : OexC K C) (no : PySem.W.findIn K (.ref C) f = some none) (no2 : PySem.W.findIn K (.ref C) g = some none) {vs : List V} {H : Hp} {Q : VK} {E : XK} {N : List Str} (hN : 3 ≤ N.length) (h : spIni C 2 [f, g] vs H Q E) :
    tOst K f (tVar 0) (tVar 1) { nx := fun σ H' => tOst K g (tVar 0) (tVar 2) { nx := fun _ H' => Q .non H', rt := Q } σ H', rt := Q } (L2.start N vs) H := by
  obtain ⟨a, xs, rfl, hl, _, ha, hq⟩ := h
  match xs, hl with
  | [x, y], _ =>
    refine ⟨x, rfl, .ref a, rfl, a, C, rfl, T, no, .inl ⟨ha, fun dx hd ne => ?_⟩⟩
    refine ⟨y, rfl, .ref a, rfl, a, C, rfl, T, no2, .inr ⟨dx, [(f, x)], upd_same, ?_, Nat.le_of_ble_eq_true rfl, ?_⟩⟩
    · rw [upd_ne ne, upd_same]
    · refine hq _ dx hd ne ?_ upd_same fun b h1 h2 => ?_
      · rw [upd_ne ne.symm, upd_same]
      · rw [upd_ne h2, upd_ne h1, upd_ne h2]
end
/-- C(e, ..), its context None: raised where nothing is handled -/
theorem pmkN_oex {X : Cx} {e : Expr} {es : List Expr} {ta : TA} {p pos : Pos} {CX : CXT} {x : Str} {C fI : Addr} {k : Nat} {fd : FuncData} {ps : List Str} {sp : Sp} (T : OexC X.K C) (iC : PySem.W.findIn X.K (.ref C) "__init__" = some (some (.ref fI))) (tI : PySem.W.typeIn X.K (.ref fI) = some (.type "function"))
    (F1 : FnOk X.prog X.w X.K X.mg X.base CX k fI fd ps sp) (hr : Room (k + 1) X.A) (hb : L2.Binds X.K fd ps []) (hx : Passes CX X (fun _ _ _ => False)) (hg : Gl X x) (hm : X.mg x = some (.ref C)) (ha : PA X (e :: es) ta)
    (hdb : (x == ("__debug__" : Str)) = false := by decide) (he : starEach (e :: es) X.env = (false, eval e X.env) :: starEach es X.env := by rfl) (hpl : (backTo pos (starEach es X.env)).any (·.1) = false := by rfl) :
    L2N.PMk X (.Call (.Name x p) (e :: es) [] pos) (tMkO C sp [] ta) := by
  intro pins s σ H Q I h
  obtain ⟨nm, q, N, bs, bm, sn, sub, ab, col, dd, k0, k1, k2, k3, k5, hC, hbm⟩ := T.cls
  refine wpAny_Call_Name_kw (ld_glob I hg hm ?_ hdb)
  refine PySem.W.callWith_K (h₀ := X.base) I.ok.mod.kin T.kC (thn (ha.run pos pins s σ H _ I h) fun us s1 ⟨vs, H1, I1, r1, hz, q1⟩ => ⟨I1.kIn, ?_⟩) he hpl
  show wpAny _ _ (call (.ref C) us) _ _ _
  obtain ⟨hp, g, dr, tk, os⟩ := s1
  generalize hA : hp.objs.size + 1 = a
  generalize hHp : (hp.push (PySem.W.kdv_tup us)).push (PySem.HandSPX.excO C hp.objs.size) = hp'
  have hsz : hp.objs.size ≤ a := by omega
  have hn : H1 a = none := I1.hok.fresh hsz
  have hq := q1 a hn
  rw [List.append_nil] at hq
  have kk : ∀ b o, hp.get? b = some o → hp'.get? b = some o := fun b o e => by
    rw [← hHp]
    exact Heap.get?_push_of_some _ (Heap.get?_push_of_some _ e)
  have hget : hp'.get? a = some (PySem.HandSPX.excO C hp.objs.size) := by
    rw [← hHp, ← hA]
    heap_get
  have I2 : Inv X pins σ (upd H1 a (exo a C none)) ⟨hp', g, dr, tk, os⟩ := I1.laid (t' := tk) (a := a) (o := exo a C none) (h' := hp') kk hsz (exo_ok hget)
  have r2 : Vals (V.ref a :: vs) (Value.ref a :: us) := .cons rfl r1
  have hl : (Value.ref a :: us ++ []).length = ps.length := by
    rw [List.append_nil, ← r2.length]
    exact F1.len _ _ _ _ hq
  have hus : us.length ≤ sizeLine := by
    rw [← Paired.length r1, sizeLine_eq]
    omega
  have b2 := hb ⟨hp', g, dr, tk, os⟩ (Value.ref a :: us) I2.kIn hl
  rw [List.append_nil] at b2
  have run := F1.run _ X.stack _ _ ⟨Value.ref a :: us, []⟩ (Value.ref a :: us) _ _ (fun _ _ _ => False) (hr.make C us []) (I2.env0.make C us []) b2 r2 hq
  subst hHp hA
  refine wpAny_call (PySem.HandSPX.call_own F.excBase_ValueError (fun Y => PySem.HandSPX.refsVE_contains Y bm hbm) (I1.kIn _ _ hC) (PySem.W.looks_findIn I1.kIn iC) (fun self => PySem.W.bind_fn I1.kIn self tI) hus (codeAny_mono run fun r s' hq' => ?_))
  cases r with
  | error er => exact hx pins σ _ _ er s' I2 hq'
  | ok fl =>
    cases fl with
    | ret u =>
      obtain ⟨v, H2, os2, bare2, un2, hok2, rv, ev, d, fs, ea, ed, hd1, q2⟩ := hq'
      subst ev
      obtain ⟨h2, g2, d2, t2, os'⟩ := s'
      obtain ⟨t0, G, J, kG, ge, hoe, na⟩ := mk_end0 (d2 := d2) (t2 := t2) I1 hsz kk un2 hok2 os2 bare2 ea ed hd1
      exact ⟨rv, _, _, _, ⟨G, g2, d2, t2, os'⟩, _, .ref C, some d, rfl, J, kG, ge, hoe, ⟨rfl, rfl, fun vs e => by cases e; rfl⟩, rfl, rfl, na, rfl, bare2, raises_own T.exC T.tyC, q2⟩
    | next => exact False.elim hq'
    | brk => exact False.elim hq'
    | cont => exact False.elim hq'
section
variable {F : Fr} {W : WX} {X : Cx} {e a b c : Expr} {es : List Expr} {pos p apos : Pos}
/-- raise C(e, ..) -/
def dRaise (C : Addr) (fs : List Str) (t : TL) : TSd := fun De δ => t δ (fun ds δ' => ds.length = fs.length ∧ De.ex ⟨C, (fs.zip ds).reverse⟩ δ') De.ex
theorem zip_dvs {K : PySem.W.Frag} {R : Rg} {H : Hp} : ∀ {vs : List V} {ds : List D} {fs : List Str}, Dvs K R H vs ds → vs.length = fs.length → (fs.zip vs).map (·.1) = fs ∧ (fs.zip vs).map (·.2) = vs ∧ (fs.zip ds).map (·.1) = fs ∧ (fs.zip ds).map (·.2) = ds
  | _, _, [], .nil, _ => ⟨rfl, rfl, rfl, rfl⟩
  | _, _, f :: fs, .cons h hs, l => by
    obtain ⟨h1, h2, h3, h4⟩ := zip_dvs (fs := fs) hs (by simpa using l)
    refine ⟨?_, ?_, ?_, ?_⟩ <;> simp [h1, h2, h3, h4]
theorem ds_raise {x : Str} {C : Addr} {fs : List Str} {t : TL} (hK : F.K = X.K) (Z : ErrC X.prog X.w X.K X.mg X.base x C fs) (hr : Room 2 X.A) (hc : X.calm = true) (tk : L2N.Takes X W) (hf : fs.length ≤ 900) (ha : DA F W X (e :: es) t) (hg : Gl X x := by rfl) (hdb : (x == ("__debug__" : Str)) = false := by decide)
    (he : starEach (e :: es) X.env = (false, eval e X.env) :: starEach es X.env := by rfl) (hpl : (backTo pos (starEach es X.env)).any (·.1) = false := by rfl) : DS F W X (.Raise (some (.Call (.Name x p) (e :: es) [] pos)) none apos) (dRaise C fs t) := by
  obtain ⟨fI, fd, ps, iC, tI, F1, hb⟩ := Z.ini
  refine PS.imp (L2N.ps_raise hc tk (pmkN_oex Z.T iC tI F1 hr hb pass0 hg Z.gl ha hdb he hpl)) fun D σ H ⟨R, δ, De, ok, ht, l⟩ => ?_
  refine ⟨R, δ, _, De.ex, ok, ht, fun R1 δ1 H1 vs ds ok1 ef1 dv ⟨hl, h1⟩ => ?_, l.x ok⟩
  have hvl : vs.length = fs.length := by rw [dv.length]; exact hl
  refine ⟨by omega, fun a0 ha0 => ⟨a0, vs ++ [], rfl, by rw [List.append_nil]; exact hvl, rfl, upd_same, fun H' dx hd ne h1' h2' h3' => ⟨rfl, dx, _, h1', h2', ?_, ?_⟩⟩⟩
  · rw [upd_ne ne] at hd
    exact hd
  · rw [upd_ne ne] at hd
    have eH : upd (del H' a0) dx (.xd (fs.zip (vs ++ [])).reverse) = upd H1 dx (.xd (fs.zip vs).reverse) := by
      rw [List.append_nil]
      funext b
      by_cases e1 : b = dx
      · subst e1
        rw [upd_same, upd_same]
      · rw [upd_ne e1, upd_ne e1]
        by_cases e2 : b = a0
        · subst e2
          rw [del_same, ha0]
        · rw [del_ne e2, h3' b e2 e1, upd_ne e2]
    rw [eH]
    obtain ⟨ok2, ef2⟩ := ok1.newIm (o := .xd (fs.zip vs).reverse) hd
    obtain ⟨z1, z2, z3, z4⟩ := zip_dvs (fs := fs) dv hvl
    refine l.ex _ σ δ1 _ _ _ ⟨C, (fs.zip ds).reverse⟩ ok2 ((ef1.trans ef2).keeps ok) ⟨rfl, dx, _, rfl, upd_same, .inr rfl, ?_, ?_⟩ h1
    · rw [List.map_reverse, List.map_reverse, z1, z3]
    · rw [List.map_reverse, List.map_reverse, z2, z4]
      exact (dv.mono (ef2.keeps ok1)).reverse
end
end DL


/-! text DL14 -/
set_option maxHeartbeats 400000
set_option Elab.async false
set_option linter.all false
set_option maxRecDepth 100000
/-! DL14: try: .. except A as e: .. except B as e: .. -/
namespace L2N
open PySem PySem.Spec PyProof.Rows L2
/-- what the clauses 'except c as n' wish of an exception of the body, one after the other: slot i is n's -/
def wManyA (K : PySem.W.Frag) (i : Nat) (Wout : WX) (D : Ends) : List (Value × (Addr → Value → Option Addr → TS)) → WX
  | [] => Wout
  | (c, ts) :: r => fun cls d σ H => ∃ b, PySem.W.exmOne K cls c = some b ∧
    (b = true → ∀ a, H a = none → ts a cls d { nx := fun σ' H' => D.nx (σ'.set i none) H', rt := D.rt, bk := fun σ' H' => D.bk (σ'.set i none) H', ct := fun σ' H' => D.ct (σ'.set i none) H' } (σ.set i (some (.ref a))) H) ∧ (b = false → wManyA K i Wout D r cls d σ H)
inductive HdsA (X : Cx) (n : Str) : List ExceptHandler → List (Value × (Addr → Value → Option Addr → TS)) → Prop
  | nil : HdsA X n [] []
  | cons {x : Str} {c : Value} {ts : Addr → Value → Option Addr → TS} {b₀ : Stmt} {suite : List Stmt} {np pos' : Pos} {hds : List ExceptHandler} {l : List (Value × (Addr → Value → Option Addr → TS))} (hc : Names X x c)
      (hsu : ∀ (a : Addr) (oe : Obj) (cls : Value) (d : Option Addr) (pn : List (Addr × Obj)), Zn cls d oe → (∃ vs, oe.data = .fields vs) → PSs (X.suite a ((a, oe) :: pn)) (b₀ :: suite) (ts a cls d)) (r : HdsA X n hds l) :
      HdsA X n (.ExceptHandler (some (.Name x np)) (some n) (b₀ :: suite) pos' :: hds) ((c, ts) :: l)
section
variable {X : Cx} {n : Str} {i : Nat} {body : List Stmt} {h₀ : ExceptHandler} {hds : List ExceptHandler} {l : List (Value × (Addr → Value → Option Addr → TS))} {pos : Pos} {tb : WX → TS} {Wout : WX}
theorem ps_try_manyA (hs : X.stack = X.env :: X.outer) (hf : X.env.frame = some X.env.locals) (hN : X.N.Nodup) (hi : X.N[i]? = some n) (hln : X.env.kindOf n = some .local) (tk : Takes X Wout)
    (hb : ∀ (W : WX) (pn : List (Addr × Obj)) (xe : Value → Shared → Prop), Takes (X.tr pn xe) W → PassesOwn (model X.prog X.w) X.A X.env xe → PSs (X.tr pn xe) body (tb W))
    (hh : HdsA X n (h₀ :: hds) l) : PS X (.Try body (h₀ :: hds) [] [] pos) (fun D σ H => tb (wManyA X.K i Wout D l) D σ H) := by
  refine ⟨fun pins s σ H D I h => ?_⟩
  have ok := I.ok
  have hfr : X.A.frames = some (X.env :: X.outer) := by rw [ok.frames, hs]
  have hloc : Loc X.env.scope n := .inl hln
  refine wpAny_Try_except ?_
  refine wpAny_mono ((hb (wManyA X.K i Wout D l) (X.pn ++ pins) (fun e s₁ => wpAny (model X.prog X.w) X.A (noteFrame e X.env) (fun _ s₂ => wpAny (model X.prog X.w) X.A (setFlight e none) (fun _ s₃ =>
    wpAny (model X.prog X.w) X.A (handleBy e X.env (h₀ :: hds)) (SP X pins D) X.xe s₃) X.xe s₂) X.xe s₁) (fun u s' xx => ?_) PassesOwn.looking).run [] s σ H D (I.toTry _) h) (fun f s1 hsp => ?_) (fun e s1 he => he)
  · obtain ⟨a, B, sI, pins', σ', H', cls, d, rfl, J', nb, up, sky, na, os, ag, w⟩ := xx
    have J : Inv X pins σ' H' sI := J'.ofTry ok
    have sky' : Sky B (X.env :: X.outer) a (Zn cls d) X.env.locals s'.heap := by rw [← hs]; exact sky
    show wpAny (model X.prog X.w) X.A (noteFrame (.ref a) X.env) _ _ _
    refine Sky.land Zn.steady hfr hf sky' fun h3 fl3 up3 => ?_
    have J3 : Inv X pins σ' H' { s' with heap := h3 } := J.landed nb fl3.1 (up.trans up3) os ag
    obtain ⟨oe3, vs3, he3, hz3, hd3⟩ := fl3.there
    have notFr : ∀ {h : Heap} {o : Obj} {vs : Array Value}, h.FunFrames B (X.env :: X.outer) → h.get? a = some o → o.data = .fields vs → a ∉ frs (X.env :: X.outer) := fun {h o vs} ff e dd hm => by
      obtain ⟨_, o', e', hnf⟩ := ff.mem hm
      rw [e] at e'
      cases e'
      exact hnf _ dd
    have nfr := notFr fl3.2.2.1 he3 hd3
    have nL : a ≠ X.env.locals := fun z => nfr (List.mem_filterMap.mpr ⟨X.env, List.mem_cons_self, by rw [hf, z]⟩)
    have nF : a ∉ X.fs := fun hm => by
      obtain ⟨e, he, q⟩ := List.mem_filterMap.mp hm
      exact nfr (List.mem_filterMap.mpr ⟨e, List.mem_cons_of_mem _ he, q⟩)
    have S3 := J3.suite he3 hd3 na nL nF
    have go : ∀ {hds' : List ExceptHandler} {l' : List (Value × (Addr → Value → Option Addr → TS))}, HdsA X n hds' l' → wManyA X.K i Wout D l' cls d σ' H' →
        wpAny (model X.prog X.w) X.A (handleBy (.ref a) X.env hds') (SP X pins D) X.xe { s' with heap := h3 } := by
      intro hds' l' hk
      induction hk with
      | nil =>
        intro w
        refine wpAny_handleBy_nil ?_
        obtain ⟨k1, k2, k3, oe, vs, T, oT, ts', he, hz, hd, h1, hr⟩ := id fl3
        unfold PySem.passOn
        refine wpAny_bind (wpAny_field he hd h1 ?_)
        rw [if_neg (show ¬ ((Value.ref T == Value.none) = true) from by simp)]
        have fin : wpAny (model X.prog X.w) X.A (setFlight (.ref a) X.env.frame) (fun _ s4 => wpAny (model X.prog X.w) X.A (throw (.ref a) : Sem Flow) (SP X pins D) X.xe s4) X.xe { s' with heap := h3 } := by
          rw [hf]
          refine HandSPX.setFlight_upZ fl3 fun h4 hh4 up4 => wpAny_throw (tk _ _ ?_)
          exact ⟨a, B, sI, pins, σ', H', cls, d, rfl, J, nb, (up.trans up3).trans up4, .inr (.inr (by rw [hs]; exact hh4)), na, os, ag, w⟩
        first
          | exact wpAny_bind (wpAny_pure (wpAny_bind fin))
          | exact wpAny_bind fin
      | @cons x c ts b₀ suite np pos' hds2 l2 hc hsu r ih =>
        intro w
        obtain ⟨b, hb1, hyes, hno⟩ := w
        refine wpAny_handleBy_cons (codeAny_handlers_test ?_) (by intro q; cases q)
        have LT : PySem.W.Looks (model X.prog X.w) h3 (typeOf (.ref a)) cls := fun A Q E s k q => wpAny_typeOf_ref (k _ _ he3) (by rw [hz3.1]; exact q)
        have LM := PySem.W.exm_one (M := model X.prog X.w) (J3.kIn) LT hb1
        have test : ∀ {Q : Value → Shared → Prop} {E : Value → Shared → Prop}, Q c { s' with heap := h3 } → wpAny (model X.prog X.w) (X.A.mark (some (.ref a))) (eval (.Name x np) X.env) Q E { s' with heap := h3 } := fun {Q E} q => by
          obtain ⟨hg, hdbg, hm | ⟨hm, hv, hnn⟩⟩ := hc
          · exact ld_glob (X := X.suite a ((a, oe3) :: (X.pn ++ pins))) S3 hg hm q hdbg
          · exact ld_blt (X := X.suite a ((a, oe3) :: (X.pn ++ pins))) S3 hg hm hv q hnn hdbg
        refine test (LM.here ?_)
        cases b with
        | true =>
          refine codeAny_handlers_suite_as ?_
          refine HandSPX.lands_againZ fl3 fun h4 fl4 up4 => ?_
          have J4 : Inv X pins σ' H' { s' with heap := h4 } := J.landed nb fl4.1 ((up.trans up3).trans up4) os ag
          obtain ⟨oe4, vs4, he4, hz4, hd4⟩ := fl4.there
          have S4 := J4.suite he4 hd4 na nL nF
          refine store_ok (X := X.suite a ((a, oe4) :: (X.pn ++ pins))) (v := .ref a) S4 hN hi hloc rfl (fun s5 S5 => ?_) (.inr hln)
          refine wpAny_mono ((hsu a oe4 cls d (X.pn ++ pins) hz4 ⟨_, hd4⟩).run [] s5 _ H' _ S5 (hyes rfl a na)) (fun f s6 hsp => ?_) (fun _ _ z => False.elim z)
          have end_ : ∀ {σ6 : L2.St} {H6 : Hp} {Q : Shared → Prop}, Inv (X.suite a ((a, oe4) :: (X.pn ++ pins))) [] σ6 H6 s6 → (∀ s7, Inv X pins (σ6.set i none) H6 s7 → Q s7) →
              wpAny (model X.prog X.w) X.A (do bindName X.env n .none; unbindBehindTheSuite X.env n pos') (fun _ s7 => Q s7) X.xe s6 := fun {σ6 H6 Q} S6 hq => gone_ok (S6.unsuite ok) hN hi hln hq
          cases f with
          | next =>
            obtain ⟨σ6, H6, S6, q6⟩ := hsp
            exact end_ S6 fun s7 J7 => ⟨_, _, J7, q6⟩
          | brk =>
            obtain ⟨σ6, H6, S6, q6⟩ := hsp
            exact end_ S6 fun s7 J7 => ⟨_, _, J7, q6⟩
          | cont =>
            obtain ⟨σ6, H6, S6, q6⟩ := hsp
            exact end_ S6 fun s7 J7 => ⟨_, _, J7, q6⟩
          | ret u =>
            obtain ⟨v6, σ6, H6, S6, r6, q6⟩ := hsp
            exact end_ S6 fun s7 J7 => ⟨_, _, _, J7, r6, q6⟩
        | false =>
          show wpAny _ X.A (handleBy (.ref a) X.env hds2) _ _ _
          exact ih (hno rfl)
    exact go hh w
  · cases f with
    | next =>
      obtain ⟨σ', H', J', q⟩ := hsp
      exact wpAny_execs_nil ⟨σ', H', J'.ofTry ok, q⟩
    | brk =>
      obtain ⟨σ', H', J', q⟩ := hsp
      exact ⟨σ', H', J'.ofTry ok, q⟩
    | cont =>
      obtain ⟨σ', H', J', q⟩ := hsp
      exact ⟨σ', H', J'.ofTry ok, q⟩
    | ret u =>
      obtain ⟨v, σ', H', J', r, q⟩ := hsp
      exact ⟨v, σ', H', J'.ofTry ok, r, q⟩
end
end L2N


/-! text DL15 -/
set_option maxHeartbeats 400000
set_option Elab.async false
set_option linter.all false
set_option maxRecDepth 100000
/-! DL15: a def in an except suite; isinstance of a caught error with fields. -/
namespace PySem.W
open PySem PySem.Spec PySem.Calls PyProof.Rows
section
variable {prog : Program} {w : World} {A : Around} {E : Value → Shared → Prop} {s : Shared} {K : Frag} {x D : Addr} {ox : Obj} {od : Option Obj}
theorem findObj_dataO {C : Addr} {name : Str} {a g : Value} (hc : (clsIn K C).isSome = true) (ha : findIn K (.ref C) name = some (some a)) (hg : specialIn K a "__get__" = some (some g)) (ht : takesIn K a = some true) : findObj K C od name = some (.bind g a) := by
  obtain ⟨cd, hc⟩ := Option.isSome_iff_exists.mp hc
  unfold findObj
  rw [hc, Option.bind_some, ha, Option.bind_some]
  simp [hg, ht]
/-- e.__class__, e an own exception, with its own dict or without -/
theorem kin_classO {Q : Option Value → Shared → Prop} (C : L2.ExcC K D) (X : K.In s.heap) (I : InstAt s.heap x ox D od) (h : Q (some (.ref D)) { s with toks := s.toks + 1 }) : wpAny (model prog w) A (getAttr? (.ref x) "__class__") Q E s := by
  have hf : findObj K D od "__class__" = some (.bind (.builtin "getset_descriptor.__get__") (.builtin "object.__class__")) := findObj_dataO (by obtain ⟨cd, hc, _⟩ := any_some C.hd; rw [hc]; rfl) C.ha C.hn C.ht
  obtain ⟨hp, g, d, t, os⟩ := s
  have L0 := I.type (M := model prog w)
  have L1 := looks_findIn (M := model prog w) X C.hg
  have L2 := looks_findIn (M := model prog w) X C.hk
  have L3 := looks_find (M := model prog w) X I hf
  have sub : Looks (model prog w) hp (isInstance (.ref x) (.type "BaseException")) true := L0.andThen (looks_subIn X C.hs)
  have hx0 : (false && onTheHeap (Value.builtin "BaseException.__getattribute__")) = false := rfl
  have hx1 : (onTheHeap (Value.ref D) && Value.builtin "BaseException.__getattribute__" == Value.builtin "object.__getattribute__") = false := by
    rw [show (Value.builtin "BaseException.__getattribute__" == Value.builtin "object.__getattribute__") = false from by decide +kernel]
    rfl
  unfold getAttr? getAttrBy? getAttrBy
  refine wpAny_bind (wpAny_mkText (wpAny_bind (wpAny_attempt (wpAny_holding (wpAny_bind (L0.at (wpAny_bind (L1.at ?_))))))))
  show wpAny _ _ (if (onTheHeap (Value.ref D) && Value.builtin "BaseException.__getattribute__" == Value.builtin "object.__getattribute__") = true then _ else _) _ _ _
  rw [hx1, if_neg Bool.false_ne_true]
  unfold getAttrByItsOwn hookBefore
  refine wpAny_bind ?_
  rw [if_pos (show onTheHeap (Value.ref D) = true from rfl)]
  refine L2.at ?_
  refine wpAny_bind (wpAny_attempt (wpAny_holding ?_))
  unfold callGetattribute
  rw [hx0, if_neg Bool.false_ne_true]
  unfold boundAndCalled
  rw [PySem.F.excAttr_ValueError.ga.bind (.ref x)]
  refine wpAny_bind (wpAny_pure ?_)
  show wpAny _ _ (call (.builtin "BaseException.__getattribute__") [.ref x, .str "__class__" t]) _ _ _
  refine wpAny_call (codeAny_call_builtin PySem.F.excAttr_ValueError.ga.plain PySem.F.entry_bexc_ga ?_)
  refine @check_slot (model prog w) _ _ ⟨hp, g, d, t + 1, os⟩ "BaseException.__getattribute__" "BaseException" "__getattribute__" (.ref x) [.str "__class__" t] [] _ (by decide +kernel) (by decide +kernel) sub (PySem.F.args_bexc_ga (.ref x) (.str "__class__" t)) ?_
  unfold Builtin.«object.__getattribute__»
  refine wpAny_bind (wpAny_of_eq (a := ((Value.ref x : Value), [Value.str "__class__" t])) (by first | rfl | (simp only [slotArgs]; rfl)) ?_)
  refine wpAny_bind (wpAny_pure (wpAny_bind (L0.at (wpAny_bind (L3.at ?_)))))
  show wpAny _ _ (holding [Value.builtin "object.__class__"] (call (.builtin "getset_descriptor.__get__") [.builtin "object.__class__", .ref x, .ref D]) >>= ret) _ _ _
  refine wpAny_bind (wpAny_holding (wpAny_call (class_get (s := ⟨hp, g, d, t + 1, os⟩) (ox := ox) (od := od) X I C.hm ?_)))
  refine wpAny_pure ?_
  show wpAny _ _ (handedOut (.ref D)) _ _ _
  rw [handedOut_of (v := .ref D) rfl]
  first
    | exact wpAny_pure (wpAny_pure h)
    | exact wpAny_pure h
    | exact wpAny_pure (wpAny_bind (wpAny_pure (wpAny_pure h)))
theorem kitx_excO (C : L2.ExcC K D) : KitX K (.ref x) (.ref D) (fun h => InstAt h x ox D od) where
  ty := fun _ _ _ I => I.type
  it := fun _ _ X _ => by
    obtain ⟨cdD, hcD, _⟩ := any_some C.hd
    unfold clsIn at hcD
    split at hcD
    · rename_i c' d' cd' sl' ho
      intro A' Q' E' s' k q
      unfold isType loadHead
      exact wpAny_bind (wpAny_loadPart (k _ _ (X _ _ ho)) (wpAny_pure q))
    · cases hcD
  ne := fun h tp dd its n sl X htp => by
    obtain ⟨cdD, hcD, _⟩ := any_some C.hd
    refine Bool.eq_false_iff.mpr fun q => ?_
    have e : D = tp := Value.ref.inj (beq_iff_eq.mp q)
    subst e
    unfold clsIn at hcD
    split at hcD
    · rename_i c' d' cd' sl' ho
      have z := (X _ _ ho).symm.trans htp
      cases z
    · cases hcD
  ca := fun X I k => kin_classO C X I k
end
end PySem.W
namespace DL
open PySem PySem.Spec PyProof.Rows L2

/-- isinstance(e, (A, ..)), e the exception that the suite holds, with its dict -/
def rIsO (K : PySem.W.Frag) (C a : Addr) (d : Addr) : List V → Hp → VK → Prop := fun xs H Q => ∃ (tp : Addr) (cs : List Addr) (fs : List (Str × V)) (b : Bool), xs = [.ref a, .ref tp] ∧ H tp = some (.tup (cs.map .ref)) ∧ H d = some (.xd fs) ∧ PySem.W.kitAny K (.ref C) (cs.map .ref) = some b ∧ Q (.bl b) H
theorem vals_refs : ∀ {cs : List Addr} {us : List Value}, Vals (cs.map V.ref) us → us = cs.map Value.ref
  | [], _, .nil => rfl
  | c :: cs, _, .cons h hs => by
    cases h
    rw [vals_refs hs]
    rfl
theorem inst_suite {X : Cx} {a C d : Addr} {oe : Obj} {pn pins : List (Addr × Obj)} {σ : L2.St} {H : Hp} {s : Shared} {fs : List (Str × V)} (hz : Zc (.ref C) (some d) oe) (hf : ∃ vs, oe.data = .fields vs) (I : Inv (X.suite a ((a, oe) :: pn)) pins σ H s) (hd : H d = some (.xd fs)) :
    ∃ od, PySem.W.InstAt s.heap a oe C (some od) := by
  obtain ⟨ha, _⟩ := I.pin (a, oe) (List.mem_append_left _ List.mem_cons_self)
  obtain ⟨vs, hv⟩ := hf
  have hx : ObjOk X.prog X.w H s.heap d (.xd fs) := I.hok d _ hd
  obtain ⟨mA, hns, _⟩ := hx
  obtain ⟨od, ho, _⟩ := lookIn_ns hns
  exact ⟨od, ha, hz.1, by unfold PySem.W.notCls; rw [hv] <;> rfl, by rw [hz.2]; exact ho⟩
theorem call_isO {X : Cx} {a C d : Addr} {oe : Obj} {pn : List (Addr × Obj)} (Z : ExcC X.K C) (hz : Zc (.ref C) (some d) oe) (hf : ∃ vs, oe.data = .fields vs) : CallR (X.suite a ((a, oe) :: pn)) (.builtin "isinstance") (rIsO X.K C a d) := by
  intro pins s σ H xs us Q I r h
  obtain ⟨tp, cs, fs, b, rfl, hT, hd, e, q⟩ := h
  obtain ⟨u1, u2, rfl, r1, r2⟩ := vals2 r
  cases (show u2 = Value.ref tp from r2)
  cases (show u1 = Value.ref a from r1)
  obtain ⟨od, J⟩ := inst_suite hz hf I hd
  obtain ⟨_, its, rv, o, h1, h2, n, h3⟩ := (show ObjOk X.prog X.w H s.heap tp (.tup (cs.map .ref)) from I.hok tp _ hT)
  have e3 := vals_refs rv
  subst e3
  obtain ⟨oc, odd, dt, sl⟩ := o
  simp only at h2 h3
  subst h2 h3
  exact PySem.W.kia_tup (PySem.W.kitx_excO Z) I.kIn J h1 e (fun z => nomatch z) fun tk => ⟨.bl b, H, I.kept (t' := tk) fun _ _ z => z, rfl, q⟩
/-- isinstance(e, A) -/
def rIsO1 (K : PySem.W.Frag) (C a : Addr) (d : Addr) : List V → Hp → VK → Prop := fun xs H Q => ∃ (c : V) (u : Value) (fs : List (Str × V)) (b : Bool), xs = [.ref a, c] ∧ (∀ w, RelV c w → w = u) ∧ H d = some (.xd fs) ∧ PySem.W.kitOne K (.ref C) u = some b ∧ Q (.bl b) H
theorem call_isO1 {X : Cx} {a C d : Addr} {oe : Obj} {pn : List (Addr × Obj)} (Z : ExcC X.K C) (hz : Zc (.ref C) (some d) oe) (hf : ∃ vs, oe.data = .fields vs) : CallR (X.suite a ((a, oe) :: pn)) (.builtin "isinstance") (rIsO1 X.K C a d) := by
  intro pins s σ H xs us Q I r h
  obtain ⟨c, u, fs, b, rfl, hc, hd, e, q⟩ := h
  obtain ⟨u1, u2, rfl, r1, r2⟩ := vals2 r
  cases (show u1 = Value.ref a from r1)
  have := hc _ r2
  subst this
  obtain ⟨od, J⟩ := inst_suite hz hf I hd
  exact PySem.W.kia_one (PySem.W.kitx_excO Z) I.kIn J e (fun z => nomatch z) fun tk => ⟨.bl b, H, I.kept (t' := tk) fun _ _ z => z, rfl, q⟩
end DL


/-! text DL16 -/
set_option maxHeartbeats 400000
set_option Elab.async false
set_option linter.all false
set_option maxRecDepth 100000
/-! DL16: try at the data's level; what a suite returns of the caught error. -/
namespace DL
open PySem PySem.Spec PyProof.Rows L2 L2H

theorem ExOk.mono {F : Fr} {R R' : Rg} {H H' : Hp} {cls : Value} {d : Option Addr} {ex : Ex} (h : ExOk F R H cls d ex) (k : Keeps R H R' H') : ExOk F R' H' cls d ex := by
  obtain ⟨h1, a, fs, h2, h3, h4, h5, h6⟩ := h
  exact ⟨h1, a, fs, h2, k.keep _ _ h4 h3, k.sub _ h4, h5, h6.mono k⟩
theorem Ok.unbound {F : Fr} {R : Rg} {σ : L2.St} {δ : Ds} {H : Hp} {i : Nat} {v : Option V} (ok : Ok F R σ δ H) (hi : δ.at i = .no) : Ok F R (σ.set i v) δ H := by
  have sat_ne : ∀ j, j ≠ i → sat (σ.set i v) j = sat σ j := fun j hj => by
    unfold sat
    rw [List.getElem?_set, if_neg (Ne.symm hj)]
  have mt : ∀ {j a}, MutAt (σ.set i v) δ j a → MutAt σ δ j a := fun {j a} m => by
    have hj : j ≠ i := by
      rintro rfl
      have := m.1
      rw [hi] at this
      cases this
    exact ⟨m.1, (sat_ne j hj).symm.trans m.2⟩
  refine ⟨by rw [List.length_set]; exact ok.len, fun j => ?_, fun j1 j2 b m1 m2 => ok.nd j1 j2 b (mt m1) (mt m2), ok.keep, ok.there, ok.sub, ok.new, ok.rin, ok.fB⟩
  by_cases hj : j = i
  · subst hj
    rw [hi]
    trivial
  · rw [sat_ne j hj]
    exact ok.sl j
/-- what a suite's expression makes of the caught error -/
abbrev HF := Ex → (D → Prop) → Prop
abbrev HL := Ex → (List D → Prop) → Prop
section
variable (F : Fr) (i : Nat) (a : Addr) (cls : Value) (d : Option Addr)
def liftX (h : HF) : TE := fun σ H Q => ∃ (R : Rg) (δ : Ds) (ex : Ex) (k : D → Prop), Ok F R σ δ H ∧ sat σ i = some (.ref a) ∧ ExOk F R H cls d ex ∧ h ex k ∧
  ∀ R' H' v y, Ok F R' σ δ H' → Eff σ R H δ R' H' δ → Dv F.K R' H' v y → k y → Q v H'
def liftXL (h : HL) : TA := fun σ H Q => ∃ (R : Rg) (δ : Ds) (ex : Ex) (k : List D → Prop), Ok F R σ δ H ∧ sat σ i = some (.ref a) ∧ ExOk F R H cls d ex ∧ h ex k ∧
  ∀ R' H' vs ys, Ok F R' σ δ H' → Eff σ R H δ R' H' δ → Dvs F.K R' H' vs ys → k ys → Q vs H'
end
/-- in the suite over a, cls, d -/
structure HC where
  F : Fr
  X : Cx
  i : Nat
  a : Addr
  oe : Obj
  pn : List (Addr × Obj)
  cls : Value
  d : Option Addr
abbrev HC.XS (S : HC) : Cx := S.X.suite S.a ((S.a, S.oe) :: S.pn)
def HX (S : HC) (e : Expr) (h : HF) : Prop := PE S.XS e (liftX S.F S.i S.a S.cls S.d h)
def HA (S : HC) (es : List Expr) (h : HL) : Prop := PA S.XS es (liftXL S.F S.i S.a S.cls S.d h)
structure HC.Ok (S : HC) (k : Nat) : Prop where
  hK : S.F.K = S.X.K
  zc : Zc S.cls S.d S.oe
  fl : ∃ vs, S.oe.data = .fields vs
  hot : HotC S.XS
  hr : RoomH k S.XS.A
  gd : S.XS.A.guards = some []
section
variable {S : HC} {e a b c : Expr} {es : List Expr} {pos p apos : Pos} {kk : Nat}
def hC (y : D) : HF := fun _ k => k y
theorem hx_c {v : V} {y : D} (h : PE S.XS e (tC v)) (hv : ∀ R H, Dv S.F.K R H v y) : HX S e (hC y) :=
  PE.imp h fun σ H Q ⟨R, δ, ex, k, ok, sa, eo, hh, hn⟩ => hn R H v y ok (Eff.refl _ _ _ _) (hv R H) hh
theorem hx_int {i j} : HX S (.Constant (.int i) j pos) (hC (.int i)) := hx_c pe_int fun _ _ => .int i
theorem hx_bl {b j} : HX S (.Constant (.bool b) j pos) (hC (.bool b)) := hx_c pe_bl fun _ _ => .bl b
theorem hx_str {x j} : HX S (.Constant (.str x) j pos) (hC (.str x)) := hx_c pe_str fun _ _ => .str x
theorem hx_non {j} : HX S (.Constant .none j pos) (hC .none) := hx_c pe_non fun _ _ => .non
/-- e.f -/
def hFld (C : Addr) (f : Str) : HF := fun ex k => ex.cls = C ∧ ∃ y, ex.fs.lookup f = some y ∧ k y
theorem lookup_at {α : Type} (f g : Str) (y : α) (fs : List (Str × α)) : ((f, y) :: fs).lookup g = if g = f then some y else fs.lookup g := by
  by_cases h : g = f
  · subst h
    simp [List.lookup]
  · have e : (g == f) = false := by simpa using h
    rw [if_neg h]
    simp [List.lookup, e]
theorem lookup_dvs {K : PySem.W.Frag} {R : Rg} {H : Hp} {f : Str} : ∀ {fs : List (Str × V)} {gs : List (Str × D)} {y : D}, fs.map (·.1) = gs.map (·.1) → Dvs K R H (fs.map (·.2)) (gs.map (·.2)) → gs.lookup f = some y → ∃ v, fs.lookup f = some v ∧ Dv K R H v y
  | [], [], _, _, _, h => by cases h
  | [], _ :: _, _, h, _, _ => by cases h
  | _ :: _, [], _, h, _, _ => by cases h
  | (n, v) :: fs, (m, z) :: gs, y, hn, hd, h => by
    have e1 : n = m := by simpa using (List.cons.inj hn).1
    subst e1
    cases hd with
    | cons h1 h2 =>
      rw [lookup_at] at h ⊢
      by_cases q : f = n
      · rw [if_pos q] at h ⊢
        cases h
        exact ⟨v, rfl, h1⟩
      · rw [if_neg q] at h ⊢
        exact lookup_dvs (by simpa using (List.cons.inj hn).2) h2 h
theorem hx_fld {C : Addr} {f : Str} (O : S.Ok kk) (T : XfC S.X.K C) (hno : PySem.W.findIn S.X.K (.ref C) f = some none) (hv : PE S.XS a (tVar S.i)) (hb : attributeBase a f S.XS.env (eval a S.XS.env) = eval a S.XS.env := by rfl) : HX S (.Attribute a f pos) (hFld C f) := by
  refine PE.imp (pe_xf (C := C) T hno O.zc O.fl hv hb) fun σ H Q ⟨R, δ, ex, k, ok, sa, eo, ⟨hC, y, hl, hh⟩, hn⟩ => ?_
  obtain ⟨h1, dd, fs, h2, h3, h4, h5, h6⟩ := eo
  obtain ⟨v, hv, dv⟩ := lookup_dvs h5 h6 hl
  exact ⟨_, sat_some sa, rfl, by rw [h1, hC], dd, fs, v, h2, h3, hv, hn R H v y ok (Eff.refl _ _ _ _) dv hh⟩
def hNil : HL := fun _ k => k []
def hCons (h : HF) (u : HL) : HL := fun ex k => h ex fun y => u ex fun ys => k (y :: ys)
theorem ha_nil : HA S [] hNil := ⟨fun pos pins s σ H Q I ⟨R, δ, ex, k, ok, sa, eo, hh, hn⟩ => pa_nil.run pos pins s σ H Q I (hn R H [] [] ok (Eff.refl _ _ _ _) .nil hh)⟩
theorem ha_cons {h : HF} {u : HL} (hh : HX S e h) (hu : HA S es u) (hst : starEach (e :: es) S.XS.env = (false, eval e S.XS.env) :: starEach es S.XS.env := by rfl) : HA S (e :: es) (hCons h u) := by
  refine PA.imp (pa_cons hh hu hst) fun σ H Q ⟨R, δ, ex, k, ok, sa, eo, ht, hn⟩ => ?_
  refine ⟨R, δ, ex, _, ok, sa, eo, ht, fun R1 H1 v y ok1 ef1 dv1 h1 => ?_⟩
  refine ⟨R1, δ, ex, _, ok1, sa, eo.mono (ef1.keeps ok), h1, fun R2 H2 vs ys ok2 ef2 dv2 h2 => ?_⟩
  exact hn R2 H2 (v :: vs) (y :: ys) ok2 (ef1.trans ef2) (.cons (dv1.mono (ef2.keeps ok1)) dv2) h2
def hTup (u : HL) : HF := fun ex k => u ex fun ys => ys.length ≤ sizeLine ∧ k (.tuple ys)
theorem hx_tup {x1} {u : HL} (hu : HA S es u) : HX S (.Tuple es x1 pos) (hTup u) := by
  refine PE.imp (pe_tup hu) fun σ H Q ⟨R, δ, ex, k, ok, sa, eo, ht, hn⟩ => ⟨R, δ, ex, _, ok, sa, eo, ht, fun R' H' vs ys ok' ef dv ⟨hl, q⟩ => ⟨by rw [dv.length]; exact hl, fun p hp => ?_⟩⟩
  obtain ⟨ok2, ef2⟩ := ok'.newIm (o := .tup vs) hp
  exact hn _ _ _ _ ok2 (ef.trans ef2) (Dv.newTup dv hp) q
def hCall (r : RC) (u : HL) : HF := fun ex k => u ex fun ys => r ys k
theorem hx_ct {x : Str} {T : String} {r : RC} {u : HL} (hc : CallD S.F S.XS (.type T) r) (hm : S.X.mg x = none) (hv : bootBuiltins x = some (.type T)) (ha : HA S (e :: es) u) (hg : Gl S.XS x := by rfl) (hn : x ≠ "__name__" := by decide) (hdb : (x == ("__debug__" : Str)) = false := by decide)
    (he : starEach (e :: es) S.XS.env = (false, eval e S.XS.env) :: starEach es S.XS.env := by rfl) (hpl : (backTo pos (starEach es S.XS.env)).any (·.1) = false := by rfl) : HX S (.Call (.Name x p) (e :: es) [] pos) (hCall r u) := by
  obtain ⟨r0, h0, hr⟩ := hc
  exact PE.imp (pe_callTy h0 hg hm hv ha hn hdb he hpl) fun σ H Q ⟨R, δ, ex, k, ok, sa, eo, ht, hn⟩ => ⟨R, δ, ex, _, ok, sa, eo, ht, fun R' H' vs ds ok' ef dv q => hr R' H' vs ds _ Q dv q fun z v q ez => hn R' H' v z ok' ef (flat_dv ez) q⟩
theorem hx_cb {x : Str} {id : String} {r : RC} {u : HL} (hc : CallD S.F S.XS (.builtin id) r) (hm : S.X.mg x = none) (hv : bootBuiltins x = some (.builtin id)) (ha : HA S (e :: es) u) (hg : Gl S.XS x := by rfl) (hn : x ≠ "__name__" := by decide) (hdb : (x == ("__debug__" : Str)) = false := by decide)
    (he : starEach (e :: es) S.XS.env = (false, eval e S.XS.env) :: starEach es S.XS.env := by rfl) (hpl : (backTo pos (starEach es S.XS.env)).any (·.1) = false := by rfl) : HX S (.Call (.Name x p) (e :: es) [] pos) (hCall r u) := by
  obtain ⟨r0, h0, hr⟩ := hc
  exact PE.imp (pe_callB h0 hg hm hv ha hn hdb he hpl) fun σ H Q ⟨R, δ, ex, k, ok, sa, eo, ht, hn⟩ => ⟨R, δ, ex, _, ok, sa, eo, ht, fun R' H' vs ds ok' ef dv q => hr R' H' vs ds _ Q dv q fun z v q ez => hn R' H' v z ok' ef (flat_dv ez) q⟩
def hBin (r : RB) (ha hb : HF) : HF := fun ex k => ha ex fun x => hb ex fun y => r x y k
theorem hx_op {op : Operator} {r : RB} {ta tb : HF} (ho : OpD S.F S.XS (binaryOp op) r) (ha : HX S a ta) (hb : HX S b tb) : HX S (.BinOp a op b pos) (hBin r ta tb) := by
  obtain ⟨r0, h0, hr⟩ := ho
  refine PE.imp (pe_op h0 ha hb) fun σ H Q ⟨R, δ, ex, k, ok, sa, eo, ht, hn⟩ => ?_
  refine ⟨R, δ, ex, _, ok, sa, eo, ht, fun R1 H1 x d ok1 ef1 dv1 h1 => ?_⟩
  refine ⟨R1, δ, ex, _, ok1, sa, eo.mono (ef1.keeps ok), h1, fun R2 H2 y e ok2 ef2 dv2 h2 => ?_⟩
  exact hr R2 H2 x y d e _ Q (dv1.mono (ef2.keeps ok1)) dv2 h2 fun z v q ez => hn R2 H2 v z ok2 (ef1.trans ef2) (flat_dv ez) q
def hNot (h : HF) : HF := fun ex k => h ex fun y => match y with
  | .bool c => k (.bool (!c))
  | _ => False
theorem hx_not {h : HF} (ha : HX S a h) : HX S (.UnaryOp .Not a pos) (hNot h) := by
  refine PE.imp (pe_not ha) fun σ H Q ⟨R, δ, ex, k, ok, sa, eo, ht, hn⟩ => ⟨R, δ, ex, _, ok, sa, eo, ht, fun R' H' v d ok' ef dv q => ?_⟩
  cases d with
  | bool c =>
    cases dv
    exact ⟨c, rfl, hn R' H' _ _ ok' ef (.bl _) q⟩
  | _ => exact q.elim
def hAnd (h u : HF) : HF := fun ex k => h ex fun y => match y with
  | .bool c => if c = true then u ex k else k (.bool false)
  | _ => False
theorem hx_one {op} {t : HF} (h : HX S a t) : HX S (.BoolOp op [a] pos) t := pe_one h
theorem hx_and {h u : HF} (ha : HX S a h) (hb : HX S (.BoolOp .And (b :: es) pos) u) : HX S (.BoolOp .And (a :: b :: es) pos) (hAnd h u) := by
  refine PE.imp (pe_and ha hb) fun σ H Q ⟨R, δ, ex, k, ok, sa, eo, ht, hn⟩ => ⟨R, δ, ex, _, ok, sa, eo, ht, fun R' H' v d ok' ef dv q => ?_⟩
  cases d with
  | bool c =>
    cases dv
    refine ⟨c, rfl, ?_⟩
    cases c with
    | true =>
      rw [if_pos rfl]
      have q' : (if true = true then u ex k else k (.bool false)) := q
      rw [if_pos rfl] at q'
      exact ⟨R', δ, ex, k, ok', sa, eo.mono (ef.keeps ok), q', fun R2 H2 v2 d2 ok2 ef2 dv2 q2 => hn R2 H2 v2 d2 ok2 (ef.trans ef2) dv2 q2⟩
    | false =>
      rw [if_neg Bool.false_ne_true]
      have q' : (if false = true then u ex k else k (.bool false)) := q
      rw [if_neg Bool.false_ne_true] at q'
      exact hn R' H' _ _ ok' ef (.bl false) q'
  | _ => exact q.elim
/-- isinstance(e, (A, ..)) -/
def hIsT (K : PySem.W.Frag) (C : Addr) (cs : List Addr) : HF := fun ex k => ex.cls = C ∧ ∃ b, PySem.W.kitAny K (.ref C) (cs.map .ref) = some b ∧ k (.bool b)
inductive GlC (X : Cx) : List Expr → List Addr → Prop
  | nil : GlC X [] []
  | cons {x : Str} {p : Pos} {c : Addr} {es : List Expr} {cs : List Addr} (hg : Gl X x) (hm : X.mg x = some (.ref c)) (hd : (x == ("__debug__" : Str)) = false) (r : GlC X es cs) (hst : starEach (.Name x p :: es) X.env = (false, eval (.Name x p) X.env) :: starEach es X.env) : GlC X (.Name x p :: es) (c :: cs)
theorem pa_glc {X : Cx} : ∀ {es : List Expr} {cs : List Addr}, GlC X es cs → PA X es (fun _ H Q => Q (cs.map .ref) H)
  | _, _, .nil => pa_nil
  | _, _, .cons hg hm hd r hst => PA.imp (pa_cons (pe_glob hg hm (v := .ref _) rfl hd) (pa_glc r) hst) fun σ H Q h => h
theorem hx_isT {C : Addr} {cs : List Addr} {p1 pt : Pos} {x1 : Nat} (O : S.Ok kk) (Z : ExcC S.X.K C) (hC : S.cls = .ref C) (hm : S.X.mg "isinstance" = none) (hv : PE S.XS a (tVar S.i)) (hcs : GlC S.XS es cs) (hl : cs.length ≤ 100) (hg : Gl S.XS "isinstance" := by rfl)
    (he : starEach (a :: [.Tuple es x1 pt]) S.XS.env = (false, eval a S.XS.env) :: starEach [.Tuple es x1 pt] S.XS.env := by rfl) (he2 : starEach [.Tuple es x1 pt] S.XS.env = (false, eval (.Tuple es x1 pt) S.XS.env) :: starEach [] S.XS.env := by rfl)
    (hpl : (backTo pos (starEach [.Tuple es x1 pt] S.XS.env)).any (·.1) = false := by rfl) : HX S (.Call (.Name "isinstance" p1) [a, .Tuple es x1 pt] [] pos) (hIsT S.X.K C cs) := by
  cases hd : S.d with
  | none =>
    refine PE.imp (pe_callB (call_isi) hg hm (by decide +kernel) (pa_cons hv (pa_cons (pe_tup (pa_glc hcs)) pa_nil he2) he) (by decide) (by decide) he hpl) fun σ H Q ⟨R, δ, ex, k, ok, sa, eo, ht, hn⟩ => ?_
    obtain ⟨_, dd, fs, h2, _⟩ := eo
    rw [hd] at h2
    cases h2
  | some d0 =>
    have zc := O.zc
    rw [hC, hd] at zc
    refine PE.imp (pe_callB (call_isO (C := C) (d := d0) (oe := S.oe) Z zc O.fl) hg hm (by decide +kernel) (pa_cons hv (pa_cons (pe_tup (pa_glc hcs)) pa_nil he2) he) (by decide) (by decide) he hpl) fun σ H Q ⟨R, δ, ex, k, ok, sa, eo, ⟨hc1, b, hb, ht⟩, hn⟩ => ?_
    obtain ⟨_, dd, fs, h2, h3, h4, h5, h6⟩ := eo
    rw [hd] at h2
    cases h2
    refine ⟨_, sat_some sa, by rw [List.length_map]; have := sizeLine_eq; omega, fun q hq => ?_⟩
    obtain ⟨ok2, ef2⟩ := ok.newIm (o := .tup (cs.map .ref)) hq
    refine ⟨q, cs, fs, b, rfl, upd_same, ?_, hb, hn _ _ _ (.bool b) ok2 ef2 (.bl b) ht⟩
    rw [upd_ne (ne_of_none h3 hq)]
    exact h3
/-- isinstance(e, A) -/
def hIs1 (K : PySem.W.Frag) (C : Addr) (u : Value) : HF := fun ex k => ex.cls = C ∧ ∃ b, PySem.W.kitOne K (.ref C) u = some b ∧ k (.bool b)
theorem hx_is1 {C : Addr} {v : V} {u : Value} {p1 : Pos} (O : S.Ok kk) (Z : ExcC S.X.K C) (hC : S.cls = .ref C) (hm : S.X.mg "isinstance" = none) (hv : PE S.XS a (tVar S.i)) (hb : PE S.XS b (tC v)) (hu : ∀ w, RelV v w → w = u) (hg : Gl S.XS "isinstance" := by rfl)
    (he : starEach (a :: [b]) S.XS.env = (false, eval a S.XS.env) :: starEach [b] S.XS.env := by rfl) (he2 : starEach [b] S.XS.env = (false, eval b S.XS.env) :: starEach [] S.XS.env := by rfl)
    (hpl : (backTo pos (starEach [b] S.XS.env)).any (·.1) = false := by rfl) : HX S (.Call (.Name "isinstance" p1) [a, b] [] pos) (hIs1 S.X.K C u) := by
  cases hd : S.d with
  | none =>
    refine PE.imp (pe_callB (call_isi) hg hm (by decide +kernel) (pa_cons hv (pa_cons hb pa_nil he2) he) (by decide) (by decide) he hpl) fun σ H Q ⟨R, δ, ex, k, ok, sa, eo, ht, hn⟩ => ?_
    obtain ⟨_, dd, fs, h2, _⟩ := eo
    rw [hd] at h2
    cases h2
  | some d0 =>
    have zc := O.zc
    rw [hC, hd] at zc
    refine PE.imp (pe_callB (call_isO1 (C := C) (d := d0) (oe := S.oe) Z zc O.fl) hg hm (by decide +kernel) (pa_cons hv (pa_cons hb pa_nil he2) he) (by decide) (by decide) he hpl) fun σ H Q ⟨R, δ, ex, k, ok, sa, eo, ⟨hc1, b, hb, ht⟩, hn⟩ => ?_
    obtain ⟨_, dd, fs, h2, h3, h4, h5, h6⟩ := eo
    rw [hd] at h2
    cases h2
    exact ⟨_, sat_some sa, v, u, fs, b, rfl, hu, h3, hb, hn _ _ _ (.bool b) ok (Eff.refl _ _ _ _) (.bl b) ht⟩
end
end DL


/-! text DL17 -/
set_option maxHeartbeats 400000
set_option Elab.async false
set_option linter.all false
set_option maxRecDepth 100000
/-! DL17: defs called in a suite; try .. except A as e: return .. -/
namespace DL
open PySem PySem.Spec PyProof.Rows L2 L2H

structure DgH (P : Program) (w : World) (K : PySem.W.Frag) (mg : Str → Option Value) (base : Heap) (x : Str) (k : Nat) (ps : List Str) (sp : DSp) : Prop where
  ex : ∃ (f : Addr) (fd : FuncData), FnH P w K mg base (L2N.CX P w) k f fd ps (lsp K sp) ∧ mg x = some (.ref f) ∧ PySem.W.keepIn K (.ref f) = true ∧ L2.Binds K fd ps []
theorem Cq.tr {X : Cx} {W W' : WX} {k : Nat} {pn : List (Addr × Obj)} {xe : Value → Shared → Prop} (C : Cq X W k) (tk : L2N.Takes (X.tr pn xe) W') (po : PassesOwn (model X.prog X.w) X.A X.env xe) : Cq (X.tr pn xe) W' k := ⟨C.hr, C.gd, tk, po, C.calm⟩
theorem DgH.up {P : Program} {w : World} {K : PySem.W.Frag} {mg : Str → Option Value} {base : Heap} {x : Str} {j k : Nat} {ps : List Str} {sp : DSp} (D : DgH P w K mg base x j ps sp) (h : j ≤ k) : DgH P w K mg base x k ps sp := by
  obtain ⟨f, fd, G, r⟩ := D.ex
  exact ⟨f, fd, ⟨G.len, fun A outer s H args us vs Q E p hr hot hpin e0 hb r hsp => G.run A outer s H args us vs Q E p (hr.mono h) hot hpin e0 hb r hsp⟩, r⟩
section
variable {S : HC} {e a b c : Expr} {es : List Expr} {pos p apos : Pos} {k : Nat}
def hCallH (sp : DSp) (u : HL) : HF := fun ex k => u ex fun ys => sp (ys.map .im) (fun rv _ => match rv with
  | .im y => k y
  | .ow _ => False) (fun _ _ => False)
theorem hx_callH {x : Str} {ps : List Str} {sp : DSp} {u : HL} (O : S.Ok k) (D : DgH S.X.prog S.X.w S.X.K S.X.mg S.X.base x k ps sp) (ha : HA S (e :: es) u) (hg : Gl S.XS x := by rfl) (hdb : (x == ("__debug__" : Str)) = false := by decide)
    (he : starEach (e :: es) S.XS.env = (false, eval e S.XS.env) :: starEach es S.XS.env := by rfl) (hpl : (backTo pos (starEach es S.XS.env)).any (·.1) = false := by rfl) : HX S (.Call (.Name x p) (e :: es) [] pos) (hCallH sp u) := by
  obtain ⟨f, fd, G, hm, hk, hb⟩ := D.ex
  refine PE.imp (pe_callH (E := fun σ => WE W0 σ) G O.hr O.hot hg hm hk hb (fun σ => L2N.passAt takes0 σ) ha hdb he hpl) fun σ H Q ⟨R, δ, ex, kk, ok, sa, eo, ht, hn⟩ => ⟨R, δ, ex, _, ok, sa, eo, ht, fun R1 H1 vs ys ok1 ef1 dv1 h1 => ?_⟩
  show lsp S.X.K sp vs H1 Q _
  obtain ⟨p1, p2⟩ := paired_im dv1
  rw [← O.hK]
  refine ⟨R1, ys.map .im, _, _, p1, ?_, ok1.rin, h1, fun R' H' v rv outs po ret hq => ?_, fun R' H' cls d ex' outs po ex'' hq => hq.elim⟩
  · rw [p2]
    exact List.nodup_nil
  · have po' : Post S.F.K R1 H1 [] R' H' outs := by rw [← p2]; exact po
    cases rv with
    | ow _ => exact hq.elim
    | im y =>
      obtain ⟨ok2, ef2⟩ := ok1.back (is := []) .nil List.nodup_nil po'
      exact hn R' H' v y ok2 (ef1.trans ef2) ret hq
end

/-! ### the rule for a def in a suite -/
section
variable {P : Program} {w : World} {K : PySem.W.Frag} {mg : Str → Option Value} {base : Heap} {x qual : Str} {params : Arguments} {body : List Stmt} {scope : Scope} {dvs : List V} {kws : List (Str × V)} {f : Addr} {fd : FuncData}
/-- such a def's body neither lets an exception out nor changes a list -/
theorem okH {N ps : List Str} {k : Nat} {sp : DSp} (F : FunD K x qual params body scope dvs kws f fd) (S : FnScope N ps scope) (len : ∀ ags Q E, sp ags Q E → ags.length = ps.length)
    (him : ∀ ags Q E, sp ags Q E → ∃ ds : List D, ags = ds.map Ag.im)
    (hbody : ∀ (cdv : Value) (A : Around) (outer : List Env) (s : Shared) (H : Hp) (E : XK) (R : Rg) (q : Addr × Obj) (ags : List Ag) (Qd : Rv → List (List D) → Prop) (Xq : Ex → List (List D) → Prop),
      (cxH (L2N.CX P w) P w K mg base N qual scope f cdv A outer s H E q).A.units + 64 < cLine → sp ags Qd Xq →
      ∃ t, DSs ⟨K, H, R, []⟩ W0 (cxH (L2N.CX P w) P w K mg base N qual scope f cdv A outer s H E q) body t ∧ t (endD ags Qd fun _ _ => False) (startD N ags)) :
    FnH P w K mg base (L2N.CX P w) (k + 1) f fd ps (lsp K sp) := by
  obtain ⟨oc, od, dV, kV, doc, pm, an, cdv, ct, osl, rfl, lk, hcd, _, _⟩ := F.ex
  have hlen : ∀ vs H Q E, lsp K sp vs H Q E → vs.length = ps.length := fun vs H Q E ⟨R, ags, Qd, Xq, p, _, _, h, _⟩ => by rw [Paired.length p]; exact len _ _ _ h
  refine fn_ofH lk hcd S hlen fun A outer s H vs Q E q hot hr hsp => ?_
  obtain ⟨R, ags, Qd, Xq, p, nd, rin, h, hq, hx⟩ := hsp
  have hpl : ps.length ≤ N.length := by have := congrArg List.length S.pre; rw [List.length_take] at this; omega
  have ok : Ok ⟨K, H, R, lent 0 vs ags⟩ R (L2.start N vs) (startD N ags) H := Ok.start p nd rin (by rw [len _ _ _ h]; exact hpl)
  obtain ⟨ds, rfl⟩ := him _ _ _ h
  have hm0 : ∀ {vs : List V} {ds : List D} {i : Nat}, lent i vs (ds.map Ag.im) = [] := by
    intro vs
    induction vs with
    | nil =>
      intro ds i
      cases ds <;> rfl
    | cons v vs ih =>
      intro ds i
      cases ds with
      | nil => rfl
      | cons d ds => exact ih
  have hm1 : ∀ {vs : List V} {ds : List D}, mts vs (ds.map Ag.im) = [] := by
    intro vs
    induction vs with
    | nil =>
      intro ds
      cases ds <;> rfl
    | cons v vs ih =>
      intro ds
      cases ds with
      | nil => rfl
      | cons d ds => exact ih
  have ho : ∀ {δ : Ds} {ds : List D} {i : Nat}, outsFrom δ i (ds.map Ag.im) = some [] := by
    intro δ ds
    induction ds with
    | nil => intro i; rfl
    | cons d ds ih => intro i; exact ih
  rw [hm0] at ok
  obtain ⟨t, ht, hd⟩ := hbody cdv A outer s H E R q _ Qd Xq (by have := hr.un; show (A.deeper _).units + 64 < cLine; omega) h
  refine ⟨_, ht, R, _, _, ok, hd, ?_⟩
  have post : ∀ {R' : Rg} {σ' : L2.St} {δ' : Ds} {H' : Hp}, Ok ⟨K, H, R, []⟩ R' σ' δ' H' → Post K R H (mts vs (ds.map Ag.im)) R' H' [] := by
    intro R' σ' δ' H' ok'
    rw [hm1]
    exact ⟨fun b u hb nb => ok'.keep b u hb (fun i hm => (nomatch hm)), ok'.there, ok'.sub, ok'.new, ok'.rin, .nil⟩
  refine ⟨fun R' σ' δ' H' ok' kp h => ?_, fun R' σ' δ' H' ok' kp h => h, fun R' σ' δ' H' ok' kp h => h, fun R' σ' δ' H' v rv ok' kp rk h => ?_, fun R' σ' δ' H' cls d ex ok' kp ek h => ?_⟩
  · have h' : (match outsFrom δ' 0 (ds.map Ag.im) with
      | some o => Qd (.im .none) o
      | none => False) := h
    rw [ho] at h'
    exact hq R' H' .non (.im .none) [] (post ok') .non h'
  · have h' : (match outsFrom δ' 0 (ds.map Ag.im) with
      | some o => Qd rv o
      | none => False) := h
    rw [ho] at h'
    refine hq R' H' v rv [] (post ok') ?_ h'
    cases rv with
    | im d => exact rk
    | ow ds =>
      obtain ⟨a, ws, e1, e2, e3, e4, e5, _⟩ := rk
      exact ⟨a, ws, e1, e2, e3, e4, e5⟩
  · have h' : (match outsFrom δ' 0 (ds.map Ag.im) with
      | some o => False
      | none => False) := h
    rw [ho] at h'
    exact h'.elim
end

/-! ### try: .. except C as n: return e -/
section
variable {F : Fr} {W : WX} {X : Cx} {pos : Pos} {k : Nat} {n : Str} {i : Nat}
inductive HdD (F : Fr) (X : Cx) (k : Nat) (n : Str) (i : Nat) : List ExceptHandler → List (Addr × HF) → Prop
  | nil : HdD F X k n i [] []
  | cons {x : Str} {C : Addr} {e : Expr} {h : HF} {np pos' rp : Pos} {hds : List ExceptHandler} {l : List (Addr × HF)} (hc : Names X x (.ref C))
      (hx : ∀ (a : Addr) (oe : Obj) (pn : List (Addr × Obj)) (d : Option Addr), (HC.mk F X i a oe pn (.ref C) d).Ok k → HX (HC.mk F X i a oe pn (.ref C) d) e h) (r : HdD F X k n i hds l) :
      HdD F X k n i (.ExceptHandler (some (.Name x np)) (some n) [.Return (some e) rp] pos' :: hds) ((C, h) :: l)
def pickD (K : PySem.W.Frag) (i : Nat) (De : En) : List (Addr × HF) → Xd
  | [] => De.ex
  | (C, h) :: r => fun ex δ => (i < δ.length ∧ δ.at i = .no) ∧ ∃ b, PySem.W.exmOne K (.ref ex.cls) (.ref C) = some b ∧ (b = true → ex.cls = C ∧ h ex fun y => De.rt (.im y) δ) ∧ (b = false → pickD K i De r ex δ)
def dTry (K : PySem.W.Frag) (i : Nat) (t : TSd) (l : List (Addr × HF)) : TSd := fun De δ => t { De with ex := pickD K i De l } δ
theorem hdsA_of (hK : F.K = X.K) (hr : Room k X.A) (hgd : X.A.guards = some []) : ∀ {hds : List ExceptHandler} {l : List (Addr × HF)}, HdD F X k n i hds l →
    L2N.HdsA X n hds (l.map fun p => (Value.ref p.1, fun a cls d => fun D σ H => cls = .ref p.1 ∧ tRet (liftX F i a cls d p.2) D σ H))
  | _, _, .nil => .nil
  | _, _, .cons (C := C) hc hx r => by
    refine .cons hc (fun a oe cls d pn hz hf => ?_) (hdsA_of hK hr hgd r)
    by_cases q : cls = .ref C
    · subst q
      have O : (HC.mk F X i a oe pn (.ref C) d).Ok k := by
        obtain ⟨vs, hv⟩ := hf
        exact ⟨hK, hz.zc, ⟨vs, hv⟩, ⟨(a, oe), ⟨rfl, vs, hv, hz.2.2 vs hv⟩, List.mem_cons_self⟩, ⟨hr.dp, hr.un⟩, hgd⟩
      exact pss_one (PS.imp (ps_ret (hx a oe pn d O)) fun D σ H h => h.2)
    · exact ⟨fun pins s σ H D I h => absurd h.1 q⟩
theorem ds_try {body : List Stmt} {h₀ : ExceptHandler} {hds : List ExceptHandler} {l : List (Addr × HF)} {t : TSd} (hK : F.K = X.K) (hr : Room k X.A) (hgd : X.A.guards = some []) (hs : X.stack = X.env :: X.outer) (hf : X.env.frame = some X.env.locals) (hN : X.N.Nodup) (hi : X.N[i]? = some n) (hln : X.env.kindOf n = some .local) (tk : L2N.Takes X W)
    (hb : ∀ (W' : WX) (pn : List (Addr × Obj)) (xe : Value → Shared → Prop), L2N.Takes (X.tr pn xe) W' → PassesOwn (model X.prog X.w) X.A X.env xe → DSs F W' (X.tr pn xe) body t)
    (hh : HdD F X k n i (h₀ :: hds) l) : DS F W X (.Try body (h₀ :: hds) [] [] pos) (dTry X.K i t l) := by
  refine PS.imp (L2N.ps_try_manyA hs hf hN hi hln tk (tb := fun W' => liftS F W' t) hb (hdsA_of hK hr hgd hh)) fun D σ H ⟨R, δ, De, ok, ht, lk⟩ => ?_
  refine ⟨R, δ, { De with ex := pickD X.K i De l }, ok, ht, ⟨lk.nx, lk.bk, lk.ct, lk.rt, fun R' σ' δ' H' cls d ex ok' kp ek h => ?_⟩⟩
  have key : ∀ l : List (Addr × HF), pickD X.K i De l ex δ' → L2N.wManyA X.K i W D (l.map fun p => (Value.ref p.1, fun a cls d => fun D σ H => cls = .ref p.1 ∧ tRet (liftX F i a cls d p.2) D σ H)) cls d σ' H' := by
    intro l
    induction l with
    | nil => exact fun h => lk.ex R' σ' δ' H' cls d ex ok' kp ek h
    | cons p r ih =>
      intro h
      obtain ⟨C, hf'⟩ := p
      obtain ⟨⟨hlt, hno⟩, b, hb1, hy, hn⟩ := h
      have e1 := ek.1
      refine ⟨b, by rw [e1]; exact hb1, fun eb a ha => ?_, fun eb => ih (hn eb)⟩
      obtain ⟨ec, hq⟩ := hy eb
      refine ⟨by rw [e1, ec], R', δ', ex, _, ok'.unbound (v := some (.ref a)) hno, ?_, ek, hq, fun R2 H2 v y ok2 ef2 dv2 q2 => lk.rt R2 _ δ' H2 v (.im y) ok2 (kp.trans (ef2.keeps (ok'.unbound hno))) dv2 q2⟩
      unfold sat
      rw [List.getElem?_set, if_pos rfl, if_pos (by rw [ok'.len]; exact hlt)]
      rfl
  exact key l h
end
end DL


/-! text DL18 -/
set_option maxHeartbeats 400000
set_option Elab.async false
set_option linter.all false
set_option maxRecDepth 100000
/-! DL18: calls by keywords alone. -/
namespace DL
open PySem PySem.Spec PyProof.Rows L2 L2H

/-- how the keywords stand among the parameters -/
structure Perm where
  g : {α : Type} → List α → List α
  rel : ∀ {α β : Type} {R : α → β → Prop} {xs : List α} {ys : List β}, Paired R xs ys → Paired R (g xs) (g ys)
def sw2 {α : Type} : List α → List α
  | [a, b] => [b, a]
  | l => l
def swap2 : Perm := ⟨sw2, fun {α β R xs ys} h => by
  match xs, ys, h with
  | [], [], .nil => exact .nil
  | [a], [b], h => exact h
  | [a, b], [c, d], .cons h1 (.cons h2 .nil) => exact .cons h2 (.cons h1 .nil)
  | a :: b :: c :: l, d :: e :: f :: m, h => exact h⟩
def same : Perm := ⟨fun l => l, fun h => h⟩
structure DgK (P : Program) (w : World) (K : PySem.W.Frag) (mg : Str → Option Value) (base : Heap) (x : Str) (k : Nat) (ps ks : List Str) (π : Perm) (sp : DSp) : Prop where
  ex : ∃ (f : Addr) (fd : FuncData), FnG P w K mg base (L2N.CX P w) k f fd ps (lsp K sp) ∧ mg x = some (.ref f) ∧ PySem.W.keepIn K (.ref f) = true ∧ KBn K fd ps 0 ks (fun _ ws => π.g ws) (fun _ zs => π.g zs)
theorem DgK.up {P : Program} {w : World} {K : PySem.W.Frag} {mg : Str → Option Value} {base : Heap} {x : Str} {j k : Nat} {ps ks : List Str} {π : Perm} {sp : DSp} (D : DgK P w K mg base x j ps ks π sp) (h : j ≤ k) : DgK P w K mg base x k ps ks π sp := by
  obtain ⟨f, fd, G, r⟩ := D.ex
  exact ⟨f, fd, G.mono h, r⟩
theorem kbN {K : PySem.W.Frag} {x qual : Str} {params : Arguments} {body : List Stmt} {scope : Scope} {kws : List (Str × V)} {f : Addr} {fd : FuncData} {ps ks : List Str} {π : Perm} (F : FunD K x qual params body scope [] kws f fd)
    (h : ∀ (kV doc pm : Value) (an : Option Addr) (cdv ct : Value) (ws : List Value), ws.length = ks.length → bindArgs (PySem.W.fnOf x qual params body scope .none kV doc pm an cdv ct) ⟨[], ks.zip ws⟩ = pure (ps.zip (π.g ws))) :
    KBn K fd ps 0 ks (fun _ ws => π.g ws) (fun _ zs => π.g zs) := by
  obtain ⟨oc, od, dV, kV, doc, pm, an, cdv, ct, osl, rfl, lk, hcd, hD, hK⟩ := F.ex
  rcases hD with ⟨_, rfl⟩ | ⟨e, _⟩
  · refine ⟨fun s us ws X l1 l2 => ?_, fun _ r2 => π.rel r2⟩
    have : us = [] := List.eq_nil_of_length_eq_zero l1
    subst this
    exact .of_eq (h kV doc pm an cdv ct ws l2)
  · exact absurd rfl e
section
variable {F : Fr} {W : WX} {X : Cx} {e : Expr} {kws : List Keyword} {kpos pos p : Pos} {nm : Option Str}
def DK (F : Fr) (W : WX) (X : Cx) (kws : List Keyword) (t : TL) : Prop := PK X kws (liftL F W t)
theorem _root_.L2.PK.imp {X : Cx} {kws : List Keyword} {t t' : TA} (h : PK X kws t) (i : ∀ σ H Q, t' σ H Q → t σ H Q) : PK X kws t' := ⟨fun pos pins s σ H Q I q => h.run pos pins s σ H Q I (i σ H Q q)⟩
theorem dk_nil : DK F W X [] dNil := PK.imp pk_nil fun σ H Q ⟨R, δ, Qd, Xq, ok, ht, hn, hx⟩ => hn R δ H [] [] ok (Eff.refl _ _ _ _) .nil ht
theorem dk_cons {t : TI} {u : TL} (h : DI F W X e t) (hs : DK F W X kws u) : DK F W X (⟨nm, e, kpos⟩ :: kws) (dCons t u) := by
  refine PK.imp (pk_cons h hs) fun σ H Q ⟨R, δ, Qd, Xq, ok, ht, hn, hx⟩ => ?_
  refine ⟨R, δ, _, Xq, ok, ht, fun R1 δ1 H1 v d ok1 ef1 dv1 h1 => ?_, hx⟩
  refine ⟨R1, δ1, _, Xq, ok1, h1, fun R2 δ2 H2 vs ds ok2 ef2 dv2 h2 => ?_, hx.step ef1⟩
  exact hn R2 δ2 H2 (v :: vs) (d :: ds) ok2 (ef1.trans ef2) (.cons (dv1.mono (ef2.keeps ok1)) dv2) h2
def dCallK (sp : DSp) (π : Perm) (m : Nat) (t : TL) : TD := fun δ Q X => t δ (fun ds δ1 => ds.length = m ∧ sp ((π.g ds).map .im) (fun rv _ => Q rv δ1) (fun ex _ => X ex δ1)) X
theorem de_callK {x : Str} {k : Nat} {ps ks : List Str} {π : Perm} {sp : DSp} {t : TL} (hK : F.K = X.K) (Dk : DgK X.prog X.w X.K X.mg X.base x k ps ks π sp) (hr : Room k X.A) (hgd : X.A.guards = some []) (tk : L2N.Takes X W) (ha : DK F W X kws t)
    (hg : Gl X x := by rfl) (hdb : (x == ("__debug__" : Str)) = false := by decide)
    (hall : (backToKw pos (keywordEach kws X.env)).all (·.1.isSome) = true := by rfl) (hks : (backToKw pos (keywordEach kws X.env)).filterMap (·.1) = ks := by rfl)
    (hpl : ((backTo pos (starEach [] X.env)).any (·.1) || (backToKw pos (keywordEach kws X.env)).any (·.1.isNone)) = false := by rfl) : DE F W X (.Call (.Name x p) [] kws pos) (dCallK sp π ks.length t) := by
  obtain ⟨f, fd, G, hm, hk, hb⟩ := Dk.ex
  refine ⟨fun pins s σ H Q I ⟨R, δ, Qd, Xq, ok, ht, hnx, hx⟩ => ?_⟩
  refine wpAny_Call_Name_kw (ld_glob I hg hm ?_ hdb)
  refine PySem.W.callWith_KW0 (h₀ := X.base) I.ok.mod.kin hk hall (thn (ha.run pos pins s σ H (fun zs H2 => zs.length = ks.length ∧ lsp X.K sp (π.g zs) H2 Q (WE W σ)) I ?_) fun ws s2 ⟨zs, H2, I2, rz, l2, q2⟩ => ⟨I2.kIn, ?_⟩) hpl
  · refine ⟨R, δ, _, Xq, ok, ht, fun R1 δ1 H1 vs ds ok1 ef1 dv ⟨hl, h1⟩ => ⟨by rw [dv.length]; exact hl, ?_⟩, hx⟩
    have dvp : Dvs F.K R1 H1 (π.g vs) (π.g ds) := by
      have conv : ∀ {vs : List V} {ds : List D}, Dvs F.K R1 H1 vs ds → Paired (fun v d => Dv F.K R1 H1 v d) vs ds := by
        intro vs
        induction vs with
        | nil => intro ds h; cases h; exact .nil
        | cons v vs ih => intro ds h; cases h with | cons a b => exact .cons a (ih b)
      have back : ∀ {vs : List V} {ds : List D}, Paired (fun v d => Dv F.K R1 H1 v d) vs ds → Dvs F.K R1 H1 vs ds := by
        intro vs ds h
        induction h with
        | nil => exact .nil
        | cons a _ b => exact .cons a b
      exact back (π.rel (conv dv))
    obtain ⟨p1, p2⟩ := paired_im dvp
    rw [← hK]
    refine ⟨R1, (π.g ds).map .im, _, _, p1, by rw [p2]; exact List.nodup_nil, ok1.rin, h1, fun R' H' v rv outs po ret hq => ?_, fun R' H' cls d ex outs po ex' hq => ?_⟩
    · have po' : Post F.K R1 H1 [] R' H' outs := by rw [← p2]; exact po
      have oe : outs = [] := by
        cases po'.outs
        rfl
      subst oe
      obtain ⟨ok2, ef2⟩ := ok1.back (is := []) .nil List.nodup_nil po'
      obtain ⟨rk, nw⟩ := RetOk.rv (is := []) ok1 po' ret
      exact hnx R' δ1 H' v rv ok2 (ef1.trans ef2) rk (ef1.back nw) hq
    · have po' : Post F.K R1 H1 [] R' H' outs := by rw [← p2]; exact po
      have oe : outs = [] := by
        cases po'.outs
        rfl
      subst oe
      obtain ⟨ok2, ef2⟩ := ok1.back (is := []) .nil List.nodup_nil po'
      exact (hx.step ef1) R' δ1 H' cls d ex ok2 ef2 ex' hq
  · rw [hks]
    have l3 : ws.length = ks.length := rz.length.symm.trans l2
    refine wpAny_call (codeAny_mono (G.run X.A X.stack s2 H2 ⟨[], ks.zip ws⟩ (π.g ws) (π.g zs) Q (WE W σ) hr hgd I2.env0 (hb.to s2 [] ws I2.kIn rfl l3) (hb.rel (vs := []) (us := []) .nil rz) q2) fun r s' hq => ?_)
    cases r with
    | error e => exact L2N.passAt tk σ pins H2 s2 e s' I2 hq
    | ok fl =>
      cases fl with
      | ret u => exact I2.after hq
      | next => exact False.elim hq
      | brk => exact False.elim hq
      | cont => exact False.elim hq
end
end DL


/-! text DLS -/
set_option maxHeartbeats 400000
set_option Elab.async false
set_option linter.all false
set_option maxRecDepth 100000
/-! DLS: the readings' meanings, one equation each, for simp. -/
namespace DL
open PySem PySem.Spec PyProof.Rows L2

def En.wNx (De : En) (f : Ds → Prop) : En := { De with nx := f }
def En.wLp (De : En) (f : Ds → Prop) : En := { De with nx := f, ct := f, bk := De.nx }
def En.wEx (De : En) (f : Xd) : En := { De with ex := f }
section
variable (De : En) (f : Ds → Prop) (g : Xd)
@[simp ↓] theorem wNx_nx (s : Sl) (l : Ds) : (De.wNx f).nx (s :: l) = f (s :: l) := rfl
@[simp ↓] theorem wNx_rt : (De.wNx f).rt = De.rt := rfl
@[simp ↓] theorem wNx_bk : (De.wNx f).bk = De.bk := rfl
@[simp ↓] theorem wNx_ct : (De.wNx f).ct = De.ct := rfl
@[simp ↓] theorem wNx_ex : (De.wNx f).ex = De.ex := rfl
@[simp ↓] theorem wNx_wNx (f' : Ds → Prop) : (De.wNx f).wNx f' = De.wNx f' := rfl
@[simp ↓] theorem wLp_nx (s : Sl) (l : Ds) : (De.wLp f).nx (s :: l) = f (s :: l) := rfl
@[simp ↓] theorem wLp_rt : (De.wLp f).rt = De.rt := rfl
@[simp ↓] theorem wLp_bk : (De.wLp f).bk = De.nx := rfl
@[simp ↓] theorem wLp_ct (s : Sl) (l : Ds) : (De.wLp f).ct (s :: l) = f (s :: l) := rfl
@[simp ↓] theorem wLp_ex : (De.wLp f).ex = De.ex := rfl
@[simp ↓] theorem wEx_nx : (De.wEx g).nx = De.nx := rfl
@[simp ↓] theorem wEx_rt : (De.wEx g).rt = De.rt := rfl
@[simp ↓] theorem wEx_bk : (De.wEx g).bk = De.bk := rfl
@[simp ↓] theorem wEx_ct : (De.wEx g).ct = De.ct := rfl
@[simp ↓] theorem wEx_ex : (De.wEx g).ex = g := rfl
end
@[simp ↓] theorem dSeq_s (t u : TSd) (De : En) (δ : Ds) : dSeq t u De δ = t (De.wNx (u De)) δ := rfl
@[simp ↓] theorem dTry_s (K : PySem.W.Frag) (i : Nat) (t : TSd) (l : List (Addr × HF)) (De : En) (δ : Ds) : dTry K i t l De δ = t (De.wEx (pickD K i De l)) δ := rfl
/-- what is wished of a call's end -/
def Kr (Q : Rv → Ds → Prop) (δ : Ds) (is : List Nat) (rv : Rv) (outs : List (List D)) : Prop := Q rv (putOuts δ is outs)
def Kx (X : Xd) (δ : Ds) (is : List Nat) (ex : Ex) (outs : List (List D)) : Prop := X ex (putOuts δ is outs)
@[simp ↓] theorem Kr_s (Q : Rv → Ds → Prop) (δ : Ds) (is : List Nat) (rv : Rv) (outs : List (List D)) : Kr Q δ is rv outs = Q rv (putOuts δ is outs) := rfl
@[simp ↓] theorem Kx_s (X : Xd) (δ : Ds) (is : List Nat) (ex : Ex) (outs : List (List D)) : Kx X δ is ex outs = X ex (putOuts δ is outs) := rfl
def ForOk (ds : List D) (g : TGd) (tb : TSd) (De : En) (δ1 : Ds) : Prop := ∃ I : Nat → Ds → Prop, I 0 δ1 ∧
  (∀ i d δ2, ds[i]? = some d → I i δ2 → g d δ2 fun δ3 => tb (De.wLp (I (i + 1))) δ3) ∧ (∀ δ2, I ds.length δ2 → De.nx δ2)
@[simp ↓] theorem dFor_s (src : TL) (g : TGd) (tb : TSd) (De : En) (δ : Ds) : dFor src g tb De δ = src δ (fun ds δ1 => ForOk ds g tb De δ1) De.ex := rfl
def WhileOk (c : TB) (tb : TSd) (De : En) (δ : Ds) : Prop := ∃ I : Nat → Ds → Prop, (∃ m, I m δ) ∧
  ∀ m δ, I m δ → c δ (fun b δ' => if b = true then tb (De.wLp fun δ2 => ∃ m', m' < m ∧ I m' δ2) δ' else De.nx δ') De.ex
@[simp ↓] theorem dWhile_s (c : TB) (tb : TSd) (De : En) (δ : Ds) : dWhile c tb De δ = WhileOk c tb De δ := rfl
def LcOk (ds : List D) (vs : List Nat) (g : TGd) (tt : TB) (te : TI) (Q : Rv → Ds → Prop) (δ1 : Ds) : Prop := ∃ I : Nat → List D → Ds → Prop, I 0 [] (wipeD δ1 vs) ∧
  (∀ i d acc δ2, ds[i]? = some d → I i acc δ2 → g d δ2 fun δ3 => tt δ3 (fun b δ4 => if b = true then te δ4 (fun y δ5 => I (i + 1) (acc ++ [y]) (wipeD δ5 vs)) noX else I (i + 1) acc (wipeD δ4 vs)) noX) ∧
  (∀ acc δ2, I ds.length acc δ2 → Q (.ow acc) (unwipeD δ1 δ2 vs))
@[simp ↓] theorem dLc_s (src : TL) (vs : List Nat) (g : TGd) (tt : TB) (te : TI) (δ : Ds) (Q : Rv → Ds → Prop) (X : Xd) : dLc src vs g tt te δ Q X = src δ (fun ds δ1 => ds.length < sizeLine ∧ LcOk ds vs g tt te Q δ1) X := rfl
@[simp ↓] theorem pickD_nil (K : PySem.W.Frag) (i : Nat) (De : En) : pickD K i De [] = De.ex := rfl
@[simp ↓] theorem pickD_cons (K : PySem.W.Frag) (i : Nat) (De : En) (C : Addr) (h : HF) (r : List (Addr × HF)) (ex : Ex) (δ : Ds) : pickD K i De ((C, h) :: r) ex δ = ((i < δ.length ∧ δ.at i = .no) ∧ ∃ b, PySem.W.exmOne K (.ref ex.cls) (.ref C) = some b ∧ (b = true → ex.cls = C ∧ h ex fun y => De.rt (.im y) δ) ∧ (b = false → pickD K i De r ex δ)) := rfl
/-! slots -/
@[simp ↓] theorem at_0 (s : Sl) (l : Ds) : Ds.at (s :: l) 0 = s := rfl
@[simp ↓] theorem at_s (s : Sl) (l : Ds) (n : Nat) : Ds.at (s :: l) (n + 1) = Ds.at l n := rfl
@[simp ↓] theorem im_mut (d : D) : (Sl.im d).isMut = false := rfl
@[simp ↓] theorem ow_mut (d : List D) : (Sl.ow d).isMut = true := rfl
@[simp ↓] theorem bw_mut (d : List D) : (Sl.bw d).isMut = true := rfl
@[simp ↓] theorem im_dat (d : D) : (Sl.im d).dat? = some d := rfl
@[simp ↓] theorem ow_dat (d : List D) : (Sl.ow d).dat? = some (.list d) := rfl
@[simp ↓] theorem bw_dat (d : List D) : (Sl.bw d).dat? = some (.list d) := rfl
@[simp ↓] theorem ow_lst (d : List D) : (Sl.ow d).lst? = some d := rfl
@[simp ↓] theorem bw_lst (d : List D) : (Sl.bw d).lst? = some d := rfl
@[simp ↓] theorem ow_put (d e : List D) : (Sl.ow d).put e = .ow e := rfl
@[simp ↓] theorem bw_put (d e : List D) : (Sl.bw d).put e = .bw e := rfl
@[simp ↓] theorem im_sl (d : D) : (Rv.im d).sl = .im d := rfl
@[simp ↓] theorem ow_sl (d : List D) : (Rv.ow d).sl = .ow d := rfl
@[simp ↓] theorem im_rdat (d : D) : (Rv.im d).dat = d := rfl
@[simp ↓] theorem ow_rdat (d : List D) : (Rv.ow d).dat = .list d := rfl
@[simp ↓] theorem startD_s (N : List Str) (ags : List Ag) : startD N ags = ags.map agSl ++ List.replicate (N.length - ags.length) .no := rfl
@[simp ↓] theorem agSl_im (d : D) : agSl (.im d) = .im d := rfl
@[simp ↓] theorem agSl_mt (d : List D) : agSl (.mt d) = .bw d := rfl
@[simp ↓] theorem outs_nil (δ : Ds) (i : Nat) : outsFrom δ i [] = some [] := rfl
@[simp ↓] theorem outs_im (δ : Ds) (i : Nat) (d : D) (r : List Ag) : outsFrom δ i (.im d :: r) = outsFrom δ (i + 1) r := rfl
@[simp ↓] theorem outs_mt (δ : Ds) (i : Nat) (d : List D) (r : List Ag) : outsFrom δ i (.mt d :: r) = (match δ.at i with
    | .bw ds => (outsFrom δ (i + 1) r).map (ds :: ·)
    | _ => none) := rfl
@[simp ↓] theorem endD_nx (ags : List Ag) (Qd : Rv → List (List D) → Prop) (Xq : Ex → List (List D) → Prop) (δ : Ds) : (endD ags Qd Xq).nx δ = (match outsFrom δ 0 ags with
  | some o => Qd (.im .none) o
  | none => False) := rfl
@[simp ↓] theorem endD_rt (ags : List Ag) (Qd : Rv → List (List D) → Prop) (Xq : Ex → List (List D) → Prop) (rv : Rv) (δ : Ds) : (endD ags Qd Xq).rt rv δ = (match outsFrom δ 0 ags with
  | some o => Qd rv o
  | none => False) := rfl
@[simp ↓] theorem endD_ex (ags : List Ag) (Qd : Rv → List (List D) → Prop) (Xq : Ex → List (List D) → Prop) (ex : Ex) (δ : Ds) : (endD ags Qd Xq).ex ex δ = (match outsFrom δ 0 ags with
  | some o => Xq ex o
  | none => False) := rfl
@[simp ↓] theorem agsOf_nil (δ : Ds) : agsOf δ [] = some [] := rfl
@[simp ↓] theorem agsOf_da (δ : Ds) (d : D) (r : List Ar) : agsOf δ (.da d :: r) = (agsOf δ r).map (.im d :: ·) := rfl
@[simp ↓] theorem agsOf_mt (δ : Ds) (i : Nat) (r : List Ar) : agsOf δ (.mt i :: r) = (match (δ.at i).lst? with
    | some ds => (agsOf δ r).map (.mt ds :: ·)
    | none => none) := rfl
@[simp ↓] theorem arMts_nil : arMts [] = [] := rfl
@[simp ↓] theorem arMts_da (d : D) (r : List Ar) : arMts (.da d :: r) = arMts r := rfl
@[simp ↓] theorem arMts_mt (i : Nat) (r : List Ar) : arMts (.mt i :: r) = i :: arMts r := rfl
@[simp ↓] theorem putOuts_nil (δ : Ds) (os : List (List D)) : putOuts δ [] os = δ := by cases os <;> rfl
@[simp ↓] theorem putOuts_none (δ : Ds) (is : List Nat) : putOuts δ is [] = δ := by cases is <;> rfl
@[simp ↓] theorem putOuts_cons (δ : Ds) (i : Nat) (is : List Nat) (o : List D) (os : List (List D)) : putOuts δ (i :: is) (o :: os) = putOuts (δ.set i ((δ.at i).put o)) is os := rfl
@[simp ↓] theorem callD_s (sp : DSp) (ars : List Ar) (δ : Ds) (Q : Rv → Ds → Prop) (X : Xd) : callD sp ars δ Q X = (match agsOf δ ars with
  | some ags => (arMts ars).Nodup ∧ sp ags (Kr Q δ (arMts ars)) (Kx X δ (arMts ars))
  | none => False) := rfl
@[simp ↓] theorem wipeD_nil (δ : Ds) : wipeD δ [] = δ := rfl
@[simp ↓] theorem wipeD_cons (δ : Ds) (v : Nat) (vs : List Nat) : wipeD δ (v :: vs) = (wipeD δ vs).set v .no := rfl
@[simp ↓] theorem cmp_ii (i j : Int) : cmpOk (.int i) (.int j) = True := rfl
@[simp ↓] theorem cmp_ss (i j : Str) : cmpOk (.str i) (.str j) = True := rfl
@[simp ↓] theorem cmp_bb (i j : Bool) : cmpOk (.bool i) (.bool j) = True := rfl
@[simp ↓] theorem eqD_ii (i j : Int) : eqD (.int i) (.int j) = decide (i = j) := by rw [eqD, eqv_int]; rfl
@[simp ↓] theorem eqD_ss (i j : Str) : eqD (.str i) (.str j) = decide (i = j) := by
  rw [eqD, eqv_str]
  by_cases h : i = j
  · subst h
    simp
  · simp [h]
@[simp ↓] theorem eqD_bb (i j : Bool) : eqD (.bool i) (.bool j) = (i == j) := by rw [eqD, eqv_bool]
@[simp ↓] theorem isN_none : isN .none = true := rfl
@[simp ↓] theorem rII_s (C : Int → Int → Prop) (g : Int → Int → Int) (i j : Int) (k : D → Prop) : rII C g (.int i) (.int j) k = (C i j ∧ k (.int (g i j))) := rfl
@[simp ↓] theorem rII0_s (g : Int → Int → Int) (i j : Int) (k : D → Prop) : rII0 g (.int i) (.int j) k = k (.int (g i j)) := rfl
@[simp ↓] theorem rIB_s (g : Int → Int → Bool) (i j : Int) (k : D → Prop) : rIB g (.int i) (.int j) k = k (.bool (g i j)) := rfl
@[simp ↓] theorem unwipeD_nil (δ0 δ : Ds) : unwipeD δ0 δ [] = δ := rfl
@[simp ↓] theorem unwipeD_cons (δ0 δ : Ds) (v : Nat) (vs : List Nat) : unwipeD δ0 δ (v :: vs) = (unwipeD δ0 δ vs).set v (match δ0.at v with
    | .im d => .im d
    | _ => .no) := rfl
@[simp ↓] theorem kitB_int_int : kitB "int" "int" = some true := by decide +kernel
@[simp ↓] theorem kitB_int_bool : kitB "int" "bool" = some false := by decide +kernel
@[simp ↓] theorem kitB_int_str : kitB "int" "str" = some false := by decide +kernel
@[simp ↓] theorem kitB_int_list : kitB "int" "list" = some false := by decide +kernel
@[simp ↓] theorem kitB_int_tuple : kitB "int" "tuple" = some false := by decide +kernel
@[simp ↓] theorem kitB_int_dict : kitB "int" "dict" = some false := by decide +kernel
@[simp ↓] theorem kitB_bool_int : kitB "bool" "int" = some true := by decide +kernel
@[simp ↓] theorem kitB_bool_bool : kitB "bool" "bool" = some true := by decide +kernel
@[simp ↓] theorem kitB_bool_str : kitB "bool" "str" = some false := by decide +kernel
@[simp ↓] theorem kitB_bool_list : kitB "bool" "list" = some false := by decide +kernel
@[simp ↓] theorem kitB_bool_tuple : kitB "bool" "tuple" = some false := by decide +kernel
@[simp ↓] theorem kitB_bool_dict : kitB "bool" "dict" = some false := by decide +kernel
@[simp ↓] theorem kitB_str_int : kitB "str" "int" = some false := by decide +kernel
@[simp ↓] theorem kitB_str_bool : kitB "str" "bool" = some false := by decide +kernel
@[simp ↓] theorem kitB_str_str : kitB "str" "str" = some true := by decide +kernel
@[simp ↓] theorem kitB_str_list : kitB "str" "list" = some false := by decide +kernel
@[simp ↓] theorem kitB_str_tuple : kitB "str" "tuple" = some false := by decide +kernel
@[simp ↓] theorem kitB_str_dict : kitB "str" "dict" = some false := by decide +kernel
@[simp ↓] theorem kitB_list_int : kitB "list" "int" = some false := by decide +kernel
@[simp ↓] theorem kitB_list_bool : kitB "list" "bool" = some false := by decide +kernel
@[simp ↓] theorem kitB_list_str : kitB "list" "str" = some false := by decide +kernel
@[simp ↓] theorem kitB_list_list : kitB "list" "list" = some true := by decide +kernel
@[simp ↓] theorem kitB_list_tuple : kitB "list" "tuple" = some false := by decide +kernel
@[simp ↓] theorem kitB_list_dict : kitB "list" "dict" = some false := by decide +kernel
@[simp ↓] theorem kitB_tuple_int : kitB "tuple" "int" = some false := by decide +kernel
@[simp ↓] theorem kitB_tuple_bool : kitB "tuple" "bool" = some false := by decide +kernel
@[simp ↓] theorem kitB_tuple_str : kitB "tuple" "str" = some false := by decide +kernel
@[simp ↓] theorem kitB_tuple_list : kitB "tuple" "list" = some false := by decide +kernel
@[simp ↓] theorem kitB_tuple_tuple : kitB "tuple" "tuple" = some true := by decide +kernel
@[simp ↓] theorem kitB_tuple_dict : kitB "tuple" "dict" = some false := by decide +kernel
@[simp ↓] theorem kitB_dict_int : kitB "dict" "int" = some false := by decide +kernel
@[simp ↓] theorem kitB_dict_bool : kitB "dict" "bool" = some false := by decide +kernel
@[simp ↓] theorem kitB_dict_str : kitB "dict" "str" = some false := by decide +kernel
@[simp ↓] theorem kitB_dict_list : kitB "dict" "list" = some false := by decide +kernel
@[simp ↓] theorem kitB_dict_tuple : kitB "dict" "tuple" = some false := by decide +kernel
@[simp ↓] theorem kitB_dict_dict : kitB "dict" "dict" = some true := by decide +kernel
@[simp ↓] theorem kitB_NoneType_int : kitB "NoneType" "int" = some false := by decide +kernel
@[simp ↓] theorem kitB_NoneType_bool : kitB "NoneType" "bool" = some false := by decide +kernel
@[simp ↓] theorem kitB_NoneType_str : kitB "NoneType" "str" = some false := by decide +kernel
@[simp ↓] theorem kitB_NoneType_list : kitB "NoneType" "list" = some false := by decide +kernel
@[simp ↓] theorem kitB_NoneType_tuple : kitB "NoneType" "tuple" = some false := by decide +kernel
@[simp ↓] theorem kitB_NoneType_dict : kitB "NoneType" "dict" = some false := by decide +kernel
@[simp ↓] theorem itemsD_list (ds : List D) : itemsD (.list ds) = some ds := rfl
@[simp ↓] theorem seqOf_list (ds : List D) : seqOf (.list ds) = some ds := rfl
@[simp ↓] theorem lenD_list (ds : List D) : lenD (.list ds) = some ds.length := rfl
@[simp ↓] theorem tyD_list (ds : List D) : tyD (.list ds) = "list" := rfl
@[simp ↓] theorem itemsD_tuple (ds : List D) : itemsD (.tuple ds) = some ds := rfl
@[simp ↓] theorem seqOf_tuple (ds : List D) : seqOf (.tuple ds) = some ds := rfl
@[simp ↓] theorem lenD_tuple (ds : List D) : lenD (.tuple ds) = some ds.length := rfl
@[simp ↓] theorem tyD_tuple (ds : List D) : tyD (.tuple ds) = "tuple" := rfl
@[simp ↓] theorem itemsD_str (x : Str) : itemsD (.str x) = some (signsD x) := rfl
@[simp ↓] theorem lenD_str (x : Str) : lenD (.str x) = some x.length := rfl
@[simp ↓] theorem tyD_str (x : Str) : tyD (.str x) = "str" := rfl
@[simp ↓] theorem tyD_int (x : Int) : tyD (.int x) = "int" := rfl
@[simp ↓] theorem tyD_bool (x : Bool) : tyD (.bool x) = "bool" := rfl
@[simp ↓] theorem tyD_none : tyD .none = "NoneType" := rfl
@[simp ↓] theorem tyD_dict (kvs : List (D × D)) : tyD (.dict kvs) = "dict" := rfl
@[simp ↓] theorem dEm_s (t : TI) (δ : Ds) (Q : Rv → Ds → Prop) (X : Xd) : dEm t δ Q X = (t δ (fun d δ' => Q (.im d) δ') X) := rfl
@[simp ↓] theorem dFz_s (t : TD) (δ : Ds) (Q : D → Ds → Prop) (X : Xd) : dFz t δ Q X = (t δ (fun rv δ' => Q rv.dat δ') X) := rfl
@[simp ↓] theorem dC_s (d : D) (δ : Ds) (Q : D → Ds → Prop) (u1 : Xd) : dC d δ Q u1 = (Q d δ) := rfl
@[simp ↓] theorem dV_s (i : Nat) (s0 : Sl) (l0 : Ds) (Q : D → Ds → Prop) (u1 : Xd) : dV i (s0 :: l0) Q u1 = (match Ds.at (s0 :: l0) i with
  | .im d => Q d (s0 :: l0 : Ds)
  | .ow ds => Q (.list ds) ((s0 :: l0 : Ds).set i (.im (.list ds)))
  | _ => False) := rfl
@[simp ↓] theorem dM_s (i : Nat) (s0 : Sl) (l0 : Ds) (Q : Rv → Ds → Prop) (u1 : Xd) : dM i (s0 :: l0) Q u1 = (match Ds.at (s0 :: l0) i with
  | .im d => Q (.im d) (s0 :: l0 : Ds)
  | .ow ds => Q (.ow ds) ((s0 :: l0 : Ds).set i .no)
  | _ => False) := rfl
@[simp ↓] theorem dBin_s (r : RB) (ta tb : TI) (δ : Ds) (Q : D → Ds → Prop) (X : Xd) : dBin r ta tb δ Q X = (ta δ (fun x δ1 => tb δ1 (fun y δ2 => r x y fun z => Q z δ2) X) X) := rfl
@[simp ↓] theorem dB_s (t : TI) (δ : Ds) (Q : Bool → Ds → Prop) (X : Xd) : dB t δ Q X = (t δ (fun d δ' => match d with
  | .bool b => Q b δ'
  | _ => False) X) := rfl
@[simp] theorem rSub_s : rSub = rII0 fun i j => i - j := rfl
@[simp] theorem rMul_s : rMul = rII MulOk fun i j => i * j := rfl
@[simp] theorem rDiv_s : rDiv = rII DivOk fun i j => i / j := rfl
@[simp] theorem rMod_s : rMod = rII (fun _ j => 0 < j) fun i j => i % j := rfl
@[simp] theorem rPow_s : rPow = rII CPow fun i j => i ^ j.toNat := rfl
@[simp] theorem rShl_s : rShl = rII CShl fun i j => i * 2 ^ j.toNat := rfl
@[simp] theorem rLt_s : rLt = rIB fun i j => decide (i < j) := rfl
@[simp] theorem rLe_s : rLe = rIB fun i j => decide (i ≤ j) := rfl
@[simp] theorem rGt_s : rGt = rIB fun i j => decide (j < i) := rfl
@[simp] theorem rGe_s : rGe = rIB fun i j => decide (j ≤ i) := rfl
@[simp ↓] theorem rAdd_s (x : D) (y : D) (k : D → Prop) : rAdd x y k = (match x, y with
  | .int i, .int j => k (.int (i + j))
  | .str i, .str j => i.length + j.length ≤ sizeLine ∧ k (.str (i ++ j))
  | _, _ => False) := rfl
@[simp ↓] theorem rEq_s (x : D) (y : D) (k : D → Prop) : rEq x y k = (cmpOk x y ∧ k (.bool (eqD x y))) := rfl
@[simp ↓] theorem rNe_s (x : D) (y : D) (k : D → Prop) : rNe x y k = (cmpOk x y ∧ k (.bool (!eqD x y))) := rfl
@[simp ↓] theorem rIsN_s (x : D) (y : D) (k : D → Prop) : rIsN x y k = (match y with
  | .none => k (.bool (isN x))
  | _ => False) := rfl
@[simp ↓] theorem rNotN_s (x : D) (y : D) (k : D → Prop) : rNotN x y k = (match y with
  | .none => k (.bool (!isN x))
  | _ => False) := rfl
@[simp ↓] theorem dNil_s (δ : Ds) (Q : List D → Ds → Prop) (u1 : Xd) : dNil δ Q u1 = (Q [] δ) := rfl
@[simp ↓] theorem dCons_s (t : TI) (u : TL) (δ : Ds) (Q : List D → Ds → Prop) (X : Xd) : dCons t u δ Q X = (t δ (fun d δ1 => u δ1 (fun ds δ2 => Q (d :: ds) δ2) X) X) := rfl
@[simp ↓] theorem mNil_s (δ : Ds) (Q : List Ar → Ds → Prop) (u1 : Xd) : mNil δ Q u1 = (Q [] δ) := rfl
@[simp ↓] theorem mCons_s (t : TI) (u : TM) (δ : Ds) (Q : List Ar → Ds → Prop) (X : Xd) : mCons t u δ Q X = (t δ (fun d δ1 => u δ1 (fun ds δ2 => Q (.da d :: ds) δ2) X) X) := rfl
@[simp ↓] theorem mMut_s (i : Nat) (u : TM) (s0 : Sl) (l0 : Ds) (Q : List Ar → Ds → Prop) (X : Xd) : mMut i u (s0 :: l0) Q X = ((Ds.at (s0 :: l0) i).isMut = true ∧ u (s0 :: l0 : Ds) (fun ds δ2 => Q (.mt i :: ds) δ2) X) := rfl
@[simp ↓] theorem dCall_s (sp : DSp) (t : TM) (δ : Ds) (Q : Rv → Ds → Prop) (X : Xd) : dCall sp t δ Q X = (t δ (fun ars δ1 => callD sp ars δ1 Q X) X) := rfl
@[simp ↓] theorem dNext_s (De : En) (δ : Ds) : dNext De δ = (De.nx δ) := rfl
@[simp ↓] theorem dBreak_s (De : En) (δ : Ds) : dBreak De δ = (De.bk δ) := rfl
@[simp ↓] theorem dCont_s (De : En) (δ : Ds) : dCont De δ = (De.ct δ) := rfl
@[simp ↓] theorem dDrop_s (te : TD) (De : En) (δ : Ds) : dDrop te De δ = (te δ (fun _ δ' => De.nx δ') De.ex) := rfl
@[simp ↓] theorem dRet_s (te : TD) (De : En) (δ : Ds) : dRet te De δ = (te δ De.rt De.ex) := rfl
@[simp ↓] theorem dRetN_s (De : En) (δ : Ds) : dRetN De δ = (De.rt (.im .none) δ) := rfl
@[simp ↓] theorem dIf_s (c : TB) (t u : TSd) (De : En) (δ : Ds) : dIf c t u De δ = (c δ (fun b δ' => if b = true then t De δ' else u De δ') De.ex) := rfl
@[simp ↓] theorem dAsg_s (te : TD) (i : Nat) (De : En) (δ : Ds) : dAsg te i De δ = (te δ (fun rv δ' => De.nx (δ'.set i rv.sl)) De.ex) := rfl
@[simp ↓] theorem gN_s (i : Nat) (d : D) (δ : Ds) (k : Ds → Prop) : gN i d δ k = (k (δ.set i (.im d))) := rfl
@[simp ↓] theorem gN2_s (i j : Nat) (d : D) (δ : Ds) (k : Ds → Prop) : gN2 i j d δ k = (match d with
  | .tuple [x, y] => k ((δ.set i (.im x)).set j (.im y))
  | _ => False) := rfl
@[simp ↓] theorem gN3_s (i j k : Nat) (d : D) (δ : Ds) (q : Ds → Prop) : gN3 i j k d δ q = (match d with
  | .tuple [x, y, z] => q (((δ.set i (.im x)).set j (.im y)).set k (.im z))
  | _ => False) := rfl
@[simp ↓] theorem dAsgG_s (te : TI) (g : TGd) (De : En) (δ : Ds) : dAsgG te g De δ = (te δ (fun d δ' => g d δ' De.nx) De.ex) := rfl
@[simp ↓] theorem dPar_s (i j : Nat) (ta : TL) (De : En) (δ : Ds) : dPar i j ta De δ = (ta δ (fun ds δ' => match ds with
  | [x, y] => De.nx ((δ'.set i (.im x)).set j (.im y))
  | _ => False) De.ex) := rfl
@[simp ↓] theorem wL_s (te : TI) (δ : Ds) (Q : List D → Ds → Prop) (X : Xd) : wL te δ Q X = (te δ (fun d δ' => match d with
  | .list ds => Q ds δ'
  | _ => False) X) := rfl
@[simp ↓] theorem wT_s (te : TI) (δ : Ds) (Q : List D → Ds → Prop) (X : Xd) : wT te δ Q X = (te δ (fun d δ' => match d with
  | .tuple ds => Q ds δ'
  | _ => False) X) := rfl
@[simp ↓] theorem wR1_s (ta : TL) (δ : Ds) (Q : List D → Ds → Prop) (X : Xd) : wR1 ta δ Q X = (ta δ (fun ds δ' => match ds with
  | [.int n] => inR n ∧ Q (upTo 0 1 n.toNat) δ'
  | _ => False) X) := rfl
@[simp ↓] theorem wR2_s (ta : TL) (δ : Ds) (Q : List D → Ds → Prop) (X : Xd) : wR2 ta δ Q X = (ta δ (fun ds δ' => match ds with
  | [.int m, .int n] => inR m ∧ inR n ∧ Q (upTo m 1 (n - m).toNat) δ'
  | _ => False) X) := rfl
@[simp ↓] theorem wR3_s (ta : TL) (δ : Ds) (Q : List D → Ds → Prop) (X : Xd) : wR3 ta δ Q X = (ta δ (fun ds δ' => match ds with
  | [.int i, .int j, .int c] => ∃ n, RgC i j c n ∧ Q (upTo i c n) δ'
  | _ => False) X) := rfl
@[simp ↓] theorem wEn_s (ta : TL) (δ : Ds) (Q : List D → Ds → Prop) (X : Xd) : wEn ta δ Q X = (ta δ (fun ds δ' => match ds with
  | [.list xs] => Q (pairN 0 xs) δ'
  | _ => False) X) := rfl
@[simp ↓] theorem wZ_s (ta : TL) (δ : Ds) (Q : List D → Ds → Prop) (X : Xd) : wZ ta δ Q X = (ta δ (fun ds δ' => match ds with
  | [.list xs, .list ys] => Q (zipD xs ys) δ'
  | _ => False) X) := rfl
@[simp ↓] theorem wS_s (te : TI) (δ : Ds) (Q : List D → Ds → Prop) (X : Xd) : wS te δ Q X = (te δ (fun d δ' => match d with
  | .str x => Q (signsD x) δ'
  | _ => False) X) := rfl
@[simp ↓] theorem bYes_s (δ : Ds) (Q : Bool → Ds → Prop) (u1 : Xd) : bYes δ Q u1 = (Q true δ) := rfl
@[simp ↓] theorem dTup_s (t : TL) (δ : Ds) (Q : D → Ds → Prop) (X : Xd) : dTup t δ Q X = (t δ (fun ds δ' => ds.length ≤ sizeLine ∧ Q (.tuple ds) δ') X) := rfl
@[simp ↓] theorem dLst_s (t : TL) (δ : Ds) (Q : Rv → Ds → Prop) (X : Xd) : dLst t δ Q X = (t δ (fun ds δ' => ds.length ≤ sizeLine ∧ Q (.ow ds) δ') X) := rfl
@[simp ↓] theorem dAnd_s (t u : TB) (δ : Ds) (Q : Bool → Ds → Prop) (X : Xd) : dAnd t u δ Q X = (t δ (fun c δ' => if c = true then u δ' Q X else Q false δ') X) := rfl
@[simp ↓] theorem dOr_s (t u : TB) (δ : Ds) (Q : Bool → Ds → Prop) (X : Xd) : dOr t u δ Q X = (t δ (fun c δ' => if c = true then Q true δ' else u δ' Q X) X) := rfl
@[simp ↓] theorem dNot_s (t : TB) (δ : Ds) (Q : Bool → Ds → Prop) (X : Xd) : dNot t δ Q X = (t δ (fun c δ' => Q (!c) δ') X) := rfl
@[simp ↓] theorem dAndV_s (t u : TI) (δ : Ds) (Q : D → Ds → Prop) (X : Xd) : dAndV t u δ Q X = (t δ (fun d δ' => match d with
  | .bool c => if c = true then u δ' Q X else Q (.bool false) δ'
  | _ => False) X) := rfl
@[simp ↓] theorem dOrV_s (t u : TI) (δ : Ds) (Q : D → Ds → Prop) (X : Xd) : dOrV t u δ Q X = (t δ (fun d δ' => match d with
  | .bool c => if c = true then Q (.bool true) δ' else u δ' Q X
  | _ => False) X) := rfl
@[simp ↓] theorem dNotV_s (t : TI) (δ : Ds) (Q : D → Ds → Prop) (X : Xd) : dNotV t δ Q X = (t δ (fun d δ' => match d with
  | .bool c => Q (.bool (!c)) δ'
  | _ => False) X) := rfl
@[simp ↓] theorem dIfE_s (c : TB) (t u : TI) (δ : Ds) (Q : D → Ds → Prop) (X : Xd) : dIfE c t u δ Q X = (c δ (fun b δ' => if b = true then t δ' Q X else u δ' Q X) X) := rfl
@[simp ↓] theorem dIfD_s (c : TB) (t u : TD) (δ : Ds) (Q : Rv → Ds → Prop) (X : Xd) : dIfD c t u δ Q X = (c δ (fun b δ' => if b = true then t δ' Q X else u δ' Q X) X) := rfl
@[simp ↓] theorem dNeg_s (t : TI) (δ : Ds) (Q : D → Ds → Prop) (X : Xd) : dNeg t δ Q X = (t δ (fun d δ' => match d with
  | .int i => Q (.int (-i)) δ'
  | _ => False) X) := rfl
@[simp ↓] theorem dCB_s (r : RC) (t : TL) (δ : Ds) (Q : D → Ds → Prop) (X : Xd) : dCB r t δ Q X = (t δ (fun ds δ' => r ds fun z => Q z δ') X) := rfl
@[simp ↓] theorem dCBN_s (r : RC) (i : Nat) (s0 : Sl) (l0 : Ds) (Q : D → Ds → Prop) (u1 : Xd) : dCBN r i (s0 :: l0) Q u1 = (match (Ds.at (s0 :: l0) i).dat? with
  | some d => r [d] fun z => Q z (s0 :: l0 : Ds)
  | none => False) := rfl
@[simp ↓] theorem rAbs_s (ds : List D) (k : D → Prop) : rAbs ds k = (match ds with
  | [.int i] => k (.int (i.natAbs : Int))
  | _ => False) := rfl
@[simp ↓] theorem rLen_s (ds : List D) (k : D → Prop) : rLen ds k = (match ds with
  | [.list ds] => k (.int (ds.length : Nat))
  | [.tuple ds] => k (.int (ds.length : Nat))
  | [.str x] => x.length ≤ sizeLine ∧ k (.int (x.length : Nat))
  | _ => False) := rfl
@[simp ↓] theorem rMax2_s (ds : List D) (k : D → Prop) : rMax2 ds k = (match ds with
  | [.int i, .int j] => k (.int (if j > i then j else i))
  | _ => False) := rfl
@[simp ↓] theorem rMin2_s (ds : List D) (k : D → Prop) : rMin2 ds k = (match ds with
  | [.int i, .int j] => k (.int (if j < i then j else i))
  | _ => False) := rfl
@[simp ↓] theorem rInt_s (ds : List D) (k : D → Prop) : rInt ds k = (match ds with
  | [.int i] => k (.int i)
  | [.bool b] => k (.int (if b then 1 else 0))
  | [.str x] => ∃ n, PySem.intText? x = some n ∧ x.length ≤ 640 ∧ k (.int n)
  | _ => False) := rfl
@[simp ↓] theorem rGcdD_s (ds : List D) (k : D → Prop) : rGcdD ds k = (match ds with
  | [.int i, .int j] => k (.int ((Nat.gcd i.natAbs j.natAbs : Nat) : Int))
  | _ => False) := rfl
@[simp ↓] theorem rSumD_s (ds : List D) (k : D → Prop) : rSumD ds k = (match ds with
  | [.list es] => ∃ ns, intsOf es = some ns ∧ k (.int ns.sum)
  | _ => False) := rfl
@[simp ↓] theorem rStr_s (ds : List D) (k : D → Prop) : rStr ds k = (match ds with
  | [.int i] => i.natAbs < 2 ^ 1919 ∧ k (.str (toString i))
  | [.str x] => k (.str x)
  | _ => False) := rfl
@[simp ↓] theorem dIsi_s (T : String) (t : TI) (δ : Ds) (Q : D → Ds → Prop) (X : Xd) : dIsi T t δ Q X = (t δ (fun d δ' => ∃ b, kitB (tyD d) T = some b ∧ Q (.bool b) δ') X) := rfl
@[simp ↓] theorem dIsi2_s (T1 T2 : String) (t : TI) (δ : Ds) (Q : D → Ds → Prop) (X : Xd) : dIsi2 T1 T2 t δ Q X = (t δ (fun d δ' => ∃ b1 b2, kitB (tyD d) T1 = some b1 ∧ kitB (tyD d) T2 = some b2 ∧ Q (.bool (b1 || b2)) δ') X) := rfl
@[simp ↓] theorem dLo_s (t : TI) (δ : Ds) (Q : Rv → Ds → Prop) (X : Xd) : dLo t δ Q X = (t δ (fun d δ' => match seqOf d with
  | some ds => Q (.ow ds) δ'
  | none => False) X) := rfl
@[simp ↓] theorem dLoN_s (i : Nat) (s0 : Sl) (l0 : Ds) (Q : Rv → Ds → Prop) (u1 : Xd) : dLoN i (s0 :: l0) Q u1 = (match (Ds.at (s0 :: l0) i).dat?.bind seqOf with
  | some ds => Q (.ow ds) (s0 :: l0 : Ds)
  | none => False) := rfl
@[simp ↓] theorem dTo_s (t : TI) (δ : Ds) (Q : D → Ds → Prop) (X : Xd) : dTo t δ Q X = (t δ (fun d δ' => match seqOf d with
  | some ds => Q (.tuple ds) δ'
  | none => False) X) := rfl
@[simp ↓] theorem dToN_s (i : Nat) (s0 : Sl) (l0 : Ds) (Q : D → Ds → Prop) (u1 : Xd) : dToN i (s0 :: l0) Q u1 = (match (Ds.at (s0 :: l0) i).lst? with
  | some ds => Q (.tuple ds) (s0 :: l0 : Ds)
  | none => False) := rfl
@[simp ↓] theorem dDivmod_s (ta : TL) (δ : Ds) (Q : D → Ds → Prop) (X : Xd) : dDivmod ta δ Q X = (ta δ (fun ds δ' => match ds with
  | [.int i, .int j] => CDivP i j ∧ Q (.tuple [.int (i / j), .int (i % j)]) δ'
  | _ => False) X) := rfl
@[simp ↓] theorem dBits_s (t : TI) (δ : Ds) (Q : D → Ds → Prop) (X : Xd) : dBits t δ Q X = (t δ (fun d δ' => match d with
  | .int i => Q (.int (bitsOf i : Nat)) δ'
  | _ => False) X) := rfl
@[simp ↓] theorem rIx_s (x : D) (y : D) (k : D → Prop) : rIx x y k = (match y with
  | .int i => (match itemD x i with
    | some d => k d
    | none => False)
  | _ => False) := rfl
@[simp ↓] theorem dIx_s (ta tb : TI) (δ : Ds) (Q : D → Ds → Prop) (X : Xd) : dIx ta tb δ Q X = (ta δ (fun x δ1 => tb δ1 (fun y δ2 => rIx x y fun z => Q z δ2) X) X) := rfl
@[simp ↓] theorem dIxN_s (i : Nat) (tb : TI) (s0 : Sl) (l0 : Ds) (Q : D → Ds → Prop) (X : Xd) : dIxN i tb (s0 :: l0) Q X = ((Ds.at (s0 :: l0) i).dat?.isSome = true ∧ tb (s0 :: l0 : Ds) (fun y δ2 => match (δ2.at i).dat? with
  | some x => rIx x y fun z => Q z δ2
  | none => False) X) := rfl
@[simp ↓] theorem dBinN_s (r : RB) (i : Nat) (tb : TI) (s0 : Sl) (l0 : Ds) (Q : D → Ds → Prop) (X : Xd) : dBinN r i tb (s0 :: l0) Q X = ((Ds.at (s0 :: l0) i).dat?.isSome = true ∧ tb (s0 :: l0 : Ds) (fun y δ2 => match (δ2.at i).dat? with
  | some x => r x y fun z => Q z δ2
  | none => False) X) := rfl
@[simp ↓] theorem pNo_s (δ : Ds) (Q : Option Int → Ds → Prop) (u1 : Xd) : pNo δ Q u1 = (Q none δ) := rfl
@[simp ↓] theorem pSo_s (t : TI) (δ : Ds) (Q : Option Int → Ds → Prop) (X : Xd) : pSo t δ Q X = (t δ (fun d δ' => match d with
  | .int i => Q (some i) δ'
  | _ => False) X) := rfl
@[simp ↓] theorem dSl_s (ta : TI) (tl th : TP) (δ : Ds) (Q : Rv → Ds → Prop) (X : Xd) : dSl ta tl th δ Q X = (ta δ (fun d δ1 => tl δ1 (fun lo δ2 => th δ2 (fun hi δ3 => match d with
  | .list ds => Q (.ow (cutD ds lo hi)) δ3
  | .str z => z.length ≤ sizeLine ∧ Q (.im (.str (cutS z lo hi))) δ3
  | _ => False) X) X) X) := rfl
@[simp ↓] theorem dSlN_s (i : Nat) (tl th : TP) (s0 : Sl) (l0 : Ds) (Q : Rv → Ds → Prop) (X : Xd) : dSlN i tl th (s0 :: l0) Q X = ((Ds.at (s0 :: l0) i).dat?.isSome = true ∧ tl (s0 :: l0 : Ds) (fun lo δ2 => th δ2 (fun hi δ3 => match (δ3.at i).lst? with
  | some ds => Q (.ow (cutD ds lo hi)) δ3
  | none => False) X) X) := rfl
@[simp ↓] theorem dEmp_s (δ : Ds) (Q : D → Ds → Prop) (u1 : Xd) : dEmp δ Q u1 = (Q (.dict []) δ) := rfl
@[simp ↓] theorem rInS_s (x : D) (y : D) (k : D → Prop) : rInS x y k = (match x, y with
  | .str i, .str j => k (.bool (!(Builtin.Str.occurrences j i 0 j.length 1).isEmpty))
  | _, _ => False) := rfl
@[simp ↓] theorem rNotInS_s (x : D) (y : D) (k : D → Prop) : rNotInS x y k = (match x, y with
  | .str i, .str j => k (.bool (!(!(Builtin.Str.occurrences j i 0 j.length 1).isEmpty)))
  | _, _ => False) := rfl
@[simp ↓] theorem dM1_s (r : Str → Str → (Rv → Prop) → Prop) (to te : TI) (δ : Ds) (Q : Rv → Ds → Prop) (X : Xd) : dM1 r to te δ Q X = (to δ (fun x δ1 => match x with
  | .str i => te δ1 (fun y δ2 => match y with
    | .str j => r i j fun z => Q z δ2
    | _ => False) X
  | _ => False) X) := rfl
@[simp ↓] theorem rStarts_s (i : Str) (j : Str) (k : (Rv → Prop)) : rStarts i j k = (k (.im (.bool (Txt.startswith i j)))) := rfl
@[simp ↓] theorem rEnds_s (i : Str) (j : Str) (k : (Rv → Prop)) : rEnds i j k = (k (.im (.bool (Txt.endswith i j)))) := rfl
@[simp ↓] theorem rSplit_s (i : Str) (j : Str) (k : (Rv → Prop)) : rSplit i j k = ((j.length == 0) = false ∧ i.length + 2 ≤ sizeLine ∧ k (.ow ((Txt.split i j).map PyData.str))) := rfl
@[simp ↓] theorem rPart_s (i : Str) (j : Str) (k : (Rv → Prop)) : rPart i j k = ((j.length == 0) = false ∧ i.length ≤ sizeLine ∧ k (.im (.tuple [.str (Txt.partition i j).1, .str (Txt.partition i j).2.1, .str (Txt.partition i j).2.2]))) := rfl
@[simp ↓] theorem dApp_s (i : Nat) (te : TI) (s0 : Sl) (l0 : Ds) (Q : D → Ds → Prop) (X : Xd) : dApp i te (s0 :: l0) Q X = ((Ds.at (s0 :: l0) i).isMut = true ∧ te (s0 :: l0 : Ds) (fun d δ2 => match (δ2.at i).lst? with
  | some ds => ds.length < sizeLine ∧ Q .none (δ2.set i ((δ2.at i).put (ds ++ [d])))
  | none => False) X) := rfl
@[simp ↓] theorem dPop_s (i : Nat) (s0 : Sl) (l0 : Ds) (Q : D → Ds → Prop) (u1 : Xd) : dPop i (s0 :: l0) Q u1 = (match (Ds.at (s0 :: l0) i).lst? with
  | some ds => (match ds[ds.length - 1]? with
    | some d => Q d ((s0 :: l0 : Ds).set i ((Ds.at (s0 :: l0) i).put ds.dropLast))
    | none => False)
  | none => False) := rfl
@[simp ↓] theorem dPopAt_s (i : Nat) (te : TI) (s0 : Sl) (l0 : Ds) (Q : D → Ds → Prop) (X : Xd) : dPopAt i te (s0 :: l0) Q X = ((Ds.at (s0 :: l0) i).isMut = true ∧ te (s0 :: l0 : Ds) (fun y δ2 => match y, (δ2.at i).lst? with
  | .int k, some ds => (match ixN ds.length k with
    | some j => (match ds[j]? with
      | some d => (-(2 ^ 63) ≤ k ∧ k < 2 ^ 63) ∧ Q d (δ2.set i ((δ2.at i).put (ds.eraseIdx j)))
      | none => False)
    | none => False)
  | _, _ => False) X) := rfl
@[simp ↓] theorem dSetIx_s (i : Nat) (te tk : TI) (De : En) (δ : Ds) : dSetIx i te tk De δ = (te δ (fun d δ1 => (δ1.at i).isMut = true ∧ tk δ1 (fun y δ2 => match y, (δ2.at i).lst? with
  | .int k, some ds => (match ixN ds.length k with
    | some j => De.nx (δ2.set i ((δ2.at i).put (ds.set j d)))
    | none => False)
  | _, _ => False) De.ex) De.ex) := rfl
@[simp ↓] theorem dCat_s (ta tb : TD) (δ : Ds) (Q : Rv → Ds → Prop) (X : Xd) : dCat ta tb δ Q X = (ta δ (fun x δ1 => match x with
  | .ow xs => tb δ1 (fun y δ2 => match y with
    | .ow ys => xs.length + ys.length ≤ sizeLine ∧ Q (.ow (xs ++ ys)) δ2
    | _ => False) X
  | _ => False) X) := rfl
@[simp ↓] theorem dCatN_s (i : Nat) (tb : TD) (s0 : Sl) (l0 : Ds) (Q : Rv → Ds → Prop) (X : Xd) : dCatN i tb (s0 :: l0) Q X = ((Ds.at (s0 :: l0) i).isMut = true ∧ tb (s0 :: l0 : Ds) (fun y δ2 => match y, (δ2.at i).lst? with
  | .ow ys, some xs => xs.length + ys.length ≤ sizeLine ∧ Q (.ow (xs ++ ys)) δ2
  | _, _ => False) X) := rfl
@[simp ↓] theorem wA_s (te : TI) (δ : Ds) (Q : List D → Ds → Prop) (X : Xd) : wA te δ Q X = (te δ (fun d δ' => match itemsD d with
  | some ds => Q ds δ'
  | none => False) X) := rfl
@[simp ↓] theorem gN12_s (i j l : Nat) (d : D) (δ : Ds) (k : Ds → Prop) : gN12 i j l d δ k = (match d with
  | .tuple [x, .tuple [y, z]] => k (((δ.set i (.im x)).set j (.im y)).set l (.im z))
  | _ => False) := rfl
@[simp ↓] theorem rRepr_s (ds : List D) (k : D → Prop) : rRepr ds k = (match ds with
  | [d] => shOk d ∧ k (.str d.shown)
  | _ => False) := rfl
@[simp ↓] theorem dLend_s (sp : DSp) (i : Nat) (t : TL) (s0 : Sl) (l0 : Ds) (Q : D → Ds → Prop) (X : Xd) : dLend sp i t (s0 :: l0) Q X = ((Ds.at (s0 :: l0) i).isMut = true ∧ t (s0 :: l0 : Ds) (fun ds δ1 => match (δ1.at i).lst? with
  | some xs => sp (.im (.list xs) :: ds.map .im) (fun rv _ => match rv with
    | .im d => (∃ v, flat d = some v) ∧ Q d δ1
    | .ow _ => False) (fun _ _ => False)
  | none => False) X) := rfl
@[simp ↓] theorem dRaise_s (C : Addr) (fs : List Str) (t : TL) (De : En) (δ : Ds) : dRaise C fs t De δ = (t δ (fun ds δ' => ds.length = fs.length ∧ De.ex ⟨C, (fs.zip ds).reverse⟩ δ') De.ex) := rfl
@[simp ↓] theorem hC_s (y : D) (u1 : Ex) (k : D → Prop) : hC y u1 k = (k y) := rfl
@[simp ↓] theorem hFld_s (C : Addr) (f : Str) (ex : Ex) (k : D → Prop) : hFld C f ex k = (ex.cls = C ∧ ∃ y, ex.fs.lookup f = some y ∧ k y) := rfl
@[simp ↓] theorem hNil_s (u1 : Ex) (k : List D → Prop) : hNil u1 k = (k []) := rfl
@[simp ↓] theorem hCons_s (h : HF) (u : HL) (ex : Ex) (k : List D → Prop) : hCons h u ex k = (h ex fun y => u ex fun ys => k (y :: ys)) := rfl
@[simp ↓] theorem hTup_s (u : HL) (ex : Ex) (k : D → Prop) : hTup u ex k = (u ex fun ys => ys.length ≤ sizeLine ∧ k (.tuple ys)) := rfl
@[simp ↓] theorem hCall_s (r : RC) (u : HL) (ex : Ex) (k : D → Prop) : hCall r u ex k = (u ex fun ys => r ys k) := rfl
@[simp ↓] theorem hBin_s (r : RB) (ha hb : HF) (ex : Ex) (k : D → Prop) : hBin r ha hb ex k = (ha ex fun x => hb ex fun y => r x y k) := rfl
@[simp ↓] theorem hNot_s (h : HF) (ex : Ex) (k : D → Prop) : hNot h ex k = (h ex fun y => match y with
  | .bool c => k (.bool (!c))
  | _ => False) := rfl
@[simp ↓] theorem hAnd_s (h u : HF) (ex : Ex) (k : D → Prop) : hAnd h u ex k = (h ex fun y => match y with
  | .bool c => if c = true then u ex k else k (.bool false)
  | _ => False) := rfl
@[simp ↓] theorem hIsT_s (K : PySem.W.Frag) (C : Addr) (cs : List Addr) (ex : Ex) (k : D → Prop) : hIsT K C cs ex k = (ex.cls = C ∧ ∃ b, PySem.W.kitAny K (.ref C) (cs.map .ref) = some b ∧ k (.bool b)) := rfl
@[simp ↓] theorem hIs1_s (K : PySem.W.Frag) (C : Addr) (u : Value) (ex : Ex) (k : D → Prop) : hIs1 K C u ex k = (ex.cls = C ∧ ∃ b, PySem.W.kitOne K (.ref C) u = some b ∧ k (.bool b)) := rfl
@[simp ↓] theorem hCallH_s (sp : DSp) (u : HL) (ex : Ex) (k : D → Prop) : hCallH sp u ex k = (u ex fun ys => sp (ys.map .im) (fun rv _ => match rv with
  | .im y => k y
  | .ow _ => False) (fun _ _ => False)) := rfl
@[simp ↓] theorem dCallK_s (sp : DSp) (π : Perm) (m : Nat) (t : TL) (δ : Ds) (Q : Rv → Ds → Prop) (X : Xd) : dCallK sp π m t δ Q X = (t δ (fun ds δ1 => ds.length = m ∧ sp ((π.g ds).map .im) (fun rv _ => Q rv δ1) (fun ex _ => X ex δ1)) X) := rfl
end DL


/-! text DLH -/
set_option Elab.async false
set_option linter.all false
set_option maxRecDepth 100000
set_option maxHeartbeats 1000000
/-! DLH: the end over data; the head's own facts. -/
namespace DL
open PySem PySem.Spec PyProof.Rows L2 L2H

/-! ### the end -/
/-- the law's call where at most the script is tracked, frozen -/
theorem scriptG {P : Program} {w : World} {K : PySem.W.Frag} {mg mb : Str → Option Value} {CX : CXT} {k : Nat} {fa a : Addr} {fd : FuncData} {x : Str} {sp : DSp} {s : Shared} {vs : List Value} {ns : List Int}
    (KX : K.In s.heap) (hns : s.heap.Ns mainGlobals mg) (hb : s.heap.Ns builtinsNs mb) (hbb : ∀ x : Str, x ≠ "__name__" → mb x = bootBuiltins x) (hlim : s.heap.NoLimit) (hg : s.gens = #[])
    (ha : s.heap.get? a = some { cls := .type "list", data := .seq vs.toArray }) (hr : Room k callerA)
    (F : ∀ base : Heap, K.In base → base.Ns mainGlobals mg → FnG P w K mg base CX k fa fd [x] (lsp K sp)) (hbind : ∀ (s : Shared) (u : Value), BindsTo s fd ⟨[u], []⟩ [(x, u)])
    (hsp : ∀ Q E, Q (.im (.bool true)) [] → sp [.im (.list (ns.map PyData.int))] Q E) (hCX : ∀ H e s', CX [] H s (fun _ _ _ => False) e s' → False)
    (H : Hp) (hH : ∀ b u, H b = some u → b = a ∧ ∃ o xs, u = .frz o (.lst xs)) (hok : HOk P w H s.heap) (hK : ∀ b o, K.lookup b = some o → H b = none) (hD : Dv K (fun b => H b ≠ none) H (.ref a) (.list (ns.map PyData.int))) :
    codeAny (model P w) callerA (.call (.ref fa) ⟨[.ref a], []⟩) (fun r s' => r = .ok (.ret (.bool true)) ∧ OldK s.heap s'.heap ∧ s'.os = s.os ∧ AllBare s'.gens) s := by
  have keepN : ∀ {b : Addr} {o : Obj}, s.heap.get? b = some o → H b = none → (hidT s.heap H).get? b = some o := hidT_get
  have dictN : ∀ {b : Addr} {o : Obj} {es : Array DictEntry} {ep : Nat}, s.heap.get? b = some o → o.data = .dict es ep → H b = none := by
    intro b o es ep e d
    cases q : H b with
    | none => rfl
    | some u =>
      obtain ⟨rfl, _⟩ := hH b u q
      rw [ha] at e
      cases e
      cases (show Data.seq vs.toArray _ = Data.dict es ep from d)
  have nsN : ∀ {b : Addr} {m : Str → Option Value}, s.heap.Ns b m → (hidT s.heap H).Ns b m := by
    rintro b m ⟨o, es, ep, e, d, r⟩
    exact ⟨o, es, ep, keepN e (dictN e d), d, r⟩
  have kin : K.In (hidT s.heap H) := fun b o e => keepN (KX b o e) (hK b o e)
  obtain ⟨mc, c1, c2⟩ := hlim
  have mo : Mod K mg (hidT s.heap H) := ⟨kin, nsN hns, ⟨mb, nsN hb, hbb⟩, mc, nsN c1, c2⟩
  have e0 : Env0 P w K mg (hidT s.heap H) callerA [] s H :=
    ⟨rfl, mo, fun _ _ e => of_hidT e, Nat.le_of_eq (hidT_size _ _), trivial, fun b hb => absurd hb (List.not_mem_nil), hok, .of_eq hg⟩
  have pr : lsp K sp [.ref a] H (fun v _ => v = .bl true) (fun _ _ _ => False) := by
    refine ⟨fun b => H b ≠ none, [.im (.list (ns.map PyData.int))], fun rv _ => rv = .im (.bool true), fun _ _ => False, .cons hD .nil, List.nodup_nil, fun _ h => h, hsp _ _ rfl, ?_, fun _ _ _ _ _ _ _ _ h => h⟩
    intro R' H' v rv outs _ ret e
    subst e
    cases (show Dv K R' H' v (.bool true) from ret)
    rfl
  refine codeAny_mono ((F _ kin (nsN hns)).run callerA [] s H ⟨[.ref a], []⟩ [.ref a] [.ref a] _ _ hr rfl e0 (hbind s _) (.cons rfl .nil) pr) fun r s' q => ?_
  cases r with
  | error e => exact (hCX H e s' q).elim
  | ok fl =>
    cases fl with
    | ret u =>
      obtain ⟨v, H', os, bare, un, hok', rv, rfl⟩ := q
      cases (show u = Value.bool true from rv)
      refine ⟨rfl, OldK.of_keep fun b o e => ?_, os, bare⟩
      cases p : H b with
      | none => exact un.keep b o e p (fun z => absurd z List.not_mem_nil) (by simp)
      | some t =>
        obtain ⟨_, ob, xs, rfl⟩ := hH b t p
        have e1 := (hok b _ p).1
        have e2 := (hok' b _ (un.frzs b ob _ p)).1
        rw [e] at e1
        cases e1
        exact e2
    | next => exact False.elim q
    | brk => exact False.elim q
    | cont => exact False.elim q
theorem dvs_vals {K : PySem.W.Frag} {R : Rg} {H : Hp} (ns : List Int) : Dvs K R H (ns.map V.int) (ns.map PyData.int) := Dvs.ints ns
/-- a law: the head gives the written part, the function object and its promise over data -/
theorem walkG {l : PySem.W.OpenLaw} {n k : Nat} {q : Program} {loose : List Str} {XP : (Str → Option Value) → Heap → Prop} {YP : World → Heap → Prop} {d : DefRec} {CX : World → CXT} {x : Str}
    (hn : l.most = some n) (hn2 : n ≤ sizeLine) (hdf : d.params.defaults = []) (hr : Room k callerA)
    (F : ∀ (w : World) (mg : Str → Option Value) (fa : Addr) (h : Heap), YP w h → h.Ns mainGlobals mg → mg d.name = some (.ref fa) →
      ∃ (K : PySem.W.Frag) (fd : FuncData) (sp : DSp), K.In h ∧ (∀ (s : Shared) (u : Value), BindsTo s fd ⟨[u], []⟩ [(x, u)]) ∧
        (∀ ns : List Int, ns.length ≤ n → ∀ Q E, Q (.im (.bool true)) [] → sp [.im (.list (ns.map PyData.int))] Q E) ∧
        ∀ base : Heap, K.In base → base.Ns mainGlobals mg → FnG l.prog w K mg base (CX w) k fa fd [x] (lsp K sp))
    (hCX : ∀ (w : World) (H : Hp) (s : Shared) (e : Value) (s' : Shared), CX w [] H s (fun _ _ _ => False) e s' → False) :
    PySem.W.WalkO q loose XP YP l.row.toRowW d [] (fun f vs => PySem.call f vs) := by
  refine Att.attach_call hn hdf fun w s₀ s mg mb fa o pm cd doc a vs ns G Y ho hd hcd hmg ha hints hlen hg => ?_
  obtain ⟨K, fd, sp, KX, hb, hsp, hF⟩ := F w mg fa _ Y G.T.g hmg
  have rv := vals_ints hints
  have lz : ns.length ≤ sizeLine := Nat.le_trans hlen hn2
  have go := fun H hH hok hK hD => scriptG (sp := sp) (ns := ns) KX G.T.g G.T.b G.T.builtins G.T.nolimit hg ha hr hF hb (hsp ns hlen) (fun H e s' => hCX w H s e s') H hH hok hK hD
  cases hk : K.lookup a with
  | some o2 =>
    have e := KX a o2 hk
    rw [ha] at e
    cases e
    refine go (fun _ => none) (fun b u z => nomatch (show (none : Option HO) = some u from z)) (fun b u z => nomatch (show (none : Option HO) = some u from z)) (fun _ _ _ => rfl) (.lst (.inr ⟨_, vs.toArray, _, hk, rfl, rfl, rfl, ?_, by simpa using rv⟩) (dvs_vals ns))
    rw [List.size_toArray, hints.length]
    exact lz
  | none =>
    have at_ : ∀ {b : Addr} {u : HO}, (if b = a then some (HO.frz { cls := .type "list", data := .seq vs.toArray } (.lst (ns.map V.int))) else none) = some u → b = a ∧ u = .frz { cls := .type "list", data := .seq vs.toArray } (.lst (ns.map V.int)) := by
      intro b u z
      by_cases e : b = a
      · rw [if_pos e] at z
        exact ⟨e, (Option.some.inj z).symm⟩
      · rw [if_neg e] at z
        cases z
    refine go (fun b => if b = a then some (.frz { cls := .type "list", data := .seq vs.toArray } (.lst (ns.map V.int))) else none) (fun b u z => ?_) (fun b u z => ?_) (fun b o e => ?_) (.lst (.inl ⟨?_, .inr ⟨_, if_pos rfl⟩⟩) (dvs_vals ns))
    · exact ⟨(at_ z).1, _, _, (at_ z).2⟩
    · obtain ⟨rfl, rfl⟩ := at_ z
      exact ⟨ha, by rw [List.length_map]; exact lz, vs, _, rv, ha⟩
    · rw [if_neg]
      intro e2
      rw [e2, hk] at e
      cases e
    · rw [if_pos rfl]
      simp

/-! ### own facts of the head -/
def oexB (K : PySem.W.Frag) (C : Addr) : Bool := match K.lookup C with
  | some ⟨.type t, _, .cls cd, sl⟩ => (match cd.mro, sl.toList with
    | .ref C' :: bm, [_, _, _, _, some (.builtin n), _] => decide (t = "type") && (decide (C' = C) && (decide (n = "ValueError.__new__") && (!cd.hasDel && (cd.hasDict && PySem.HandSPX.refsVE bm))))
    | _, _ => false)
  | _ => false
theorem oexB_ok {K : PySem.W.Frag} {C : Addr} (h : oexB K C = true) : ∃ nm q N bs bm sn sub ab col dd k0 k1 k2 k3 k5, K.lookup C = some (excClassObj nm q C N bs bm true sn sub ab col dd k0 k1 k2 k3 k5 "ValueError.__new__") ∧ PySem.HandSPX.refsVE bm = true := by
  unfold oexB at h
  split at h
  · rename_i t dd cd sl ho
    split at h
    · rename_i C' bm k0 k1 k2 k3 n k5 hm hs
      obtain ⟨e1, h⟩ := Bool.and_eq_true_iff.mp h
      obtain ⟨e2, h⟩ := Bool.and_eq_true_iff.mp h
      obtain ⟨e3, h⟩ := Bool.and_eq_true_iff.mp h
      obtain ⟨e4, h⟩ := Bool.and_eq_true_iff.mp h
      obtain ⟨e5, hR⟩ := Bool.and_eq_true_iff.mp h
      replace e1 := of_decide_eq_true e1
      replace e2 := of_decide_eq_true e2
      replace e3 := of_decide_eq_true e3
      clear h
      obtain ⟨nm, bs, mro, N, qn, hd, sn, sub, ab, col, del⟩ := cd
      obtain ⟨l⟩ := sl
      dsimp only at hm hs e4 e5
      subst e1 e2 e3 hm hs e5
      cases del with
      | true => cases e4
      | false => exact ⟨nm, qn, N, bs, bm, sn, sub, ab, col, dd, k0, k1, k2, k3, k5, ho, hR⟩
    · cases h
  · cases h
def eqB {α : Type} [DecidableEq α] (a b : α) : Bool := decide (a = b)
def errB (x : Str) (fs : List Str) (K : PySem.W.Frag) : Bool := let C := He.ga K x
  oexB K C && (decide (PySem.W.findIn K (.ref C) "__setattr__" = some (some (.builtin "object.__setattr__"))) && (decide (PySem.W.subIn K (.ref C) (.type "BaseException") = some true) && (decide (PySem.W.typeIn K (.ref C) = some (.type "type")) &&
  (PySem.W.keepIn K (.ref C) && (xfB K C && (decide (PySem.W.findIn K (.ref C) "__class__" = some (some (.builtin "object.__class__"))) && (decide (PySem.W.specialIn K (.builtin "object.__class__") "__get__" = some (some (.builtin "getset_descriptor.__get__"))) &&
  (decide (PySem.W.takesIn K (.builtin "object.__class__") = some true) && (decide (PySem.W.mroIn K C (.type "object") = some true) && (fs.all (fun f => decide (PySem.W.findIn K (.ref C) f = some none)) &&
  (decide (PySem.W.findIn K (.ref C) "__init__" = some (some (.ref (He.ma K C "__init__")))) && decide (PySem.W.typeIn K (.ref (He.ma K C "__init__")) = some (.type "function")))))))))))))
theorem errB_ok {P : Program} {w : World} {K : PySem.W.Frag} {mg : Str → Option Value} {base : Heap} {x : Str} {fs : List Str} {fd : FuncData} {ps : List Str} (h : errB x fs K = true) (gl : mg x = some (.ref (He.ga K x)))
    (ini : OexC K (He.ga K x) → (∀ f ∈ fs, PySem.W.findIn K (.ref (He.ga K x)) f = some none) → FnOk P w K mg base CX0 1 (He.ma K (He.ga K x) "__init__") fd ps (spIni (He.ga K x) fs.length fs)) (hb : Binds K fd ps []) : ErrC P w K mg base x (He.ga K x) fs := by
  unfold errB at h
  obtain ⟨h1, h⟩ := Bool.and_eq_true_iff.mp h
  obtain ⟨h2, h⟩ := Bool.and_eq_true_iff.mp h
  obtain ⟨h3, h⟩ := Bool.and_eq_true_iff.mp h
  obtain ⟨h4, h⟩ := Bool.and_eq_true_iff.mp h
  obtain ⟨h5, h⟩ := Bool.and_eq_true_iff.mp h
  obtain ⟨h6, h⟩ := Bool.and_eq_true_iff.mp h
  obtain ⟨h7, h⟩ := Bool.and_eq_true_iff.mp h
  obtain ⟨h8, h⟩ := Bool.and_eq_true_iff.mp h
  obtain ⟨h9, h⟩ := Bool.and_eq_true_iff.mp h
  obtain ⟨h10, h⟩ := Bool.and_eq_true_iff.mp h
  obtain ⟨h11, h⟩ := Bool.and_eq_true_iff.mp h
  obtain ⟨h12, h13⟩ := Bool.and_eq_true_iff.mp h
  have T : OexC K (He.ga K x) := ⟨oexB_ok h1, of_decide_eq_true h2, of_decide_eq_true h3, of_decide_eq_true h4, h5⟩
  have X := xfB_ok h6
  have no : ∀ f ∈ fs, PySem.W.findIn K (.ref (He.ga K x)) f = some none := fun f hf => of_decide_eq_true (List.all_eq_true.mp h11 f hf)
  exact ⟨T, gl, X, ⟨X.ga, X.gg, X.exC, X.hdC, of_decide_eq_true h7, of_decide_eq_true h8, of_decide_eq_true h9, of_decide_eq_true h10⟩, no, He.ma K (He.ga K x) "__init__", fd, ps, of_decide_eq_true h12, of_decide_eq_true h13, ini T no, hb⟩
def sysB (K : PySem.W.Frag) : Bool := match K.lookup sysModules with
  | some ⟨_, _, .dict _ _, _⟩ => true
  | _ => false
theorem sysB_ok {K : PySem.W.Frag} (h : sysB K = true) : SysK K := by
  unfold sysB at h
  split at h
  · rename_i ho
    exact ⟨_, _, _, ho, rfl⟩
  · cases h
/-- a global that is a builtin of a module -/
def bltB (x : Str) (n : String) (K : PySem.W.Frag) : Bool := match PySem.W.nsIn K mainGlobals x with
  | some (some (.builtin m)) => decide (m = n)
  | _ => false
theorem bltB_ok {K : PySem.W.Frag} {h : Heap} {mg : Str → Option Value} (X : K.In h) (G : h.Ns mainGlobals mg) {x : Str} {n : String} (c : bltB x n K = true) : mg x = some (.builtin n) := by
  unfold bltB at c
  split at c
  · rename_i m e
    have := of_decide_eq_true c
    subst this
    exact PySem.W.mg_of X G e
  · cases c
/-- how the classes stand to one another -/
def exmB (x y : Str) (b : Bool) (K : PySem.W.Frag) : Bool := decide (PySem.W.exmOne K (.ref (He.ga K x)) (.ref (He.ga K y)) = some b)
def anyB (x : Str) (ys : List Str) (b : Bool) (K : PySem.W.Frag) : Bool := decide (PySem.W.kitAny K (.ref (He.ga K x)) (ys.map fun y => .ref (He.ga K y)) = some b)
def neB (x y : Str) (K : PySem.W.Frag) : Bool := decide (He.ga K x ≠ He.ga K y)
abbrev Fx : Type := PySem.W.Frag → Bool
def obsX (fa : List He.Fa) (fx : List Fx) (fn : List He.DefD) (K : PySem.W.Frag) : He.AlD := ((fx.all fun f => f K) && (He.obsD fa fn K).1, (He.obsD fa fn K).2)
def SaysX (fa : List He.Fa) (fx : List Fx) (fn : List He.DefD) (K : PySem.W.Frag) : Prop := obsX fa fx fn K = He.valD fn
def obsXG (n : Nat) (fa : List He.Fa) (fx : List Fx) (fn : List He.DefD) (g : Addr → Option Obj) : He.AlD := obsX fa fx fn (He.frG g (sysModules :: He.asD g n))
def hookX (n : Nat) (fa : List He.Fa) (fx : List Fx) (fn : List He.DefD) : PySem.W.Hook where
  α := He.AlD
  obs := fun s => obsXG n fa fx fn s.heap.get?
  val := fun _ => He.valD fn
  says := fun _ h => ∃ K : PySem.W.Frag, K.In h ∧ SaysX fa fx fn K
  of := fun _ _ e => ⟨_, He.frG_in, e⟩
  keeps := fun _ _ _ ⟨K, hK, c⟩ k => ⟨K, PySem.W.Frag.In.keeps hK k, c⟩
theorem obsXG_eq {n : Nat} {fa : List He.Fa} {fx : List Fx} {fn : List He.DefD} {g : Addr → Option Obj} {s : Shared} (h : ∀ a, g a = s.heap.get? a) : obsXG n fa fx fn g = (hookX n fa fx fn).obs s := by
  have e : g = s.heap.get? := funext h
  rw [e] <;> rfl
theorem SaysX.d {fa : List He.Fa} {fx : List Fx} {fn : List He.DefD} {K : PySem.W.Frag} (c : SaysX fa fx fn K) : He.SaysD fa fn K ∧ ∀ f ∈ fx, f K = true := by
  have c1 : ((fx.all fun f => f K) && (He.obsD fa fn K).1) = true := congrArg (fun z : He.AlD => z.1) c
  obtain ⟨h1, h2⟩ := Bool.and_eq_true_iff.mp c1
  have c0 : obsX fa fx fn K = He.valD fn := c
  have c2 : (obsX fa fx fn K).2 = (He.valD fn).2 := by rw [c0]
  exact ⟨Prod.ext h2 c2, List.all_eq_true.mp h1⟩
theorem SaysX.at_ {fa : List He.Fa} {fx : List Fx} {fn : List He.DefD} {K : PySem.W.Frag} (c : SaysX fa fx fn K) (i : Nat) {f : Fx} (h : fx[i]? = some f := by rfl) : f K = true := c.d.2 f (List.mem_of_getElem? h)
end DL


/-! text DL19 -/
set_option maxHeartbeats 400000
set_option Elab.async false
set_option linter.all false
set_option maxRecDepth 100000
/-! DL19: zip of three lists; math.lcm of small numbers. -/
namespace DL
open PySem PySem.Spec PyProof.Rows L2 L2H

/-- three lists as they stand at each turn, their items in new triples -/
def Itz3 (K : PySem.W.Frag) (a b c : Addr) : It :=
  ⟨fun i H => ∃ (xs ys zs : List V) (x y z : V), SqL K H a xs ∧ SqL K H b ys ∧ SqL K H c zs ∧ xs[i]? = some x ∧ ys[i]? = some y ∧ zs[i]? = some z,
    fun i H v H' => ∃ T x y z, v = .ref T ∧ H T = none ∧ H' = upd H T (.tup [x, y, z]) ∧ (∀ xs, SqL K H a xs → xs[i]? = some x) ∧ (∀ ys, SqL K H b ys → ys[i]? = some y) ∧ ∀ zs, SqL K H c zs → zs[i]? = some z,
    fun i H => ∃ xs ys zs : List V, SqL K H a xs ∧ SqL K H b ys ∧ SqL K H c zs ∧ i = min (min xs.length ys.length) zs.length⟩
def Tn3 (N a b c : Addr) (i : Nat) (h : Heap) : Prop := IsZip h (N + 5) (N + 3) (N + 4) .none ∧ IsTupOf3 h (N + 3) (.ref N) (.ref (N + 1)) (.ref (N + 2)) ∧ (∃ x y z, IsTupOf3 h (N + 4) x y z) ∧ h.IsListIter N a i ∧ h.IsListIter (N + 1) b i ∧ h.IsListIter (N + 2) c i
def fp3 (N : Addr) : List Addr := [N + 5, N + 3, N + 4, N, N + 1, N + 2]
theorem fp3_cases {N b : Addr} (h : b ∈ fp3 N) : b = N + 5 ∨ b = N + 3 ∨ b = N + 4 ∨ b = N ∨ b = N + 1 ∨ b = N + 2 := by
  unfold fp3 at h
  simpa using h
def draw3 {P : Program} {w : World} {A : Around} {N a b c : Addr} {elts : List Expr} {kk : Nat} {tpos : Pos} (hh : A.in1.handled = none) (ha : a < N) (hb : b < N) (hc : c < N) (xs ys zs : Array Value) :=
  GoesN.zip3 (prog := P) (w := w) (A := A) (elts := elts) (x1 := kk) (pos := tpos) (zip_sep3 (N := N) (fp1 := [a]) (fp2 := [b]) (fp3 := [c]) (fun d hd => by rw [List.mem_singleton.mp hd]; exact ha) (fun d hd => by rw [List.mem_singleton.mp hd]; exact hb) (fun d hd => by rw [List.mem_singleton.mp hd]; exact hc))
    (Draws.list hh N a (Nat.ne_of_lt ha) xs) (Draws.list hh (N + 1) b (Nat.ne_of_lt (Nat.lt_succ_of_lt hb)) ys) (Draws.list hh (N + 2) c (Nat.ne_of_lt (Nat.lt_succ_of_lt (Nat.lt_succ_of_lt hc))) zs)
theorem turn_zip3 {P : Program} {w : World} {K : PySem.W.Frag} {elts : List Expr} {kk : Nat} {tpos : Pos} {N a b c : Addr} (ha : a < N) (hb : b < N) (hc : c < N) :
    Turn P w K (.Tuple elts kk tpos) (Itz3 K a b c) (fp3 N) (N + 5) (Tn3 N a b c) where
  mem := by unfold fp3; simp
  obj := fun i h st d hd => by
    obtain ⟨hz, hTI, ⟨x, y, z, hTO⟩, ⟨o1, e1, _, d1⟩, ⟨o2, e2, _, d2⟩, ⟨o3, e3, _, d3⟩⟩ := st
    rcases fp3_cases hd with q | q | q | q | q | q
    · rw [q]; exact ⟨_, hz, fun v q => nomatch q⟩
    · rw [q]; exact ⟨_, hTI, fun v q => nomatch q⟩
    · rw [q]; exact ⟨_, hTO, fun v q => nomatch q⟩
    · rw [q]; exact ⟨o1, e1, fun v q => by rw [d1] at q; cases q⟩
    · rw [q]; exact ⟨o2, e2, fun v q => by rw [d2] at q; cases q⟩
    · rw [q]; exact ⟨o3, e3, fun v q => by rw [d3] at q; cases q⟩
  keep := fun i h h' st k => by
    obtain ⟨hz, hTI, ⟨x, y, z, hTO⟩, h1, h2, h3⟩ := st
    unfold fp3 at k
    exact ⟨k _ (by simp) _ hz, k _ (by simp) _ hTI, ⟨x, y, z, k _ (by simp) _ hTO⟩, h1.at fun o q => k _ (by simp) o q, h2.at fun o q => k _ (by simp) o q, h3.at fun o q => k _ (by simp) o q⟩
  item := by
    intro X hP hw hK hcm i pins s σ H E I hf st hg
    subst hP hw hK
    obtain ⟨hz, hTI, hTO, h1, h2, h3⟩ := st
    obtain ⟨xs, ys, zs, x, y, z, q1, q2, q3, g1, g2, g3⟩ := hg
    obtain ⟨l1, r1, p1, _⟩ := I.list q1
    obtain ⟨l2, r2, p2, _⟩ := I.list q2
    obtain ⟨l3, r3, p3, _⟩ := I.list q3
    obtain ⟨u1, a1, b1⟩ := r1.get g1
    obtain ⟨u2, a2, b2⟩ := r2.get g2
    obtain ⟨u3, a3, b3⟩ := r3.get g3
    have old : ∀ d ∈ fp3 N, d < s.heap.objs.size := fun d hd => by
      obtain ⟨x0, y0, z0, hTO'⟩ := hTO
      obtain ⟨o1, e1, _⟩ := h1
      obtain ⟨o2, e2, _⟩ := h2
      obtain ⟨o3, e3, _⟩ := h3
      rcases fp3_cases hd with q | q | q | q | q | q
      · rw [q]; exact Heap.lt_size hz
      · rw [q]; exact Heap.lt_size hTI
      · rw [q]; exact Heap.lt_size hTO'
      · rw [q]; exact Heap.lt_size e1
      · rw [q]; exact Heap.lt_size e2
      · rw [q]; exact Heap.lt_size e3
    have lt1 : i < l1.toArray.size := by rw [List.size_toArray]; exact (List.getElem?_eq_some_iff.mp a1).1
    have lt2 : i < l2.toArray.size := by rw [List.size_toArray]; exact (List.getElem?_eq_some_iff.mp a2).1
    have lt3 : i < l3.toArray.size := by rw [List.size_toArray]; exact (List.getElem?_eq_some_iff.mp a3).1
    have hi : i < min (min l1.toArray.size l2.toArray.size) l3.toArray.size := by omega
    refine (draw3 (A := X.A) (I.ok.hd hcm) ha hb hc l1.toArray l2.toArray l3.toArray).goes i s _ E hi ⟨hz, hTI, hTO, ⟨h1, p1.isList⟩, ⟨h2, p2.isList⟩, ⟨h3, p3.isList⟩⟩ fun v h' tk hy st' hk _ => ?_
    obtain ⟨T, v1, v2, v3, rfl, hT, e1, e2, e3, hTup⟩ := hy
    obtain ⟨hz', hTI', hTO', ⟨h1', _⟩, ⟨h2', _⟩, ⟨h3', _⟩⟩ := st'
    rw [List.getElem?_toArray, a1] at e1
    rw [List.getElem?_toArray, a2] at e2
    rw [List.getElem?_toArray, a3] at e3
    cases e1
    cases e2
    cases e3
    obtain ⟨ob, f1, f2, n, f3⟩ := hTup
    have new : ObjOk X.prog X.w (upd H T (.tup [x, y, z])) h' T (.tup [x, y, z]) := ⟨by show 3 ≤ sizeLine; decide, [u1, u2, u3], .cons b1 (.cons b2 (.cons b3 .nil)), ⟨ob, f1, f2, n, f3⟩⟩
    have I1 : Inv X pins σ (upd H T (.tup [x, y, z])) { s with heap := h', toks := tk } := I.turnedNew (t' := tk) (ch := fp3 N) (fun d o hd e => hk d o (fun hm => hd (by
      unfold fp3
      simp only [List.mem_cons, List.not_mem_nil, or_false] at hm ⊢
      rcases hm with h | h | h | h | h <;> simp [h])) e) hf hT new
    refine ⟨.ref T, _, I1, rfl, ⟨T, x, y, z, rfl, I.hok.fresh hT, rfl, fun l hl => by rw [I.list_inj hl q1]; exact g1, fun l hl => by rw [I.list_inj hl q2]; exact g2, fun l hl => by rw [I.list_inj hl q3]; exact g3⟩, ⟨hz', hTI', hTO', h1', h2', h3'⟩, fun d hd => ?_⟩
    rw [upd_ne (Nat.ne_of_lt (Nat.lt_of_lt_of_le (old d hd) hT))]
    exact (hf d hd).1
  done := by
    intro X hP hw hK hcm i pins s σ H E I hf st hg
    subst hP hw hK
    obtain ⟨hz, hTI, hTO, h1, h2, h3⟩ := st
    obtain ⟨xs, ys, zs, q1, q2, q3, hi⟩ := hg
    obtain ⟨l1, r1, p1, _⟩ := I.list q1
    obtain ⟨l2, r2, p2, _⟩ := I.list q2
    obtain ⟨l3, r3, p3, _⟩ := I.list q3
    have hi2 : i = min (min l1.toArray.size l2.toArray.size) l3.toArray.size := by
      rw [List.size_toArray, List.size_toArray, List.size_toArray, ← r1.length, ← r2.length, ← r3.length]
      exact hi
    subst hi2
    refine (draw3 (A := X.A) (elts := elts) (kk := kk) (tpos := tpos) (I.ok.hd hcm) ha hb hc l1.toArray l2.toArray l3.toArray).stops s (fun s1 => Inv X pins σ H s1) E ⟨hz, hTI, hTO, ⟨h1, p1.isList⟩, ⟨h2, p2.isList⟩, ⟨h3, p3.isList⟩⟩ fun h' tk hk _ => ?_
    exact I.turnedL (t' := tk) (ch := fp3 N) (fun d o hd e => hk d o (fun hm => hd (by
      unfold fp3
      simp only [List.mem_cons, List.not_mem_nil, or_false] at hm ⊢
      rcases hm with h | h | h | h | h <;> simp [h])) e) hf
  self := fun A i s Q E st h => wpAny_pyIter_zip st.1 h
def iZip3 (K : PySem.W.Frag) (ta : TA) : L2.TI := fun σ H R => ta σ H fun vs H1 => ∃ a b c xs ys zs, vs = [.ref a, .ref b, .ref c] ∧ SqL K H1 a xs ∧ SqL K H1 b ys ∧ SqL K H1 c zs ∧ R (Itz3 K a b c) H1
theorem pi_zip3 {X : Cx} {e e2 e3 : Expr} {ta : TA} {p pos tpos : Pos} {elts : List Expr} {kk : Nat} (hg : Gl X "zip") (hm : X.mg "zip" = none) (ha : PA X [e, e2, e3] ta)
    (hs : starEach [e, e2, e3] X.env = (false, eval e X.env) :: starEach [e2, e3] X.env := by rfl) (hpl : (backTo pos (starEach [e2, e3] X.env)).any (·.1) = false := by rfl) :
    PI X (.Tuple elts kk tpos) (.Call (.Name "zip" p) [e, e2, e3] [] pos) (iZip3 X.K ta) := by
  refine ⟨fun pins s σ H R I h => ?_⟩
  refine Call_ (ld_blt I hg hm PyProof.Rows.boot_zip (PyProof.Rows.callWith_type1 (thn (ha.run pos pins s σ H _ I h) fun us s1 ⟨vs, H1, I1, r1, q1⟩ => ?_) hs hpl))
  obtain ⟨a, b, c, xs, ys, zs, ex, hqx, hqy, hqz, q⟩ := q1
  subst ex
  cases r1 with
  | cons r rr =>
    cases rr with
    | cons r' rr =>
      cases rr with
      | cons r2 rr =>
        cases rr
        cases r
        cases r'
        cases r2
        obtain ⟨l1, _, p1, _⟩ := I1.list hqx
        obtain ⟨l2, _, p2, _⟩ := I1.list hqy
        obtain ⟨l3, _, p3, _⟩ := I1.list hqz
        have la : a < s1.heap.objs.size := p1.lt
        have lb : b < s1.heap.objs.size := p2.lt
        have lc : c < s1.heap.objs.size := p3.lt
        refine zip_begins3 (begins_list a l1.toArray) (begins_list b l2.toArray) (begins_list c l3.toArray) p1.isList p2.isList p3.isList fun h' hz hTI hTO g1 g2 g3 hsz hk => wpAny_pyIter_zip hz ?_
        have I2 : Inv X pins σ H1 { s1 with heap := h' } := I1.kept (t' := s1.toks) hk
        refine ⟨s1.heap.objs.size + 5, fp3 s1.heap.objs.size, _, _, H1, rfl, I2, turn_zip3 la lb lc, ⟨hz, hTI, ⟨_, _, _, hTO⟩, ⟨_, g1, rfl, rfl⟩, ⟨_, g2, rfl, rfl⟩, ⟨_, g3, rfl, rfl⟩⟩, fun d hd => ?_, q⟩
        have hle : s1.heap.objs.size ≤ d := by
          rcases fp3_cases hd with z | z | z | z | z | z <;> (rw [z]; first | exact Nat.le_refl _ | exact Nat.le_add_right _ _)
        exact I1.fpOk hle (I1.hok.fresh hle)
/-! ### over data -/
section
variable {F : Fr} {W : WX} {X : Cx} {a b c : Expr} {p pos : Pos}
def zip3D : List D → List D → List D → List D
  | x :: xs, y :: ys, z :: zs => .tuple [x, y, z] :: zip3D xs ys zs
  | _, _, _ => []
theorem zip3D_len : ∀ {xs ys zs : List D}, (zip3D xs ys zs).length = min (min xs.length ys.length) zs.length
  | [], ys, zs => by simp [zip3D]
  | _ :: _, [], zs => by simp [zip3D]
  | _ :: _, _ :: _, [] => by simp [zip3D]
  | x :: xs, y :: ys, z :: zs => by
    show (zip3D xs ys zs).length + 1 = _
    rw [zip3D_len, List.length_cons, List.length_cons, List.length_cons]
    omega
theorem zip3D_get : ∀ {xs ys zs : List D} {i : Nat} {x y z : D}, xs[i]? = some x → ys[i]? = some y → zs[i]? = some z → (zip3D xs ys zs)[i]? = some (.tuple [x, y, z])
  | [], _, _, _, _, _, _, h, _, _ => by simp at h
  | _ :: _, [], _, _, _, _, _, _, h, _ => by simp at h
  | _ :: _, _ :: _, [], _, _, _, _, _, _, h => by simp at h
  | a :: xs, b :: ys, c :: zs, 0, x, y, z, h1, h2, h3 => by
    simp at h1 h2 h3
    subst h1 h2 h3
    rfl
  | a :: xs, b :: ys, c :: zs, i + 1, x, y, z, h1, h2, h3 => by
    show (zip3D xs ys zs)[i]? = _
    exact zip3D_get (by simpa using h1) (by simpa using h2) (by simpa using h3)
def wZ3 (ta : TL) : TL := fun δ Q X => ta δ (fun ds δ' => match ds with
  | [.list xs, .list ys, .list zs] => Q (zip3D xs ys zs) δ'
  | _ => False) X
theorem dw_zip3 {tpos : Pos} {elts : List Expr} {kk : Nat} {ta : TL} (hK : F.K = X.K) (hm : X.mg "zip" = none) (ha : DA F W X [a, b, c] ta) (hg : Gl X "zip" := by rfl) (hs : starEach [a, b, c] X.env = (false, eval a X.env) :: starEach [b, c] X.env := by rfl) (hpl : (backTo pos (starEach [b, c] X.env)).any (·.1) = false := by rfl) :
    DW F W X (.Tuple elts kk tpos) (.Call (.Name "zip" p) [a, b, c] [] pos) (wZ3 ta) := by
  refine ⟨_, pi_zip3 hg hm ha hs hpl, fun σ H R δ Qd Xq Rw ok hsr hq hx => ?_⟩
  refine ⟨R, δ, _, Xq, ok, hsr, fun R' δ' H' vs ds ok' ef dv q => ?_, hx⟩
  match ds, q, dv with
  | [.list xs, .list ys, .list zs], q, dv =>
    obtain ⟨v, u, t, rfl, dl, dm, dn⟩ := dvs3 dv
    obtain ⟨ad, rfl⟩ := dl.list_ref
    obtain ⟨bd, rfl⟩ := dm.list_ref
    obtain ⟨cd, rfl⟩ := dn.list_ref
    obtain ⟨ws, hsl, hd⟩ := dl.seqL
    obtain ⟨us, hsm, hdm⟩ := dm.seqL
    obtain ⟨ts, hsn, hdn⟩ := dn.seqL
    refine ⟨ad, bd, cd, ws, us, ts, rfl, hK ▸ hsl, hK ▸ hsm, hK ▸ hsn, hq R' δ' H' _ _ ok' ef ⟨fun i R2 H2 k lt => ?_, fun R2 H2 k => ?_, fun i R2 H2 H3 x σ2 δ2 k ok2 lt hy => ?_⟩ q⟩
    · rw [zip3D_len] at lt
      obtain ⟨xs2, hs2, hd2⟩ := (dl.mono k).seqL
      obtain ⟨ys2, hs3, hd3⟩ := (dm.mono k).seqL
      obtain ⟨zs2, hs4, hd4⟩ := (dn.mono k).seqL
      obtain ⟨v, ev, _⟩ := hd2.get (List.getElem?_eq_getElem (show i < xs.length by omega))
      obtain ⟨v', ev', _⟩ := hd3.get (List.getElem?_eq_getElem (show i < ys.length by omega))
      obtain ⟨v2, ev2, _⟩ := hd4.get (List.getElem?_eq_getElem (show i < zs.length by omega))
      exact ⟨xs2, ys2, zs2, v, v', v2, hK ▸ hs2, hK ▸ hs3, hK ▸ hs4, ev, ev', ev2⟩
    · obtain ⟨xs2, hs2, hd2⟩ := (dl.mono k).seqL
      obtain ⟨ys2, hs3, hd3⟩ := (dm.mono k).seqL
      obtain ⟨zs2, hs4, hd4⟩ := (dn.mono k).seqL
      exact ⟨xs2, ys2, zs2, hK ▸ hs2, hK ▸ hs3, hK ▸ hs4, by rw [zip3D_len, hd2.length, hd3.length, hd4.length]⟩
    · rw [zip3D_len] at lt
      obtain ⟨xs2, hs2, hd2⟩ := (dl.mono k).seqL
      obtain ⟨ys2, hs3, hd3⟩ := (dm.mono k).seqL
      obtain ⟨zs2, hs4, hd4⟩ := (dn.mono k).seqL
      obtain ⟨T, y, z, r, rfl, hT, rfl, hy, hz, hr⟩ := hy
      obtain ⟨v, ev, dv2⟩ := hd2.get (List.getElem?_eq_getElem (show i < xs.length by omega))
      obtain ⟨v', ev', dv3⟩ := hd3.get (List.getElem?_eq_getElem (show i < ys.length by omega))
      obtain ⟨v2, ev2, dv4⟩ := hd4.get (List.getElem?_eq_getElem (show i < zs.length by omega))
      have h1 := hy xs2 (hK ▸ hs2)
      rw [ev] at h1
      cases h1
      have h2 := hz ys2 (hK ▸ hs3)
      rw [ev'] at h2
      cases h2
      have h3 := hr zs2 (hK ▸ hs4)
      rw [ev2] at h3
      cases h3
      obtain ⟨ok3, ef3⟩ := ok2.newIm (o := .tup [y, z, r]) hT
      exact ⟨_, _, ok3, ef3, zip3D_get (List.getElem?_eq_getElem (show i < xs.length by omega)) (List.getElem?_eq_getElem (show i < ys.length by omega)) (List.getElem?_eq_getElem (show i < zs.length by omega)), Dv.newTup (.cons dv2 (.cons dv3 (.cons dv4 .nil))) hT⟩
/-! lcm -/
def rLcmV : List V → Hp → VK → Prop := fun vs H Q => ∃ a b : Int, vs = [.int a, .int b] ∧ a.natAbs < 2 ^ 32 ∧ b.natAbs < 2 ^ 32 ∧ Q (.int ((Nat.lcm a.natAbs b.natAbs : Nat) : Int)) H
theorem cr_lcm : CallR X (.builtin "math.lcm") rLcmV := by
  intro pins s σ H vs us Q I r h
  obtain ⟨a, b, rfl, ha, hb, q⟩ := h
  obtain ⟨t, u, rfl⟩ := Vals.int2 r
  have e : (Nat.lcm 1 a.natAbs).lcm b.natAbs = Nat.lcm a.natAbs b.natAbs := by rw [Nat.lcm_one_left]
  refine PySem.W.mg_lcm_v (c := ((Nat.lcm a.natAbs b.natAbs : Nat) : Int)) (Nat.lt_of_lt_of_le ha (by decide)) (Nat.lt_of_lt_of_le hb (by decide)) (by rw [e]) ?_ ⟨.int _, H, I.tok _, ⟨_, rfl⟩, q⟩
  have hl : Nat.lcm a.natAbs b.natAbs ≤ a.natAbs * b.natAbs := by
    by_cases z : a.natAbs * b.natAbs = 0
    · rcases Nat.mul_eq_zero.mp z with z | z
      · rw [z, Nat.lcm_zero_left]; exact Nat.zero_le _
      · rw [z, Nat.lcm_zero_right]; exact Nat.zero_le _
    · exact Nat.le_of_dvd (Nat.pos_of_ne_zero z) (Nat.lcm_dvd_mul _ _)
  have hm : a.natAbs * b.natAbs < 2 ^ 64 := by
    have := Nat.mul_lt_mul'' ha hb
    rwa [← Nat.pow_add] at this
  rw [Int.natAbs_natCast]
  by_cases z : Nat.lcm a.natAbs b.natAbs = 0
  · rw [z]; decide
  · have : (Nat.lcm a.natAbs b.natAbs).log2 < 64 := (Nat.log2_lt z).mpr (by omega)
    have e2 : bitsLine = 134217728 := by decide
    omega
def rLcmD : RC := fun ds k => match ds with
  | [.int i, .int j] => i.natAbs < 2 ^ 32 ∧ j.natAbs < 2 ^ 32 ∧ k (.int ((Nat.lcm i.natAbs j.natAbs : Nat) : Int))
  | _ => False
theorem cd_lcm : CallD F X (.builtin "math.lcm") rLcmD := by
  refine ⟨_, cr_lcm, fun R H xs ds k Q dv hr hk => ?_⟩
  unfold rLcmD at hr
  match ds, dv, hr with
  | [.int i, .int j], dv, hr =>
    obtain ⟨v, u, rfl, d1, d2⟩ := dvs2 dv
    cases d1
    cases d2
    exact ⟨i, j, rfl, hr.1, hr.2.1, hk _ _ hr.2.2 rfl⟩
end
end DL
namespace DL
def rv3 {α : Type} : List α → List α
  | [a, b, c] => [c, b, a]
  | l => l
def rev3 : Perm := ⟨rv3, fun {α β R xs ys} h => by
  match xs, ys, h with
  | [], [], .nil => exact .nil
  | [a], [b], h => exact h
  | [a, b], [c, d], h => exact h
  | [a, b, c], [d, e, f], .cons h1 (.cons h2 (.cons h3 .nil)) => exact .cons h3 (.cons h2 (.cons h1 .nil))
  | a :: b :: c :: d :: l, e :: f :: g :: h' :: m, h => exact h⟩
end DL
namespace DL
open PySem PySem.Spec PyProof.Rows L2 L2H
section
variable {F : Fr} {W : WX} {X : Cx} {a b : Expr} {pos : Pos}
/-- xs + ys, ys a slot's list that stays -/
def dCatR (ta : TD) (j : Nat) : TD := fun δ Q X => ta δ (fun x δ1 => match x, (δ1.at j).lst? with
  | .ow xs, some ys => xs.length + ys.length ≤ sizeLine ∧ Q (.ow (xs ++ ys)) δ1
  | _, _ => False) X
theorem de_catR {j : Nat} {ta : TD} (ha : DE F W X a ta) (hb : PE X b (tVar j)) : DE F W X (.BinOp a .Add b pos) (dCatR ta j) := by
  refine PE.imp (pe_op op_cat ha hb) fun σ H Q ⟨R, δ, Qd, Xq, ok, ht, hn, hx⟩ => ?_
  refine ⟨R, δ, _, Xq, ok, ht, fun R1 δ1 H1 x rv ok1 ef1 rk1 _ h1 => ?_, hx⟩
  cases rv with
  | im d => exact h1.elim
  | ow xs =>
    obtain ⟨p1, vs1, rfl, e1, dv1, nR1, n01, nm1⟩ := rk1
    cases q : (δ1.at j).lst? with
    | none => rw [q] at h1; exact h1.elim
    | some ys =>
      rw [q] at h1
      obtain ⟨a1, vs2, e2, h4, dvl, _⟩ := ok1.mutL q
      refine ⟨_, sat_some e2, p1, a1, vs1, vs2, rfl, rfl, e1, h4, by rw [dv1.length, dvl.length]; exact h1.1, fun p hp => ?_⟩
      obtain ⟨ok3, ef3, r, nw⟩ := new_ow ok1 ef1 hp (dv1.append dvl)
      exact hn _ δ1 _ _ _ ok3 ef3 r nw h1.2
/-- .. of two slots -/
def dCatNN (i j : Nat) : TD := fun δ Q _ => match (δ.at i).lst?, (δ.at j).lst? with
  | some xs, some ys => xs.length + ys.length ≤ sizeLine ∧ Q (.ow (xs ++ ys)) δ
  | _, _ => False
theorem de_catNN {i j : Nat} (ha : PE X a (tVar i)) (hb : PE X b (tVar j)) : DE F W X (.BinOp a .Add b pos) (dCatNN i j) := by
  refine PE.imp (pe_op op_cat ha hb) fun σ H Q ⟨R, δ, Qd, Xq, ok, ht, hn, hx⟩ => ?_
  unfold dCatNN at ht
  cases q1 : (δ.at i).lst? with
  | none => rw [q1] at ht; exact ht.elim
  | some xs =>
    cases q2 : (δ.at j).lst? with
    | none => rw [q1, q2] at ht; exact ht.elim
    | some ys =>
      rw [q1, q2] at ht
      obtain ⟨a1, vs1, e1, h1, d1, _⟩ := ok.mutL q1
      obtain ⟨a2, vs2, e2, h2, d2, _⟩ := ok.mutL q2
      refine ⟨_, sat_some e1, _, sat_some e2, a1, a2, vs1, vs2, rfl, rfl, h1, h2, by rw [d1.length, d2.length]; exact ht.1, fun p hp => ?_⟩
      obtain ⟨ok3, ef3, r, nw⟩ := new_ow ok (Eff.refl _ _ _ _) hp (d1.append d2)
      exact hn _ δ _ _ _ ok3 ef3 r nw ht.2
end
end DL


/-! text DLT -/
set_option maxHeartbeats 400000
set_option Elab.async false
set_option linter.all false
set_option maxRecDepth 100000
/-! DLT: equations for DL19. -/
namespace DL
open PySem PySem.Spec PyProof.Rows L2 L2H
@[simp ↓] theorem wZ3_s (ta : TL) (δ : Ds) (Q : List D → Ds → Prop) (X : Xd) : wZ3 ta δ Q X = ta δ (fun ds δ' => match ds with
  | [.list xs, .list ys, .list zs] => Q (zip3D xs ys zs) δ'
  | _ => False) X := rfl
@[simp ↓] theorem rLcmD_s (ds : List D) (k : D → Prop) : rLcmD ds k = (match ds with
  | [.int i, .int j] => i.natAbs < 2 ^ 32 ∧ j.natAbs < 2 ^ 32 ∧ k (.int ((Nat.lcm i.natAbs j.natAbs : Nat) : Int))
  | _ => False) := rfl
@[simp ↓] theorem dCatR_s (ta : TD) (j : Nat) (δ : Ds) (Q : Rv → Ds → Prop) (X : Xd) : dCatR ta j δ Q X = ta δ (fun x δ1 => match x, (δ1.at j).lst? with
  | .ow xs, some ys => xs.length + ys.length ≤ sizeLine ∧ Q (.ow (xs ++ ys)) δ1
  | _, _ => False) X := rfl
@[simp ↓] theorem dCatNN_s (i j : Nat) (s0 : Sl) (l0 : Ds) (Q : Rv → Ds → Prop) (X : Xd) : dCatNN i j (s0 :: l0) Q X = (match (Ds.at (s0 :: l0) i).lst?, (Ds.at (s0 :: l0) j).lst? with
  | some xs, some ys => xs.length + ys.length ≤ sizeLine ∧ Q (.ow (xs ++ ys)) (s0 :: l0)
  | _, _ => False) := rfl
end DL


/-! text N -/
set_option Elab.async false
set_option linter.all false
set_option maxRecDepth 100000
set_option maxHeartbeats 0

namespace K1
open PySem PySem.Spec PyProof.Rows L2 L2H DL

def top (i : Nat) : Stmt := PySem.Challenge.pw_ownbest_k02_better_of_two.main.body.getD i (.Pass ⟨0, 0, 0, 0⟩)
abbrev a_BadCounts_init : Arguments := defArgs (inClass (top 2) 0)
abbrev b_BadCounts_init : List Stmt := defBody (inClass (top 2) 0)
abbrev s_BadCounts_init : Scope := defScope (inClass (top 2) 0)
def N_BadCounts_init : List Str := ["self", "at", "why"]
theorem sc_BadCounts_init : FnScope N_BadCounts_init ["self", "at", "why"] s_BadCounts_init := ⟨rfl, rfl, rfl, by decide +kernel, rfl, by decide +kernel, by decide +kernel⟩
abbrev a_BadTable_init : Arguments := defArgs (inClass (top 3) 0)
abbrev b_BadTable_init : List Stmt := defBody (inClass (top 3) 0)
abbrev s_BadTable_init : Scope := defScope (inClass (top 3) 0)
def N_BadTable_init : List Str := ["self", "why"]
theorem sc_BadTable_init : FnScope N_BadTable_init ["self", "why"] s_BadTable_init := ⟨rfl, rfl, rfl, by decide +kernel, rfl, by decide +kernel, by decide +kernel⟩
abbrev a_TooMany_init : Arguments := defArgs (inClass (top 4) 0)
abbrev b_TooMany_init : List Stmt := defBody (inClass (top 4) 0)
abbrev s_TooMany_init : Scope := defScope (inClass (top 4) 0)
def N_TooMany_init : List Str := ["self", "what", "count"]
theorem sc_TooMany_init : FnScope N_TooMany_init ["self", "what", "count"] s_TooMany_init := ⟨rfl, rfl, rfl, by decide +kernel, rfl, by decide +kernel, by decide +kernel⟩
abbrev a_made_q : Arguments := defArgs (top 6)
abbrev b_made_q : List Stmt := defBody (top 6)
abbrev s_made_q : Scope := defScope (top 6)
def N_made_q : List Str := ["top", "bottom", "shared"]
theorem sc_made_q : FnScope N_made_q ["top", "bottom"] s_made_q := ⟨rfl, rfl, rfl, by decide +kernel, rfl, by decide +kernel, by decide +kernel⟩
abbrev a_add_q : Arguments := defArgs (top 7)
abbrev b_add_q : List Stmt := defBody (top 7)
abbrev s_add_q : Scope := defScope (top 7)
def N_add_q : List Str := ["p", "q"]
theorem sc_add_q : FnScope N_add_q ["p", "q"] s_add_q := ⟨rfl, rfl, rfl, by decide +kernel, rfl, by decide +kernel, by decide +kernel⟩
abbrev a_times_q : Arguments := defArgs (top 8)
abbrev b_times_q : List Stmt := defBody (top 8)
abbrev s_times_q : Scope := defScope (top 8)
def N_times_q : List Str := ["p", "q", "left", "right"]
theorem sc_times_q : FnScope N_times_q ["p", "q"] s_times_q := ⟨rfl, rfl, rfl, by decide +kernel, rfl, by decide +kernel, by decide +kernel⟩
abbrev a_over_q : Arguments := defArgs (top 9)
abbrev b_over_q : List Stmt := defBody (top 9)
abbrev s_over_q : Scope := defScope (top 9)
def N_over_q : List Str := ["p", "q"]
theorem sc_over_q : FnScope N_over_q ["p", "q"] s_over_q := ⟨rfl, rfl, rfl, by decide +kernel, rfl, by decide +kernel, by decide +kernel⟩
abbrev a_power_whole : Arguments := defArgs (top 10)
abbrev b_power_whole : List Stmt := defBody (top 10)
abbrev s_power_whole : Scope := defScope (top 10)
def N_power_whole : List Str := ["n", "k", "power", "square", "left", "odd"]
theorem sc_power_whole : FnScope N_power_whole ["n", "k"] s_power_whole := ⟨rfl, rfl, rfl, by decide +kernel, rfl, by decide +kernel, by decide +kernel⟩
abbrev a_sum_q : Arguments := defArgs (top 11)
abbrev b_sum_q : List Stmt := defBody (top 11)
abbrev s_sum_q : Scope := defScope (top 11)
def N_sum_q : List Str := ["row", "total", "item"]
theorem sc_sum_q : FnScope N_sum_q ["row"] s_sum_q := ⟨rfl, rfl, rfl, by decide +kernel, rfl, by decide +kernel, by decide +kernel⟩
abbrev a_only_of : Arguments := defArgs (top 15)
abbrev b_only_of : List Stmt := defBody (top 15)
abbrev s_only_of : Scope := defScope (top 15)
def N_only_of : List Str := ["word", "signs", "sign"]
theorem sc_only_of : FnScope N_only_of ["word", "signs"] s_only_of := ⟨rfl, rfl, rfl, by decide +kernel, rfl, by decide +kernel, by decide +kernel⟩
abbrev a_is_digits : Arguments := defArgs (top 16)
abbrev b_is_digits : List Stmt := defBody (top 16)
abbrev s_is_digits : Scope := defScope (top 16)
def N_is_digits : List Str := ["word"]
theorem sc_is_digits : FnScope N_is_digits ["word"] s_is_digits := ⟨rfl, rfl, rfl, by decide +kernel, rfl, by decide +kernel, by decide +kernel⟩
abbrev a_value_of_digits : Arguments := defArgs (top 17)
abbrev b_value_of_digits : List Stmt := defBody (top 17)
abbrev s_value_of_digits : Scope := defScope (top 17)
def N_value_of_digits : List Str := ["word", "total", "at", "part", "scale", "_"]
theorem sc_value_of_digits : FnScope N_value_of_digits ["word"] s_value_of_digits := ⟨rfl, rfl, rfl, by decide +kernel, rfl, by decide +kernel, by decide +kernel⟩
abbrev a_whole_of : Arguments := defArgs (top 18)
abbrev b_whole_of : List Stmt := defBody (top 18)
abbrev s_whole_of : Scope := defScope (top 18)
def N_whole_of : List Str := ["word"]
theorem sc_whole_of : FnScope N_whole_of ["word"] s_whole_of := ⟨rfl, rfl, rfl, by decide +kernel, rfl, by decide +kernel, by decide +kernel⟩
abbrev a_ratio_of : Arguments := defArgs (top 19)
abbrev b_ratio_of : List Stmt := defBody (top 19)
abbrev s_ratio_of : Scope := defScope (top 19)
def N_ratio_of : List Str := ["word", "head", "bar", "tail", "top", "bottom"]
theorem sc_ratio_of : FnScope N_ratio_of ["word"] s_ratio_of := ⟨rfl, rfl, rfl, by decide +kernel, rfl, by decide +kernel, by decide +kernel⟩
abbrev a_is_row : Arguments := defArgs (top 22)
abbrev b_is_row : List Stmt := defBody (top 22)
abbrev s_is_row : Scope := defScope (top 22)
def N_is_row : List Str := ["thing"]
theorem sc_is_row : FnScope N_is_row ["thing"] s_is_row := ⟨rfl, rfl, rfl, by decide +kernel, rfl, by decide +kernel, by decide +kernel⟩
abbrev a_is_whole : Arguments := defArgs (top 23)
abbrev b_is_whole : List Stmt := defBody (top 23)
abbrev s_is_whole : Scope := defScope (top 23)
def N_is_whole : List Str := ["thing"]
theorem sc_is_whole : FnScope N_is_whole ["thing"] s_is_whole := ⟨rfl, rfl, rfl, by decide +kernel, rfl, by decide +kernel, by decide +kernel⟩
abbrev a_fraction_of : Arguments := defArgs (top 24)
abbrev b_fraction_of : List Stmt := defBody (top 24)
abbrev s_fraction_of : Scope := defScope (top 24)
def N_fraction_of : List Str := ["thing", "top", "bottom"]
theorem sc_fraction_of : FnScope N_fraction_of ["thing"] s_fraction_of := ⟨rfl, rfl, rfl, by decide +kernel, rfl, by decide +kernel, by decide +kernel⟩
abbrev a_digits_of : Arguments := defArgs (top 25)
abbrev b_digits_of : List Stmt := defBody (top 25)
abbrev s_digits_of : Scope := defScope (top 25)
def N_digits_of : List Str := ["n", "rest", "powers", "many", "at"]
theorem sc_digits_of : FnScope N_digits_of ["n"] s_digits_of := ⟨rfl, rfl, rfl, by decide +kernel, rfl, by decide +kernel, by decide +kernel⟩
abbrev a_longer_of : Arguments := defArgs (top 26)
abbrev b_longer_of : List Stmt := defBody (top 26)
abbrev s_longer_of : Scope := defScope (top 26)
def N_longer_of : List Str := ["q"]
theorem sc_longer_of : FnScope N_longer_of ["q"] s_longer_of := ⟨rfl, rfl, rfl, by decide +kernel, rfl, by decide +kernel, by decide +kernel⟩
abbrev a_ask_digits : Arguments := defArgs (top 27)
abbrev b_ask_digits : List Stmt := defBody (top 27)
abbrev s_ask_digits : Scope := defScope (top 27)
def N_ask_digits : List Str := ["row", "q", "many"]
theorem sc_ask_digits : FnScope N_ask_digits ["row"] s_ask_digits := ⟨rfl, rfl, rfl, by decide +kernel, rfl, by decide +kernel, by decide +kernel⟩
abbrev a_counts_among : Arguments := defArgs (top 31)
abbrev b_counts_among : List Stmt := defBody (top 31)
abbrev s_counts_among : Scope := defScope (top 31)
def N_counts_among : List Str := ["items", "full", "whole", "counts", "at", "item", "q"]
theorem sc_counts_among : FnScope N_counts_among ["items", "full", "whole"] s_counts_among := ⟨rfl, rfl, rfl, by decide +kernel, rfl, by decide +kernel, by decide +kernel⟩
abbrev a_table_among : Arguments := defArgs (top 32)
abbrev b_table_among : List Stmt := defBody (top 32)
abbrev s_table_among : Scope := defScope (top 32)
def N_table_among : List Str := ["items", "edge", "table", "item", "q"]
theorem sc_table_among : FnScope N_table_among ["items", "edge"] s_table_among := ⟨rfl, rfl, rfl, by decide +kernel, rfl, by decide +kernel, by decide +kernel⟩
abbrev a_bare_table : Arguments := defArgs (top 33)
abbrev b_bare_table : List Stmt := defBody (top 33)
abbrev s_bare_table : Scope := defScope (top 33)
def N_bare_table : List Str := ["thing"]
theorem sc_bare_table : FnScope N_bare_table ["thing"] s_bare_table := ⟨rfl, rfl, rfl, by decide +kernel, rfl, by decide +kernel, by decide +kernel⟩
abbrev a_bare_counts : Arguments := defArgs (top 34)
abbrev b_bare_counts : List Stmt := defBody (top 34)
abbrev s_bare_counts : Scope := defScope (top 34)
def N_bare_counts : List Str := ["thing", "many", "whole"]
theorem sc_bare_counts : FnScope N_bare_counts ["thing", "many", "whole"] s_bare_counts := ⟨rfl, rfl, rfl, by decide +kernel, rfl, by decide +kernel, by decide +kernel⟩
abbrev a_ask_cells : Arguments := defArgs (top 35)
abbrev b_ask_cells : List Stmt := defBody (top 35)
abbrev s_ask_cells : Scope := defScope (top 35)
def N_ask_cells : List Str := ["many"]
theorem sc_ask_cells : FnScope N_ask_cells ["many"] s_ask_cells := ⟨rfl, rfl, rfl, by decide +kernel, rfl, by decide +kernel, by decide +kernel⟩
abbrev a_ask_total : Arguments := defArgs (top 36)
abbrev b_ask_total : List Stmt := defBody (top 36)
abbrev s_ask_total : Scope := defScope (top 36)
def N_ask_total : List Str := ["total"]
theorem sc_ask_total : FnScope N_ask_total ["total"] s_ask_total := ⟨rfl, rfl, rfl, by decide +kernel, rfl, by decide +kernel, by decide +kernel⟩
abbrev a_least_multiple : Arguments := defArgs (top 37)
abbrev b_least_multiple : List Stmt := defBody (top 37)
abbrev s_least_multiple : Scope := defScope (top 37)
def N_least_multiple : List Str := ["counts", "scale", "u"]
theorem sc_least_multiple : FnScope N_least_multiple ["counts"] s_least_multiple := ⟨rfl, rfl, rfl, by decide +kernel, rfl, by decide +kernel, by decide +kernel⟩
abbrev a_has_nought : Arguments := defArgs (top 39)
abbrev b_has_nought : List Stmt := defBody (top 39)
abbrev s_has_nought : Scope := defScope (top 39)
def N_has_nought : List Str := ["shares", "times", "share", "many"]
theorem sc_has_nought : FnScope N_has_nought ["shares", "times"] s_has_nought := ⟨rfl, rfl, rfl, by decide +kernel, rfl, by decide +kernel, by decide +kernel⟩
abbrev a_compared_fits : Arguments := defArgs (top 40)
abbrev b_compared_fits : List Stmt := defBody (top 40)
abbrev s_compared_fits : Scope := defScope (top 40)
def N_compared_fits : List Str := ["left", "right", "times", "above", "below", "p", "q", "many", "ratio"]
theorem sc_compared_fits : FnScope N_compared_fits ["left", "right", "times"] s_compared_fits := ⟨rfl, rfl, rfl, by decide +kernel, rfl, by decide +kernel, by decide +kernel⟩
abbrev a_fits_better : Arguments := defArgs (top 38)
abbrev b_fits_better : List Stmt := defBody (top 38)
abbrev s_fits_better : Scope := defScope (top 38)
def N_fits_better : List Str := ["p", "q", "counts", "left", "right", "seen", "times"]
theorem sc_fits_better : FnScope N_fits_better ["p", "q", "counts"] s_fits_better := ⟨rfl, rfl, rfl, by decide +kernel, rfl, by decide +kernel, by decide +kernel⟩
abbrev a_law_jar : Arguments := defArgs (top 42)
abbrev b_law_jar : List Stmt := defBody (top 42)
abbrev s_law_jar : Scope := defScope (top 42)
def N_law_jar : List Str := ["script", "mixed", "item"]
theorem sc_law_jar : FnScope N_law_jar ["script"] s_law_jar := ⟨rfl, rfl, rfl, by decide +kernel, rfl, by decide +kernel, by decide +kernel⟩
abbrev a_law_draw : Arguments := defArgs (top 43)
abbrev b_law_draw : List Stmt := defBody (top 43)
abbrev s_law_draw : Scope := defScope (top 43)
def N_law_draw : List Str := ["jar", "many", "item", "digit"]
theorem sc_law_draw : FnScope N_law_draw ["jar", "many"] s_law_draw := ⟨rfl, rfl, rfl, by decide +kernel, rfl, by decide +kernel, by decide +kernel⟩
abbrev a_law_pick : Arguments := defArgs (top 44)
abbrev b_law_pick : List Stmt := defBody (top 44)
abbrev s_law_pick : Scope := defScope (top 44)
def N_law_pick : List Str := ["jar", "menu"]
theorem sc_law_pick : FnScope N_law_pick ["jar", "menu"] s_law_pick := ⟨rfl, rfl, rfl, by decide +kernel, rfl, by decide +kernel, by decide +kernel⟩
abbrev a_law_great : Arguments := defArgs (top 45)
abbrev b_law_great : List Stmt := defBody (top 45)
abbrev s_law_great : Scope := defScope (top 45)
def N_law_great : List Str := ["jar", "digits", "k", "turn"]
theorem sc_law_great : FnScope N_law_great ["jar", "digits"] s_law_great := ⟨rfl, rfl, rfl, by decide +kernel, rfl, by decide +kernel, by decide +kernel⟩
abbrev a_law_gcd : Arguments := defArgs (top 46)
abbrev b_law_gcd : List Stmt := defBody (top 46)
abbrev s_law_gcd : Scope := defScope (top 46)
def N_law_gcd : List Str := ["u", "v", "turn"]
theorem sc_law_gcd : FnScope N_law_gcd ["u", "v"] s_law_gcd := ⟨rfl, rfl, rfl, by decide +kernel, rfl, by decide +kernel, by decide +kernel⟩
abbrev a_law_low : Arguments := defArgs (top 47)
abbrev b_law_low : List Stmt := defBody (top 47)
abbrev s_law_low : Scope := defScope (top 47)
def N_law_low : List Str := ["top", "low", "k"]
theorem sc_law_low : FnScope N_law_low ["top", "low"] s_law_low := ⟨rfl, rfl, rfl, by decide +kernel, rfl, by decide +kernel, by decide +kernel⟩
abbrev a_law_plus : Arguments := defArgs (top 48)
abbrev b_law_plus : List Stmt := defBody (top 48)
abbrev s_law_plus : Scope := defScope (top 48)
def N_law_plus : List Str := ["u", "v"]
theorem sc_law_plus : FnScope N_law_plus ["u", "v"] s_law_plus := ⟨rfl, rfl, rfl, by decide +kernel, rfl, by decide +kernel, by decide +kernel⟩
abbrev a_law_power : Arguments := defArgs (top 49)
abbrev b_law_power : List Stmt := defBody (top 49)
abbrev s_law_power : Scope := defScope (top 49)
def N_law_power : List Str := ["u", "k", "top", "low", "turn"]
theorem sc_law_power : FnScope N_law_power ["u", "k"] s_law_power := ⟨rfl, rfl, rfl, by decide +kernel, rfl, by decide +kernel, by decide +kernel⟩
abbrev a_law_word : Arguments := defArgs (top 50)
abbrev b_law_word : List Stmt := defBody (top 50)
abbrev s_law_word : Scope := defScope (top 50)
def N_law_word : List Str := ["u"]
theorem sc_law_word : FnScope N_law_word ["u"] s_law_word := ⟨rfl, rfl, rfl, by decide +kernel, rfl, by decide +kernel, by decide +kernel⟩
abbrev a_law_whole : Arguments := defArgs (top 51)
abbrev b_law_whole : List Stmt := defBody (top 51)
abbrev s_law_whole : Scope := defScope (top 51)
def N_law_whole : List Str := ["told"]
theorem sc_law_whole : FnScope N_law_whole ["told"] s_law_whole := ⟨rfl, rfl, rfl, by decide +kernel, rfl, by decide +kernel, by decide +kernel⟩
abbrev a_law_like : Arguments := defArgs (top 52)
abbrev b_law_like : List Stmt := defBody (top 52)
abbrev s_law_like : Scope := defScope (top 52)
def N_law_like : List Str := ["told", "due", "k"]
theorem sc_law_like : FnScope N_law_like ["told", "due"] s_law_like := ⟨rfl, rfl, rfl, by decide +kernel, rfl, by decide +kernel, by decide +kernel⟩
abbrev a_law_way : Arguments := defArgs (top 53)
abbrev b_law_way : List Stmt := defBody (top 53)
abbrev s_law_way : Scope := defScope (top 53)
def N_law_way : List Str := ["jar", "u", "k", "v"]
theorem sc_law_way : FnScope N_law_way ["jar", "u"] s_law_way := ⟨rfl, rfl, rfl, by decide +kernel, rfl, by decide +kernel, by decide +kernel⟩
abbrev a_law_ways : Arguments := defArgs (top 54)
abbrev b_law_ways : List Stmt := defBody (top 54)
abbrev s_law_ways : Scope := defScope (top 54)
def N_law_ways : List Str := ["jar", "row", "u", "made"]
theorem sc_law_ways : FnScope N_law_ways ["jar", "row"] s_law_ways := ⟨rfl, rfl, rfl, by decide +kernel, rfl, by decide +kernel, by decide +kernel⟩
abbrev a_law_said : Arguments := defArgs (top 55)
abbrev b_law_said : List Stmt := defBody (top 55)
abbrev s_law_said : Scope := defScope (top 55)
def N_law_said : List Str := ["why"]
theorem sc_law_said : FnScope N_law_said ["why"] s_law_said := ⟨rfl, rfl, rfl, by decide +kernel, rfl, by decide +kernel, by decide +kernel⟩
abbrev a_law_read : Arguments := defArgs (top 56)
abbrev b_law_read : List Stmt := defBody (top 56)
abbrev s_law_read : Scope := defScope (top 56)
def N_law_read : List Str := ["word", "parts", "part", "sign", "u"]
theorem sc_law_read : FnScope N_law_read ["word"] s_law_read := ⟨rfl, rfl, rfl, by decide +kernel, rfl, by decide +kernel, by decide +kernel⟩
abbrev a_law_fraction : Arguments := defArgs (top 57)
abbrev b_law_fraction : List Stmt := defBody (top 57)
abbrev s_law_fraction : Scope := defScope (top 57)
def N_law_fraction : List Str := ["one"]
theorem sc_law_fraction : FnScope N_law_fraction ["one"] s_law_fraction := ⟨rfl, rfl, rfl, by decide +kernel, rfl, by decide +kernel, by decide +kernel⟩
abbrev a_law_digits : Arguments := defArgs (top 58)
abbrev b_law_digits : List Stmt := defBody (top 58)
abbrev s_law_digits : Scope := defScope (top 58)
def N_law_digits : List Str := ["u"]
theorem sc_law_digits : FnScope N_law_digits ["u"] s_law_digits := ⟨rfl, rfl, rfl, by decide +kernel, rfl, by decide +kernel, by decide +kernel⟩
abbrev a_law_shares : Arguments := defArgs (top 59)
abbrev b_law_shares : List Stmt := defBody (top 59)
abbrev s_law_shares : Scope := defScope (top 59)
def N_law_shares : List Str := ["jar", "many", "k", "made"]
theorem sc_law_shares : FnScope N_law_shares ["jar", "many"] s_law_shares := ⟨rfl, rfl, rfl, by decide +kernel, rfl, by decide +kernel, by decide +kernel⟩
abbrev a_law_ask : Arguments := defArgs (top 60)
abbrev b_law_ask : List Stmt := defBody (top 60)
abbrev s_law_ask : Scope := defScope (top 60)
def N_law_ask : List Str := ["jar", "one", "two", "three", "e"]
theorem sc_law_ask : FnScope N_law_ask ["jar", "one", "two", "three"] s_law_ask := ⟨rfl, rfl, rfl, by decide +kernel, rfl, by decide +kernel, by decide +kernel⟩
abbrev a_law_bad_table : Arguments := defArgs (top 61)
abbrev b_law_bad_table : List Stmt := defBody (top 61)
abbrev s_law_bad_table : Scope := defScope (top 61)
def N_law_bad_table : List Str := ["one", "whole", "k", "u"]
theorem sc_law_bad_table : FnScope N_law_bad_table ["one"] s_law_bad_table := ⟨rfl, rfl, rfl, by decide +kernel, rfl, by decide +kernel, by decide +kernel⟩
abbrev a_law_bad_count : Arguments := defArgs (top 62)
abbrev b_law_bad_count : List Stmt := defBody (top 62)
abbrev s_law_bad_count : Scope := defScope (top 62)
def N_law_bad_count : List Str := ["one", "wide", "k", "u"]
theorem sc_law_bad_count : FnScope N_law_bad_count ["one", "wide"] s_law_bad_count := ⟨rfl, rfl, rfl, by decide +kernel, rfl, by decide +kernel, by decide +kernel⟩
abbrev a_law_multiple : Arguments := defArgs (top 63)
abbrev b_law_multiple : List Stmt := defBody (top 63)
abbrev s_law_multiple : Scope := defScope (top 63)
def N_law_multiple : List Str := ["row", "m", "u"]
theorem sc_law_multiple : FnScope N_law_multiple ["row"] s_law_multiple := ⟨rfl, rfl, rfl, by decide +kernel, rfl, by decide +kernel, by decide +kernel⟩
abbrev a_law_product : Arguments := defArgs (top 64)
abbrev b_law_product : List Stmt := defBody (top 64)
abbrev s_law_product : Scope := defScope (top 64)
def N_law_product : List Str := ["row", "powers", "top", "low", "k", "u"]
theorem sc_law_product : FnScope N_law_product ["row", "powers"] s_law_product := ⟨rfl, rfl, rfl, by decide +kernel, rfl, by decide +kernel, by decide +kernel⟩
abbrev a_law_due : Arguments := defArgs (top 65)
abbrev b_law_due : List Stmt := defBody (top 65)
abbrev s_law_due : Scope := defScope (top 65)
def N_law_due : List Str := ["one", "two", "three", "at", "k", "left", "right", "powers", "u", "v"]
theorem sc_law_due : FnScope N_law_due ["one", "two", "three"] s_law_due := ⟨rfl, rfl, rfl, by decide +kernel, rfl, by decide +kernel, by decide +kernel⟩
abbrev a_law_powers : Arguments := defArgs (top 66)
abbrev b_law_powers : List Stmt := defBody (top 66)
abbrev s_law_powers : Scope := defScope (top 66)
def N_law_powers : List Str := ["jar", "wide", "way", "k", "made", "at", "m"]
theorem sc_law_powers : FnScope N_law_powers ["jar", "wide"] s_law_powers := ⟨rfl, rfl, rfl, by decide +kernel, rfl, by decide +kernel, by decide +kernel⟩
abbrev a_law_spoilt : Arguments := defArgs (top 67)
abbrev b_law_spoilt : List Stmt := defBody (top 67)
abbrev s_law_spoilt : Scope := defScope (top 67)
def N_law_spoilt : List Str := ["jar", "one", "made", "k", "way"]
theorem sc_law_spoilt : FnScope N_law_spoilt ["jar", "one"] s_law_spoilt := ⟨rfl, rfl, rfl, by decide +kernel, rfl, by decide +kernel, by decide +kernel⟩
abbrev a_law : Arguments := defArgs (top 68)
abbrev b_law : List Stmt := defBody (top 68)
abbrev s_law : Scope := defScope (top 68)
def N_law : List Str := ["script", "jar", "turn", "wide", "first", "way", "k", "second", "three", "one", "two", "kept", "asked", "row", "due"]
theorem sc_law : FnScope N_law ["script"] s_law := ⟨rfl, rfl, rfl, by decide +kernel, rfl, by decide +kernel, by decide +kernel⟩
structure Gls (P : Program) (w : World) (K : PySem.W.Frag) (mg : Str → Option Value) (base : Heap) : Prop where
  sys : SysK K
  abs_ : mg "abs" = none
  bool_ : mg "bool" = none
  divmod_ : mg "divmod" = none
  enumerate_ : mg "enumerate" = none
  int_ : mg "int" = none
  isinstance_ : mg "isinstance" = none
  len_ : mg "len" = none
  list_ : mg "list" = none
  max_ : mg "max" = none
  range_ : mg "range" = none
  repr_ : mg "repr" = none
  str_ : mg "str" = none
  sum_ : mg "sum" = none
  tuple_ : mg "tuple" = none
  zip_ : mg "zip" = none
  DIGITS : ∃ t, mg "DIGITS" = some (.str "0123456789" t)
  STEP : ∃ t, mg "STEP" = some (.int 60 t)
  MOST_DIGITS : ∃ t, mg "MOST_DIGITS" = some (.int 60 t)
  MOST_CELLS : ∃ t, mg "MOST_CELLS" = some (.int 32 t)
  MOST_TOTAL : ∃ t, mg "MOST_TOTAL" = some (.int 2000 t)
  gcd : mg "gcd" = some (.builtin "math.gcd")
  lcm : mg "lcm" = some (.builtin "math.lcm")
  BadCounts_E : ErrC P w K mg base "BadCounts" (He.ga K "BadCounts") ["at", "why"]
  BadTable_E : ErrC P w K mg base "BadTable" (He.ga K "BadTable") ["why"]
  TooMany_E : ErrC P w K mg base "TooMany" (He.ga K "TooMany") ["what", "count"]
end K1


/-! text S1 -/
set_option maxHeartbeats 400000
set_option Elab.async false
set_option linter.all false
set_option maxRecDepth 100000
namespace K1
open PySem PySem.Spec PyProof.Rows L2 L2H DL

/-! ### fractions -/
abbrev Qn := Rat
/-- a fraction as data: a pair in lowest terms -/
def dr (r : Qn) : D := .tuple [.int r.num, .int r.den]
def dp (p : Int × Int) : D := .tuple [.int p.1, .int p.2]
def Sz (n : Nat) (r : Qn) : Prop := r.num.natAbs < 2 ^ n ∧ r.den < 2 ^ n
/-- how many decimal digits -/
def ndig (n : Nat) : Nat := if n < 10 then 1 else ndig (n / 10) + 1
def sumQ : List Qn → Qn
  | [] => 0
  | r :: rs => r + sumQ rs
def prodQ : List Qn → List Nat → Qn
  | r :: rs, c :: cs => r ^ c * prodQ rs cs
  | _, _ => 1
/-- the product of powers of a list of pairs -/
def val : List (Int × Int) → Qn
  | [] => 1
  | p :: ps => (p.1 : Qn) ^ p.2 * val ps
/-- .. of their greatnesses -/
def big : List (Int × Int) → Nat
  | [] => 1
  | p :: ps => p.1.natAbs ^ p.2.natAbs * big ps

/-! ### promises -/
def sp_made_q : DSp := fun ags Q _ => ∃ t b : Int, ags = [.im (.int t), .im (.int b)] ∧ 0 < b ∧ b.natAbs < 2 ^ 8999 ∧ Q (.im (dr (mkRat t b.toNat))) []
def sp_add_q : DSp := fun ags Q _ => ∃ (p q : Qn) (m n : Nat), ags = [.im (dr p), .im (dr q)] ∧ Sz m p ∧ Sz n q ∧ m + n ≤ 8900 ∧ Q (.im (dr (p + q))) []
def sp_power_whole : DSp := fun ags Q _ => ∃ (n k : Int) (B : Nat), ags = [.im (.int n), .im (.int k)] ∧ 1 ≤ n ∧ 0 ≤ k ∧ B ≤ 60000000 ∧ n.toNat ^ k.toNat < 2 ^ B ∧ Q (.im (.int (n ^ k.toNat))) []
def sp_sum_q : DSp := fun ags Q _ => ∃ rs : List Qn, ags = [.im (.list (rs.map dr))] ∧ rs.length ≤ 40 ∧ (∀ r ∈ rs, Sz 210 r) ∧ Q (.im (dr (sumQ rs))) []
def sp_digits_of : DSp := fun ags Q _ => ∃ n : Int, ags = [.im (.int n)] ∧ n.natAbs < 2 ^ 4000 ∧ Q (.im (.int (ndig n.natAbs : Nat))) []
def sp_longer_of : DSp := fun ags Q _ => ∃ r : Qn, ags = [.im (dr r)] ∧ Sz 4000 r ∧ Q (.im (.int ((max (ndig r.num.natAbs) (ndig r.den) : Nat) : Int))) []
def sp_first_sharing : DSp := fun ags Q _ => ∃ (ps : List (Int × Int)) (b : Int), ags = [.im (.list (ps.map dp)), .im (.int b)] ∧ ps.length < 2 ^ 60 ∧
  Q (.im (match ps.findIdx? fun p => decide (1 < Int.gcd p.1 b) with
    | some i => .int (i : Nat)
    | none => .none)) []
/-- pairwise coprime powers that say the same as ps -/
structure Cop (ps qs : List (Int × Int)) : Prop where
  pos : ∀ q ∈ qs, 1 < q.1 ∧ q.2 ≠ 0
  cop : qs.Pairwise fun p q => Int.gcd p.1 q.1 = 1
  val : val qs = val ps
  big : big qs ≤ big ps
structure PsOk (ps : List (Int × Int)) : Prop where
  len : ps.length ≤ 100
  pos : ∀ p ∈ ps, 1 ≤ p.1 ∧ p.1.natAbs < 2 ^ 250 ∧ p.2.natAbs < 2 ^ 50
  big : ∃ B, B ≤ 10000000 ∧ big ps < 2 ^ B
def sp_coprime_parts : DSp := fun ags Q _ => ∃ ps : List (Int × Int), ags = [.im (.list (ps.map dp))] ∧ PsOk ps ∧ ∀ qs, Cop ps qs → qs.length ≤ 80000 → (∀ q ∈ qs, q.1.natAbs < 2 ^ 250) → Q (.ow (qs.map dp)) []
def sp_lowest_product : DSp := fun ags Q _ => ∃ ps : List (Int × Int), ags = [.im (.list (ps.map dp))] ∧ PsOk ps ∧ Q (.im (dr (val ps))) []
def sp_fit_of : DSp := fun ags Q _ => ∃ (rs : List Qn) (cs : List Nat), ags = [.im (.list (rs.map dr)), .im (.list (cs.map fun c => .int (c : Nat)))] ∧ rs.length = cs.length ∧ rs.length ≤ 40 ∧
  (∀ r ∈ rs, 0 ≤ r ∧ Sz 210 r) ∧ (∀ c ∈ cs, c ≤ 2000) ∧ cs.sum ≤ 2000 ∧ Q (.im (dr (prodQ rs cs))) []
def sp_law_gcd : DSp := fun ags Q _ => ∃ u v : Int, ags = [.im (.int u), .im (.int v)] ∧ bitsOf v ≤ 1000000000 ∧ Q (.im (.int (Int.gcd u v : Nat))) []
def sp_law_low : DSp := fun ags Q _ => ∃ t b : Int, ags = [.im (.int t), .im (.int b)] ∧ 0 < b ∧ bitsOf b ≤ 1000000000 ∧ (Int.gcd t b < 2 ^ 8999 ∨ t = 0) ∧ Q (.im (dr (mkRat t b.toNat))) []
def sp_law_plus : DSp := sp_add_q
def sp_law_power : DSp := fun ags Q _ => ∃ (r : Qn) (k : Nat), ags = [.im (dr r), .im (.int (k : Nat))] ∧ k ≤ 100000 ∧ Sz 210 r ∧ Q (.im (.tuple [.int (r.num ^ k), .int ((r.den : Int) ^ k)])) []
def sp_law_digits : DSp := fun ags Q _ => ∃ r : Qn, ags = [.im (dr r)] ∧ Sz 1900 r ∧ Q (.im (.int ((max (ndig r.num.natAbs) (ndig r.den) : Nat) : Int))) []
def pn : List Qn → List Nat → Int
  | r :: rs, c :: cs => r.num ^ c * pn rs cs
  | _, _ => 1
def pd : List Qn → List Nat → Nat
  | r :: rs, c :: cs => r.den ^ c * pd rs cs
  | _, _ => 1
def lcmL (qs : List Qn) : Nat := qs.foldl (fun m q => Nat.lcm m q.den) 1
/-- the least whole multiple -/
def mulL (qs : List Qn) : List Nat := qs.map fun q => q.num.toNat * (lcmL qs / q.den)
def noug (rs : List Qn) (cs : List Nat) : Bool := (rs.zip cs).any fun z => decide (0 < z.2) && decide (z.1.num = 0)
def sgn (k : Int) : Int := if 0 < k then 1 else if k < 0 then -1 else 0
def cmpQ (l r : List Qn) (cs : List Nat) : Int := sgn (pn l cs * (pd r cs : Nat) - pn r cs * (pd l cs : Nat))
def sp_times_q : DSp := fun ags Q _ => ∃ p0 p1 q0 q1 : Int, ags = [.im (.tuple [.int p0, .int p1]), .im (.tuple [.int q0, .int q1])] ∧ (0 < p0 ∧ 0 < p1 ∧ 0 < q0 ∧ 0 < q1) ∧ (p0.natAbs < 2 ^ 210 ∧ p1.natAbs < 2 ^ 210 ∧ q0.natAbs < 2 ^ 210 ∧ q1.natAbs < 2 ^ 210) ∧
  ∀ a b : Int, 0 < a → 0 < b → a * (p1 * q1) = b * (p0 * q0) → a.natAbs < 2 ^ 420 → b.natAbs < 2 ^ 420 → Q (.im (.tuple [.int a, .int b])) []
def sp_over_q : DSp := fun ags Q _ => ∃ p q : Qn, ags = [.im (dr p), .im (dr q)] ∧ 0 < p.num ∧ 0 < q.num ∧ Sz 210 p ∧ Sz 210 q ∧
  ∀ a b : Int, 0 < a → 0 < b → a * ((p.den : Int) * q.num) = b * (p.num * (q.den : Int)) → a.natAbs < 2 ^ 420 → b.natAbs < 2 ^ 420 → Q (.im (.tuple [.int a, .int b])) []
structure QsOk (qs : List Qn) : Prop where
  len : qs.length ≤ 40
  ok : ∀ q ∈ qs, 0 ≤ q.num ∧ Sz 210 q ∧ q.den ∣ 420
def sp_least_multiple : DSp := fun ags Q _ => ∃ qs : List Qn, ags = [.im (.list (qs.map dr))] ∧ QsOk qs ∧ Q (.ow ((mulL qs).map fun c => .int (c : Nat))) []
def sp_law_multiple : DSp := sp_least_multiple
def sp_has_nought : DSp := fun ags Q _ => ∃ (rs : List Qn) (cs : List Nat), ags = [.im (.list (rs.map dr)), .im (.list (cs.map fun c => .int (c : Nat)))] ∧ rs.length = cs.length ∧ rs.length ≤ 40 ∧ Q (.im (.bool (noug rs cs))) []
def sp_compared_fits : DSp := fun ags Q _ => ∃ (l r : List Qn) (cs : List Nat), ags = [.im (.list (l.map dr)), .im (.list (r.map dr)), .im (.list (cs.map fun c => .int (c : Nat)))] ∧ l.length = cs.length ∧ r.length = cs.length ∧ cs.length ≤ 40 ∧
  (∀ x ∈ l, 0 ≤ x.num ∧ Sz 210 x) ∧ (∀ x ∈ r, 0 ≤ x.num ∧ Sz 210 x) ∧ cs.sum ≤ 2000 ∧ Q (.im (.int (cmpQ l r cs))) []
def sp_law_product : DSp := fun ags Q _ => ∃ (rs : List Qn) (cs : List Nat), ags = [.im (.list (rs.map dr)), .im (.list (cs.map fun c => .int (c : Nat)))] ∧ rs.length = cs.length ∧ rs.length ≤ 40 ∧ (∀ r ∈ rs, Sz 210 r) ∧ cs.sum ≤ 2000 ∧ Q (.im (.tuple [.int (pn rs cs), .int (pd rs cs : Nat)])) []
end K1


/-! text M1 -/
set_option maxHeartbeats 400000
set_option Elab.async false
set_option linter.all false
set_option maxRecDepth 100000
namespace K1
open PySem PySem.Spec PyProof.Rows L2 L2H DL

/-! ### sizes -/
theorem mulOk {m n : Nat} {i j : Int} (hi : i.natAbs < 2 ^ m) (hj : j.natAbs < 2 ^ n) (h : m + n ≤ 134217728) : MulOk i j := by
  have h1 := PySem.intBits_le_iff.mpr hi
  have h2 := PySem.intBits_le_iff.mpr hj
  show (Builtin.Int.intBits i : Int) + (Builtin.Int.intBits j : Int) ≤ 134217728
  omega
theorem pow_le2 {m n : Nat} (h : m ≤ n) : (2 : Nat) ^ m ≤ 2 ^ n := Nat.pow_le_pow_right (by omega) h
theorem lt_pow_le {a m n : Nat} (h : a < 2 ^ m) (l : m ≤ n) : a < 2 ^ n := Nat.lt_of_lt_of_le h (pow_le2 l)
theorem mul_lt2 {a b m n : Nat} (ha : a < 2 ^ m) (hb : b < 2 ^ n) : a * b < 2 ^ (m + n) := by
  rw [Nat.pow_add]
  exact Nat.mul_lt_mul'' ha hb
theorem add_lt2 {a b m : Nat} (ha : a < 2 ^ m) (hb : b < 2 ^ m) : a + b < 2 ^ (m + 1) := by
  rw [Nat.pow_succ]
  omega
theorem imul_lt2 {a b : Int} {m n : Nat} (ha : a.natAbs < 2 ^ m) (hb : b.natAbs < 2 ^ n) : (a * b).natAbs < 2 ^ (m + n) := by
  rw [Int.natAbs_mul]
  exact mul_lt2 ha hb
theorem iadd_lt2 {a b : Int} {m : Nat} (ha : a.natAbs < 2 ^ m) (hb : b.natAbs < 2 ^ m) : (a + b).natAbs < 2 ^ (m + 1) :=
  Nat.lt_of_le_of_lt (Int.natAbs_add_le a b) (add_lt2 ha hb)
/-! ### lowest terms -/
theorem dr_mk {t b : Int} (hb : 0 < b) : dr (mkRat t b.toNat) = .tuple [.int (t / ((t.natAbs.gcd b.natAbs : Nat) : Int)), .int (b / ((t.natAbs.gcd b.natAbs : Nat) : Int))] := by
  have e : b.toNat = b.natAbs := by omega
  have n0 : b.natAbs ≠ 0 := by omega
  unfold dr
  rw [Rat.num_mkRat, Rat.den_mkRat, e, if_neg n0, if_neg n0, Nat.gcd_comm b.natAbs t.natAbs]
  congr 3
  rw [Int.natCast_ediv, show ((b.natAbs : Nat) : Int) = b by omega]
theorem gcd1 {t b : Int} (h : t.natAbs.gcd b.natAbs = 1) (hb : 0 < b) : dr (mkRat t b.toNat) = .tuple [.int t, .int b] := by
  rw [dr_mk hb, h]
  simp
theorem den_pos (r : Qn) : 0 < r.den := Nat.pos_of_ne_zero r.den_nz
theorem den_pos' (r : Qn) : (0 : Int) < (r.den : Int) := by have := den_pos r; omega
theorem add_same {p q : Qn} (h : p.den = q.den) : p + q = mkRat (p.num + q.num) p.den := by
  rw [Rat.add_def', ← h, ← Int.add_mul]
  exact Rat.mkRat_mul_right (by have := den_pos p; omega)
theorem dr_int (i : Int) : dr (mkRat i 1) = .tuple [.int i, .int 1] := by
  have := gcd1 (t := i) (b := 1) (by simp) (by omega)
  simpa using this
theorem Sz.mono {m n : Nat} {r : Qn} (h : Sz m r) (l : m ≤ n) : Sz n r := ⟨lt_pow_le h.1 l, lt_pow_le h.2 l⟩
theorem sz_mk {t : Int} {b n : Nat} (ht : t.natAbs < 2 ^ n) (hb : b < 2 ^ n) (h0 : b ≠ 0) : Sz n (mkRat t b) := by
  constructor
  · rw [Rat.num_mkRat, if_neg h0]
    exact Nat.lt_of_le_of_lt (Int.natAbs_ediv_le_natAbs _ _) ht
  · rw [Rat.den_mkRat, if_neg h0]
    exact Nat.lt_of_le_of_lt (Nat.div_le_self _ _) hb
theorem sz_add {p q : Qn} {m n : Nat} (hp : Sz m p) (hq : Sz n q) : Sz (m + n + 1) (p + q) := by
  rw [Rat.add_def']
  refine sz_mk ?_ ?_ (Nat.mul_ne_zero p.den_nz q.den_nz)
  · refine iadd_lt2 (imul_lt2 hp.1 (by simpa using hq.2)) ?_
    have := imul_lt2 hq.1 (show (p.den : Int).natAbs < 2 ^ m by simpa using hp.2)
    rwa [Nat.add_comm n m] at this
  · exact lt_pow_le (mul_lt2 hp.2 hq.2) (by omega)
theorem sz_sum : ∀ {rs : List Qn}, (∀ r ∈ rs, Sz 210 r) → Sz (211 * rs.length + 1) (sumQ rs)
  | [], _ => ⟨by simp [sumQ], by simp [sumQ]⟩
  | r :: rs, h => by
    have h1 := sz_add (h r List.mem_cons_self) (sz_sum fun x hx => h x (List.mem_cons_of_mem _ hx))
    exact h1.mono (by rw [List.length_cons]; omega)
/-- the sum of the first ones, as a loop makes it -/
def sumL (rs : List Qn) : Qn := rs.foldl (· + ·) 0
theorem foldl_sum : ∀ (rs : List Qn) (a : Qn), rs.foldl (· + ·) a = a + sumQ rs
  | [], a => by simp [sumQ, Rat.add_zero]
  | r :: rs, a => by
    rw [List.foldl_cons, foldl_sum rs, sumQ, Rat.add_assoc]
theorem sumQ_append : ∀ (rs qs : List Qn), sumQ (rs ++ qs) = sumQ rs + sumQ qs
  | [], qs => by simp [sumQ, Rat.zero_add]
  | r :: rs, qs => by
    rw [List.cons_append, sumQ, sumQ_append rs, sumQ, Rat.add_assoc]
theorem take_more {α : Type} {l : List α} {i : Nat} {x : α} (h : l[i]? = some x) : l.take (i + 1) = l.take i ++ [x] := by
  rw [List.take_succ, h]
  rfl
theorem sumQ_take {rs : List Qn} {i : Nat} {r : Qn} (h : rs[i]? = some r) : sumQ (rs.take (i + 1)) = sumQ (rs.take i) + r := by
  rw [take_more h, sumQ_append]
  simp [sumQ, Rat.add_zero]
end K1


/-! text M2 -/
set_option maxHeartbeats 400000
set_option Elab.async false
set_option linter.all false
set_option maxRecDepth 100000
namespace K1
open PySem PySem.Spec PyProof.Rows L2 L2H DL

/-! ### whole powers -/
theorem q_mul_pow (a b : Qn) : ∀ n : Nat, (a * b) ^ n = a ^ n * b ^ n
  | 0 => by simp
  | n + 1 => by
    rw [Rat.pow_succ, Rat.pow_succ, Rat.pow_succ, q_mul_pow a b n]
    grind
theorem q_mul_zpow (a b : Qn) (e : Int) : (a * b) ^ e = a ^ e * b ^ e := by
  rcases Int.eq_ofNat_of_zero_le (a := e.natAbs) (by omega) with ⟨n, _⟩
  rcases Int.le_total 0 e with h | h
  · obtain ⟨k, rfl⟩ := Int.eq_ofNat_of_zero_le h
    rw [Rat.zpow_natCast, Rat.zpow_natCast, Rat.zpow_natCast, q_mul_pow]
  · obtain ⟨k, hk⟩ := Int.eq_ofNat_of_zero_le (show 0 ≤ -e by omega)
    have e' : e = -(k : Int) := by omega
    subst e'
    rw [Rat.zpow_neg, Rat.zpow_neg, Rat.zpow_neg, Rat.zpow_natCast, Rat.zpow_natCast, Rat.zpow_natCast, q_mul_pow, Rat.inv_mul_rev, Rat.mul_comm]
theorem val_append : ∀ ps qs : List (Int × Int), val (ps ++ qs) = val ps * val qs
  | [], qs => by simp [val, Rat.one_mul]
  | p :: ps, qs => by
    rw [List.cons_append, val, val, val_append ps, Rat.mul_assoc]
theorem big_append : ∀ ps qs : List (Int × Int), big (ps ++ qs) = big ps * big qs
  | [], qs => by simp [big]
  | p :: ps, qs => by
    rw [List.cons_append, big, big, big_append ps, Nat.mul_assoc]
def prodB : List (Int × Int) → Nat
  | [] => 1
  | p :: ps => p.1.natAbs * prodB ps
theorem prodB_append : ∀ ps qs : List (Int × Int), prodB (ps ++ qs) = prodB ps * prodB qs
  | [], qs => by simp [prodB]
  | p :: ps, qs => by
    rw [List.cons_append, prodB, prodB, prodB_append ps, Nat.mul_assoc]
/-- what is kept of a list -/
def keepP (p : Int × Int) : Bool := decide (1 < p.1) && !decide (p.2 = 0)
theorem q_one_zpow (e : Int) : (1 : Qn) ^ e = 1 := by
  have one : ∀ k : Nat, (1 : Qn) ^ k = 1 := fun k => by
    induction k with
    | zero => exact Rat.pow_zero 1
    | succ k ih => rw [Rat.pow_succ, ih, Rat.mul_one]
  rcases Int.le_total 0 e with h | h
  · obtain ⟨k, rfl⟩ := Int.eq_ofNat_of_zero_le h
    rw [Rat.zpow_natCast, one]
  · obtain ⟨k, hk⟩ := Int.eq_ofNat_of_zero_le (show 0 ≤ -e by omega)
    have e' : e = -(k : Int) := by omega
    subst e'
    rw [Rat.zpow_neg, Rat.zpow_natCast, one]
    decide +kernel
theorem val_keep : ∀ {ps : List (Int × Int)}, (∀ p ∈ ps, 1 ≤ p.1) → val (ps.filter keepP) = val ps
  | [], _ => rfl
  | p :: ps, h => by
    have ih := val_keep (ps := ps) fun x hx => h x (List.mem_cons_of_mem _ hx)
    by_cases k : keepP p = true
    · rw [List.filter_cons_of_pos k, val, val, ih]
    · rw [List.filter_cons_of_neg k, val, ih]
      have h1 := h p List.mem_cons_self
      have : (p.1 : Qn) ^ p.2 = 1 := by
        unfold keepP at k
        by_cases h2 : 1 < p.1
        · have h3 : p.2 = 0 := by simpa [h2] using k
          rw [h3, Rat.zpow_zero]
        · have h3 : p.1 = 1 := by omega
          rw [h3]
          exact q_one_zpow _
      rw [this, Rat.one_mul]
theorem pow_pos1 {a : Int} (h : 1 ≤ a) (n : Nat) : 1 ≤ a.natAbs ^ n := Nat.one_le_pow _ _ (by omega)
theorem big_pos : ∀ {ps : List (Int × Int)}, (∀ p ∈ ps, 1 ≤ p.1) → 1 ≤ big ps
  | [], _ => Nat.le_refl _
  | p :: ps, h => by
    rw [big]
    exact Nat.mul_pos (pow_pos1 (h p List.mem_cons_self) _) (big_pos fun x hx => h x (List.mem_cons_of_mem _ hx))
theorem prodB_pos : ∀ {ps : List (Int × Int)}, (∀ p ∈ ps, 1 ≤ p.1) → 1 ≤ prodB ps
  | [], _ => Nat.le_refl _
  | p :: ps, h => by
    rw [prodB]
    have := h p List.mem_cons_self
    exact Nat.mul_pos (by omega) (prodB_pos fun x hx => h x (List.mem_cons_of_mem _ hx))
theorem big_keep : ∀ {ps : List (Int × Int)}, (∀ p ∈ ps, 1 ≤ p.1) → big (ps.filter keepP) ≤ big ps
  | [], _ => Nat.le_refl _
  | p :: ps, h => by
    have ih := big_keep (ps := ps) fun x hx => h x (List.mem_cons_of_mem _ hx)
    by_cases k : keepP p = true
    · rw [List.filter_cons_of_pos k, big, big]
      exact Nat.mul_le_mul_left _ ih
    · rw [List.filter_cons_of_neg k, big]
      exact Nat.le_trans ih (Nat.le_mul_of_pos_left _ (pow_pos1 (h p List.mem_cons_self) _))
theorem prodB_keep : ∀ {ps : List (Int × Int)}, (∀ p ∈ ps, 1 ≤ p.1) → prodB (ps.filter keepP) ≤ prodB ps
  | [], _ => Nat.le_refl _
  | p :: ps, h => by
    have ih := prodB_keep (ps := ps) fun x hx => h x (List.mem_cons_of_mem _ hx)
    by_cases k : keepP p = true
    · rw [List.filter_cons_of_pos k, prodB, prodB]
      exact Nat.mul_le_mul_left _ ih
    · rw [List.filter_cons_of_neg k, prodB]
      have := h p List.mem_cons_self
      exact Nat.le_trans ih (Nat.le_mul_of_pos_left _ (by omega))
theorem erase_val : ∀ {ps : List (Int × Int)} {j : Nat} {p : Int × Int}, ps[j]? = some p → val ps = (p.1 : Qn) ^ p.2 * val (ps.eraseIdx j) ∧ big ps = p.1.natAbs ^ p.2.natAbs * big (ps.eraseIdx j) ∧ prodB ps = p.1.natAbs * prodB (ps.eraseIdx j)
  | [], j, p, h => by simp at h
  | q :: ps, 0, p, h => by
    simp at h
    subst h
    exact ⟨rfl, rfl, rfl⟩
  | q :: ps, j + 1, p, h => by
    obtain ⟨h1, h2, h3⟩ := erase_val (ps := ps) (j := j) (p := p) (by simpa using h)
    rw [List.eraseIdx_cons_succ, val, val, big, big, prodB, prodB, h1, h2, h3]
    refine ⟨?_, ?_, ?_⟩
    · rw [← Rat.mul_assoc, ← Rat.mul_assoc, Rat.mul_comm ((q.1 : Qn) ^ q.2)]
    · rw [← Nat.mul_assoc, ← Nat.mul_assoc, Nat.mul_comm (q.1.natAbs ^ q.2.natAbs)]
    · rw [← Nat.mul_assoc, ← Nat.mul_assoc, Nat.mul_comm q.1.natAbs]
theorem log2_le_half {a b s : Nat} (h : a * s ≤ b) (hs : 2 ≤ s) (ha : 1 ≤ a) : a.log2 + 1 ≤ b.log2 := by
  have h1 : 2 ^ a.log2 ≤ a := Nat.log2_self_le (by omega)
  have h2 : 2 ^ (a.log2 + 1) ≤ b := by
    rw [Nat.pow_succ]
    exact Nat.le_trans (Nat.mul_le_mul h1 hs) h
  have h3 : 0 < 2 ^ (a.log2 + 1) := Nat.pow_pos (by omega)
  exact (Nat.le_log2 (by omega)).mpr h2
theorem log2_mono {a b : Nat} (h : a ≤ b) : a.log2 ≤ b.log2 := by
  rcases Nat.eq_zero_or_pos a with z | z
  · subst z
    simp
  · exact (Nat.le_log2 (by omega)).mpr (Nat.le_trans (Nat.log2_self_le (by omega)) h)

structure CpI (ps todo dn : List (Int × Int)) (m : Nat) : Prop where
  tp : ∀ p ∈ todo, 1 < p.1 ∧ p.1.natAbs < 2 ^ 250 ∧ p.2 ≠ 0
  dq : ∀ p ∈ dn, 1 < p.1 ∧ p.1.natAbs < 2 ^ 250 ∧ p.2 ≠ 0
  cop : dn.Pairwise fun p q => Int.gcd p.1 q.1 = 1
  vl : val todo * val dn = val ps
  bg : big todo * big dn ≤ big ps
  ms : 3 * (prodB todo * prodB dn).log2 + todo.length = m
  mb : m ≤ 80000
theorem prodB_lt : ∀ {ps : List (Int × Int)}, (∀ p ∈ ps, p.1.natAbs < 2 ^ 250) → prodB ps ≤ 2 ^ (250 * ps.length)
  | [], _ => by simp [prodB]
  | p :: ps, h => by
    have h1 := h p List.mem_cons_self
    have h2 := prodB_lt (ps := ps) fun x hx => h x (List.mem_cons_of_mem _ hx)
    rw [prodB, List.length_cons, show 250 * (ps.length + 1) = 250 + 250 * ps.length by omega, Nat.pow_add]
    exact Nat.mul_le_mul (by omega) h2
theorem log2_pow_le {a n : Nat} (h : a ≤ 2 ^ n) : a.log2 ≤ n := by
  have h1 := log2_mono h
  rw [Nat.log2_two_pow] at h1
  exact h1
theorem len_log : ∀ {ps : List (Int × Int)}, (∀ p ∈ ps, 1 < p.1) → 2 ^ ps.length ≤ prodB ps
  | [], _ => by simp [prodB]
  | p :: ps, h => by
    have h1 := h p List.mem_cons_self
    have h2 := len_log (ps := ps) fun x hx => h x (List.mem_cons_of_mem _ hx)
    rw [prodB, List.length_cons, Nat.pow_succ, Nat.mul_comm]
    exact Nat.mul_le_mul (by omega) h2
theorem keepP_iff {p : Int × Int} : keepP p = true ↔ 1 < p.1 ∧ p.2 ≠ 0 := by
  unfold keepP
  simp
theorem CpI.init {ps : List (Int × Int)} (h : PsOk ps) : ∃ m, CpI ps (ps.filter keepP) [] m := by
  have h1 : ∀ p ∈ ps, 1 ≤ p.1 := fun p hp => (h.pos p hp).1
  have h2 : prodB (ps.filter keepP) ≤ 2 ^ (250 * ps.length) := Nat.le_trans (prodB_keep h1) (prodB_lt fun p hp => (h.pos p hp).2.1)
  have hl := h.len
  refine ⟨_, fun p hp => ?_, fun p hp => (nomatch hp), List.Pairwise.nil, ?_, ?_, rfl, ?_⟩
  · obtain ⟨hp1, hp2⟩ := List.mem_filter.mp hp
    obtain ⟨h3, h4⟩ := keepP_iff.mp hp2
    exact ⟨h3, (h.pos p hp1).2.1, h4⟩
  · rw [val_keep h1]
    show val ps * 1 = _
    rw [Rat.mul_one]
  · show big (ps.filter keepP) * 1 ≤ _
    rw [Nat.mul_one]
    exact big_keep h1
  · have e : prodB (ps.filter keepP) * prodB [] = prodB (ps.filter keepP) := Nat.mul_one _
    rw [e]
    have h3 := log2_pow_le h2
    have h4 : (ps.filter keepP).length ≤ ps.length := List.length_filter_le _ _
    omega
theorem CpI.bounds {ps todo dn : List (Int × Int)} {m : Nat} (I : CpI ps todo dn m) : todo.length ≤ 80000 ∧ dn.length ≤ 80000 := by
  have h1 := I.ms
  have h2 := I.mb
  refine ⟨by omega, ?_⟩
  have h3 := len_log fun p hp => (I.dq p hp).1
  have h4 : 1 ≤ prodB todo := prodB_pos fun p hp => by have := (I.tp p hp).1; omega
  have h5 : 2 ^ dn.length ≤ prodB todo * prodB dn := Nat.le_trans h3 (Nat.le_mul_of_pos_left _ h4)
  have h6 := log2_mono h5
  rw [Nat.log2_two_pow] at h6
  omega
/-- nothing is shared -/
theorem CpI.stepA {ps todo dn : List (Int × Int)} {b e : Int} {m : Nat} (I : CpI ps (todo ++ [(b, e)]) dn m) (h : ∀ p ∈ dn, ¬ 1 < Int.gcd p.1 b) : ∃ m', m' < m ∧ CpI ps todo (dn ++ [(b, e)]) m' := by
  have hb := I.tp (b, e) (by simp)
  have hms := I.ms
  refine ⟨m - 1, ?_, fun p hp => I.tp p (List.mem_append_left _ hp), fun p hp => ?_, ?_, ?_, ?_, ?_, by have := I.mb; omega⟩
  · rw [List.length_append, List.length_singleton] at hms
    omega
  · rcases List.mem_append.mp hp with hp | hp
    · exact I.dq p hp
    · rw [List.mem_singleton.mp hp]
      exact hb
  · rw [List.pairwise_append]
    refine ⟨I.cop, List.pairwise_singleton _ _, fun p hp q hq => ?_⟩
    rw [List.mem_singleton.mp hq]
    have h1 := h p hp
    have h2 : 0 < Int.gcd p.1 b := Int.gcd_pos_of_ne_zero_right _ (by have := hb.1; simp at this; omega)
    show Int.gcd p.1 b = 1
    omega
  · have := I.vl
    rw [val_append] at this ⊢
    rw [← this, Rat.mul_assoc, Rat.mul_comm (val dn)]
  · have := I.bg
    rw [big_append] at this ⊢
    rw [Nat.mul_comm (big dn), ← Nat.mul_assoc]
    exact this
  · rw [prodB_append, List.length_append, List.length_singleton] at hms
    rw [prodB_append, Nat.mul_comm (prodB dn), ← Nat.mul_assoc]
    omega
theorem div_props {b s : Int} (hs : 1 < s) (hb : 1 < b) (d : s ∣ b) : b = b / s * s ∧ 1 ≤ b / s ∧ b / s ≤ b := by
  have h1 := Int.ediv_mul_cancel d
  have h2 : 0 < b / s := by
    rcases Int.lt_or_le 0 (b / s) with z | z
    · exact z
    · exfalso
      have := Int.mul_le_mul_of_nonneg_right z (show 0 ≤ s by omega)
      omega
  refine ⟨h1.symm, by omega, ?_⟩
  have := Int.mul_le_mul_of_nonneg_left (show (1 : Int) ≤ s by omega) (show 0 ≤ b / s by omega)
  omega
/-- something is shared -/
theorem CpI.stepB {ps todo dn : List (Int × Int)} {b e o p : Int} {j m : Nat} (I : CpI ps (todo ++ [(b, e)]) dn m) (hj : dn[j]? = some (o, p)) (hg : 1 < Int.gcd o b) :
    ∃ m', m' < m ∧ CpI ps ((todo ++ [(b / (Int.gcd b o : Nat), e), (o / (Int.gcd b o : Nat), p), ((Int.gcd b o : Nat), e + p)]).filter keepP) (dn.eraseIdx j) m' := by
  have hb := I.tp (b, e) (by simp)
  have ho := I.dq (o, p) (List.mem_of_getElem? hj)
  simp only at hb ho
  have hgs : 1 < Int.gcd b o := by rw [Int.gcd_comm]; exact hg
  generalize hs : Int.gcd b o = s at hgs
  have ds1 : ((s : Nat) : Int) ∣ b := by rw [← hs]; exact Int.gcd_dvd_left ..
  have ds2 : ((s : Nat) : Int) ∣ o := by rw [← hs]; exact Int.gcd_dvd_right ..
  obtain ⟨b1, b2, b3⟩ := div_props (by omega) hb.1 ds1
  obtain ⟨o1, o2, o3⟩ := div_props (by omega) ho.1 ds2
  have sle : (s : Int) ≤ b := Int.le_of_dvd (by omega) ds1
  generalize hx : b / (s : Int) = x at b1 b2 b3
  generalize hy : o / (s : Int) = y at o1 o2 o3
  have pos3 : ∀ q ∈ todo ++ [(x, e), (y, p), ((s : Int), e + p)], 1 ≤ q.1 ∧ q.1.natAbs < 2 ^ 250 := by
    intro q hq
    rcases List.mem_append.mp hq with hq | hq
    · have := I.tp q (List.mem_append_left _ hq)
      exact ⟨by omega, this.2.1⟩
    · simp only [List.mem_cons, List.not_mem_nil, or_false] at hq
      rcases hq with rfl | rfl | rfl
      · exact ⟨b2, by show x.natAbs < _; omega⟩
      · exact ⟨o2, by show y.natAbs < _; omega⟩
      · exact ⟨by show (1 : Int) ≤ s; omega, by show (s : Int).natAbs < _; omega⟩
  obtain ⟨ev, eb, ep⟩ := erase_val hj
  simp only at ev eb ep
  have hms := I.ms
  have hmb := I.mb
  have hv := I.vl
  have hbg := I.bg
  rw [val_append, ev] at hv
  rw [big_append, eb] at hbg
  rw [prodB_append, ep, List.length_append, List.length_singleton] at hms
  have p1 : ∀ q ∈ todo ++ [(x, e), (y, p), ((s : Int), e + p)], 1 ≤ q.1 := fun q hq => (pos3 q hq).1
  have key : 3 * (prodB ((todo ++ [(x, e), (y, p), ((s : Int), e + p)]).filter keepP) * prodB (dn.eraseIdx j)).log2 + ((todo ++ [(x, e), (y, p), ((s : Int), e + p)]).filter keepP).length < m := by
    have l1 : ((todo ++ [(x, e), (y, p), ((s : Int), e + p)]).filter keepP).length ≤ todo.length + 3 := by
      refine Nat.le_trans (List.length_filter_le _ _) ?_
      rw [List.length_append]
      simp
    have q1 : 1 ≤ prodB ((todo ++ [(x, e), (y, p), ((s : Int), e + p)]).filter keepP) := prodB_pos fun q hq => p1 q (List.mem_filter.mp hq).1
    have q2 : 1 ≤ prodB (dn.eraseIdx j) := prodB_pos fun q hq => by have := (I.dq q (List.mem_of_mem_eraseIdx hq)).1; omega
    have q3 := prodB_keep p1
    have q4 : prodB (todo ++ [(x, e), (y, p), ((s : Int), e + p)]) * s = prodB todo * (b.natAbs * o.natAbs) := by
      rw [prodB_append]
      have eb' : b.natAbs = x.natAbs * s := by
        conv => lhs; rw [b1, Int.natAbs_mul]
        simp
      have eo' : o.natAbs = y.natAbs * s := by
        conv => lhs; rw [o1, Int.natAbs_mul]
        simp
      rw [eb', eo']
      simp only [prodB, Int.natAbs_natCast, Nat.mul_one]
      simp only [Nat.mul_assoc, Nat.mul_comm, Nat.mul_left_comm]
    have q5 : prodB ((todo ++ [(x, e), (y, p), ((s : Int), e + p)]).filter keepP) * prodB (dn.eraseIdx j) * s ≤ prodB todo * prodB [(b, e)] * (o.natAbs * prodB (dn.eraseIdx j)) := by
      calc _ ≤ prodB (todo ++ [(x, e), (y, p), ((s : Int), e + p)]) * prodB (dn.eraseIdx j) * s := Nat.mul_le_mul_right _ (Nat.mul_le_mul_right _ q3)
        _ = prodB (todo ++ [(x, e), (y, p), ((s : Int), e + p)]) * s * prodB (dn.eraseIdx j) := by rw [Nat.mul_right_comm]
        _ = _ := by
          rw [q4]
          simp only [prodB, Nat.mul_one]
          simp only [Nat.mul_assoc, Nat.mul_comm, Nat.mul_left_comm]
    have q6 := log2_le_half q5 (by omega) (Nat.mul_pos q1 q2)
    omega
  refine ⟨_, key, fun q hq => ?_, fun q hq => I.dq q (List.mem_of_mem_eraseIdx hq), I.cop.sublist (List.eraseIdx_sublist _ _), ?_, ?_, rfl, by omega⟩
  · obtain ⟨hq1, hq2⟩ := List.mem_filter.mp hq
    obtain ⟨h3, h4⟩ := keepP_iff.mp hq2
    exact ⟨h3, (pos3 q hq1).2, h4⟩
  · rw [val_keep p1, val_append, ← hv]
    have eb' : (b : Qn) = (x : Qn) * (s : Int) := by rw [← Rat.intCast_mul, ← b1]
    have eo' : (o : Qn) = (y : Qn) * (s : Int) := by rw [← Rat.intCast_mul, ← o1]
    simp only [val, Rat.mul_one]
    rw [eb', eo', q_mul_zpow, q_mul_zpow, Rat.zpow_add (by
      intro z
      have : ((s : Int) : Qn) = ((0 : Int) : Qn) := z
      rw [Rat.intCast_inj] at this
      omega)]
    grind
  · refine Nat.le_trans ?_ hbg
    refine Nat.le_trans (Nat.mul_le_mul_right _ (big_keep p1)) ?_
    rw [big_append]
    simp only [big, Nat.mul_one]
    have eb' : b.natAbs = x.natAbs * s := by
      conv => lhs; rw [b1, Int.natAbs_mul]
      simp
    have eo' : o.natAbs = y.natAbs * s := by
      conv => lhs; rw [o1, Int.natAbs_mul]
      simp
    rw [eb', eo', Nat.mul_pow, Nat.mul_pow, Int.natAbs_natCast]
    have hpw : s ^ (e + p).natAbs ≤ s ^ e.natAbs * s ^ p.natAbs := by
      rw [← Nat.pow_add]
      exact Nat.pow_le_pow_right (by omega) (Int.natAbs_add_le _ _)
    calc _ ≤ big todo * (x.natAbs ^ e.natAbs * (y.natAbs ^ p.natAbs * (s ^ e.natAbs * s ^ p.natAbs))) * big (dn.eraseIdx j) := Nat.mul_le_mul_right _ (Nat.mul_le_mul_left _ (Nat.mul_le_mul_left _ (Nat.mul_le_mul_left _ hpw)))
      _ = _ := by simp only [Nat.mul_assoc, Nat.mul_comm, Nat.mul_left_comm]
theorem CpI.done {ps dn : List (Int × Int)} {m : Nat} (I : CpI ps [] dn m) : Cop ps dn :=
  ⟨fun q hq => ⟨(I.dq q hq).1, (I.dq q hq).2.2⟩, I.cop, by have := I.vl; rwa [show val [] = 1 from rfl, Rat.one_mul] at this, by have := I.bg; rwa [show big [] = 1 from rfl, Nat.one_mul] at this⟩
end K1


/-! text M3 -/
set_option maxHeartbeats 400000
set_option Elab.async false
set_option linter.all false
set_option maxRecDepth 100000
namespace K1
open PySem PySem.Spec PyProof.Rows L2 L2H DL

def tops : List (Int × Int) → Nat
  | [] => 1
  | p :: ps => (if 0 < p.2 then p.1.natAbs ^ p.2.natAbs else 1) * tops ps
def bots : List (Int × Int) → Nat
  | [] => 1
  | p :: ps => (if 0 < p.2 then 1 else p.1.natAbs ^ p.2.natAbs) * bots ps
theorem tops_append : ∀ ps qs : List (Int × Int), tops (ps ++ qs) = tops ps * tops qs
  | [], qs => by simp [tops]
  | p :: ps, qs => by
    rw [List.cons_append, tops, tops, tops_append ps, Nat.mul_assoc]
theorem bots_append : ∀ ps qs : List (Int × Int), bots (ps ++ qs) = bots ps * bots qs
  | [], qs => by simp [bots]
  | p :: ps, qs => by
    rw [List.cons_append, bots, bots, bots_append ps, Nat.mul_assoc]
theorem tb_big : ∀ ps : List (Int × Int), tops ps * bots ps = big ps
  | [] => rfl
  | p :: ps => by
    rw [tops, bots, big, ← tb_big ps]
    by_cases h : 0 < p.2
    · rw [if_pos h, if_pos h, Nat.one_mul, Nat.mul_assoc]
    · rw [if_neg h, if_neg h, Nat.one_mul, Nat.mul_left_comm]
theorem tb_pos : ∀ {ps : List (Int × Int)}, (∀ p ∈ ps, 1 ≤ p.1) → 1 ≤ tops ps ∧ 1 ≤ bots ps
  | [], _ => ⟨Nat.le_refl _, Nat.le_refl _⟩
  | p :: ps, h => by
    obtain ⟨h1, h2⟩ := tb_pos (ps := ps) fun x hx => h x (List.mem_cons_of_mem _ hx)
    have h3 := pow_pos1 (h p List.mem_cons_self) p.2.natAbs
    rw [tops, bots]
    constructor
    · refine Nat.mul_pos ?_ h1
      split <;> omega
    · refine Nat.mul_pos ?_ h2
      split <;> omega
theorem tb_val : ∀ {ps : List (Int × Int)}, (∀ p ∈ ps, 1 ≤ p.1) → val ps * (bots ps : Qn) = (tops ps : Qn)
  | [], _ => by simp [val, bots, tops, Rat.mul_one]
  | p :: ps, h => by
    have ih := tb_val (ps := ps) fun x hx => h x (List.mem_cons_of_mem _ hx)
    have h1 := h p List.mem_cons_self
    obtain ⟨b, e⟩ := p
    simp only at h1
    obtain ⟨b, rfl⟩ := Int.eq_ofNat_of_zero_le (show 0 ≤ b by omega)
    have b0 : ((b : Int) : Qn) ≠ 0 := by
      intro z
      have : ((b : Int) : Qn) = ((0 : Int) : Qn) := z
      rw [Rat.intCast_inj] at this
      omega
    rw [val, bots, tops, Rat.natCast_mul, Rat.natCast_mul, ← ih]
    simp only [Int.natAbs_natCast]
    by_cases he : 0 < e
    · obtain ⟨k, rfl⟩ := Int.eq_ofNat_of_zero_le (show 0 ≤ e by omega)
      rw [if_pos he, if_pos he, Int.natAbs_natCast, Rat.zpow_natCast, Rat.natCast_pow]
      have : ((b : Int) : Qn) = ((b : Nat) : Qn) := Rat.intCast_natCast b
      rw [this]
      grind
    · obtain ⟨k, hk⟩ := Int.eq_ofNat_of_zero_le (show 0 ≤ -e by omega)
      have e' : e = -(k : Int) := by omega
      subst e'
      rw [if_neg he, if_neg he, Int.natAbs_neg, Int.natAbs_natCast, Rat.zpow_neg, Rat.zpow_natCast, Rat.natCast_pow]
      have eq : ((b : Int) : Qn) = ((b : Nat) : Qn) := Rat.intCast_natCast b
      rw [eq] at b0 ⊢
      have pk : ∀ k : Nat, ((b : Nat) : Qn) ^ k ≠ 0 := fun k => by
        induction k with
        | zero => rw [Rat.pow_zero]; decide
        | succ k ih =>
          rw [Rat.pow_succ]
          intro z
          rcases Rat.mul_eq_zero.mp z with z | z
          · exact ih z
          · exact b0 z
      have := pk k
      grind
theorem cop_list {b n : Nat} : ∀ {ps : List (Int × Int)}, (∀ p ∈ ps, Nat.Coprime b p.1.natAbs) → Nat.Coprime (b ^ n) (tops ps) ∧ Nat.Coprime (b ^ n) (bots ps)
  | [], _ => ⟨Nat.coprime_one_right _, Nat.coprime_one_right _⟩
  | p :: ps, h => by
    obtain ⟨h1, h2⟩ := cop_list (n := n) (ps := ps) fun x hx => h x (List.mem_cons_of_mem _ hx)
    have h3 : Nat.Coprime (b ^ n) (p.1.natAbs ^ p.2.natAbs) := Nat.Coprime.pow _ _ (h p List.mem_cons_self)
    rw [tops, bots]
    constructor
    · refine Nat.Coprime.mul_right ?_ h1
      split
      · exact h3
      · exact Nat.coprime_one_right _
    · refine Nat.Coprime.mul_right ?_ h2
      split
      · exact Nat.coprime_one_right _
      · exact h3
theorem tb_cop : ∀ {ps : List (Int × Int)}, ps.Pairwise (fun p q => Int.gcd p.1 q.1 = 1) → Nat.Coprime (tops ps) (bots ps)
  | [], _ => Nat.coprime_one_right _
  | p :: ps, h => by
    obtain ⟨h1, h2⟩ := List.pairwise_cons.mp h
    have ih := tb_cop h2
    obtain ⟨c1, c2⟩ := cop_list (b := p.1.natAbs) (n := p.2.natAbs) (ps := ps) fun q hq => h1 q hq
    rw [tops, bots]
    by_cases he : 0 < p.2
    · rw [if_pos he, if_pos he, Nat.one_mul]
      exact Nat.Coprime.mul_left c2 ih
    · rw [if_neg he, if_neg he, Nat.one_mul]
      exact Nat.Coprime.mul_right c1.symm ih
theorem val_mk {ps : List (Int × Int)} (h : ∀ p ∈ ps, 1 ≤ p.1) : val ps = mkRat (tops ps : Nat) (bots ps) := by
  have h1 := tb_val h
  have h2 := (tb_pos h).2
  rw [Rat.mkRat_eq_div, Rat.intCast_natCast, ← h1]
  have : ((bots ps : Nat) : Qn) ≠ 0 := by
    intro z
    have : ((bots ps : Nat) : Qn) = ((0 : Nat) : Qn) := z
    rw [Rat.natCast_inj] at this
    omega
  rw [Rat.mul_div_cancel this]
theorem dr_cop {ps qs : List (Int × Int)} (c : Cop ps qs) : dr (val ps) = .tuple [.int (tops qs : Nat), .int (bots qs : Nat)] := by
  have p1 : ∀ q ∈ qs, 1 ≤ q.1 := fun q hq => by have := (c.pos q hq).1; omega
  have hb := (tb_pos p1).2
  rw [← c.val, val_mk p1]
  have := gcd1 (t := (tops qs : Nat)) (b := (bots qs : Nat)) (by simpa using tb_cop c.cop) (by omega)
  rwa [Int.toNat_natCast] at this
/-! ### the powers of a table -/
def prsZ : List (Qn × Nat) → List (Int × Int)
  | [] => []
  | z :: zs => (if z.2 = 0 then [] else [(z.1.num, (z.2 : Int)), ((z.1.den : Int), -(z.2 : Int))]) ++ prsZ zs
def prodZ : List (Qn × Nat) → Qn
  | [] => 1
  | z :: zs => z.1 ^ z.2 * prodZ zs
theorem prsZ_append : ∀ xs ys : List (Qn × Nat), prsZ (xs ++ ys) = prsZ xs ++ prsZ ys
  | [], ys => rfl
  | x :: xs, ys => by
    rw [List.cons_append, prsZ, prsZ, prsZ_append xs, List.append_assoc]
theorem prodZ_zip : ∀ (rs : List Qn) (cs : List Nat), prodZ (rs.zip cs) = prodQ rs cs
  | [], _ => by simp [prodZ, prodQ]
  | _ :: _, [] => by simp [prodZ, prodQ]
  | r :: rs, c :: cs => by
    rw [List.zip_cons_cons, prodZ, prodQ, prodZ_zip]
theorem q_frac (r : Qn) : r * ((r.den : Nat) : Qn) = ((r.num : Int) : Qn) := by
  have h : r = (r.num : Qn) / ((r.den : Nat) : Qn) := by
    conv => lhs; rw [← Rat.mkRat_self r, Rat.mkRat_eq_div]
  have h0 : ((r.den : Nat) : Qn) ≠ 0 := by
    intro z
    have : ((r.den : Nat) : Qn) = ((0 : Nat) : Qn) := z
    rw [Rat.natCast_inj] at this
    exact r.den_nz this
  conv => lhs; lhs; rw [h]
  exact Rat.div_mul_cancel h0
theorem q_pow_ne {a : Qn} (h : a ≠ 0) : ∀ k : Nat, a ^ k ≠ 0
  | 0 => by rw [Rat.pow_zero]; decide
  | k + 1 => by
    rw [Rat.pow_succ]
    intro z
    rcases Rat.mul_eq_zero.mp z with z | z
    · exact q_pow_ne h k z
    · exact h z
theorem val_prs : ∀ (zs : List (Qn × Nat)), val (prsZ zs) = prodZ zs
  | [] => rfl
  | z :: zs => by
    rw [prsZ, val_append, val_prs zs, prodZ]
    obtain ⟨r, c⟩ := z
    congr 1
    by_cases hc : c = 0
    · subst hc
      simp [val]
    · simp only [hc, if_false]
      simp only [val, Rat.mul_one]
      rw [Rat.zpow_neg, Rat.zpow_natCast, Rat.zpow_natCast, ← q_frac r, q_mul_pow]
      have h0 : (((r.den : Nat) : Int) : Qn) ≠ 0 := by
        intro z
        have : (((r.den : Nat) : Int) : Qn) = ((0 : Int) : Qn) := z
        rw [Rat.intCast_inj] at this
        have := r.den_nz
        omega
      have h1 := q_pow_ne h0 c
      have e : (((r.den : Nat) : Int) : Qn) = ((r.den : Nat) : Qn) := Rat.intCast_natCast _
      rw [e] at h1 ⊢
      grind
theorem prs_len : ∀ (zs : List (Qn × Nat)), (prsZ zs).length ≤ 2 * zs.length
  | [] => by simp [prsZ]
  | z :: zs => by
    have := prs_len zs
    rw [prsZ, List.length_append, List.length_cons]
    split <;> simp <;> omega
theorem prs_pos : ∀ {zs : List (Qn × Nat)}, (∀ z ∈ zs, (0 < z.2 → 1 ≤ z.1.num) ∧ Sz 210 z.1 ∧ z.2 ≤ 2000) → ∀ p ∈ prsZ zs, 1 ≤ p.1 ∧ p.1.natAbs < 2 ^ 250 ∧ p.2.natAbs < 2 ^ 50
  | [], _, p, hp => (nomatch hp)
  | z :: zs, h, p, hp => by
    rw [prsZ] at hp
    rcases List.mem_append.mp hp with hp | hp
    · obtain ⟨h1, h2, h3⟩ := h z List.mem_cons_self
      by_cases hc : z.2 = 0
      · rw [if_pos hc] at hp
        cases hp
      · rw [if_neg hc] at hp
        simp only [List.mem_cons, List.not_mem_nil, or_false] at hp
        have hd := den_pos z.1
        have w1 := lt_pow_le h2.1 (show 210 ≤ 250 by omega)
        have w2 := lt_pow_le h2.2 (show 210 ≤ 250 by omega)
        rcases hp with rfl | rfl
        · exact ⟨h1 (by omega), w1, by show ((z.2 : Int)).natAbs < _; omega⟩
        · exact ⟨by show (1 : Int) ≤ z.1.den; omega, by show ((z.1.den : Int)).natAbs < _; rw [Int.natAbs_natCast]; exact w2, by show (-(z.2 : Int)).natAbs < _; omega⟩
    · exact prs_pos (fun x hx => h x (List.mem_cons_of_mem _ hx)) p hp
theorem prs_big : ∀ {zs : List (Qn × Nat)}, (∀ z ∈ zs, Sz 210 z.1) → big (prsZ zs) ≤ 2 ^ (420 * (zs.map (·.2)).sum)
  | [], _ => by simp [prsZ, big]
  | z :: zs, h => by
    have ih := prs_big (zs := zs) fun x hx => h x (List.mem_cons_of_mem _ hx)
    have hz := h z List.mem_cons_self
    rw [prsZ, big_append, List.map_cons, List.sum_cons, Nat.mul_add, Nat.pow_add]
    refine Nat.mul_le_mul ?_ ih
    by_cases hc : z.2 = 0
    · rw [if_pos hc, hc]
      simp [big]
    · rw [if_neg hc]
      simp only [big, Nat.mul_one, Int.natAbs_natCast, Int.natAbs_neg]
      have h1 : z.1.num.natAbs ^ z.2 ≤ (2 ^ 210) ^ z.2 := Nat.pow_le_pow_left (Nat.le_of_lt hz.1) _
      have h2 : z.1.den ^ z.2 ≤ (2 ^ 210) ^ z.2 := Nat.pow_le_pow_left (Nat.le_of_lt hz.2) _
      have e : 2 ^ (420 * z.2) = (2 ^ 210) ^ z.2 * (2 ^ 210) ^ z.2 := by
        rw [← Nat.pow_mul, ← Nat.pow_add]
        congr 1
        omega
      rw [e]
      exact Nat.mul_le_mul h1 h2
theorem prodZ_zero : ∀ {zs : List (Qn × Nat)} {z : Qn × Nat}, z ∈ zs → z.1 = 0 → 0 < z.2 → prodZ zs = 0
  | [], _, h, _, _ => (nomatch h)
  | y :: ys, z, h, h1, h2 => by
    rw [prodZ]
    rcases List.mem_cons.mp h with rfl | h
    · rw [h1, show z.2 = (z.2 - 1) + 1 by omega, Rat.pow_succ, Rat.mul_zero, Rat.zero_mul]
    · rw [prodZ_zero h h1 h2, Rat.mul_zero]
theorem zip_map : ∀ (rs : List Qn) (cs : List Nat), zipD (rs.map dr) (cs.map fun c => PyData.int (c : Nat)) = (rs.zip cs).map fun z => .tuple [dr z.1, .int (z.2 : Nat)]
  | [], _ => by simp [zipD]
  | _ :: _, [] => by simp [zipD]
  | r :: rs, c :: cs => by
    show PyData.tuple [dr r, .int (c : Nat)] :: zipD (rs.map dr) (cs.map fun c => PyData.int (c : Nat)) = _
    rw [zip_map, List.zip_cons_cons, List.map_cons]
end K1


/-! text T1 -/
set_option maxHeartbeats 400000
set_option Elab.async false
set_option linter.all false
set_option maxRecDepth 100000
/-! Texts as lists of codes. -/
namespace T
open PySem PySem.Spec PyProof.Rows L2 DL
def st (cs : List Nat) : Str := ⟨cs.toArray⟩
theorem st_len (cs : List Nat) : (st cs).length = cs.length := by simp [st, Str.length]
theorem st_list (cs : List Nat) : (st cs).cps.toList = cs := by simp [st]
theorem st_of (x : Str) : x = st x.cps.toList := by
  cases x
  simp [st]
theorem st_inj {a b : List Nat} : st a = st b ↔ a = b := by
  constructor
  · intro h
    have := congrArg (fun x => x.cps.toList) h
    simpa [st_list] using this
  · rintro rfl
    rfl
theorem st_app (a b : List Nat) : st a ++ st b = st (a ++ b) := by
  show (⟨a.toArray ++ b.toArray⟩ : Str) = ⟨(a ++ b).toArray⟩
  simp
theorem lit_empty : Str.ofString "" = st [] := by decide +kernel
theorem lit_0 : Str.ofString "0" = st [48] := by decide +kernel
theorem lit_minus : Str.ofString "-" = st [45] := by decide +kernel
theorem lit_slash : Str.ofString "/" = st [47] := by decide +kernel
theorem lit_m0 : Str.ofString "-0" = st [45, 48] := by decide +kernel
theorem lit_digits : Str.ofString "0123456789" = st [48, 49, 50, 51, 52, 53, 54, 55, 56, 57] := by decide +kernel
/-! one sign in a text -/
theorem at_one (l : List Nat) (c k : Nat) : StrLaws.At (st l) (st [c]) (st l).length k ↔ l[k]? = some c := by
  have h := StrLaws.subAt_one (st l) c k
  rw [st_list] at h
  exact h
theorem occ_one (l : List Nat) (c : Nat) : (Builtin.Str.occurrences (st l) (st [c]) 0 (st l).length 1).isEmpty = !(l.contains c) := by
  rcases StrLaws.occ_head (st l) (st [c]) 1 (Nat.le_refl _) with ⟨h, hn⟩ | ⟨i, r, h, ha, _⟩
  · rw [h]
    have : c ∉ l := fun hm => by
      obtain ⟨k, hk⟩ := List.getElem?_of_mem hm
      exact hn k ((at_one l c k).mpr hk)
    simp [this]
  · rw [h]
    have : c ∈ l := List.mem_of_getElem? ((at_one l c i).mp ha)
    simp [this]
/-! cuts -/
theorem cutS_st (cs : List Nat) (lo hi : Option Int) : cutS (st cs) lo hi = st ((cs.drop (HT.sIx cs.length 0 lo)).take (HT.sIx cs.length cs.length hi - HT.sIx cs.length 0 lo)) := by
  unfold cutS
  rw [st_list, st_len]
  rfl
theorem cut_from (cs : List Nat) (k : Nat) (h : k ≤ cs.length) : cutS (st cs) (some (k : Int)) none = st (cs.drop k) := by
  rw [cutS_st]
  congr 1
  rw [HT.sIx_nat, Nat.min_eq_left h]
  show (cs.drop k).take (cs.length - k) = cs.drop k
  rw [List.take_of_length_le]
  rw [List.length_drop]
  omega
theorem cut_from' (cs : List Nat) (k : Nat) : cutS (st cs) (some (k : Int)) none = st (cs.drop k) := by
  rcases Nat.le_total k cs.length with h | h
  · exact cut_from cs k h
  · rw [cutS_st]
    congr 1
    rw [HT.sIx_nat, Nat.min_eq_right h]
    show (cs.drop cs.length).take (cs.length - cs.length) = cs.drop k
    rw [Nat.sub_self, List.take_zero, List.drop_eq_nil_of_le h]
theorem cut_to (cs : List Nat) (k : Nat) : cutS (st cs) none (some (k : Int)) = st (cs.take k) := by
  rw [cutS_st]
  congr 1
  rw [HT.sIx_nat, HT.sIx_none, Nat.sub_zero, List.drop_zero]
  rcases Nat.le_total k cs.length with h | h
  · rw [Nat.min_eq_left h]
  · rw [Nat.min_eq_right h, List.take_length, List.take_of_length_le h]
theorem cut_mid (cs : List Nat) (k n : Nat) : cutS (st cs) (some (k : Int)) (some ((k + n : Nat) : Int)) = st ((cs.drop k).take n) := by
  rw [cutS_st]
  congr 1
  rw [HT.sIx_nat, HT.sIx_nat]
  rcases Nat.le_total k cs.length with h | h
  · rw [Nat.min_eq_left h]
    rcases Nat.le_total (k + n) cs.length with h2 | h2
    · rw [Nat.min_eq_left h2]
      congr 1
      omega
    · rw [Nat.min_eq_right h2, List.take_of_length_le (by rw [List.length_drop]; omega), List.take_of_length_le (by rw [List.length_drop]; omega)]
  · rw [Nat.min_eq_right h, List.drop_length, List.take_nil, List.drop_eq_nil_of_le h, List.take_nil]
/-! first sign -/
theorem starts_st (cs : List Nat) (c : Nat) : Txt.startswith (st cs) (st [c]) = decide (cs.head? = some c) := by
  have h := at_one cs c 0
  unfold StrLaws.At at h
  rw [st_len, st_len] at h
  unfold Txt.startswith
  rw [st_len, st_len]
  cases cs with
  | nil => simp
  | cons d r =>
    have h2 : (Builtin.Str.subAt (st (d :: r)) (st [c]) 0 = true) ↔ d = c := by
      constructor
      · intro q
        have := h.mp ⟨by simp, q⟩
        simpa using this
      · intro q
        exact (h.mpr (by simp [q])).2
    simp only [List.head?_cons, Option.some.injEq]
    by_cases q : d = c
    · simp [q, h2.mpr q]
      subst q
      exact h2.mpr rfl
    · have : Builtin.Str.subAt (st (d :: r)) (st [c]) 0 = false := by
        cases z : Builtin.Str.subAt (st (d :: r)) (st [c]) 0 with
        | false => rfl
        | true => exact absurd (h2.mp z) q
      simp [q, this]
/-! partition, split at one sign -/
theorem sub_st (cs : List Nat) (i j : Nat) : Builtin.Str.strSub (st cs) i j = st ((cs.drop i).take (j - i)) := by
  have h := StrLaws.strSub_toList (st cs) i j
  rw [st_list] at h
  rw [st_of (Builtin.Str.strSub (st cs) i j), h]
theorem part_none {cs : List Nat} {c : Nat} (h : c ∉ cs) : Txt.partition (st cs) (st [c]) = (st cs, Str.empty, Str.empty) := by
  unfold Txt.partition
  rcases StrLaws.occ_head (st cs) (st [c]) 1 (Nat.le_refl _) with ⟨e, hn⟩ | ⟨i, r, e, ha, _⟩
  · rw [e]
  · exact absurd (List.mem_of_getElem? ((at_one cs c i).mp ha)) h
theorem part_some {a b : List Nat} {c : Nat} (h : c ∉ a) : Txt.partition (st (a ++ c :: b)) (st [c]) = (st a, st [c], st b) := by
  unfold Txt.partition
  rcases StrLaws.occ_head (st (a ++ c :: b)) (st [c]) 1 (Nat.le_refl _) with ⟨e, hn⟩ | ⟨i, r, e, ha, hk⟩
  · refine absurd ((at_one (a ++ c :: b) c a.length).mpr ?_) (hn a.length)
    simp
  · rw [e]
    have hi : i = a.length := by
      have h1 := (at_one _ c i).mp ha
      rcases Nat.lt_trichotomy i a.length with z | z | z
      · rw [List.getElem?_append_left z] at h1
        exact absurd (List.mem_of_getElem? h1) h
      · exact z
      · exact absurd ((at_one (a ++ c :: b) c a.length).mpr (by simp)) (hk a.length z)
    subst hi
    simp only
    rw [sub_st, sub_st, st_len, st_len]
    congr 2
    · simp
    · simp
      rw [List.take_of_length_le (by omega)]
def spl (c : Nat) : List Nat → List (List Nat)
  | [] => [[]]
  | d :: cs => if d = c then [] :: spl c cs else (match spl c cs with
    | p :: ps => (d :: p) :: ps
    | [] => [[d]])
theorem spl_none {c : Nat} : ∀ {cs : List Nat}, c ∉ cs → spl c cs = [cs]
  | [], _ => rfl
  | d :: cs, h => by
    have h1 : ¬ d = c := fun q => h (q ▸ List.mem_cons_self)
    have h2 := spl_none (c := c) (cs := cs) fun q => h (List.mem_cons_of_mem _ q)
    rw [spl, if_neg h1, h2]
theorem spl_app {c : Nat} : ∀ {a b : List Nat}, c ∉ a → spl c (a ++ c :: b) = a :: spl c b
  | [], b, _ => by rw [List.nil_append, spl, if_pos rfl]
  | d :: a, b, h => by
    have h1 : ¬ d = c := fun q => h (q ▸ List.mem_cons_self)
    have h2 := spl_app (c := c) (a := a) (b := b) fun q => h (List.mem_cons_of_mem _ q)
    rw [List.cons_append, spl, if_neg h1, h2]
theorem chain_spl (cs : List Nat) (c : Nat) : ∀ (cuts : List Nat) (a f : Nat), a ≤ cs.length → StrLaws.ChainG (st cs) (st [c]) (st cs).length a cuts f → (∀ k, f ≤ k → ¬ StrLaws.At (st cs) (st [c]) (st cs).length k) →
    StrLaws.partsFrom (st cs) 1 a cuts = (spl c (cs.drop a)).map st
  | [], a, f, ha, h, hn => by
    have e : f = a := h
    subst e
    have : c ∉ cs.drop f := fun hm => by
      obtain ⟨j, hj⟩ := List.getElem?_of_mem hm
      rw [List.getElem?_drop] at hj
      exact hn (f + j) (by omega) ((at_one cs c _).mpr hj)
    rw [spl_none this]
    show [Builtin.Str.strSub (st cs) f (st cs).length] = _
    rw [sub_st, st_len, List.take_of_length_le (by rw [List.length_drop]; omega)]
    rfl
  | d :: r, a, f, ha, h, hn => by
    obtain ⟨h1, h2, h3, h4⟩ := h
    have hd := (at_one cs c d).mp h2
    have hlt : d < cs.length := by
      rcases Nat.lt_or_ge d cs.length with z | z
      · exact z
      · rw [List.getElem?_eq_none z] at hd
        cases hd
    have ih := chain_spl cs c r (d + 1) f (by omega) (by rw [show (st [c]).length = 1 by rw [st_len]; rfl] at h4; exact h4) hn
    have e : cs.drop a = (cs.drop a).take (d - a) ++ c :: cs.drop (d + 1) := by
      conv => lhs; rw [← List.take_append_drop (d - a) (cs.drop a)]
      congr 1
      rw [List.drop_drop, show a + (d - a) = d by omega, List.drop_eq_getElem_cons hlt]
      rw [List.getElem?_eq_getElem hlt] at hd
      rw [Option.some.inj hd]
    have hnm : c ∉ (cs.drop a).take (d - a) := fun hm => by
      obtain ⟨j, hj⟩ := List.getElem?_of_mem hm
      have hj2 : j < d - a := by
        have := (List.getElem?_eq_some_iff.mp hj).1
        rw [List.length_take] at this
        omega
      rw [List.getElem?_take_of_lt hj2, List.getElem?_drop] at hj
      exact h3 (a + j) (by omega) (by omega) ((at_one cs c _).mpr hj)
    show Builtin.Str.strSub (st cs) a d :: StrLaws.partsFrom (st cs) 1 (d + 1) r = _
    rw [ih, sub_st, e, spl_app hnm, List.map_cons, ← e]
theorem kind_1 (x : Str) : ¬ Builtin.Str.strKind x < Builtin.Str.strKind (st [47]) := by
  have h1 : Builtin.Str.strKind (st [47]) = 1 := by decide +kernel
  rw [h1]
  unfold Builtin.Str.strKind
  split
  · omega
  · split <;> omega
theorem split_st (cs : List Nat) : Txt.split (st cs) (st [47]) = (spl 47 cs).map st := by
  obtain ⟨f, hc, hn⟩ := StrLaws.occ_tight (st cs) (st [47]) (by rw [st_len]; exact Nat.le_refl _)
  have key := chain_spl cs 47 _ 0 f (Nat.zero_le _) hc hn
  rw [List.drop_zero] at key
  unfold Txt.split
  by_cases h : (decide ((st cs).length < (st [47]).length) || decide (Builtin.Str.strKind (st cs) < Builtin.Str.strKind (st [47]))) = true
  · rw [if_pos h]
    have h1 : (st cs).length < (st [47]).length := by
      rcases Bool.or_eq_true_iff.mp h with z | z
      · exact of_decide_eq_true z
      · exact absurd (of_decide_eq_true z) (kind_1 _)
    rw [st_len, st_len] at h1
    have : cs = [] := List.eq_nil_of_length_eq_zero (by have : ([47] : List Nat).length = 1 := rfl; omega)
    subst this
    rfl
  · rw [if_neg h, ← key]
    cases q : Builtin.Str.occurrences (st cs) (st [47]) 0 (st cs).length ((st cs).length + 1) with
    | nil =>
      show [st cs] = [Builtin.Str.strSub (st cs) 0 (st cs).length]
      rw [sub_st, st_len, List.drop_zero, Nat.sub_zero, List.take_length]
    | cons a r =>
      rw [if_neg (by simp)]
      have e := StrLaws.zip_parts (st cs) 1 (a :: r) 0
      rw [← e]
      rfl
/-! ### decimal texts -/
def decL (n : Nat) : List Nat := if n < 10 then [48 + n] else decL (n / 10) ++ [48 + n % 10]
theorem decL_small {n : Nat} (h : n < 10) : decL n = [48 + n] := by rw [decL, if_pos h]
theorem decL_big {n : Nat} (h : 10 ≤ n) : decL n = decL (n / 10) ++ [48 + n % 10] := by rw [decL, if_neg (by omega)]
theorem dec_char : ∀ d : Nat, d < 10 → (Nat.digitChar d).toNat = 48 + d := by decide
theorem toDigits_dec (n : Nat) : (Nat.toDigits 10 n).map Char.toNat = decL n := by
  induction n using Nat.strongRecOn with
  | _ n ih =>
    by_cases h : n < 10
    · rw [Nat.toDigits_of_lt_base h, decL_small h]
      simp [dec_char n h]
    · rw [Nat.toDigits_of_base_le (by omega) (by omega), decL_big (by omega), List.map_append, ih (n / 10) (by omega)]
      simp [dec_char (n % 10) (by omega)]
def icL (i : Int) : List Nat := if i < 0 then 45 :: decL i.natAbs else decL i.natAbs
theorem str_nat (n : Nat) : Str.ofString (toString ((n : Nat) : Int)) = st (decL n) := by
  have := text_ofNat n
  rw [toDigits_dec] at this
  exact this
theorem str_int (i : Int) : Str.ofString (toString i) = st (icL i) := by
  unfold icL
  by_cases h : i < 0
  · rw [if_pos h, toString_neg h]
    obtain ⟨n, hn⟩ := Int.eq_ofNat_of_zero_le (show 0 ≤ 0 - i by omega)
    rw [hn]
    have e : i.natAbs = n := by omega
    rw [e]
    have : Str.ofString ("-" ++ toString ((n : Nat) : Int)) = Str.ofString "-" ++ Str.ofString (toString ((n : Nat) : Int)) := by
      rw [Str.ofString_eq_toList, Str.ofString_eq_toList, Str.ofString_eq_toList]
      show _ = (⟨_ ++ _⟩ : Str)
      simp
    rw [this, lit_minus, str_nat, st_app]
    rfl
  · rw [if_neg h]
    obtain ⟨n, rfl⟩ := Int.eq_ofNat_of_zero_le (show 0 ≤ i by omega)
    rw [str_nat, Int.natAbs_natCast]
theorem dec_all (n : Nat) : NumText.AllDigits (decL n) := by
  induction n using Nat.strongRecOn with
  | _ n ih =>
    intro c hc
    by_cases h : n < 10
    · rw [decL_small h] at hc
      have := List.mem_singleton.mp hc
      omega
    · rw [decL_big (by omega)] at hc
      rcases List.mem_append.mp hc with hc | hc
      · exact ih (n / 10) (by omega) c hc
      · have := List.mem_singleton.mp hc
        omega
theorem dec_val (n : Nat) : NumText.digitsVal (decL n) = n := by
  induction n using Nat.strongRecOn with
  | _ n ih =>
    by_cases h : n < 10
    · rw [decL_small h]
      show 0 * 10 + (48 + n - 48) = n
      omega
    · rw [decL_big (by omega), NumText.digitsVal_snoc, ih (n / 10) (by omega)]
      omega
theorem dec_ne (n : Nat) : decL n ≠ [] := by
  by_cases h : n < 10
  · rw [decL_small h]
    simp
  · rw [decL_big (by omega)]
    simp
/-- no zero ahead -/
theorem dec_head (n : Nat) (h : 0 < n) : ∃ c r, decL n = c :: r ∧ 49 ≤ c := by
  induction n using Nat.strongRecOn with
  | _ n ih =>
    by_cases h2 : n < 10
    · exact ⟨_, _, decL_small h2, by omega⟩
    · obtain ⟨c, r, e, hc⟩ := ih (n / 10) (by omega) (by omega)
      rw [decL_big (by omega), e]
      exact ⟨c, _, rfl, hc⟩
/-- digits without a zero ahead are the text of their number -/
def canon (cs : List Nat) : Bool := !cs.isEmpty && cs.all (fun c => decide (48 ≤ c) && decide (c ≤ 57)) && (decide (cs = [48]) || decide (cs.head? ≠ some 48))
theorem canon_dec (n : Nat) : canon (decL n) = true := by
  have h1 := dec_ne n
  have h2 : (decL n).all (fun c => decide (48 ≤ c) && decide (c ≤ 57)) = true := by
    rw [List.all_eq_true]
    intro c hc
    have := dec_all n c hc
    simp [this.1, this.2]
  unfold canon
  rw [h2]
  rcases Nat.eq_zero_or_pos n with z | z
  · subst z
    decide +kernel
  · obtain ⟨c, r, e, hc⟩ := dec_head n z
    rw [e]
    simp
    omega
theorem canon_val {cs : List Nat} (h : canon cs = true) : NumText.AllDigits cs ∧ cs ≠ [] ∧ cs = decL (NumText.digitsVal cs) := by
  unfold canon at h
  rw [Bool.and_eq_true, Bool.and_eq_true] at h
  obtain ⟨⟨h1, h2⟩, h3⟩ := h
  have ha : NumText.AllDigits cs := fun c hc => by
    have := List.all_eq_true.mp h2 c hc
    simpa using this
  have hne : cs ≠ [] := by
    intro z
    subst z
    cases h1
  refine ⟨ha, hne, ?_⟩
  have key : Nat.toDigits 10 (NumText.digitsVal cs) = cs.map Char.ofNat := by
    refine NumText.toDigits_digitsVal (cs.length - 1) cs ?_ ha ?_
    · have : cs.length ≠ 0 := fun z => hne (List.eq_nil_of_length_eq_zero z)
      omega
    · rw [Bool.or_eq_true] at h3
      rcases h3 with h3 | h3
      · left
        have := of_decide_eq_true h3
        rw [this]
        rfl
      · right
        cases cs with
        | nil => exact absurd rfl hne
        | cons c r =>
          refine ⟨c, r, rfl, ?_⟩
          have h4 := ha c List.mem_cons_self
          have h5 : c ≠ 48 := by
            intro z
            subst z
            simp at h3
          omega
  rw [← toDigits_dec, key, List.map_map]
  conv => lhs; rw [← List.map_id cs]
  refine List.map_congr_left fun c hc => ?_
  have := ha c hc
  have sm : ∀ c : Nat, c < 58 → (Char.ofNat c).toNat = c := by decide
  exact (sm c (by omega)).symm
end T


/-! text M4 -/
set_option maxHeartbeats 400000
set_option Elab.async false
set_option linter.all false
set_option maxRecDepth 100000
namespace K1
open PySem PySem.Spec PyProof.Rows L2 L2H DL T
open NumText (digitsVal AllDigits)

/-- a fraction's text -/
def wcs (r : Qn) : List Nat := if r.den = 1 then icL r.num else icL r.num ++ 47 :: decL r.den
def wholeC (cs : List Nat) : Option Int := if cs.head? = some 45 then (if cs = [45, 48] ∨ canon (cs.drop 1) = false then none else some (-((digitsVal (cs.drop 1) : Nat) : Int))) else if canon cs = true then some ((digitsVal cs : Nat) : Int) else none
/-- the fraction that a text's codes write -/
def ratioC (cs : List Nat) : Option Qn := match wholeC (cs.takeWhile (· != 47)) with
  | none => none
  | some t => if ¬ 47 ∈ cs then some (t : Qn) else (let tail := cs.drop ((cs.takeWhile (· != 47)).length + 1)
    if canon tail = false then none else if digitsVal tail < 2 ∨ Int.gcd t (digitsVal tail : Nat) ≠ 1 then none else some (mkRat t (digitsVal tail)))
theorem tw_none {cs : List Nat} (h : 47 ∉ cs) : cs.takeWhile (· != 47) = cs := by
  induction cs with
  | nil => rfl
  | cons c cs ih =>
    have h1 : c ≠ 47 := fun q => h (q ▸ List.mem_cons_self)
    rw [List.takeWhile_cons_of_pos (by simpa using h1), ih fun q => h (List.mem_cons_of_mem _ q)]
theorem tw_some {a b : List Nat} (h : 47 ∉ a) : (a ++ 47 :: b).takeWhile (· != 47) = a := by
  induction a with
  | nil => rfl
  | cons c cs ih =>
    have h1 : c ≠ 47 := fun q => h (q ▸ List.mem_cons_self)
    rw [List.cons_append, List.takeWhile_cons_of_pos (by simpa using h1), ih fun q => h (List.mem_cons_of_mem _ q)]
theorem cut_at : ∀ {cs : List Nat}, 47 ∈ cs → ∃ a b, cs = a ++ 47 :: b ∧ 47 ∉ a
  | [], h => (nomatch h)
  | c :: cs, h => by
    by_cases q : c = 47
    · subst q
      exact ⟨[], cs, rfl, by simp⟩
    · rcases List.mem_cons.mp h with h | h
      · exact absurd h.symm q
      · obtain ⟨a, b, e, n⟩ := cut_at h
        refine ⟨c :: a, b, by rw [e]; rfl, fun m => ?_⟩
        rcases List.mem_cons.mp m with m | m
        · exact q m.symm
        · exact n m
theorem ratio_none {cs : List Nat} (h : 47 ∉ cs) : ratioC cs = (wholeC cs).map fun t => (t : Qn) := by
  unfold ratioC
  rw [tw_none h]
  cases wholeC cs with
  | none => rfl
  | some t => simp [h]
theorem ratio_some {a b : List Nat} (h : 47 ∉ a) : ratioC (a ++ 47 :: b) = match wholeC a with
    | none => none
    | some t => if canon b = false then none else if digitsVal b < 2 ∨ Int.gcd t (digitsVal b : Nat) ≠ 1 then none else some (mkRat t (digitsVal b)) := by
  unfold ratioC
  rw [tw_some h]
  cases wholeC a with
  | none => rfl
  | some t =>
    have e : (a ++ 47 :: b).drop (a.length + 1) = b := by simp
    simp only [e]
    rw [if_neg (by simp)]
theorem no47 (n : Nat) : 47 ∉ decL n := fun h => by
  have := dec_all n 47 h
  omega
theorem no45 (n : Nat) : 45 ∉ decL n := fun h => by
  have := dec_all n 45 h
  omega
theorem no47i (i : Int) : 47 ∉ icL i := by
  unfold icL
  split
  · intro h
    rcases List.mem_cons.mp h with h | h
    · cases h
    · exact no47 _ h
  · exact no47 _
theorem head_dec (n : Nat) : (decL n).head? ≠ some 45 := fun h => no45 n (List.mem_of_mem_head? h)
theorem whole_ic (i : Int) : wholeC (icL i) = some i := by
  unfold icL wholeC
  by_cases h : i < 0
  · rw [if_pos h, if_pos (show (45 :: decL i.natAbs).head? = some 45 from rfl)]
    have h1 : decL i.natAbs ≠ [48] := fun q => by
      obtain ⟨c, r, e, hc⟩ := dec_head i.natAbs (by omega)
      rw [q] at e
      cases e
      omega
    have h2 := canon_dec i.natAbs
    rw [if_neg]
    · simp only [List.drop_succ_cons, List.drop_zero, dec_val]
      congr 1
      omega
    · rintro (q | q)
      · exact h1 (List.cons.inj q).2
      · simp only [List.drop_succ_cons, List.drop_zero, h2] at q
        cases q
  · rw [if_neg h, if_neg (head_dec _), if_pos (canon_dec _), dec_val]
    congr 1
    omega
theorem whole_eq {cs : List Nat} {t : Int} (h : wholeC cs = some t) : cs = icL t := by
  unfold wholeC at h
  by_cases h1 : cs.head? = some 45
  · rw [if_pos h1] at h
    obtain ⟨r, rfl⟩ : ∃ r, cs = 45 :: r := by
      cases cs with
      | nil => cases h1
      | cons c r =>
        have : c = 45 := by simpa using h1
        exact ⟨r, by rw [this]⟩
    split at h
    · cases h
    · rename_i h2
      simp only [List.drop_succ_cons, List.drop_zero, not_or, Bool.not_eq_false] at h2 h
      obtain ⟨h2, h3⟩ := h2
      obtain ⟨_, _, e⟩ := canon_val h3
      have ht := Option.some.inj h
      have hv : digitsVal r ≠ 0 := fun q => by
        rw [q] at e
        exact h2 (by rw [e, decL_small (by omega)])
      unfold icL
      rw [if_pos (by omega)]
      have : t.natAbs = digitsVal r := by omega
      rw [this, ← e]
  · rw [if_neg h1] at h
    split at h
    · rename_i h2
      obtain ⟨_, _, e⟩ := canon_val h2
      have ht := Option.some.inj h
      unfold icL
      rw [if_neg (by omega)]
      have : t.natAbs = digitsVal cs := by omega
      rw [this, ← e]
    · cases h
theorem den_int (t : Int) : ((t : Qn)).den = 1 ∧ ((t : Qn)).num = t := ⟨Rat.den_intCast t, Rat.num_intCast t⟩
theorem mk_red {t : Int} {b : Nat} (h0 : b ≠ 0) (h : Int.gcd t b = 1) : (mkRat t b).num = t ∧ (mkRat t b).den = b := by
  rw [Rat.num_mkRat, Rat.den_mkRat, if_neg h0, if_neg h0]
  have : b.gcd t.natAbs = 1 := by rw [Nat.gcd_comm]; exact h
  rw [this]
  simp
theorem ratio_w (r : Qn) : ratioC (wcs r) = some r := by
  unfold wcs
  by_cases h : r.den = 1
  · rw [if_pos h, ratio_none (no47i _), whole_ic]
    show some ((r.num : Int) : Qn) = some r
    congr 1
    refine Rat.ext ?_ ?_
    · exact (den_int r.num).2
    · rw [h]
      exact (den_int r.num).1
  · rw [if_neg h, ratio_some (no47i _), whole_ic]
    have hd := den_pos r
    have hg : Int.gcd r.num (r.den : Nat) = 1 := r.reduced
    simp only [canon_dec, dec_val]
    rw [if_neg (by simp), if_neg (fun q => q.elim (fun z => by omega) (fun z => z hg)), Rat.mkRat_self]
theorem ratio_eq {cs : List Nat} {r : Qn} (h : ratioC cs = some r) : cs = wcs r := by
  by_cases q : 47 ∈ cs
  · obtain ⟨a, b, rfl, n⟩ := cut_at q
    rw [ratio_some n] at h
    cases hw : wholeC a with
    | none => rw [hw] at h; cases h
    | some t =>
      rw [hw] at h
      simp only at h
      split at h
      · cases h
      · rename_i hc
        split at h
        · cases h
        · rename_i hv
          rw [not_or] at hv
          obtain ⟨h2, h3⟩ := hv
          have hg : Int.gcd t (digitsVal b : Nat) = 1 := Decidable.of_not_not h3
          obtain ⟨m1, m2⟩ := mk_red (by omega) hg
          rw [← Option.some.inj h]
          unfold wcs
          rw [m1, m2, if_neg (by omega), ← whole_eq hw]
          congr 2
          exact (canon_val (by simpa using hc)).2.2
  · rw [ratio_none q] at h
    cases hw : wholeC cs with
    | none => rw [hw] at h; cases h
    | some t =>
      rw [hw] at h
      have := Option.some.inj h
      rw [← this]
      unfold wcs
      rw [(den_int t).1, (den_int t).2, if_pos rfl]
      exact whole_eq hw
/-- how the law reads a text -/
def lawU (cs : List Nat) : Option Qn :=
  let ps := spl 47 (if cs.head? = some 45 then cs.drop 1 else cs)
  if ps.all (fun p => !p.isEmpty && p.all (fun c => decide (48 ≤ c) && decide (c ≤ 57))) = false then none else
  if 2 < ps.length ∨ (ps.length = 2 ∧ digitsVal (ps.getD 1 []) = 0) then none else
  let u := mkRat ((digitsVal (ps.getD 0 []) : Nat) : Int) (if ps.length = 2 then digitsVal (ps.getD 1 []) else 1)
  some (if cs.head? = some 45 then -u else u)
def lawC (cs : List Nat) : Option Qn := (lawU cs).bind fun u => if wcs u = cs then some u else none
theorem all_dec (n : Nat) : ((decL n).all fun c => decide (48 ≤ c) && decide (c ≤ 57)) = true := by
  rw [List.all_eq_true]
  intro c hc
  have := dec_all n c hc
  simp [this.1, this.2]
theorem emp_dec (n : Nat) : (decL n).isEmpty = false := by
  have := dec_ne n
  cases h : decL n with
  | nil => exact absurd h this
  | cons => rfl
theorem head_w (r : Qn) : ((wcs r).head? = some 45) ↔ r.num < 0 := by
  have key : ∀ l, ((icL r.num ++ l).head? = some 45) ↔ r.num < 0 := by
    intro l
    unfold icL
    by_cases h : r.num < 0
    · rw [if_pos h]
      simp [h]
    · rw [if_neg h]
      have h1 := dec_ne r.num.natAbs
      have h2 := head_dec r.num.natAbs
      cases q : decL r.num.natAbs with
      | nil => exact absurd q h1
      | cons c t =>
        rw [q] at h2
        simp only [List.cons_append, List.head?_cons, Option.some.injEq] at h2 ⊢
        constructor
        · intro z
          exact absurd (congrArg some z) (by simpa using h2)
        · intro z
          exact absurd z h
  unfold wcs
  by_cases h : r.den = 1
  · rw [if_pos h]
    have := key []
    rwa [List.append_nil] at this
  · rw [if_neg h]
    exact key _
theorem body_w (r : Qn) : (if (wcs r).head? = some 45 then (wcs r).drop 1 else wcs r) = if r.den = 1 then decL r.num.natAbs else decL r.num.natAbs ++ 47 :: decL r.den := by
  by_cases h : r.num < 0
  · rw [if_pos ((head_w r).mpr h)]
    unfold wcs icL
    rw [if_pos h]
    split <;> rfl
  · rw [if_neg (fun q => h ((head_w r).mp q))]
    unfold wcs icL
    rw [if_neg h]
theorem law_u (r : Qn) : lawU (wcs r) = some r := by
  unfold lawU
  rw [body_w]
  have hd := den_pos r
  have fin : (if r.num < 0 then -mkRat ((r.num.natAbs : Nat) : Int) r.den else mkRat ((r.num.natAbs : Nat) : Int) r.den) = r := by
    by_cases h : r.num < 0
    · rw [if_pos h, Rat.neg_mkRat, show -((r.num.natAbs : Nat) : Int) = r.num by omega, Rat.mkRat_self]
    · rw [if_neg h, show ((r.num.natAbs : Nat) : Int) = r.num by omega, Rat.mkRat_self]
  have hh : (if (wcs r).head? = some 45 then -mkRat ((r.num.natAbs : Nat) : Int) r.den else mkRat ((r.num.natAbs : Nat) : Int) r.den) = r := by
    by_cases h : r.num < 0
    · rw [if_pos h] at fin
      rw [if_pos ((head_w r).mpr h)]
      exact fin
    · rw [if_neg h] at fin
      rw [if_neg (fun q => h ((head_w r).mp q))]
      exact fin
  by_cases h : r.den = 1
  · rw [if_pos h, spl_none (no47 _)]
    simp only [List.all_cons, List.all_nil, all_dec, emp_dec, List.length_singleton, List.getD_cons_zero, dec_val]
    rw [h] at hh
    simp [hh]
  · rw [if_neg h, spl_app (no47 _), spl_none (no47 _)]
    simp only [List.all_cons, List.all_nil, all_dec, emp_dec, List.length_cons, List.length_nil, List.getD_cons_zero, List.getD_cons_succ, dec_val]
    simp [hh]
    omega
theorem law_w (r : Qn) : lawC (wcs r) = some r := by
  unfold lawC
  rw [law_u, Option.bind_some, if_pos rfl]
theorem law_ratio (cs : List Nat) : lawC cs = ratioC cs := by
  cases h : lawC cs with
  | some u =>
    obtain ⟨v, _, hv⟩ := Option.bind_eq_some_iff.mp h
    by_cases q : wcs v = cs
    · rw [if_pos q] at hv
      have := Option.some.inj hv
      rw [← q, ratio_w, this]
    · rw [if_neg q] at hv
      cases hv
  | none =>
    cases q : ratioC cs with
    | none => rfl
    | some r =>
      have e := ratio_eq q
      rw [e, law_w] at h
      cases h
theorem dec_ndig (n : Nat) : (decL n).length = ndig n := by
  induction n using Nat.strongRecOn with
  | _ n ih =>
    by_cases h : n < 10
    · rw [decL_small h, ndig, if_pos h]
      rfl
    · rw [decL_big (by omega), ndig, if_neg h, List.length_append, ih (n / 10) (by omega)]
      rfl
end K1


/-! text S2 -/
set_option maxHeartbeats 400000
set_option Elab.async false
set_option linter.all false
set_option maxRecDepth 100000
namespace K1
open PySem PySem.Spec PyProof.Rows L2 L2H DL T
open NumText (digitsVal AllDigits)

def frac : D → Option Qn
  | .int i => some (i : Qn)
  | .str x => ratioC x.cps.toList
  | .tuple [.int a, .int b] => if 1 ≤ b then some (mkRat a b.toNat) else none
  | _ => none
def optD : Option Qn → D
  | none => .none
  | some r => dr r
def optI : Option Int → D
  | none => .none
  | some t => .int t
/-- an item whose size is in hand -/
def FrOk : D → Prop
  | .str x => x.length ≤ 400 ∧ PyData.strOk x = true
  | .tuple [.int _, .int b] => b.natAbs < 2 ^ 8000
  | _ => True
def isRow : D → Bool
  | .list _ => true
  | .tuple _ => true
  | _ => false
def isWh : D → Bool
  | .int _ => true
  | _ => false
/-- how many digits a fraction has -/
def dig (r : Qn) : Nat := max (ndig r.num.natAbs) (ndig r.den)
def firstBig : List Qn → Option Nat
  | [] => none
  | r :: rs => if 60 < dig r then some (dig r) else firstBig rs
/-- what a wrong item of whole counts is -/
def badC (d : D) : Bool := match frac d with
  | none => true
  | some q => decide (q.num < 0)
def badT (d : D) : Bool := match frac d with
  | none => true
  | some q => decide (q.num < 0)
def frs (ds : List D) : List Qn := ds.map fun d => (frac d).getD 0
def tabOf (one : D) : Option (List Qn) := match seqOf one with
  | none => none
  | some ds => if ds.any badT = false ∧ sumQ (frs ds) = 1 then some (frs ds) else none
def badAt (two : D) (n : Nat) : Option Int := match seqOf two with
  | none => some (-1)
  | some ds => if ds.length ≠ n then some (-1) else (ds.findIdx? badC).map fun i => (i : Int)
def cntOf (two : D) : List Qn := match seqOf two with
  | none => []
  | some ds => frs ds
inductive Out where
  | told (i : Int)
  | badT
  | badC (i : Int)
  | many (what : Str) (n : Nat)
/-- what fits_better answers -/
def fitOut (one two three : D) : Out := match tabOf one with
  | none => .badT
  | some ls => match tabOf two with
    | none => .badT
    | some rs => if rs.length ≠ ls.length then .badT else match badAt three ls.length with
      | some i => .badC i
      | none => if 32 < ls.length then .many "cells" ls.length else match firstBig ls with
        | some m => .many "digits" m
        | none => match firstBig rs with
          | some m => .many "digits" m
          | none => match firstBig (cntOf three) with
            | some m => .many "digits" m
            | none => if 2000 < (mulL (cntOf three)).sum then .many "total" (mulL (cntOf three)).sum else .told (cmpQ ls rs (mulL (cntOf three)))
def CntOk (d : D) : Prop := ∀ ds, seqOf d = some ds → ∀ x ∈ ds, ∀ r, frac x = some r → r.den ∣ 420
structure RowOk (d : D) : Prop where
  len : ∀ ds, seqOf d = some ds → ds.length ≤ 40
  ok : ∀ ds, seqOf d = some ds → ∀ x ∈ ds, FrOk x ∧ ∀ r, frac x = some r → Sz 210 r
section
variable (K : PySem.W.Frag)
def exT (w : Str) : Ex := ⟨He.ga K "BadTable", [("why", .str w)]⟩
def exC (i : Int) (w : Str) : Ex := ⟨He.ga K "BadCounts", [("why", .str w), ("at", .int i)]⟩
def exM (what : Str) (n : Nat) : Ex := ⟨He.ga K "TooMany", [("count", .int (n : Nat)), ("what", .str what)]⟩
end
def sp_only_of : DSp := fun ags Q _ => ∃ cs ds : List Nat, ags = [.im (.str (st cs)), .im (.str (st ds))] ∧ Q (.im (.bool (cs.all fun c => ds.contains c))) []
def sp_is_digits : DSp := fun ags Q _ => ∃ cs : List Nat, ags = [.im (.str (st cs))] ∧ cs.length ≤ 1000 ∧ Q (.im (.bool (canon cs))) []
def sp_value_of_digits : DSp := fun ags Q _ => ∃ cs : List Nat, ags = [.im (.str (st cs))] ∧ cs.length ≤ 1000 ∧ AllDigits cs ∧ Q (.im (.int (digitsVal cs : Nat))) []
def sp_whole_of : DSp := fun ags Q _ => ∃ cs : List Nat, ags = [.im (.str (st cs))] ∧ cs.length ≤ 900 ∧ Q (.im (optI (wholeC cs))) []
def sp_ratio_of : DSp := fun ags Q _ => ∃ cs : List Nat, ags = [.im (.str (st cs))] ∧ cs.length ≤ 800 ∧ Q (.im (optD (ratioC cs))) []
def sp_is_row : DSp := fun ags Q _ => ∃ d : D, ags = [.im d] ∧ Q (.im (.bool (isRow d))) []
def sp_is_whole : DSp := fun ags Q _ => ∃ d : D, ags = [.im d] ∧ Q (.im (.bool (isWh d))) []
def sp_fraction_of : DSp := fun ags Q _ => ∃ d : D, ags = [.im d] ∧ FrOk d ∧ Q (.im (optD (frac d))) []
def sp_ask_digits (K : PySem.W.Frag) : DSp := fun ags Q E => ∃ rs : List Qn, ags = [.im (.list (rs.map dr))] ∧ (∀ r ∈ rs, Sz 4000 r) ∧ (match firstBig rs with
  | none => Q (.im .none) []
  | some m => E (exM K "digits" m) [])
def sp_counts_among (K : PySem.W.Frag) : DSp := fun ags Q E => ∃ ds : List D, ags = [.im (.list ds), .im (.bool false), .im (.bool false)] ∧ ds.length ≤ 1000 ∧ (∀ d ∈ ds, FrOk d) ∧ (match ds.findIdx? badC with
  | none => Q (.ow (ds.map fun d => optD (frac d))) []
  | some i => ∀ w, w ≠ Str.empty → E (exC K (i : Nat) w) [])
def sp_table_among (K : PySem.W.Frag) : DSp := fun ags Q E => ∃ ds : List D, ags = [.im (.list ds), .im (.bool true)] ∧ ds.length ≤ 40 ∧ (∀ d ∈ ds, FrOk d ∧ ∀ r, frac d = some r → Sz 210 r) ∧
  (if ds.any badT = false ∧ sumQ (frs ds) = 1 then Q (.im (.list ((frs ds).map dr))) [] else ∀ w, w ≠ Str.empty → E (exT K w) [])
def sp_bare_table (K : PySem.W.Frag) : DSp := fun ags Q E => ∃ d : D, ags = [.im d] ∧ RowOk d ∧ (match tabOf d with
  | some rs => Q (.im (.list (rs.map dr))) []
  | none => ∀ w, w ≠ Str.empty → E (exT K w) [])
def sp_bare_counts (K : PySem.W.Frag) : DSp := fun ags Q E => ∃ (d : D) (n : Nat), ags = [.im d, .im (.int (n : Nat)), .im (.bool false)] ∧ RowOk d ∧ (match badAt d n with
  | none => Q (.ow ((cntOf d).map dr)) []
  | some i => ∀ w, w ≠ Str.empty → E (exC K i w) [])
def sp_ask_cells (K : PySem.W.Frag) : DSp := fun ags Q E => ∃ n : Nat, ags = [.im (.int (n : Nat))] ∧ (if 32 < n then E (exM K "cells" n) [] else Q (.im .none) [])
def sp_ask_total (K : PySem.W.Frag) : DSp := fun ags Q E => ∃ n : Nat, ags = [.im (.int (n : Nat))] ∧ (if 2000 < n then E (exM K "total" n) [] else Q (.im .none) [])
def sp_fits_better (K : PySem.W.Frag) : DSp := fun ags Q E => ∃ one two three : D, ags = [.im one, .im two, .im three] ∧ RowOk one ∧ RowOk two ∧ RowOk three ∧ CntOk three ∧ (match fitOut one two three with
  | .told i => Q (.im (.int i)) []
  | .badT => ∀ w, w ≠ Str.empty → E (exT K w) []
  | .badC i => ∀ w, w ≠ Str.empty → E (exC K i w) []
  | .many what n => E (exM K what n) [])
end K1


/-! text S3 -/
set_option maxHeartbeats 400000
set_option Elab.async false
set_option linter.all false
set_option maxRecDepth 100000
namespace K1
open PySem PySem.Spec PyProof.Rows L2 L2H DL T
open NumText (digitsVal AllDigits)

/-- a jar of which at most c numbers were drawn -/
def JarOk (c : Nat) (ds : List D) : Prop := ∃ (cells : List Int) (p g left mixed cnt : Int), ds = [.list (cells.map .int), .int p, .int g, .int left, .int mixed, .int cnt] ∧ cells.length ≤ 63 ∧
  0 ≤ p ∧ 0 ≤ g ∧ 0 ≤ mixed ∧ mixed < 2147483647 ∧ 0 ≤ cnt ∧ cnt ≤ c
/-- an item as it may stand in a row -/
def It : D → Prop
  | .int i => i.natAbs < 2 ^ 208
  | .str x => x.length ≤ 130 ∧ PyData.strOk x = true ∧ ∀ r, ratioC x.cps.toList = some r → Sz 210 r
  | .tuple [.int a, .int b] => a.natAbs < 2 ^ 208 ∧ b.natAbs < 2 ^ 208
  | .bool _ => True
  | .none => True
  | .list [.int i] => i = 1
  | _ => False
def LikeOk : Nat → D → Prop
  | 0, _ => False
  | _ + 1, .bool _ => True
  | _ + 1, .int _ => True
  | _ + 1, .str _ => True
  | _ + 1, .none => True
  | n + 1, .tuple ds => ds.length < 1000 ∧ ∀ x ∈ ds, LikeOk n x
  | n + 1, .list ds => ds.length < 1000 ∧ ∀ x ∈ ds, LikeOk n x
  | _ + 1, .dict _ => False
def menuS : List D := [.bool true, .none, .int (-1), .tuple [.int (-1), .int 2], .str "01", .str "2/4", .list [.int 1], .tuple [.int 0, .int 3], .str "-1", .tuple [.int 1, .int 0]]
def menuR : List D := [.none, .str "1", .dict [], .int 1, .bool true]
/-- a row whose items are P, or one of some other things -/
def SpD (P : D → Prop) (n : Nat) (d : D) : Prop := (∃ ds, (d = .list ds ∨ d = .tuple ds) ∧ ds.length ≤ n ∧ ∀ x ∈ ds, P x) ∨ d ∈ menuR
def dueD : Out → D
  | .told i => .tuple [.str "told", .int i]
  | .badT => .tuple [.str "BadTable", .int 0, .bool true]
  | .badC i => .tuple [.str "BadCounts", .int i, .bool true]
  | .many what n => .tuple [.str (Str.ofString "TooMany " ++ what), .int (n : Nat), .bool true]
structure TriOk (one two three : D) : Prop where
  o : RowOk one
  t : RowOk two
  h : RowOk three
  c : CntOk three
  l : ∀ rs, tabOf one = some rs → rs.length ≤ 32
def sp_law_jar : DSp := fun ags Q _ => ∃ xs : List Int, ags = [.im (.list (xs.map .int))] ∧ xs.length ≤ 63 ∧ ∀ jar, JarOk 0 jar → Q (.ow jar) []
def sp_law_draw : DSp := fun ags Q _ => ∃ (c : Nat) (jar : List D) (many : Int), ags = [.mt jar, .im (.int many)] ∧ JarOk c jar ∧ c < 2 ^ 40 ∧ 0 < many ∧ many < 2 ^ 60 ∧ ∀ d jar', 0 ≤ d → d < many → JarOk (c + 1) jar' → Q (.im (.int d)) [jar']
def sp_law_pick : DSp := fun ags Q _ => ∃ (c : Nat) (jar : List D) (menu : List D), ags = [.mt jar, .im (.list menu)] ∧ JarOk c jar ∧ c < 2 ^ 39 ∧ menu ≠ [] ∧ menu.length < 1000 ∧ ∀ x ∈ menu, ∀ jar', JarOk (c + 1) jar' → Q (.im x) [jar']
def sp_law_great : DSp := fun ags Q _ => ∃ (c : Nat) (jar : List D) (n : Int), ags = [.mt jar, .im (.int n)] ∧ JarOk c jar ∧ c < 2 ^ 39 ∧ 1 ≤ n ∧ n ≤ 100 ∧ ∀ (k : Int) jar', 0 < k → k.natAbs < 10 ^ n.toNat → JarOk (c + 100) jar' → Q (.im (.int k)) [jar']
def sp_law_word : DSp := fun ags Q _ => ∃ r : Qn, ags = [.im (dr r)] ∧ Sz 1900 r ∧ Q (.im (.str (st (wcs r)))) []
def sp_law_whole : DSp := fun ags Q _ => ∃ d : D, ags = [.im d] ∧ Q (.im (.bool (isWh d))) []
def sp_law_like (n : Nat) : DSp := fun ags Q _ => ∃ d : D, ags = [.im d, .im d] ∧ LikeOk n d ∧ Q (.im (.bool true)) []
def sp_law_way : DSp := fun ags Q _ => ∃ (c : Nat) (jar : List D) (r : Qn), ags = [.mt jar, .im (dr r)] ∧ JarOk c jar ∧ c < 2 ^ 39 ∧ Sz 204 r ∧ (wcs r).length ≤ 130 ∧ ∀ d jar', It d → frac d = some r → JarOk (c + 2) jar' → Q (.im d) [jar']
def sp_law_ways : DSp := fun ags Q _ => ∃ (c : Nat) (jar : List D) (rs : List Qn), ags = [.mt jar, .im (.list (rs.map dr))] ∧ JarOk c jar ∧ c < 2 ^ 38 ∧ rs.length ≤ 40 ∧ (∀ r ∈ rs, Sz 204 r ∧ (wcs r).length ≤ 130) ∧
  ∀ (ws : List D) (rv : Rv) jar', ws.length = rs.length → (∀ w ∈ ws, It w ∧ ∃ r ∈ rs, frac w = some r) → (rv = .ow ws ∨ rv = .im (.tuple ws)) → JarOk (c + 100) jar' → Q rv [jar']
def sp_law_said : DSp := fun ags Q _ => ∃ w : Str, ags = [.im (.str w)] ∧ w ≠ Str.empty ∧ Q (.im (.bool true)) []
def sp_law_read : DSp := fun ags Q _ => ∃ cs : List Nat, ags = [.im (.str (st cs))] ∧ cs.length ≤ 400 ∧ (∀ c ∈ cs, c < 0x110000) ∧ Q (.im (optD (ratioC cs))) []
def sp_law_fraction : DSp := fun ags Q _ => ∃ d : D, ags = [.im d] ∧ FrOk d ∧ Q (.im (optD (frac d))) []
def sp_law_shares : DSp := fun ags Q _ => ∃ (c : Nat) (jar : List D) (n : Nat), ags = [.mt jar, .im (.int (n : Nat))] ∧ JarOk c jar ∧ c < 2 ^ 38 ∧ 1 ≤ n ∧ n ≤ 33 ∧
  ∀ (rs : List Qn) jar', rs.length = n → (∀ r ∈ rs, 0 ≤ r.num ∧ r.num ≤ 9 ∧ r.den ≤ 1000) → JarOk (c + 100) jar' → Q (.ow (rs.map dr)) [jar']
def sp_law_bad_table : DSp := fun ags Q _ => ∃ d : D, ags = [.im d] ∧ RowOk d ∧ Q (.im (.bool (tabOf d).isNone)) []
def sp_law_bad_count : DSp := fun ags Q _ => ∃ (d : D) (n : Nat), ags = [.im d, .im (.int (n : Nat))] ∧ RowOk d ∧ n ≤ 1000 ∧ Q (.im (optI (badAt d n))) []
def sp_law_due : DSp := fun ags Q _ => ∃ one two three : D, ags = [.im one, .im two, .im three] ∧ TriOk one two three ∧ Q (.im (dueD (fitOut one two three))) []
/-- how the three errors stand to one another -/
structure ClsOk (K : PySem.W.Frag) : Prop where
  tt : PySem.W.exmOne K (.ref (He.ga K "BadTable")) (.ref (He.ga K "BadTable")) = some true
  ct : PySem.W.exmOne K (.ref (He.ga K "BadCounts")) (.ref (He.ga K "BadTable")) = some false
  cc : PySem.W.exmOne K (.ref (He.ga K "BadCounts")) (.ref (He.ga K "BadCounts")) = some true
  mt : PySem.W.exmOne K (.ref (He.ga K "TooMany")) (.ref (He.ga K "BadTable")) = some false
  mc : PySem.W.exmOne K (.ref (He.ga K "TooMany")) (.ref (He.ga K "BadCounts")) = some false
  mm : PySem.W.exmOne K (.ref (He.ga K "TooMany")) (.ref (He.ga K "TooMany")) = some true
  t2 : PySem.W.kitAny K (.ref (He.ga K "BadTable")) [.ref (He.ga K "BadCounts"), .ref (He.ga K "TooMany")] = some false
  c2 : PySem.W.kitAny K (.ref (He.ga K "BadCounts")) [.ref (He.ga K "BadTable"), .ref (He.ga K "TooMany")] = some false
  m2 : PySem.W.kitAny K (.ref (He.ga K "TooMany")) [.ref (He.ga K "BadTable"), .ref (He.ga K "BadCounts")] = some false
def sp_law_ask (K : PySem.W.Frag) : DSp := fun ags Q _ => ∃ (c : Nat) (jar : List D) (one two three : D), ags = [.mt jar, .im one, .im two, .im three] ∧ ClsOk K ∧ JarOk c jar ∧ c < 2 ^ 38 ∧ RowOk one ∧ RowOk two ∧ RowOk three ∧ CntOk three ∧ ∀ jar', JarOk (c + 1) jar' → Q (.im (dueD (fitOut one two three))) [jar']
def sp_law_powers : DSp := fun ags Q _ => ∃ (c : Nat) (jar : List D) (n : Nat), ags = [.mt jar, .im (.int (n : Nat))] ∧ JarOk c jar ∧ c < 2 ^ 37 ∧ 1 ≤ n ∧ n ≤ 33 ∧
  ∀ (rs : List Qn) jar', rs.length = n → (∀ r ∈ rs, r.num.natAbs < 10 ^ 61 ∧ r.den ≤ 7) → JarOk (c + 4000) jar' → Q (.ow (rs.map dr)) [jar']
def sp_law_spoilt : DSp := fun ags Q _ => ∃ (c : Nat) (jar : List D) (one : D) (ds : List D) (P : D → Prop), ags = [.mt jar, .im one] ∧ seqOf one = some ds ∧ JarOk c jar ∧ c < 2 ^ 38 ∧ 1 ≤ ds.length ∧ ds.length ≤ 40 ∧ (∀ x ∈ ds, P x) ∧ (∀ x ∈ menuS, P x) ∧ P (.int 0) ∧
  ∀ rv jar', SpD P (ds.length + 1) rv.dat → JarOk (c + 3) jar' → Q rv [jar']
def sp_law (K : PySem.W.Frag) : DSp := fun ags Q _ => ∃ xs : List Int, ags = [.im (.list (xs.map .int))] ∧ ClsOk K ∧ xs.length ≤ 63 ∧ Q (.im (.bool true)) []
end K1


/-! text R1 -/
set_option Elab.async false
set_option linter.all false
set_option maxRecDepth 100000
set_option maxHeartbeats 0

namespace K1
open PySem PySem.Spec PyProof.Rows L2 L2H DL

def t_made_q : TSd :=
  dSeq (dIf (dB (dBin rLt (dV 1) (dC (.int 0))))
  (dSeq (dAsg (dEm (dNeg (dV 0))) 0)
  (dAsg (dEm (dNeg (dV 1))) 1))
  (dNext))
  (dSeq (dAsg (dEm (dCB rGcdD (dCons (dV 0) (dCons (dV 1) (dNil))))) 2)
  (dSeq (dIf (dB (dBin rEq (dV 2) (dC (.int 1))))
  (dRet (dEm (dTup (dCons (dV 0) (dCons (dV 1) (dNil))))))
  (dNext))
  (dRet (dEm (dTup (dCons (dBin rDiv (dV 0) (dV 2)) (dCons (dBin rDiv (dV 1) (dV 2)) (dNil))))))))
theorem r_made_q {P : Program} {w : World} {K : PySem.W.Frag} {mg : Str → Option Value} {base : Heap} {H0 : Hp} {R0 : Rg} {B : List (Nat × Addr)} {W : WX} {k : Nat} {f : Addr} {cdv : Value} {A : Around} {outer : List Env} {s : Shared} {H : Hp} {E : XK} (g : Gls P w K mg base) (C : Cq (cxOf (L2N.CX P w) P w K mg base N_made_q "made_q" s_made_q f cdv A outer s H E) W 0)    :
    DSs ⟨K, H0, R0, B⟩ W (cxOf (L2N.CX P w) P w K mg base N_made_q "made_q" s_made_q f cdv A outer s H E) b_made_q (t_made_q) :=
  dss_cons (ds_if (dt_cmp od_lt (di_v (pv 1)) (di_int) rfl)
  (dss_cons (ds_set (i := 0) sc_made_q.nd rfl (by first | exact Or.inl rfl | exact Or.inr rfl) (de_di (di_neg (di_v (pv 0)))))
  (dss_one (ds_set (i := 1) sc_made_q.nd rfl (by first | exact Or.inl rfl | exact Or.inr rfl) (de_di (di_neg (di_v (pv 1)))))))
  (dss_nil))
  (dss_cons (ds_set (i := 2) sc_made_q.nd rfl (by first | exact Or.inl rfl | exact Or.inr rfl) (de_di (di_cf cd_gcd g.gcd (da_cons (di_v (pv 0)) (da_cons (di_v (pv 1)) (da_nil))))))
  (dss_cons (ds_if (dt_cmp (od_eq C.hu rfl) (di_v (pv 2)) (di_int) rfl)
  (dss_one (ds_ret (de_di (di_tup (da_cons (di_v (pv 0)) (da_cons (di_v (pv 1)) (da_nil)))))))
  (dss_nil))
  (dss_one (ds_ret (de_di (di_tup (da_cons (di_op od_div (di_v (pv 0)) (di_v (pv 2))) (da_cons (di_op od_div (di_v (pv 1)) (di_v (pv 2))) (da_nil)))))))))

def t_add_q : TSd :=
  dSeq (dIf (dB (dBin rEq (dIx (dV 0) (dC (.int 1))) (dIx (dV 1) (dC (.int 1)))))
  (dSeq (dIf (dB (dBin rEq (dIx (dV 0) (dC (.int 1))) (dC (.int 1))))
  (dRet (dEm (dTup (dCons (dBin rAdd (dIx (dV 0) (dC (.int 0))) (dIx (dV 1) (dC (.int 0)))) (dCons (dC (.int 1)) (dNil))))))
  (dNext))
  (dRet (dCall sp_made_q (mCons (dBin rAdd (dIx (dV 0) (dC (.int 0))) (dIx (dV 1) (dC (.int 0)))) (mCons (dIx (dV 0) (dC (.int 1))) (mNil))))))
  (dNext))
  (dRet (dCall sp_made_q (mCons (dBin rAdd (dBin rMul (dIx (dV 0) (dC (.int 0))) (dIx (dV 1) (dC (.int 1)))) (dBin rMul (dIx (dV 1) (dC (.int 0))) (dIx (dV 0) (dC (.int 1))))) (mCons (dBin rMul (dIx (dV 0) (dC (.int 1))) (dIx (dV 1) (dC (.int 1)))) (mNil)))))
theorem r_add_q {P : Program} {w : World} {K : PySem.W.Frag} {mg : Str → Option Value} {base : Heap} {H0 : Hp} {R0 : Rg} {B : List (Nat × Addr)} {W : WX} {k : Nat} {f : Addr} {cdv : Value} {A : Around} {outer : List Env} {s : Shared} {H : Hp} {E : XK} (g : Gls P w K mg base) (C : Cq (cxOf (L2N.CX P w) P w K mg base N_add_q "add_q" s_add_q f cdv A outer s H E) W 1) (c_made_q : Dg P w K mg base "made_q" 1 ["top", "bottom"] sp_made_q)   :
    DSs ⟨K, H0, R0, B⟩ W (cxOf (L2N.CX P w) P w K mg base N_add_q "add_q" s_add_q f cdv A outer s H E) b_add_q (t_add_q) :=
  dss_cons (ds_if (dt_cmp (od_eq C.hu rfl) (di_ix rfl (di_v (pv 0)) (di_int)) (di_ix rfl (di_v (pv 1)) (di_int)) rfl)
  (dss_cons (ds_if (dt_cmp (od_eq C.hu rfl) (di_ix rfl (di_v (pv 0)) (di_int)) (di_int) rfl)
  (dss_one (ds_ret (de_di (di_tup (da_cons (di_op od_add (di_ix rfl (di_v (pv 0)) (di_int)) (di_ix rfl (di_v (pv 1)) (di_int))) (da_cons (di_int) (da_nil)))))))
  (dss_nil))
  (dss_one (ds_ret (de_call rfl (c_made_q.up (by omega)) C.hr C.gd C.tk (dm_cons (di_op od_add (di_ix rfl (di_v (pv 0)) (di_int)) (di_ix rfl (di_v (pv 1)) (di_int))) (dm_cons (di_ix rfl (di_v (pv 0)) (di_int)) (dm_nil)))))))
  (dss_nil))
  (dss_one (ds_ret (de_call rfl (c_made_q.up (by omega)) C.hr C.gd C.tk (dm_cons (di_op od_add (di_op od_mul (di_ix rfl (di_v (pv 0)) (di_int)) (di_ix rfl (di_v (pv 1)) (di_int))) (di_op od_mul (di_ix rfl (di_v (pv 1)) (di_int)) (di_ix rfl (di_v (pv 0)) (di_int)))) (dm_cons (di_op od_mul (di_ix rfl (di_v (pv 0)) (di_int)) (di_ix rfl (di_v (pv 1)) (di_int))) (dm_nil))))))

def t_times_q : TSd :=
  dSeq (dIf (dAnd (dB (dBin rEq (dIx (dV 0) (dC (.int 1))) (dC (.int 1)))) (dB (dBin rEq (dIx (dV 1) (dC (.int 1))) (dC (.int 1)))))
  (dRet (dEm (dTup (dCons (dBin rMul (dIx (dV 0) (dC (.int 0))) (dIx (dV 1) (dC (.int 0)))) (dCons (dC (.int 1)) (dNil))))))
  (dNext))
  (dSeq (dAsg (dEm (dCB rGcdD (dCons (dIx (dV 0) (dC (.int 0))) (dCons (dIx (dV 1) (dC (.int 1))) (dNil))))) 2)
  (dSeq (dAsg (dEm (dCB rGcdD (dCons (dIx (dV 1) (dC (.int 0))) (dCons (dIx (dV 0) (dC (.int 1))) (dNil))))) 3)
  (dRet (dEm (dTup (dCons (dBin rMul (dBin rDiv (dIx (dV 0) (dC (.int 0))) (dV 2)) (dBin rDiv (dIx (dV 1) (dC (.int 0))) (dV 3))) (dCons (dBin rMul (dBin rDiv (dIx (dV 0) (dC (.int 1))) (dV 3)) (dBin rDiv (dIx (dV 1) (dC (.int 1))) (dV 2))) (dNil))))))))
theorem r_times_q {P : Program} {w : World} {K : PySem.W.Frag} {mg : Str → Option Value} {base : Heap} {H0 : Hp} {R0 : Rg} {B : List (Nat × Addr)} {W : WX} {k : Nat} {f : Addr} {cdv : Value} {A : Around} {outer : List Env} {s : Shared} {H : Hp} {E : XK} (g : Gls P w K mg base) (C : Cq (cxOf (L2N.CX P w) P w K mg base N_times_q "times_q" s_times_q f cdv A outer s H E) W 0)    :
    DSs ⟨K, H0, R0, B⟩ W (cxOf (L2N.CX P w) P w K mg base N_times_q "times_q" s_times_q f cdv A outer s H E) b_times_q (t_times_q) :=
  dss_cons (ds_if (dt_w (dw_and (dt_cmp (od_eq C.hu rfl) (di_ix rfl (di_v (pv 0)) (di_int)) (di_int) rfl) (dw_and1 (dt_cmp (od_eq C.hu rfl) (di_ix rfl (di_v (pv 1)) (di_int)) (di_int) rfl))))
  (dss_one (ds_ret (de_di (di_tup (da_cons (di_op od_mul (di_ix rfl (di_v (pv 0)) (di_int)) (di_ix rfl (di_v (pv 1)) (di_int))) (da_cons (di_int) (da_nil)))))))
  (dss_nil))
  (dss_cons (ds_set (i := 2) sc_times_q.nd rfl (by first | exact Or.inl rfl | exact Or.inr rfl) (de_di (di_cf cd_gcd g.gcd (da_cons (di_ix rfl (di_v (pv 0)) (di_int)) (da_cons (di_ix rfl (di_v (pv 1)) (di_int)) (da_nil))))))
  (dss_cons (ds_set (i := 3) sc_times_q.nd rfl (by first | exact Or.inl rfl | exact Or.inr rfl) (de_di (di_cf cd_gcd g.gcd (da_cons (di_ix rfl (di_v (pv 1)) (di_int)) (da_cons (di_ix rfl (di_v (pv 0)) (di_int)) (da_nil))))))
  (dss_one (ds_ret (de_di (di_tup (da_cons (di_op od_mul (di_op od_div (di_ix rfl (di_v (pv 0)) (di_int)) (di_v (pv 2))) (di_op od_div (di_ix rfl (di_v (pv 1)) (di_int)) (di_v (pv 3)))) (da_cons (di_op od_mul (di_op od_div (di_ix rfl (di_v (pv 0)) (di_int)) (di_v (pv 3))) (di_op od_div (di_ix rfl (di_v (pv 1)) (di_int)) (di_v (pv 2)))) (da_nil)))))))))

def t_over_q : TSd :=
  dSeq (dIf (dB (dBin rLt (dIx (dV 1) (dC (.int 0))) (dC (.int 0))))
  (dRet (dCall sp_times_q (mCons (dV 0) (mCons (dTup (dCons (dNeg (dIx (dV 1) (dC (.int 1)))) (dCons (dNeg (dIx (dV 1) (dC (.int 0)))) (dNil)))) (mNil)))))
  (dNext))
  (dRet (dCall sp_times_q (mCons (dV 0) (mCons (dTup (dCons (dIx (dV 1) (dC (.int 1))) (dCons (dIx (dV 1) (dC (.int 0))) (dNil)))) (mNil)))))
theorem r_over_q {P : Program} {w : World} {K : PySem.W.Frag} {mg : Str → Option Value} {base : Heap} {H0 : Hp} {R0 : Rg} {B : List (Nat × Addr)} {W : WX} {k : Nat} {f : Addr} {cdv : Value} {A : Around} {outer : List Env} {s : Shared} {H : Hp} {E : XK} (g : Gls P w K mg base) (C : Cq (cxOf (L2N.CX P w) P w K mg base N_over_q "over_q" s_over_q f cdv A outer s H E) W 1) (c_times_q : Dg P w K mg base "times_q" 1 ["p", "q"] sp_times_q)   :
    DSs ⟨K, H0, R0, B⟩ W (cxOf (L2N.CX P w) P w K mg base N_over_q "over_q" s_over_q f cdv A outer s H E) b_over_q (t_over_q) :=
  dss_cons (ds_if (dt_cmp od_lt (di_ix rfl (di_v (pv 1)) (di_int)) (di_int) rfl)
  (dss_one (ds_ret (de_call rfl (c_times_q.up (by omega)) C.hr C.gd C.tk (dm_cons (di_v (pv 0)) (dm_cons (di_tup (da_cons (di_neg (di_ix rfl (di_v (pv 1)) (di_int))) (da_cons (di_neg (di_ix rfl (di_v (pv 1)) (di_int))) (da_nil)))) (dm_nil))))))
  (dss_nil))
  (dss_one (ds_ret (de_call rfl (c_times_q.up (by omega)) C.hr C.gd C.tk (dm_cons (di_v (pv 0)) (dm_cons (di_tup (da_cons (di_ix rfl (di_v (pv 1)) (di_int)) (da_cons (di_ix rfl (di_v (pv 1)) (di_int)) (da_nil)))) (dm_nil))))))

def t_power_whole : TSd :=
  dSeq (dAsg (dEm (dC (.int 1))) 2)
  (dSeq (dAsg (dEm (dV 0)) 3)
  (dSeq (dAsg (dEm (dV 1)) 4)
  (dSeq (dWhile (dB (dBin rGt (dV 4) (dC (.int 0))))
  (dSeq (dAsgG (dDivmod (dCons (dV 4) (dCons (dC (.int 2)) (dNil)))) (gN2 4 5))
  (dSeq (dIf (dB (dBin rEq (dV 5) (dC (.int 1))))
  (dAsg (dEm (dBin rMul (dV 2) (dV 3))) 2)
  (dNext))
  (dIf (dB (dBin rGt (dV 4) (dC (.int 0))))
  (dAsg (dEm (dBin rMul (dV 3) (dV 3))) 3)
  (dNext)))))
  (dRet (dM 2)))))
theorem r_power_whole {P : Program} {w : World} {K : PySem.W.Frag} {mg : Str → Option Value} {base : Heap} {H0 : Hp} {R0 : Rg} {B : List (Nat × Addr)} {W : WX} {k : Nat} {f : Addr} {cdv : Value} {A : Around} {outer : List Env} {s : Shared} {H : Hp} {E : XK} (g : Gls P w K mg base) (C : Cq (cxOf (L2N.CX P w) P w K mg base N_power_whole "power_whole" s_power_whole f cdv A outer s H E) W 0)    :
    DSs ⟨K, H0, R0, B⟩ W (cxOf (L2N.CX P w) P w K mg base N_power_whole "power_whole" s_power_whole f cdv A outer s H E) b_power_whole (t_power_whole) :=
  dss_cons (ds_set (i := 2) sc_power_whole.nd rfl (by first | exact Or.inl rfl | exact Or.inr rfl) (de_di (di_int)))
  (dss_cons (ds_set (i := 3) sc_power_whole.nd rfl (by first | exact Or.inl rfl | exact Or.inr rfl) (de_di (di_v (pv 0))))
  (dss_cons (ds_set (i := 4) sc_power_whole.nd rfl (by first | exact Or.inl rfl | exact Or.inr rfl) (de_di (di_v (pv 1))))
  (dss_cons (ds_while C.po (dt_cmp od_gt (di_v (pv 4)) (di_int) rfl)
  (dss_cons (ds_asg (is := [4, 5]) (di_divmod g.divmod_ (da_cons (di_v (pv 4)) (da_cons (di_int) (da_nil)))) (dg_name2 (i := 4) (j := 5) rfl rfl sc_power_whole.nd rfl (by first | exact Or.inl rfl | exact Or.inr rfl) rfl (by first | exact Or.inl rfl | exact Or.inr rfl)))
  (dss_cons (ds_if (dt_cmp (od_eq C.hu rfl) (di_v (pv 5)) (di_int) rfl)
  (dss_one (ds_set (i := 2) sc_power_whole.nd rfl (by first | exact Or.inl rfl | exact Or.inr rfl) (de_di (di_op od_mul (di_v (pv 2)) (di_v (pv 3))))))
  (dss_nil))
  (dss_one (ds_if (dt_cmp od_gt (di_v (pv 4)) (di_int) rfl)
  (dss_one (ds_set (i := 3) sc_power_whole.nd rfl (by first | exact Or.inl rfl | exact Or.inr rfl) (de_di (di_op od_mul (di_v (pv 3)) (di_v (pv 3))))))
  (dss_nil))))))
  (dss_one (ds_ret (de_m (pv 2)))))))

def t_sum_q : TSd :=
  dSeq (dAsg (dEm (dTup (dCons (dC (.int 0)) (dCons (dC (.int 1)) (dNil))))) 1)
  (dSeq (dFor (wA (dV 0)) (gN 2)
  (dAsg (dCall sp_add_q (mCons (dV 1) (mCons (dV 2) (mNil)))) 1))
  (dRet (dM 1)))
theorem r_sum_q {P : Program} {w : World} {K : PySem.W.Frag} {mg : Str → Option Value} {base : Heap} {H0 : Hp} {R0 : Rg} {B : List (Nat × Addr)} {W : WX} {k : Nat} {f : Addr} {cdv : Value} {A : Around} {outer : List Env} {s : Shared} {H : Hp} {E : XK} (g : Gls P w K mg base) (C : Cq (cxOf (L2N.CX P w) P w K mg base N_sum_q "sum_q" s_sum_q f cdv A outer s H E) W 2) (c_add_q : Dg P w K mg base "add_q" 2 ["p", "q"] sp_add_q)   :
    DSs ⟨K, H0, R0, B⟩ W (cxOf (L2N.CX P w) P w K mg base N_sum_q "sum_q" s_sum_q f cdv A outer s H E) b_sum_q (t_sum_q) :=
  dss_cons (ds_set (i := 1) sc_sum_q.nd rfl (by first | exact Or.inl rfl | exact Or.inr rfl) (de_di (di_tup (da_cons (di_int) (da_cons (di_int) (da_nil))))))
  (dss_cons (ds_for (is := [2]) C.po rfl (dw_any rfl (di_v (pv 0))) (dg_name (i := 2) sc_sum_q.nd rfl (by first | exact Or.inl rfl | exact Or.inr rfl))
  (dss_one (ds_set (i := 1) sc_sum_q.nd rfl (by first | exact Or.inl rfl | exact Or.inr rfl) (de_call rfl (c_add_q.up (by omega)) C.hr C.gd C.tk (dm_cons (di_v (pv 1)) (dm_cons (di_v (pv 2)) (dm_nil)))))))
  (dss_one (ds_ret (de_m (pv 1)))))

def t_digits_of : TSd :=
  dSeq (dAsg (dEm (dCB rAbs (dCons (dV 0) (dNil)))) 1)
  (dSeq (dAsg (dLst (dCons (dC (.int 10)) (dNil))) 2)
  (dSeq (dWhile (dB (dBin rLe (dIxN 2 (dNeg (dC (.int 1)))) (dV 1)))
  (dDrop (dEm (dApp 2 (dBin rMul (dIxN 2 (dNeg (dC (.int 1)))) (dIxN 2 (dNeg (dC (.int 1)))))))))
  (dSeq (dAsg (dEm (dC (.int 1))) 3)
  (dSeq (dFor (wR3 (dCons (dBin rSub (dCBN rLen 2) (dC (.int 1))) (dCons (dNeg (dC (.int 1))) (dCons (dNeg (dC (.int 1))) (dNil))))) (gN 4)
  (dIf (dB (dBin rGe (dV 1) (dIxN 2 (dV 4))))
  (dSeq (dAsg (dEm (dBin rDiv (dV 1) (dIxN 2 (dV 4)))) 1)
  (dAsg (dEm (dBin rAdd (dV 3) (dBin rShl (dC (.int 1)) (dV 4)))) 3))
  (dNext)))
  (dRet (dM 3))))))
theorem r_digits_of {P : Program} {w : World} {K : PySem.W.Frag} {mg : Str → Option Value} {base : Heap} {H0 : Hp} {R0 : Rg} {B : List (Nat × Addr)} {W : WX} {k : Nat} {f : Addr} {cdv : Value} {A : Around} {outer : List Env} {s : Shared} {H : Hp} {E : XK} (g : Gls P w K mg base) (C : Cq (cxOf (L2N.CX P w) P w K mg base N_digits_of "digits_of" s_digits_of f cdv A outer s H E) W 0)    :
    DSs ⟨K, H0, R0, B⟩ W (cxOf (L2N.CX P w) P w K mg base N_digits_of "digits_of" s_digits_of f cdv A outer s H E) b_digits_of (t_digits_of) :=
  dss_cons (ds_set (i := 1) sc_digits_of.nd rfl (by first | exact Or.inl rfl | exact Or.inr rfl) (de_di (di_cb cd_abs g.abs_ boot_abs (da_cons (di_v (pv 0)) (da_nil)))))
  (dss_cons (ds_set (i := 2) sc_digits_of.nd rfl (by first | exact Or.inl rfl | exact Or.inr rfl) (de_lst (da_cons (di_int) (da_nil))))
  (dss_cons (ds_while C.po (dt_cmp od_le (di_ixN rfl (pv 2) (di_neg (di_int))) (di_v (pv 1)) rfl)
  (dss_one (ds_expr (de_di (di_append rfl (pv 2) (di_op od_mul (di_ixN rfl (pv 2) (di_neg (di_int))) (di_ixN rfl (pv 2) (di_neg (di_int)))))))))
  (dss_cons (ds_set (i := 3) sc_digits_of.nd rfl (by first | exact Or.inl rfl | exact Or.inr rfl) (de_di (di_int)))
  (dss_cons (ds_for (is := [4]) C.po rfl (dw_range3 g.range_ (da_cons (di_op od_sub (di_cbn (cd_len rfl) g.len_ boot_len (pv 2)) (di_int)) (da_cons (di_neg (di_int)) (da_cons (di_neg (di_int)) (da_nil))))) (dg_name (i := 4) sc_digits_of.nd rfl (by first | exact Or.inl rfl | exact Or.inr rfl))
  (dss_one (ds_if (dt_cmp od_ge (di_v (pv 1)) (di_ixN rfl (pv 2) (di_v (pv 4))) rfl)
  (dss_cons (ds_set (i := 1) sc_digits_of.nd rfl (by first | exact Or.inl rfl | exact Or.inr rfl) (de_di (di_op od_div (di_v (pv 1)) (di_ixN rfl (pv 2) (di_v (pv 4))))))
  (dss_one (ds_set (i := 3) sc_digits_of.nd rfl (by first | exact Or.inl rfl | exact Or.inr rfl) (de_di (di_op od_add (di_v (pv 3)) (di_op od_shl (di_int) (di_v (pv 4))))))))
  (dss_nil))))
  (dss_one (ds_ret (de_m (pv 3))))))))

def t_longer_of : TSd :=
  dRet (dEm (dCB rMax2 (dCons (dFz (dCall sp_digits_of (mCons (dIx (dV 0) (dC (.int 0))) (mNil)))) (dCons (dFz (dCall sp_digits_of (mCons (dIx (dV 0) (dC (.int 1))) (mNil)))) (dNil)))))
theorem r_longer_of {P : Program} {w : World} {K : PySem.W.Frag} {mg : Str → Option Value} {base : Heap} {H0 : Hp} {R0 : Rg} {B : List (Nat × Addr)} {W : WX} {k : Nat} {f : Addr} {cdv : Value} {A : Around} {outer : List Env} {s : Shared} {H : Hp} {E : XK} (g : Gls P w K mg base) (C : Cq (cxOf (L2N.CX P w) P w K mg base N_longer_of "longer_of" s_longer_of f cdv A outer s H E) W 1) (c_digits_of : Dg P w K mg base "digits_of" 1 ["n"] sp_digits_of)   :
    DSs ⟨K, H0, R0, B⟩ W (cxOf (L2N.CX P w) P w K mg base N_longer_of "longer_of" s_longer_of f cdv A outer s H E) b_longer_of (t_longer_of) :=
  dss_one (ds_ret (de_di (di_cb (cd_max2 rfl) g.max_ boot_max (da_cons (di_fz (de_call rfl (c_digits_of.up (by omega)) C.hr C.gd C.tk (dm_cons (di_ix rfl (di_v (pv 0)) (di_int)) (dm_nil)))) (da_cons (di_fz (de_call rfl (c_digits_of.up (by omega)) C.hr C.gd C.tk (dm_cons (di_ix rfl (di_v (pv 0)) (di_int)) (dm_nil)))) (da_nil))))))

def t_least_multiple : TSd :=
  dSeq (dAsg (dEm (dC (.int 1))) 1)
  (dSeq (dFor (wA (dV 0)) (gN 2)
  (dAsg (dEm (dCB rLcmD (dCons (dV 1) (dCons (dIx (dV 2) (dC (.int 1))) (dNil))))) 1))
  (dRet (dLc (wA (dV 0)) [2] (gN 2) (bYes) (dBin rMul (dIx (dV 2) (dC (.int 0))) (dBin rDiv (dV 1) (dIx (dV 2) (dC (.int 1))))))))
theorem r_least_multiple {P : Program} {w : World} {K : PySem.W.Frag} {mg : Str → Option Value} {base : Heap} {H0 : Hp} {R0 : Rg} {B : List (Nat × Addr)} {W : WX} {k : Nat} {f : Addr} {cdv : Value} {A : Around} {outer : List Env} {s : Shared} {H : Hp} {E : XK} (g : Gls P w K mg base) (C : Cq (cxOf (L2N.CX P w) P w K mg base N_least_multiple "least_multiple" s_least_multiple f cdv A outer s H E) W 0)    :
    DSs ⟨K, H0, R0, B⟩ W (cxOf (L2N.CX P w) P w K mg base N_least_multiple "least_multiple" s_least_multiple f cdv A outer s H E) b_least_multiple (t_least_multiple) :=
  dss_cons (ds_set (i := 1) sc_least_multiple.nd rfl (by first | exact Or.inl rfl | exact Or.inr rfl) (de_di (di_int)))
  (dss_cons (ds_for (is := [2]) C.po rfl (dw_any rfl (di_v (pv 0))) (dg_name (i := 2) sc_least_multiple.nd rfl (by first | exact Or.inl rfl | exact Or.inr rfl))
  (dss_one (ds_set (i := 1) sc_least_multiple.nd rfl (by first | exact Or.inl rfl | exact Or.inr rfl) (de_di (di_cf cd_lcm g.lcm (da_cons (di_v (pv 1)) (da_cons (di_ix rfl (di_v (pv 2)) (di_int)) (da_nil))))))))
  (dss_one (ds_ret (de_lc rfl sc_least_multiple.nd (dw_any rfl (di_v (pv 0))) (own := [("u", 2)]) (blkOk_by rfl) (by decide) (fun _ _ _ _ _ => dg_name (i := 2) sc_least_multiple.nd rfl (by first | exact Or.inl rfl | exact Or.inr rfl)) (fun _ _ _ _ _ => dts_nil) (fun _ _ _ _ _ => di_op od_mul (di_ix rfl (di_v (pv 2)) (di_int)) (di_op od_div (di_v (pv 1)) (di_ix rfl (di_v (pv 2)) (di_int))))))))

def t_has_nought : TSd :=
  dSeq (dFor (wZ (dCons (dV 0) (dCons (dV 1) (dNil)))) (gN2 2 3)
  (dIf (dAnd (dB (dBin rGt (dV 3) (dC (.int 0)))) (dB (dBin rEq (dIx (dV 2) (dC (.int 0))) (dC (.int 0)))))
  (dRet (dEm (dC (.bool true))))
  (dNext)))
  (dRet (dEm (dC (.bool false))))
theorem r_has_nought {P : Program} {w : World} {K : PySem.W.Frag} {mg : Str → Option Value} {base : Heap} {H0 : Hp} {R0 : Rg} {B : List (Nat × Addr)} {W : WX} {k : Nat} {f : Addr} {cdv : Value} {A : Around} {outer : List Env} {s : Shared} {H : Hp} {E : XK} (g : Gls P w K mg base) (C : Cq (cxOf (L2N.CX P w) P w K mg base N_has_nought "has_nought" s_has_nought f cdv A outer s H E) W 0)    :
    DSs ⟨K, H0, R0, B⟩ W (cxOf (L2N.CX P w) P w K mg base N_has_nought "has_nought" s_has_nought f cdv A outer s H E) b_has_nought (t_has_nought) :=
  dss_cons (ds_for (is := [2, 3]) C.po rfl (dw_zip rfl g.zip_ (da_cons (di_v (pv 0)) (da_cons (di_v (pv 1)) (da_nil)))) (dg_name2 (i := 2) (j := 3) rfl rfl sc_has_nought.nd rfl (by first | exact Or.inl rfl | exact Or.inr rfl) rfl (by first | exact Or.inl rfl | exact Or.inr rfl))
  (dss_one (ds_if (dt_w (dw_and (dt_cmp od_gt (di_v (pv 3)) (di_int) rfl) (dw_and1 (dt_cmp (od_eq C.hu rfl) (di_ix rfl (di_v (pv 2)) (di_int)) (di_int) rfl))))
  (dss_one (ds_ret (de_di (di_bl))))
  (dss_nil))))
  (dss_one (ds_ret (de_di (di_bl))))

def t_compared_fits : TSd :=
  dSeq (dIf (dB (dFz (dCall sp_has_nought (mCons (dV 0) (mCons (dV 2) (mNil))))))
  (dRet (dIfD (dB (dFz (dCall sp_has_nought (mCons (dV 1) (mCons (dV 2) (mNil)))))) (dEm (dC (.int 0))) (dEm (dNeg (dC (.int 1))))))
  (dNext))
  (dSeq (dIf (dB (dFz (dCall sp_has_nought (mCons (dV 1) (mCons (dV 2) (mNil))))))
  (dRet (dEm (dC (.int 1))))
  (dNext))
  (dSeq (dAsg (dEm (dC (.int 1))) 3)
  (dSeq (dAsg (dEm (dC (.int 1))) 4)
  (dSeq (dFor (wZ3 (dCons (dV 0) (dCons (dV 1) (dCons (dV 2) (dNil))))) (gN3 5 6 7)
  (dIf (dAnd (dB (dBin rGt (dV 7) (dC (.int 0)))) (dB (dBin rNe (dV 5) (dV 6))))
  (dSeq (dAsg (dCall sp_over_q (mCons (dV 5) (mCons (dV 6) (mNil)))) 8)
  (dSeq (dAsg (dEm (dBin rMul (dV 3) (dFz (dCall sp_power_whole (mCons (dIx (dV 8) (dC (.int 0))) (mCons (dV 7) (mNil))))))) 3)
  (dAsg (dEm (dBin rMul (dV 4) (dFz (dCall sp_power_whole (mCons (dIx (dV 8) (dC (.int 1))) (mCons (dV 7) (mNil))))))) 4)))
  (dNext)))
  (dSeq (dIf (dB (dBin rGt (dV 3) (dV 4)))
  (dRet (dEm (dC (.int 1))))
  (dNext))
  (dRet (dIfD (dB (dBin rLt (dV 3) (dV 4))) (dEm (dNeg (dC (.int 1)))) (dEm (dC (.int 0))))))))))
theorem r_compared_fits {P : Program} {w : World} {K : PySem.W.Frag} {mg : Str → Option Value} {base : Heap} {H0 : Hp} {R0 : Rg} {B : List (Nat × Addr)} {W : WX} {k : Nat} {f : Addr} {cdv : Value} {A : Around} {outer : List Env} {s : Shared} {H : Hp} {E : XK} (g : Gls P w K mg base) (C : Cq (cxOf (L2N.CX P w) P w K mg base N_compared_fits "compared_fits" s_compared_fits f cdv A outer s H E) W 2) (c_over_q : Dg P w K mg base "over_q" 2 ["p", "q"] sp_over_q) (c_power_whole : Dg P w K mg base "power_whole" 1 ["n", "k"] sp_power_whole) (c_has_nought : Dg P w K mg base "has_nought" 1 ["shares", "times"] sp_has_nought)   :
    DSs ⟨K, H0, R0, B⟩ W (cxOf (L2N.CX P w) P w K mg base N_compared_fits "compared_fits" s_compared_fits f cdv A outer s H E) b_compared_fits (t_compared_fits) :=
  dss_cons (ds_if (dt_val (di_fz (de_call rfl (c_has_nought.up (by omega)) C.hr C.gd C.tk (dm_cons (di_v (pv 0)) (dm_cons (di_v (pv 2)) (dm_nil))))))
  (dss_one (ds_ret (de_if (dt_val (di_fz (de_call rfl (c_has_nought.up (by omega)) C.hr C.gd C.tk (dm_cons (di_v (pv 1)) (dm_cons (di_v (pv 2)) (dm_nil)))))) (de_di (di_int)) (de_di (di_neg (di_int))))))
  (dss_nil))
  (dss_cons (ds_if (dt_val (di_fz (de_call rfl (c_has_nought.up (by omega)) C.hr C.gd C.tk (dm_cons (di_v (pv 1)) (dm_cons (di_v (pv 2)) (dm_nil))))))
  (dss_one (ds_ret (de_di (di_int))))
  (dss_nil))
  (dss_cons (ds_set (i := 3) sc_compared_fits.nd rfl (by first | exact Or.inl rfl | exact Or.inr rfl) (de_di (di_int)))
  (dss_cons (ds_set (i := 4) sc_compared_fits.nd rfl (by first | exact Or.inl rfl | exact Or.inr rfl) (de_di (di_int)))
  (dss_cons (ds_for (is := [5, 6, 7]) C.po rfl (dw_zip3 rfl g.zip_ (da_cons (di_v (pv 0)) (da_cons (di_v (pv 1)) (da_cons (di_v (pv 2)) (da_nil))))) (dg_name3 (i := 5) (j := 6) (l := 7) rfl rfl sc_compared_fits.nd rfl (by first | exact Or.inl rfl | exact Or.inr rfl) rfl (by first | exact Or.inl rfl | exact Or.inr rfl) rfl (by first | exact Or.inl rfl | exact Or.inr rfl))
  (dss_one (ds_if (dt_w (dw_and (dt_cmp od_gt (di_v (pv 7)) (di_int) rfl) (dw_and1 (dt_cmp (od_ne C.hu rfl) (di_v (pv 5)) (di_v (pv 6)) rfl))))
  (dss_cons (ds_set (i := 8) sc_compared_fits.nd rfl (by first | exact Or.inl rfl | exact Or.inr rfl) (de_call rfl (c_over_q.up (by omega)) C.hr C.gd C.tk (dm_cons (di_v (pv 5)) (dm_cons (di_v (pv 6)) (dm_nil)))))
  (dss_cons (ds_set (i := 3) sc_compared_fits.nd rfl (by first | exact Or.inl rfl | exact Or.inr rfl) (de_di (di_op od_mul (di_v (pv 3)) (di_fz (de_call rfl (c_power_whole.up (by omega)) C.hr C.gd C.tk (dm_cons (di_ix rfl (di_v (pv 8)) (di_int)) (dm_cons (di_v (pv 7)) (dm_nil))))))))
  (dss_one (ds_set (i := 4) sc_compared_fits.nd rfl (by first | exact Or.inl rfl | exact Or.inr rfl) (de_di (di_op od_mul (di_v (pv 4)) (di_fz (de_call rfl (c_power_whole.up (by omega)) C.hr C.gd C.tk (dm_cons (di_ix rfl (di_v (pv 8)) (di_int)) (dm_cons (di_v (pv 7)) (dm_nil)))))))))))
  (dss_nil))))
  (dss_cons (ds_if (dt_cmp od_gt (di_v (pv 3)) (di_v (pv 4)) rfl)
  (dss_one (ds_ret (de_di (di_int))))
  (dss_nil))
  (dss_one (ds_ret (de_if (dt_cmp od_lt (di_v (pv 3)) (di_v (pv 4)) rfl) (de_di (di_neg (di_int))) (de_di (di_int))))))))))

def t_law_gcd : TSd :=
  dSeq (dAsg (dEm (dCB rAbs (dCons (dV 0) (dNil)))) 0)
  (dSeq (dAsg (dEm (dCB rAbs (dCons (dV 1) (dNil)))) 1)
  (dSeq (dFor (wR1 (dCons (dBin rAdd (dBin rMul (dC (.int 2)) (dBits (dV 1))) (dC (.int 2))) (dNil))) (gN 2)
  (dSeq (dIf (dB (dBin rEq (dV 1) (dC (.int 0))))
  (dBreak)
  (dNext))
  (dPar 0 1 (dCons (dV 1) (dCons (dBin rMod (dCB rInt (dCons (dV 0) (dNil))) (dV 1)) (dNil))))))
  (dRet (dM 0))))
theorem r_law_gcd {P : Program} {w : World} {K : PySem.W.Frag} {mg : Str → Option Value} {base : Heap} {H0 : Hp} {R0 : Rg} {B : List (Nat × Addr)} {W : WX} {k : Nat} {f : Addr} {cdv : Value} {A : Around} {outer : List Env} {s : Shared} {H : Hp} {E : XK} (g : Gls P w K mg base) (C : Cq (cxOf (L2N.CX P w) P w K mg base N_law_gcd "_law_gcd" s_law_gcd f cdv A outer s H E) W 0)    :
    DSs ⟨K, H0, R0, B⟩ W (cxOf (L2N.CX P w) P w K mg base N_law_gcd "_law_gcd" s_law_gcd f cdv A outer s H E) b_law_gcd (t_law_gcd) :=
  dss_cons (ds_set (i := 0) sc_law_gcd.nd rfl (by first | exact Or.inl rfl | exact Or.inr rfl) (de_di (di_cb cd_abs g.abs_ boot_abs (da_cons (di_v (pv 0)) (da_nil)))))
  (dss_cons (ds_set (i := 1) sc_law_gcd.nd rfl (by first | exact Or.inl rfl | exact Or.inr rfl) (de_di (di_cb cd_abs g.abs_ boot_abs (da_cons (di_v (pv 1)) (da_nil)))))
  (dss_cons (ds_for (is := [2]) C.po rfl (dw_range1 g.range_ (da_cons (di_op od_add (di_op od_mul (di_int) (di_bits (di_v (pv 1)))) (di_int)) (da_nil))) (dg_name (i := 2) sc_law_gcd.nd rfl (by first | exact Or.inl rfl | exact Or.inr rfl))
  (dss_cons (ds_if (dt_cmp (od_eq C.hu rfl) (di_v (pv 1)) (di_int) rfl)
  (dss_one (ds_break))
  (dss_nil))
  (dss_one (ds_par (i := 0) (j := 1) rfl sc_law_gcd.nd rfl rfl (by decide) rfl rfl (da_cons (di_v (pv 1)) (da_cons (di_op od_mod (di_ct cd_int g.int_ rfl (da_cons (di_v (pv 0)) (da_nil))) (di_v (pv 1))) (da_nil)))))))
  (dss_one (ds_ret (de_m (pv 0))))))

def t_law_low : TSd :=
  dSeq (dAsg (dCall sp_law_gcd (mCons (dV 0) (mCons (dV 1) (mNil)))) 2)
  (dSeq (dAsg (dEm (dIfE (dB (dBin rLt (dV 1) (dC (.int 0)))) (dBin rSub (dC (.int 0)) (dV 2)) (dV 2))) 2)
  (dRet (dEm (dTup (dCons (dBin rDiv (dV 0) (dV 2)) (dCons (dBin rDiv (dV 1) (dV 2)) (dNil)))))))
theorem r_law_low {P : Program} {w : World} {K : PySem.W.Frag} {mg : Str → Option Value} {base : Heap} {H0 : Hp} {R0 : Rg} {B : List (Nat × Addr)} {W : WX} {k : Nat} {f : Addr} {cdv : Value} {A : Around} {outer : List Env} {s : Shared} {H : Hp} {E : XK} (g : Gls P w K mg base) (C : Cq (cxOf (L2N.CX P w) P w K mg base N_law_low "_law_low" s_law_low f cdv A outer s H E) W 1) (c_law_gcd : Dg P w K mg base "_law_gcd" 1 ["u", "v"] sp_law_gcd)   :
    DSs ⟨K, H0, R0, B⟩ W (cxOf (L2N.CX P w) P w K mg base N_law_low "_law_low" s_law_low f cdv A outer s H E) b_law_low (t_law_low) :=
  dss_cons (ds_set (i := 2) sc_law_low.nd rfl (by first | exact Or.inl rfl | exact Or.inr rfl) (de_call rfl (c_law_gcd.up (by omega)) C.hr C.gd C.tk (dm_cons (di_v (pv 0)) (dm_cons (di_v (pv 1)) (dm_nil)))))
  (dss_cons (ds_set (i := 2) sc_law_low.nd rfl (by first | exact Or.inl rfl | exact Or.inr rfl) (de_di (di_if (dt_cmp od_lt (di_v (pv 1)) (di_int) rfl) (di_op od_sub (di_int) (di_v (pv 2))) (di_v (pv 2)))))
  (dss_one (ds_ret (de_di (di_tup (da_cons (di_op od_div (di_v (pv 0)) (di_v (pv 2))) (da_cons (di_op od_div (di_v (pv 1)) (di_v (pv 2))) (da_nil))))))))

def t_law_plus : TSd :=
  dRet (dCall sp_law_low (mCons (dBin rAdd (dBin rMul (dIx (dV 0) (dC (.int 0))) (dIx (dV 1) (dC (.int 1)))) (dBin rMul (dIx (dV 1) (dC (.int 0))) (dIx (dV 0) (dC (.int 1))))) (mCons (dBin rMul (dIx (dV 0) (dC (.int 1))) (dIx (dV 1) (dC (.int 1)))) (mNil))))
theorem r_law_plus {P : Program} {w : World} {K : PySem.W.Frag} {mg : Str → Option Value} {base : Heap} {H0 : Hp} {R0 : Rg} {B : List (Nat × Addr)} {W : WX} {k : Nat} {f : Addr} {cdv : Value} {A : Around} {outer : List Env} {s : Shared} {H : Hp} {E : XK} (g : Gls P w K mg base) (C : Cq (cxOf (L2N.CX P w) P w K mg base N_law_plus "_law_plus" s_law_plus f cdv A outer s H E) W 2) (c_law_low : Dg P w K mg base "_law_low" 2 ["top", "low"] sp_law_low)   :
    DSs ⟨K, H0, R0, B⟩ W (cxOf (L2N.CX P w) P w K mg base N_law_plus "_law_plus" s_law_plus f cdv A outer s H E) b_law_plus (t_law_plus) :=
  dss_one (ds_ret (de_call rfl (c_law_low.up (by omega)) C.hr C.gd C.tk (dm_cons (di_op od_add (di_op od_mul (di_ix rfl (di_v (pv 0)) (di_int)) (di_ix rfl (di_v (pv 1)) (di_int))) (di_op od_mul (di_ix rfl (di_v (pv 1)) (di_int)) (di_ix rfl (di_v (pv 0)) (di_int)))) (dm_cons (di_op od_mul (di_ix rfl (di_v (pv 0)) (di_int)) (di_ix rfl (di_v (pv 1)) (di_int))) (dm_nil)))))

def t_law_power : TSd :=
  dSeq (dAsg (dEm (dC (.int 1))) 2)
  (dSeq (dAsg (dEm (dC (.int 1))) 3)
  (dSeq (dFor (wR1 (dCons (dV 1) (dNil))) (gN 4)
  (dSeq (dAsg (dEm (dBin rMul (dV 2) (dIx (dV 0) (dC (.int 0))))) 2)
  (dAsg (dEm (dBin rMul (dV 3) (dIx (dV 0) (dC (.int 1))))) 3)))
  (dRet (dEm (dTup (dCons (dV 2) (dCons (dV 3) (dNil))))))))
theorem r_law_power {P : Program} {w : World} {K : PySem.W.Frag} {mg : Str → Option Value} {base : Heap} {H0 : Hp} {R0 : Rg} {B : List (Nat × Addr)} {W : WX} {k : Nat} {f : Addr} {cdv : Value} {A : Around} {outer : List Env} {s : Shared} {H : Hp} {E : XK} (g : Gls P w K mg base) (C : Cq (cxOf (L2N.CX P w) P w K mg base N_law_power "_law_power" s_law_power f cdv A outer s H E) W 0)    :
    DSs ⟨K, H0, R0, B⟩ W (cxOf (L2N.CX P w) P w K mg base N_law_power "_law_power" s_law_power f cdv A outer s H E) b_law_power (t_law_power) :=
  dss_cons (ds_set (i := 2) sc_law_power.nd rfl (by first | exact Or.inl rfl | exact Or.inr rfl) (de_di (di_int)))
  (dss_cons (ds_set (i := 3) sc_law_power.nd rfl (by first | exact Or.inl rfl | exact Or.inr rfl) (de_di (di_int)))
  (dss_cons (ds_for (is := [4]) C.po rfl (dw_range1 g.range_ (da_cons (di_v (pv 1)) (da_nil))) (dg_name (i := 4) sc_law_power.nd rfl (by first | exact Or.inl rfl | exact Or.inr rfl))
  (dss_cons (ds_set (i := 2) sc_law_power.nd rfl (by first | exact Or.inl rfl | exact Or.inr rfl) (de_di (di_op od_mul (di_v (pv 2)) (di_ix rfl (di_v (pv 0)) (di_int)))))
  (dss_one (ds_set (i := 3) sc_law_power.nd rfl (by first | exact Or.inl rfl | exact Or.inr rfl) (de_di (di_op od_mul (di_v (pv 3)) (di_ix rfl (di_v (pv 0)) (di_int))))))))
  (dss_one (ds_ret (de_di (di_tup (da_cons (di_v (pv 2)) (da_cons (di_v (pv 3)) (da_nil)))))))))

def t_law_multiple : TSd :=
  dSeq (dAsg (dEm (dC (.int 1))) 1)
  (dSeq (dFor (wA (dV 0)) (gN 2)
  (dAsg (dEm (dBin rMul (dV 1) (dBin rDiv (dIx (dV 2) (dC (.int 1))) (dFz (dCall sp_law_gcd (mCons (dV 1) (mCons (dIx (dV 2) (dC (.int 1))) (mNil)))))))) 1))
  (dRet (dLc (wA (dV 0)) [2] (gN 2) (bYes) (dBin rMul (dIx (dV 2) (dC (.int 0))) (dBin rDiv (dV 1) (dIx (dV 2) (dC (.int 1))))))))
theorem r_law_multiple {P : Program} {w : World} {K : PySem.W.Frag} {mg : Str → Option Value} {base : Heap} {H0 : Hp} {R0 : Rg} {B : List (Nat × Addr)} {W : WX} {k : Nat} {f : Addr} {cdv : Value} {A : Around} {outer : List Env} {s : Shared} {H : Hp} {E : XK} (g : Gls P w K mg base) (C : Cq (cxOf (L2N.CX P w) P w K mg base N_law_multiple "_law_multiple" s_law_multiple f cdv A outer s H E) W 1) (c_law_gcd : Dg P w K mg base "_law_gcd" 1 ["u", "v"] sp_law_gcd)   :
    DSs ⟨K, H0, R0, B⟩ W (cxOf (L2N.CX P w) P w K mg base N_law_multiple "_law_multiple" s_law_multiple f cdv A outer s H E) b_law_multiple (t_law_multiple) :=
  dss_cons (ds_set (i := 1) sc_law_multiple.nd rfl (by first | exact Or.inl rfl | exact Or.inr rfl) (de_di (di_int)))
  (dss_cons (ds_for (is := [2]) C.po rfl (dw_any rfl (di_v (pv 0))) (dg_name (i := 2) sc_law_multiple.nd rfl (by first | exact Or.inl rfl | exact Or.inr rfl))
  (dss_one (ds_set (i := 1) sc_law_multiple.nd rfl (by first | exact Or.inl rfl | exact Or.inr rfl) (de_di (di_op od_mul (di_v (pv 1)) (di_op od_div (di_ix rfl (di_v (pv 2)) (di_int)) (di_fz (de_call rfl (c_law_gcd.up (by omega)) C.hr C.gd C.tk (dm_cons (di_v (pv 1)) (dm_cons (di_ix rfl (di_v (pv 2)) (di_int)) (dm_nil)))))))))))
  (dss_one (ds_ret (de_lc rfl sc_law_multiple.nd (dw_any rfl (di_v (pv 0))) (own := [("u", 2)]) (blkOk_by rfl) (by decide) (fun _ _ _ _ _ => dg_name (i := 2) sc_law_multiple.nd rfl (by first | exact Or.inl rfl | exact Or.inr rfl)) (fun _ _ _ _ _ => dts_nil) (fun _ _ _ _ _ => di_op od_mul (di_ix rfl (di_v (pv 2)) (di_int)) (di_op od_div (di_v (pv 1)) (di_ix rfl (di_v (pv 2)) (di_int))))))))

def t_law_product : TSd :=
  dSeq (dAsg (dEm (dC (.int 1))) 2)
  (dSeq (dAsg (dEm (dC (.int 1))) 3)
  (dSeq (dFor (wR1 (dCons (dCB rLen (dCons (dV 1) (dNil))) (dNil))) (gN 4)
  (dSeq (dAsg (dCall sp_law_power (mCons (dIx (dV 0) (dV 4)) (mCons (dIx (dV 1) (dV 4)) (mNil)))) 5)
  (dSeq (dAsg (dEm (dBin rMul (dV 2) (dIx (dV 5) (dC (.int 0))))) 2)
  (dAsg (dEm (dBin rMul (dV 3) (dIx (dV 5) (dC (.int 1))))) 3))))
  (dRet (dEm (dTup (dCons (dV 2) (dCons (dV 3) (dNil))))))))
theorem r_law_product {P : Program} {w : World} {K : PySem.W.Frag} {mg : Str → Option Value} {base : Heap} {H0 : Hp} {R0 : Rg} {B : List (Nat × Addr)} {W : WX} {k : Nat} {f : Addr} {cdv : Value} {A : Around} {outer : List Env} {s : Shared} {H : Hp} {E : XK} (g : Gls P w K mg base) (C : Cq (cxOf (L2N.CX P w) P w K mg base N_law_product "_law_product" s_law_product f cdv A outer s H E) W 1) (c_law_power : Dg P w K mg base "_law_power" 1 ["u", "k"] sp_law_power)   :
    DSs ⟨K, H0, R0, B⟩ W (cxOf (L2N.CX P w) P w K mg base N_law_product "_law_product" s_law_product f cdv A outer s H E) b_law_product (t_law_product) :=
  dss_cons (ds_set (i := 2) sc_law_product.nd rfl (by first | exact Or.inl rfl | exact Or.inr rfl) (de_di (di_int)))
  (dss_cons (ds_set (i := 3) sc_law_product.nd rfl (by first | exact Or.inl rfl | exact Or.inr rfl) (de_di (di_int)))
  (dss_cons (ds_for (is := [4]) C.po rfl (dw_range1 g.range_ (da_cons (di_cb (cd_len rfl) g.len_ boot_len (da_cons (di_v (pv 1)) (da_nil))) (da_nil))) (dg_name (i := 4) sc_law_product.nd rfl (by first | exact Or.inl rfl | exact Or.inr rfl))
  (dss_cons (ds_set (i := 5) sc_law_product.nd rfl (by first | exact Or.inl rfl | exact Or.inr rfl) (de_call rfl (c_law_power.up (by omega)) C.hr C.gd C.tk (dm_cons (di_ix rfl (di_v (pv 0)) (di_v (pv 4))) (dm_cons (di_ix rfl (di_v (pv 1)) (di_v (pv 4))) (dm_nil)))))
  (dss_cons (ds_set (i := 2) sc_law_product.nd rfl (by first | exact Or.inl rfl | exact Or.inr rfl) (de_di (di_op od_mul (di_v (pv 2)) (di_ix rfl (di_v (pv 5)) (di_int)))))
  (dss_one (ds_set (i := 3) sc_law_product.nd rfl (by first | exact Or.inl rfl | exact Or.inr rfl) (de_di (di_op od_mul (di_v (pv 3)) (di_ix rfl (di_v (pv 5)) (di_int)))))))))
  (dss_one (ds_ret (de_di (di_tup (da_cons (di_v (pv 2)) (da_cons (di_v (pv 3)) (da_nil)))))))))

end K1


/-! text R2 -/
set_option Elab.async false
set_option linter.all false
set_option maxRecDepth 100000
set_option maxHeartbeats 0

namespace K1
open PySem PySem.Spec PyProof.Rows L2 L2H DL

def t_only_of : TSd :=
  dSeq (dFor (wA (dV 0)) (gN 2)
  (dIf (dB (dBin rNotInS (dV 2) (dV 1)))
  (dRet (dEm (dC (.bool false))))
  (dNext)))
  (dRet (dEm (dC (.bool true))))
theorem r_only_of {P : Program} {w : World} {K : PySem.W.Frag} {mg : Str → Option Value} {base : Heap} {H0 : Hp} {R0 : Rg} {B : List (Nat × Addr)} {W : WX} {k : Nat} {f : Addr} {cdv : Value} {A : Around} {outer : List Env} {s : Shared} {H : Hp} {E : XK} (g : Gls P w K mg base) (C : Cq (cxOf (L2N.CX P w) P w K mg base N_only_of "only_of" s_only_of f cdv A outer s H E) W 0)    :
    DSs ⟨K, H0, R0, B⟩ W (cxOf (L2N.CX P w) P w K mg base N_only_of "only_of" s_only_of f cdv A outer s H E) b_only_of (t_only_of) :=
  dss_cons (ds_for (is := [2]) C.po rfl (dw_any rfl (di_v (pv 0))) (dg_name (i := 2) sc_only_of.nd rfl (by first | exact Or.inl rfl | exact Or.inr rfl))
  (dss_one (ds_if (dt_cmp od_notInS (di_v (pv 2)) (di_v (pv 1)) rfl)
  (dss_one (ds_ret (de_di (di_bl))))
  (dss_nil))))
  (dss_one (ds_ret (de_di (di_bl))))

def t_is_digits : TSd :=
  dSeq (dIf (dOr (dB (dBin rEq (dV 0) (dC (.str "")))) (dNot (dB (dFz (dCall sp_only_of (mCons (dV 0) (mCons (dC (.str "0123456789")) (mNil))))))))
  (dRet (dEm (dC (.bool false))))
  (dNext))
  (dRet (dEm (dOrV (dBin rEq (dV 0) (dC (.str "0"))) (dBin rNe (dIx (dV 0) (dC (.int 0))) (dC (.str "0"))))))
theorem r_is_digits {P : Program} {w : World} {K : PySem.W.Frag} {mg : Str → Option Value} {base : Heap} {H0 : Hp} {R0 : Rg} {B : List (Nat × Addr)} {W : WX} {k : Nat} {f : Addr} {cdv : Value} {A : Around} {outer : List Env} {s : Shared} {H : Hp} {E : XK} (g : Gls P w K mg base) (C : Cq (cxOf (L2N.CX P w) P w K mg base N_is_digits "is_digits" s_is_digits f cdv A outer s H E) W 1) (c_only_of : Dg P w K mg base "only_of" 1 ["word", "signs"] sp_only_of)   :
    DSs ⟨K, H0, R0, B⟩ W (cxOf (L2N.CX P w) P w K mg base N_is_digits "is_digits" s_is_digits f cdv A outer s H E) b_is_digits (t_is_digits) :=
  dss_cons (ds_if (dt_w (dw_or (dt_cmp (od_eq C.hu rfl) (di_v (pv 0)) (di_str) rfl) (dw_or1 (dt_not (dt_val (di_fz (de_call rfl (c_only_of.up (by omega)) C.hr C.gd C.tk (dm_cons (di_v (pv 0)) (dm_cons (di_gstr rfl g.DIGITS) (dm_nil))))))))))
  (dss_one (ds_ret (de_di (di_bl))))
  (dss_nil))
  (dss_one (ds_ret (de_di (di_or (di_cmp (od_eq C.hu rfl) (di_v (pv 0)) (di_str) rfl) (di_one (di_cmp (od_ne C.hu rfl) (di_ix rfl (di_v (pv 0)) (di_int)) (di_str) rfl))))))

def t_value_of_digits : TSd :=
  dSeq (dAsg (dEm (dC (.int 0))) 1)
  (dSeq (dFor (wR3 (dCons (dC (.int 0)) (dCons (dCB rLen (dCons (dV 0) (dNil))) (dCons (dC (.int 60)) (dNil))))) (gN 2)
  (dSeq (dAsg (dSl (dV 0) (pSo (dV 2)) (pSo (dBin rAdd (dV 2) (dC (.int 60))))) 3)
  (dSeq (dAsg (dEm (dC (.int 1))) 4)
  (dSeq (dFor (wA (dV 3)) (gN 5)
  (dAsg (dEm (dBin rMul (dV 4) (dC (.int 10)))) 4))
  (dAsg (dEm (dBin rAdd (dBin rMul (dV 1) (dV 4)) (dCB rInt (dCons (dV 3) (dNil))))) 1)))))
  (dRet (dM 1)))
theorem r_value_of_digits {P : Program} {w : World} {K : PySem.W.Frag} {mg : Str → Option Value} {base : Heap} {H0 : Hp} {R0 : Rg} {B : List (Nat × Addr)} {W : WX} {k : Nat} {f : Addr} {cdv : Value} {A : Around} {outer : List Env} {s : Shared} {H : Hp} {E : XK} (g : Gls P w K mg base) (C : Cq (cxOf (L2N.CX P w) P w K mg base N_value_of_digits "value_of_digits" s_value_of_digits f cdv A outer s H E) W 0)    :
    DSs ⟨K, H0, R0, B⟩ W (cxOf (L2N.CX P w) P w K mg base N_value_of_digits "value_of_digits" s_value_of_digits f cdv A outer s H E) b_value_of_digits (t_value_of_digits) :=
  dss_cons (ds_set (i := 1) sc_value_of_digits.nd rfl (by first | exact Or.inl rfl | exact Or.inr rfl) (de_di (di_int)))
  (dss_cons (ds_for (is := [2]) C.po rfl (dw_range3 g.range_ (da_cons (di_int) (da_cons (di_cb (cd_len rfl) g.len_ boot_len (da_cons (di_v (pv 0)) (da_nil))) (da_cons (di_gint rfl g.STEP) (da_nil))))) (dg_name (i := 2) sc_value_of_digits.nd rfl (by first | exact Or.inl rfl | exact Or.inr rfl))
  (dss_cons (ds_set (i := 3) sc_value_of_digits.nd rfl (by first | exact Or.inl rfl | exact Or.inr rfl) (de_sl rfl (di_v (pv 0)) (dp_so (di_v (pv 2))) (dp_so (di_op od_add (di_v (pv 2)) (di_gint rfl g.STEP)))))
  (dss_cons (ds_set (i := 4) sc_value_of_digits.nd rfl (by first | exact Or.inl rfl | exact Or.inr rfl) (de_di (di_int)))
  (dss_cons (ds_for (is := [5]) C.po rfl (dw_any rfl (di_v (pv 3))) (dg_name (i := 5) sc_value_of_digits.nd rfl (by first | exact Or.inl rfl | exact Or.inr rfl))
  (dss_one (ds_set (i := 4) sc_value_of_digits.nd rfl (by first | exact Or.inl rfl | exact Or.inr rfl) (de_di (di_op od_mul (di_v (pv 4)) (di_int))))))
  (dss_one (ds_set (i := 1) sc_value_of_digits.nd rfl (by first | exact Or.inl rfl | exact Or.inr rfl) (de_di (di_op od_add (di_op od_mul (di_v (pv 1)) (di_v (pv 4))) (di_ct cd_int g.int_ rfl (da_cons (di_v (pv 3)) (da_nil)))))))))))
  (dss_one (ds_ret (de_m (pv 1)))))

def t_whole_of : TSd :=
  dSeq (dIf (dNot (dB (dIsi "str" (dV 0))))
  (dRet (dEm (dC .none)))
  (dNext))
  (dSeq (dIf (dB (dFz (dM1 rStarts (dV 0) (dC (.str "-")))))
  (dSeq (dIf (dOr (dB (dBin rEq (dV 0) (dC (.str "-0")))) (dNot (dB (dFz (dCall sp_is_digits (mCons (dFz (dSl (dV 0) (pSo (dC (.int 1))) (pNo))) (mNil)))))))
  (dRet (dEm (dC .none)))
  (dNext))
  (dRet (dEm (dNeg (dFz (dCall sp_value_of_digits (mCons (dFz (dSl (dV 0) (pSo (dC (.int 1))) (pNo))) (mNil))))))))
  (dNext))
  (dSeq (dIf (dNot (dB (dFz (dCall sp_is_digits (mCons (dV 0) (mNil))))))
  (dRet (dEm (dC .none)))
  (dNext))
  (dRet (dCall sp_value_of_digits (mCons (dV 0) (mNil))))))
theorem r_whole_of {P : Program} {w : World} {K : PySem.W.Frag} {mg : Str → Option Value} {base : Heap} {H0 : Hp} {R0 : Rg} {B : List (Nat × Addr)} {W : WX} {k : Nat} {f : Addr} {cdv : Value} {A : Around} {outer : List Env} {s : Shared} {H : Hp} {E : XK} (g : Gls P w K mg base) (C : Cq (cxOf (L2N.CX P w) P w K mg base N_whole_of "whole_of" s_whole_of f cdv A outer s H E) W 2) (c_is_digits : Dg P w K mg base "is_digits" 2 ["word"] sp_is_digits) (c_value_of_digits : Dg P w K mg base "value_of_digits" 1 ["word"] sp_value_of_digits)   :
    DSs ⟨K, H0, R0, B⟩ W (cxOf (L2N.CX P w) P w K mg base N_whole_of "whole_of" s_whole_of f cdv A outer s H E) b_whole_of (t_whole_of) :=
  dss_cons (ds_if (dt_not (dt_val (di_isi (Tn := "str") rfl g.isinstance_ g.str_ rfl (di_v (pv 0)))))
  (dss_one (ds_ret (de_di (di_non))))
  (dss_nil))
  (dss_cons (ds_if (dt_val (di_fz (de_starts (di_v (pv 0)) (di_str))))
  (dss_cons (ds_if (dt_w (dw_or (dt_cmp (od_eq C.hu rfl) (di_v (pv 0)) (di_str) rfl) (dw_or1 (dt_not (dt_val (di_fz (de_call rfl (c_is_digits.up (by omega)) C.hr C.gd C.tk (dm_cons (di_fz (de_sl rfl (di_v (pv 0)) (dp_so (di_int)) (dp_no))) (dm_nil)))))))))
  (dss_one (ds_ret (de_di (di_non))))
  (dss_nil))
  (dss_one (ds_ret (de_di (di_neg (di_fz (de_call rfl (c_value_of_digits.up (by omega)) C.hr C.gd C.tk (dm_cons (di_fz (de_sl rfl (di_v (pv 0)) (dp_so (di_int)) (dp_no))) (dm_nil)))))))))
  (dss_nil))
  (dss_cons (ds_if (dt_not (dt_val (di_fz (de_call rfl (c_is_digits.up (by omega)) C.hr C.gd C.tk (dm_cons (di_v (pv 0)) (dm_nil))))))
  (dss_one (ds_ret (de_di (di_non))))
  (dss_nil))
  (dss_one (ds_ret (de_call rfl (c_value_of_digits.up (by omega)) C.hr C.gd C.tk (dm_cons (di_v (pv 0)) (dm_nil)))))))

def t_ratio_of : TSd :=
  dSeq (dIf (dNot (dB (dIsi "str" (dV 0))))
  (dRet (dEm (dC .none)))
  (dNext))
  (dSeq (dAsgG (dFz (dM1 rPart (dV 0) (dC (.str "/")))) (gN3 1 2 3))
  (dSeq (dAsg (dCall sp_whole_of (mCons (dV 1) (mNil))) 4)
  (dSeq (dIf (dB (dBin rIsN (dV 4) (dC .none)))
  (dRet (dEm (dC .none)))
  (dNext))
  (dSeq (dIf (dB (dBin rEq (dV 2) (dC (.str ""))))
  (dRet (dEm (dTup (dCons (dV 4) (dCons (dC (.int 1)) (dNil))))))
  (dNext))
  (dSeq (dIf (dNot (dB (dFz (dCall sp_is_digits (mCons (dV 3) (mNil))))))
  (dRet (dEm (dC .none)))
  (dNext))
  (dSeq (dAsg (dCall sp_value_of_digits (mCons (dV 3) (mNil))) 5)
  (dSeq (dIf (dOr (dB (dBin rLt (dV 5) (dC (.int 2)))) (dB (dBin rNe (dCB rGcdD (dCons (dV 4) (dCons (dV 5) (dNil)))) (dC (.int 1)))))
  (dRet (dEm (dC .none)))
  (dNext))
  (dRet (dEm (dTup (dCons (dV 4) (dCons (dV 5) (dNil)))))))))))))
theorem r_ratio_of {P : Program} {w : World} {K : PySem.W.Frag} {mg : Str → Option Value} {base : Heap} {H0 : Hp} {R0 : Rg} {B : List (Nat × Addr)} {W : WX} {k : Nat} {f : Addr} {cdv : Value} {A : Around} {outer : List Env} {s : Shared} {H : Hp} {E : XK} (g : Gls P w K mg base) (C : Cq (cxOf (L2N.CX P w) P w K mg base N_ratio_of "ratio_of" s_ratio_of f cdv A outer s H E) W 3) (c_is_digits : Dg P w K mg base "is_digits" 2 ["word"] sp_is_digits) (c_value_of_digits : Dg P w K mg base "value_of_digits" 1 ["word"] sp_value_of_digits) (c_whole_of : Dg P w K mg base "whole_of" 3 ["word"] sp_whole_of)   :
    DSs ⟨K, H0, R0, B⟩ W (cxOf (L2N.CX P w) P w K mg base N_ratio_of "ratio_of" s_ratio_of f cdv A outer s H E) b_ratio_of (t_ratio_of) :=
  dss_cons (ds_if (dt_not (dt_val (di_isi (Tn := "str") rfl g.isinstance_ g.str_ rfl (di_v (pv 0)))))
  (dss_one (ds_ret (de_di (di_non))))
  (dss_nil))
  (dss_cons (ds_asg (is := [1, 2, 3]) (di_fz (de_part (di_v (pv 0)) (di_str))) (dg_name3 (i := 1) (j := 2) (l := 3) rfl rfl sc_ratio_of.nd rfl (by first | exact Or.inl rfl | exact Or.inr rfl) rfl (by first | exact Or.inl rfl | exact Or.inr rfl) rfl (by first | exact Or.inl rfl | exact Or.inr rfl)))
  (dss_cons (ds_set (i := 4) sc_ratio_of.nd rfl (by first | exact Or.inl rfl | exact Or.inr rfl) (de_call rfl (c_whole_of.up (by omega)) C.hr C.gd C.tk (dm_cons (di_v (pv 1)) (dm_nil))))
  (dss_cons (ds_if (dt_cmp od_isN (di_v (pv 4)) (di_non) rfl)
  (dss_one (ds_ret (de_di (di_non))))
  (dss_nil))
  (dss_cons (ds_if (dt_cmp (od_eq C.hu rfl) (di_v (pv 2)) (di_str) rfl)
  (dss_one (ds_ret (de_di (di_tup (da_cons (di_v (pv 4)) (da_cons (di_int) (da_nil)))))))
  (dss_nil))
  (dss_cons (ds_if (dt_not (dt_val (di_fz (de_call rfl (c_is_digits.up (by omega)) C.hr C.gd C.tk (dm_cons (di_v (pv 3)) (dm_nil))))))
  (dss_one (ds_ret (de_di (di_non))))
  (dss_nil))
  (dss_cons (ds_set (i := 5) sc_ratio_of.nd rfl (by first | exact Or.inl rfl | exact Or.inr rfl) (de_call rfl (c_value_of_digits.up (by omega)) C.hr C.gd C.tk (dm_cons (di_v (pv 3)) (dm_nil))))
  (dss_cons (ds_if (dt_w (dw_or (dt_cmp od_lt (di_v (pv 5)) (di_int) rfl) (dw_or1 (dt_cmp (od_ne C.hu rfl) (di_cf cd_gcd g.gcd (da_cons (di_v (pv 4)) (da_cons (di_v (pv 5)) (da_nil)))) (di_int) rfl))))
  (dss_one (ds_ret (de_di (di_non))))
  (dss_nil))
  (dss_one (ds_ret (de_di (di_tup (da_cons (di_v (pv 4)) (da_cons (di_v (pv 5)) (da_nil))))))))))))))

def t_is_row : TSd :=
  dRet (dEm (dIsi2 "tuple" "list" (dV 0)))
theorem r_is_row {P : Program} {w : World} {K : PySem.W.Frag} {mg : Str → Option Value} {base : Heap} {H0 : Hp} {R0 : Rg} {B : List (Nat × Addr)} {W : WX} {k : Nat} {f : Addr} {cdv : Value} {A : Around} {outer : List Env} {s : Shared} {H : Hp} {E : XK} (g : Gls P w K mg base) (C : Cq (cxOf (L2N.CX P w) P w K mg base N_is_row "is_row" s_is_row f cdv A outer s H E) W 0)    :
    DSs ⟨K, H0, R0, B⟩ W (cxOf (L2N.CX P w) P w K mg base N_is_row "is_row" s_is_row f cdv A outer s H E) b_is_row (t_is_row) :=
  dss_one (ds_ret (de_di (di_isi2 (Tn := "tuple") (Un := "list") rfl g.isinstance_ g.tuple_ rfl g.list_ rfl (di_v (pv 0)))))

def t_is_whole : TSd :=
  dRet (dEm (dAndV (dIsi "int" (dV 0)) (dNotV (dIsi "bool" (dV 0)))))
theorem r_is_whole {P : Program} {w : World} {K : PySem.W.Frag} {mg : Str → Option Value} {base : Heap} {H0 : Hp} {R0 : Rg} {B : List (Nat × Addr)} {W : WX} {k : Nat} {f : Addr} {cdv : Value} {A : Around} {outer : List Env} {s : Shared} {H : Hp} {E : XK} (g : Gls P w K mg base) (C : Cq (cxOf (L2N.CX P w) P w K mg base N_is_whole "is_whole" s_is_whole f cdv A outer s H E) W 0)    :
    DSs ⟨K, H0, R0, B⟩ W (cxOf (L2N.CX P w) P w K mg base N_is_whole "is_whole" s_is_whole f cdv A outer s H E) b_is_whole (t_is_whole) :=
  dss_one (ds_ret (de_di (di_and (di_isi (Tn := "int") rfl g.isinstance_ g.int_ rfl (di_v (pv 0))) (di_one (di_not (di_isi (Tn := "bool") rfl g.isinstance_ g.bool_ rfl (di_v (pv 0))))))))

def t_fraction_of : TSd :=
  dSeq (dIf (dB (dIsi "bool" (dV 0)))
  (dRet (dEm (dC .none)))
  (dNext))
  (dSeq (dIf (dB (dIsi "int" (dV 0)))
  (dRet (dEm (dTup (dCons (dV 0) (dCons (dC (.int 1)) (dNil))))))
  (dNext))
  (dSeq (dIf (dB (dIsi "str" (dV 0)))
  (dRet (dCall sp_ratio_of (mCons (dV 0) (mNil))))
  (dNext))
  (dSeq (dIf (dOr (dNot (dB (dIsi "tuple" (dV 0)))) (dB (dBin rNe (dCB rLen (dCons (dV 0) (dNil))) (dC (.int 2)))))
  (dRet (dEm (dC .none)))
  (dNext))
  (dSeq (dAsgG (dV 0) (gN2 1 2))
  (dSeq (dIf (dOr (dNot (dB (dFz (dCall sp_is_whole (mCons (dV 1) (mNil)))))) (dOr (dNot (dB (dFz (dCall sp_is_whole (mCons (dV 2) (mNil)))))) (dB (dBin rLt (dV 2) (dC (.int 1))))))
  (dRet (dEm (dC .none)))
  (dNext))
  (dRet (dCall sp_made_q (mCons (dV 1) (mCons (dV 2) (mNil))))))))))
theorem r_fraction_of {P : Program} {w : World} {K : PySem.W.Frag} {mg : Str → Option Value} {base : Heap} {H0 : Hp} {R0 : Rg} {B : List (Nat × Addr)} {W : WX} {k : Nat} {f : Addr} {cdv : Value} {A : Around} {outer : List Env} {s : Shared} {H : Hp} {E : XK} (g : Gls P w K mg base) (C : Cq (cxOf (L2N.CX P w) P w K mg base N_fraction_of "fraction_of" s_fraction_of f cdv A outer s H E) W 4) (c_made_q : Dg P w K mg base "made_q" 1 ["top", "bottom"] sp_made_q) (c_ratio_of : Dg P w K mg base "ratio_of" 4 ["word"] sp_ratio_of) (c_is_whole : Dg P w K mg base "is_whole" 1 ["thing"] sp_is_whole)   :
    DSs ⟨K, H0, R0, B⟩ W (cxOf (L2N.CX P w) P w K mg base N_fraction_of "fraction_of" s_fraction_of f cdv A outer s H E) b_fraction_of (t_fraction_of) :=
  dss_cons (ds_if (dt_val (di_isi (Tn := "bool") rfl g.isinstance_ g.bool_ rfl (di_v (pv 0))))
  (dss_one (ds_ret (de_di (di_non))))
  (dss_nil))
  (dss_cons (ds_if (dt_val (di_isi (Tn := "int") rfl g.isinstance_ g.int_ rfl (di_v (pv 0))))
  (dss_one (ds_ret (de_di (di_tup (da_cons (di_v (pv 0)) (da_cons (di_int) (da_nil)))))))
  (dss_nil))
  (dss_cons (ds_if (dt_val (di_isi (Tn := "str") rfl g.isinstance_ g.str_ rfl (di_v (pv 0))))
  (dss_one (ds_ret (de_call rfl (c_ratio_of.up (by omega)) C.hr C.gd C.tk (dm_cons (di_v (pv 0)) (dm_nil)))))
  (dss_nil))
  (dss_cons (ds_if (dt_w (dw_or (dt_not (dt_val (di_isi (Tn := "tuple") rfl g.isinstance_ g.tuple_ rfl (di_v (pv 0))))) (dw_or1 (dt_cmp (od_ne C.hu rfl) (di_cb (cd_len rfl) g.len_ boot_len (da_cons (di_v (pv 0)) (da_nil))) (di_int) rfl))))
  (dss_one (ds_ret (de_di (di_non))))
  (dss_nil))
  (dss_cons (ds_asg (is := [1, 2]) (di_v (pv 0)) (dg_name2 (i := 1) (j := 2) rfl rfl sc_fraction_of.nd rfl (by first | exact Or.inl rfl | exact Or.inr rfl) rfl (by first | exact Or.inl rfl | exact Or.inr rfl)))
  (dss_cons (ds_if (dt_w (dw_or (dt_not (dt_val (di_fz (de_call rfl (c_is_whole.up (by omega)) C.hr C.gd C.tk (dm_cons (di_v (pv 1)) (dm_nil)))))) (dw_or (dt_not (dt_val (di_fz (de_call rfl (c_is_whole.up (by omega)) C.hr C.gd C.tk (dm_cons (di_v (pv 2)) (dm_nil)))))) (dw_or1 (dt_cmp od_lt (di_v (pv 2)) (di_int) rfl)))))
  (dss_one (ds_ret (de_di (di_non))))
  (dss_nil))
  (dss_one (ds_ret (de_call rfl (c_made_q.up (by omega)) C.hr C.gd C.tk (dm_cons (di_v (pv 1)) (dm_cons (di_v (pv 2)) (dm_nil)))))))))))

def t_ask_digits (K : PySem.W.Frag) : TSd :=
  dFor (wA (dV 0)) (gN 1)
  (dSeq (dAsg (dCall sp_longer_of (mCons (dV 1) (mNil))) 2)
  (dIf (dB (dBin rGt (dV 2) (dC (.int 60))))
  (dRaise (He.ga K "TooMany") ["what", "count"] (dCons (dC (.str "digits")) (dCons (dV 2) (dNil))))
  (dNext)))
theorem r_ask_digits {P : Program} {w : World} {K : PySem.W.Frag} {mg : Str → Option Value} {base : Heap} {H0 : Hp} {R0 : Rg} {B : List (Nat × Addr)} {W : WX} {k : Nat} {f : Addr} {cdv : Value} {A : Around} {outer : List Env} {s : Shared} {H : Hp} {E : XK} (g : Gls P w K mg base) (C : Cq (cxOf (L2N.CX P w) P w K mg base N_ask_digits "ask_digits" s_ask_digits f cdv A outer s H E) W 2) (c_longer_of : Dg P w K mg base "longer_of" 2 ["q"] sp_longer_of)   :
    DSs ⟨K, H0, R0, B⟩ W (cxOf (L2N.CX P w) P w K mg base N_ask_digits "ask_digits" s_ask_digits f cdv A outer s H E) b_ask_digits (t_ask_digits K) :=
  dss_one (ds_for (is := [1]) C.po rfl (dw_any rfl (di_v (pv 0))) (dg_name (i := 1) sc_ask_digits.nd rfl (by first | exact Or.inl rfl | exact Or.inr rfl))
  (dss_cons (ds_set (i := 2) sc_ask_digits.nd rfl (by first | exact Or.inl rfl | exact Or.inr rfl) (de_call rfl (c_longer_of.up (by omega)) C.hr C.gd C.tk (dm_cons (di_v (pv 1)) (dm_nil))))
  (dss_one (ds_if (dt_cmp od_gt (di_v (pv 2)) (di_gint rfl g.MOST_DIGITS) rfl)
  (dss_one (ds_raise rfl g.TooMany_E (C.hr.mono (by decide)) rfl C.tk (by decide) (da_cons (di_str) (da_cons (di_v (pv 2)) (da_nil)))))
  (dss_nil)))))

def t_counts_among (K : PySem.W.Frag) : TSd :=
  dSeq (dAsg (dLst (dNil)) 3)
  (dSeq (dFor (wEn (dCons (dV 0) (dNil))) (gN2 4 5)
  (dSeq (dAsg (dCall sp_fraction_of (mCons (dV 5) (mNil))) 6)
  (dSeq (dIf (dB (dBin rIsN (dV 6) (dC .none)))
  (dRaise (He.ga K "BadCounts") ["at", "why"] (dCons (dV 4) (dCons (dC (.str "this item is no number")) (dNil))))
  (dNext))
  (dSeq (dIf (dB (dBin rLt (dIx (dV 6) (dC (.int 0))) (dC (.int 0))))
  (dRaise (He.ga K "BadCounts") ["at", "why"] (dCons (dV 4) (dCons (dC (.str "this number is below 0")) (dNil))))
  (dNext))
  (dSeq (dIf (dAnd (dB (dV 1)) (dB (dBin rEq (dIx (dV 6) (dC (.int 0))) (dC (.int 0)))))
  (dRaise (He.ga K "BadCounts") ["at", "why"] (dCons (dV 4) (dCons (dC (.str "this number is 0, but full counts are asked")) (dNil))))
  (dNext))
  (dSeq (dIf (dAnd (dB (dV 2)) (dB (dBin rNe (dIx (dV 6) (dC (.int 1))) (dC (.int 1)))))
  (dRaise (He.ga K "BadCounts") ["at", "why"] (dCons (dV 4) (dCons (dC (.str "this number is not whole")) (dNil))))
  (dNext))
  (dDrop (dEm (dApp 3 (dV 6))))))))))
  (dRet (dM 3)))
theorem r_counts_among {P : Program} {w : World} {K : PySem.W.Frag} {mg : Str → Option Value} {base : Heap} {H0 : Hp} {R0 : Rg} {B : List (Nat × Addr)} {W : WX} {k : Nat} {f : Addr} {cdv : Value} {A : Around} {outer : List Env} {s : Shared} {H : Hp} {E : XK} (g : Gls P w K mg base) (C : Cq (cxOf (L2N.CX P w) P w K mg base N_counts_among "counts_among" s_counts_among f cdv A outer s H E) W 5) (c_fraction_of : Dg P w K mg base "fraction_of" 5 ["thing"] sp_fraction_of)   :
    DSs ⟨K, H0, R0, B⟩ W (cxOf (L2N.CX P w) P w K mg base N_counts_among "counts_among" s_counts_among f cdv A outer s H E) b_counts_among (t_counts_among K) :=
  dss_cons (ds_set (i := 3) sc_counts_among.nd rfl (by first | exact Or.inl rfl | exact Or.inr rfl) (de_lst (da_nil)))
  (dss_cons (ds_for (is := [4, 5]) C.po rfl (dw_enum rfl g.enumerate_ (da_cons (di_v (pv 0)) (da_nil))) (dg_name2 (i := 4) (j := 5) rfl rfl sc_counts_among.nd rfl (by first | exact Or.inl rfl | exact Or.inr rfl) rfl (by first | exact Or.inl rfl | exact Or.inr rfl))
  (dss_cons (ds_set (i := 6) sc_counts_among.nd rfl (by first | exact Or.inl rfl | exact Or.inr rfl) (de_call rfl (c_fraction_of.up (by omega)) C.hr C.gd C.tk (dm_cons (di_v (pv 5)) (dm_nil))))
  (dss_cons (ds_if (dt_cmp od_isN (di_v (pv 6)) (di_non) rfl)
  (dss_one (ds_raise rfl g.BadCounts_E (C.hr.mono (by decide)) rfl C.tk (by decide) (da_cons (di_v (pv 4)) (da_cons (di_str) (da_nil)))))
  (dss_nil))
  (dss_cons (ds_if (dt_cmp od_lt (di_ix rfl (di_v (pv 6)) (di_int)) (di_int) rfl)
  (dss_one (ds_raise rfl g.BadCounts_E (C.hr.mono (by decide)) rfl C.tk (by decide) (da_cons (di_v (pv 4)) (da_cons (di_str) (da_nil)))))
  (dss_nil))
  (dss_cons (ds_if (dt_w (dw_and (dt_val (di_v (pv 1))) (dw_and1 (dt_cmp (od_eq C.hu rfl) (di_ix rfl (di_v (pv 6)) (di_int)) (di_int) rfl))))
  (dss_one (ds_raise rfl g.BadCounts_E (C.hr.mono (by decide)) rfl C.tk (by decide) (da_cons (di_v (pv 4)) (da_cons (di_str) (da_nil)))))
  (dss_nil))
  (dss_cons (ds_if (dt_w (dw_and (dt_val (di_v (pv 2))) (dw_and1 (dt_cmp (od_ne C.hu rfl) (di_ix rfl (di_v (pv 6)) (di_int)) (di_int) rfl))))
  (dss_one (ds_raise rfl g.BadCounts_E (C.hr.mono (by decide)) rfl C.tk (by decide) (da_cons (di_v (pv 4)) (da_cons (di_str) (da_nil)))))
  (dss_nil))
  (dss_one (ds_expr (de_di (di_append rfl (pv 3) (di_v (pv 6))))))))))))
  (dss_one (ds_ret (de_m (pv 3)))))

def t_table_among (K : PySem.W.Frag) : TSd :=
  dSeq (dAsg (dLst (dNil)) 2)
  (dSeq (dFor (wA (dV 0)) (gN 3)
  (dSeq (dAsg (dCall sp_fraction_of (mCons (dV 3) (mNil))) 4)
  (dSeq (dIf (dB (dBin rIsN (dV 4) (dC .none)))
  (dRaise (He.ga K "BadTable") ["why"] (dCons (dC (.str "an item is no number")) (dNil)))
  (dNext))
  (dSeq (dIf (dB (dBin rLt (dIx (dV 4) (dC (.int 0))) (dC (.int 0))))
  (dRaise (He.ga K "BadTable") ["why"] (dCons (dC (.str "a number is below 0")) (dNil)))
  (dNext))
  (dSeq (dIf (dAnd (dB (dBin rEq (dIx (dV 4) (dC (.int 0))) (dC (.int 0)))) (dNot (dB (dV 1))))
  (dRaise (He.ga K "BadTable") ["why"] (dCons (dC (.str "a number is 0, but a table is asked")) (dNil)))
  (dNext))
  (dDrop (dEm (dApp 2 (dV 4)))))))))
  (dSeq (dIf (dB (dBin rNe (dFz (dCall sp_sum_q (mCons (dV 2) (mNil)))) (dTup (dCons (dC (.int 1)) (dCons (dC (.int 1)) (dNil))))))
  (dRaise (He.ga K "BadTable") ["why"] (dCons (dC (.str "the numbers do not add up to 1")) (dNil)))
  (dNext))
  (dRet (dM 2))))
theorem r_table_among {P : Program} {w : World} {K : PySem.W.Frag} {mg : Str → Option Value} {base : Heap} {H0 : Hp} {R0 : Rg} {B : List (Nat × Addr)} {W : WX} {k : Nat} {f : Addr} {cdv : Value} {A : Around} {outer : List Env} {s : Shared} {H : Hp} {E : XK} (g : Gls P w K mg base) (C : Cq (cxOf (L2N.CX P w) P w K mg base N_table_among "table_among" s_table_among f cdv A outer s H E) W 5) (c_sum_q : Dg P w K mg base "sum_q" 3 ["row"] sp_sum_q) (c_fraction_of : Dg P w K mg base "fraction_of" 5 ["thing"] sp_fraction_of)   :
    DSs ⟨K, H0, R0, B⟩ W (cxOf (L2N.CX P w) P w K mg base N_table_among "table_among" s_table_among f cdv A outer s H E) b_table_among (t_table_among K) :=
  dss_cons (ds_set (i := 2) sc_table_among.nd rfl (by first | exact Or.inl rfl | exact Or.inr rfl) (de_lst (da_nil)))
  (dss_cons (ds_for (is := [3]) C.po rfl (dw_any rfl (di_v (pv 0))) (dg_name (i := 3) sc_table_among.nd rfl (by first | exact Or.inl rfl | exact Or.inr rfl))
  (dss_cons (ds_set (i := 4) sc_table_among.nd rfl (by first | exact Or.inl rfl | exact Or.inr rfl) (de_call rfl (c_fraction_of.up (by omega)) C.hr C.gd C.tk (dm_cons (di_v (pv 3)) (dm_nil))))
  (dss_cons (ds_if (dt_cmp od_isN (di_v (pv 4)) (di_non) rfl)
  (dss_one (ds_raise rfl g.BadTable_E (C.hr.mono (by decide)) rfl C.tk (by decide) (da_cons (di_str) (da_nil))))
  (dss_nil))
  (dss_cons (ds_if (dt_cmp od_lt (di_ix rfl (di_v (pv 4)) (di_int)) (di_int) rfl)
  (dss_one (ds_raise rfl g.BadTable_E (C.hr.mono (by decide)) rfl C.tk (by decide) (da_cons (di_str) (da_nil))))
  (dss_nil))
  (dss_cons (ds_if (dt_w (dw_and (dt_cmp (od_eq C.hu rfl) (di_ix rfl (di_v (pv 4)) (di_int)) (di_int) rfl) (dw_and1 (dt_not (dt_val (di_v (pv 1)))))))
  (dss_one (ds_raise rfl g.BadTable_E (C.hr.mono (by decide)) rfl C.tk (by decide) (da_cons (di_str) (da_nil))))
  (dss_nil))
  (dss_one (ds_expr (de_di (di_append rfl (pv 2) (di_v (pv 4)))))))))))
  (dss_cons (ds_if (dt_cmp (od_ne C.hu rfl) (di_fz (de_call rfl (c_sum_q.up (by omega)) C.hr C.gd C.tk (dm_cons (di_v (pv 2)) (dm_nil)))) (di_tup (da_cons (di_int) (da_cons (di_int) (da_nil)))) rfl)
  (dss_one (ds_raise rfl g.BadTable_E (C.hr.mono (by decide)) rfl C.tk (by decide) (da_cons (di_str) (da_nil))))
  (dss_nil))
  (dss_one (ds_ret (de_m (pv 2))))))

def t_bare_table (K : PySem.W.Frag) : TSd :=
  dSeq (dIf (dNot (dB (dFz (dCall sp_is_row (mCons (dV 0) (mNil))))))
  (dRaise (He.ga K "BadTable") ["why"] (dCons (dC (.str "an edge table is a row of numbers")) (dNil)))
  (dNext))
  (dRet (dCall (sp_table_among K) (mCons (dFz (dLo (dV 0))) (mCons (dC (.bool true)) (mNil)))))
theorem r_bare_table {P : Program} {w : World} {K : PySem.W.Frag} {mg : Str → Option Value} {base : Heap} {H0 : Hp} {R0 : Rg} {B : List (Nat × Addr)} {W : WX} {k : Nat} {f : Addr} {cdv : Value} {A : Around} {outer : List Env} {s : Shared} {H : Hp} {E : XK} (g : Gls P w K mg base) (C : Cq (cxOf (L2N.CX P w) P w K mg base N_bare_table "bare_table" s_bare_table f cdv A outer s H E) W 6) (c_is_row : Dg P w K mg base "is_row" 1 ["thing"] sp_is_row) (c_table_among : Dg P w K mg base "table_among" 6 ["items", "edge"] (sp_table_among K))   :
    DSs ⟨K, H0, R0, B⟩ W (cxOf (L2N.CX P w) P w K mg base N_bare_table "bare_table" s_bare_table f cdv A outer s H E) b_bare_table (t_bare_table K) :=
  dss_cons (ds_if (dt_not (dt_val (di_fz (de_call rfl (c_is_row.up (by omega)) C.hr C.gd C.tk (dm_cons (di_v (pv 0)) (dm_nil))))))
  (dss_one (ds_raise rfl g.BadTable_E (C.hr.mono (by decide)) rfl C.tk (by decide) (da_cons (di_str) (da_nil))))
  (dss_nil))
  (dss_one (ds_ret (de_call rfl (c_table_among.up (by omega)) C.hr C.gd C.tk (dm_cons (di_fz (de_lo rfl g.list_ (di_v (pv 0)))) (dm_cons (di_bl) (dm_nil))))))

def t_bare_counts (K : PySem.W.Frag) : TSd :=
  dSeq (dIf (dOr (dNot (dB (dFz (dCall sp_is_row (mCons (dV 0) (mNil)))))) (dB (dBin rNe (dCB rLen (dCons (dV 0) (dNil))) (dV 1))))
  (dRaise (He.ga K "BadCounts") ["at", "why"] (dCons (dNeg (dC (.int 1))) (dCons (dC (.str "counts are a row with as many numbers as the table")) (dNil))))
  (dNext))
  (dRet (dCall (sp_counts_among K) (mCons (dFz (dLo (dV 0))) (mCons (dC (.bool false)) (mCons (dV 2) (mNil))))))
theorem r_bare_counts {P : Program} {w : World} {K : PySem.W.Frag} {mg : Str → Option Value} {base : Heap} {H0 : Hp} {R0 : Rg} {B : List (Nat × Addr)} {W : WX} {k : Nat} {f : Addr} {cdv : Value} {A : Around} {outer : List Env} {s : Shared} {H : Hp} {E : XK} (g : Gls P w K mg base) (C : Cq (cxOf (L2N.CX P w) P w K mg base N_bare_counts "bare_counts" s_bare_counts f cdv A outer s H E) W 6) (c_is_row : Dg P w K mg base "is_row" 1 ["thing"] sp_is_row) (c_counts_among : Dg P w K mg base "counts_among" 6 ["items", "full", "whole"] (sp_counts_among K))   :
    DSs ⟨K, H0, R0, B⟩ W (cxOf (L2N.CX P w) P w K mg base N_bare_counts "bare_counts" s_bare_counts f cdv A outer s H E) b_bare_counts (t_bare_counts K) :=
  dss_cons (ds_if (dt_w (dw_or (dt_not (dt_val (di_fz (de_call rfl (c_is_row.up (by omega)) C.hr C.gd C.tk (dm_cons (di_v (pv 0)) (dm_nil)))))) (dw_or1 (dt_cmp (od_ne C.hu rfl) (di_cb (cd_len rfl) g.len_ boot_len (da_cons (di_v (pv 0)) (da_nil))) (di_v (pv 1)) rfl))))
  (dss_one (ds_raise rfl g.BadCounts_E (C.hr.mono (by decide)) rfl C.tk (by decide) (da_cons (di_neg (di_int)) (da_cons (di_str) (da_nil)))))
  (dss_nil))
  (dss_one (ds_ret (de_call rfl (c_counts_among.up (by omega)) C.hr C.gd C.tk (dm_cons (di_fz (de_lo rfl g.list_ (di_v (pv 0)))) (dm_cons (di_bl) (dm_cons (di_v (pv 2)) (dm_nil)))))))

def t_ask_cells (K : PySem.W.Frag) : TSd :=
  dIf (dB (dBin rGt (dV 0) (dC (.int 32))))
  (dRaise (He.ga K "TooMany") ["what", "count"] (dCons (dC (.str "cells")) (dCons (dV 0) (dNil))))
  (dNext)
theorem r_ask_cells {P : Program} {w : World} {K : PySem.W.Frag} {mg : Str → Option Value} {base : Heap} {H0 : Hp} {R0 : Rg} {B : List (Nat × Addr)} {W : WX} {k : Nat} {f : Addr} {cdv : Value} {A : Around} {outer : List Env} {s : Shared} {H : Hp} {E : XK} (g : Gls P w K mg base) (C : Cq (cxOf (L2N.CX P w) P w K mg base N_ask_cells "ask_cells" s_ask_cells f cdv A outer s H E) W 2)    :
    DSs ⟨K, H0, R0, B⟩ W (cxOf (L2N.CX P w) P w K mg base N_ask_cells "ask_cells" s_ask_cells f cdv A outer s H E) b_ask_cells (t_ask_cells K) :=
  dss_one (ds_if (dt_cmp od_gt (di_v (pv 0)) (di_gint rfl g.MOST_CELLS) rfl)
  (dss_one (ds_raise rfl g.TooMany_E (C.hr.mono (by decide)) rfl C.tk (by decide) (da_cons (di_str) (da_cons (di_v (pv 0)) (da_nil)))))
  (dss_nil))

def t_ask_total (K : PySem.W.Frag) : TSd :=
  dIf (dB (dBin rGt (dV 0) (dC (.int 2000))))
  (dRaise (He.ga K "TooMany") ["what", "count"] (dCons (dC (.str "total")) (dCons (dV 0) (dNil))))
  (dNext)
theorem r_ask_total {P : Program} {w : World} {K : PySem.W.Frag} {mg : Str → Option Value} {base : Heap} {H0 : Hp} {R0 : Rg} {B : List (Nat × Addr)} {W : WX} {k : Nat} {f : Addr} {cdv : Value} {A : Around} {outer : List Env} {s : Shared} {H : Hp} {E : XK} (g : Gls P w K mg base) (C : Cq (cxOf (L2N.CX P w) P w K mg base N_ask_total "ask_total" s_ask_total f cdv A outer s H E) W 2)    :
    DSs ⟨K, H0, R0, B⟩ W (cxOf (L2N.CX P w) P w K mg base N_ask_total "ask_total" s_ask_total f cdv A outer s H E) b_ask_total (t_ask_total K) :=
  dss_one (ds_if (dt_cmp od_gt (di_v (pv 0)) (di_gint rfl g.MOST_TOTAL) rfl)
  (dss_one (ds_raise rfl g.TooMany_E (C.hr.mono (by decide)) rfl C.tk (by decide) (da_cons (di_str) (da_cons (di_v (pv 0)) (da_nil)))))
  (dss_nil))

def t_fits_better (K : PySem.W.Frag) : TSd :=
  dSeq (dAsg (dCall (sp_bare_table K) (mCons (dV 0) (mNil))) 3)
  (dSeq (dAsg (dCall (sp_bare_table K) (mCons (dV 1) (mNil))) 4)
  (dSeq (dIf (dB (dBin rNe (dCB rLen (dCons (dV 4) (dNil))) (dCB rLen (dCons (dV 3) (dNil)))))
  (dRaise (He.ga K "BadTable") ["why"] (dCons (dC (.str "the second table has another length than the first one")) (dNil)))
  (dNext))
  (dSeq (dAsg (dCall (sp_bare_counts K) (mCons (dV 2) (mCons (dCB rLen (dCons (dV 3) (dNil))) (mCons (dC (.bool false)) (mNil))))) 5)
  (dSeq (dDrop (dCall (sp_ask_cells K) (mCons (dCB rLen (dCons (dV 3) (dNil))) (mNil))))
  (dSeq (dDrop (dCall (sp_ask_digits K) (mCons (dV 3) (mNil))))
  (dSeq (dDrop (dCall (sp_ask_digits K) (mCons (dV 4) (mNil))))
  (dSeq (dDrop (dCall (sp_ask_digits K) (mCons (dV 5) (mNil))))
  (dSeq (dAsg (dCall sp_least_multiple (mCons (dV 5) (mNil))) 6)
  (dSeq (dDrop (dCall (sp_ask_total K) (mCons (dCB rSumD (dCons (dV 6) (dNil))) (mNil))))
  (dRet (dCall sp_compared_fits (mCons (dV 3) (mCons (dV 4) (mCons (dV 6) (mNil)))))))))))))))
theorem r_fits_better {P : Program} {w : World} {K : PySem.W.Frag} {mg : Str → Option Value} {base : Heap} {H0 : Hp} {R0 : Rg} {B : List (Nat × Addr)} {W : WX} {k : Nat} {f : Addr} {cdv : Value} {A : Around} {outer : List Env} {s : Shared} {H : Hp} {E : XK} (g : Gls P w K mg base) (C : Cq (cxOf (L2N.CX P w) P w K mg base N_fits_better "fits_better" s_fits_better f cdv A outer s H E) W 7) (c_ask_digits : Dg P w K mg base "ask_digits" 3 ["row"] (sp_ask_digits K)) (c_bare_table : Dg P w K mg base "bare_table" 7 ["thing"] (sp_bare_table K)) (c_bare_counts : Dg P w K mg base "bare_counts" 7 ["thing", "many", "whole"] (sp_bare_counts K)) (c_ask_cells : Dg P w K mg base "ask_cells" 3 ["many"] (sp_ask_cells K)) (c_ask_total : Dg P w K mg base "ask_total" 3 ["total"] (sp_ask_total K)) (c_least_multiple : Dg P w K mg base "least_multiple" 1 ["counts"] sp_least_multiple) (c_compared_fits : Dg P w K mg base "compared_fits" 3 ["left", "right", "times"] sp_compared_fits)   :
    DSs ⟨K, H0, R0, B⟩ W (cxOf (L2N.CX P w) P w K mg base N_fits_better "fits_better" s_fits_better f cdv A outer s H E) b_fits_better (t_fits_better K) :=
  dss_cons (ds_set (i := 3) sc_fits_better.nd rfl (by first | exact Or.inl rfl | exact Or.inr rfl) (de_call rfl (c_bare_table.up (by omega)) C.hr C.gd C.tk (dm_cons (di_v (pv 0)) (dm_nil))))
  (dss_cons (ds_set (i := 4) sc_fits_better.nd rfl (by first | exact Or.inl rfl | exact Or.inr rfl) (de_call rfl (c_bare_table.up (by omega)) C.hr C.gd C.tk (dm_cons (di_v (pv 1)) (dm_nil))))
  (dss_cons (ds_if (dt_cmp (od_ne C.hu rfl) (di_cb (cd_len rfl) g.len_ boot_len (da_cons (di_v (pv 4)) (da_nil))) (di_cb (cd_len rfl) g.len_ boot_len (da_cons (di_v (pv 3)) (da_nil))) rfl)
  (dss_one (ds_raise rfl g.BadTable_E (C.hr.mono (by decide)) rfl C.tk (by decide) (da_cons (di_str) (da_nil))))
  (dss_nil))
  (dss_cons (ds_set (i := 5) sc_fits_better.nd rfl (by first | exact Or.inl rfl | exact Or.inr rfl) (de_call rfl (c_bare_counts.up (by omega)) C.hr C.gd C.tk (dm_cons (di_v (pv 2)) (dm_cons (di_cb (cd_len rfl) g.len_ boot_len (da_cons (di_v (pv 3)) (da_nil))) (dm_cons (di_bl) (dm_nil))))))
  (dss_cons (ds_expr (de_call rfl (c_ask_cells.up (by omega)) C.hr C.gd C.tk (dm_cons (di_cb (cd_len rfl) g.len_ boot_len (da_cons (di_v (pv 3)) (da_nil))) (dm_nil))))
  (dss_cons (ds_expr (de_call rfl (c_ask_digits.up (by omega)) C.hr C.gd C.tk (dm_cons (di_v (pv 3)) (dm_nil))))
  (dss_cons (ds_expr (de_call rfl (c_ask_digits.up (by omega)) C.hr C.gd C.tk (dm_cons (di_v (pv 4)) (dm_nil))))
  (dss_cons (ds_expr (de_call rfl (c_ask_digits.up (by omega)) C.hr C.gd C.tk (dm_cons (di_v (pv 5)) (dm_nil))))
  (dss_cons (ds_set (i := 6) sc_fits_better.nd rfl (by first | exact Or.inl rfl | exact Or.inr rfl) (de_call rfl (c_least_multiple.up (by omega)) C.hr C.gd C.tk (dm_cons (di_v (pv 5)) (dm_nil))))
  (dss_cons (ds_expr (de_call rfl (c_ask_total.up (by omega)) C.hr C.gd C.tk (dm_cons (di_cb (cd_sum rfl rfl) g.sum_ boot_sum (da_cons (di_v (pv 6)) (da_nil))) (dm_nil))))
  (dss_one (ds_ret (de_call rfl (c_compared_fits.up (by omega)) C.hr C.gd C.tk (dm_cons (di_v (pv 3)) (dm_cons (di_v (pv 4)) (dm_cons (di_v (pv 6)) (dm_nil))))))))))))))))

end K1


/-! text R3 -/
set_option Elab.async false
set_option linter.all false
set_option maxRecDepth 100000
set_option maxHeartbeats 0

namespace K1
open PySem PySem.Spec PyProof.Rows L2 L2H DL

def t_law_jar : TSd :=
  dSeq (dAsg (dEm (dC (.int 30011))) 1)
  (dSeq (dFor (wA (dFz (dSl (dV 0) (pNo) (pSo (dC (.int 63)))))) (gN 2)
  (dAsg (dEm (dBin rMod (dCB rInt (dCons (dBin rAdd (dBin rAdd (dBin rMul (dV 1) (dC (.int 69621))) (dBin rMod (dCB rInt (dCons (dV 2) (dNil))) (dC (.int 2147483629)))) (dC (.int 11))) (dNil))) (dC (.int 2147483647)))) 1))
  (dRet (dLst (dCons (dFz (dLo (dFz (dSl (dV 0) (pNo) (pSo (dC (.int 63))))))) (dCons (dC (.int 0)) (dCons (dC (.int 0)) (dCons (dC (.int 0)) (dCons (dV 1) (dCons (dC (.int 0)) (dNil))))))))))
theorem r_law_jar {P : Program} {w : World} {K : PySem.W.Frag} {mg : Str → Option Value} {base : Heap} {H0 : Hp} {R0 : Rg} {B : List (Nat × Addr)} {W : WX} {k : Nat} {f : Addr} {cdv : Value} {A : Around} {outer : List Env} {s : Shared} {H : Hp} {E : XK} (g : Gls P w K mg base) (C : Cq (cxOf (L2N.CX P w) P w K mg base N_law_jar "_law_jar" s_law_jar f cdv A outer s H E) W 0)    :
    DSs ⟨K, H0, R0, B⟩ W (cxOf (L2N.CX P w) P w K mg base N_law_jar "_law_jar" s_law_jar f cdv A outer s H E) b_law_jar (t_law_jar) :=
  dss_cons (ds_set (i := 1) sc_law_jar.nd rfl (by first | exact Or.inl rfl | exact Or.inr rfl) (de_di (di_int)))
  (dss_cons (ds_for (is := [2]) C.po rfl (dw_any rfl (di_fz (de_sl rfl (di_v (pv 0)) (dp_no) (dp_so (di_int))))) (dg_name (i := 2) sc_law_jar.nd rfl (by first | exact Or.inl rfl | exact Or.inr rfl))
  (dss_one (ds_set (i := 1) sc_law_jar.nd rfl (by first | exact Or.inl rfl | exact Or.inr rfl) (de_di (di_op od_mod (di_ct cd_int g.int_ rfl (da_cons (di_op od_add (di_op od_add (di_op od_mul (di_v (pv 1)) (di_int)) (di_op od_mod (di_ct cd_int g.int_ rfl (da_cons (di_v (pv 2)) (da_nil))) (di_int))) (di_int)) (da_nil))) (di_int))))))
  (dss_one (ds_ret (de_lst (da_cons (di_fz (de_lo rfl g.list_ (di_fz (de_sl rfl (di_v (pv 0)) (dp_no) (dp_so (di_int)))))) (da_cons (di_int) (da_cons (di_int) (da_cons (di_int) (da_cons (di_v (pv 1)) (da_cons (di_int) (da_nil)))))))))))

def t_law_draw : TSd :=
  dSeq (dSetIx 0 (dBin rAdd (dIxN 0 (dC (.int 5))) (dC (.int 1))) (dC (.int 5)))
  (dSeq (dIf (dAnd (dB (dBin rEq (dIxN 0 (dC (.int 2))) (dC (.int 0)))) (dB (dBin rLt (dIxN 0 (dC (.int 1))) (dCB rLen (dCons (dIxN 0 (dC (.int 0))) (dNil))))))
  (dSeq (dAsg (dEm (dIx (dIxN 0 (dC (.int 0))) (dIxN 0 (dC (.int 1))))) 2)
  (dSeq (dSetIx 0 (dBin rAdd (dIxN 0 (dC (.int 1))) (dC (.int 1))) (dC (.int 1)))
  (dIf (dB (dBin rGe (dV 2) (dBin rPow (dC (.int 10)) (dC (.int 18)))))
  (dSeq (dSetIx 0 (dV 2) (dC (.int 2)))
  (dSetIx 0 (dC (.int 60)) (dC (.int 3))))
  (dSetIx 0 (dBin rMod (dCB rInt (dCons (dBin rAdd (dBin rAdd (dBin rMul (dIxN 0 (dC (.int 4))) (dC (.int 40014))) (dBin rMod (dCB rInt (dCons (dV 2) (dNil))) (dC (.int 2147483629)))) (dC (.int 97))) (dNil))) (dC (.int 2147483647))) (dC (.int 4))))))
  (dNext))
  (dSeq (dIf (dB (dBin rGt (dIxN 0 (dC (.int 2))) (dC (.int 0))))
  (dSeq (dAsg (dEm (dBin rMod (dCB rInt (dCons (dIxN 0 (dC (.int 2))) (dNil))) (dV 1))) 3)
  (dSeq (dSetIx 0 (dBin rSub (dIxN 0 (dC (.int 3))) (dC (.int 1))) (dC (.int 3)))
  (dSeq (dSetIx 0 (dIfE (dB (dBin rGt (dIxN 0 (dC (.int 3))) (dC (.int 0)))) (dBin rDiv (dIxN 0 (dC (.int 2))) (dV 1)) (dC (.int 0))) (dC (.int 2)))
  (dRet (dM 3)))))
  (dNext))
  (dSeq (dSetIx 0 (dBin rMod (dCB rInt (dCons (dBin rAdd (dBin rAdd (dBin rAdd (dBin rMul (dBin rMul (dIxN 0 (dC (.int 4))) (dIxN 0 (dC (.int 4)))) (dC (.int 48271))) (dBin rMul (dIxN 0 (dC (.int 4))) (dC (.int 16807)))) (dBin rMul (dIxN 0 (dC (.int 5))) (dC (.int 1000003)))) (dC (.int 7919))) (dNil))) (dC (.int 2147483647))) (dC (.int 4)))
  (dRet (dEm (dBin rMod (dCB rInt (dCons (dBin rAdd (dBin rDiv (dIxN 0 (dC (.int 4))) (dC (.int 37))) (dBin rMul (dBin rMod (dCB rInt (dCons (dIxN 0 (dC (.int 4))) (dNil))) (dC (.int 8191))) (dC (.int 103)))) (dNil))) (dV 1)))))))
theorem r_law_draw {P : Program} {w : World} {K : PySem.W.Frag} {mg : Str → Option Value} {base : Heap} {H0 : Hp} {R0 : Rg} {B : List (Nat × Addr)} {W : WX} {k : Nat} {f : Addr} {cdv : Value} {A : Around} {outer : List Env} {s : Shared} {H : Hp} {E : XK} (g : Gls P w K mg base) (C : Cq (cxOf (L2N.CX P w) P w K mg base N_law_draw "_law_draw" s_law_draw f cdv A outer s H E) W 0)    :
    DSs ⟨K, H0, R0, B⟩ W (cxOf (L2N.CX P w) P w K mg base N_law_draw "_law_draw" s_law_draw f cdv A outer s H E) b_law_draw (t_law_draw) :=
  dss_cons (ds_setIx (di_op od_add (di_ixN rfl (pv 0) (di_int)) (di_int)) (pv 0) (di_int) (fun _ => rfl))
  (dss_cons (ds_if (dt_w (dw_and (dt_cmp (od_eq C.hu rfl) (di_ixN rfl (pv 0) (di_int)) (di_int) rfl) (dw_and1 (dt_cmp od_lt (di_ixN rfl (pv 0) (di_int)) (di_cb (cd_len rfl) g.len_ boot_len (da_cons (di_ixN rfl (pv 0) (di_int)) (da_nil))) rfl))))
  (dss_cons (ds_set (i := 2) sc_law_draw.nd rfl (by first | exact Or.inl rfl | exact Or.inr rfl) (de_di (di_ix rfl (di_ixN rfl (pv 0) (di_int)) (di_ixN rfl (pv 0) (di_int)))))
  (dss_cons (ds_setIx (di_op od_add (di_ixN rfl (pv 0) (di_int)) (di_int)) (pv 0) (di_int) (fun _ => rfl))
  (dss_one (ds_if (dt_cmp od_ge (di_v (pv 2)) (di_op od_pow (di_int) (di_int)) rfl)
  (dss_cons (ds_setIx (di_v (pv 2)) (pv 0) (di_int) (fun _ => rfl))
  (dss_one (ds_setIx (di_int) (pv 0) (di_int) (fun _ => rfl))))
  (dss_one (ds_setIx (di_op od_mod (di_ct cd_int g.int_ rfl (da_cons (di_op od_add (di_op od_add (di_op od_mul (di_ixN rfl (pv 0) (di_int)) (di_int)) (di_op od_mod (di_ct cd_int g.int_ rfl (da_cons (di_v (pv 2)) (da_nil))) (di_int))) (di_int)) (da_nil))) (di_int)) (pv 0) (di_int) (fun _ => rfl)))))))
  (dss_nil))
  (dss_cons (ds_if (dt_cmp od_gt (di_ixN rfl (pv 0) (di_int)) (di_int) rfl)
  (dss_cons (ds_set (i := 3) sc_law_draw.nd rfl (by first | exact Or.inl rfl | exact Or.inr rfl) (de_di (di_op od_mod (di_ct cd_int g.int_ rfl (da_cons (di_ixN rfl (pv 0) (di_int)) (da_nil))) (di_v (pv 1)))))
  (dss_cons (ds_setIx (di_op od_sub (di_ixN rfl (pv 0) (di_int)) (di_int)) (pv 0) (di_int) (fun _ => rfl))
  (dss_cons (ds_setIx (di_if (dt_cmp od_gt (di_ixN rfl (pv 0) (di_int)) (di_int) rfl) (di_op od_div (di_ixN rfl (pv 0) (di_int)) (di_v (pv 1))) (di_int)) (pv 0) (di_int) (fun _ => rfl))
  (dss_one (ds_ret (de_m (pv 3)))))))
  (dss_nil))
  (dss_cons (ds_setIx (di_op od_mod (di_ct cd_int g.int_ rfl (da_cons (di_op od_add (di_op od_add (di_op od_add (di_op od_mul (di_op od_mul (di_ixN rfl (pv 0) (di_int)) (di_ixN rfl (pv 0) (di_int))) (di_int)) (di_op od_mul (di_ixN rfl (pv 0) (di_int)) (di_int))) (di_op od_mul (di_ixN rfl (pv 0) (di_int)) (di_int))) (di_int)) (da_nil))) (di_int)) (pv 0) (di_int) (fun _ => rfl))
  (dss_one (ds_ret (de_di (di_op od_mod (di_ct cd_int g.int_ rfl (da_cons (di_op od_add (di_op od_div (di_ixN rfl (pv 0) (di_int)) (di_int)) (di_op od_mul (di_op od_mod (di_ct cd_int g.int_ rfl (da_cons (di_ixN rfl (pv 0) (di_int)) (da_nil))) (di_int)) (di_int))) (da_nil))) (di_v (pv 1)))))))))

def t_law_pick : TSd :=
  dRet (dEm (dIx (dV 1) (dFz (dCall sp_law_draw (mMut 0 (mCons (dCB rLen (dCons (dV 1) (dNil))) (mNil)))))))
theorem r_law_pick {P : Program} {w : World} {K : PySem.W.Frag} {mg : Str → Option Value} {base : Heap} {H0 : Hp} {R0 : Rg} {B : List (Nat × Addr)} {W : WX} {k : Nat} {f : Addr} {cdv : Value} {A : Around} {outer : List Env} {s : Shared} {H : Hp} {E : XK} (g : Gls P w K mg base) (C : Cq (cxOf (L2N.CX P w) P w K mg base N_law_pick "_law_pick" s_law_pick f cdv A outer s H E) W 1) (c_law_draw : Dg P w K mg base "_law_draw" 1 ["jar", "many"] sp_law_draw)   :
    DSs ⟨K, H0, R0, B⟩ W (cxOf (L2N.CX P w) P w K mg base N_law_pick "_law_pick" s_law_pick f cdv A outer s H E) b_law_pick (t_law_pick) :=
  dss_one (ds_ret (de_di (di_ix rfl (di_v (pv 1)) (di_fz (de_call rfl (c_law_draw.up (by omega)) C.hr C.gd C.tk (dm_mut (pv 0) (dm_cons (di_cb (cd_len rfl) g.len_ boot_len (da_cons (di_v (pv 1)) (da_nil))) (dm_nil))))))))

def t_law_great : TSd :=
  dSeq (dAsg (dEm (dBin rAdd (dC (.int 1)) (dFz (dCall sp_law_draw (mMut 0 (mCons (dC (.int 9)) (mNil))))))) 2)
  (dSeq (dFor (wR1 (dCons (dBin rSub (dV 1) (dC (.int 1))) (dNil))) (gN 3)
  (dAsg (dEm (dBin rAdd (dBin rMul (dV 2) (dC (.int 10))) (dFz (dCall sp_law_draw (mMut 0 (mCons (dC (.int 10)) (mNil))))))) 2))
  (dRet (dM 2)))
theorem r_law_great {P : Program} {w : World} {K : PySem.W.Frag} {mg : Str → Option Value} {base : Heap} {H0 : Hp} {R0 : Rg} {B : List (Nat × Addr)} {W : WX} {k : Nat} {f : Addr} {cdv : Value} {A : Around} {outer : List Env} {s : Shared} {H : Hp} {E : XK} (g : Gls P w K mg base) (C : Cq (cxOf (L2N.CX P w) P w K mg base N_law_great "_law_great" s_law_great f cdv A outer s H E) W 1) (c_law_draw : Dg P w K mg base "_law_draw" 1 ["jar", "many"] sp_law_draw)   :
    DSs ⟨K, H0, R0, B⟩ W (cxOf (L2N.CX P w) P w K mg base N_law_great "_law_great" s_law_great f cdv A outer s H E) b_law_great (t_law_great) :=
  dss_cons (ds_set (i := 2) sc_law_great.nd rfl (by first | exact Or.inl rfl | exact Or.inr rfl) (de_di (di_op od_add (di_int) (di_fz (de_call rfl (c_law_draw.up (by omega)) C.hr C.gd C.tk (dm_mut (pv 0) (dm_cons (di_int) (dm_nil))))))))
  (dss_cons (ds_for (is := [3]) C.po rfl (dw_range1 g.range_ (da_cons (di_op od_sub (di_v (pv 1)) (di_int)) (da_nil))) (dg_name (i := 3) sc_law_great.nd rfl (by first | exact Or.inl rfl | exact Or.inr rfl))
  (dss_one (ds_set (i := 2) sc_law_great.nd rfl (by first | exact Or.inl rfl | exact Or.inr rfl) (de_di (di_op od_add (di_op od_mul (di_v (pv 2)) (di_int)) (di_fz (de_call rfl (c_law_draw.up (by omega)) C.hr C.gd C.tk (dm_mut (pv 0) (dm_cons (di_int) (dm_nil))))))))))
  (dss_one (ds_ret (de_m (pv 2)))))

def t_law_word : TSd :=
  dRet (dIfD (dB (dBin rEq (dIx (dV 0) (dC (.int 1))) (dC (.int 1)))) (dEm (dCB rStr (dCons (dIx (dV 0) (dC (.int 0))) (dNil)))) (dEm (dBin rAdd (dBin rAdd (dCB rStr (dCons (dIx (dV 0) (dC (.int 0))) (dNil))) (dC (.str "/"))) (dCB rStr (dCons (dIx (dV 0) (dC (.int 1))) (dNil))))))
theorem r_law_word {P : Program} {w : World} {K : PySem.W.Frag} {mg : Str → Option Value} {base : Heap} {H0 : Hp} {R0 : Rg} {B : List (Nat × Addr)} {W : WX} {k : Nat} {f : Addr} {cdv : Value} {A : Around} {outer : List Env} {s : Shared} {H : Hp} {E : XK} (g : Gls P w K mg base) (C : Cq (cxOf (L2N.CX P w) P w K mg base N_law_word "_law_word" s_law_word f cdv A outer s H E) W 0)    :
    DSs ⟨K, H0, R0, B⟩ W (cxOf (L2N.CX P w) P w K mg base N_law_word "_law_word" s_law_word f cdv A outer s H E) b_law_word (t_law_word) :=
  dss_one (ds_ret (de_if (dt_cmp (od_eq C.hu rfl) (di_ix rfl (di_v (pv 0)) (di_int)) (di_int) rfl) (de_di (di_ct cd_str g.str_ rfl (da_cons (di_ix rfl (di_v (pv 0)) (di_int)) (da_nil)))) (de_di (di_op od_add (di_op od_add (di_ct cd_str g.str_ rfl (da_cons (di_ix rfl (di_v (pv 0)) (di_int)) (da_nil))) (di_str)) (di_ct cd_str g.str_ rfl (da_cons (di_ix rfl (di_v (pv 0)) (di_int)) (da_nil)))))))

def t_law_whole : TSd :=
  dRet (dEm (dAndV (dIsi "int" (dV 0)) (dNotV (dIsi "bool" (dV 0)))))
theorem r_law_whole {P : Program} {w : World} {K : PySem.W.Frag} {mg : Str → Option Value} {base : Heap} {H0 : Hp} {R0 : Rg} {B : List (Nat × Addr)} {W : WX} {k : Nat} {f : Addr} {cdv : Value} {A : Around} {outer : List Env} {s : Shared} {H : Hp} {E : XK} (g : Gls P w K mg base) (C : Cq (cxOf (L2N.CX P w) P w K mg base N_law_whole "_law_whole" s_law_whole f cdv A outer s H E) W 0)    :
    DSs ⟨K, H0, R0, B⟩ W (cxOf (L2N.CX P w) P w K mg base N_law_whole "_law_whole" s_law_whole f cdv A outer s H E) b_law_whole (t_law_whole) :=
  dss_one (ds_ret (de_di (di_and (di_isi (Tn := "int") rfl g.isinstance_ g.int_ rfl (di_v (pv 0))) (di_one (di_not (di_isi (Tn := "bool") rfl g.isinstance_ g.bool_ rfl (di_v (pv 0))))))))

def t_law_like (n : Nat) : TSd :=
  dSeq (dIf (dB (dIsi "bool" (dV 1)))
  (dRet (dEm (dAndV (dIsi "bool" (dV 0)) (dBin rEq (dV 0) (dV 1)))))
  (dNext))
  (dSeq (dIf (dB (dIsi "int" (dV 1)))
  (dRet (dEm (dAndV (dFz (dCall sp_law_whole (mCons (dV 0) (mNil)))) (dBin rEq (dV 0) (dV 1)))))
  (dNext))
  (dSeq (dIf (dB (dIsi "str" (dV 1)))
  (dRet (dEm (dAndV (dIsi "str" (dV 0)) (dBin rEq (dV 0) (dV 1)))))
  (dNext))
  (dSeq (dIf (dB (dBin rIsN (dV 1) (dC .none)))
  (dRet (dEm (dBin rIsN (dV 0) (dC .none))))
  (dNext))
  (dSeq (dIf (dOr (dAnd (dB (dIsi "tuple" (dV 1))) (dNot (dB (dIsi "tuple" (dV 0))))) (dOr (dAnd (dB (dIsi "list" (dV 1))) (dNot (dB (dIsi "list" (dV 0))))) (dB (dBin rNe (dCB rLen (dCons (dV 0) (dNil))) (dCB rLen (dCons (dV 1) (dNil)))))))
  (dRet (dEm (dC (.bool false))))
  (dNext))
  (dRet (dEm (dBin rEq (dFz (dLc (wR1 (dCons (dCB rLen (dCons (dV 1) (dNil))) (dNil))) [2] (gN 2) (dNot (dB (dFz (dCall (sp_law_like n) (mCons (dIx (dV 0) (dV 2)) (mCons (dIx (dV 1) (dV 2)) (mNil))))))) (dV 2))) (dFz (dLst (dNil))))))))))
theorem r_law_like {P : Program} {w : World} {K : PySem.W.Frag} {mg : Str → Option Value} {base : Heap} {H0 : Hp} {R0 : Rg} {B : List (Nat × Addr)} {W : WX} {k : Nat} {f : Addr} {cdv : Value} {A : Around} {outer : List Env} {s : Shared} {H : Hp} {E : XK} {n : Nat} (g : Gls P w K mg base) (C : Cq (cxOf (L2N.CX P w) P w K mg base N_law_like "_law_like" s_law_like f cdv A outer s H E) W (n + 1)) (c_law_whole : Dg P w K mg base "_law_whole" 1 ["told"] sp_law_whole) (c_law_like : Dg P w K mg base "_law_like" (n + 1) ["told", "due"] (sp_law_like n))   :
    DSs ⟨K, H0, R0, B⟩ W (cxOf (L2N.CX P w) P w K mg base N_law_like "_law_like" s_law_like f cdv A outer s H E) b_law_like (t_law_like n) :=
  dss_cons (ds_if (dt_val (di_isi (Tn := "bool") rfl g.isinstance_ g.bool_ rfl (di_v (pv 1))))
  (dss_one (ds_ret (de_di (di_and (di_isi (Tn := "bool") rfl g.isinstance_ g.bool_ rfl (di_v (pv 0))) (di_one (di_cmp (od_eq C.hu rfl) (di_v (pv 0)) (di_v (pv 1)) rfl))))))
  (dss_nil))
  (dss_cons (ds_if (dt_val (di_isi (Tn := "int") rfl g.isinstance_ g.int_ rfl (di_v (pv 1))))
  (dss_one (ds_ret (de_di (di_and (di_fz (de_call rfl (c_law_whole.up (by omega)) C.hr C.gd C.tk (dm_cons (di_v (pv 0)) (dm_nil)))) (di_one (di_cmp (od_eq C.hu rfl) (di_v (pv 0)) (di_v (pv 1)) rfl))))))
  (dss_nil))
  (dss_cons (ds_if (dt_val (di_isi (Tn := "str") rfl g.isinstance_ g.str_ rfl (di_v (pv 1))))
  (dss_one (ds_ret (de_di (di_and (di_isi (Tn := "str") rfl g.isinstance_ g.str_ rfl (di_v (pv 0))) (di_one (di_cmp (od_eq C.hu rfl) (di_v (pv 0)) (di_v (pv 1)) rfl))))))
  (dss_nil))
  (dss_cons (ds_if (dt_cmp od_isN (di_v (pv 1)) (di_non) rfl)
  (dss_one (ds_ret (de_di (di_cmp od_isN (di_v (pv 0)) (di_non) rfl))))
  (dss_nil))
  (dss_cons (ds_if (dt_w (dw_or (dt_w (dw_and (dt_val (di_isi (Tn := "tuple") rfl g.isinstance_ g.tuple_ rfl (di_v (pv 1)))) (dw_and1 (dt_not (dt_val (di_isi (Tn := "tuple") rfl g.isinstance_ g.tuple_ rfl (di_v (pv 0)))))))) (dw_or (dt_w (dw_and (dt_val (di_isi (Tn := "list") rfl g.isinstance_ g.list_ rfl (di_v (pv 1)))) (dw_and1 (dt_not (dt_val (di_isi (Tn := "list") rfl g.isinstance_ g.list_ rfl (di_v (pv 0)))))))) (dw_or1 (dt_cmp (od_ne C.hu rfl) (di_cb (cd_len rfl) g.len_ boot_len (da_cons (di_v (pv 0)) (da_nil))) (di_cb (cd_len rfl) g.len_ boot_len (da_cons (di_v (pv 1)) (da_nil))) rfl)))))
  (dss_one (ds_ret (de_di (di_bl))))
  (dss_nil))
  (dss_one (ds_ret (de_di (di_cmp (od_eq C.hu rfl) (di_fz (de_lc rfl sc_law_like.nd (dw_range1 g.range_ (da_cons (di_cb (cd_len rfl) g.len_ boot_len (da_cons (di_v (pv 1)) (da_nil))) (da_nil))) (own := [("k", 2)]) (blkOk_by rfl) (by decide) (fun _ _ _ _ _ => dg_name (i := 2) sc_law_like.nd rfl (by first | exact Or.inl rfl | exact Or.inr rfl)) (fun _ _ _ _ _ => dts_one (dt_not (dt_val (di_fz (de_call rfl c_law_like C.hr C.gd takes0 (dm_cons (di_ix rfl (di_v (pv 0)) (di_v (pv 2))) (dm_cons (di_ix rfl (di_v (pv 1)) (di_v (pv 2))) (dm_nil)))))))) (fun _ _ _ _ _ => di_v (pv 2)))) (di_fz (de_lst (da_nil))) rfl))))))))

def t_law_way : TSd :=
  dSeq (dAsg (dCall sp_law_draw (mMut 0 (mCons (dC (.int 6)) (mNil)))) 2)
  (dSeq (dIf (dAnd (dB (dBin rEq (dIx (dV 1) (dC (.int 1))) (dC (.int 1)))) (dB (dBin rLt (dV 2) (dC (.int 3)))))
  (dRet (dEm (dIx (dV 1) (dC (.int 0)))))
  (dNext))
  (dSeq (dIf (dB (dBin rEq (dV 2) (dC (.int 3))))
  (dRet (dCall sp_law_word (mCons (dV 1) (mNil))))
  (dNext))
  (dSeq (dAsg (dEm (dIfE (dB (dBin rEq (dV 2) (dC (.int 4)))) (dBin rAdd (dC (.int 1)) (dFz (dCall sp_law_draw (mMut 0 (mCons (dC (.int 5)) (mNil)))))) (dC (.int 1)))) 3)
  (dRet (dEm (dTup (dCons (dBin rMul (dIx (dV 1) (dC (.int 0))) (dV 3)) (dCons (dBin rMul (dIx (dV 1) (dC (.int 1))) (dV 3)) (dNil)))))))))
theorem r_law_way {P : Program} {w : World} {K : PySem.W.Frag} {mg : Str → Option Value} {base : Heap} {H0 : Hp} {R0 : Rg} {B : List (Nat × Addr)} {W : WX} {k : Nat} {f : Addr} {cdv : Value} {A : Around} {outer : List Env} {s : Shared} {H : Hp} {E : XK} (g : Gls P w K mg base) (C : Cq (cxOf (L2N.CX P w) P w K mg base N_law_way "_law_way" s_law_way f cdv A outer s H E) W 1) (c_law_draw : Dg P w K mg base "_law_draw" 1 ["jar", "many"] sp_law_draw) (c_law_word : Dg P w K mg base "_law_word" 1 ["u"] sp_law_word)   :
    DSs ⟨K, H0, R0, B⟩ W (cxOf (L2N.CX P w) P w K mg base N_law_way "_law_way" s_law_way f cdv A outer s H E) b_law_way (t_law_way) :=
  dss_cons (ds_set (i := 2) sc_law_way.nd rfl (by first | exact Or.inl rfl | exact Or.inr rfl) (de_call rfl (c_law_draw.up (by omega)) C.hr C.gd C.tk (dm_mut (pv 0) (dm_cons (di_int) (dm_nil)))))
  (dss_cons (ds_if (dt_w (dw_and (dt_cmp (od_eq C.hu rfl) (di_ix rfl (di_v (pv 1)) (di_int)) (di_int) rfl) (dw_and1 (dt_cmp od_lt (di_v (pv 2)) (di_int) rfl))))
  (dss_one (ds_ret (de_di (di_ix rfl (di_v (pv 1)) (di_int)))))
  (dss_nil))
  (dss_cons (ds_if (dt_cmp (od_eq C.hu rfl) (di_v (pv 2)) (di_int) rfl)
  (dss_one (ds_ret (de_call rfl (c_law_word.up (by omega)) C.hr C.gd C.tk (dm_cons (di_v (pv 1)) (dm_nil)))))
  (dss_nil))
  (dss_cons (ds_set (i := 3) sc_law_way.nd rfl (by first | exact Or.inl rfl | exact Or.inr rfl) (de_di (di_if (dt_cmp (od_eq C.hu rfl) (di_v (pv 2)) (di_int) rfl) (di_op od_add (di_int) (di_fz (de_call rfl (c_law_draw.up (by omega)) C.hr C.gd C.tk (dm_mut (pv 0) (dm_cons (di_int) (dm_nil)))))) (di_int))))
  (dss_one (ds_ret (de_di (di_tup (da_cons (di_op od_mul (di_ix rfl (di_v (pv 1)) (di_int)) (di_v (pv 3))) (da_cons (di_op od_mul (di_ix rfl (di_v (pv 1)) (di_int)) (di_v (pv 3))) (da_nil))))))))))

def t_law_ways : TSd :=
  dSeq (dAsg (dLc (wA (dV 1)) [2] (gN 2) (bYes) (dFz (dCall sp_law_way (mMut 0 (mCons (dV 2) (mNil)))))) 3)
  (dRet (dIfD (dB (dBin rEq (dFz (dCall sp_law_draw (mMut 0 (mCons (dC (.int 2)) (mNil))))) (dC (.int 0)))) (dM 3) (dEm (dToN 3))))
theorem r_law_ways {P : Program} {w : World} {K : PySem.W.Frag} {mg : Str → Option Value} {base : Heap} {H0 : Hp} {R0 : Rg} {B : List (Nat × Addr)} {W : WX} {k : Nat} {f : Addr} {cdv : Value} {A : Around} {outer : List Env} {s : Shared} {H : Hp} {E : XK} (g : Gls P w K mg base) (C : Cq (cxOf (L2N.CX P w) P w K mg base N_law_ways "_law_ways" s_law_ways f cdv A outer s H E) W 2) (c_law_draw : Dg P w K mg base "_law_draw" 1 ["jar", "many"] sp_law_draw) (c_law_way : Dg P w K mg base "_law_way" 2 ["jar", "u"] sp_law_way)   :
    DSs ⟨K, H0, R0, B⟩ W (cxOf (L2N.CX P w) P w K mg base N_law_ways "_law_ways" s_law_ways f cdv A outer s H E) b_law_ways (t_law_ways) :=
  dss_cons ((by first | exact ds_set (i := 3) sc_law_ways.nd rfl (by first | exact Or.inl rfl | exact Or.inr rfl) (de_lc rfl sc_law_ways.nd (dw_any rfl (di_v (pv 1))) (own := [("u", 2)]) (blkOk_by rfl) (by decide) (fun _ _ _ _ _ => dg_name (i := 2) sc_law_ways.nd rfl (by first | exact Or.inl rfl | exact Or.inr rfl)) (fun _ _ _ _ _ => dts_nil) (fun _ _ _ _ _ => di_fz (de_call rfl (c_law_way.up (by omega)) C.hr C.gd takes0 (dm_mut (pv 0) (dm_cons (di_v (pv 2)) (dm_nil)))))) | exact ds_setLc (i := 3) rfl sc_law_ways.nd rfl rfl rfl (dw_any rfl (di_v (pv 1))) (own := [("u", 2)]) (blkOk_by rfl) (by decide) (fun _ _ _ _ _ => dg_name (i := 2) sc_law_ways.nd rfl (by first | exact Or.inl rfl | exact Or.inr rfl)) (fun _ _ _ _ _ => dts_nil) (fun _ _ _ _ _ => di_fz (de_call rfl (c_law_way.up (by omega)) C.hr C.gd takes0 (dm_mut (pv 0) (dm_cons (di_v (pv 2)) (dm_nil)))))))
  (dss_one (ds_ret (de_if (dt_cmp (od_eq C.hu rfl) (di_fz (de_call rfl (c_law_draw.up (by omega)) C.hr C.gd C.tk (dm_mut (pv 0) (dm_cons (di_int) (dm_nil))))) (di_int) rfl) (de_m (pv 3)) (de_di (di_toN rfl g.tuple_ (pv 3))))))

def t_law_said : TSd :=
  dRet (dEm (dAndV (dIsi "str" (dV 0)) (dBin rNe (dV 0) (dC (.str "")))))
theorem r_law_said {P : Program} {w : World} {K : PySem.W.Frag} {mg : Str → Option Value} {base : Heap} {H0 : Hp} {R0 : Rg} {B : List (Nat × Addr)} {W : WX} {k : Nat} {f : Addr} {cdv : Value} {A : Around} {outer : List Env} {s : Shared} {H : Hp} {E : XK} (g : Gls P w K mg base) (C : Cq (cxOf (L2N.CX P w) P w K mg base N_law_said "_law_said" s_law_said f cdv A outer s H E) W 0)    :
    DSs ⟨K, H0, R0, B⟩ W (cxOf (L2N.CX P w) P w K mg base N_law_said "_law_said" s_law_said f cdv A outer s H E) b_law_said (t_law_said) :=
  dss_one (ds_ret (de_di (di_and (di_isi (Tn := "str") rfl g.isinstance_ g.str_ rfl (di_v (pv 0))) (di_one (di_cmp (od_ne C.hu rfl) (di_v (pv 0)) (di_str) rfl)))))

def t_law_read : TSd :=
  dSeq (dAsg (dM1 rSplit (dFz (dSl (dV 0) (pSo (dCB rInt (dCons (dBin rEq (dFz (dSl (dV 0) (pNo) (pSo (dC (.int 1))))) (dC (.str "-"))) (dNil)))) (pNo))) (dC (.str "/"))) 1)
  (dSeq (dFor (wA (dV 1)) (gN 2)
  (dIf (dOr (dB (dBin rEq (dV 2) (dC (.str "")))) (dB (dBin rNe (dFz (dLc (wA (dV 2)) [3] (gN 3) (dB (dBin rNotInS (dV 3) (dC (.str "0123456789")))) (dV 3))) (dFz (dLst (dNil))))))
  (dRet (dEm (dC .none)))
  (dNext)))
  (dSeq (dIf (dOr (dB (dBin rGt (dCB rLen (dCons (dV 1) (dNil))) (dC (.int 2)))) (dAnd (dB (dBin rEq (dCB rLen (dCons (dV 1) (dNil))) (dC (.int 2)))) (dB (dBin rEq (dCB rInt (dCons (dIx (dV 1) (dC (.int 1))) (dNil))) (dC (.int 0))))))
  (dRet (dEm (dC .none)))
  (dNext))
  (dSeq (dAsg (dCall sp_law_low (mCons (dCB rInt (dCons (dIx (dV 1) (dC (.int 0))) (dNil))) (mCons (dIfE (dB (dBin rEq (dCB rLen (dCons (dV 1) (dNil))) (dC (.int 2)))) (dCB rInt (dCons (dIx (dV 1) (dC (.int 1))) (dNil))) (dC (.int 1))) (mNil)))) 4)
  (dSeq (dAsg (dEm (dIfE (dB (dBin rEq (dFz (dSl (dV 0) (pNo) (pSo (dC (.int 1))))) (dC (.str "-")))) (dTup (dCons (dBin rSub (dC (.int 0)) (dIx (dV 4) (dC (.int 0)))) (dCons (dIx (dV 4) (dC (.int 1))) (dNil)))) (dV 4))) 4)
  (dRet (dIfD (dB (dBin rEq (dFz (dCall sp_law_word (mCons (dV 4) (mNil)))) (dV 0))) (dM 4) (dEm (dC .none))))))))
theorem r_law_read {P : Program} {w : World} {K : PySem.W.Frag} {mg : Str → Option Value} {base : Heap} {H0 : Hp} {R0 : Rg} {B : List (Nat × Addr)} {W : WX} {k : Nat} {f : Addr} {cdv : Value} {A : Around} {outer : List Env} {s : Shared} {H : Hp} {E : XK} (g : Gls P w K mg base) (C : Cq (cxOf (L2N.CX P w) P w K mg base N_law_read "_law_read" s_law_read f cdv A outer s H E) W 2) (c_law_low : Dg P w K mg base "_law_low" 2 ["top", "low"] sp_law_low) (c_law_word : Dg P w K mg base "_law_word" 1 ["u"] sp_law_word)   :
    DSs ⟨K, H0, R0, B⟩ W (cxOf (L2N.CX P w) P w K mg base N_law_read "_law_read" s_law_read f cdv A outer s H E) b_law_read (t_law_read) :=
  dss_cons (ds_set (i := 1) sc_law_read.nd rfl (by first | exact Or.inl rfl | exact Or.inr rfl) (de_split (di_fz (de_sl rfl (di_v (pv 0)) (dp_so (di_ct cd_int g.int_ rfl (da_cons (di_cmp (od_eq C.hu rfl) (di_fz (de_sl rfl (di_v (pv 0)) (dp_no) (dp_so (di_int)))) (di_str) rfl) (da_nil)))) (dp_no))) (di_str)))
  (dss_cons (ds_for (is := [2]) C.po rfl (dw_any rfl (di_v (pv 1))) (dg_name (i := 2) sc_law_read.nd rfl (by first | exact Or.inl rfl | exact Or.inr rfl))
  (dss_one (ds_if (dt_w (dw_or (dt_cmp (od_eq C.hu rfl) (di_v (pv 2)) (di_str) rfl) (dw_or1 (dt_cmp (od_ne C.hu rfl) (di_fz (de_lc rfl sc_law_read.nd (dw_any rfl (di_v (pv 2))) (own := [("sign", 3)]) (blkOk_by rfl) (by decide) (fun _ _ _ _ _ => dg_name (i := 3) sc_law_read.nd rfl (by first | exact Or.inl rfl | exact Or.inr rfl)) (fun _ _ _ _ _ => dts_one (dt_cmp od_notInS (di_v (pv 3)) (di_str) rfl)) (fun _ _ _ _ _ => di_v (pv 3)))) (di_fz (de_lst (da_nil))) rfl))))
  (dss_one (ds_ret (de_di (di_non))))
  (dss_nil))))
  (dss_cons (ds_if (dt_w (dw_or (dt_cmp od_gt (di_cb (cd_len rfl) g.len_ boot_len (da_cons (di_v (pv 1)) (da_nil))) (di_int) rfl) (dw_or1 (dt_w (dw_and (dt_cmp (od_eq C.hu rfl) (di_cb (cd_len rfl) g.len_ boot_len (da_cons (di_v (pv 1)) (da_nil))) (di_int) rfl) (dw_and1 (dt_cmp (od_eq C.hu rfl) (di_ct cd_int g.int_ rfl (da_cons (di_ix rfl (di_v (pv 1)) (di_int)) (da_nil))) (di_int) rfl)))))))
  (dss_one (ds_ret (de_di (di_non))))
  (dss_nil))
  (dss_cons (ds_set (i := 4) sc_law_read.nd rfl (by first | exact Or.inl rfl | exact Or.inr rfl) (de_call rfl (c_law_low.up (by omega)) C.hr C.gd C.tk (dm_cons (di_ct cd_int g.int_ rfl (da_cons (di_ix rfl (di_v (pv 1)) (di_int)) (da_nil))) (dm_cons (di_if (dt_cmp (od_eq C.hu rfl) (di_cb (cd_len rfl) g.len_ boot_len (da_cons (di_v (pv 1)) (da_nil))) (di_int) rfl) (di_ct cd_int g.int_ rfl (da_cons (di_ix rfl (di_v (pv 1)) (di_int)) (da_nil))) (di_int)) (dm_nil)))))
  (dss_cons (ds_set (i := 4) sc_law_read.nd rfl (by first | exact Or.inl rfl | exact Or.inr rfl) (de_di (di_if (dt_cmp (od_eq C.hu rfl) (di_fz (de_sl rfl (di_v (pv 0)) (dp_no) (dp_so (di_int)))) (di_str) rfl) (di_tup (da_cons (di_op od_sub (di_int) (di_ix rfl (di_v (pv 4)) (di_int))) (da_cons (di_ix rfl (di_v (pv 4)) (di_int)) (da_nil)))) (di_v (pv 4)))))
  (dss_one (ds_ret (de_if (dt_cmp (od_eq C.hu rfl) (di_fz (de_call rfl (c_law_word.up (by omega)) C.hr C.gd C.tk (dm_cons (di_v (pv 4)) (dm_nil)))) (di_v (pv 0)) rfl) (de_m (pv 4)) (de_di (di_non)))))))))

def t_law_fraction : TSd :=
  dSeq (dIf (dB (dFz (dCall sp_law_whole (mCons (dV 0) (mNil)))))
  (dRet (dEm (dTup (dCons (dV 0) (dCons (dC (.int 1)) (dNil))))))
  (dNext))
  (dSeq (dIf (dAnd (dB (dIsi "tuple" (dV 0))) (dAnd (dB (dBin rEq (dCB rLen (dCons (dV 0) (dNil))) (dC (.int 2)))) (dAnd (dB (dFz (dCall sp_law_whole (mCons (dIx (dV 0) (dC (.int 0))) (mNil))))) (dAnd (dB (dFz (dCall sp_law_whole (mCons (dIx (dV 0) (dC (.int 1))) (mNil))))) (dB (dBin rGe (dIx (dV 0) (dC (.int 1))) (dC (.int 1))))))))
  (dRet (dCall sp_law_low (mCons (dIx (dV 0) (dC (.int 0))) (mCons (dIx (dV 0) (dC (.int 1))) (mNil)))))
  (dNext))
  (dRet (dIfD (dB (dIsi "str" (dV 0))) (dCall sp_law_read (mCons (dV 0) (mNil))) (dEm (dC .none)))))
theorem r_law_fraction {P : Program} {w : World} {K : PySem.W.Frag} {mg : Str → Option Value} {base : Heap} {H0 : Hp} {R0 : Rg} {B : List (Nat × Addr)} {W : WX} {k : Nat} {f : Addr} {cdv : Value} {A : Around} {outer : List Env} {s : Shared} {H : Hp} {E : XK} (g : Gls P w K mg base) (C : Cq (cxOf (L2N.CX P w) P w K mg base N_law_fraction "_law_fraction" s_law_fraction f cdv A outer s H E) W 3) (c_law_low : Dg P w K mg base "_law_low" 2 ["top", "low"] sp_law_low) (c_law_whole : Dg P w K mg base "_law_whole" 1 ["told"] sp_law_whole) (c_law_read : Dg P w K mg base "_law_read" 3 ["word"] sp_law_read)   :
    DSs ⟨K, H0, R0, B⟩ W (cxOf (L2N.CX P w) P w K mg base N_law_fraction "_law_fraction" s_law_fraction f cdv A outer s H E) b_law_fraction (t_law_fraction) :=
  dss_cons (ds_if (dt_val (di_fz (de_call rfl (c_law_whole.up (by omega)) C.hr C.gd C.tk (dm_cons (di_v (pv 0)) (dm_nil)))))
  (dss_one (ds_ret (de_di (di_tup (da_cons (di_v (pv 0)) (da_cons (di_int) (da_nil)))))))
  (dss_nil))
  (dss_cons (ds_if (dt_w (dw_and (dt_val (di_isi (Tn := "tuple") rfl g.isinstance_ g.tuple_ rfl (di_v (pv 0)))) (dw_and (dt_cmp (od_eq C.hu rfl) (di_cb (cd_len rfl) g.len_ boot_len (da_cons (di_v (pv 0)) (da_nil))) (di_int) rfl) (dw_and (dt_val (di_fz (de_call rfl (c_law_whole.up (by omega)) C.hr C.gd C.tk (dm_cons (di_ix rfl (di_v (pv 0)) (di_int)) (dm_nil))))) (dw_and (dt_val (di_fz (de_call rfl (c_law_whole.up (by omega)) C.hr C.gd C.tk (dm_cons (di_ix rfl (di_v (pv 0)) (di_int)) (dm_nil))))) (dw_and1 (dt_cmp od_ge (di_ix rfl (di_v (pv 0)) (di_int)) (di_int) rfl)))))))
  (dss_one (ds_ret (de_call rfl (c_law_low.up (by omega)) C.hr C.gd C.tk (dm_cons (di_ix rfl (di_v (pv 0)) (di_int)) (dm_cons (di_ix rfl (di_v (pv 0)) (di_int)) (dm_nil))))))
  (dss_nil))
  (dss_one (ds_ret (de_if (dt_val (di_isi (Tn := "str") rfl g.isinstance_ g.str_ rfl (di_v (pv 0)))) (de_call rfl (c_law_read.up (by omega)) C.hr C.gd C.tk (dm_cons (di_v (pv 0)) (dm_nil))) (de_di (di_non))))))

def t_law_digits : TSd :=
  dRet (dEm (dCB rMax2 (dCons (dCB rLen (dCons (dCB rStr (dCons (dCB rAbs (dCons (dIx (dV 0) (dC (.int 0))) (dNil))) (dNil))) (dNil))) (dCons (dCB rLen (dCons (dCB rStr (dCons (dIx (dV 0) (dC (.int 1))) (dNil))) (dNil))) (dNil)))))
theorem r_law_digits {P : Program} {w : World} {K : PySem.W.Frag} {mg : Str → Option Value} {base : Heap} {H0 : Hp} {R0 : Rg} {B : List (Nat × Addr)} {W : WX} {k : Nat} {f : Addr} {cdv : Value} {A : Around} {outer : List Env} {s : Shared} {H : Hp} {E : XK} (g : Gls P w K mg base) (C : Cq (cxOf (L2N.CX P w) P w K mg base N_law_digits "_law_digits" s_law_digits f cdv A outer s H E) W 0)    :
    DSs ⟨K, H0, R0, B⟩ W (cxOf (L2N.CX P w) P w K mg base N_law_digits "_law_digits" s_law_digits f cdv A outer s H E) b_law_digits (t_law_digits) :=
  dss_one (ds_ret (de_di (di_cb (cd_max2 rfl) g.max_ boot_max (da_cons (di_cb (cd_len rfl) g.len_ boot_len (da_cons (di_ct cd_str g.str_ rfl (da_cons (di_cb cd_abs g.abs_ boot_abs (da_cons (di_ix rfl (di_v (pv 0)) (di_int)) (da_nil))) (da_nil))) (da_nil))) (da_cons (di_cb (cd_len rfl) g.len_ boot_len (da_cons (di_ct cd_str g.str_ rfl (da_cons (di_ix rfl (di_v (pv 0)) (di_int)) (da_nil))) (da_nil))) (da_nil))))))

def t_law_shares : TSd :=
  dSeq (dAsg (dLc (wR1 (dCons (dV 1) (dNil))) [2] (gN 2) (bYes) (dFz (dCall sp_law_draw (mMut 0 (mCons (dC (.int 6)) (mNil)))))) 3)
  (dSeq (dSetIx 3 (dBin rAdd (dC (.int 1)) (dFz (dCall sp_law_draw (mMut 0 (mCons (dC (.int 9)) (mNil)))))) (dFz (dCall sp_law_draw (mMut 0 (mCons (dV 1) (mNil))))))
  (dRet (dLc (wA (dV 3)) [2] (gN 2) (bYes) (dFz (dCall sp_law_low (mCons (dV 2) (mCons (dCBN rSumD 3) (mNil))))))))
theorem r_law_shares {P : Program} {w : World} {K : PySem.W.Frag} {mg : Str → Option Value} {base : Heap} {H0 : Hp} {R0 : Rg} {B : List (Nat × Addr)} {W : WX} {k : Nat} {f : Addr} {cdv : Value} {A : Around} {outer : List Env} {s : Shared} {H : Hp} {E : XK} (g : Gls P w K mg base) (C : Cq (cxOf (L2N.CX P w) P w K mg base N_law_shares "_law_shares" s_law_shares f cdv A outer s H E) W 2) (c_law_draw : Dg P w K mg base "_law_draw" 1 ["jar", "many"] sp_law_draw) (c_law_low : Dg P w K mg base "_law_low" 2 ["top", "low"] sp_law_low)   :
    DSs ⟨K, H0, R0, B⟩ W (cxOf (L2N.CX P w) P w K mg base N_law_shares "_law_shares" s_law_shares f cdv A outer s H E) b_law_shares (t_law_shares) :=
  dss_cons ((by first | exact ds_set (i := 3) sc_law_shares.nd rfl (by first | exact Or.inl rfl | exact Or.inr rfl) (de_lc rfl sc_law_shares.nd (dw_range1 g.range_ (da_cons (di_v (pv 1)) (da_nil))) (own := [("k", 2)]) (blkOk_by rfl) (by decide) (fun _ _ _ _ _ => dg_name (i := 2) sc_law_shares.nd rfl (by first | exact Or.inl rfl | exact Or.inr rfl)) (fun _ _ _ _ _ => dts_nil) (fun _ _ _ _ _ => di_fz (de_call rfl (c_law_draw.up (by omega)) C.hr C.gd takes0 (dm_mut (pv 0) (dm_cons (di_int) (dm_nil)))))) | exact ds_setLc (i := 3) rfl sc_law_shares.nd rfl rfl rfl (dw_range1 g.range_ (da_cons (di_v (pv 1)) (da_nil))) (own := [("k", 2)]) (blkOk_by rfl) (by decide) (fun _ _ _ _ _ => dg_name (i := 2) sc_law_shares.nd rfl (by first | exact Or.inl rfl | exact Or.inr rfl)) (fun _ _ _ _ _ => dts_nil) (fun _ _ _ _ _ => di_fz (de_call rfl (c_law_draw.up (by omega)) C.hr C.gd takes0 (dm_mut (pv 0) (dm_cons (di_int) (dm_nil)))))))
  (dss_cons (ds_setIx (di_op od_add (di_int) (di_fz (de_call rfl (c_law_draw.up (by omega)) C.hr C.gd C.tk (dm_mut (pv 0) (dm_cons (di_int) (dm_nil)))))) (pv 3) (di_fz (de_call rfl (c_law_draw.up (by omega)) C.hr C.gd C.tk (dm_mut (pv 0) (dm_cons (di_v (pv 1)) (dm_nil))))) (fun _ => rfl))
  (dss_one (ds_ret (de_lc rfl sc_law_shares.nd (dw_any rfl (di_v (pv 3))) (own := [("k", 2)]) (blkOk_by rfl) (by decide) (fun _ _ _ _ _ => dg_name (i := 2) sc_law_shares.nd rfl (by first | exact Or.inl rfl | exact Or.inr rfl)) (fun _ _ _ _ _ => dts_nil) (fun _ _ _ _ _ => di_fz (de_call rfl (c_law_low.up (by omega)) C.hr C.gd takes0 (dm_cons (di_v (pv 2)) (dm_cons (di_cbn (cd_sum rfl rfl) g.sum_ boot_sum (pv 3)) (dm_nil)))))))))

def t_law_ask (K : PySem.W.Frag) : TSd :=
  dTry K 4 (dSeq (dIf (dB (dBin rEq (dFz (dCall sp_law_draw (mMut 0 (mCons (dC (.int 2)) (mNil))))) (dC (.int 0))))
  (dRet (dEm (dTup (dCons (dC (.str "told")) (dCons (dFz (dCall (sp_fits_better K) (mCons (dV 1) (mCons (dV 2) (mCons (dV 3) (mNil)))))) (dNil))))))
  (dNext))
  (dRet (dEm (dTup (dCons (dC (.str "told")) (dCons (dFz (dCallK (sp_fits_better K) rev3 3 (dCons (dV 3) (dCons (dV 2) (dCons (dV 1) (dNil)))))) (dNil)))))))
  [(He.ga K "BadTable", hTup (hCons (hC (.str "BadTable")) (hCons (hC (.int 0)) (hCons (hAnd (hCallH sp_law_said (hCons (hFld (He.ga K "BadTable") "why") (hNil))) (hNot (hIsT K (He.ga K "BadTable") [He.ga K "BadCounts", He.ga K "TooMany"]))) (hNil))))),
  (He.ga K "BadCounts", hTup (hCons (hC (.str "BadCounts")) (hCons (hFld (He.ga K "BadCounts") "at") (hCons (hAnd (hCallH sp_law_said (hCons (hFld (He.ga K "BadCounts") "why") (hNil))) (hNot (hIsT K (He.ga K "BadCounts") [He.ga K "BadTable", He.ga K "TooMany"]))) (hNil))))),
  (He.ga K "TooMany", hTup (hCons (hBin rAdd (hC (.str "TooMany ")) (hCall rStr (hCons (hFld (He.ga K "TooMany") "what") (hNil)))) (hCons (hFld (He.ga K "TooMany") "count") (hCons (hNot (hIsT K (He.ga K "TooMany") [He.ga K "BadTable", He.ga K "BadCounts"])) (hNil)))))]
theorem r_law_ask {P : Program} {w : World} {K : PySem.W.Frag} {mg : Str → Option Value} {base : Heap} {H0 : Hp} {R0 : Rg} {B : List (Nat × Addr)} {W : WX} {k : Nat} {f : Addr} {cdv : Value} {A : Around} {outer : List Env} {s : Shared} {H : Hp} {E : XK} (g : Gls P w K mg base) (C : Cq (cxOf (L2N.CX P w) P w K mg base N_law_ask "_law_ask" s_law_ask f cdv A outer s H E) W 8) (c_fits_better : Dg P w K mg base "fits_better" 8 ["p", "q", "counts"] (sp_fits_better K)) (c_law_draw : Dg P w K mg base "_law_draw" 1 ["jar", "many"] sp_law_draw) (k_fits_better : DgK P w K mg base "fits_better" 8 ["p", "q", "counts"] ["counts", "q", "p"] rev3 (sp_fits_better K)) (h_law_said : DgH P w K mg base "_law_said" 1 ["why"] sp_law_said) :
    DSs ⟨K, H0, R0, B⟩ W (cxOf (L2N.CX P w) P w K mg base N_law_ask "_law_ask" s_law_ask f cdv A outer s H E) b_law_ask (t_law_ask K) :=
  dss_one (ds_try (i := 4) rfl C.hr C.gd rfl rfl sc_law_ask.nd rfl rfl C.tk (fun _ _ _ tk2 po2 => dss_cons (ds_if (dt_cmp (od_eq (C.tr tk2 po2).hu rfl) (di_fz (de_call rfl (c_law_draw.up (by omega)) (C.tr tk2 po2).hr (C.tr tk2 po2).gd (C.tr tk2 po2).tk (dm_mut (pv 0) (dm_cons (di_int) (dm_nil))))) (di_int) rfl)
  (dss_one (ds_ret (de_di (di_tup (da_cons (di_str) (da_cons (di_fz (de_call rfl (c_fits_better.up (by omega)) (C.tr tk2 po2).hr (C.tr tk2 po2).gd (C.tr tk2 po2).tk (dm_cons (di_v (pv 1)) (dm_cons (di_v (pv 2)) (dm_cons (di_v (pv 3)) (dm_nil)))))) (da_nil)))))))
  (dss_nil))
  (dss_one (ds_ret (de_di (di_tup (da_cons (di_str) (da_cons (di_fz (de_callK rfl (k_fits_better.up (by omega)) (C.tr tk2 po2).hr (C.tr tk2 po2).gd (C.tr tk2 po2).tk (dk_cons (di_v (pv 3)) (dk_cons (di_v (pv 2)) (dk_cons (di_v (pv 1)) (dk_nil)))))) (da_nil))))))))
  (HdD.cons ⟨rfl, by decide, .inl g.BadTable_E.gl⟩ (fun _ _ _ _ O => hx_tup (ha_cons (hx_str) (ha_cons (hx_int) (ha_cons (hx_and (hx_callH O (h_law_said.up (by omega)) (ha_cons (hx_fld O g.BadTable_E.xf (g.BadTable_E.no _ (by decide)) (pv 4)) (ha_nil))) (hx_one (hx_not (hx_isT O g.BadTable_E.xc rfl g.isinstance_ (pv 4) (GlC.cons rfl g.BadCounts_E.gl (by decide) (GlC.cons rfl g.TooMany_E.gl (by decide) GlC.nil rfl) rfl) (Nat.le_of_ble_eq_true rfl))))) (ha_nil))))) (HdD.cons ⟨rfl, by decide, .inl g.BadCounts_E.gl⟩ (fun _ _ _ _ O => hx_tup (ha_cons (hx_str) (ha_cons (hx_fld O g.BadCounts_E.xf (g.BadCounts_E.no _ (by decide)) (pv 4)) (ha_cons (hx_and (hx_callH O (h_law_said.up (by omega)) (ha_cons (hx_fld O g.BadCounts_E.xf (g.BadCounts_E.no _ (by decide)) (pv 4)) (ha_nil))) (hx_one (hx_not (hx_isT O g.BadCounts_E.xc rfl g.isinstance_ (pv 4) (GlC.cons rfl g.BadTable_E.gl (by decide) (GlC.cons rfl g.TooMany_E.gl (by decide) GlC.nil rfl) rfl) (Nat.le_of_ble_eq_true rfl))))) (ha_nil))))) (HdD.cons ⟨rfl, by decide, .inl g.TooMany_E.gl⟩ (fun _ _ _ _ O => hx_tup (ha_cons (hx_op od_add (hx_str) (hx_ct cd_str g.str_ rfl (ha_cons (hx_fld O g.TooMany_E.xf (g.TooMany_E.no _ (by decide)) (pv 4)) (ha_nil)))) (ha_cons (hx_fld O g.TooMany_E.xf (g.TooMany_E.no _ (by decide)) (pv 4)) (ha_cons (hx_not (hx_isT O g.TooMany_E.xc rfl g.isinstance_ (pv 4) (GlC.cons rfl g.BadTable_E.gl (by decide) (GlC.cons rfl g.BadCounts_E.gl (by decide) GlC.nil rfl) rfl) (Nat.le_of_ble_eq_true rfl))) (ha_nil))))) HdD.nil))))

def t_law_bad_table : TSd :=
  dSeq (dIf (dNot (dB (dIsi2 "list" "tuple" (dV 0))))
  (dRet (dEm (dC (.bool true))))
  (dNext))
  (dSeq (dAsg (dEm (dTup (dCons (dC (.int 0)) (dCons (dC (.int 1)) (dNil))))) 1)
  (dSeq (dFor (wA (dV 0)) (gN 2)
  (dSeq (dAsg (dCall sp_law_fraction (mCons (dV 2) (mNil))) 3)
  (dSeq (dIf (dOr (dB (dBin rIsN (dV 3) (dC .none))) (dB (dBin rLt (dIx (dV 3) (dC (.int 0))) (dC (.int 0)))))
  (dRet (dEm (dC (.bool true))))
  (dNext))
  (dAsg (dCall sp_law_plus (mCons (dV 1) (mCons (dV 3) (mNil)))) 1))))
  (dRet (dEm (dBin rNe (dV 1) (dTup (dCons (dC (.int 1)) (dCons (dC (.int 1)) (dNil)))))))))
theorem r_law_bad_table {P : Program} {w : World} {K : PySem.W.Frag} {mg : Str → Option Value} {base : Heap} {H0 : Hp} {R0 : Rg} {B : List (Nat × Addr)} {W : WX} {k : Nat} {f : Addr} {cdv : Value} {A : Around} {outer : List Env} {s : Shared} {H : Hp} {E : XK} (g : Gls P w K mg base) (C : Cq (cxOf (L2N.CX P w) P w K mg base N_law_bad_table "_law_bad_table" s_law_bad_table f cdv A outer s H E) W 4) (c_law_plus : Dg P w K mg base "_law_plus" 3 ["u", "v"] sp_law_plus) (c_law_fraction : Dg P w K mg base "_law_fraction" 4 ["one"] sp_law_fraction)   :
    DSs ⟨K, H0, R0, B⟩ W (cxOf (L2N.CX P w) P w K mg base N_law_bad_table "_law_bad_table" s_law_bad_table f cdv A outer s H E) b_law_bad_table (t_law_bad_table) :=
  dss_cons (ds_if (dt_not (dt_val (di_isi2 (Tn := "list") (Un := "tuple") rfl g.isinstance_ g.list_ rfl g.tuple_ rfl (di_v (pv 0)))))
  (dss_one (ds_ret (de_di (di_bl))))
  (dss_nil))
  (dss_cons (ds_set (i := 1) sc_law_bad_table.nd rfl (by first | exact Or.inl rfl | exact Or.inr rfl) (de_di (di_tup (da_cons (di_int) (da_cons (di_int) (da_nil))))))
  (dss_cons (ds_for (is := [2]) C.po rfl (dw_any rfl (di_v (pv 0))) (dg_name (i := 2) sc_law_bad_table.nd rfl (by first | exact Or.inl rfl | exact Or.inr rfl))
  (dss_cons (ds_set (i := 3) sc_law_bad_table.nd rfl (by first | exact Or.inl rfl | exact Or.inr rfl) (de_call rfl (c_law_fraction.up (by omega)) C.hr C.gd C.tk (dm_cons (di_v (pv 2)) (dm_nil))))
  (dss_cons (ds_if (dt_w (dw_or (dt_cmp od_isN (di_v (pv 3)) (di_non) rfl) (dw_or1 (dt_cmp od_lt (di_ix rfl (di_v (pv 3)) (di_int)) (di_int) rfl))))
  (dss_one (ds_ret (de_di (di_bl))))
  (dss_nil))
  (dss_one (ds_set (i := 1) sc_law_bad_table.nd rfl (by first | exact Or.inl rfl | exact Or.inr rfl) (de_call rfl (c_law_plus.up (by omega)) C.hr C.gd C.tk (dm_cons (di_v (pv 1)) (dm_cons (di_v (pv 3)) (dm_nil)))))))))
  (dss_one (ds_ret (de_di (di_cmp (od_ne C.hu rfl) (di_v (pv 1)) (di_tup (da_cons (di_int) (da_cons (di_int) (da_nil)))) rfl))))))

def t_law_bad_count : TSd :=
  dSeq (dIf (dOr (dNot (dB (dIsi2 "list" "tuple" (dV 0)))) (dB (dBin rNe (dCB rLen (dCons (dV 0) (dNil))) (dV 1))))
  (dRet (dEm (dNeg (dC (.int 1)))))
  (dNext))
  (dSeq (dFor (wR1 (dCons (dV 1) (dNil))) (gN 2)
  (dSeq (dAsg (dCall sp_law_fraction (mCons (dIx (dV 0) (dV 2)) (mNil))) 3)
  (dIf (dOr (dB (dBin rIsN (dV 3) (dC .none))) (dB (dBin rLt (dIx (dV 3) (dC (.int 0))) (dC (.int 0)))))
  (dRet (dM 2))
  (dNext))))
  (dRet (dEm (dC .none))))
theorem r_law_bad_count {P : Program} {w : World} {K : PySem.W.Frag} {mg : Str → Option Value} {base : Heap} {H0 : Hp} {R0 : Rg} {B : List (Nat × Addr)} {W : WX} {k : Nat} {f : Addr} {cdv : Value} {A : Around} {outer : List Env} {s : Shared} {H : Hp} {E : XK} (g : Gls P w K mg base) (C : Cq (cxOf (L2N.CX P w) P w K mg base N_law_bad_count "_law_bad_count" s_law_bad_count f cdv A outer s H E) W 4) (c_law_fraction : Dg P w K mg base "_law_fraction" 4 ["one"] sp_law_fraction)   :
    DSs ⟨K, H0, R0, B⟩ W (cxOf (L2N.CX P w) P w K mg base N_law_bad_count "_law_bad_count" s_law_bad_count f cdv A outer s H E) b_law_bad_count (t_law_bad_count) :=
  dss_cons (ds_if (dt_w (dw_or (dt_not (dt_val (di_isi2 (Tn := "list") (Un := "tuple") rfl g.isinstance_ g.list_ rfl g.tuple_ rfl (di_v (pv 0))))) (dw_or1 (dt_cmp (od_ne C.hu rfl) (di_cb (cd_len rfl) g.len_ boot_len (da_cons (di_v (pv 0)) (da_nil))) (di_v (pv 1)) rfl))))
  (dss_one (ds_ret (de_di (di_neg (di_int)))))
  (dss_nil))
  (dss_cons (ds_for (is := [2]) C.po rfl (dw_range1 g.range_ (da_cons (di_v (pv 1)) (da_nil))) (dg_name (i := 2) sc_law_bad_count.nd rfl (by first | exact Or.inl rfl | exact Or.inr rfl))
  (dss_cons (ds_set (i := 3) sc_law_bad_count.nd rfl (by first | exact Or.inl rfl | exact Or.inr rfl) (de_call rfl (c_law_fraction.up (by omega)) C.hr C.gd C.tk (dm_cons (di_ix rfl (di_v (pv 0)) (di_v (pv 2))) (dm_nil))))
  (dss_one (ds_if (dt_w (dw_or (dt_cmp od_isN (di_v (pv 3)) (di_non) rfl) (dw_or1 (dt_cmp od_lt (di_ix rfl (di_v (pv 3)) (di_int)) (di_int) rfl))))
  (dss_one (ds_ret (de_m (pv 2))))
  (dss_nil)))))
  (dss_one (ds_ret (de_di (di_non)))))

def t_law_due : TSd :=
  dSeq (dIf (dOr (dB (dFz (dCall sp_law_bad_table (mCons (dV 0) (mNil))))) (dOr (dB (dFz (dCall sp_law_bad_table (mCons (dV 1) (mNil))))) (dB (dBin rNe (dCB rLen (dCons (dV 0) (dNil))) (dCB rLen (dCons (dV 1) (dNil)))))))
  (dRet (dEm (dTup (dCons (dC (.str "BadTable")) (dCons (dC (.int 0)) (dCons (dC (.bool true)) (dNil)))))))
  (dNext))
  (dSeq (dAsg (dCall sp_law_bad_count (mCons (dV 2) (mCons (dCB rLen (dCons (dV 0) (dNil))) (mNil)))) 3)
  (dSeq (dIf (dB (dBin rNotN (dV 3) (dC .none)))
  (dRet (dEm (dTup (dCons (dC (.str "BadCounts")) (dCons (dV 3) (dCons (dC (.bool true)) (dNil)))))))
  (dNext))
  (dSeq (dAsg (dLc (wA (dV 0)) [4] (gN 4) (bYes) (dFz (dCall sp_law_fraction (mCons (dV 4) (mNil))))) 5)
  (dSeq (dAsg (dLc (wA (dV 1)) [4] (gN 4) (bYes) (dFz (dCall sp_law_fraction (mCons (dV 4) (mNil))))) 6)
  (dSeq (dAsg (dLc (wA (dV 2)) [4] (gN 4) (bYes) (dFz (dCall sp_law_fraction (mCons (dV 4) (mNil))))) 7)
  (dSeq (dFor (wA (dFz (dCatR (dCatNN 5 6) 7))) (gN 8)
  (dIf (dB (dBin rGt (dFz (dCall sp_law_digits (mCons (dV 8) (mNil)))) (dC (.int 60))))
  (dRet (dEm (dTup (dCons (dC (.str "TooMany digits")) (dCons (dFz (dCall sp_law_digits (mCons (dV 8) (mNil)))) (dCons (dC (.bool true)) (dNil)))))))
  (dNext)))
  (dSeq (dAsg (dCall sp_law_multiple (mCons (dV 7) (mNil))) 7)
  (dSeq (dIf (dB (dBin rGt (dCB rSumD (dCons (dV 7) (dNil))) (dC (.int 2000))))
  (dRet (dEm (dTup (dCons (dC (.str "TooMany total")) (dCons (dCB rSumD (dCons (dV 7) (dNil))) (dCons (dC (.bool true)) (dNil)))))))
  (dNext))
  (dSeq (dAsg (dCall sp_law_product (mCons (dV 5) (mCons (dV 7) (mNil)))) 8)
  (dSeq (dAsg (dCall sp_law_product (mCons (dV 6) (mCons (dV 7) (mNil)))) 9)
  (dSeq (dAsg (dEm (dBin rSub (dBin rMul (dIx (dV 8) (dC (.int 0))) (dIx (dV 9) (dC (.int 1)))) (dBin rMul (dIx (dV 9) (dC (.int 0))) (dIx (dV 8) (dC (.int 1)))))) 4)
  (dRet (dEm (dTup (dCons (dC (.str "told")) (dCons (dBin rSub (dCB rInt (dCons (dBin rGt (dV 4) (dC (.int 0))) (dNil))) (dCB rInt (dCons (dBin rLt (dV 4) (dC (.int 0))) (dNil)))) (dNil)))))))))))))))))
theorem r_law_due {P : Program} {w : World} {K : PySem.W.Frag} {mg : Str → Option Value} {base : Heap} {H0 : Hp} {R0 : Rg} {B : List (Nat × Addr)} {W : WX} {k : Nat} {f : Addr} {cdv : Value} {A : Around} {outer : List Env} {s : Shared} {H : Hp} {E : XK} (g : Gls P w K mg base) (C : Cq (cxOf (L2N.CX P w) P w K mg base N_law_due "_law_due" s_law_due f cdv A outer s H E) W 5) (c_law_fraction : Dg P w K mg base "_law_fraction" 4 ["one"] sp_law_fraction) (c_law_digits : Dg P w K mg base "_law_digits" 1 ["u"] sp_law_digits) (c_law_bad_table : Dg P w K mg base "_law_bad_table" 5 ["one"] sp_law_bad_table) (c_law_bad_count : Dg P w K mg base "_law_bad_count" 5 ["one", "wide"] sp_law_bad_count) (c_law_multiple : Dg P w K mg base "_law_multiple" 2 ["row"] sp_law_multiple) (c_law_product : Dg P w K mg base "_law_product" 2 ["row", "powers"] sp_law_product)   :
    DSs ⟨K, H0, R0, B⟩ W (cxOf (L2N.CX P w) P w K mg base N_law_due "_law_due" s_law_due f cdv A outer s H E) b_law_due (t_law_due) :=
  dss_cons (ds_if (dt_w (dw_or (dt_val (di_fz (de_call rfl (c_law_bad_table.up (by omega)) C.hr C.gd C.tk (dm_cons (di_v (pv 0)) (dm_nil))))) (dw_or (dt_val (di_fz (de_call rfl (c_law_bad_table.up (by omega)) C.hr C.gd C.tk (dm_cons (di_v (pv 1)) (dm_nil))))) (dw_or1 (dt_cmp (od_ne C.hu rfl) (di_cb (cd_len rfl) g.len_ boot_len (da_cons (di_v (pv 0)) (da_nil))) (di_cb (cd_len rfl) g.len_ boot_len (da_cons (di_v (pv 1)) (da_nil))) rfl)))))
  (dss_one (ds_ret (de_di (di_tup (da_cons (di_str) (da_cons (di_int) (da_cons (di_bl) (da_nil))))))))
  (dss_nil))
  (dss_cons (ds_set (i := 3) sc_law_due.nd rfl (by first | exact Or.inl rfl | exact Or.inr rfl) (de_call rfl (c_law_bad_count.up (by omega)) C.hr C.gd C.tk (dm_cons (di_v (pv 2)) (dm_cons (di_cb (cd_len rfl) g.len_ boot_len (da_cons (di_v (pv 0)) (da_nil))) (dm_nil)))))
  (dss_cons (ds_if (dt_cmp od_notN (di_v (pv 3)) (di_non) rfl)
  (dss_one (ds_ret (de_di (di_tup (da_cons (di_str) (da_cons (di_v (pv 3)) (da_cons (di_bl) (da_nil))))))))
  (dss_nil))
  (dss_cons ((by first | exact ds_set (i := 5) sc_law_due.nd rfl (by first | exact Or.inl rfl | exact Or.inr rfl) (de_lc rfl sc_law_due.nd (dw_any rfl (di_v (pv 0))) (own := [("k", 4)]) (blkOk_by rfl) (by decide) (fun _ _ _ _ _ => dg_name (i := 4) sc_law_due.nd rfl (by first | exact Or.inl rfl | exact Or.inr rfl)) (fun _ _ _ _ _ => dts_nil) (fun _ _ _ _ _ => di_fz (de_call rfl (c_law_fraction.up (by omega)) C.hr C.gd takes0 (dm_cons (di_v (pv 4)) (dm_nil))))) | exact ds_setLc (i := 5) rfl sc_law_due.nd rfl rfl rfl (dw_any rfl (di_v (pv 0))) (own := [("k", 4)]) (blkOk_by rfl) (by decide) (fun _ _ _ _ _ => dg_name (i := 4) sc_law_due.nd rfl (by first | exact Or.inl rfl | exact Or.inr rfl)) (fun _ _ _ _ _ => dts_nil) (fun _ _ _ _ _ => di_fz (de_call rfl (c_law_fraction.up (by omega)) C.hr C.gd takes0 (dm_cons (di_v (pv 4)) (dm_nil))))))
  (dss_cons ((by first | exact ds_set (i := 6) sc_law_due.nd rfl (by first | exact Or.inl rfl | exact Or.inr rfl) (de_lc rfl sc_law_due.nd (dw_any rfl (di_v (pv 1))) (own := [("k", 4)]) (blkOk_by rfl) (by decide) (fun _ _ _ _ _ => dg_name (i := 4) sc_law_due.nd rfl (by first | exact Or.inl rfl | exact Or.inr rfl)) (fun _ _ _ _ _ => dts_nil) (fun _ _ _ _ _ => di_fz (de_call rfl (c_law_fraction.up (by omega)) C.hr C.gd takes0 (dm_cons (di_v (pv 4)) (dm_nil))))) | exact ds_setLc (i := 6) rfl sc_law_due.nd rfl rfl rfl (dw_any rfl (di_v (pv 1))) (own := [("k", 4)]) (blkOk_by rfl) (by decide) (fun _ _ _ _ _ => dg_name (i := 4) sc_law_due.nd rfl (by first | exact Or.inl rfl | exact Or.inr rfl)) (fun _ _ _ _ _ => dts_nil) (fun _ _ _ _ _ => di_fz (de_call rfl (c_law_fraction.up (by omega)) C.hr C.gd takes0 (dm_cons (di_v (pv 4)) (dm_nil))))))
  (dss_cons ((by first | exact ds_set (i := 7) sc_law_due.nd rfl (by first | exact Or.inl rfl | exact Or.inr rfl) (de_lc rfl sc_law_due.nd (dw_any rfl (di_v (pv 2))) (own := [("k", 4)]) (blkOk_by rfl) (by decide) (fun _ _ _ _ _ => dg_name (i := 4) sc_law_due.nd rfl (by first | exact Or.inl rfl | exact Or.inr rfl)) (fun _ _ _ _ _ => dts_nil) (fun _ _ _ _ _ => di_fz (de_call rfl (c_law_fraction.up (by omega)) C.hr C.gd takes0 (dm_cons (di_v (pv 4)) (dm_nil))))) | exact ds_setLc (i := 7) rfl sc_law_due.nd rfl rfl rfl (dw_any rfl (di_v (pv 2))) (own := [("k", 4)]) (blkOk_by rfl) (by decide) (fun _ _ _ _ _ => dg_name (i := 4) sc_law_due.nd rfl (by first | exact Or.inl rfl | exact Or.inr rfl)) (fun _ _ _ _ _ => dts_nil) (fun _ _ _ _ _ => di_fz (de_call rfl (c_law_fraction.up (by omega)) C.hr C.gd takes0 (dm_cons (di_v (pv 4)) (dm_nil))))))
  (dss_cons (ds_for (is := [8]) C.po rfl (dw_any rfl (di_fz (de_catR (de_catNN (pv 5) (pv 6)) (pv 7)))) (dg_name (i := 8) sc_law_due.nd rfl (by first | exact Or.inl rfl | exact Or.inr rfl))
  (dss_one (ds_if (dt_cmp od_gt (di_fz (de_call rfl (c_law_digits.up (by omega)) C.hr C.gd C.tk (dm_cons (di_v (pv 8)) (dm_nil)))) (di_int) rfl)
  (dss_one (ds_ret (de_di (di_tup (da_cons (di_str) (da_cons (di_fz (de_call rfl (c_law_digits.up (by omega)) C.hr C.gd C.tk (dm_cons (di_v (pv 8)) (dm_nil)))) (da_cons (di_bl) (da_nil))))))))
  (dss_nil))))
  (dss_cons (ds_set (i := 7) sc_law_due.nd rfl (by first | exact Or.inl rfl | exact Or.inr rfl) (de_call rfl (c_law_multiple.up (by omega)) C.hr C.gd C.tk (dm_cons (di_v (pv 7)) (dm_nil))))
  (dss_cons (ds_if (dt_cmp od_gt (di_cb (cd_sum rfl rfl) g.sum_ boot_sum (da_cons (di_v (pv 7)) (da_nil))) (di_int) rfl)
  (dss_one (ds_ret (de_di (di_tup (da_cons (di_str) (da_cons (di_cb (cd_sum rfl rfl) g.sum_ boot_sum (da_cons (di_v (pv 7)) (da_nil))) (da_cons (di_bl) (da_nil))))))))
  (dss_nil))
  (dss_cons (ds_set (i := 8) sc_law_due.nd rfl (by first | exact Or.inl rfl | exact Or.inr rfl) (de_call rfl (c_law_product.up (by omega)) C.hr C.gd C.tk (dm_cons (di_v (pv 5)) (dm_cons (di_v (pv 7)) (dm_nil)))))
  (dss_cons (ds_set (i := 9) sc_law_due.nd rfl (by first | exact Or.inl rfl | exact Or.inr rfl) (de_call rfl (c_law_product.up (by omega)) C.hr C.gd C.tk (dm_cons (di_v (pv 6)) (dm_cons (di_v (pv 7)) (dm_nil)))))
  (dss_cons (ds_set (i := 4) sc_law_due.nd rfl (by first | exact Or.inl rfl | exact Or.inr rfl) (de_di (di_op od_sub (di_op od_mul (di_ix rfl (di_v (pv 8)) (di_int)) (di_ix rfl (di_v (pv 9)) (di_int))) (di_op od_mul (di_ix rfl (di_v (pv 9)) (di_int)) (di_ix rfl (di_v (pv 8)) (di_int))))))
  (dss_one (ds_ret (de_di (di_tup (da_cons (di_str) (da_cons (di_op od_sub (di_ct cd_int g.int_ rfl (da_cons (di_cmp od_gt (di_v (pv 4)) (di_int) rfl) (da_nil))) (di_ct cd_int g.int_ rfl (da_cons (di_cmp od_lt (di_v (pv 4)) (di_int) rfl) (da_nil)))) (da_nil))))))))))))))))))

def t_law_powers : TSd :=
  dSeq (dAsg (dCall sp_law_draw (mMut 0 (mCons (dC (.int 9)) (mNil)))) 2)
  (dSeq (dIf (dB (dBin rEq (dV 2) (dC (.int 0))))
  (dRet (dLc (wR1 (dCons (dV 1) (dNil))) [3] (gN 3) (bYes) (dTup (dCons (dC (.int 0)) (dCons (dC (.int 1)) (dNil))))))
  (dNext))
  (dSeq (dIf (dB (dBin rEq (dV 2) (dC (.int 1))))
  (dSeq (dAsg (dLc (wR1 (dCons (dV 1) (dNil))) [3] (gN 3) (bYes) (dFz (dCall sp_law_draw (mMut 0 (mCons (dC (.int 9)) (mNil)))))) 4)
  (dSeq (dAsg (dCall sp_law_draw (mMut 0 (mCons (dV 1) (mNil)))) 5)
  (dSeq (dSetIx 4 (dBin rSub (dBin rAdd (dBin rAdd (dIxN 4 (dV 5)) (dC (.int 2000))) (dFz (dCall sp_law_draw (mMut 0 (mCons (dC (.int 2)) (mNil)))))) (dCBN rSumD 4)) (dV 5))
  (dSeq (dAsg (dEm (dBin rAdd (dC (.int 1)) (dFz (dCall sp_law_draw (mMut 0 (mCons (dC (.int 4)) (mNil))))))) 6)
  (dRet (dLc (wA (dV 4)) [3] (gN 3) (bYes) (dFz (dCall sp_law_low (mCons (dV 3) (mCons (dV 6) (mNil)))))))))))
  (dNext))
  (dSeq (dIf (dB (dBin rEq (dV 2) (dC (.int 2))))
  (dRet (dLc (wR1 (dCons (dV 1) (dNil))) [3] (gN 3) (bYes) (dFz (dCall sp_law_low (mCons (dFz (dCall sp_law_great (mMut 0 (mCons (dBin rAdd (dC (.int 1)) (dFz (dCall sp_law_draw (mMut 0 (mCons (dC (.int 61)) (mNil)))))) (mNil))))) (mCons (dBin rAdd (dC (.int 1)) (dFz (dCall sp_law_draw (mMut 0 (mCons (dC (.int 4)) (mNil)))))) (mNil)))))))
  (dNext))
  (dSeq (dAsg (dCall sp_law_pick (mMut 0 (mCons (dFz (dLst (dCons (dC (.int 1)) (dCons (dC (.int 1)) (dCons (dC (.int 2)) (dCons (dC (.int 6)) (dNil))))))) (mNil)))) 6)
  (dRet (dLc (wR1 (dCons (dV 1) (dNil))) [3] (gN 3) (bYes) (dFz (dCall sp_law_low (mCons (dBin rMul (dV 6) (dFz (dCall sp_law_draw (mMut 0 (mCons (dC (.int 10)) (mNil)))))) (mCons (dIfE (dB (dBin rGt (dV 2) (dC (.int 5)))) (dBin rAdd (dC (.int 1)) (dFz (dCall sp_law_draw (mMut 0 (mCons (dC (.int 4)) (mNil)))))) (dBin rAdd (dV 6) (dC (.int 1)))) (mNil)))))))))))
theorem r_law_powers {P : Program} {w : World} {K : PySem.W.Frag} {mg : Str → Option Value} {base : Heap} {H0 : Hp} {R0 : Rg} {B : List (Nat × Addr)} {W : WX} {k : Nat} {f : Addr} {cdv : Value} {A : Around} {outer : List Env} {s : Shared} {H : Hp} {E : XK} (g : Gls P w K mg base) (C : Cq (cxOf (L2N.CX P w) P w K mg base N_law_powers "_law_powers" s_law_powers f cdv A outer s H E) W 2) (c_law_draw : Dg P w K mg base "_law_draw" 1 ["jar", "many"] sp_law_draw) (c_law_pick : Dg P w K mg base "_law_pick" 2 ["jar", "menu"] sp_law_pick) (c_law_great : Dg P w K mg base "_law_great" 2 ["jar", "digits"] sp_law_great) (c_law_low : Dg P w K mg base "_law_low" 2 ["top", "low"] sp_law_low)   :
    DSs ⟨K, H0, R0, B⟩ W (cxOf (L2N.CX P w) P w K mg base N_law_powers "_law_powers" s_law_powers f cdv A outer s H E) b_law_powers (t_law_powers) :=
  dss_cons (ds_set (i := 2) sc_law_powers.nd rfl (by first | exact Or.inl rfl | exact Or.inr rfl) (de_call rfl (c_law_draw.up (by omega)) C.hr C.gd C.tk (dm_mut (pv 0) (dm_cons (di_int) (dm_nil)))))
  (dss_cons (ds_if (dt_cmp (od_eq C.hu rfl) (di_v (pv 2)) (di_int) rfl)
  (dss_one (ds_ret (de_lc rfl sc_law_powers.nd (dw_range1 g.range_ (da_cons (di_v (pv 1)) (da_nil))) (own := [("k", 3)]) (blkOk_by rfl) (by decide) (fun _ _ _ _ _ => dg_name (i := 3) sc_law_powers.nd rfl (by first | exact Or.inl rfl | exact Or.inr rfl)) (fun _ _ _ _ _ => dts_nil) (fun _ _ _ _ _ => di_tup (da_cons (di_int) (da_cons (di_int) (da_nil)))))))
  (dss_nil))
  (dss_cons (ds_if (dt_cmp (od_eq C.hu rfl) (di_v (pv 2)) (di_int) rfl)
  (dss_cons ((by first | exact ds_set (i := 4) sc_law_powers.nd rfl (by first | exact Or.inl rfl | exact Or.inr rfl) (de_lc rfl sc_law_powers.nd (dw_range1 g.range_ (da_cons (di_v (pv 1)) (da_nil))) (own := [("k", 3)]) (blkOk_by rfl) (by decide) (fun _ _ _ _ _ => dg_name (i := 3) sc_law_powers.nd rfl (by first | exact Or.inl rfl | exact Or.inr rfl)) (fun _ _ _ _ _ => dts_nil) (fun _ _ _ _ _ => di_fz (de_call rfl (c_law_draw.up (by omega)) C.hr C.gd takes0 (dm_mut (pv 0) (dm_cons (di_int) (dm_nil)))))) | exact ds_setLc (i := 4) rfl sc_law_powers.nd rfl rfl rfl (dw_range1 g.range_ (da_cons (di_v (pv 1)) (da_nil))) (own := [("k", 3)]) (blkOk_by rfl) (by decide) (fun _ _ _ _ _ => dg_name (i := 3) sc_law_powers.nd rfl (by first | exact Or.inl rfl | exact Or.inr rfl)) (fun _ _ _ _ _ => dts_nil) (fun _ _ _ _ _ => di_fz (de_call rfl (c_law_draw.up (by omega)) C.hr C.gd takes0 (dm_mut (pv 0) (dm_cons (di_int) (dm_nil)))))))
  (dss_cons (ds_set (i := 5) sc_law_powers.nd rfl (by first | exact Or.inl rfl | exact Or.inr rfl) (de_call rfl (c_law_draw.up (by omega)) C.hr C.gd C.tk (dm_mut (pv 0) (dm_cons (di_v (pv 1)) (dm_nil)))))
  (dss_cons (ds_setIx (di_op od_sub (di_op od_add (di_op od_add (di_ixN rfl (pv 4) (di_v (pv 5))) (di_int)) (di_fz (de_call rfl (c_law_draw.up (by omega)) C.hr C.gd C.tk (dm_mut (pv 0) (dm_cons (di_int) (dm_nil)))))) (di_cbn (cd_sum rfl rfl) g.sum_ boot_sum (pv 4))) (pv 4) (di_v (pv 5)) (fun _ => rfl))
  (dss_cons (ds_set (i := 6) sc_law_powers.nd rfl (by first | exact Or.inl rfl | exact Or.inr rfl) (de_di (di_op od_add (di_int) (di_fz (de_call rfl (c_law_draw.up (by omega)) C.hr C.gd C.tk (dm_mut (pv 0) (dm_cons (di_int) (dm_nil))))))))
  (dss_one (ds_ret (de_lc rfl sc_law_powers.nd (dw_any rfl (di_v (pv 4))) (own := [("k", 3)]) (blkOk_by rfl) (by decide) (fun _ _ _ _ _ => dg_name (i := 3) sc_law_powers.nd rfl (by first | exact Or.inl rfl | exact Or.inr rfl)) (fun _ _ _ _ _ => dts_nil) (fun _ _ _ _ _ => di_fz (de_call rfl (c_law_low.up (by omega)) C.hr C.gd takes0 (dm_cons (di_v (pv 3)) (dm_cons (di_v (pv 6)) (dm_nil))))))))))))
  (dss_nil))
  (dss_cons (ds_if (dt_cmp (od_eq C.hu rfl) (di_v (pv 2)) (di_int) rfl)
  (dss_one (ds_ret (de_lc rfl sc_law_powers.nd (dw_range1 g.range_ (da_cons (di_v (pv 1)) (da_nil))) (own := [("k", 3)]) (blkOk_by rfl) (by decide) (fun _ _ _ _ _ => dg_name (i := 3) sc_law_powers.nd rfl (by first | exact Or.inl rfl | exact Or.inr rfl)) (fun _ _ _ _ _ => dts_nil) (fun _ _ _ _ _ => di_fz (de_call rfl (c_law_low.up (by omega)) C.hr C.gd takes0 (dm_cons (di_fz (de_call rfl (c_law_great.up (by omega)) C.hr C.gd takes0 (dm_mut (pv 0) (dm_cons (di_op od_add (di_int) (di_fz (de_call rfl (c_law_draw.up (by omega)) C.hr C.gd takes0 (dm_mut (pv 0) (dm_cons (di_int) (dm_nil)))))) (dm_nil))))) (dm_cons (di_op od_add (di_int) (di_fz (de_call rfl (c_law_draw.up (by omega)) C.hr C.gd takes0 (dm_mut (pv 0) (dm_cons (di_int) (dm_nil)))))) (dm_nil))))))))
  (dss_nil))
  (dss_cons (ds_set (i := 6) sc_law_powers.nd rfl (by first | exact Or.inl rfl | exact Or.inr rfl) (de_call rfl (c_law_pick.up (by omega)) C.hr C.gd C.tk (dm_mut (pv 0) (dm_cons (di_fz (de_lst (da_cons (di_int) (da_cons (di_int) (da_cons (di_int) (da_cons (di_int) (da_nil))))))) (dm_nil)))))
  (dss_one (ds_ret (de_lc rfl sc_law_powers.nd (dw_range1 g.range_ (da_cons (di_v (pv 1)) (da_nil))) (own := [("k", 3)]) (blkOk_by rfl) (by decide) (fun _ _ _ _ _ => dg_name (i := 3) sc_law_powers.nd rfl (by first | exact Or.inl rfl | exact Or.inr rfl)) (fun _ _ _ _ _ => dts_nil) (fun _ _ _ _ _ => di_fz (de_call rfl (c_law_low.up (by omega)) C.hr C.gd takes0 (dm_cons (di_op od_mul (di_v (pv 6)) (di_fz (de_call rfl (c_law_draw.up (by omega)) C.hr C.gd takes0 (dm_mut (pv 0) (dm_cons (di_int) (dm_nil)))))) (dm_cons (di_if (dt_cmp od_gt (di_v (pv 2)) (di_int) rfl) (di_op od_add (di_int) (di_fz (de_call rfl (c_law_draw.up (by omega)) C.hr C.gd takes0 (dm_mut (pv 0) (dm_cons (di_int) (dm_nil)))))) (di_op od_add (di_v (pv 6)) (di_int))) (dm_nil))))))))))))

def t_law_spoilt : TSd :=
  dSeq (dAsg (dLo (dV 1)) 2)
  (dSeq (dAsg (dCall sp_law_draw (mMut 0 (mCons (dCBN rLen 2) (mNil)))) 3)
  (dSeq (dAsg (dCall sp_law_draw (mMut 0 (mCons (dC (.int 6)) (mNil)))) 4)
  (dSeq (dIf (dB (dBin rLt (dV 4) (dC (.int 2))))
  (dRet (dIfD (dB (dBin rEq (dV 4) (dC (.int 0)))) (dCat (dSlN 2 (pNo) (pSo (dV 3))) (dSlN 2 (pSo (dBin rAdd (dV 3) (dC (.int 1)))) (pNo))) (dCatN 2 (dLst (dCons (dC (.int 0)) (dNil))))))
  (dNext))
  (dSeq (dIf (dB (dBin rEq (dV 4) (dC (.int 2))))
  (dRet (dCall sp_law_pick (mMut 0 (mCons (dFz (dLst (dCons (dC .none) (dCons (dC (.str "1")) (dCons (dEmp) (dCons (dC (.int 1)) (dCons (dC (.bool true)) (dNil)))))))) (mNil)))))
  (dNext))
  (dSeq (dSetIx 2 (dFz (dCall sp_law_pick (mMut 0 (mCons (dFz (dLst (dCons (dC (.bool true)) (dCons (dC .none) (dCons (dNeg (dC (.int 1))) (dCons (dTup (dCons (dNeg (dC (.int 1))) (dCons (dC (.int 2)) (dNil)))) (dCons (dC (.str "01")) (dCons (dC (.str "2/4")) (dCons (dFz (dLst (dCons (dC (.int 1)) (dNil)))) (dCons (dTup (dCons (dC (.int 0)) (dCons (dC (.int 3)) (dNil)))) (dCons (dC (.str "-1")) (dCons (dTup (dCons (dC (.int 1)) (dCons (dC (.int 0)) (dNil)))) (dNil))))))))))))) (mNil))))) (dV 3))
  (dRet (dIfD (dB (dBin rLt (dV 4) (dC (.int 5)))) (dM 2) (dEm (dToN 2)))))))))
theorem r_law_spoilt {P : Program} {w : World} {K : PySem.W.Frag} {mg : Str → Option Value} {base : Heap} {H0 : Hp} {R0 : Rg} {B : List (Nat × Addr)} {W : WX} {k : Nat} {f : Addr} {cdv : Value} {A : Around} {outer : List Env} {s : Shared} {H : Hp} {E : XK} (g : Gls P w K mg base) (C : Cq (cxOf (L2N.CX P w) P w K mg base N_law_spoilt "_law_spoilt" s_law_spoilt f cdv A outer s H E) W 2) (c_law_draw : Dg P w K mg base "_law_draw" 1 ["jar", "many"] sp_law_draw) (c_law_pick : Dg P w K mg base "_law_pick" 2 ["jar", "menu"] sp_law_pick)   :
    DSs ⟨K, H0, R0, B⟩ W (cxOf (L2N.CX P w) P w K mg base N_law_spoilt "_law_spoilt" s_law_spoilt f cdv A outer s H E) b_law_spoilt (t_law_spoilt) :=
  dss_cons (ds_set (i := 2) sc_law_spoilt.nd rfl (by first | exact Or.inl rfl | exact Or.inr rfl) (de_lo rfl g.list_ (di_v (pv 1))))
  (dss_cons (ds_set (i := 3) sc_law_spoilt.nd rfl (by first | exact Or.inl rfl | exact Or.inr rfl) (de_call rfl (c_law_draw.up (by omega)) C.hr C.gd C.tk (dm_mut (pv 0) (dm_cons (di_cbn (cd_len rfl) g.len_ boot_len (pv 2)) (dm_nil)))))
  (dss_cons (ds_set (i := 4) sc_law_spoilt.nd rfl (by first | exact Or.inl rfl | exact Or.inr rfl) (de_call rfl (c_law_draw.up (by omega)) C.hr C.gd C.tk (dm_mut (pv 0) (dm_cons (di_int) (dm_nil)))))
  (dss_cons (ds_if (dt_cmp od_lt (di_v (pv 4)) (di_int) rfl)
  (dss_one (ds_ret (de_if (dt_cmp (od_eq C.hu rfl) (di_v (pv 4)) (di_int) rfl) (de_cat (de_slN rfl (pv 2) (dp_no) (dp_so (di_v (pv 3)))) (de_slN rfl (pv 2) (dp_so (di_op od_add (di_v (pv 3)) (di_int))) (dp_no))) (de_catN (pv 2) (de_lst (da_cons (di_int) (da_nil)))))))
  (dss_nil))
  (dss_cons (ds_if (dt_cmp (od_eq C.hu rfl) (di_v (pv 4)) (di_int) rfl)
  (dss_one (ds_ret (de_call rfl (c_law_pick.up (by omega)) C.hr C.gd C.tk (dm_mut (pv 0) (dm_cons (di_fz (de_lst (da_cons (di_non) (da_cons (di_str) (da_cons (di_emp) (da_cons (di_int) (da_cons (di_bl) (da_nil)))))))) (dm_nil))))))
  (dss_nil))
  (dss_cons (ds_setIx (di_fz (de_call rfl (c_law_pick.up (by omega)) C.hr C.gd C.tk (dm_mut (pv 0) (dm_cons (di_fz (de_lst (da_cons (di_bl) (da_cons (di_non) (da_cons (di_neg (di_int)) (da_cons (di_tup (da_cons (di_neg (di_int)) (da_cons (di_int) (da_nil)))) (da_cons (di_str) (da_cons (di_str) (da_cons (di_fz (de_lst (da_cons (di_int) (da_nil)))) (da_cons (di_tup (da_cons (di_int) (da_cons (di_int) (da_nil)))) (da_cons (di_str) (da_cons (di_tup (da_cons (di_int) (da_cons (di_int) (da_nil)))) (da_nil))))))))))))) (dm_nil))))) (pv 2) (di_v (pv 3)) (fun _ => rfl))
  (dss_one (ds_ret (de_if (dt_cmp od_lt (di_v (pv 4)) (di_int) rfl) (de_m (pv 2)) (de_di (di_toN rfl g.tuple_ (pv 2)))))))))))

def t_law (K : PySem.W.Frag) : TSd :=
  dSeq (dAsg (dCall sp_law_jar (mCons (dV 0) (mNil))) 1)
  (dSeq (dFor (wR1 (dCons (dC (.int 4)) (dNil))) (gN 2)
  (dSeq (dAsg (dEm (dBin rAdd (dC (.int 1)) (dFz (dCall sp_law_draw (mMut 1 (mCons (dC (.int 5)) (mNil))))))) 3)
  (dSeq (dAsg (dCall sp_law_shares (mMut 1 (mCons (dV 3) (mNil)))) 4)
  (dSeq (dAsg (dCall sp_law_draw (mMut 1 (mCons (dC (.int 4)) (mNil)))) 5)
  (dSeq (dAsg (dCall sp_law_draw (mMut 1 (mCons (dV 3) (mNil)))) 6)
  (dSeq (dAsg (dIfD (dB (dBin rEq (dV 5) (dC (.int 0)))) (dEm (dV 4)) (dIfD (dB (dBin rEq (dV 5) (dC (.int 1)))) (dCat (dSl (dV 4) (pSo (dV 6)) (pNo)) (dSl (dV 4) (pNo) (pSo (dV 6)))) (dCall sp_law_shares (mMut 1 (mCons (dV 3) (mNil)))))) 7)
  (dSeq (dAsg (dCall sp_law_ways (mMut 1 (mCons (dFz (dCall sp_law_powers (mMut 1 (mCons (dV 3) (mNil))))) (mNil)))) 8)
  (dSeq (dIf (dB (dBin rEq (dFz (dCall sp_law_draw (mMut 1 (mCons (dC (.int 12)) (mNil))))) (dC (.int 0))))
  (dSeq (dAsg (dCall sp_law_pick (mMut 1 (mCons (dFz (dLst (dCons (dBin rPow (dC (.int 10)) (dC (.int 59))) (dCons (dBin rPow (dC (.int 10)) (dC (.int 60))) (dNil))))) (mNil)))) 6)
  (dSeq (dAsg (dLst (dCons (dTup (dCons (dC (.int 1)) (dCons (dV 6) (dNil)))) (dCons (dTup (dCons (dBin rSub (dV 6) (dC (.int 1))) (dCons (dV 6) (dNil)))) (dNil)))) 4)
  (dSeq (dAsg (dCall sp_law_shares (mMut 1 (mCons (dC (.int 2)) (mNil)))) 7)
  (dAsg (dLst (dCons (dFz (dCall sp_law_draw (mMut 1 (mCons (dC (.int 6)) (mNil))))) (dCons (dFz (dCall sp_law_draw (mMut 1 (mCons (dC (.int 6)) (mNil))))) (dNil)))) 8))))
  (dNext))
  (dSeq (dAsg (dCall sp_law_ways (mMut 1 (mCons (dV 4) (mNil)))) 9)
  (dSeq (dAsg (dCall sp_law_ways (mMut 1 (mCons (dV 7) (mNil)))) 10)
  (dSeq (dAsg (dEm (dIfE (dB (dBin rEq (dFz (dCall sp_law_draw (mMut 1 (mCons (dC (.int 9)) (mNil))))) (dC (.int 0)))) (dFz (dCall sp_law_spoilt (mMut 1 (mCons (dV 9) (mNil))))) (dV 9))) 9)
  (dSeq (dAsg (dEm (dIfE (dB (dBin rEq (dFz (dCall sp_law_draw (mMut 1 (mCons (dC (.int 9)) (mNil))))) (dC (.int 0)))) (dFz (dCall sp_law_spoilt (mMut 1 (mCons (dV 10) (mNil))))) (dV 10))) 10)
  (dSeq (dAsg (dIfD (dB (dBin rEq (dFz (dCall sp_law_draw (mMut 1 (mCons (dC (.int 6)) (mNil))))) (dC (.int 0)))) (dCall sp_law_spoilt (mMut 1 (mCons (dV 8) (mNil)))) (dEm (dV 8))) 8)
  (dSeq (dAsg (dEm (dCB rRepr (dCons (dFz (dLst (dCons (dV 9) (dCons (dV 10) (dCons (dV 8) (dNil)))))) dNil))) 11)
  (dSeq (dAsg (dLst (dCons (dTup (dCons (dV 9) (dCons (dV 10) (dCons (dV 8) (dNil))))) (dCons (dTup (dCons (dV 10) (dCons (dV 9) (dCons (dV 8) (dNil))))) (dCons (dTup (dCons (dV 9) (dCons (dV 9) (dCons (dV 8) (dNil))))) (dNil))))) 12)
  (dSeq (dFor (wA (dV 12)) (gN 13)
  (dSeq (dAsg (dCall sp_law_due (mCons (dIx (dV 13) (dC (.int 0))) (mCons (dIx (dV 13) (dC (.int 1))) (mCons (dIx (dV 13) (dC (.int 2))) (mNil))))) 14)
  (dIf (dNot (dB (dFz (dCall (sp_law_like 5) (mCons (dFz (dCall (sp_law_ask K) (mMut 1 (mCons (dIx (dV 13) (dC (.int 0))) (mCons (dIx (dV 13) (dC (.int 1))) (mCons (dIx (dV 13) (dC (.int 2))) (mNil))))))) (mCons (dV 14) (mNil)))))))
  (dRet (dEm (dC (.bool false))))
  (dNext))))
  (dIf (dB (dBin rNe (dCB rRepr (dCons (dFz (dLst (dCons (dV 9) (dCons (dV 10) (dCons (dV 8) (dNil)))))) dNil)) (dV 11)))
  (dRet (dEm (dC (.bool false))))
  (dNext))))))))))))))))))
  (dRet (dEm (dC (.bool true)))))
theorem r_law {P : Program} {w : World} {K : PySem.W.Frag} {mg : Str → Option Value} {base : Heap} {H0 : Hp} {R0 : Rg} {B : List (Nat × Addr)} {W : WX} {k : Nat} {f : Addr} {cdv : Value} {A : Around} {outer : List Env} {s : Shared} {H : Hp} {E : XK} (g : Gls P w K mg base) (C : Cq (cxOf (L2N.CX P w) P w K mg base N_law "law" s_law f cdv A outer s H E) W 9) (c_law_jar : Dg P w K mg base "_law_jar" 1 ["script"] sp_law_jar) (c_law_draw : Dg P w K mg base "_law_draw" 1 ["jar", "many"] sp_law_draw) (c_law_pick : Dg P w K mg base "_law_pick" 2 ["jar", "menu"] sp_law_pick) (c_law_like : Dg P w K mg base "_law_like" 6 ["told", "due"] (sp_law_like 5)) (c_law_ways : Dg P w K mg base "_law_ways" 3 ["jar", "row"] sp_law_ways) (c_law_shares : Dg P w K mg base "_law_shares" 3 ["jar", "many"] sp_law_shares) (c_law_ask : Dg P w K mg base "_law_ask" 9 ["jar", "one", "two", "three"] (sp_law_ask K)) (c_law_due : Dg P w K mg base "_law_due" 6 ["one", "two", "three"] sp_law_due) (c_law_powers : Dg P w K mg base "_law_powers" 3 ["jar", "wide"] sp_law_powers) (c_law_spoilt : Dg P w K mg base "_law_spoilt" 3 ["jar", "one"] sp_law_spoilt)   :
    DSs ⟨K, H0, R0, B⟩ W (cxOf (L2N.CX P w) P w K mg base N_law "law" s_law f cdv A outer s H E) b_law (t_law K) :=
  dss_cons (ds_set (i := 1) sc_law.nd rfl (by first | exact Or.inl rfl | exact Or.inr rfl) (de_call rfl (c_law_jar.up (by omega)) C.hr C.gd C.tk (dm_cons (di_v (pv 0)) (dm_nil))))
  (dss_cons (ds_for (is := [2]) C.po rfl (dw_range1 g.range_ (da_cons (di_int) (da_nil))) (dg_name (i := 2) sc_law.nd rfl (by first | exact Or.inl rfl | exact Or.inr rfl))
  (dss_cons (ds_set (i := 3) sc_law.nd rfl (by first | exact Or.inl rfl | exact Or.inr rfl) (de_di (di_op od_add (di_int) (di_fz (de_call rfl (c_law_draw.up (by omega)) C.hr C.gd C.tk (dm_mut (pv 1) (dm_cons (di_int) (dm_nil))))))))
  (dss_cons (ds_set (i := 4) sc_law.nd rfl (by first | exact Or.inl rfl | exact Or.inr rfl) (de_call rfl (c_law_shares.up (by omega)) C.hr C.gd C.tk (dm_mut (pv 1) (dm_cons (di_v (pv 3)) (dm_nil)))))
  (dss_cons (ds_set (i := 5) sc_law.nd rfl (by first | exact Or.inl rfl | exact Or.inr rfl) (de_call rfl (c_law_draw.up (by omega)) C.hr C.gd C.tk (dm_mut (pv 1) (dm_cons (di_int) (dm_nil)))))
  (dss_cons (ds_set (i := 6) sc_law.nd rfl (by first | exact Or.inl rfl | exact Or.inr rfl) (de_call rfl (c_law_draw.up (by omega)) C.hr C.gd C.tk (dm_mut (pv 1) (dm_cons (di_v (pv 3)) (dm_nil)))))
  (dss_cons (ds_set (i := 7) sc_law.nd rfl (by first | exact Or.inl rfl | exact Or.inr rfl) (de_if (dt_cmp (od_eq C.hu rfl) (di_v (pv 5)) (di_int) rfl) (de_di (di_v (pv 4))) (de_if (dt_cmp (od_eq C.hu rfl) (di_v (pv 5)) (di_int) rfl) (de_cat (de_sl rfl (di_v (pv 4)) (dp_so (di_v (pv 6))) (dp_no)) (de_sl rfl (di_v (pv 4)) (dp_no) (dp_so (di_v (pv 6))))) (de_call rfl (c_law_shares.up (by omega)) C.hr C.gd C.tk (dm_mut (pv 1) (dm_cons (di_v (pv 3)) (dm_nil)))))))
  (dss_cons (ds_set (i := 8) sc_law.nd rfl (by first | exact Or.inl rfl | exact Or.inr rfl) (de_call rfl (c_law_ways.up (by omega)) C.hr C.gd C.tk (dm_mut (pv 1) (dm_cons (di_fz (de_call rfl (c_law_powers.up (by omega)) C.hr C.gd C.tk (dm_mut (pv 1) (dm_cons (di_v (pv 3)) (dm_nil))))) (dm_nil)))))
  (dss_cons (ds_if (dt_cmp (od_eq C.hu rfl) (di_fz (de_call rfl (c_law_draw.up (by omega)) C.hr C.gd C.tk (dm_mut (pv 1) (dm_cons (di_int) (dm_nil))))) (di_int) rfl)
  (dss_cons (ds_set (i := 6) sc_law.nd rfl (by first | exact Or.inl rfl | exact Or.inr rfl) (de_call rfl (c_law_pick.up (by omega)) C.hr C.gd C.tk (dm_mut (pv 1) (dm_cons (di_fz (de_lst (da_cons (di_op od_pow (di_int) (di_int)) (da_cons (di_op od_pow (di_int) (di_int)) (da_nil))))) (dm_nil)))))
  (dss_cons (ds_set (i := 4) sc_law.nd rfl (by first | exact Or.inl rfl | exact Or.inr rfl) (de_lst (da_cons (di_tup (da_cons (di_int) (da_cons (di_v (pv 6)) (da_nil)))) (da_cons (di_tup (da_cons (di_op od_sub (di_v (pv 6)) (di_int)) (da_cons (di_v (pv 6)) (da_nil)))) (da_nil)))))
  (dss_cons (ds_set (i := 7) sc_law.nd rfl (by first | exact Or.inl rfl | exact Or.inr rfl) (de_call rfl (c_law_shares.up (by omega)) C.hr C.gd C.tk (dm_mut (pv 1) (dm_cons (di_int) (dm_nil)))))
  (dss_one (ds_set (i := 8) sc_law.nd rfl (by first | exact Or.inl rfl | exact Or.inr rfl) (de_lst (da_cons (di_fz (de_call rfl (c_law_draw.up (by omega)) C.hr C.gd C.tk (dm_mut (pv 1) (dm_cons (di_int) (dm_nil))))) (da_cons (di_fz (de_call rfl (c_law_draw.up (by omega)) C.hr C.gd C.tk (dm_mut (pv 1) (dm_cons (di_int) (dm_nil))))) (da_nil)))))))))
  (dss_nil))
  (dss_cons (ds_set (i := 9) sc_law.nd rfl (by first | exact Or.inl rfl | exact Or.inr rfl) (de_call rfl (c_law_ways.up (by omega)) C.hr C.gd C.tk (dm_mut (pv 1) (dm_cons (di_v (pv 4)) (dm_nil)))))
  (dss_cons (ds_set (i := 10) sc_law.nd rfl (by first | exact Or.inl rfl | exact Or.inr rfl) (de_call rfl (c_law_ways.up (by omega)) C.hr C.gd C.tk (dm_mut (pv 1) (dm_cons (di_v (pv 7)) (dm_nil)))))
  (dss_cons (ds_set (i := 9) sc_law.nd rfl (by first | exact Or.inl rfl | exact Or.inr rfl) (de_di (di_if (dt_cmp (od_eq C.hu rfl) (di_fz (de_call rfl (c_law_draw.up (by omega)) C.hr C.gd C.tk (dm_mut (pv 1) (dm_cons (di_int) (dm_nil))))) (di_int) rfl) (di_fz (de_call rfl (c_law_spoilt.up (by omega)) C.hr C.gd C.tk (dm_mut (pv 1) (dm_cons (di_v (pv 9)) (dm_nil))))) (di_v (pv 9)))))
  (dss_cons (ds_set (i := 10) sc_law.nd rfl (by first | exact Or.inl rfl | exact Or.inr rfl) (de_di (di_if (dt_cmp (od_eq C.hu rfl) (di_fz (de_call rfl (c_law_draw.up (by omega)) C.hr C.gd C.tk (dm_mut (pv 1) (dm_cons (di_int) (dm_nil))))) (di_int) rfl) (di_fz (de_call rfl (c_law_spoilt.up (by omega)) C.hr C.gd C.tk (dm_mut (pv 1) (dm_cons (di_v (pv 10)) (dm_nil))))) (di_v (pv 10)))))
  (dss_cons (ds_set (i := 8) sc_law.nd rfl (by first | exact Or.inl rfl | exact Or.inr rfl) (de_if (dt_cmp (od_eq C.hu rfl) (di_fz (de_call rfl (c_law_draw.up (by omega)) C.hr C.gd C.tk (dm_mut (pv 1) (dm_cons (di_int) (dm_nil))))) (di_int) rfl) (de_call rfl (c_law_spoilt.up (by omega)) C.hr C.gd C.tk (dm_mut (pv 1) (dm_cons (di_v (pv 8)) (dm_nil)))) (de_di (di_v (pv 8)))))
  (dss_cons (ds_set (i := 11) sc_law.nd rfl (by first | exact Or.inl rfl | exact Or.inr rfl) (de_di (di_cb (cd_repr rfl C.hu C.gd g.sys) g.repr_ rfl (da_cons (di_fz (de_lst (da_cons (di_v (pv 9)) (da_cons (di_v (pv 10)) (da_cons (di_v (pv 8)) (da_nil)))))) da_nil))))
  (dss_cons (ds_set (i := 12) sc_law.nd rfl (by first | exact Or.inl rfl | exact Or.inr rfl) (de_lst (da_cons (di_tup (da_cons (di_v (pv 9)) (da_cons (di_v (pv 10)) (da_cons (di_v (pv 8)) (da_nil))))) (da_cons (di_tup (da_cons (di_v (pv 10)) (da_cons (di_v (pv 9)) (da_cons (di_v (pv 8)) (da_nil))))) (da_cons (di_tup (da_cons (di_v (pv 9)) (da_cons (di_v (pv 9)) (da_cons (di_v (pv 8)) (da_nil))))) (da_nil))))))
  (dss_cons (ds_for (is := [13]) C.po rfl (dw_any rfl (di_v (pv 12))) (dg_name (i := 13) sc_law.nd rfl (by first | exact Or.inl rfl | exact Or.inr rfl))
  (dss_cons (ds_set (i := 14) sc_law.nd rfl (by first | exact Or.inl rfl | exact Or.inr rfl) (de_call rfl (c_law_due.up (by omega)) C.hr C.gd C.tk (dm_cons (di_ix rfl (di_v (pv 13)) (di_int)) (dm_cons (di_ix rfl (di_v (pv 13)) (di_int)) (dm_cons (di_ix rfl (di_v (pv 13)) (di_int)) (dm_nil))))))
  (dss_one (ds_if (dt_not (dt_val (di_fz (de_call rfl (c_law_like.up (by omega)) C.hr C.gd C.tk (dm_cons (di_fz (de_call rfl (c_law_ask.up (by omega)) C.hr C.gd C.tk (dm_mut (pv 1) (dm_cons (di_ix rfl (di_v (pv 13)) (di_int)) (dm_cons (di_ix rfl (di_v (pv 13)) (di_int)) (dm_cons (di_ix rfl (di_v (pv 13)) (di_int)) (dm_nil))))))) (dm_cons (di_v (pv 14)) (dm_nil)))))))
  (dss_one (ds_ret (de_di (di_bl))))
  (dss_nil)))))
  (dss_one (ds_if (dt_cmp (od_ne C.hu rfl) (di_cb (cd_repr rfl C.hu C.gd g.sys) g.repr_ rfl (da_cons (di_fz (de_lst (da_cons (di_v (pv 9)) (da_cons (di_v (pv 10)) (da_cons (di_v (pv 8)) (da_nil)))))) da_nil)) (di_v (pv 11)) rfl)
  (dss_one (ds_ret (de_di (di_bl))))
  (dss_nil)))))))))))))))))))
  (dss_one (ds_ret (de_di (di_bl)))))

end K1


/-! text V1 -/
set_option Elab.async false
set_option linter.all false
set_option maxRecDepth 100000
set_option maxHeartbeats 1000000
namespace K1
open PySem PySem.Spec PyProof.Rows L2 L2H DL

theorem v_made_q {ags : List Ag} {Qd : Rv → List (List D) → Prop} {Xq : Ex → List (List D) → Prop} (h : sp_made_q ags Qd Xq) : t_made_q (endD ags Qd Xq) (startD N_made_q ags) := by
  obtain ⟨t, b, rfl, hb, hz, hq⟩ := h
  have nb : ¬ b < 0 := by omega
  simp [t_made_q, N_made_q, nb]
  have g0 : 0 < t.natAbs.gcd b.natAbs := Nat.gcd_pos_of_pos_right _ (by omega)
  have gz : t.natAbs.gcd b.natAbs < 2 ^ 8999 := Nat.lt_of_le_of_lt (Nat.gcd_le_right _ (by omega)) hz
  by_cases g1 : t.natAbs.gcd b.natAbs = 1
  · have e := gcd1 g1 hb
    rw [e] at hq
    simp [g1]
    exact ⟨by rw [sizeLine_eq]; omega, hq⟩
  · rw [dr_mk hb] at hq
    have g1' : ¬ ((t.natAbs.gcd b.natAbs : Nat) : Int) = 1 := by omega
    simp [g1', g1]
    have sl : 2 ≤ sizeLine := by rw [sizeLine_eq]; omega
    exact ⟨⟨by omega, .inl gz⟩, ⟨by omega, .inl gz⟩, sl, hq⟩
end K1


/-! text V1b -/
set_option Elab.async false
set_option linter.all false
set_option maxRecDepth 100000
set_option maxHeartbeats 1000000
namespace K1
open PySem PySem.Spec PyProof.Rows L2 L2H DL
variable {ags : List Ag} {Qd : Rv → List (List D) → Prop} {Xq : Ex → List (List D) → Prop}
theorem dr_def (r : Qn) : dr r = .tuple [.int r.num, .int r.den] := rfl
@[simp] theorem ix_dr0 (r : Qn) : itemD (dr r) 0 = some (.int r.num) := rfl
@[simp] theorem ix_dr1 (r : Qn) : itemD (dr r) 1 = some (.int r.den) := rfl
theorem line2 : 2 ≤ sizeLine := by rw [sizeLine_eq]; omega
theorem nz (r : Qn) : ((r.den : Nat) : Int).natAbs = r.den := by simp
theorem v_add_q (h : sp_add_q ags Qd Xq) : t_add_q (endD ags Qd Xq) (startD N_add_q ags) := by
  obtain ⟨p, q, m, n, rfl, hp, hq, hm, h⟩ := h
  simp [t_add_q, N_add_q, line2]
  have dp := den_pos p
  have dq := den_pos q
  by_cases e : p.den = q.den
  · rw [if_pos (by rw [e])]
    by_cases e1 : p.den = 1
    · rw [if_pos (by rw [e1]; rfl)]
      rw [add_same e, e1, dr_int] at h
      exact h
    · rw [if_neg (by omega)]
      refine ⟨_, _, rfl, by omega, ?_, ?_⟩
      · rw [nz]
        exact lt_pow_le hp.2 (by omega)
      · rw [add_same e] at h
        simpa using h
  · rw [if_neg (by omega)]
    refine ⟨mulOk hp.1 (by rw [nz]; exact hq.2) (by omega), mulOk hq.1 (by rw [nz]; exact hp.2) (by omega), mulOk (by rw [nz]; exact hp.2) (by rw [nz]; exact hq.2) (by omega), _, _, rfl, ?_, ?_, ?_⟩
    · have := Nat.mul_pos dp dq
      exact_mod_cast this
    · have := mul_lt2 hp.2 hq.2
      have e2 : (((p.den : Nat) : Int) * ((q.den : Nat) : Int)).natAbs = p.den * q.den := by rw [Int.natAbs_mul, nz, nz]
      rw [e2]
      exact lt_pow_le this (by omega)
    · rw [Rat.add_def'] at h
      have e2 : (((p.den : Nat) : Int) * ((q.den : Nat) : Int)).toNat = p.den * q.den := by
        rw [← Int.natCast_mul, Int.toNat_natCast]
      rw [e2]
      exact h
theorem v_law_plus_aux : True := trivial
/-- the loop of sum_q -/
theorem v_sum_q (h : sp_sum_q ags Qd Xq) : t_sum_q (endD ags Qd Xq) (startD N_sum_q ags) := by
  obtain ⟨rs, rfl, hl, hs, h⟩ := h
  simp [t_sum_q, N_sum_q, line2, itemsD]
  refine ⟨fun i δ => δ.length = 3 ∧ δ.at 1 = .im (dr (sumQ (rs.take i))), ?_, fun i d δ hd hI => ?_, fun δ hI => ?_⟩
  · exact ⟨rfl, rfl⟩
  · obtain ⟨r, hr, rfl⟩ : ∃ r, rs[i]? = some r ∧ d = dr r := by
      rw [List.getElem?_map] at hd
      cases q : rs[i]? with
      | none => rw [q] at hd; cases hd
      | some r => rw [q] at hd; exact ⟨r, rfl, (Option.some.inj hd).symm⟩
    obtain ⟨hlen, h1⟩ := hI
    match δ, hlen, h1 with
    | [s0, s1, s2], _, h1 =>
      have h1' : s1 = .im (dr (sumQ (rs.take i))) := h1
      subst h1'
      simp
      refine ⟨_, _, 211 * 40 + 1, 210, rfl, (sz_sum (rs := rs.take i) fun x hx => hs x (List.mem_of_mem_take hx)).mono ?_, hs r (List.mem_of_getElem? hr), by omega, ?_⟩
      · have : (rs.take i).length ≤ rs.length := List.length_take_le' ..
        omega
      · simp
        rw [sumQ_take hr]
  · obtain ⟨hlen, h1⟩ := hI
    match δ, hlen, h1 with
    | [s0, s1, s2], _, h1 =>
      have h1' : s1 = .im (dr (sumQ (rs.take (rs.map dr).length))) := h1
      subst h1'
      rw [List.length_map, List.take_length]
      simp
      exact h
end K1


/-! text V1c -/
set_option Elab.async false
set_option linter.all false
set_option maxRecDepth 100000
set_option maxHeartbeats 1000000
namespace K1
open PySem PySem.Spec PyProof.Rows L2 L2H DL
variable {ags : List Ag} {Qd : Rv → List (List D) → Prop} {Xq : Ex → List (List D) → Prop}
theorem pow_half {P S L : Nat} : P * S ^ L = (if L % 2 = 1 then P * S else P) * (S * S) ^ (L / 2) := by
  have e : L = 2 * (L / 2) + L % 2 := by omega
  have e2 : S ^ L = (S * S) ^ (L / 2) * S ^ (L % 2) := by
    conv => lhs; rw [e, Nat.pow_add, Nat.pow_mul, Nat.pow_two]
  rw [e2]
  by_cases h : L % 2 = 1
  · rw [if_pos h, h, Nat.pow_one, Nat.mul_comm ((S * S) ^ (L / 2)) S, ← Nat.mul_assoc]
  · have h0 : L % 2 = 0 := by omega
    rw [if_neg h, h0, Nat.pow_zero, Nat.mul_one]
theorem bitOk {a b n : Nat} (h : a * b < 2 ^ n) (ha : 1 ≤ a) (hb : 1 ≤ b) (hn : n ≤ 60000000) : MulOk (a : Int) (b : Int) := by
  have h1 : a < 2 ^ n := Nat.lt_of_le_of_lt (Nat.le_mul_of_pos_right a hb) h
  have h2 : b < 2 ^ n := Nat.lt_of_le_of_lt (Nat.le_mul_of_pos_left b ha) h
  exact mulOk (m := n) (n := n) (by simpa using h1) (by simpa using h2) (by omega)
theorem divP {i j : Int} (h : 0 < j) (hj : j < 1000000) : CDivP i j := ⟨h, PyProof.noPylong_small (by omega)⟩
theorem v_power_whole (h : sp_power_whole ags Qd Xq) : t_power_whole (endD ags Qd Xq) (startD N_power_whole ags) := by
  obtain ⟨n, k, B, rfl, hn, hk, hB, hb, h⟩ := h
  simp [t_power_whole, N_power_whole]
  obtain ⟨n, rfl⟩ := Int.eq_ofNat_of_zero_le (show 0 ≤ n by omega)
  obtain ⟨k, rfl⟩ := Int.eq_ofNat_of_zero_le hk
  rw [Int.toNat_natCast] at hb h
  rw [Int.toNat_natCast] at hb
  have hn1 : 1 ≤ n := by omega
  refine ⟨fun m δ => ∃ (P S L : Nat) (x : Sl), δ = [.im (.int n), .im (.int k), .im (.int P), .im (.int S), .im (.int L), x] ∧ P * S ^ L = n ^ k ∧ 1 ≤ P ∧ 1 ≤ S ∧ L = m, ⟨k, 1, n, k, .no, rfl, by rw [Nat.one_mul], by omega, hn1, rfl⟩, fun m δ hI => ?_⟩
  obtain ⟨P, S, L, x, rfl, hv, hP, hS, hm⟩ := hI
  subst hm
  simp
  by_cases hL : 0 < L
  · rw [if_pos hL]
    refine ⟨divP (by omega) (by omega), ?_⟩
    have e := pow_half (P := P) (S := S) (L := L)
    have hm : ((L : Int) % 2 = 1) ↔ L % 2 = 1 := by omega
    have hS1 : 1 ≤ S ^ (L - 1) := Nat.one_le_pow _ _ hS
    have hSL : S ^ L = S * S ^ (L - 1) := by
      conv => lhs; rw [show L = (L - 1) + 1 by omega, Nat.pow_succ, Nat.mul_comm]
    have hPS : P * S < 2 ^ B := by
      refine Nat.lt_of_le_of_lt ?_ hb
      rw [← hv, hSL, ← Nat.mul_assoc]
      exact Nat.le_mul_of_pos_right _ hS1
    have hSS : 1 < L → S * S < 2 ^ B := fun h1 => by
      refine Nat.lt_of_le_of_lt ?_ hb
      have h2 : S ^ L = S * S * S ^ (L - 2) := by
        conv => lhs; rw [show L = (L - 2) + 1 + 1 by omega, Nat.pow_succ, Nat.pow_succ, Nat.mul_assoc, Nat.mul_comm]
      rw [← hv, h2]
      refine Nat.le_trans (Nat.le_mul_of_pos_right _ (Nat.one_le_pow (L - 2) S hS)) (Nat.le_mul_of_pos_left _ hP)
    have hd : ((L : Int) / 2) = ((L / 2 : Nat) : Int) := by omega
    rw [hd]
    have go : ∀ P' : Nat, P' * (S * S) ^ (L / 2) = n ^ k → 1 ≤ P' → (if 0 < ((L / 2 : Nat) : Int) then MulOk (S : Int) (S : Int) ∧ ∃ m', m' < L ∧ ∃ (P_1 S_1 L_1 : Nat) (x : Sl),
        [Sl.im (.int n), .im (.int k), .im (.int P'), .im (.int ((S : Int) * S)), .im (.int ((L / 2 : Nat) : Int)), .im (.int ((L : Int) % 2))] = [.im (.int n), .im (.int k), .im (.int P_1), .im (.int S_1), .im (.int L_1), x] ∧ P_1 * S_1 ^ L_1 = n ^ k ∧ 1 ≤ P_1 ∧ 1 ≤ S_1 ∧ L_1 = m'
      else ∃ m', m' < L ∧ ∃ (P_1 S_1 L_1 : Nat) (x : Sl),
        [Sl.im (.int n), .im (.int k), .im (.int P'), .im (.int S), .im (.int ((L / 2 : Nat) : Int)), .im (.int ((L : Int) % 2))] = [.im (.int n), .im (.int k), .im (.int P_1), .im (.int S_1), .im (.int L_1), x] ∧ P_1 * S_1 ^ L_1 = n ^ k ∧ 1 ≤ P_1 ∧ 1 ≤ S_1 ∧ L_1 = m') := by
      intro P' h1 h2
      by_cases hl2 : 0 < L / 2
      · rw [if_pos (by omega)]
        refine ⟨bitOk (hSS (by omega)) hS hS hB, L / 2, by omega, P', S * S, L / 2, _, by rw [Int.natCast_mul], h1, h2, Nat.mul_pos hS hS, rfl⟩
      · rw [if_neg (by omega)]
        have hz : L / 2 = 0 := by omega
        refine ⟨L / 2, by omega, P', S, L / 2, _, rfl, ?_, h2, hS, rfl⟩
        rw [hz] at h1 ⊢
        simpa using h1
    by_cases ho : L % 2 = 1
    · rw [if_pos (hm.mpr ho)]
      rw [if_pos ho] at e
      refine ⟨bitOk hPS hP hS hB, ?_⟩
      have := go (P * S) (by rw [← e, hv]) (Nat.mul_pos hP hS)
      rw [Int.natCast_mul] at this
      simpa using this
    · rw [if_neg (fun h => ho (hm.mp h))]
      rw [if_neg ho] at e
      have := go P (by rw [← e, hv]) hP
      simpa using this
  · have : L = 0 := by omega
    subst this
    rw [if_neg hL]
    rw [Nat.pow_zero, Nat.mul_one] at hv
    subst hv
    simpa using h
end K1


/-! text V1d -/
set_option Elab.async false
set_option linter.all false
set_option maxRecDepth 100000
set_option maxHeartbeats 1000000
namespace K1
open PySem PySem.Spec PyProof.Rows L2 L2H DL
variable {ags : List Ag} {Qd : Rv → List (List D) → Prop} {Xq : Ex → List (List D) → Prop}
theorem v_longer_of (h : sp_longer_of ags Qd Xq) : t_longer_of (endD ags Qd Xq) (startD N_longer_of ags) := by
  obtain ⟨r, rfl, hn, h⟩ := h
  simp [t_longer_of, N_longer_of]
  refine ⟨_, rfl, hn.1, _, rfl, by rw [nz]; exact hn.2, ?_⟩
  simp
  have e : (if (ndig r.num.natAbs : Nat) < ((ndig r.den : Nat) : Int) then ((ndig r.den : Nat) : Int) else ((ndig r.num.natAbs : Nat) : Int)) = ((max (ndig r.num.natAbs) (ndig r.den) : Nat) : Int) := by omega
  simp at e
  first
    | (rw [e]; exact h)
    | (simp [e]; exact h)
theorem map_get {α : Type} {f : α → D} {l : List α} {i : Nat} {d : D} (h : (l.map f)[i]? = some d) : ∃ x, l[i]? = some x ∧ d = f x := by
  rw [List.getElem?_map] at h
  cases q : l[i]? with
  | none => rw [q] at h; cases h
  | some x => rw [q] at h; exact ⟨x, rfl, (Option.some.inj h).symm⟩
theorem pair_get {α : Type} {f : α → D} {l : List α} {i : Nat} {d : D} (h : (pairN 0 (l.map f))[i]? = some d) : ∃ x, l[i]? = some x ∧ d = .tuple [.int (i : Nat), f x] := by
  cases q : (l.map f)[i]? with
  | none =>
    have h1 : (l.map f).length ≤ i := by
      rcases Nat.lt_or_ge i (l.map f).length with z | z
      · rw [List.getElem?_eq_getElem z] at q
        cases q
      · exact z
    rw [List.getElem?_eq_none (by rw [pairN_len]; exact h1)] at h
    cases h
  | some y =>
    have := pairN_get (i := 0) q
    rw [h] at this
    obtain ⟨x, hx, rfl⟩ := map_get q
    refine ⟨x, hx, ?_⟩
    have e := Option.some.inj this
    rw [e, Nat.zero_add]
theorem v_law_plus (h : sp_law_plus ags Qd Xq) : t_law_plus (endD ags Qd Xq) (startD N_law_plus ags) := by
  obtain ⟨p, q, m, n, rfl, hp, hq, hm, h⟩ := h
  simp [t_law_plus, N_law_plus]
  have dp := den_pos p
  have dq := den_pos q
  have e2 : (((p.den : Nat) : Int) * ((q.den : Nat) : Int)).natAbs = p.den * q.den := by rw [Int.natAbs_mul, nz, nz]
  have e3 : (((p.den : Nat) : Int) * ((q.den : Nat) : Int)).toNat = p.den * q.den := by rw [← Int.natCast_mul, Int.toNat_natCast]
  have hz : p.den * q.den < 2 ^ 8999 := lt_pow_le (mul_lt2 hp.2 hq.2) (by omega)
  refine ⟨mulOk hp.1 (by rw [nz]; exact hq.2) (by omega), mulOk hq.1 (by rw [nz]; exact hp.2) (by omega), mulOk (by rw [nz]; exact hp.2) (by rw [nz]; exact hq.2) (by omega), _, _, rfl, ?_, ?_, ?_, ?_⟩
  · have := Nat.mul_pos dp dq
    exact_mod_cast this
  · exact Nat.le_trans (PySem.intBits_le_iff.mpr (by rw [e2]; exact hz)) (by omega)
  · refine .inl <| Nat.lt_of_le_of_lt (Nat.gcd_le_right _ ?_) ?_
    · rw [e2]
      exact Nat.mul_pos dp dq
    · rw [e2]
      exact hz
  · rw [Rat.add_def'] at h
    rw [e3]
    exact h
theorem v_law_low (h : sp_law_low ags Qd Xq) : t_law_low (endD ags Qd Xq) (startD N_law_low ags) := by
  obtain ⟨t, b, rfl, hb, hz, hg, h⟩ := h
  have nb : ¬ b < 0 := by omega
  simp [t_law_low, N_law_low, nb, line2]
  refine ⟨_, _, rfl, hz, ?_⟩
  have g0 : 0 < t.gcd b := Nat.gcd_pos_of_pos_right _ (by omega)
  have hg' : (∀ x : Int, x = t ∨ x = b → ((((t.gcd b : Nat) : Int)).natAbs < 2 ^ 8999 ∨ x.natAbs ≤ (((t.gcd b : Nat) : Int)).natAbs)) := fun x hx => by
    rcases hg with hg | hg
    · exact .inl (by simpa using hg)
    · right
      subst hg
      rw [Int.zero_gcd, Int.natAbs_natCast]
      rcases hx with rfl | rfl
      · simp
      · exact Nat.le_refl _
  rw [dr_mk hb] at h
  simp [nb, line2]
  exact ⟨⟨by omega, hg' _ (.inl rfl)⟩, ⟨by omega, hg' _ (.inr rfl)⟩, h⟩
end K1


/-! text V1e -/
set_option Elab.async false
set_option linter.all false
set_option maxRecDepth 100000
set_option maxHeartbeats 1000000
namespace K1
open PySem PySem.Spec PyProof.Rows L2 L2H DL
variable {ags : List Ag} {Qd : Rv → List (List D) → Prop} {Xq : Ex → List (List D) → Prop}
theorem mod_half {U V : Nat} (h : V < U) (h0 : 0 < V) : V * (U % V) * 2 ≤ U * V := by
  have h1 : U % V * 2 ≤ U := by
    have e := Nat.div_add_mod U V
    have q1 : 1 ≤ U / V := by
      rw [Nat.le_div_iff_mul_le h0]
      omega
    have q2 : V ≤ V * (U / V) := Nat.le_mul_of_pos_right _ q1
    have q3 := Nat.mod_lt U h0
    omega
  rw [Nat.mul_assoc, Nat.mul_comm U V]
  exact Nat.mul_le_mul_left V h1
theorem upTo_get' {n i : Nat} {d : D} (h : (DL.upTo 0 1 n)[i]? = some d) : i < n ∧ d = .int (i : Nat) := by
  have hl : i < n := by
    rcases Nat.lt_or_ge i n with z | z
    · exact z
    · rw [List.getElem?_eq_none (by rw [DL.upTo_len]; exact z)] at h
      cases h
  rw [DL.upTo_get hl] at h
  have := Option.some.inj h
  refine ⟨hl, ?_⟩
  rw [← this]
  simp
theorem bits_abs (v : Int) : bitsOf ((v.natAbs : Nat) : Int) = bitsOf v := by
  apply Nat.le_antisymm
  · exact PySem.intBits_natAbs_le (Nat.le_refl _)
  · exact PySem.intBits_le_of_natAbs (by simp) (Nat.le_refl _)
theorem lt_bits (v : Int) : v.natAbs < 2 ^ bitsOf v := PySem.intBits_le_iff.mp (Nat.le_refl _)
def I_gcd (U0 V0 B : Nat) (i : Nat) (δ : Ds) : Prop := ∃ (U V : Nat) (x : Sl), δ = [.im (.int U), .im (.int V), x] ∧ Nat.gcd U V = Nat.gcd U0 V0 ∧ (i = 0 → V = V0) ∧ (1 ≤ i → V < U ∧ U * V * 2 ^ (i - 1) < 2 ^ (2 * B))
theorem v_law_gcd (h : sp_law_gcd ags Qd Xq) : t_law_gcd (endD ags Qd Xq) (startD N_law_gcd ags) := by
  obtain ⟨u, v, rfl, hn, h⟩ := h
  simp [t_law_gcd, N_law_gcd]
  rw [bits_abs]
  have hv := lt_bits v
  generalize bitsOf v = B at hn hv
  have eN : (2 * (B : Int) + 2).toNat = 2 * B + 2 := by omega
  rw [eN]
  have eg : Int.gcd u v = Nat.gcd u.natAbs v.natAbs := rfl
  rw [eg] at h
  generalize u.natAbs = U0 at h
  generalize v.natAbs = V0 at h hv
  refine ⟨mulOk (m := 2) (n := 64) (by decide) (Nat.lt_of_lt_of_le (by simpa using (show B < 2 ^ 40 by omega)) (by decide)) (by omega), ⟨by omega, by omega⟩, ?_⟩
  refine ⟨I_gcd U0 V0 B, ⟨U0, V0, .no, rfl, rfl, fun _ => rfl, fun h => by omega⟩, fun i d δ hd hI => ?_, fun δ hI => ?_⟩
  · obtain ⟨U, V, x, rfl, hg, h0, h1⟩ := hI
    obtain ⟨hi, rfl⟩ := upTo_get' hd
    simp
    by_cases hV : V = 0
    · subst hV
      simp
      rw [Nat.gcd_zero_right] at hg
      rw [hg]
      exact h
    · have hp : 0 < V := by omega
      simp [hV]
      refine ⟨hp, V, U % V, _, by rw [← Int.natCast_emod], ?_, by omega, fun _ => ⟨Nat.mod_lt _ hp, ?_⟩⟩
      · rw [← hg, Nat.gcd_comm U V, Nat.gcd_rec V U, Nat.gcd_comm]
      · rcases Nat.eq_zero_or_pos i with z | z
        · subst z
          have e := h0 rfl
          subst e
          rw [Nat.zero_add, Nat.sub_self, Nat.pow_zero, Nat.mul_one]
          have : V * (U % V) < V * V := Nat.mul_lt_mul_of_pos_left (Nat.mod_lt _ hp) hp
          have h3 := mul_lt2 hv hv
          rw [show B + B = 2 * B by omega] at h3
          omega
        · obtain ⟨h2, h3⟩ := h1 z
          have h4 := mod_half h2 hp
          rw [show i + 1 - 1 = i by omega, show 2 ^ i = 2 * 2 ^ (i - 1) by rw [Nat.mul_comm, ← Nat.pow_succ]; congr 1; omega, ← Nat.mul_assoc]
          exact Nat.lt_of_le_of_lt (Nat.mul_le_mul_right _ h4) h3
  · obtain ⟨U, V, x, rfl, hg, h0, h1⟩ := hI
    rw [DL.upTo_len] at h1
    obtain ⟨h2, h3⟩ := h1 (by omega)
    have hV : V = 0 := by
      rcases Nat.eq_zero_or_pos V with z | z
      · exact z
      · exfalso
        have : 1 ≤ U * V := Nat.mul_pos (by omega) z
        have h4 : 2 ^ (2 * B + 2 - 1) ≤ U * V * 2 ^ (2 * B + 2 - 1) := Nat.le_mul_of_pos_left _ this
        have h5 : (2 : Nat) ^ (2 * B) ≤ 2 ^ (2 * B + 2 - 1) := pow_le2 (by omega)
        omega
    subst hV
    rw [Nat.gcd_zero_right] at hg
    rw [hg]
    simp
    exact h
theorem v_law_power (h : sp_law_power ags Qd Xq) : t_law_power (endD ags Qd Xq) (startD N_law_power ags) := by
  obtain ⟨r, k, rfl, hk, hs, h⟩ := h
  simp [t_law_power, N_law_power]
  refine ⟨⟨by omega, by omega⟩, fun i δ => ∃ x, δ = [.im (dr r), .im (.int (k : Nat)), .im (.int (r.num ^ i)), .im (.int ((r.den : Int) ^ i)), x] , ⟨.no, by simp⟩, fun i d δ hd hI => ?_, fun δ hI => ?_⟩
  · obtain ⟨x, rfl⟩ := hI
    obtain ⟨hi, rfl⟩ := upTo_get' hd
    have pw : ∀ (a : Int), a.natAbs < 2 ^ 210 → MulOk (a ^ i) a := fun a ha => by
      have h1 := PySem.intBits_pow_le (PySem.intBits_le_iff.mpr ha) i
      have h2 := PySem.intBits_le_iff.mpr ha
      have h3 : 210 * i ≤ 210 * 100000 := Nat.mul_le_mul_left _ (by omega)
      show (Builtin.Int.intBits (a ^ i) : Int) + (Builtin.Int.intBits a : Int) ≤ 134217728
      omega
    simp
    refine ⟨pw _ hs.1, pw _ (by rw [nz]; exact hs.2), ?_⟩
    rw [Int.pow_succ, Int.pow_succ]
    exact ⟨rfl, rfl⟩
  · obtain ⟨x, rfl⟩ := hI
    rw [DL.upTo_len]
    simp [line2]
    exact h
end K1


/-! text V1f -/
set_option Elab.async false
set_option linter.all false
set_option maxRecDepth 100000
set_option maxHeartbeats 1000000
namespace K1
open PySem PySem.Spec PyProof.Rows L2 L2H DL
variable {ags : List Ag} {Qd : Rv → List (List D) → Prop} {Xq : Ex → List (List D) → Prop}
def pws (L : Nat) : List D := (List.range L).map fun k => .int (10 ^ 2 ^ k)
theorem pws_succ (L : Nat) : pws (L + 1) = pws L ++ [.int (10 ^ 2 ^ L)] := by
  unfold pws
  rw [List.range_succ, List.map_append]
  rfl
theorem pws_len (L : Nat) : (pws L).length = L := by
  unfold pws
  rw [List.length_map, List.length_range]
theorem last_ix (l : List D) (x : D) : itemD (.list (l ++ [x])) (-1) = some x := by
  show atI (l ++ [x]) (-1) = some x
  unfold atI ixN
  rw [if_neg (by omega), if_pos (by rw [List.length_append]; simp; omega), Option.bind_some]
  have : (-1 + ((l ++ [x]).length : Int)).toNat = l.length := by rw [List.length_append]; simp; omega
  rw [this]
  simp
theorem nat_ix {l : List D} {i : Nat} {x : D} (h : l[i]? = some x) : itemD (.list l) (i : Nat) = some x := by
  show atI l (i : Nat) = some x
  have hl : i < l.length := by
    rcases Nat.lt_or_ge i l.length with z | z
    · exact z
    · rw [List.getElem?_eq_none z] at h
      cases h
  unfold atI ixN
  rw [if_pos (by omega), if_pos (by omega), Option.bind_some]
  simpa using h
theorem pws_get {L k : Nat} (h : k < L) : (pws L)[k]? = some (.int (10 ^ 2 ^ k)) := by
  unfold pws
  rw [List.getElem?_map, List.getElem?_range h]
  rfl
theorem ndig_small {n : Nat} (h : n < 10) : ndig n = 1 := by
  rw [ndig, if_pos h]
theorem ndig_big {n : Nat} (h : 10 ≤ n) : ndig n = ndig (n / 10) + 1 := by
  rw [ndig, if_neg (by omega)]
theorem ndig_pow : ∀ (k : Nat) {n : Nat}, 10 ^ k ≤ n → ndig n = ndig (n / 10 ^ k) + k
  | 0, n, _ => by simp
  | k + 1, n, h => by
    have h1 : 10 ^ k ≤ n := Nat.le_trans (Nat.pow_le_pow_right (by omega) (by omega)) h
    rw [ndig_pow k h1, ndig_big (n := n / 10 ^ k), Nat.div_div_eq_div_mul, ← Nat.pow_succ, Nat.add_assoc, Nat.add_comm 1 k]
    rw [Nat.le_div_iff_mul_le (Nat.pow_pos (by omega))]
    rw [Nat.pow_succ] at h
    omega
theorem lt_ten (k : Nat) : k < 10 ^ k := Nat.lt_pow_self (by omega)
theorem two_ten (L : Nat) : 2 ^ 2 ^ L ≤ 10 ^ 2 ^ L := Nat.pow_le_pow_left (by omega) _
theorem ten_lt {L R n : Nat} (h : 10 ^ 2 ^ L ≤ R) (hR : R < 2 ^ n) : L < n := by
  have h1 : 2 ^ 2 ^ L < 2 ^ n := Nat.lt_of_le_of_lt (Nat.le_trans (two_ten L) h) hR
  have h2 : 2 ^ L < n := (Nat.pow_lt_pow_iff_right (by omega)).mp h1
  exact Nat.lt_trans Nat.lt_two_pow_self h2
theorem le_ten {L R : Nat} (h : 10 ^ 2 ^ L ≤ R) : L < R :=
  Nat.lt_of_lt_of_le (Nat.lt_trans Nat.lt_two_pow_self (lt_ten _)) h
def I_dg1 (n : Int) (R : Nat) (m : Nat) (δ : Ds) : Prop := ∃ L : Nat, δ = [.im (.int n), .im (.int (R : Nat)), .ow (pws (L + 1)), .no, .no] ∧ L ≤ R ∧ L ≤ 4000 ∧ m = R + 1 - L
def I_dg2 (n : Int) (R L : Nat) (i : Nat) (δ : Ds) : Prop := ∃ (r k : Nat) (x : Sl), δ = [.im (.int n), .im (.int (r : Nat)), .ow (pws L), .im (.int ((k : Nat) : Int)), x] ∧ r < 10 ^ 2 ^ (L - i) ∧ ndig R + 1 = ndig r + k ∧ r ≤ R
theorem v_digits_of (h : sp_digits_of ags Qd Xq) : t_digits_of (endD ags Qd Xq) (startD N_digits_of ags) := by
  obtain ⟨n, rfl, hn, h⟩ := h
  simp [t_digits_of, N_digits_of]
  generalize hR : n.natAbs = R at hn h ⊢
  refine ⟨by rw [sizeLine_eq]; omega, I_dg1 n R, ⟨_, 0, rfl, by omega, by omega, rfl⟩, fun m δ hI => ?_⟩
  obtain ⟨L, rfl, hL, hL2, rfl⟩ := hI
  rw [pws_succ]
  simp [last_ix]
  have cast : ∀ k : Nat, ((10 : Int) ^ 2 ^ k) = ((10 ^ 2 ^ k : Nat) : Int) := fun k => by simp
  by_cases hc : 10 ^ 2 ^ L ≤ R
  · rw [if_pos (by rw [cast]; omega)]
    have hl := ten_lt hc hn
    have hl2 := le_ten hc
    refine ⟨?_, ?_, R + 1 - (L + 1), by omega, L + 1, ?_, by omega, by omega, rfl⟩
    · rw [cast]
      exact mulOk (m := 4000) (n := 4000) (by rw [Int.natAbs_natCast]; omega) (by rw [Int.natAbs_natCast]; omega) (by omega)
    · rw [pws_len, sizeLine_eq]
      omega
    · rw [pws_succ, pws_succ, List.append_assoc]
      have e : (10 : Int) ^ 2 ^ L * 10 ^ 2 ^ L = 10 ^ 2 ^ (L + 1) := by rw [← Int.pow_add]; congr 1; rw [Nat.pow_succ]; omega
      rw [e]
      rfl
  · rw [if_neg (by rw [cast]; omega)]
    rw [pws_len, ← pws_succ]
    refine ⟨L + 1, ?_, I_dg2 n R (L + 1), ⟨R, 1, .no, rfl, ?_, rfl, Nat.le_refl _⟩, fun i d δ hd hI => ?_, fun δ hI => ?_⟩
    · have := RgC.neg (i := (L : Int)) (j := -1) (by omega) (by omega) (by omega) (by omega)
      rwa [show ((L : Int) - -1).toNat = L + 1 by omega] at this
    · have h1 : (10 : Nat) ^ 2 ^ L ≤ 10 ^ 2 ^ (L + 1 - 0) := Nat.pow_le_pow_right (by omega) (Nat.pow_le_pow_right (by omega) (by omega))
      omega
    · obtain ⟨r, k, x, rfl, hr, hk, hle⟩ := hI
      obtain ⟨hi, rfl⟩ : i < L + 1 ∧ d = .int ((L - i : Nat) : Int) := by
        have hl : i < L + 1 := by
          rcases Nat.lt_or_ge i (L + 1) with z | z
          · exact z
          · rw [List.getElem?_eq_none (by rw [DL.upTo_len]; exact z)] at hd
            cases hd
        rw [DL.upTo_get hl] at hd
        refine ⟨hl, ?_⟩
        rw [← Option.some.inj hd]
        congr 1
        omega
      simp [nat_ix (pws_get (show L - i < L + 1 by omega))]
      rw [cast]
      have hs : 2 ^ (L + 1 - i) = 2 ^ (L - i) + 2 ^ (L - i) := by
        rw [show L + 1 - i = (L - i) + 1 by omega, Nat.pow_succ]
        omega
      have pp : 0 < 10 ^ 2 ^ (L - i) := Nat.pow_pos (by omega)
      by_cases hc2 : 10 ^ 2 ^ (L - i) ≤ r
      · rw [if_pos (by omega)]
        refine ⟨⟨by omega, .inl ?_⟩, ⟨by omega, ?_⟩, r / 10 ^ 2 ^ (L - i), k + 2 ^ (L - i), .im (.int ((L - i : Nat) : Int)), ?_, ?_, ?_, Nat.le_trans (Nat.div_le_self _ _) hle⟩
        · rw [Int.natAbs_natCast]
          exact Nat.lt_of_le_of_lt (Nat.le_trans hc2 hle) (lt_pow_le hn (by omega))
        · have : Builtin.Int.intBits 1 = 1 := by decide
          rw [this]
          omega
        · rw [Int.natCast_ediv]
          simp
        · rw [show L + 1 - (i + 1) = L - i by omega, Nat.div_lt_iff_lt_mul pp, ← Nat.pow_add, ← hs]
          exact hr
        · rw [hk, ndig_pow _ hc2]
          omega
      · rw [if_neg (by omega)]
        refine ⟨r, k, _, rfl, ?_, hk, hle⟩
        rw [show L + 1 - (i + 1) = L - i by omega]
        omega
    · obtain ⟨r, k, x, rfl, hr, hk, hle⟩ := hI
      rw [DL.upTo_len, Nat.sub_self] at hr
      have : ndig r = 1 := ndig_small (by simpa using hr)
      simp
      have e : k = ndig R := by omega
      rw [e]
      exact h
end K1


/-! text V1g -/
set_option Elab.async false
set_option linter.all false
set_option maxRecDepth 100000
set_option maxHeartbeats 1000000
namespace K1
open PySem PySem.Spec PyProof.Rows L2 L2H DL
variable {ags : List Ag} {Qd : Rv → List (List D) → Prop} {Xq : Ex → List (List D) → Prop}
/-- a comprehension whose parts only look -/
theorem lc_pure {α : Type} {xs : List α} {f : α → D} {p : α → Bool} {e : α → D} {vs : List Nat} {g : TGd} {tt : TB} {te : DL.TI} {Q : Rv → Ds → Prop} {δ1 : Ds}
    (h : ∀ x ∈ xs, ∀ (K1 : D → Ds → Prop) (K2 : Ds → Prop), (p x = true → ∀ δ5, wipeD δ5 vs = wipeD δ1 vs → K1 (e x) δ5) → (p x = false → ∀ δ4, wipeD δ4 vs = wipeD δ1 vs → K2 δ4) →
      g (f x) (wipeD δ1 vs) fun δ3 => tt δ3 (fun b δ4 => if b = true then te δ4 K1 noX else K2 δ4) noX)
    (hq : Q (.ow ((xs.filter p).map e)) (unwipeD δ1 (wipeD δ1 vs) vs)) : LcOk (xs.map f) vs g tt te Q δ1 := by
  refine ⟨fun i acc δ => δ = wipeD δ1 vs ∧ acc = ((xs.take i).filter p).map e, ⟨rfl, rfl⟩, fun i d acc δ2 hd hI => ?_, fun acc δ2 hI => ?_⟩
  · obtain ⟨rfl, rfl⟩ := hI
    obtain ⟨x, hx, rfl⟩ := map_get hd
    refine h x (List.mem_of_getElem? hx) _ _ (fun hp δ5 h5 => ⟨h5, ?_⟩) (fun hp δ4 h4 => ⟨h4, ?_⟩)
    · rw [take_more hx, List.filter_append, List.map_append, List.filter_cons_of_pos hp]
      rfl
    · rw [take_more hx, List.filter_append, List.map_append, List.filter_cons_of_neg (by simp [hp])]
      simp
  · obtain ⟨rfl, rfl⟩ := hI
    rw [List.length_map, List.take_length]
    exact hq
/-! ### lists beside the empty list -/
def Pln (n : Nat) (d : D) : Prop := d.hasDict = false ∧ d.canLay0 = true ∧ d.depth ≤ n
theorem pln_all {n : Nat} : ∀ {ds : List D}, (∀ d ∈ ds, Pln n d) → PyData.hasDictAll ds = false ∧ PyData.canLayAll0 ds = true ∧ PyData.depthAll ds ≤ n
  | [], _ => ⟨rfl, rfl, by simp [PyData.depthAll]⟩
  | d :: ds, h => by
    obtain ⟨h1, h2, h3⟩ := pln_all (ds := ds) fun x hx => h x (List.mem_cons_of_mem _ hx)
    obtain ⟨k1, k2, k3⟩ := h d List.mem_cons_self
    simp only [PyData.hasDictAll, PyData.canLayAll0, PyData.depthAll, h1, h2, k1, k2, Bool.or_false, Bool.and_true, true_and]
    exact Nat.max_le.mpr ⟨k3, h3⟩
theorem pln_list {n : Nat} {ds : List D} (h : ∀ d ∈ ds, Pln n d) : Pln (n + 1) (.list ds) := by
  obtain ⟨h1, h2, h3⟩ := pln_all h
  refine ⟨by simpa [PyData.hasDict] using h1, by simpa [PyData.canLay0] using h2, ?_⟩
  show PyData.depth (.list ds) ≤ n + 1
  simp only [PyData.depth]
  omega
theorem pln_tup {n : Nat} {ds : List D} (h : ∀ d ∈ ds, Pln n d) : Pln (n + 1) (.tuple ds) := by
  obtain ⟨h1, h2, h3⟩ := pln_all h
  refine ⟨by simpa [PyData.hasDict] using h1, by simpa [PyData.canLay0] using h2, ?_⟩
  show PyData.depth (.tuple ds) ≤ n + 1
  simp only [PyData.depth]
  omega
theorem pln_int (n : Nat) (i : Int) : Pln n (.int i) := ⟨rfl, rfl, by simp [PyData.depth]⟩
theorem pln_dp (p : Int × Int) : Pln 1 (dp p) := pln_tup fun d hd => by
  simp only [List.mem_cons, List.not_mem_nil, or_false] at hd
  rcases hd with rfl | rfl
  · exact pln_int 0 _
  · exact pln_int 0 _
theorem Pln.shaped {n : Nat} {d : D} (h : Pln n d) (hn : n ≤ 64) : SeqAt.shaped d = true := by
  unfold SeqAt.shaped
  rw [h.2.1]
  simp
  exact Nat.le_trans h.2.2 hn
theorem cmp_nil {n : Nat} {ds : List D} (h : ∀ d ∈ ds, Pln n d) (hn : n ≤ 60) : cmpOk (.list ds) (.list []) := by
  have h1 := pln_list h
  have h2 : Pln 1 (.list []) := pln_list fun d hd => (nomatch hd)
  exact ⟨h1.1, h2.1, h1.shaped (by omega), h2.shaped (by omega)⟩
theorem eqD_nil (ds : List D) : eqD (.list ds) (.list []) = ds.isEmpty := by
  unfold eqD
  cases ds with
  | nil => simp [PyData.eqv, PyData.eqvAll]
  | cons d ds => simp [PyData.eqv, PyData.eqvAll]
theorem map_dp_nil {ps : List (Int × Int)} : (ps.map dp).isEmpty = ps.isEmpty := by cases ps <;> rfl
theorem eraseIdx_map {α β : Type} (f : α → β) : ∀ (l : List α) (j : Nat), (l.map f).eraseIdx j = (l.eraseIdx j).map f
  | [], _ => by simp
  | _ :: _, 0 => rfl
  | a :: l, j + 1 => by rw [List.map_cons, List.eraseIdx_cons_succ, List.eraseIdx_cons_succ, List.map_cons, eraseIdx_map f l j]
end K1


/-! text V1h -/
set_option Elab.async false
set_option linter.all false
set_option maxRecDepth 100000
set_option maxHeartbeats 1000000
namespace K1
open PySem PySem.Spec PyProof.Rows L2 L2H DL
variable {ags : List Ag} {Qd : Rv → List (List D) → Prop} {Xq : Ex → List (List D) → Prop}
theorem zip_sum : ∀ (rs : List Qn) (cs : List Nat), rs.length = cs.length → ((rs.zip cs).map (·.2)).sum = cs.sum
  | [], [], _ => rfl
  | r :: rs, c :: cs, h => by
    rw [List.zip_cons_cons, List.map_cons, List.sum_cons, List.sum_cons, zip_sum rs cs (by simpa using h)]
  | [], _ :: _, h => by cases h
  | _ :: _, [], h => by cases h
theorem num_zero {r : Qn} (h : r.num = 0) : r = 0 := Rat.num_eq_zero.mp h
end K1


/-! text V1i -/
set_option Elab.async false
set_option linter.all false
set_option maxRecDepth 100000
set_option maxHeartbeats 1000000
namespace K1
open PySem PySem.Spec PyProof.Rows L2 L2H DL
variable {ags : List Ag} {Qd : Rv → List (List D) → Prop} {Xq : Ex → List (List D) → Prop}
theorem filter_true {α : Type} (l : List α) : l.filter (fun _ => true) = l := List.filter_eq_self.mpr fun _ _ => rfl
theorem lc_map {ds : List D} {e : D → D} {vs : List Nat} {g : TGd} {te : DL.TI} {Q : Rv → Ds → Prop} {δ1 : Ds}
    (h : ∀ x ∈ ds, ∀ (K1 : D → Ds → Prop), (∀ δ5, wipeD δ5 vs = wipeD δ1 vs → K1 (e x) δ5) → g x (wipeD δ1 vs) fun δ3 => te δ3 K1 noX)
    (hq : Q (.ow (ds.map e)) (unwipeD δ1 (wipeD δ1 vs) vs)) : LcOk ds vs g bYes te Q δ1 := by
  have := lc_pure (xs := ds) (f := id) (p := fun _ => true) (e := e) (vs := vs) (g := g) (tt := bYes) (te := te) (Q := Q) (δ1 := δ1) (fun x hx K1 K2 h1 h2 => ?_) ?_
  · rwa [List.map_id] at this
  · have := h x hx K1 (h1 rfl)
    simpa using this
  · rw [filter_true]
    exact hq
theorem pln_dr (r : Qn) : Pln 1 (dr r) := pln_tup fun d hd => by
  simp only [List.mem_cons, List.not_mem_nil, or_false] at hd
  rcases hd with rfl | rfl
  · exact pln_int 0 _
  · exact pln_int 0 _
theorem cmp_dr (r q : Qn) : cmpOk (dr r) (dr q) := ⟨(pln_dr r).1, (pln_dr q).1, (pln_dr r).shaped (by omega), (pln_dr q).shaped (by omega)⟩
theorem eqD_dr (r q : Qn) : eqD (dr r) (dr q) = decide (r = q) := by
  unfold eqD dr
  simp only [PyData.eqv, PyData.eqvAll, Bool.and_true]
  by_cases h : r = q
  · subst h
    simp
  · have : ¬ (r.num = q.num ∧ r.den = q.den) := fun z => h (Rat.ext z.1 z.2)
    simp [h]
    intro z1 z2
    exact this ⟨z1, by omega⟩
theorem pn_take : ∀ {rs : List Qn} {cs : List Nat} {i : Nat} {r : Qn} {c : Nat}, rs[i]? = some r → cs[i]? = some c → pn (rs.take (i + 1)) (cs.take (i + 1)) = pn (rs.take i) (cs.take i) * r.num ^ c ∧ pd (rs.take (i + 1)) (cs.take (i + 1)) = pd (rs.take i) (cs.take i) * r.den ^ c
  | [], _, _, _, _, h, _ => by simp at h
  | _ :: _, [], _, _, _, _, h => by simp at h
  | r :: rs, c :: cs, 0, x, y, h1, h2 => by
    simp at h1 h2
    subst h1 h2
    simp [pn, pd]
  | r :: rs, c :: cs, i + 1, x, y, h1, h2 => by
    have := pn_take (rs := rs) (cs := cs) (i := i) (by simpa using h1) (by simpa using h2)
    rw [List.take_succ_cons, List.take_succ_cons, List.take_succ_cons, List.take_succ_cons, pn, pn, pd, pd, this.1, this.2, Int.mul_assoc, Nat.mul_assoc]
    exact ⟨rfl, rfl⟩
theorem pd_pos : ∀ (rs : List Qn) (cs : List Nat), 0 < pd rs cs
  | r :: rs, c :: cs => Nat.mul_pos (Nat.pow_pos (den_pos r)) (pd_pos rs cs)
  | [], _ => Nat.one_pos
  | _ :: _, [] => Nat.one_pos
theorem pow_le_two {a c : Nat} (h : a < 2 ^ 210) : a ^ c ≤ 2 ^ (210 * c) := by
  rw [Nat.pow_mul]
  exact Nat.pow_le_pow_left (Nat.le_of_lt h) c
theorem pn_le : ∀ {rs : List Qn} {cs : List Nat}, (∀ r ∈ rs, Sz 210 r) → (pn rs cs).natAbs ≤ 2 ^ (210 * cs.sum) ∧ pd rs cs ≤ 2 ^ (210 * cs.sum)
  | [], cs, _ => ⟨Nat.one_le_two_pow, Nat.one_le_two_pow⟩
  | _ :: _, [], _ => ⟨Nat.one_le_two_pow, Nat.one_le_two_pow⟩
  | r :: rs, c :: cs, h => by
    have h1 := h r List.mem_cons_self
    have h2 := pn_le (rs := rs) (cs := cs) fun x hx => h x (List.mem_cons_of_mem _ hx)
    rw [pn, pd, List.sum_cons, Nat.mul_add, Nat.pow_add, Int.natAbs_mul, Int.natAbs_pow]
    exact ⟨Nat.mul_le_mul (pow_le_two h1.1) h2.1, Nat.mul_le_mul (pow_le_two h1.2) h2.2⟩
theorem sum_take (cs : List Nat) (i : Nat) : (cs.take i).sum ≤ cs.sum := by
  have h : (cs.take i ++ cs.drop i).sum = cs.sum := by rw [List.take_append_drop]
  rw [List.sum_append] at h
  omega
@[simp ↓] theorem jxt_0 (a b : D) : itemD (.tuple [a, b]) 0 = some a := rfl
@[simp ↓] theorem jxt_1 (a b : D) : itemD (.tuple [a, b]) 1 = some b := rfl
theorem pos_div {a g : Int} (ha : 0 < a) (hg : 0 < g) (h : g ∣ a) : 0 < a / g := by
  obtain ⟨k, rfl⟩ := h
  rw [Int.mul_ediv_cancel_left _ (by omega)]
  rcases Int.lt_trichotomy k 0 with z | z | z
  · have := Int.mul_neg_of_pos_of_neg hg z
    omega
  · rw [z] at ha
    simp at ha
  · exact z
theorem gcd_l (a b : Int) : (((a.natAbs.gcd b.natAbs : Nat) : Int) ∣ a) := Int.ofNat_dvd_left.mpr (Nat.gcd_dvd_left _ _)
theorem gcd_r (a b : Int) : (((a.natAbs.gcd b.natAbs : Nat) : Int) ∣ b) := Int.ofNat_dvd_left.mpr (Nat.gcd_dvd_right _ _)
theorem div_lt {a g : Int} {n : Nat} (h : a.natAbs < 2 ^ n) : (a / g).natAbs < 2 ^ n := Nat.lt_of_le_of_lt (Int.natAbs_ediv_le_natAbs _ _) h
theorem v_times_q (h : sp_times_q ags Qd Xq) : t_times_q (endD ags Qd Xq) (startD N_times_q ags) := by
  obtain ⟨p0, p1, q0, q1, rfl, ⟨hp0, hp1, hq0, hq1⟩, ⟨b1, b2, b3, b4⟩, h⟩ := h
  simp [t_times_q, N_times_q]
  have gl : (0 : Int) < ((p0.natAbs.gcd q1.natAbs : Nat) : Int) := by
    have := Nat.gcd_pos_of_pos_left q1.natAbs (show 0 < p0.natAbs by omega)
    omega
  have gr : (0 : Int) < ((q0.natAbs.gcd p1.natAbs : Nat) : Int) := by
    have := Nat.gcd_pos_of_pos_left p1.natAbs (show 0 < q0.natAbs by omega)
    omega
  have gl2 : (((p0.natAbs.gcd q1.natAbs : Nat) : Int)).natAbs < 2 ^ 8999 := by
    rw [Int.natAbs_natCast]
    exact Nat.lt_of_le_of_lt (Nat.gcd_le_left _ (by omega)) (lt_pow_le b1 (by omega))
  have gr2 : (((q0.natAbs.gcd p1.natAbs : Nat) : Int)).natAbs < 2 ^ 8999 := by
    rw [Int.natAbs_natCast]
    exact Nat.lt_of_le_of_lt (Nat.gcd_le_left _ (by omega)) (lt_pow_le b3 (by omega))
  have l1 := gcd_l p0 q1
  have l2 := gcd_r p0 q1
  have r1 := gcd_l q0 p1
  have r2 := gcd_r q0 p1
  generalize ((p0.natAbs.gcd q1.natAbs : Nat) : Int) = gL at *
  generalize ((q0.natAbs.gcd p1.natAbs : Nat) : Int) = gR at *
  have full : DivOk p0 gL ∧ DivOk q0 gR ∧ DL.MulOk (p0 / gL) (q0 / gR) ∧ DivOk p1 gR ∧ DivOk q1 gL ∧ DL.MulOk (p1 / gR) (q1 / gL) ∧ 2 ≤ sizeLine ∧ Qd (Rv.im (PyData.tuple [PyData.int (p0 / gL * (q0 / gR)), PyData.int (p1 / gR * (q1 / gL))])) [] := by
    refine ⟨⟨gl, .inl gl2⟩, ⟨gr, .inl gr2⟩, mulOk (div_lt b1) (div_lt b3) (by omega), ⟨gr, .inl gr2⟩, ⟨gl, .inl gl2⟩, mulOk (div_lt b2) (div_lt b4) (by omega), by rw [sizeLine_eq]; omega, h _ _ ?_ ?_ ?_ ?_ ?_⟩
    · exact Int.mul_pos (pos_div hp0 gl l1) (pos_div hq0 gr r1)
    · exact Int.mul_pos (pos_div hp1 gr r2) (pos_div hq1 gl l2)
    · obtain ⟨x, rfl⟩ := l1
      obtain ⟨y, rfl⟩ := l2
      obtain ⟨z, rfl⟩ := r1
      obtain ⟨u, rfl⟩ := r2
      rw [Int.mul_ediv_cancel_left _ (by omega), Int.mul_ediv_cancel_left _ (by omega), Int.mul_ediv_cancel_left _ (by omega), Int.mul_ediv_cancel_left _ (by omega)]
      ac_rfl
    · exact imul_lt2 (div_lt b1) (div_lt b3)
    · exact imul_lt2 (div_lt b2) (div_lt b4)
  by_cases c1 : p1 = 1
  · rw [if_pos c1]
    by_cases c2 : q1 = 1
    · rw [if_pos c2]
      refine ⟨mulOk b1 b3 (by omega), by rw [sizeLine_eq]; omega, h _ _ (Int.mul_pos hp0 hq0) (by omega) ?_ (imul_lt2 b1 b3) (by decide)⟩
      rw [c1, c2]
      simp
    · rw [if_neg c2]
      exact full
  · rw [if_neg c1]
    exact full
theorem v_over_q (h : sp_over_q ags Qd Xq) : t_over_q (endD ags Qd Xq) (startD N_over_q ags) := by
  obtain ⟨p, q, rfl, hp, hq, sp, sq, h⟩ := h
  simp [t_over_q, N_over_q]
  rw [if_neg (by omega)]
  have d1 := den_pos p
  have d2 := den_pos q
  refine ⟨by rw [sizeLine_eq]; omega, _, _, _, _, rfl, ⟨hp, by omega, by omega, hq⟩, ⟨sp.1, by rw [Int.natAbs_natCast]; exact sp.2, by rw [Int.natAbs_natCast]; exact sq.2, sq.1⟩, fun a b ha hb he h1 h2 => ?_⟩
  simp
  exact h a b ha hb he h1 h2
/-! ### the least whole multiple -/
theorem lcmL_take {qs : List Qn} {i : Nat} {q : Qn} (h : qs[i]? = some q) : lcmL (qs.take (i + 1)) = Nat.lcm (lcmL (qs.take i)) q.den := by
  rw [take_more h]
  unfold lcmL
  rw [List.foldl_append]
  rfl
theorem lcm_gen : ∀ (qs : List Qn) (m : Nat), m ∣ qs.foldl (fun m q => Nat.lcm m q.den) m ∧ (∀ q ∈ qs, q.den ∣ qs.foldl (fun m q => Nat.lcm m q.den) m) ∧ (m ∣ 420 → (∀ q ∈ qs, q.den ∣ 420) → qs.foldl (fun m q => Nat.lcm m q.den) m ∣ 420)
  | [], m => ⟨Nat.dvd_refl _, fun q hq => (nomatch hq), fun h _ => h⟩
  | q :: qs, m => by
    obtain ⟨a1, a2, a3⟩ := lcm_gen qs (Nat.lcm m q.den)
    refine ⟨Nat.dvd_trans (Nat.dvd_lcm_left _ _) a1, fun x hx => ?_, fun h1 h2 => ?_⟩
    · rcases List.mem_cons.mp hx with rfl | hx
      · exact Nat.dvd_trans (Nat.dvd_lcm_right _ _) a1
      · exact a2 x hx
    · exact a3 (Nat.lcm_dvd h1 (h2 q List.mem_cons_self)) fun x hx => h2 x (List.mem_cons_of_mem _ hx)
theorem lcmL_420 {qs : List Qn} (h : ∀ q ∈ qs, q.den ∣ 420) : lcmL qs ≤ 420 ∧ 0 < lcmL qs := by
  have := (lcm_gen qs 1).2.2 (by omega) h
  exact ⟨Nat.le_of_dvd (by omega) this, Nat.pos_of_dvd_of_pos this (by omega)⟩
theorem den_420 {q : Qn} (h : q.den ∣ 420) : q.den ≤ 420 := Nat.le_of_dvd (by omega) h
def I_lm (qs : List Qn) (i : Nat) (δ : Ds) : Prop := ∃ x2 : Sl, δ = [.im (.list (qs.map dr)), .im (.int (lcmL (qs.take i) : Nat)), x2]
theorem lm_last {qs : List Qn} (hq : QsOk qs) {x2 : Sl} {Q : Rv → Ds → Prop} (h : ∀ δ, Q (.ow ((mulL qs).map fun c => .int (c : Nat))) δ) : LcOk (qs.map dr) [2] (gN 2) bYes
    (dBin (rII DL.MulOk fun i j => i * j) (dIx (dV 2) (dC (PyData.int 0))) (dBin (rII DivOk fun i j => i / j) (dV 1) (dIx (dV 2) (dC (PyData.int 1))))) Q [.im (.list (qs.map dr)), .im (.int (lcmL qs : Nat)), x2] := by
  obtain ⟨z1, z2⟩ := lcmL_420 fun q hm => (hq.ok q hm).2.2
  refine lc_pure (p := fun _ => true) (e := fun q => .int (q.num * ((lcmL qs : Int) / (q.den : Int)))) (fun q hm K1 K2 h1 h2 => ?_) ?_
  · simp
    obtain ⟨o1, o2, o3⟩ := hq.ok q hm
    have hd := den_pos q
    refine ⟨⟨by omega, .inl ?_⟩, mulOk o2.1 (n := 20) ?_ (by omega), h1 rfl _ rfl⟩
    · rw [Int.natAbs_natCast]
      exact lt_pow_le (Nat.lt_of_le_of_lt (den_420 o3) (show 420 < 2 ^ 9 by decide)) (by omega)
    · exact Nat.lt_of_le_of_lt (Int.natAbs_ediv_le_natAbs _ _) (by rw [Int.natAbs_natCast]; exact Nat.lt_of_le_of_lt z1 (by decide))
  · have e : (qs.filter fun _ => true).map (fun q => PyData.int (q.num * ((lcmL qs : Int) / (q.den : Int)))) = (mulL qs).map fun c => .int (c : Nat) := by
      rw [filter_true]
      unfold mulL
      rw [List.map_map]
      refine List.map_congr_left fun q hm => ?_
      have := (hq.ok q hm).1
      show _ = PyData.int ((q.num.toNat * (lcmL qs / q.den) : Nat) : Int)
      congr 1
      rw [Int.natCast_mul, Int.natCast_ediv, Int.toNat_of_nonneg this]
    rw [e]
    exact h _
theorem v_least_multiple (h : sp_least_multiple ags Qd Xq) : t_least_multiple (endD ags Qd Xq) (startD N_least_multiple ags) := by
  obtain ⟨qs, rfl, hq, h⟩ := h
  have hl := hq.len
  simp [t_least_multiple, N_least_multiple]
  refine ⟨I_lm qs, ⟨_, rfl⟩, fun i d δ hd hI => ?_, fun δ hI => ?_⟩
  · obtain ⟨x2, rfl⟩ := hI
    obtain ⟨q, hm, rfl⟩ := map_get hd
    have o3 := (hq.ok q (List.mem_of_getElem? hm)).2.2
    obtain ⟨z1, z2⟩ := lcmL_420 (qs := qs.take i) fun q hm => (hq.ok q (List.mem_of_mem_take hm)).2.2
    have d1 := den_420 o3
    simp
    refine ⟨by omega, by omega, .im (dr q), ?_⟩
    rw [lcmL_take hm]
  · obtain ⟨x2, rfl⟩ := hI
    rw [List.length_map, List.take_length]
    simp
    exact ⟨by rw [sizeLine_eq]; omega, lm_last hq fun δ => h⟩
theorem v_law_multiple (h : sp_law_multiple ags Qd Xq) : t_law_multiple (endD ags Qd Xq) (startD N_law_multiple ags) := by
  obtain ⟨qs, rfl, hq, h⟩ := h
  have hl := hq.len
  simp [t_law_multiple, N_law_multiple]
  refine ⟨I_lm qs, ⟨_, rfl⟩, fun i d δ hd hI => ?_, fun δ hI => ?_⟩
  · obtain ⟨x2, rfl⟩ := hI
    obtain ⟨q, hm, rfl⟩ := map_get hd
    have o3 := (hq.ok q (List.mem_of_getElem? hm)).2.2
    obtain ⟨z1, z2⟩ := lcmL_420 (qs := qs.take i) fun q hm => (hq.ok q (List.mem_of_mem_take hm)).2.2
    have d1 := den_420 o3
    have d0 := den_pos q
    simp
    refine ⟨_, _, rfl, ?_, ?_⟩
    · have : ((q.den : Nat) : Int).natAbs < 2 ^ 9 := by rw [Int.natAbs_natCast]; omega
      exact Nat.le_trans (PySem.intBits_le_iff.mpr this) (by omega)
    · simp
      have e : lcmL (qs.take (i + 1)) = lcmL (qs.take i) * (q.den / (lcmL (qs.take i)).gcd q.den) := by
        rw [lcmL_take hm, Nat.lcm, Nat.mul_div_assoc _ (Nat.gcd_dvd_right _ _)]
      have g0 : 0 < (lcmL (qs.take i)).gcd q.den := Nat.gcd_pos_of_pos_right _ d0
      have gz : (lcmL (qs.take i)).gcd q.den ≤ 420 := Nat.le_trans (Nat.gcd_le_right _ d0) d1
      have dz : q.den / (lcmL (qs.take i)).gcd q.den ≤ 420 := Nat.le_trans (Nat.div_le_self _ _) d1
      first
        | (refine ⟨⟨by omega, .inl ?_⟩, mulOk (m := 20) (n := 20) (by rw [Int.natAbs_natCast]; omega) ?_ (by omega), .im (dr q), ?_⟩
           · rw [Int.natAbs_natCast]
             exact lt_pow_le (show _ < 2 ^ 9 by omega) (by omega)
           · exact Nat.lt_of_le_of_lt (Int.natAbs_ediv_le_natAbs _ _) (by rw [Int.natAbs_natCast]; omega)
           · rw [e, Int.natCast_mul, Int.natCast_ediv])
  · obtain ⟨x2, rfl⟩ := hI
    rw [List.length_map, List.take_length]
    simp
    exact ⟨by rw [sizeLine_eq]; omega, lm_last hq fun δ => h⟩
end K1


/-! text V1j -/
set_option Elab.async false
set_option linter.all false
set_option maxRecDepth 100000
set_option maxHeartbeats 1000000
namespace K1
open PySem PySem.Spec PyProof.Rows L2 L2H DL
variable {ags : List Ag} {Qd : Rv → List (List D) → Prop} {Xq : Ex → List (List D) → Prop}
theorem le_sumN : ∀ {ns : List Nat} {c : Nat}, c ∈ ns → c ≤ ns.sum
  | [], _, h => (nomatch h)
  | n :: ns, c, h => by
    rw [List.sum_cons]
    rcases List.mem_cons.mp h with rfl | h
    · omega
    · have := le_sumN h
      omega
theorem sum_take1 {cs : List Nat} {i c : Nat} (h : cs[i]? = some c) : (cs.take (i + 1)).sum = (cs.take i).sum + c := by
  rw [take_more h, List.sum_append]
  simp
theorem nat_ixd {l : List D} {i : Nat} {x : D} (h : l[i]? = some x) : itemD (.list l) (i : Nat) = some x := nat_ix h
theorem v_law_product (h : sp_law_product ags Qd Xq) : t_law_product (endD ags Qd Xq) (startD N_law_product ags) := by
  obtain ⟨rs, cs, rfl, h1, h2, h3, h4, h⟩ := h
  simp [t_law_product, N_law_product]
  refine ⟨⟨by omega, by omega⟩, fun i δ => ∃ x4 x5 : Sl, δ = [.im (.list (rs.map dr)), .im (.list (cs.map fun c => .int (c : Nat))), .im (.int (pn (rs.take i) (cs.take i))), .im (.int (pd (rs.take i) (cs.take i) : Nat)), x4, x5], ⟨_, _, rfl⟩, fun i d δ hd hI => ?_, fun δ hI => ?_⟩
  · obtain ⟨x4, x5, rfl⟩ := hI
    obtain ⟨hi, rfl⟩ := upTo_get' hd
    have c1 : rs[i]? = some rs[i] := List.getElem?_eq_getElem (by omega)
    have c2 : cs[i]? = some cs[i] := List.getElem?_eq_getElem (by omega)
    have hmr := List.mem_of_getElem? c1
    have hmc := le_sumN (List.mem_of_getElem? c2)
    generalize hr : rs[i]'(by omega) = r at *
    generalize hc : cs[i]'(by omega) = c at *
    have i1 : itemD (.list (rs.map dr)) (i : Nat) = some (dr r) := nat_ix (by rw [List.getElem?_map, c1]; rfl)
    have i2 : itemD (.list (cs.map fun c => PyData.int (c : Nat))) (i : Nat) = some (.int (c : Nat)) := nat_ix (by rw [List.getElem?_map, c2]; rfl)
    obtain ⟨t1, t2⟩ := pn_take c1 c2
    obtain ⟨z1, z2⟩ := pn_le (rs := rs.take i) (cs := cs.take i) fun x hx => h3 x (List.mem_of_mem_take hx)
    have stk := sum_take cs i
    have w1 : (pn (rs.take i) (cs.take i)).natAbs < 2 ^ 420001 := Nat.lt_of_le_of_lt z1 (Nat.pow_lt_pow_right (by omega) (by omega))
    have w2 : pd (rs.take i) (cs.take i) < 2 ^ 420001 := Nat.lt_of_le_of_lt z2 (Nat.pow_lt_pow_right (by omega) (by omega))
    have w3 : (r.num ^ c).natAbs < 2 ^ 420001 := by
      rw [Int.natAbs_pow]
      exact Nat.lt_of_le_of_lt (pow_le_two (h3 r hmr).1) (Nat.pow_lt_pow_right (by omega) (by omega))
    have w4 : r.den ^ c < 2 ^ 420001 := Nat.lt_of_le_of_lt (pow_le_two (h3 r hmr).2) (Nat.pow_lt_pow_right (by omega) (by omega))
    simp [i1, i2]
    refine ⟨r, c, rfl, by omega, h3 r hmr, ?_⟩
    simp
    refine ⟨mulOk w1 w3 (by omega), mulOk (m := 420001) (n := 420001) (by rw [Int.natAbs_natCast]; exact w2) (by rw [show ((r.den : Int) ^ c) = ((r.den ^ c : Nat) : Int) by simp, Int.natAbs_natCast]; exact w4) (by omega), ?_⟩
    rw [t1, t2]
    simp
  · obtain ⟨x4, x5, rfl⟩ := hI
    rw [DL.upTo_len, List.take_length, ← h1, List.take_length]
    simp
    exact ⟨by rw [sizeLine_eq]; omega, h⟩
theorem v_has_nought (h : sp_has_nought ags Qd Xq) : t_has_nought (endD ags Qd Xq) (startD N_has_nought ags) := by
  obtain ⟨rs, cs, rfl, hl, hl2, h⟩ := h
  simp [t_has_nought, N_has_nought]
  rw [zip_map]
  unfold noug at h
  refine ⟨fun i δ => (∃ x2 x3 : Sl, δ = [.im (.list (rs.map dr)), .im (.list (cs.map fun c => .int (c : Nat))), x2, x3]) ∧ ∀ z ∈ (rs.zip cs).take i, ¬ (0 < z.2 ∧ z.1.num = 0), ⟨⟨_, _, rfl⟩, by simp⟩, fun i d δ hd hI => ?_, fun δ hI => ?_⟩
  · obtain ⟨⟨x2, x3, rfl⟩, hI⟩ := hI
    obtain ⟨z, hz, rfl⟩ := map_get hd
    have hm := List.mem_of_getElem? hz
    have yes : 0 < z.2 → z.1.num = 0 → Qd (.im (.bool true)) [] := fun h1 h2 => by
      have : ((rs.zip cs).any fun z => decide (0 < z.2) && decide (z.1.num = 0)) = true := List.any_eq_true.mpr ⟨z, hm, by simp [h1, h2]⟩
      rw [this] at h
      exact h
    have no : ¬ (0 < z.2 ∧ z.1.num = 0) → ∀ y ∈ (rs.zip cs).take (i + 1), ¬ (0 < y.2 ∧ y.1.num = 0) := fun hn y hy => by
      rw [take_more hz] at hy
      rcases List.mem_append.mp hy with hy | hy
      · exact hI y hy
      · rw [List.mem_singleton.mp hy]
        exact hn
    simp
    by_cases q1 : 0 < z.2
    · by_cases q2 : z.1.num = 0
      · have q3 : z.1 = 0 := Rat.num_eq_zero.mp q2
        simp [q1, q3]
        exact yes q1 q2
      · have := no (fun z => q2 z.2)
        have q3 : ¬ z.1 = 0 := fun w => q2 (Rat.num_eq_zero.mpr w)
        simp [q1, q3]
        simpa using this
    · have := no (fun z => q1 z.1)
      simp [q1]
      simpa using this
  · obtain ⟨⟨x2, x3, rfl⟩, hI⟩ := hI
    rw [List.length_map, List.take_length] at hI
    have : ((rs.zip cs).any fun z => decide (0 < z.2) && decide (z.1.num = 0)) = false := List.any_eq_false.mpr fun z hz => by
      have := hI z hz
      simpa using this
    rw [this] at h
    simp
    exact h
/-! ### the comparison -/
theorem sgn_pos {k : Int} (h : 0 < k) : sgn k = 1 := if_pos h
theorem sgn_neg {k : Int} (h : k < 0) : sgn k = -1 := by
  unfold sgn
  rw [if_neg (by omega), if_pos h]
theorem sgn_zero : sgn 0 = 0 := rfl
theorem pn_nought : ∀ {rs : List Qn} {cs : List Nat}, noug rs cs = true → pn rs cs = 0
  | [], _, h => by simp [noug] at h
  | _ :: _, [], h => by simp [noug] at h
  | r :: rs, c :: cs, h => by
    unfold noug at h
    rw [List.zip_cons_cons, List.any_cons] at h
    rw [pn]
    rcases Bool.or_eq_true_iff.mp h with h | h
    · simp at h
      rw [h.2, show (0 : Qn).num = 0 from rfl, Int.zero_pow (show c ≠ 0 by omega), Int.zero_mul]
    · rw [pn_nought (rs := rs) (cs := cs) h, Int.mul_zero]
theorem pn_posi : ∀ {rs : List Qn} {cs : List Nat}, noug rs cs = false → (∀ x ∈ rs, 0 ≤ x.num) → 0 < pn rs cs
  | [], _, _, _ => by show (0 : Int) < 1; omega
  | _ :: _, [], _, _ => by show (0 : Int) < 1; omega
  | r :: rs, c :: cs, h, hp => by
    unfold noug at h
    rw [List.zip_cons_cons, List.any_cons] at h
    obtain ⟨h1, h2⟩ := Bool.or_eq_false_iff.mp h
    rw [pn]
    have ih := pn_posi (rs := rs) (cs := cs) h2 fun x hx => hp x (List.mem_cons_of_mem _ hx)
    have h0 := hp r List.mem_cons_self
    refine Int.mul_pos ?_ ih
    by_cases q : c = 0
    · rw [q, Int.pow_zero]; omega
    · simp at h1
      have : r.num ≠ 0 := fun w => h1 (by omega) (Rat.num_eq_zero.mp w)
      exact Int.pow_pos (by omega)
theorem noug_get {rs : List Qn} {cs : List Nat} (h : noug rs cs = false) {i c : Nat} {r : Qn} (h1 : rs[i]? = some r) (h2 : cs[i]? = some c) (hc : 0 < c) : r.num ≠ 0 := by
  have hz : (rs.zip cs)[i]? = some (r, c) := by
    rw [List.getElem?_zip_eq_some]
    exact ⟨h1, h2⟩
  have := List.any_eq_false.mp h (r, c) (List.mem_of_getElem? hz)
  intro q
  simp [hc, q] at this
def I_cf (l r : List Qn) (cs : List Nat) (i : Nat) (δ : Ds) : Prop := ∃ (A B : Int) (x5 x6 x7 x8 : Sl), δ = [.im (.list (l.map dr)), .im (.list (r.map dr)), .im (.list (cs.map fun c => .int (c : Nat))), .im (.int A), .im (.int B), x5, x6, x7, x8] ∧
  0 < A ∧ 0 < B ∧ A * (pn (r.take i) (cs.take i) * (pd (l.take i) (cs.take i) : Nat)) = B * (pn (l.take i) (cs.take i) * (pd (r.take i) (cs.take i) : Nat)) ∧ A.natAbs ≤ 2 ^ (420 * (cs.take i).sum) ∧ B.natAbs ≤ 2 ^ (420 * (cs.take i).sum)
theorem pow_b {a : Int} {c s : Nat} {A : Int} (h : a.natAbs < 2 ^ 420) (hA : A.natAbs ≤ 2 ^ (420 * s)) : (A * a ^ c).natAbs ≤ 2 ^ (420 * (s + c)) := by
  rw [Int.natAbs_mul, Int.natAbs_pow, Nat.mul_add, Nat.pow_add]
  refine Nat.mul_le_mul hA ?_
  rw [Nat.pow_mul]
  exact Nat.pow_le_pow_left (Nat.le_of_lt h) c
theorem step_eq {A B a b u v x y Xn Xd Yn Yd : Int} {c : Nat} (h : a * (u * v) = b * (x * y)) (h2 : A * (Xn * Xd) = B * (Yn * Yd)) :
    A * a ^ c * (Xn * v ^ c * (Xd * u ^ c)) = B * b ^ c * (Yn * x ^ c * (Yd * y ^ c)) := by
  have h3 : (a * (u * v)) ^ c = (b * (x * y)) ^ c := by rw [h]
  rw [Int.mul_pow, Int.mul_pow, Int.mul_pow, Int.mul_pow] at h3
  have e1 : A * a ^ c * (Xn * v ^ c * (Xd * u ^ c)) = A * (Xn * Xd) * (a ^ c * (u ^ c * v ^ c)) := by ac_rfl
  have e2 : B * b ^ c * (Yn * x ^ c * (Yd * y ^ c)) = B * (Yn * Yd) * (b ^ c * (x ^ c * y ^ c)) := by ac_rfl
  rw [e1, e2, h2, h3]
theorem v_compared_fits (h : sp_compared_fits ags Qd Xq) : t_compared_fits (endD ags Qd Xq) (startD N_compared_fits ags) := by
  obtain ⟨l, r, cs, rfl, h1, h2, h3, h4, h5, h6, h⟩ := h
  have pl := pd_pos l cs
  have pr := pd_pos r cs
  simp [t_compared_fits, N_compared_fits]
  refine ⟨l, cs, rfl, h1, by omega, ?_⟩
  unfold cmpQ at h
  cases nl : noug l cs with
  | true =>
    rw [pn_nought nl] at h
    simp
    refine ⟨r, cs, rfl, h2, by omega, ?_⟩
    cases nr : noug r cs with
    | true =>
      rw [pn_nought nr] at h
      simp at h
      simp
      exact h
    | false =>
      have := Int.mul_pos (pn_posi nr fun x hx => (h5 x hx).1) (show (0 : Int) < ((pd l cs : Nat) : Int) by omega)
      rw [Int.zero_mul, sgn_neg (by omega)] at h
      simp
      exact h
  | false =>
    have pnl := pn_posi nl fun x hx => (h4 x hx).1
    simp
    refine ⟨r, cs, rfl, h2, by omega, ?_⟩
    cases nr : noug r cs with
    | true =>
      have := Int.mul_pos pnl (show (0 : Int) < ((pd r cs : Nat) : Int) by omega)
      rw [pn_nought nr, Int.zero_mul, sgn_pos (by omega)] at h
      simp
      exact h
    | false =>
      have pnr := pn_posi nr fun x hx => (h5 x hx).1
      simp
      refine ⟨I_cf l r cs, ⟨1, 1, _, _, _, _, rfl, by omega, by omega, by simp [pn, pd], by simp, by simp⟩, fun i d δ hd hI => ?_, fun δ hI => ?_⟩
      · obtain ⟨A, B, x5, x6, x7, x8, rfl, a1, a2, a3, a4, a5⟩ := hI
        have hi : i < cs.length := by
          have := (List.getElem?_eq_some_iff.mp hd).1
          rw [zip3D_len, List.length_map, List.length_map, List.length_map] at this
          omega
        have c1 : l[i]? = some l[i] := List.getElem?_eq_getElem (by omega)
        have c2 : r[i]? = some r[i] := List.getElem?_eq_getElem (by omega)
        have c3 : cs[i]? = some cs[i] := List.getElem?_eq_getElem hi
        generalize hp : l[i]'(by omega) = p at *
        generalize hq : r[i]'(by omega) = q at *
        generalize hc : cs[i]'(by omega) = c at *
        have e := zip3D_get (xs := l.map dr) (ys := r.map dr) (zs := cs.map fun c => PyData.int (c : Nat)) (i := i) (by rw [List.getElem?_map, c1]; rfl) (by rw [List.getElem?_map, c2]; rfl) (by rw [List.getElem?_map, c3]; rfl)
        rw [e] at hd
        cases hd
        obtain ⟨p1, p2⟩ := pn_take c1 c3
        obtain ⟨q1, q2⟩ := pn_take c2 c3
        have stk := sum_take1 c3
        have s2 : (cs.take (i + 1)).sum ≤ 2000 := Nat.le_trans (sum_take cs (i + 1)) h6
        obtain ⟨gp, sp⟩ := h4 p (List.mem_of_getElem? c1)
        obtain ⟨gq, sq⟩ := h5 q (List.mem_of_getElem? c2)
        have e1 : ((pd (l.take (i + 1)) (cs.take (i + 1)) : Nat) : Int) = (pd (l.take i) (cs.take i) : Nat) * (p.den : Int) ^ c := by rw [p2]; simp
        have e2 : ((pd (r.take (i + 1)) (cs.take (i + 1)) : Nat) : Int) = (pd (r.take i) (cs.take i) : Nat) * (q.den : Int) ^ c := by rw [q2]; simp
        have up : 2 ^ (420 * (cs.take i).sum) ≤ 2 ^ (420 * (cs.take (i + 1)).sum) := Nat.pow_le_pow_right (by omega) (by omega)
        have keep : (c = 0 ∨ p = q) → I_cf l r cs (i + 1) [Sl.im (PyData.list (List.map dr l)), Sl.im (PyData.list (List.map dr r)),
            Sl.im (PyData.list (List.map (fun (c : Nat) => PyData.int ((c : Nat) : Int)) cs)), Sl.im (PyData.int A), Sl.im (PyData.int B),
            Sl.im (dr p), Sl.im (dr q), Sl.im (PyData.int ((c : Nat) : Int)), x8] := fun hk => by
          refine ⟨A, B, _, _, _, _, rfl, a1, a2, ?_, Nat.le_trans a4 up, Nat.le_trans a5 up⟩
          rw [p1, q1, e1, e2]
          rcases hk with rfl | rfl
          · simpa using a3
          · have := step_eq (c := c) (a := 1) (b := 1) (u := (p.den : Int)) (v := p.num) (x := p.num) (y := (p.den : Int)) (by rw [Int.mul_comm (p.den : Int)]) a3
            rw [Int.one_pow, Int.mul_one, Int.mul_one] at this
            exact this
        simp
        by_cases qc : 0 < c
        · rw [if_pos qc]
          refine ⟨cmp_dr _ _, ?_⟩
          rw [eqD_dr]
          by_cases qe : p = q
          · simp [qe]
            have := keep (.inr qe)
            rw [qe] at this
            exact this
          · simp [qe]
            have np := noug_get nl c1 c3 qc
            have nq := noug_get nr c2 c3 qc
            refine ⟨p, q, rfl, by omega, by omega, sp, sq, fun a b ha hb hab b1 b2 => ?_⟩
            have pa : ∀ {a : Int}, 0 < a → a.natAbs < 2 ^ 420 → a.toNat ^ c < 2 ^ 840001 := fun {a} h0 hb => by
              have : a.toNat = a.natAbs := by omega
              rw [this]
              refine Nat.lt_of_le_of_lt (Nat.pow_le_pow_left (Nat.le_of_lt hb) c) ?_
              rw [← Nat.pow_mul]
              exact Nat.pow_lt_pow_right (by omega) (by omega)
            have sm : ∀ {z : Int}, z.natAbs ≤ 2 ^ (420 * (cs.take i).sum) → z.natAbs < 2 ^ 840001 := fun h => Nat.lt_of_le_of_lt h (Nat.pow_lt_pow_right (by omega) (by omega))
            have sp2 : ∀ {a : Int}, 0 < a → a.natAbs < 2 ^ 420 → (a ^ c).natAbs < 2 ^ 840001 := fun {a} h0 hb => by
              rw [Int.natAbs_pow]
              have := pa h0 hb
              rwa [show a.toNat = a.natAbs by omega] at this
            simp
            refine ⟨a, (c : Nat), 840001, rfl, by omega, by omega, by omega, by rw [Int.toNat_natCast]; exact pa ha b1, ?_⟩
            simp
            refine ⟨mulOk (sm a4) (sp2 ha b1) (by omega), b, (c : Nat), 840001, rfl, by omega, by omega, by omega, by rw [Int.toNat_natCast]; exact pa hb b2, ?_⟩
            simp
            refine ⟨mulOk (sm a5) (sp2 hb b2) (by omega), A * a ^ c, B * b ^ c, _, _, _, _, rfl, Int.mul_pos a1 (Int.pow_pos ha), Int.mul_pos a2 (Int.pow_pos hb), ?_, ?_, ?_⟩
            · rw [p1, q1, e1, e2]
              exact step_eq hab a3
            · rw [stk]
              exact pow_b b1 a4
            · rw [stk]
              exact pow_b b2 a5
        · rw [if_neg qc]
          exact keep (.inl (by omega))
      · obtain ⟨A, B, x5, x6, x7, x8, rfl, a1, a2, a3, a4, a5⟩ := hI
        rw [zip3D_len, List.length_map, List.length_map, List.length_map, h1, h2, Nat.min_self, Nat.min_self, List.take_length, ← h2, List.take_length, h2, ← h1, List.take_length] at a3
        simp
        have pX : 0 < pn r cs * ((pd l cs : Nat) : Int) := Int.mul_pos pnr (by omega)
        have pY : 0 < pn l cs * ((pd r cs : Nat) : Int) := Int.mul_pos pnl (by omega)
        generalize pn r cs * ((pd l cs : Nat) : Int) = X at *
        generalize pn l cs * ((pd r cs : Nat) : Int) = Y at *
        have lt : ∀ {A B X Y : Int}, 0 < B → 0 < X → A * X = B * Y → B < A → X < Y := fun {A B X Y} hB hX he hlt => by
          have z1 := Int.mul_lt_mul_of_pos_right hlt hX
          rcases Int.lt_or_le X Y with z | z
          · exact z
          · have z2 := Int.mul_le_mul_of_nonneg_left z (show 0 ≤ B by omega)
            omega
        by_cases c1 : B < A
        · rw [if_pos c1]
          have := lt a2 pX a3 c1
          rw [sgn_pos (by omega)] at h
          exact h
        · rw [if_neg c1]
          by_cases c2 : A < B
          · rw [if_pos c2]
            have := lt a1 pY a3.symm c2
            rw [sgn_neg (by omega)] at h
            exact h
          · rw [if_neg c2]
            have : A = B := by omega
            subst this
            have := Int.eq_of_mul_eq_mul_left (show A ≠ 0 by omega) a3
            rw [this, Int.sub_self] at h
            exact h
end K1


/-! text V2a -/
set_option Elab.async false
set_option linter.all false
set_option maxRecDepth 100000
set_option maxHeartbeats 1000000
namespace K1
open PySem PySem.Spec PyProof.Rows L2 L2H DL T
open NumText (digitsVal AllDigits)
variable {K : PySem.W.Frag} {ags : List Ag} {Qd : Rv → List (List D) → Prop} {Xq : Ex → List (List D) → Prop}
theorem signs_st (cs : List Nat) : signsD (st cs) = cs.map fun c => .str (st [c]) := by
  unfold signsD
  rw [st_list]
  rfl
@[simp] theorem isN_int (i : Int) : isN (.int i) = false := rfl
@[simp] theorem isN_str (i : Str) : isN (.str i) = false := rfl
@[simp] theorem isN_bool (i : Bool) : isN (.bool i) = false := rfl
@[simp] theorem isN_list (i : List D) : isN (.list i) = false := rfl
@[simp] theorem isN_tuple (i : List D) : isN (.tuple i) = false := rfl
theorem occ_one2 (l : List Nat) (c : Nat) : (Builtin.Str.occurrences (st l) (st [c]) 0 (st l).length 1 = []) ↔ ¬ c ∈ l := by
  have := occ_one l c
  rw [← List.isEmpty_iff, this]
  simp
theorem dig_or (x : Nat) : (x = 48 ∨ x = 49 ∨ x = 50 ∨ x = 51 ∨ x = 52 ∨ x = 53 ∨ x = 54 ∨ x = 55 ∨ x = 56 ∨ x = 57) ↔ (48 ≤ x ∧ x ≤ 57) := by omega
theorem v_only_of (h : sp_only_of ags Qd Xq) : t_only_of (endD ags Qd Xq) (startD N_only_of ags) := by
  obtain ⟨cs, ds, rfl, h⟩ := h
  simp [t_only_of, N_only_of]
  rw [signs_st]
  refine ⟨fun i δ => (∃ x, δ = [.im (.str (st cs)), .im (.str (st ds)), x]) ∧ ∀ c ∈ cs.take i, c ∈ ds, ⟨⟨_, rfl⟩, by simp⟩, fun i d δ hd hI => ?_, fun δ hI => ?_⟩
  · obtain ⟨⟨x, rfl⟩, hI⟩ := hI
    obtain ⟨c, hc, rfl⟩ := map_get hd
    simp [occ_one]
    by_cases q : c ∈ ds
    · simp [occ_one2, q]
      intro a ha
      rw [take_more hc] at ha
      rcases List.mem_append.mp ha with ha | ha
      · exact hI a ha
      · rw [List.mem_singleton.mp ha]
        exact q
    · simp [occ_one2, q]
      have : (cs.all fun c => ds.contains c) = false := by
        rw [List.all_eq_false]
        exact ⟨c, List.mem_of_getElem? hc, by simpa using q⟩
      rw [this] at h
      exact h
  · obtain ⟨⟨x, rfl⟩, hI⟩ := hI
    rw [List.length_map, List.take_length] at hI
    have : (cs.all fun c => ds.contains c) = true := by
      rw [List.all_eq_true]
      intro c hc
      simpa using hI c hc
    rw [this] at h
    simp
    exact h
theorem dig_mem (c : Nat) : ([48, 49, 50, 51, 52, 53, 54, 55, 56, 57] : List Nat).contains c = (decide (48 ≤ c) && decide (c ≤ 57)) := by
  by_cases h : c < 58
  · have : ∀ c : Nat, c < 58 → ([48, 49, 50, 51, 52, 53, 54, 55, 56, 57] : List Nat).contains c = (decide (48 ≤ c) && decide (c ≤ 57)) := by decide
    exact this c h
  · have h1 : decide (c ≤ 57) = false := decide_eq_false (by omega)
    rw [h1, Bool.and_false]
    simp
    omega
theorem item_st {cs : List Nat} {c : Nat} {r : List Nat} (h : cs = c :: r) (hl : cs.length ≤ 1000) : itemD (.str (st cs)) 0 = some (.str (st [c])) := by
  subst h
  show (if (st (c :: r)).length ≤ sizeLine then (atI (st (c :: r)).cps.toList 0).map fun c => PyData.str ⟨#[c]⟩ else none) = _
  rw [if_pos (by rw [st_len, sizeLine_eq]; omega), st_list]
  have : atI (c :: r) 0 = some c := by unfold atI ixN; simp
  rw [this]
  rfl
theorem v_is_digits (h : sp_is_digits ags Qd Xq) : t_is_digits (endD ags Qd Xq) (startD N_is_digits ags) := by
  obtain ⟨cs, rfl, hl, h⟩ := h
  simp [t_is_digits, N_is_digits]
  simp only [lit_empty, lit_0, lit_digits, st_inj]
  by_cases h0 : cs = []
  · rw [if_pos h0]
    subst h0
    exact h
  · rw [if_neg h0]
    refine ⟨cs, _, rfl, ?_⟩
    simp [dig_or]
    obtain ⟨c, r, e⟩ : ∃ c r, cs = c :: r := by
      cases cs with
      | nil => exact absurd rfl h0
      | cons c r => exact ⟨c, r, rfl⟩
    rw [item_st e hl]
    simp [st_inj]
    unfold canon at h
    have he : cs.isEmpty = false := by rw [e]; rfl
    rw [he] at h
    cases ha : cs.all fun c => decide (48 ≤ c) && decide (c ≤ 57) with
    | false =>
      rw [ha] at h
      have := List.all_eq_false.mp ha
      simp at this
      obtain ⟨x, hx, hx2⟩ := this
      rw [if_neg]
      · simpa using h
      · intro q
        have := q x hx
        omega
    | true =>
      rw [ha] at h
      have := List.all_eq_true.mp ha
      simp at this
      rw [if_pos this]
      simp at h
      by_cases q : cs = [48]
      · rw [if_pos q]
        simpa [q] using h
      · rw [if_neg q]
        have e2 : cs.head? = some c := by rw [e]; rfl
        rw [e2] at h
        simpa [q] using h
theorem dv_app (a b : List Nat) : digitsVal (a ++ b) = digitsVal a * 10 ^ b.length + digitsVal b := by
  have gen : ∀ (b : List Nat) (x : Nat), b.foldl (fun acc c => acc * 10 + (c - 48)) x = x * 10 ^ b.length + digitsVal b := by
    intro b
    induction b with
    | nil => intro x; simp [digitsVal]
    | cons c b ih =>
      intro x
      unfold digitsVal
      rw [List.foldl_cons, List.foldl_cons, ih, ih, List.length_cons, Nat.pow_succ, Nat.add_mul, Nat.zero_mul, Nat.zero_add, Nat.mul_assoc, Nat.mul_comm 10, Nat.add_assoc]
  show (a ++ b).foldl _ 0 = _
  rw [List.foldl_append, gen]
  rfl
theorem dv_lt {cs : List Nat} (h : AllDigits cs) : digitsVal cs < 10 ^ cs.length := by
  have gen : ∀ n (cs : List Nat), cs.length = n → AllDigits cs → digitsVal cs < 10 ^ cs.length := by
    intro n
    induction n with
    | zero =>
      intro cs hl _
      rw [List.eq_nil_of_length_eq_zero hl]
      decide
    | succ n ih =>
      intro cs hl ha
      rcases List.eq_nil_or_concat cs with rfl | ⟨as, c, rfl⟩
      · cases hl
      · rw [List.concat_eq_append] at hl ha ⊢
        have h1 := ih as (by rw [List.length_append, List.length_singleton] at hl; omega) fun x hx => ha x (List.mem_append_left _ hx)
        have h2 := ha c (by simp)
        rw [NumText.digitsVal_snoc, List.length_append, List.length_singleton, Nat.pow_succ]
        omega
  exact gen _ cs rfl h
theorem ten_two (n : Nat) : 10 ^ n ≤ 2 ^ (4 * n) := by
  rw [Nat.pow_mul]
  exact Nat.pow_le_pow_left (by omega) n
def I_vd (cs : List Nat) (i : Nat) (δ : Ds) : Prop := ∃ x2 x3 x4 x5 : Sl, δ = [.im (.str (st cs)), .im (.int (digitsVal (cs.take (60 * i)) : Nat)), x2, x3, x4, x5]
def I_vs (cs : List Nat) (tot : Int) (at_ : Nat) (part : List Nat) (j : Nat) (δ : Ds) : Prop := ∃ x5 : Sl, δ = [.im (.str (st cs)), .im (.int tot), .im (.int ((60 * at_ : Nat) : Int)), .im (.str (st part)), .im (.int ((10 ^ j : Nat) : Int)), x5]
theorem v_value_of_digits (h : sp_value_of_digits ags Qd Xq) : t_value_of_digits (endD ags Qd Xq) (startD N_value_of_digits ags) := by
  obtain ⟨cs, rfl, hl, ha, h⟩ := h
  simp [t_value_of_digits, N_value_of_digits]
  rw [st_len]
  have hrs : Builtin.Range.rangeSize 0 (cs.length : Int) 60 = (((cs.length + 59) / 60 : Nat) : Int) := by
    rw [rangeSize_pos (by omega) (by omega)]
    omega
  refine ⟨by rw [sizeLine_eq]; omega, (cs.length + 59) / 60, ⟨by decide, by decide, ?_, hrs⟩, I_vd cs, ⟨.no, .no, .no, .no, by simp [digitsVal]⟩, fun i d δ hd hI => ?_, fun δ hI => ?_⟩
  · unfold Builtin.Range.small
    rw [hrs]
    have fits : ∀ i : Int, 0 ≤ i → i < 100000 → Builtin.Range.rangeFitsLong i = true := fun i h1 h2 => by
      unfold Builtin.Range.rangeFitsLong
      rw [Bool.and_eq_true]
      exact ⟨decide_eq_true (by omega), decide_eq_true (by omega)⟩
    rw [fits 0 (by omega) (by omega), fits _ (by omega) (by omega), fits 60 (by omega) (by omega), fits _ (by omega) (by omega), if_pos (by decide), fits _ (by omega) (by omega), Bool.or_true]
    rfl
  · obtain ⟨x2, x3, x4, x5, rfl⟩ := hI
    obtain ⟨hi, rfl⟩ : i < (cs.length + 59) / 60 ∧ d = .int ((60 * i : Nat) : Int) := by
      have hlt : i < (cs.length + 59) / 60 := by
        rcases Nat.lt_or_ge i ((cs.length + 59) / 60) with z | z
        · exact z
        · rw [List.getElem?_eq_none (by rw [DL.upTo_len]; exact z)] at hd
          cases hd
      rw [DL.upTo_get hlt] at hd
      refine ⟨hlt, ?_⟩
      rw [← Option.some.inj hd]
      congr 1
      omega
    simp
    have ec : cutS (st cs) (some (60 * (i : Int))) (some (60 * (i : Int) + 60)) = st ((cs.drop (60 * i)).take 60) := by
      have := cut_mid cs (60 * i) 60
      rw [← this]
      congr 2
    rw [ec]
    generalize hp : (cs.drop (60 * i)).take 60 = part
    have hpa : AllDigits part := fun c hc => ha c (by rw [← hp] at hc; exact List.mem_of_mem_drop (List.mem_of_mem_take hc))
    have hpl : part.length ≤ 60 := by rw [← hp, List.length_take]; omega
    have hpn : part ≠ [] := by
      intro z
      have : part.length = 0 := by rw [z]; rfl
      rw [← hp, List.length_take, List.length_drop] at this
      omega
    have etk : cs.take (60 * (i + 1)) = cs.take (60 * i) ++ part := by
      rw [← hp, show 60 * (i + 1) = 60 * i + 60 by omega, List.take_add]
    have hta : AllDigits (cs.take (60 * i)) := fun c hc => ha c (List.mem_of_mem_take hc)
    have htl : (cs.take (60 * i)).length ≤ 1000 := by rw [List.length_take]; omega
    have hv := dv_lt hta
    generalize hT : digitsVal (cs.take (60 * i)) = tot at hv
    have hv2 : tot < 2 ^ 4000 := Nat.lt_of_lt_of_le hv (Nat.le_trans (ten_two _) (pow_le2 (by omega)))
    refine ⟨by rw [st_len, sizeLine_eq]; omega, ?_⟩
    rw [signs_st]
    refine ⟨I_vs cs (tot : Nat) i part, ⟨x5, by simp⟩, fun j d δ2 hd2 hJ => ?_, fun δ2 hJ => ?_⟩
    · obtain ⟨y5, rfl⟩ := hJ
      obtain ⟨c, hc, rfl⟩ := map_get hd2
      have hj : j < part.length := (List.getElem?_eq_some_iff.mp hc).1
      simp
      refine ⟨?_, .im (.str (st [c])), ?_⟩
      · have h1 : 10 ^ j < 2 ^ 300 := Nat.lt_of_le_of_lt (ten_two j) (Nat.pow_lt_pow_right (by omega) (by omega))
        have := mulOk (i := ((10 ^ j : Nat) : Int)) (j := 10) (m := 300) (n := 4) (by rw [Int.natAbs_natCast]; exact h1) (by decide) (by omega)
        simpa using this
      · rw [Nat.pow_succ]
        simp
    · obtain ⟨y5, rfl⟩ := hJ
      rw [List.length_map]
      simp
      have hps : 10 ^ part.length < 2 ^ 300 := Nat.lt_of_le_of_lt (ten_two _) (Nat.pow_lt_pow_right (by omega) (by omega))
      refine ⟨?_, _, by
        have := PySem.intText_digits (x := st part) (by rw [st_list]; exact hpa) (by rw [st_list]; exact hpn) (by rw [st_len]; omega)
        rw [st_list] at this
        exact this, by rw [st_len]; omega, .im (.int ((60 * i : Nat) : Int)), .im (.str (st part)), .im (.int ((10 ^ part.length : Nat) : Int)), y5, ?_⟩
      · have := mulOk (i := ((tot : Nat) : Int)) (j := ((10 ^ part.length : Nat) : Int)) (m := 4000) (n := 300) (by rw [Int.natAbs_natCast]; exact hv2) (by rw [Int.natAbs_natCast]; exact hps) (by omega)
        simpa using this
      · rw [etk, dv_app, hT]
        simp
  · obtain ⟨x2, x3, x4, x5, rfl⟩ := hI
    rw [DL.upTo_len, List.take_of_length_le (by omega)]
    simp
    exact h
theorem v_whole_of (h : sp_whole_of ags Qd Xq) : t_whole_of (endD ags Qd Xq) (startD N_whole_of ags) := by
  obtain ⟨cs, rfl, hl, h⟩ := h
  simp [t_whole_of, N_whole_of]
  have lz : (st cs).length ≤ sizeLine := by rw [st_len, sizeLine_eq]; omega
  have ec : cutS (st cs) (some 1) none = st (cs.drop 1) := cut_from' cs 1
  simp only [lit_minus, lit_m0, st_inj, starts_st, ec]
  unfold wholeC at h
  by_cases h1 : cs.head? = some 45
  · rw [if_pos h1] at h
    rw [if_pos (by simpa using h1)]
    by_cases h2 : cs = [45, 48]
    · rw [if_pos (.inl h2)] at h
      rw [if_pos h2]
      exact h
    · rw [if_neg h2]
      refine ⟨lz, _, rfl, by rw [List.length_drop]; omega, ?_⟩
      simp
      cases hc : canon (cs.drop 1) with
      | false =>
        rw [if_pos (.inr hc)] at h
        have hc2 : canon cs.tail = false := by rw [← List.drop_one]; exact hc
        simp [hc2]
        exact h
      | true =>
        rw [if_neg (fun z => z.elim h2 (fun q => by rw [hc] at q; cases q))] at h
        have hc2 : canon cs.tail = true := by rw [← List.drop_one]; exact hc
        simp [hc2, ec]
        rw [List.drop_one] at h hc
        exact ⟨lz, _, rfl, by rw [List.length_tail]; omega, (canon_val hc).1, h⟩
  · rw [if_neg h1] at h
    rw [if_neg (by simpa using h1)]
    refine ⟨_, rfl, by omega, ?_⟩
    simp
    cases hc : canon cs with
    | false =>
      rw [if_neg (by rw [hc]; simp)] at h
      simp
      exact h
    | true =>
      rw [if_pos hc] at h
      simp
      exact ⟨_, rfl, by omega, (canon_val hc).1, h⟩
theorem v_ratio_of (h : sp_ratio_of ags Qd Xq) : t_ratio_of (endD ags Qd Xq) (startD N_ratio_of ags) := by
  obtain ⟨cs, rfl, hl, h⟩ := h
  simp [t_ratio_of, N_ratio_of]
  have lz : (st cs).length ≤ sizeLine := by rw [st_len, sizeLine_eq]; omega
  simp only [lit_slash, lit_empty]
  refine ⟨by rw [st_len]; simp, lz, ?_⟩
  by_cases hb : 47 ∈ cs
  · obtain ⟨a, b, rfl, n⟩ := cut_at hb
    rw [List.length_append, List.length_cons] at hl
    rw [ratio_some n] at h
    rw [part_some n]
    refine ⟨a, rfl, by omega, ?_⟩
    simp
    cases hw : wholeC a with
    | none =>
      rw [hw] at h
      simp [optI]
      exact h
    | some t =>
      rw [hw] at h
      simp [optI, st_inj]
      refine ⟨b, rfl, by omega, ?_⟩
      simp
      cases hc : canon b with
      | false =>
        simp [hc] at h
        simp
        exact h
      | true =>
        simp [hc] at h
        simp
        refine ⟨b, rfl, by omega, (canon_val hc).1, ?_⟩
        simp [line2]
        by_cases h2 : digitsVal b < 2
        · rw [if_pos (.inl h2)] at h
          rw [if_pos (by omega)]
          exact h
        · rw [if_neg (by omega)]
          by_cases hg : Int.gcd t (digitsVal b : Nat) = 1
          · rw [if_neg (fun z => z.elim h2 (fun q => q hg))] at h
            have hg' : t.natAbs.gcd (digitsVal b) = 1 := by simpa [Int.gcd] using hg
            have := gcd1 (t := t) (b := ((digitsVal b : Nat) : Int)) (by simpa using hg') (by omega)
            rw [Int.toNat_natCast] at this
            rw [show optD (some (mkRat t (digitsVal b))) = dr (mkRat t (digitsVal b)) from rfl, this] at h
            simp [hg']
            exact h
          · rw [if_pos (.inr hg)] at h
            have hg' : ¬ t.natAbs.gcd (digitsVal b) = 1 := by simpa [Int.gcd] using hg
            rw [if_neg (by omega)]
            exact h
  · rw [ratio_none hb] at h
    rw [part_none hb]
    refine ⟨cs, rfl, by omega, ?_⟩
    simp
    cases hw : wholeC cs with
    | none =>
      rw [hw] at h
      simp [optI]
      exact h
    | some t =>
      rw [hw] at h
      have e : Str.empty = st [] := rfl
      simp [optI, e, line2]
      exact h
end K1


/-! text V2b -/
set_option Elab.async false
set_option linter.all false
set_option maxRecDepth 100000
set_option maxHeartbeats 1000000
namespace K1
open PySem PySem.Spec PyProof.Rows L2 L2H DL T
open NumText (digitsVal AllDigits)
variable {K : PySem.W.Frag} {ags : List Ag} {Qd : Rv → List (List D) → Prop} {Xq : Ex → List (List D) → Prop}
theorem v_is_row (h : sp_is_row ags Qd Xq) : t_is_row (endD ags Qd Xq) (startD N_is_row ags) := by
  obtain ⟨d, rfl, h⟩ := h
  simp [t_is_row, N_is_row]
  cases d <;> simp <;> exact h
theorem v_is_whole (h : sp_is_whole ags Qd Xq) : t_is_whole (endD ags Qd Xq) (startD N_is_whole ags) := by
  obtain ⟨d, rfl, h⟩ := h
  simp [t_is_whole, N_is_whole]
  cases d <;> simp <;> exact h
theorem v_ask_cells (h : sp_ask_cells K ags Qd Xq) : t_ask_cells K (endD ags Qd Xq) (startD N_ask_cells ags) := by
  obtain ⟨n, rfl, h⟩ := h
  simp [t_ask_cells, N_ask_cells]
  by_cases q : 32 < n
  · rw [if_pos q] at h
    rw [if_pos (by omega)]
    exact h
  · rw [if_neg q] at h
    rw [if_neg (by omega)]
    exact h
theorem v_ask_total (h : sp_ask_total K ags Qd Xq) : t_ask_total K (endD ags Qd Xq) (startD N_ask_total ags) := by
  obtain ⟨n, rfl, h⟩ := h
  simp [t_ask_total, N_ask_total]
  by_cases q : 2000 < n
  · rw [if_pos q] at h
    rw [if_pos (by omega)]
    exact h
  · rw [if_neg q] at h
    rw [if_neg (by omega)]
    exact h
theorem big_at : ∀ {rs : List Qn} {i : Nat} {r : Qn}, rs[i]? = some r → (∀ x ∈ rs.take i, ¬ 60 < dig x) → 60 < dig r → firstBig rs = some (dig r)
  | [], _, _, h, _, _ => by simp at h
  | x :: rs, 0, r, h, _, hb => by
    simp at h
    subst h
    rw [firstBig, if_pos hb]
  | x :: rs, i + 1, r, h, hn, hb => by
    rw [firstBig, if_neg (hn x (by simp))]
    exact big_at (by simpa using h) (fun y hy => hn y (by simp [hy])) hb
theorem big_none : ∀ {rs : List Qn}, (∀ x ∈ rs, ¬ 60 < dig x) → firstBig rs = none
  | [], _ => rfl
  | x :: rs, h => by
    rw [firstBig, if_neg (h x List.mem_cons_self)]
    exact big_none fun y hy => h y (List.mem_cons_of_mem _ hy)
theorem mem_take_more {α : Type} {l : List α} {i : Nat} {x y : α} (h : l[i]? = some x) (hy : y ∈ l.take (i + 1)) : y ∈ l.take i ∨ y = x := by
  rw [take_more h] at hy
  rcases List.mem_append.mp hy with hy | hy
  · exact .inl hy
  · exact .inr (List.mem_singleton.mp hy)
def I_ad (rs : List Qn) (i : Nat) (δ : Ds) : Prop := (∃ x1 x2 : Sl, δ = [.im (.list (rs.map dr)), x1, x2]) ∧ ∀ x ∈ rs.take i, ¬ 60 < dig x
theorem v_ask_digits (h : sp_ask_digits K ags Qd Xq) : t_ask_digits K (endD ags Qd Xq) (startD N_ask_digits ags) := by
  obtain ⟨rs, rfl, hs, h⟩ := h
  simp [t_ask_digits, N_ask_digits]
  refine ⟨I_ad rs, ⟨⟨_, _, rfl⟩, by simp⟩, fun i d δ hd hI => ?_, fun δ hI => ?_⟩
  · obtain ⟨⟨x1, x2, rfl⟩, hI⟩ := hI
    obtain ⟨r, hr, rfl⟩ := map_get hd
    simp
    refine ⟨r, rfl, hs r (List.mem_of_getElem? hr), ?_⟩
    simp
    show if (60 : Int) < ((dig r : Nat) : Int) then _ else _
    by_cases q : 60 < dig r
    · rw [if_pos (by omega)]
      rw [big_at hr hI q] at h
      exact h
    · rw [if_neg (by omega)]
      refine ⟨⟨_, _, rfl⟩, fun x hx => ?_⟩
      rcases mem_take_more hr hx with hx | rfl
      · exact hI x hx
      · exact q
  · obtain ⟨⟨x1, x2, rfl⟩, hI⟩ := hI
    rw [List.length_map, List.take_length] at hI
    rw [big_none hI] at h
    simp
    exact h
theorem dr_cast (i : Int) : dr ((i : Int) : Qn) = .tuple [.int i, .int 1] := rfl
theorem v_fraction_of (h : sp_fraction_of ags Qd Xq) : t_fraction_of (endD ags Qd Xq) (startD N_fraction_of ags) := by
  obtain ⟨d, rfl, hd, h⟩ := h
  cases d with
  | none => simp [t_fraction_of, N_fraction_of]; exact h
  | bool b => simp [t_fraction_of, N_fraction_of]; exact h
  | int i => simp [t_fraction_of, N_fraction_of, line2]; exact h
  | list ds => simp [t_fraction_of, N_fraction_of]; exact h
  | dict kvs => simp [t_fraction_of, N_fraction_of]; exact h
  | str x =>
    simp [t_fraction_of, N_fraction_of]
    rw [st_of x] at h hd ⊢
    have hd' : (st x.cps.toList).length ≤ 400 := hd.1
    rw [st_len] at hd'
    refine ⟨x.cps.toList, rfl, by omega, ?_⟩
    simp only [frac, st_list] at h
    exact h
  | tuple ds =>
    match ds, hd, h with
    | [], _, h => simp [t_fraction_of, N_fraction_of]; exact h
    | [a], _, h =>
      simp [t_fraction_of, N_fraction_of]
      have e : frac (.tuple [a]) = none := by cases a <;> rfl
      rw [e] at h
      exact h
    | a :: b :: c :: r, _, h =>
      simp [t_fraction_of, N_fraction_of]
      have e : frac (.tuple (a :: b :: c :: r)) = none := by cases a <;> first | rfl | (cases b <;> rfl)
      rw [e] at h
      exact ⟨by omega, h⟩
    | [a, b], hd, h =>
      simp [t_fraction_of, N_fraction_of]
      refine ⟨a, rfl, ?_⟩
      cases a with
      | int x =>
        simp [isWh]
        refine ⟨b, rfl, ?_⟩
        cases b with
        | int y =>
          simp [isWh]
          by_cases q : y < 1
          · rw [if_pos q]
            simp only [frac] at h
            rw [if_neg (by omega)] at h
            exact h
          · rw [if_neg q]
            simp only [frac] at h
            rw [if_pos (by omega)] at h
            exact ⟨x, y, rfl, by omega, lt_pow_le hd (by omega), h⟩
        | _ => simp [isWh]; exact h
      | _ => simp [isWh]; exact h
end K1


/-! text V2c -/
set_option Elab.async false
set_option linter.all false
set_option maxRecDepth 100000
set_option maxHeartbeats 1000000
namespace K1
open PySem PySem.Spec PyProof.Rows L2 L2H DL T
open NumText (digitsVal AllDigits)
variable {K : PySem.W.Frag} {ags : List Ag} {Qd : Rv → List (List D) → Prop} {Xq : Ex → List (List D) → Prop}
theorem pair_get' {ds : List D} {i : Nat} {d : D} (h : (pairN 0 ds)[i]? = some d) : ∃ x, ds[i]? = some x ∧ d = .tuple [.int (i : Nat), x] := by
  have := pair_get (f := id) (l := ds) (i := i) (d := d) (by rw [List.map_id]; exact h)
  exact this
theorem find_at {α : Type} {p : α → Bool} {l : List α} {i : Nat} {x : α} (h : l[i]? = some x) (hp : p x = true) (hn : ∀ y ∈ l.take i, p y = false) : l.findIdx? p = some i := by
  rw [List.findIdx?_eq_some_iff_getElem]
  have hlt : i < l.length := (List.getElem?_eq_some_iff.mp h).1
  refine ⟨hlt, ?_, fun j hj => ?_⟩
  · rw [List.getElem?_eq_getElem hlt] at h
    cases h
    exact hp
  · have := hn l[j] (List.mem_take_iff_getElem.mpr ⟨j, by omega, rfl⟩)
    simp [this]
theorem find_no {α : Type} {p : α → Bool} {l : List α} (hn : ∀ y ∈ l, p y = false) : l.findIdx? p = none := by
  rw [List.findIdx?_eq_none_iff]
  exact hn
def I_ca (ds : List D) (i : Nat) (δ : Ds) : Prop := (∃ x4 x5 x6 : Sl, δ = [.im (.list ds), .im (.bool false), .im (.bool false), .ow ((ds.take i).map fun d => optD (frac d)), x4, x5, x6]) ∧ ∀ x ∈ ds.take i, badC x = false
theorem ne_lit {s : String} (h : (Str.ofString s == Str.empty) = false) : Str.ofString s ≠ Str.empty := fun z => by
  rw [z] at h
  simp at h
theorem den1 {r : Qn} : ((r.den : Nat) : Int) = 1 ↔ r.den = 1 := by omega
theorem v_counts_among (h : sp_counts_among K ags Qd Xq) : t_counts_among K (endD ags Qd Xq) (startD N_counts_among ags) := by
  obtain ⟨ds, rfl, hl, hd, h⟩ := h
  simp [t_counts_among, N_counts_among]
  refine ⟨I_ca ds, ⟨⟨_, _, _, rfl⟩, by simp⟩, fun i d δ hd2 hI => ?_, fun δ hI => ?_⟩
  · obtain ⟨⟨x4, x5, x6, rfl⟩, hI⟩ := hI
    obtain ⟨x, hx, rfl⟩ := pair_get' hd2
    have hm := List.mem_of_getElem? hx
    simp
    refine ⟨x, rfl, hd x hm, ?_⟩
    have bad : badC x = true → ∀ w, w ≠ Str.empty → Xq (exC K (i : Nat) w) [] := fun hb => by
      rw [find_at hx hb hI] at h
      exact h
    cases hf : frac x with
    | none =>
      have hb : badC x = true := by unfold badC; rw [hf]
      simp [optD]
      exact bad hb _ (ne_lit (by decide +kernel))
    | some r =>
      simp [optD]
      rw [if_neg (by simp [dr, isN])]
      by_cases q1 : r.num < 0
      · rw [if_pos q1]
        have hb : badC x = true := by unfold badC; rw [hf]; simp [q1]
        exact bad hb _ (ne_lit (by decide +kernel))
      · rw [if_neg q1]
        have hb : badC x = false := by unfold badC; rw [hf]; simp [q1]
        have hl2 : (ds.take i).length ≤ 1000 := Nat.le_trans (List.length_take_le' ..) hl
        rw [List.length_take] at hl2
        refine ⟨by rw [sizeLine_eq]; omega, ⟨.im (.int (i : Nat)), .im x, .im (dr r), ?_⟩, fun y hy => ?_⟩
        · rw [take_more hx, List.map_append]
          simp [hf, optD]
        · rcases mem_take_more hx hy with hy | rfl
          · exact hI y hy
          · exact hb
  · obtain ⟨⟨x4, x5, x6, rfl⟩, hI⟩ := hI
    rw [pairN_len, List.take_length] at hI ⊢
    rw [find_no hI] at h
    simp
    exact h
def I_ta (ds : List D) (i : Nat) (δ : Ds) : Prop := (∃ x3 x4 : Sl, δ = [.im (.list ds), .im (.bool true), .ow ((frs (ds.take i)).map dr), x3, x4]) ∧ ∀ x ∈ ds.take i, badT x = false
theorem dr_one : dr 1 = .tuple [.int 1, .int 1] := rfl
theorem v_table_among (h : sp_table_among K ags Qd Xq) : t_table_among K (endD ags Qd Xq) (startD N_table_among ags) := by
  obtain ⟨ds, rfl, hl, hd, h⟩ := h
  simp [t_table_among, N_table_among]
  refine ⟨I_ta ds, ⟨⟨_, _, rfl⟩, by simp⟩, fun i x δ hx hI => ?_, fun δ hI => ?_⟩
  · obtain ⟨⟨x3, x4, rfl⟩, hI⟩ := hI
    have hm := List.mem_of_getElem? hx
    simp
    refine ⟨x, rfl, (hd x hm).1, ?_⟩
    have bad : badT x = true → ∀ w, w ≠ Str.empty → Xq (exT K w) [] := fun hb => by
      have : ds.any badT = true := List.any_eq_true.mpr ⟨x, hm, hb⟩
      rw [if_neg (by rw [this]; simp)] at h
      exact h
    cases hf : frac x with
    | none =>
      have hb : badT x = true := by unfold badT; rw [hf]
      simp [optD]
      exact bad hb _ (ne_lit (by decide +kernel))
    | some r =>
      simp [optD]
      rw [if_neg (by simp [dr, isN])]
      by_cases q1 : r.num < 0
      · rw [if_pos q1]
        have hb : badT x = true := by unfold badT; rw [hf]; simp [q1]
        exact bad hb _ (ne_lit (by decide +kernel))
      · rw [if_neg q1]
        have hb : badT x = false := by unfold badT; rw [hf]; simp [q1]
        have e : frs (ds.take (i + 1)) = frs (ds.take i) ++ [r] := by
          rw [take_more hx]
          unfold frs
          rw [List.map_append]
          simp [hf]
        have hl2 : (frs (ds.take i)).length ≤ 40 := by
          unfold frs
          rw [List.length_map]
          exact Nat.le_trans (List.length_take_le' ..) hl
        have fin : (frs (ds.take i)).length < sizeLine ∧ I_ta ds (i + 1) [Sl.im (.list ds), .im (.bool true), .ow ((frs (ds.take i)).map dr ++ [dr r]), .im x, .im (dr r)] := by
          refine ⟨by rw [sizeLine_eq]; omega, ⟨.im x, .im (dr r), ?_⟩, fun y hy => ?_⟩
          · rw [e, List.map_append]
            rfl
          · rcases mem_take_more hx hy with hy | rfl
            · exact hI y hy
            · exact hb
        first
          | exact fin
          | simpa using fin
  · obtain ⟨⟨x3, x4, rfl⟩, hI⟩ := hI
    rw [List.take_length] at hI ⊢
    have hany : ds.any badT = false := by
      rw [List.any_eq_false]
      intro y hy
      rw [hI y hy]
      simp
    have hfr : ∀ r ∈ frs ds, Sz 210 r := fun r hr => by
      unfold frs at hr
      obtain ⟨x, hx, rfl⟩ := List.mem_map.mp hr
      have h1 := hI x hx
      unfold badT at h1
      cases hf : frac x with
      | none => rw [hf] at h1; cases h1
      | some q => exact (hd x hx).2 q hf
    simp
    refine ⟨frs ds, rfl, by unfold frs; rw [List.length_map]; exact hl, hfr, ?_⟩
    simp [line2, ← dr_one, eqD_dr]
    refine ⟨cmp_dr _ _, ?_⟩
    by_cases q : sumQ (frs ds) = 1
    · rw [if_pos ⟨hany, q⟩] at h
      rw [if_pos q]
      exact h
    · rw [if_neg (fun z => q z.2)] at h
      rw [if_neg q]
      exact h _ (ne_lit (by decide +kernel))
end K1


/-! text V2d -/
set_option Elab.async false
set_option linter.all false
set_option maxRecDepth 100000
set_option maxHeartbeats 1000000
namespace K1
open PySem PySem.Spec PyProof.Rows L2 L2H DL T
open NumText (digitsVal AllDigits)
variable {K : PySem.W.Frag} {ags : List Ag} {Qd : Rv → List (List D) → Prop} {Xq : Ex → List (List D) → Prop}
theorem row_cases (d : D) : (∃ ds, seqOf d = some ds ∧ isRow d = true ∧ lenD d = some ds.length) ∨ (seqOf d = none ∧ isRow d = false) := by
  cases d with
  | list ds => exact .inl ⟨ds, rfl, rfl, rfl⟩
  | tuple ds => exact .inl ⟨ds, rfl, rfl, rfl⟩
  | _ => exact .inr ⟨rfl, rfl⟩
theorem v_bare_table (h : sp_bare_table K ags Qd Xq) : t_bare_table K (endD ags Qd Xq) (startD N_bare_table ags) := by
  obtain ⟨d, rfl, hd, h⟩ := h
  simp [t_bare_table, N_bare_table]
  refine ⟨d, rfl, ?_⟩
  rcases row_cases d with ⟨ds, e1, e2, e3⟩ | ⟨e1, e2⟩
  · simp [e2, e1]
    unfold tabOf at h
    rw [e1] at h
    refine ⟨ds, rfl, hd.len ds e1, hd.ok ds e1, ?_⟩
    simp only at h
    by_cases q : ds.any badT = false ∧ sumQ (frs ds) = 1
    · rw [if_pos q] at h ⊢
      exact h
    · rw [if_neg q] at h ⊢
      exact h
  · simp [e2]
    unfold tabOf at h
    rw [e1] at h
    exact h _ (ne_lit (by decide +kernel))
theorem all_good {ds : List D} (h : ds.findIdx? badC = none) : (ds.map fun d => optD (frac d)) = (frs ds).map dr := by
  rw [List.findIdx?_eq_none_iff] at h
  unfold frs
  rw [List.map_map]
  refine List.map_congr_left fun d hd => ?_
  have := h d hd
  unfold badC at this
  cases hf : frac d with
  | none => rw [hf] at this; cases this
  | some r => simp [optD, hf]
theorem v_bare_counts (h : sp_bare_counts K ags Qd Xq) : t_bare_counts K (endD ags Qd Xq) (startD N_bare_counts ags) := by
  obtain ⟨d, n, rfl, hd, h⟩ := h
  have seq : ∀ ds, seqOf d = some ds → (match badAt d n with
      | none => Qd (Rv.ow (List.map dr (cntOf d))) []
      | some i => ∀ (w : Str), w ≠ Str.empty → Xq (exC K i w) []) → (if ((ds.length : Nat) : Int) = ((n : Nat) : Int) then sp_counts_among K [Ag.im (PyData.list ds), Ag.im (PyData.bool false), Ag.im (PyData.bool false)]
                  (fun rv outs => Qd rv []) fun ex outs => Xq ex [] else Xq (exC K (-1) "counts are a row with as many numbers as the table") []) := by
    intro ds e1 h
    unfold badAt at h
    rw [e1] at h
    simp only at h
    by_cases q : ds.length = n
    · rw [if_pos (by omega)]
      rw [if_neg (by simpa using q)] at h
      refine ⟨ds, rfl, Nat.le_trans (hd.len ds e1) (by omega), fun x hx => (hd.ok ds e1 x hx).1, ?_⟩
      cases hf : ds.findIdx? badC with
      | none =>
        rw [hf] at h
        rw [all_good hf]
        have : cntOf d = frs ds := by unfold cntOf; rw [e1]
        rw [this] at h
        exact h
      | some i =>
        rw [hf] at h
        exact h
    · rw [if_neg (by omega)]
      rw [if_pos q] at h
      exact h _ (ne_lit (by decide +kernel))
  simp [t_bare_counts, N_bare_counts]
  refine ⟨d, rfl, ?_⟩
  cases d with
  | list ds =>
    have := seq ds rfl h
    simp [isRow]
    exact this
  | tuple ds =>
    have := seq ds rfl h
    simp [isRow]
    exact this
  | _ =>
    simp [isRow]
    exact h _ (ne_lit (by decide +kernel))
theorem frs_good {ds : List D} (h : ds.findIdx? badC = none) : ∀ r ∈ frs ds, 0 ≤ r.num := by
  rw [List.findIdx?_eq_none_iff] at h
  intro r hr
  unfold frs at hr
  obtain ⟨d, hd, rfl⟩ := List.mem_map.mp hr
  have := h d hd
  unfold badC at this
  cases hf : frac d with
  | none => rw [hf] at this; cases this
  | some q =>
    rw [hf] at this
    simp at this
    simp
    omega
theorem sz_frs {d : D} {ds : List D} (hd : RowOk d) (e : seqOf d = some ds) (hb : ∀ x ∈ ds, ∃ r, frac x = some r) : ∀ r ∈ frs ds, Sz 210 r := by
  intro r hr
  unfold frs at hr
  obtain ⟨x, hx, rfl⟩ := List.mem_map.mp hr
  obtain ⟨q, hq⟩ := hb x hx
  rw [hq]
  exact (hd.ok ds e x hx).2 q hq
theorem intsOf_nat (cs : List Nat) : intsOf (cs.map fun c => PyData.int (c : Nat)) = some (cs.map fun c => ((c : Nat) : Int)) := by
  have := intsOf_ints (cs.map fun c => ((c : Nat) : Int))
  rw [List.map_map] at this
  exact this
theorem sum_cast : ∀ cs : List Nat, (cs.map fun c => ((c : Nat) : Int)).sum = ((cs.sum : Nat) : Int)
  | [] => rfl
  | c :: cs => by
    rw [List.map_cons, List.sum_cons, List.sum_cons, sum_cast cs]
    omega
theorem tab_some {one : D} {rs : List Qn} (h1 : RowOk one) (h : tabOf one = some rs) : rs.length ≤ 40 ∧ ∀ r ∈ rs, 0 ≤ r ∧ Sz 210 r := by
  unfold tabOf at h
  cases e : seqOf one with
  | none => rw [e] at h; cases h
  | some ds =>
    rw [e] at h
    simp only at h
    split at h
    · rename_i q
      cases h
      have hb : ∀ x ∈ ds, badT x = false := fun x hx => by
        have := List.any_eq_false.mp q.1 x hx
        simpa using this
      refine ⟨by unfold frs; rw [List.length_map]; exact h1.len ds e, fun r hr => ⟨?_, sz_frs h1 e (fun x hx => ?_) r hr⟩⟩
      · unfold frs at hr
        obtain ⟨x, hx, rfl⟩ := List.mem_map.mp hr
        have := hb x hx
        unfold badT at this
        cases hf : frac x with
        | none => rw [hf] at this; cases this
        | some q =>
          rw [hf] at this
          simp at this
          exact this
      · have := hb x hx
        unfold badT at this
        cases hf : frac x with
        | none => rw [hf] at this; cases this
        | some q => exact ⟨q, rfl⟩
    · cases h
theorem cnt_none {two : D} {n : Nat} (h2 : RowOk two) (h : badAt two n = none) : (cntOf two).length = n ∧ n ≤ 40 ∧ (∀ r ∈ cntOf two, Sz 210 r ∧ 0 ≤ r.num) := by
  unfold badAt at h
  unfold cntOf
  cases e : seqOf two with
  | none => rw [e] at h; cases h
  | some ds =>
    rw [e] at h
    simp only at h ⊢
    split at h
    · cases h
    · rename_i q
      have hf : ds.findIdx? badC = none := by
        cases z : ds.findIdx? badC with
        | none => rfl
        | some i => rw [z] at h; cases h
      have hl : ds.length = n := by simpa using q
      have hl2 := h2.len ds e
      refine ⟨by unfold frs; rw [List.length_map]; exact hl, by omega, fun r hr => ⟨sz_frs h2 e (fun x hx => ?_) r hr, frs_good hf r hr⟩⟩
      have := List.findIdx?_eq_none_iff.mp hf x hx
      unfold badC at this
      cases hq : frac x with
      | none => rw [hq] at this; cases this
      | some q => exact ⟨q, rfl⟩
theorem cnt_qs {d : D} {n : Nat} (h2 : RowOk d) (h3 : CntOk d) (h : badAt d n = none) : QsOk (cntOf d) := by
  obtain ⟨a1, a2, a3⟩ := cnt_none h2 h
  refine ⟨by omega, fun q hq => ⟨(a3 q hq).2, (a3 q hq).1, ?_⟩⟩
  unfold badAt at h
  unfold cntOf at hq
  cases e : seqOf d with
  | none => rw [e] at h; cases h
  | some ds =>
    rw [e] at h hq
    simp only at h hq
    have hf : ds.findIdx? badC = none := by
      split at h
      · cases h
      · cases z : ds.findIdx? badC with
        | none => rfl
        | some i => rw [z] at h; cases h
    unfold frs at hq
    obtain ⟨x, hx, rfl⟩ := List.mem_map.mp hq
    have := List.findIdx?_eq_none_iff.mp hf x hx
    unfold badC at this
    cases hr : frac x with
    | none => rw [hr] at this; cases this
    | some r => exact h3 ds e x hx r hr
theorem le_sum : ∀ {ns : List Nat} {c : Nat}, c ∈ ns → c ≤ ns.sum
  | [], _, h => (nomatch h)
  | n :: ns, c, h => by
    rw [List.sum_cons]
    rcases List.mem_cons.mp h with rfl | h
    · omega
    · have := le_sum h
      omega
end K1


/-! text V2e -/
set_option Elab.async false
set_option linter.all false
set_option maxRecDepth 100000
set_option maxHeartbeats 1000000
namespace K1
open PySem PySem.Spec PyProof.Rows L2 L2H DL T
open NumText (digitsVal AllDigits)
variable {K : PySem.W.Frag} {ags : List Ag} {Qd : Rv → List (List D) → Prop} {Xq : Ex → List (List D) → Prop}
theorem v_fits_better (h : sp_fits_better K ags Qd Xq) : t_fits_better K (endD ags Qd Xq) (startD N_fits_better ags) := by
  obtain ⟨one, two, three, rfl, r1, r2, r3, hc, h⟩ := h
  simp [t_fits_better, N_fits_better]
  refine ⟨one, rfl, r1, ?_⟩
  unfold fitOut at h
  cases e1 : tabOf one with
  | none =>
    rw [e1] at h
    exact h
  | some ls =>
    rw [e1] at h
    obtain ⟨l1, g1⟩ := tab_some r1 e1
    simp only at h
    simp
    refine ⟨two, rfl, r2, ?_⟩
    cases e2 : tabOf two with
    | none =>
      rw [e2] at h
      exact h
    | some rs =>
      rw [e2] at h
      obtain ⟨l2, g2⟩ := tab_some r2 e2
      simp only at h
      simp
      by_cases ql : rs.length = ls.length
      · rw [if_pos (by omega)]
        rw [if_neg (by omega)] at h
        refine ⟨three, ls.length, rfl, r3, ?_⟩
        cases e3 : badAt three ls.length with
        | some i =>
          rw [e3] at h
          exact h
        | none =>
          rw [e3] at h
          have hq := cnt_qs r3 hc e3
          obtain ⟨l3, l4, g3⟩ := cnt_none r3 e3
          simp only at h
          simp
          refine ⟨ls.length, rfl, ?_⟩
          by_cases q32 : 32 < ls.length
          · rw [if_pos q32] at h ⊢
            exact h
          · rw [if_neg q32] at h ⊢
            simp
            have up : ∀ r : Qn, Sz 210 r → Sz 4000 r := fun r hr => ⟨lt_pow_le hr.1 (by omega), lt_pow_le hr.2 (by omega)⟩
            refine ⟨ls, rfl, fun r hr => up r (g1 r hr).2, ?_⟩
            cases f1 : firstBig ls with
            | some m =>
              rw [f1] at h
              exact h
            | none =>
              rw [f1] at h
              simp
              refine ⟨rs, rfl, fun r hr => up r (g2 r hr).2, ?_⟩
              cases f2 : firstBig rs with
              | some m =>
                rw [f2] at h
                exact h
              | none =>
                rw [f2] at h
                simp
                refine ⟨cntOf three, rfl, fun r hr => up r (g3 r hr).1, ?_⟩
                cases f3 : firstBig (cntOf three) with
                | some m =>
                  rw [f3] at h
                  exact h
                | none =>
                  rw [f3] at h
                  simp only at h
                  simp
                  refine ⟨_, rfl, hq, ?_⟩
                  simp
                  have lm : (mulL (cntOf three)).length = ls.length := by
                    unfold mulL
                    rw [List.length_map, l3]
                  generalize mulL (cntOf three) = cs at h lm ⊢
                  refine ⟨_, intsOf_nat cs, cs.sum, by rw [sum_cast], ?_⟩
                  by_cases q20 : 2000 < cs.sum
                  · rw [if_pos q20] at h ⊢
                    exact h
                  · rw [if_neg q20] at h ⊢
                    simp
                    exact ⟨ls, rs, cs, rfl, by omega, by omega, by omega, fun x hx => ⟨Rat.num_nonneg.mpr (g1 x hx).1, (g1 x hx).2⟩, fun x hx => ⟨Rat.num_nonneg.mpr (g2 x hx).1, (g2 x hx).2⟩, by omega, h⟩
      · rw [if_neg (by omega)]
        rw [if_pos ql] at h
        exact h _ (ne_lit (by decide +kernel))
end K1


/-! text V3a -/
set_option Elab.async false
set_option linter.all false
set_option maxRecDepth 100000
set_option maxHeartbeats 1000000
namespace K1
open PySem PySem.Spec PyProof.Rows L2 L2H DL T
open NumText (digitsVal AllDigits)
variable {K : PySem.W.Frag} {ags : List Ag} {Qd : Rv → List (List D) → Prop} {Xq : Ex → List (List D) → Prop}
section
variable (a b c d e f : D)
@[simp ↓] theorem ix6_0 : itemD (.list [a, b, c, d, e, f]) 0 = some a := rfl
@[simp ↓] theorem in6_0 : ixN 6 0 = some 0 := rfl
@[simp ↓] theorem ix6_1 : itemD (.list [a, b, c, d, e, f]) 1 = some b := rfl
@[simp ↓] theorem in6_1 : ixN 6 1 = some 1 := rfl
@[simp ↓] theorem ix6_2 : itemD (.list [a, b, c, d, e, f]) 2 = some c := rfl
@[simp ↓] theorem in6_2 : ixN 6 2 = some 2 := rfl
@[simp ↓] theorem ix6_3 : itemD (.list [a, b, c, d, e, f]) 3 = some d := rfl
@[simp ↓] theorem in6_3 : ixN 6 3 = some 3 := rfl
@[simp ↓] theorem ix6_4 : itemD (.list [a, b, c, d, e, f]) 4 = some e := rfl
@[simp ↓] theorem in6_4 : ixN 6 4 = some 4 := rfl
@[simp ↓] theorem ix6_5 : itemD (.list [a, b, c, d, e, f]) 5 = some f := rfl
@[simp ↓] theorem in6_5 : ixN 6 5 = some 5 := rfl
end
theorem cut63 {xs : List Int} (h : xs.length ≤ 63) : DL.cutD (xs.map PyData.int) none (some 63) = xs.map .int := by
  unfold DL.cutD
  rw [HT.sIx_none, List.drop_zero, Nat.sub_zero]
  have e : HT.sIx (xs.map PyData.int).length (xs.map PyData.int).length (some 63) = min 63 (xs.map PyData.int).length := HT.sIx_nat _ _ 63
  rw [e, List.length_map, Nat.min_eq_right h]
  rw [List.take_of_length_le (by rw [List.length_map]; exact Nat.le_refl _)]
theorem smallN {a : Int} {n : Nat} (h1 : -(2 ^ n : Int) < a) (h2 : a < (2 ^ n : Int)) : a.natAbs < 2 ^ n := by
  have e : ((2 ^ n : Nat) : Int) = (2 : Int) ^ n := by simp
  omega
def I_jar (xs : List Int) (i : Nat) (δ : Ds) : Prop := ∃ (m : Int) (x : Sl), δ = [.im (.list (xs.map .int)), .im (.int m), x] ∧ 0 ≤ m ∧ m < 2147483647
theorem v_law_jar (h : sp_law_jar ags Qd Xq) : t_law_jar (endD ags Qd Xq) (startD N_law_jar ags) := by
  obtain ⟨xs, rfl, hl, h⟩ := h
  simp [t_law_jar, N_law_jar]
  rw [cut63 hl]
  refine ⟨I_jar xs, ⟨30011, .no, rfl, by omega, by omega⟩, fun i d δ hd hI => ?_, fun δ hI => ?_⟩
  · obtain ⟨m, x, rfl, m1, m2⟩ := hI
    obtain ⟨y, hy, rfl⟩ := map_get hd
    simp
    refine ⟨mulOk (m := 40) (n := 40) (smallN (by omega) (by omega)) (smallN (by omega) (by omega)) (by omega), _, .im (.int y), rfl, by omega, by omega⟩
  · obtain ⟨m, x, rfl, m1, m2⟩ := hI
    simp
    rw [cut63 hl]
    refine ⟨by rw [sizeLine_eq]; omega, h _ ⟨xs, 0, 0, 0, m, 0, rfl, hl, by omega, by omega, m1, m2, by omega, by omega⟩⟩
/-- the number that a jar without a great cell hands on -/
theorem draw_tail {m cnt many : Int} {Qf : Int → Int → Prop} (m1 : 0 ≤ m) (m2 : m < 2147483647) (c1 : 0 ≤ cnt) (c2 : cnt < 2 ^ 42) (hm : 0 < many) (h : ∀ d m', 0 ≤ d → d < many → 0 ≤ m' → m' < 2147483647 → Qf d m') :
    DL.MulOk m m ∧ DL.MulOk (m * m) 48271 ∧ DL.MulOk m 16807 ∧ DL.MulOk cnt 1000003 ∧ DivOk ((m * m * 48271 + m * 16807 + cnt * 1000003 + 7919) % 2147483647) 37 ∧ DL.MulOk ((m * m * 48271 + m * 16807 + cnt * 1000003 + 7919) % 2147483647 % 8191) 103 ∧ 0 < many ∧
      Qf (((m * m * 48271 + m * 16807 + cnt * 1000003 + 7919) % 2147483647 / 37 + (m * m * 48271 + m * 16807 + cnt * 1000003 + 7919) % 2147483647 % 8191 * 103) % many) ((m * m * 48271 + m * 16807 + cnt * 1000003 + 7919) % 2147483647) := by
  have b1 : m.natAbs < 2 ^ 40 := smallN (by omega) (by omega)
  have b2 : (m * m).natAbs < 2 ^ (40 + 40) := imul_lt2 b1 b1
  generalize m * m = mm at b2 ⊢
  generalize hM : (mm * 48271 + m * 16807 + cnt * 1000003 + 7919) % 2147483647 = M
  have M1 : 0 ≤ M := by omega
  have M2 : M < 2147483647 := by omega
  refine ⟨mulOk b1 b1 (by omega), mulOk b2 (n := 40) (by decide) (by omega), mulOk b1 (n := 40) (by decide) (by omega), mulOk (m := 42) (n := 40) (smallN (by omega) (by omega)) (by decide) (by omega), ⟨by omega, .inl ?_⟩, mulOk (m := 40) (n := 40) (smallN (by omega) (by omega)) (by decide) (by omega), hm,
    h _ _ (Int.emod_nonneg _ (by omega)) (Int.emod_lt_of_pos _ hm) M1 M2⟩
  exact lt_pow_le (show (37 : Int).natAbs < 2 ^ 6 by decide) (by omega)
theorem divS {i j : Int} (h : 0 < j) (h2 : j < 2 ^ 60) : DivOk i j := ⟨h, .inl <| lt_pow_le (smallN (n := 60) (by omega) h2) (by omega)⟩
theorem pow18 : CPow 10 18 := ⟨by decide, by decide, by decide⟩
theorem cell_at {cells : List Int} {p : Int} (h0 : 0 ≤ p) (h : p < cells.length) : ∃ x, itemD (.list (cells.map PyData.int)) p = some (.int x) := by
  obtain ⟨n, rfl⟩ := Int.eq_ofNat_of_zero_le h0
  have hn : n < cells.length := by omega
  refine ⟨cells[n], nat_ix ?_⟩
  rw [List.getElem?_map, List.getElem?_eq_getElem hn]
  rfl
theorem v_law_draw (h : sp_law_draw ags Qd Xq) : t_law_draw (endD ags Qd Xq) (startD N_law_draw ags) := by
  obtain ⟨c, jar, many, rfl, ⟨cells, p, g, left, mixed, cnt, rfl, j1, j2, j3, j4, j5, j6, j7⟩, hc, hm, hm2, h⟩ := h
  have fin : ∀ (p' g' left' m' d : Int), 0 ≤ p' → 0 ≤ g' → 0 ≤ m' → m' < 2147483647 → 0 ≤ d → d < many → Qd (Rv.im (.int d)) [[.list (cells.map .int), .int p', .int g', .int left', .int m', .int (cnt + 1)]] := fun p' g' left' m' d h1 h2 h3 h4 h5 h6 =>
    h d _ h5 h6 ⟨cells, p', g', left', m', cnt + 1, rfl, j1, h1, h2, h3, h4, by omega, by omega⟩
  have md : ∀ x : Int, 0 ≤ x % many ∧ x % many < many := fun x => ⟨Int.emod_nonneg _ (by omega), Int.emod_lt_of_pos _ hm⟩
  have dv : ∀ x : Int, 0 ≤ x → 0 ≤ x / many := fun x hx => Int.ediv_nonneg hx (by omega)
  simp [t_law_draw, N_law_draw]
  by_cases g0 : g = 0
  · subst g0
    rw [if_pos rfl]
    by_cases q : p < cells.length
    · rw [if_pos q]
      obtain ⟨x, hx⟩ := cell_at j2 q
      rw [hx]
      simp
      refine ⟨pow18, ?_⟩
      by_cases q2 : (1000000000000000000 : Int) ≤ x
      · rw [if_pos q2, if_pos (by omega)]
        exact ⟨hm, divS hm hm2, fin _ _ _ _ _ (by omega) (dv x (by omega)) j4 j5 (md x).1 (md x).2⟩
      · rw [if_neg q2]
        refine ⟨mulOk (m := 40) (n := 40) (smallN (by omega) (by omega)) (by decide) (by omega), ?_⟩
        generalize hM : (mixed * 40014 + x % 2147483629 + 97) % 2147483647 = M
        exact draw_tail (Qf := fun d m' => Qd (Rv.im (.int d)) [[.list (cells.map .int), .int (p + 1), .int 0, .int left, .int m', .int (cnt + 1)]]) (by omega) (by omega) (by omega) (by omega) hm fun d m' h1 h2 h3 h4 => fin _ _ _ _ _ (by omega) (by omega) h3 h4 h1 h2
    · rw [if_neg q]
      simp
      exact draw_tail (Qf := fun d m' => Qd (Rv.im (.int d)) [[.list (cells.map .int), .int p, .int 0, .int left, .int m', .int (cnt + 1)]]) (by omega) (by omega) (by omega) (by omega) hm fun d m' h1 h2 h3 h4 => fin _ _ _ _ _ (by omega) (by omega) h3 h4 h1 h2
  · rw [if_neg g0, if_pos (by omega)]
    refine ⟨hm, ?_⟩
    by_cases q : 1 < left
    · rw [if_pos q]
      exact ⟨divS hm hm2, fin _ _ _ _ _ j2 (dv g j3) j4 j5 (md g).1 (md g).2⟩
    · rw [if_neg q]
      exact fin _ _ _ _ _ j2 (by omega) j4 j5 (md g).1 (md g).2
end K1


/-! text V3b -/
set_option Elab.async false
set_option linter.all false
set_option maxRecDepth 100000
set_option maxHeartbeats 1000000
namespace K1
open PySem PySem.Spec PyProof.Rows L2 L2H DL T
open NumText (digitsVal AllDigits)
variable {K : PySem.W.Frag} {ags : List Ag} {Qd : Rv → List (List D) → Prop} {Xq : Ex → List (List D) → Prop}
theorem v_law_pick (h : sp_law_pick ags Qd Xq) : t_law_pick (endD ags Qd Xq) (startD N_law_pick ags) := by
  obtain ⟨c, jar, menu, rfl, hj, hc, hn, hl, h⟩ := h
  have : 0 < menu.length := by
    cases menu with
    | nil => exact absurd rfl hn
    | cons => simp
  simp [t_law_pick, N_law_pick]
  refine ⟨c, jar, _, rfl, hj, by omega, by omega, by omega, fun d jar' h1 h2 hj' => ?_⟩
  simp
  obtain ⟨k, rfl⟩ := Int.eq_ofNat_of_zero_le h1
  have hk : k < menu.length := by omega
  rw [nat_ix (List.getElem?_eq_getElem hk)]
  exact h _ (List.getElem_mem hk) jar' hj'
theorem v_law_whole (h : sp_law_whole ags Qd Xq) : t_law_whole (endD ags Qd Xq) (startD N_law_whole ags) := by
  obtain ⟨d, rfl, h⟩ := h
  simp [t_law_whole, N_law_whole]
  cases d <;> simp <;> exact h
theorem str_repr (i : Int) : Str.ofString i.repr = st (icL i) := str_int i
theorem ic_len {i : Int} {n : Nat} (h : i.natAbs < 2 ^ n) (hn : n ≤ 10000) : (icL i).length ≤ 10002 := by
  have key : ∀ n a : Nat, a < 2 ^ n → ndig a ≤ n + 1 := by
    intro n
    induction n with
    | zero =>
      intro a ha
      rw [ndig_small (by simp at ha; omega)]
      omega
    | succ n ih =>
      intro a ha
      rw [Nat.pow_succ] at ha
      by_cases q : a < 10
      · rw [ndig_small q]
        omega
      · rw [ndig_big (by omega)]
        have := ih (a / 10) (by omega)
        omega
  have h1 := key n _ h
  unfold icL
  split
  · rw [List.length_cons, dec_ndig]
    omega
  · rw [dec_ndig]
    omega
theorem ic_nat (n : Nat) : icL ((n : Nat) : Int) = decL n := by
  unfold icL
  rw [if_neg (by omega), Int.natAbs_natCast]
theorem v_law_word (h : sp_law_word ags Qd Xq) : t_law_word (endD ags Qd Xq) (startD N_law_word ags) := by
  obtain ⟨r, rfl, hs, h⟩ := h
  simp [t_law_word, N_law_word]
  have b1 := lt_pow_le hs.1 (show 1900 ≤ 1919 by omega)
  have b2 := lt_pow_le hs.2 (show 1900 ≤ 1919 by omega)
  simp only [str_repr, lit_slash, st_app, st_len, ic_nat]
  unfold wcs at h
  by_cases q : r.den = 1
  · rw [if_pos q] at h
    rw [if_pos (by omega)]
    exact ⟨b1, h⟩
  · rw [if_neg q] at h
    rw [if_neg (by omega)]
    have l1 := ic_len hs.1 (by omega)
    have l2 := ic_len (i := ((r.den : Nat) : Int)) (by rw [Int.natAbs_natCast]; exact hs.2) (by omega)
    rw [ic_nat] at l2
    refine ⟨b1, ?_, b2, ?_, ?_⟩
    · rw [sizeLine_eq]
      simp only [List.length_singleton]
      omega
    · rw [sizeLine_eq, List.length_append, List.length_singleton]
      omega
    · rw [List.append_assoc]
      exact h
theorem v_law_digits (h : sp_law_digits ags Qd Xq) : t_law_digits (endD ags Qd Xq) (startD N_law_digits ags) := by
  obtain ⟨r, rfl, hs, h⟩ := h
  simp [t_law_digits, N_law_digits]
  have b1 := lt_pow_le hs.1 (show 1900 ≤ 1919 by omega)
  have b2 := lt_pow_le hs.2 (show 1900 ≤ 1919 by omega)
  have l1 := ic_len (i := ((r.num.natAbs : Nat) : Int)) (by rw [Int.natAbs_natCast]; exact hs.1) (by omega)
  have l2 := ic_len (i := ((r.den : Nat) : Int)) (by rw [Int.natAbs_natCast]; exact hs.2) (by omega)
  simp only [str_repr, st_len, ic_nat, dec_ndig] at l1 l2 ⊢
  refine ⟨b1, by rw [sizeLine_eq]; omega, b2, by rw [sizeLine_eq]; omega, ?_⟩
  have e : (if ndig r.num.natAbs < ndig r.den then ((ndig r.den : Nat) : Int) else ((ndig r.num.natAbs : Nat) : Int)) = ((max (ndig r.num.natAbs) (ndig r.den) : Nat) : Int) := by
    split <;> omega
  rw [e]
  exact h
theorem v_law_said (h : sp_law_said ags Qd Xq) : t_law_said (endD ags Qd Xq) (startD N_law_said ags) := by
  obtain ⟨w, rfl, hw, h⟩ := h
  simp [t_law_said, N_law_said]
  have : w ≠ Str.ofString "" := by
    rw [lit_empty]
    exact hw
  simp [this]
  exact h
def I_gr (c : Nat) (n : Int) (i : Nat) (δ : Ds) : Prop := ∃ (jar : List D) (k : Int) (x : Sl), δ = [.bw jar, .im (.int n), .im (.int k), x] ∧ JarOk (c + 1 + i) jar ∧ 0 < k ∧ k.natAbs < 10 ^ (i + 1)
theorem v_law_great (h : sp_law_great ags Qd Xq) : t_law_great (endD ags Qd Xq) (startD N_law_great ags) := by
  obtain ⟨c, jar, n, rfl, hj, hc, h1, h2, h⟩ := h
  simp [t_law_great, N_law_great]
  refine ⟨c, jar, _, rfl, hj, by omega, by omega, by omega, fun d jar' d1 d2 hj' => ?_⟩
  simp
  refine ⟨⟨by omega, by omega⟩, I_gr c n, ⟨jar', _, _, rfl, hj', by omega, by omega⟩, fun i x δ hx hI => ?_, fun δ hI => ?_⟩
  · obtain ⟨jar2, k, x3, rfl, hj2, k1, k2⟩ := hI
    obtain ⟨hi, rfl⟩ := upTo_get' hx
    simp
    have kb : k.natAbs < 2 ^ 400 := Nat.lt_of_lt_of_le k2 (Nat.le_trans (ten_two _) (pow_le2 (by omega)))
    refine ⟨mulOk kb (n := 10) (by decide) (by omega), _, jar2, _, rfl, hj2, by omega, by omega, by omega, fun d2 jar3 e1 e2 hj3 => ?_⟩
    simp
    refine ⟨jar3, k * 10 + d2, _, rfl, by rw [Nat.add_assoc] at hj3; exact hj3, by omega, ?_⟩
    rw [Nat.pow_succ]
    omega
  · obtain ⟨jar2, k, x3, rfl, hj2, k1, k2⟩ := hI
    rw [DL.upTo_len] at hj2 k2
    simp
    refine h k jar2 k1 ?_ ?_
    · rw [show n.toNat - 1 + 1 = n.toNat by omega] at k2
      exact k2
    · obtain ⟨cells, p, g, left, mixed, cnt, rfl, a1, a2, a3, a4, a5, a6, a7⟩ := hj2
      exact ⟨cells, p, g, left, mixed, cnt, rfl, a1, a2, a3, a4, a5, a6, by omega⟩
@[simp ↓] theorem ixt_0 (a b : D) : itemD (.tuple [a, b]) 0 = some a := rfl
@[simp ↓] theorem ixt_1 (a b : D) : itemD (.tuple [a, b]) 1 = some b := rfl
theorem strOk_st (cs : List Nat) : PyData.strOk (st cs) = true ↔ ∀ c ∈ cs, c < 0x110000 := by
  unfold PyData.strOk T.st
  simp
theorem v_law_fraction (h : sp_law_fraction ags Qd Xq) : t_law_fraction (endD ags Qd Xq) (startD N_law_fraction ags) := by
  obtain ⟨d, rfl, hd, h⟩ := h
  cases d with
  | int i =>
    simp [t_law_fraction, N_law_fraction]
    refine ⟨_, rfl, ?_⟩
    simp [isWh, line2]
    exact h
  | str x =>
    simp [t_law_fraction, N_law_fraction]
    refine ⟨_, rfl, ?_⟩
    simp [isWh]
    rw [st_of x] at h hd ⊢
    have hd' : (st x.cps.toList).length ≤ 400 := hd.1
    rw [st_len] at hd'
    have hk : ∀ c ∈ x.cps.toList, c < 0x110000 := (strOk_st _).mp hd.2
    refine ⟨x.cps.toList, rfl, hd', hk, ?_⟩
    simp only [frac, st_list] at h
    exact h
  | tuple ds =>
    simp [t_law_fraction, N_law_fraction]
    refine ⟨_, rfl, ?_⟩
    simp [isWh]
    match ds, hd, h with
    | [], _, h => simp; exact h
    | [a], _, h =>
      simp
      have e : frac (.tuple [a]) = none := by cases a <;> rfl
      rw [e] at h
      exact h
    | a :: b :: c :: r, _, h =>
      have e : frac (.tuple (a :: b :: c :: r)) = none := by cases a <;> first | rfl | (cases b <;> rfl)
      rw [e] at h
      simp
      rw [if_neg (by omega)]
      exact h
    | [a, b], hd, h =>
      simp
      refine ⟨a, rfl, ?_⟩
      cases a with
      | int x =>
        simp [isWh]
        refine ⟨b, rfl, ?_⟩
        cases b with
        | int y =>
          simp [isWh]
          by_cases q : 1 ≤ y
          · rw [if_pos q]
            simp only [frac] at h
            rw [if_pos q] at h
            have hy : y.natAbs < 2 ^ 8000 := hd
            refine ⟨x, y, rfl, by omega, ?_, ?_, h⟩
            · exact Nat.le_trans (PySem.intBits_le_iff.mpr hy) (by omega)
            · exact .inl <| Nat.lt_of_le_of_lt (Nat.gcd_le_right _ (by omega)) (lt_pow_le hy (by omega))
          · rw [if_neg q]
            simp only [frac] at h
            rw [if_neg q] at h
            exact h
        | _ => simp [isWh]; exact h
      | _ => simp [isWh]; exact h
  | none =>
    simp [t_law_fraction, N_law_fraction]
    refine ⟨_, rfl, ?_⟩
    simp [isWh]
    exact h
  | bool b =>
    simp [t_law_fraction, N_law_fraction]
    refine ⟨_, rfl, ?_⟩
    simp [isWh]
    exact h
  | list ds =>
    simp [t_law_fraction, N_law_fraction]
    refine ⟨_, rfl, ?_⟩
    simp [isWh]
    exact h
  | dict kvs =>
    simp [t_law_fraction, N_law_fraction]
    refine ⟨_, rfl, ?_⟩
    simp [isWh]
    exact h
theorem like_upTo (n : Nat) : DL.upTo 0 1 n = (List.range n).map fun k => .int ((k : Nat) : Int) := by
  unfold DL.upTo
  refine List.map_congr_left fun k _ => ?_
  congr 1
  omega
theorem like_seq {n : Nat} {ds : List D} {d : D} (hi : ∀ k : Nat, k < ds.length → itemD d (k : Nat) = ds[k]?) (hl : ds.length < 1000) (hd : ∀ x ∈ ds, LikeOk n x) {Q : Rv → Ds → Prop} (hq : ∀ δ, Q (.ow []) δ) :
    LcOk (DL.upTo 0 1 ds.length) [2] (gN 2) (dNot (dB (dFz (dCall (sp_law_like n) (mCons (dIx (dV 0) (dV 2)) (mCons (dIx (dV 1) (dV 2)) mNil)))))) (dV 2) Q [Sl.im d, Sl.im d, Sl.no] := by
  rw [like_upTo]
  refine lc_pure (p := fun _ => false) (e := fun _ => .none) (fun k hk K1 K2 h1 h2 => ?_) ?_
  · have hk' : k < ds.length := List.mem_range.mp hk
    simp [hi k hk', List.getElem?_eq_getElem hk']
    refine ⟨ds[k], rfl, hd _ (List.getElem_mem hk'), ?_⟩
    simp
    exact h2 rfl _ (by simp)
  · have : (List.range ds.length).filter (fun _ => false) = [] := List.filter_eq_nil_iff.mpr (by simp)
    rw [this]
    exact hq _
theorem ix_tup {ds : List D} {k : Nat} (h : k < ds.length) : itemD (.tuple ds) (k : Nat) = ds[k]? := by
  have := nat_ix (l := ds) (i := k) (x := ds[k]) (List.getElem?_eq_getElem h)
  rw [List.getElem?_eq_getElem h]
  exact this
theorem ix_lst {ds : List D} {k : Nat} (h : k < ds.length) : itemD (.list ds) (k : Nat) = ds[k]? := by
  have := nat_ix (l := ds) (i := k) (x := ds[k]) (List.getElem?_eq_getElem h)
  rw [List.getElem?_eq_getElem h]
  exact this
theorem v_law_like (n : Nat) (h : sp_law_like (n + 1) ags Qd Xq) : t_law_like n (endD ags Qd Xq) (startD N_law_like ags) := by
  obtain ⟨d, rfl, hd, h⟩ := h
  have e0 : cmpOk (.list []) (.list []) := cmp_nil (n := 0) (ds := []) (fun d hd => (nomatch hd)) (by omega)
  cases d with
  | tuple ds =>
    obtain ⟨hl, hd⟩ := hd
    simp [t_law_like, N_law_like]
    refine ⟨⟨by omega, by omega⟩, by rw [DL.upTo_len, sizeLine_eq]; omega, like_seq (fun k hk => ix_tup hk) hl hd fun δ => ?_⟩
    simp [eqD_nil]
    exact ⟨e0, h⟩
  | list ds =>
    obtain ⟨hl, hd⟩ := hd
    simp [t_law_like, N_law_like]
    refine ⟨⟨by omega, by omega⟩, by rw [DL.upTo_len, sizeLine_eq]; omega, like_seq (fun k hk => ix_lst hk) hl hd fun δ => ?_⟩
    simp [eqD_nil]
    exact ⟨e0, h⟩
  | int i =>
    simp [t_law_like, N_law_like]
    refine ⟨_, rfl, ?_⟩
    simp [isWh]
    exact h
  | str x => simp [t_law_like, N_law_like]; exact h
  | bool b => simp [t_law_like, N_law_like]; exact h
  | none => simp [t_law_like, N_law_like]; exact h
  | dict kvs => exact hd.elim
end K1


/-! text V3c -/
set_option Elab.async false
set_option linter.all false
set_option maxRecDepth 100000
set_option maxHeartbeats 1000000
namespace K1
open PySem PySem.Spec PyProof.Rows L2 L2H DL T
open NumText (digitsVal AllDigits)
variable {K : PySem.W.Frag} {ags : List Ag} {Qd : Rv → List (List D) → Prop} {Xq : Ex → List (List D) → Prop}
theorem jar_mono {a b : Nat} {ds : List D} (h : JarOk a ds) (hab : a ≤ b) : JarOk b ds := by
  obtain ⟨cells, p, g, left, mixed, cnt, rfl, a1, a2, a3, a4, a5, a6, a7⟩ := h
  exact ⟨cells, p, g, left, mixed, cnt, rfl, a1, a2, a3, a4, a5, a6, by omega⟩
theorem sz_up {r : Qn} {v : Int} (hs : Sz 204 r) (h1 : 1 ≤ v) (h2 : v ≤ 5) : It (.tuple [.int (r.num * v), .int ((r.den : Int) * v)]) := by
  obtain ⟨a, b⟩ := hs
  have e : (2 : Nat) ^ 208 = 2 ^ 204 * 16 := by decide
  have vb : v.natAbs ≤ 5 := by omega
  refine ⟨?_, ?_⟩
  · rw [Int.natAbs_mul, e]
    exact Nat.mul_lt_mul'' a (by omega)
  · rw [Int.natAbs_mul, Int.natAbs_natCast, e]
    exact Nat.mul_lt_mul'' b (by omega)
theorem frac_up {r : Qn} {v : Int} (h1 : 1 ≤ v) : frac (.tuple [.int (r.num * v), .int ((r.den : Int) * v)]) = some r := by
  obtain ⟨m, rfl⟩ := Int.eq_ofNat_of_zero_le (show 0 ≤ v by omega)
  have hd := den_pos r
  have hm : 1 ≤ m := by omega
  have p : 1 ≤ r.den * m := Nat.mul_pos hd hm
  show (if 1 ≤ ((r.den : Int) * (m : Int)) then some (mkRat (r.num * m) ((r.den : Int) * (m : Int)).toNat) else none) = some r
  rw [show ((r.den : Int) * (m : Int)) = ((r.den * m : Nat) : Int) by rw [Int.natCast_mul], if_pos (by omega), Int.toNat_natCast, Rat.mkRat_mul_right (by omega), Rat.mkRat_self]
theorem frac_w (r : Qn) : frac (.str (st (wcs r))) = some r := by
  simp only [frac, st_list]
  exact ratio_w r
theorem it_w {r : Qn} (h : (wcs r).length ≤ 130) (hs : Sz 204 r) : It (.str (st (wcs r))) := by
  refine ⟨by rw [st_len]; exact h, (strOk_st _).mpr fun c hc => ?_, fun q hq => by
    rw [st_list, ratio_w] at hq
    rw [← Option.some.inj hq]
    exact ⟨lt_pow_le hs.1 (by omega), lt_pow_le hs.2 (by omega)⟩⟩
  have hd : ∀ n, ∀ c ∈ decL n, c < 0x110000 := fun n c hc => Nat.lt_of_le_of_lt (dec_all n c hc).2 (by omega)
  have hi : ∀ c ∈ icL r.num, c < 0x110000 := fun c hc => by
    unfold icL at hc
    split at hc
    · rcases List.mem_cons.mp hc with rfl | hc
      · omega
      · exact hd _ c hc
    · exact hd _ c hc
  unfold wcs at hc
  split at hc
  · exact hi c hc
  · rcases List.mem_append.mp hc with hc | hc
    · exact hi c hc
    · rcases List.mem_cons.mp hc with rfl | hc
      · omega
      · exact hd _ c hc
theorem frac_1 {r : Qn} (h : r.den = 1) : frac (.int r.num) = some r := by
  show some ((r.num : Int) : Qn) = some r
  congr 1
  exact Rat.ext (den_int r.num).2 (by rw [h]; exact (den_int r.num).1)
theorem v_law_way (h : sp_law_way ags Qd Xq) : t_law_way (endD ags Qd Xq) (startD N_law_way ags) := by
  obtain ⟨c, jar, r, rfl, hj, hc, hs, hw, h⟩ := h
  have b1 : r.num.natAbs < 2 ^ 400 := lt_pow_le hs.1 (by omega)
  have b2 : ((r.den : Nat) : Int).natAbs < 2 ^ 400 := by rw [Int.natAbs_natCast]; exact lt_pow_le hs.2 (by omega)
  have fin : ∀ (v : Int) jar', 1 ≤ v → v ≤ 5 → JarOk (c + 2) jar' → Qd (.im (.tuple [.int (r.num * v), .int ((r.den : Int) * v)])) [jar'] := fun v jar' v1 v2 hj' => h _ _ (sz_up hs v1 v2) (frac_up v1) hj'
  simp [t_law_way, N_law_way]
  refine ⟨c, jar, _, rfl, hj, by omega, by omega, by omega, fun d jar' d1 d2 hj' => ?_⟩
  have hj2 := jar_mono hj' (show c + 1 ≤ c + 2 by omega)
  simp
  have m1 : ∀ v : Int, 1 ≤ v → v ≤ 5 → DL.MulOk r.num v ∧ DL.MulOk ((r.den : Nat) : Int) v := fun v v1 v2 =>
    ⟨mulOk b1 (n := 10) (smallN (by omega) (by omega)) (by omega), mulOk b2 (n := 10) (smallN (by omega) (by omega)) (by omega)⟩
  have tail : ((endD [Ag.mt jar, Ag.im (dr r)] Qd Xq).rt = (endD [Ag.mt jar, Ag.im (dr r)] Qd Xq).rt) → (if d = 3 then
        sp_law_word [Ag.im (dr r)]
          (Kr (endD [Ag.mt jar, Ag.im (dr r)] Qd Xq).rt [Sl.bw jar', Sl.im (dr r), Sl.im (PyData.int d), Sl.no] [])
          (Kx (endD [Ag.mt jar, Ag.im (dr r)] Qd Xq).ex [Sl.bw jar', Sl.im (dr r), Sl.im (PyData.int d), Sl.no] [])
      else True) := fun _ => by
    by_cases q : d = 3
    · rw [if_pos q]
      refine ⟨r, rfl, ⟨lt_pow_le hs.1 (by omega), lt_pow_le hs.2 (by omega)⟩, ?_⟩
      simp
      exact h _ _ (it_w hw hs) (frac_w r) hj2
    · rw [if_neg q]
      trivial
  have word : d = 3 → sp_law_word [Ag.im (dr r)]
          (Kr (endD [Ag.mt jar, Ag.im (dr r)] Qd Xq).rt [Sl.bw jar', Sl.im (dr r), Sl.im (PyData.int d), Sl.no] [])
          (Kx (endD [Ag.mt jar, Ag.im (dr r)] Qd Xq).ex [Sl.bw jar', Sl.im (dr r), Sl.im (PyData.int d), Sl.no] []) := fun q => by
    have := tail rfl
    rwa [if_pos q] at this
  by_cases h1 : (r.den : Int) = 1
  · rw [if_pos h1]
    by_cases q3 : d < 3
    · rw [if_pos q3]
      have hd : r.den = 1 := by omega
      exact h _ _ (Nat.lt_of_lt_of_le hs.1 (pow_le2 (by omega))) (frac_1 hd) hj2
    · rw [if_neg q3]
      by_cases q : d = 3
      · rw [if_pos q]
        exact word q
      · rw [if_neg q]
        by_cases q4 : d = 4
        · rw [if_pos q4]
          refine ⟨c + 1, jar', _, rfl, hj', by omega, by omega, by omega, fun e jar2 e1 e2 hj3 => ?_⟩
          simp
          have := m1 (1 + e) (by omega) (by omega)
          exact ⟨this.1, this.2, by rw [sizeLine_eq]; omega, fin _ _ (by omega) (by omega) hj3⟩
        · rw [if_neg q4]
          have := m1 1 (by omega) (by omega)
          have f := fin 1 jar' (by omega) (by omega) hj2
          rw [Int.mul_one, Int.mul_one] at f
          exact ⟨this.1, this.2, by rw [sizeLine_eq]; omega, f⟩
  · rw [if_neg h1]
    by_cases q : d = 3
    · rw [if_pos q]
      exact word q
    · rw [if_neg q]
      by_cases q4 : d = 4
      · rw [if_pos q4]
        refine ⟨c + 1, jar', _, rfl, hj', by omega, by omega, by omega, fun e jar2 e1 e2 hj3 => ?_⟩
        simp
        have := m1 (1 + e) (by omega) (by omega)
        exact ⟨this.1, this.2, by rw [sizeLine_eq]; omega, fin _ _ (by omega) (by omega) hj3⟩
      · rw [if_neg q4]
        have := m1 1 (by omega) (by omega)
        have f := fin 1 jar' (by omega) (by omega) hj2
        rw [Int.mul_one, Int.mul_one] at f
        exact ⟨this.1, this.2, by rw [sizeLine_eq]; omega, f⟩
end K1


/-! text V3d -/
set_option Elab.async false
set_option linter.all false
set_option maxRecDepth 100000
set_option maxHeartbeats 1000000
namespace K1
open PySem PySem.Spec PyProof.Rows L2 L2H DL T
open NumText (digitsVal AllDigits)
variable {K : PySem.W.Frag} {ags : List Ag} {Qd : Rv → List (List D) → Prop} {Xq : Ex → List (List D) → Prop}
theorem v_law_ways (h : sp_law_ways ags Qd Xq) : t_law_ways (endD ags Qd Xq) (startD N_law_ways ags) := by
  obtain ⟨c, jar, rs, rfl, hj, hc, hl, hs, h⟩ := h
  simp [t_law_ways, N_law_ways]
  refine ⟨by rw [sizeLine_eq]; omega, fun i acc δ => ∃ jar', δ = [.bw jar', .im (.list (rs.map dr)), .no, .no] ∧ JarOk (c + 2 * i) jar' ∧ acc.length = i ∧ ∀ w ∈ acc, It w ∧ ∃ r ∈ rs, frac w = some r, ⟨jar, rfl, hj, rfl, by simp⟩, fun i d acc δ2 hd hI => ?_, fun acc δ2 hI => ?_⟩
  · obtain ⟨jar', rfl, hj', hal, hac⟩ := hI
    obtain ⟨r, hr, rfl⟩ := map_get hd
    have hi := (List.getElem?_eq_some_iff.mp hr).1
    have hm := List.mem_of_getElem? hr
    simp
    refine ⟨_, jar', r, rfl, hj', by omega, (hs r hm).1, (hs r hm).2, fun d jar2 e1 e2 hj2 => ?_⟩
    simp
    refine ⟨by rw [Nat.mul_add]; exact hj2, hal, fun w hw => ?_⟩
    rcases hw with hw | rfl
    · exact hac w hw
    · exact ⟨e1, r, hm, e2⟩
  · obtain ⟨jar', rfl, hj', hal, hac⟩ := hI
    rw [List.length_map] at hj' hal
    simp
    refine ⟨_, jar', _, rfl, hj', by omega, by omega, by omega, fun d jar2 e1 e2 hj2 => ?_⟩
    have hj3 := jar_mono hj2 (show c + 2 * rs.length + 1 ≤ c + 100 by omega)
    simp
    by_cases q : d = 0
    · rw [if_pos q]
      exact h acc _ jar2 hal hac (.inl rfl) hj3
    · rw [if_neg q]
      exact h acc _ jar2 hal hac (.inr rfl) hj3
theorem tk1 (cs : List Nat) : (cs.take 1 = [45]) ↔ cs.head? = some 45 := by
  cases cs with
  | nil => simp
  | cons c r => simp
theorem cut1 (cs : List Nat) : cutS (st cs) none (some 1) = st (cs.take 1) := cut_to cs 1
theorem cutb (cs : List Nat) : cutS (st cs) (some (if cutS (st cs) none (some 1) = Str.ofString "-" then 1 else 0)) none = st (if cs.head? = some 45 then cs.drop 1 else cs) := by
  by_cases h : cs.head? = some 45
  · rw [if_pos h, if_pos (by rw [cut1, lit_minus, st_inj, tk1]; exact h)]
    exact cut_from' cs 1
  · rw [if_neg h, if_neg (by rw [cut1, lit_minus, st_inj, tk1]; exact h)]
    exact cut_from' cs 0
def gp (p : List Nat) : Bool := !p.isEmpty && p.all (fun c => decide (48 ≤ c) && decide (c ≤ 57))
theorem gp_dig {p : List Nat} (h : gp p = true) : p ≠ [] ∧ AllDigits p := by
  unfold gp at h
  obtain ⟨h1, h2⟩ := Bool.and_eq_true_iff.mp h
  refine ⟨fun q => (by rw [q] at h1; cases h1), fun c hc => ?_⟩
  have := List.all_eq_true.mp h2 c hc
  simpa using this
theorem spl_len {c : Nat} : ∀ (cs : List Nat), ∀ p ∈ spl c cs, p.length ≤ cs.length
  | [], p, h => by
    simp [spl] at h
    simp [h]
  | d :: cs, p, h => by
    rw [spl] at h
    split at h
    · rcases List.mem_cons.mp h with rfl | h
      · simp
      · have := spl_len cs p h
        simp
        omega
    · split at h
      · rename_i q qs e
        have hq := spl_len cs q (by rw [e]; exact List.mem_cons_self)
        rcases List.mem_cons.mp h with rfl | h
        · simp
          omega
        · have := spl_len cs p (by rw [e]; exact List.mem_cons_of_mem _ h)
          simp
          omega
      · rename_i e
        simp at h
        simp [h]
@[simp ↓] theorem ixl1_0 (a : D) : itemD (.list [a]) 0 = some a := rfl
@[simp ↓] theorem ixl2_0 (a b : D) : itemD (.list [a, b]) 0 = some a := rfl
@[simp ↓] theorem ixl2_1 (a b : D) : itemD (.list [a, b]) 1 = some b := rfl
theorem spl_mem {c : Nat} : ∀ (cs : List Nat), ∀ p ∈ spl c cs, ∀ x ∈ p, x ∈ cs
  | [], p, h, x, hx => by
    simp [spl] at h
    simp [h] at hx
  | d :: cs, p, h, x, hx => by
    rw [spl] at h
    split at h
    · rcases List.mem_cons.mp h with rfl | h
      · simp at hx
      · exact List.mem_cons_of_mem _ (spl_mem cs p h x hx)
    · split at h
      · rename_i q qs e
        rcases List.mem_cons.mp h with rfl | h
        · rcases List.mem_cons.mp hx with rfl | hx
          · exact List.mem_cons_self
          · exact List.mem_cons_of_mem _ (spl_mem cs q (by rw [e]; exact List.mem_cons_self) x hx)
        · exact List.mem_cons_of_mem _ (spl_mem cs p (by rw [e]; exact List.mem_cons_of_mem _ h) x hx)
      · rename_i e
        simp at h
        rw [h] at hx
        simp at hx
        rw [hx]
        exact List.mem_cons_self
theorem spl_ne {c : Nat} (cs : List Nat) : spl c cs ≠ [] := by
  cases cs with
  | nil => simp [spl]
  | cons d cs =>
    rw [spl]
    split
    · simp
    · split <;> simp
theorem int_st {a : List Nat} (h : a ≠ [] ∧ AllDigits a) (hl : a.length ≤ 400) : PySem.intText? (st a) = some ((digitsVal a : Nat) : Int) := by
  have := PySem.intText_digits (x := st a) (by rw [st_list]; exact h.2) (by rw [st_list]; exact h.1) (by rw [st_len]; omega)
  rw [st_list] at this
  exact this
theorem one8999 : 1 < 2 ^ 8999 := Nat.one_lt_two_pow (by omega)
theorem dv_two {a : List Nat} (h : AllDigits a) (hl : a.length ≤ 400) : digitsVal a < 2 ^ 1600 := by
  refine Nat.lt_of_lt_of_le (dv_lt h) (Nat.le_trans (ten_two _) (pow_le2 ?_))
  omega
theorem mk_sz {a : List Nat} (h : a ≠ [] ∧ AllDigits a) (hl : a.length ≤ 400) {b : Nat} (hb : b ≠ 0) (hb2 : b < 2 ^ 1600) : Sz 1600 (mkRat ((digitsVal a : Nat) : Int) b) := by
  have ha := dv_two h.2 hl
  refine ⟨?_, ?_⟩
  · rw [Rat.num_mkRat, if_neg hb]
    refine Nat.lt_of_le_of_lt (Int.natAbs_ediv_le_natAbs _ _) ?_
    rw [Int.natAbs_natCast]
    exact ha
  · rw [Rat.den_mkRat, if_neg hb]
    exact Nat.lt_of_le_of_lt (Nat.div_le_self _ _) hb2
theorem pln_str1 {c : Nat} (h : c < 0x110000) : Pln 0 (.str (st [c])) := by
  refine ⟨rfl, ?_, ?_⟩
  · simp only [PyData.canLay0]
    exact (strOk_st _).mpr fun x hx => by rw [List.mem_singleton.mp hx]; exact h
  · simp [PyData.depth]
theorem v_law_read (h : sp_law_read ags Qd Xq) : t_law_read (endD ags Qd Xq) (startD N_law_read ags) := by
  obtain ⟨cs, rfl, hl, hk, h⟩ := h
  simp [t_law_read, N_law_read]
  simp only [cutb, lit_slash, split_st]
  rw [← law_ratio] at h
  unfold lawC lawU at h
  generalize hb : (if cs.head? = some 45 then cs.drop 1 else cs) = body at h ⊢
  have bl : body.length ≤ 400 := by
    rw [← hb]
    split
    · rw [List.length_drop]; omega
    · exact hl
  have hsl := spl_len (c := 47) body
  have hkb : ∀ c ∈ body, c < 0x110000 := by
    rw [← hb]
    split
    · exact fun c hc => hk c (List.mem_of_mem_drop hc)
    · exact hk
  generalize hps : spl 47 body = ps at h hsl ⊢
  simp only [show (fun p : List Nat => !p.isEmpty && p.all (fun c => decide (48 ≤ c) && decide (c ≤ 57))) = gp from rfl] at h
  refine ⟨by rw [st_len, sizeLine_eq]; omega, by rw [st_len]; decide, by rw [st_len, sizeLine_eq]; omega, fun i δ => (∃ x1 x2 x3 : Sl, δ = [.im (.str (st cs)), .im (.list ((ps.map st).map .str)), x1, x2, x3]) ∧ ∀ p ∈ ps.take i, gp p = true, ⟨⟨_, _, _, rfl⟩, by simp⟩, fun i d δ hd hI => ?_, fun δ hI => ?_⟩
  · obtain ⟨⟨x1, x2, x3, rfl⟩, hI⟩ := hI
    rw [List.map_map] at hd
    obtain ⟨p, hp, rfl⟩ := map_get hd
    have bad : gp p = false → Qd (.im .none) [] := fun q => by
      have : ps.all gp = false := List.all_eq_false.mpr ⟨p, List.mem_of_getElem? hp, by rw [q]; simp⟩
      rw [if_pos this] at h
      exact h
    have hkp : ∀ c ∈ p, c < 0x110000 := fun c hc => hkb c (spl_mem body p (by rw [hps]; exact List.mem_of_getElem? hp) c hc)
    simp [lit_empty, st_inj]
    by_cases q0 : p = []
    · rw [if_pos q0]
      exact bad (by rw [q0]; rfl)
    · rw [if_neg q0, signs_st]
      have pl := hsl p (List.mem_of_getElem? hp)
      refine ⟨by rw [List.length_map, sizeLine_eq]; omega, lc_pure (p := fun c => !(decide (48 ≤ c) && decide (c ≤ 57))) (e := fun c => .str (st [c])) (fun c hc K1 K2 h1 h2 => ?_) ?_⟩
      · simp [lit_digits, dig_or, occ_one2]
        simp at h1 h2
        by_cases q : 48 ≤ c ∧ c ≤ 57
        · rw [if_neg (by omega)]
          exact h2 q.1 q.2 _ (by simp)
        · rw [if_pos (by omega)]
          exact h1 (by omega) _ (by simp)
      · simp [eqD_nil]
        refine ⟨cmp_nil (n := 0) (fun d hd => ?_) (by omega), ?_⟩
        · obtain ⟨c, hc, rfl⟩ := List.mem_map.mp hd
          exact pln_str1 (hkp c ((List.mem_filter.mp hc).1))
        · by_cases q : ∀ a ∈ p, 48 ≤ a ∧ a ≤ 57
          · rw [if_pos q]
            intro y hy
            rcases mem_take_more hp hy with hy | e
            · exact hI y hy
            · rw [e]
              unfold gp
              have e1 : p.isEmpty = false := by
                cases p with
                | nil => exact absurd rfl q0
                | cons => rfl
              rw [e1, List.all_eq_true.mpr (fun c hc => by have := q c hc; simp [this.1, this.2])]
              rfl
          · rw [if_neg q]
            refine bad ?_
            cases e : gp p with
            | false => rfl
            | true => exact absurd (gp_dig e).2 q
  · obtain ⟨⟨x1, x2, x3, rfl⟩, hI⟩ := hI
    rw [List.length_map, List.length_map, List.take_length] at hI
    have hall : ps.all gp = true := List.all_eq_true.mpr hI
    rw [if_neg (by rw [hall]; simp)] at h
    match ps, hI, hsl, h with
    | [], _, _, _ => exact absurd hps (spl_ne _)
    | [a], hI, hsl, h =>
      have ga := gp_dig (hI a List.mem_cons_self)
      have la := hsl a List.mem_cons_self
      simp
      refine ⟨((digitsVal a : Nat) : Int), int_st ga (by omega), by rw [st_len]; omega, _, _, rfl, by omega, by decide, ?_, ?_⟩
      · rw [show Int.gcd ((digitsVal a : Nat) : Int) 1 = 1 by simp]
        exact .inl one8999
      · simp at h
        have b1 := mk_sz ga (by omega : a.length ≤ 400) (b := 1) (by omega) (by decide)
        rw [show (1 : Int).toNat = 1 from rfl]
        generalize mkRat ((digitsVal a : Nat) : Int) 1 = u at h b1 ⊢
        simp
        simp only [cut1, lit_minus, st_inj, tk1]
        have hlz : (st cs).length ≤ sizeLine := by rw [st_len, sizeLine_eq]; omega
        refine ⟨hlz, ?_⟩
        have fin : ∀ v : Qn, v = (if cs.head? = some 45 then -u else u) → (if wcs v = cs then Qd (.im (dr v)) [] else Qd (.im .none) []) := fun v hv => by
          rw [← hv] at h
          by_cases e : wcs v = cs
          · rw [if_pos e] at h ⊢
            exact h
          · rw [if_neg e] at h ⊢
            exact h
        by_cases qn : cs.head? = some 45
        · rw [if_pos qn]
          have f := fin (-u) (by rw [if_pos qn])
          refine ⟨by rw [sizeLine_eq]; omega, -u, ?_, ?_, ?_⟩
          · show _ = [Ag.im (PyData.tuple [.int (-u).num, .int ((-u).den : Nat)])]
            rw [Rat.neg_num, Rat.neg_den]
          · refine ⟨?_, ?_⟩
            · rw [Rat.neg_num, Int.natAbs_neg]
              exact lt_pow_le b1.1 (by omega)
            · rw [Rat.neg_den]
              exact lt_pow_le b1.2 (by omega)
          · simp
            rw [show (dr (-u)) = PyData.tuple [.int (-u.num), .int (u.den : Nat)] by unfold dr; rw [Rat.neg_num, Rat.neg_den]] at f
            simpa only [st_inj] using f
        · rw [if_neg qn]
          have f := fin u (by rw [if_neg qn])
          refine ⟨u, rfl, ⟨lt_pow_le b1.1 (by omega), lt_pow_le b1.2 (by omega)⟩, ?_⟩
          simp
          first
            | (simpa only [st_inj] using f)
            | (rw [show (dr (-u)) = PyData.tuple [.int (-u.num), .int (u.den : Nat)] by unfold dr; rw [Rat.neg_num, Rat.neg_den]] at f; simpa only [st_inj] using f)
    | [a, b], hI, hsl, h =>
      have ga := gp_dig (hI a List.mem_cons_self)
      have la := hsl a List.mem_cons_self
      have gb := gp_dig (hI b (by simp))
      have lb := hsl b (by simp)
      simp
      refine ⟨((digitsVal b : Nat) : Int), int_st gb (by omega), by rw [st_len]; omega, ?_⟩
      by_cases q : digitsVal b = 0
      · rw [if_pos (by omega)]
        rw [if_pos (.inr ⟨rfl, q⟩)] at h
        exact h
      · rw [if_neg (by omega)]
        rw [if_neg (fun z => z.elim (fun z => absurd (show 2 < 2 from z) (by omega)) (fun z => q z.2))] at h
        have b2 := dv_two gb.2 (by omega : b.length ≤ 400)
        refine ⟨((digitsVal a : Nat) : Int), int_st ga (by omega), by rw [st_len]; omega, ((digitsVal b : Nat) : Int), int_st gb (by omega), by rw [st_len]; omega, _, _, rfl, by omega, ?_, ?_, ?_⟩
        · have hy : ((digitsVal b : Nat) : Int).natAbs < 2 ^ 1600 := by rw [Int.natAbs_natCast]; exact b2
          exact Nat.le_trans (PySem.intBits_le_iff.mpr hy) (by omega)
        · exact .inl <| Nat.lt_of_le_of_lt (Nat.gcd_le_right _ (by omega)) (lt_pow_le (by rw [Int.natAbs_natCast]; exact b2) (by omega))
        · rw [Int.toNat_natCast]
          have b1 := mk_sz ga (by omega : a.length ≤ 400) q b2
          simp at h
          generalize mkRat ((digitsVal a : Nat) : Int) (digitsVal b) = u at h b1 ⊢
          simp
          simp only [cut1, lit_minus, st_inj, tk1]
          have hlz : (st cs).length ≤ sizeLine := by rw [st_len, sizeLine_eq]; omega
          refine ⟨hlz, ?_⟩
          have fin : ∀ v : Qn, v = (if cs.head? = some 45 then -u else u) → (if wcs v = cs then Qd (.im (dr v)) [] else Qd (.im .none) []) := fun v hv => by
            rw [← hv] at h
            by_cases e : wcs v = cs
            · rw [if_pos e] at h ⊢
              exact h
            · rw [if_neg e] at h ⊢
              exact h
          by_cases qn : cs.head? = some 45
          · rw [if_pos qn]
            have f := fin (-u) (by rw [if_pos qn])
            refine ⟨by rw [sizeLine_eq]; omega, -u, ?_, ?_, ?_⟩
            · show _ = [Ag.im (PyData.tuple [.int (-u).num, .int ((-u).den : Nat)])]
              rw [Rat.neg_num, Rat.neg_den]
            · refine ⟨?_, ?_⟩
              · rw [Rat.neg_num, Int.natAbs_neg]
                exact lt_pow_le b1.1 (by omega)
              · rw [Rat.neg_den]
                exact lt_pow_le b1.2 (by omega)
            · simp
              rw [show (dr (-u)) = PyData.tuple [.int (-u.num), .int (u.den : Nat)] by unfold dr; rw [Rat.neg_num, Rat.neg_den]] at f
              simpa only [st_inj] using f
          · rw [if_neg qn]
            have f := fin u (by rw [if_neg qn])
            refine ⟨u, rfl, ⟨lt_pow_le b1.1 (by omega), lt_pow_le b1.2 (by omega)⟩, ?_⟩
            simp
            first
              | (simpa only [st_inj] using f)
              | (rw [show (dr (-u)) = PyData.tuple [.int (-u.num), .int (u.den : Nat)] by unfold dr; rw [Rat.neg_num, Rat.neg_den]] at f; simpa only [st_inj] using f)
    | a :: b :: c :: r, hI, hsl, h =>
      simp at h
      simp
      rw [if_pos (by omega)]
      exact h
end K1


/-! text V3e -/
set_option Elab.async false
set_option linter.all false
set_option maxRecDepth 100000
set_option maxHeartbeats 1000000
namespace K1
open PySem PySem.Spec PyProof.Rows L2 L2H DL T
open NumText (digitsVal AllDigits)
variable {K : PySem.W.Frag} {ags : List Ag} {Qd : Rv → List (List D) → Prop} {Xq : Ex → List (List D) → Prop}
/-- a row of draws -/
theorem draws_lc {c n : Nat} {jar : List D} {m : Int} {v : Nat} {vs : List Nat} {rest : List Sl} {Q : Rv → Ds → Prop} (hj : JarOk c jar) (hc : c + n < 2 ^ 39) (hm : 0 < m) (hm2 : m < 2 ^ 60)
    (hw : ∀ jar d, wipeD (List.set (Sl.bw jar :: rest) v (.im d)) vs = Sl.bw jar :: rest) (hw2 : ∀ jar, wipeD (Sl.bw jar :: rest) vs = Sl.bw jar :: rest) (hv : v ≠ 0)
    (hq : ∀ (ks : List Int) jar', ks.length = n → (∀ k ∈ ks, 0 ≤ k ∧ k < m) → JarOk (c + n) jar' → Q (.ow (ks.map .int)) (unwipeD (Sl.bw jar :: rest) (Sl.bw jar' :: rest) vs)) :
    LcOk (DL.upTo 0 1 n) vs (gN v) bYes (dFz (dCall sp_law_draw (mMut 0 (mCons (dC (.int m)) mNil)))) Q (Sl.bw jar :: rest) := by
  refine ⟨fun i acc δ => ∃ (jar' : List D) (ks : List Int), δ = Sl.bw jar' :: rest ∧ acc = ks.map .int ∧ ks.length = i ∧ (∀ k ∈ ks, 0 ≤ k ∧ k < m) ∧ JarOk (c + i) jar' ∧ i ≤ n, ⟨jar, [], hw2 _, rfl, rfl, by simp, hj, by omega⟩, fun i d acc δ2 hd hI => ?_, fun acc δ2 hI => ?_⟩
  · obtain ⟨jar', ks, rfl, rfl, hk, hb, hj', hi⟩ := hI
    obtain ⟨hi', rfl⟩ := upTo_get' hd
    obtain ⟨v, rfl⟩ : ∃ u, v = u + 1 := ⟨v - 1, by omega⟩
    simp
    refine ⟨_, jar', _, rfl, hj', by omega, hm, hm2, fun d jar2 d1 d2 hj2 => ?_⟩
    simp
    refine ⟨jar2, ?_, ks ++ [d], by simp, by simp [hk], fun k hk2 => ?_, hj2, by omega⟩
    · have := hw jar2 (.int (i : Nat))
      simpa using this
    · rcases List.mem_append.mp hk2 with z | z
      · exact hb k z
      · rw [List.mem_singleton.mp z]
        exact ⟨d1, d2⟩
  · obtain ⟨jar', ks, rfl, rfl, hk, hb, hj', hi⟩ := hI
    rw [DL.upTo_len] at hk hj'
    exact hq ks jar' hk hb hj'
theorem ixN_nat {n k : Nat} (h : k < n) : ixN n (k : Int) = some k := by
  unfold ixN
  simp
  omega
theorem sum_le {B : Int} : ∀ {ms : List Int}, (∀ x ∈ ms, 0 ≤ x ∧ x ≤ B) → 0 ≤ ms.sum ∧ ms.sum ≤ B * ms.length
  | [], _ => by simp
  | x :: r, h => by
    have h1 := h x List.mem_cons_self
    have h2 := sum_le (ms := r) fun y hy => h y (List.mem_cons_of_mem _ hy)
    rw [List.sum_cons, List.length_cons, Int.natCast_add, Int.mul_add]
    omega
theorem le_sumI {B : Int} : ∀ {ms : List Int}, (∀ x ∈ ms, 0 ≤ x ∧ x ≤ B) → ∀ {y : Int}, y ∈ ms → y ≤ ms.sum
  | [], _, y, hy => by cases hy
  | x :: r, h, y, hy => by
    have h1 := h x List.mem_cons_self
    have h2 := sum_le (ms := r) fun y hy => h y (List.mem_cons_of_mem _ hy)
    rw [List.sum_cons]
    rcases List.mem_cons.mp hy with rfl | hy
    · omega
    · have := le_sumI (ms := r) (fun y hy => h y (List.mem_cons_of_mem _ hy)) hy
      omega
theorem sum_bd {B y : Int} {ms : List Int} (h : ∀ x ∈ ms, 0 ≤ x ∧ x ≤ B) (hy : y ∈ ms) : y ≤ ms.sum ∧ 0 ≤ ms.sum ∧ ms.sum ≤ B * ms.length := ⟨le_sumI h hy, sum_le h⟩
theorem v_law_shares (h : sp_law_shares ags Qd Xq) : t_law_shares (endD ags Qd Xq) (startD N_law_shares ags) := by
  obtain ⟨c, jar, n, rfl, hj, hc, h1, h2, h⟩ := h
  simp [t_law_shares, N_law_shares]
  refine ⟨⟨by omega, by omega⟩, by rw [DL.upTo_len, sizeLine_eq]; omega, draws_lc hj (by omega) (by omega) (by omega) (fun jar d => rfl) (fun jar => rfl) (by omega) fun ks jar' hk hb hj' => ?_⟩
  simp
  refine ⟨_, jar', _, rfl, hj', by omega, by omega, by omega, fun e jar2 e1 e2 hj2 => ?_⟩
  simp
  refine ⟨_, jar2, _, rfl, hj2, by omega, by omega, by omega, fun d jar3 d1 d2 hj3 => ?_⟩
  obtain ⟨k, rfl⟩ := Int.eq_ofNat_of_zero_le d1
  have hkn : k < ks.length := by omega
  simp [ixN_nat hkn]
  rw [← List.map_set]
  generalize hm : ks.set k (1 + e) = ms
  have ml : ms.length = n := by rw [← hm, List.length_set]; exact hk
  have mb : ∀ x ∈ ms, 0 ≤ x ∧ x ≤ 9 := fun x hx => by
    rw [← hm] at hx
    rcases List.mem_or_eq_of_mem_set hx with hx | hx
    · have := hb x hx
      omega
    · omega
  have mp : 1 + e ∈ ms := by rw [← hm]; exact List.mem_set hkn _
  have sb := sum_bd (fun x hx => (mb x hx)) mp
  refine ⟨by rw [sizeLine_eq]; omega, lc_pure (p := fun _ => true) (e := fun x => dr (mkRat x ms.sum.toNat)) (fun x hx K1 K2 h1 h2 => ?_) ?_⟩
  · simp
    refine ⟨_, intsOf_ints ms, _, _, rfl, by omega, ?_, ?_, ?_⟩
    · exact Nat.le_trans (PySem.intBits_le_iff.mpr (show ms.sum.natAbs < 2 ^ 60 by omega)) (by omega)
    · exact .inl <| Nat.lt_of_le_of_lt (Nat.gcd_le_right _ (by omega)) (lt_pow_le (show ms.sum.natAbs < 2 ^ 60 by omega) (by omega))
    · simp
      exact h1 rfl _ rfl
  · simp
    rw [filter_true]
    have := h (ms.map fun x => mkRat x ms.sum.toNat) jar3 (by simp [ml]) (fun r hr => ?_) (jar_mono hj3 (by omega))
    · rw [List.map_map] at this
      exact this
    · obtain ⟨x, hx, rfl⟩ := List.mem_map.mp hr
      have hx2 := mb x hx
      have hn : ms.sum.toNat ≠ 0 := by omega
      rw [Rat.num_mkRat, if_neg hn, Rat.den_mkRat, if_neg hn]
      refine ⟨Int.ediv_nonneg hx2.1 (by omega), ?_, Nat.le_trans (Nat.div_le_self _ _) (by omega)⟩
      exact Int.le_trans (Int.ediv_le_self _ hx2.1) hx2.2
theorem cut_toD {ds : List D} {k : Nat} (h : k < ds.length) : DL.cutD ds none (some (k : Int)) = ds.take k := by
  unfold DL.cutD
  rw [HT.sIx_none, HT.sIx_nat, List.drop_zero, Nat.sub_zero, Nat.min_eq_left (by omega)]
theorem cut_fromD {ds : List D} {k : Nat} (h : k ≤ ds.length) : DL.cutD ds (some (k : Int)) none = ds.drop k := by
  unfold DL.cutD
  rw [HT.sIx_none, HT.sIx_nat, Nat.min_eq_left h, List.take_of_length_le (by rw [List.length_drop]; omega)]
theorem v_law_spoilt (h : sp_law_spoilt ags Qd Xq) : t_law_spoilt (endD ags Qd Xq) (startD N_law_spoilt ags) := by
  obtain ⟨c, jar, one, ds, P, rfl, hs, hj, hc, h1, h2, hP, hM, h0, h⟩ := h
  simp [t_law_spoilt, N_law_spoilt]
  rw [hs]
  simp
  refine ⟨c, jar, _, rfl, hj, by omega, by omega, by omega, fun d jar1 d1 d2 hj1 => ?_⟩
  obtain ⟨k, rfl⟩ := Int.eq_ofNat_of_zero_le d1
  have hk : k < ds.length := by omega
  simp
  refine ⟨_, jar1, _, rfl, hj1, by omega, by omega, by omega, fun way jar2 w1 w2 hj2 => ?_⟩
  simp
  by_cases q2 : way < 2
  · rw [if_pos q2]
    by_cases q0 : way = 0
    · rw [if_pos q0, cut_toD hk, show ((k : Int) + 1) = ((k + 1 : Nat) : Int) by omega, cut_fromD (by omega)]
      refine ⟨by rw [List.length_take, List.length_drop, sizeLine_eq]; omega, h _ jar2 (.inl ⟨_, .inl rfl, by rw [List.length_append, List.length_take, List.length_drop]; omega, fun x hx => ?_⟩) (jar_mono hj2 (by omega))⟩
      rcases List.mem_append.mp hx with hx | hx
      · exact hP x (List.mem_of_mem_take hx)
      · exact hP x (List.mem_of_mem_drop hx)
    · rw [if_neg q0]
      refine ⟨by rw [sizeLine_eq]; omega, by rw [sizeLine_eq]; omega, h _ jar2 (.inl ⟨_, .inl rfl, by simp, fun x hx => ?_⟩) (jar_mono hj2 (by omega))⟩
      rcases List.mem_append.mp hx with hx | hx
      · exact hP x hx
      · rw [List.mem_singleton.mp hx]
        exact h0
  · rw [if_neg q2]
    by_cases q3 : way = 2
    · rw [if_pos q3]
      refine ⟨by rw [sizeLine_eq]; omega, _, jar2, menuR, rfl, hj2, by omega, by simp [menuR], by simp [menuR], fun x hx jar3 hj3 => ?_⟩
      simp
      exact h _ jar3 (.inr hx) hj3
    · rw [if_neg q3]
      refine ⟨by rw [sizeLine_eq]; omega, by rw [sizeLine_eq]; omega, by rw [sizeLine_eq]; omega, by rw [sizeLine_eq]; omega, _, jar2, menuS, rfl, hj2, by omega, by simp [menuS], by simp [menuS], fun x hx jar3 hj3 => ?_⟩
      simp [ixN_nat hk]
      have mem : ∀ y ∈ ds.set k x, P y := fun y hy => by
        rcases List.mem_or_eq_of_mem_set hy with hy | hy
        · exact hP y hy
        · rw [hy]
          exact hM x hx
      by_cases q5 : way < 5
      · rw [if_pos q5]
        exact h _ jar3 (.inl ⟨_, .inl rfl, by rw [List.length_set]; omega, mem⟩) hj3
      · rw [if_neg q5]
        exact h _ jar3 (.inl ⟨_, .inr rfl, by rw [List.length_set]; omega, mem⟩) hj3
end K1


/-! text V3f -/
set_option Elab.async false
set_option linter.all false
set_option maxRecDepth 100000
set_option maxHeartbeats 1000000
namespace K1
open PySem PySem.Spec PyProof.Rows L2 L2H DL T
open NumText (digitsVal AllDigits)
variable {K : PySem.W.Frag} {ags : List Ag} {Qd : Rv → List (List D) → Prop} {Xq : Ex → List (List D) → Prop}
theorem frs_take {ds : List D} {i : Nat} {x : D} {r : Qn} (hx : ds[i]? = some x) (hf : frac x = some r) : frs (ds.take (i + 1)) = frs (ds.take i) ++ [r] := by
  rw [take_more hx]
  unfold frs
  rw [List.map_append]
  simp [hf]
theorem frs_sz {ds : List D} (hd : ∀ d ∈ ds, FrOk d ∧ ∀ r, frac d = some r → Sz 210 r) (h : ∀ x ∈ ds, badT x = false) : ∀ r ∈ frs ds, Sz 210 r := fun r hr => by
  unfold frs at hr
  obtain ⟨x, hx, rfl⟩ := List.mem_map.mp hr
  have h1 := h x hx
  unfold badT at h1
  cases hf : frac x with
  | none => rw [hf] at h1; cases h1
  | some q => exact (hd x hx).2 q hf
theorem dr_zero : dr 0 = .tuple [.int 0, .int 1] := rfl
def I_bt (d : D) (ds : List D) (i : Nat) (δ : Ds) : Prop := (∃ x2 x3 : Sl, δ = [.im d, .im (dr (sumQ (frs (ds.take i)))), x2, x3]) ∧ ∀ y ∈ ds.take i, badT y = false
theorem v_law_bad_table (h : sp_law_bad_table ags Qd Xq) : t_law_bad_table (endD ags Qd Xq) (startD N_law_bad_table ags) := by
  obtain ⟨d, rfl, ⟨hlen, hok⟩, h⟩ := h
  have key : ∀ ds, (d = .list ds ∨ d = .tuple ds) → ForOk ds (gN 2) (dSeq (dAsg (dCall sp_law_fraction (mCons (dV 2) mNil)) 3)
      (dSeq (dIf (dOr (dB (dBin rIsN (dV 3) (dC .none))) (dB (dBin rLt (dIx (dV 3) (dC (.int 0))) (dC (.int 0)))))
        (dRet (dEm (dC (.bool true)))) dNext)
        (dAsg (dCall sp_law_plus (mCons (dV 1) (mCons (dV 3) mNil))) 1)))
      ((endD [Ag.im d] Qd Xq).wNx ((dRet (dEm (dBin rNe (dV 1) (dTup (dCons (dC (.int 1)) (dCons (dC (.int 1)) dNil))))) (endD [Ag.im d] Qd Xq)))) [Sl.im d, Sl.im (.tuple [.int 0, .int 1]), Sl.no, Sl.no] := by
    intro ds he
    have hs : seqOf d = some ds := by rcases he with rfl | rfl <;> rfl
    have hl := hlen ds hs
    have hd := hok ds hs
    unfold tabOf at h
    rw [hs] at h
    refine ⟨I_bt d ds, ⟨⟨_, _, rfl⟩, by simp⟩, fun i x δ hx hI => ?_, fun δ hI => ?_⟩
    · obtain ⟨⟨x3, x4, rfl⟩, hI⟩ := hI
      have hm := List.mem_of_getElem? hx
      simp
      refine ⟨x, rfl, (hd x hm).1, ?_⟩
      have bad : badT x = true → Qd (.im (.bool true)) [] := fun hb => by
        have : ds.any badT = true := List.any_eq_true.mpr ⟨x, hm, hb⟩
        simp only [this] at h
        simpa using h
      cases hf : frac x with
      | none =>
        have hb : badT x = true := by unfold badT; rw [hf]
        simp [optD]
        exact bad hb
      | some r =>
        simp [optD]
        rw [if_neg (by simp [dr, isN])]
        by_cases q1 : r.num < 0
        · rw [if_pos q1]
          exact bad (by unfold badT; rw [hf]; simp [q1])
        · rw [if_neg q1]
          have hb : badT x = false := by unfold badT; rw [hf]; simp [q1]
          have hall : ∀ y ∈ ds.take (i + 1), badT y = false := fun y hy => by
            rcases mem_take_more hx hy with hy | rfl
            · exact hI y hy
            · exact hb
          have hz := sz_sum (frs_sz (fun y hy => hd y (List.mem_of_mem_take hy)) hI)
          have hl2 : (frs (ds.take i)).length ≤ 40 := by
            unfold frs
            rw [List.length_map]
            exact Nat.le_trans (List.length_take_le' ..) hl
          refine ⟨sumQ (frs (ds.take i)), r, _, 210, rfl, hz, (hd x hm).2 r hf, by omega, ?_⟩
          simp
          refine ⟨⟨.im x, .im (dr r), ?_⟩, hall⟩
          rw [frs_take hx hf, sumQ_append]
          simp [sumQ, Rat.add_zero]
    · obtain ⟨⟨x3, x4, rfl⟩, hI⟩ := hI
      rw [List.take_length] at hI ⊢
      have hany : ds.any badT = false := by
        rw [List.any_eq_false]
        intro y hy
        rw [hI y hy]
        simp
      simp [line2, ← dr_one, eqD_dr]
      refine ⟨cmp_dr _ _, ?_⟩
      simp only [hany] at h
      by_cases q : sumQ (frs ds) = 1
      · simp [q] at h ⊢
        exact h
      · simp [q] at h ⊢
        exact h
  simp [t_law_bad_table, N_law_bad_table]
  cases d with
  | list ds => simp [line2]; exact key ds (.inl rfl)
  | tuple ds => simp [line2]; exact key ds (.inr rfl)
  | _ => simp; exact h
def I_bc (d : D) (ds : List D) (n : Nat) (i : Nat) (δ : Ds) : Prop := (∃ x2 x3 : Sl, δ = [.im d, .im (.int (n : Nat)), x2, x3]) ∧ ∀ y ∈ ds.take i, badC y = false
theorem v_law_bad_count (h : sp_law_bad_count ags Qd Xq) : t_law_bad_count (endD ags Qd Xq) (startD N_law_bad_count ags) := by
  obtain ⟨d, n, rfl, ⟨hlen, hok⟩, hn, h⟩ := h
  have key : ∀ ds, (d = .list ds ∨ d = .tuple ds) → (if (ds.length : Int) = (n : Int) then DL.inR (n : Int) ∧ ForOk (DL.upTo 0 1 n) (gN 2)
        (dSeq (dAsg (dCall sp_law_fraction (mCons (dIx (dV 0) (dV 2)) mNil)) 3)
          (dIf
            (dOr (dB (dBin rIsN (dV 3) (dC PyData.none)))
              (dB (dBin (rIB fun i j => decide (i < j)) (dIx (dV 3) (dC (PyData.int 0))) (dC (PyData.int 0)))))
            (dRet (dM 2)) dNext))
        ((endD [Ag.im d, Ag.im (PyData.int ↑n)] Qd Xq).wNx
          (dRet (dEm (dC PyData.none)) (endD [Ag.im d, Ag.im (PyData.int ↑n)] Qd Xq)))
        [Sl.im d, Sl.im (PyData.int ↑n), Sl.no, Sl.no]
      else Qd (Rv.im (PyData.int (-1))) []) := by
    intro ds he
    have hs : seqOf d = some ds := by rcases he with rfl | rfl <;> rfl
    have hl := hlen ds hs
    have hd := hok ds hs
    have ix : ∀ k : Nat, k < ds.length → itemD d (k : Nat) = ds[k]? := fun k hk => by
      rcases he with rfl | rfl
      · exact ix_lst hk
      · exact ix_tup hk
    unfold badAt at h
    rw [hs] at h
    simp only at h
    by_cases q : ds.length = n
    · rw [if_pos (by omega)]
      rw [if_neg (fun z => z q)] at h
      refine ⟨⟨by omega, by omega⟩, I_bc d ds n, ⟨⟨_, _, rfl⟩, by simp⟩, fun i x δ hx hI => ?_, fun δ hI => ?_⟩
      · obtain ⟨⟨x3, x4, rfl⟩, hI⟩ := hI
        obtain ⟨hi, rfl⟩ := upTo_get' hx
        have hi2 : i < ds.length := by omega
        have hg : ds[i]? = some ds[i] := List.getElem?_eq_getElem hi2
        have hm := List.getElem_mem hi2
        generalize ds[i] = y at hg hm
        simp [ix i hi2, hg]
        refine ⟨y, rfl, (hd y hm).1, ?_⟩
        have bad : badC y = true → Qd (.im (.int (i : Nat))) [] := fun hb => by
          rw [find_at hg hb hI] at h
          exact h
        cases hf : frac y with
        | none =>
          have hb : badC y = true := by unfold badC; rw [hf]
          simp [optD]
          exact bad hb
        | some r =>
          simp [optD]
          rw [if_neg (by simp [dr, isN])]
          by_cases q1 : r.num < 0
          · rw [if_pos q1]
            exact bad (by unfold badC; rw [hf]; simp [q1])
          · rw [if_neg q1]
            refine ⟨⟨_, _, rfl⟩, fun z hz => ?_⟩
            rcases mem_take_more hg hz with hz | rfl
            · exact hI z hz
            · unfold badC
              rw [hf]
              simp [q1]
      · obtain ⟨⟨x3, x4, rfl⟩, hI⟩ := hI
        rw [DL.upTo_len, ← q, List.take_length] at hI
        rw [find_no hI] at h
        simp
        exact h
    · rw [if_neg (by omega)]
      rw [if_pos q] at h
      exact h
  simp [t_law_bad_count, N_law_bad_count]
  cases d with
  | list ds => simp; exact key ds (.inl rfl)
  | tuple ds => simp; exact key ds (.inr rfl)
  | _ => simp; exact h
end K1


/-! text V3p -/
set_option Elab.async false
set_option linter.all false
set_option maxRecDepth 100000
set_option maxHeartbeats 1000000
namespace K1
open PySem PySem.Spec PyProof.Rows L2 L2H DL T
open NumText (digitsVal AllDigits)
variable {K : PySem.W.Frag} {ags : List Ag} {Qd : Rv → List (List D) → Prop} {Xq : Ex → List (List D) → Prop}
theorem mk_b {k : Int} {m : Nat} (hm : 1 ≤ m) (h7 : m ≤ 7) (hk : k.natAbs < 10 ^ 61) : (mkRat k m).num.natAbs < 10 ^ 61 ∧ (mkRat k m).den ≤ 7 := by
  rw [Rat.num_mkRat, if_neg (by omega), Rat.den_mkRat, if_neg (by omega)]
  exact ⟨Nat.lt_of_le_of_lt (Int.natAbs_ediv_le_natAbs _ _) hk, Nat.le_trans (Nat.div_le_self _ _) h7⟩
theorem low_ok {k m : Int} (hm : 1 ≤ m) (h7 : m ≤ 7) : 0 < m ∧ DL.bitsOf m ≤ 1000000000 ∧ (Int.gcd k m < 2 ^ 8999 ∨ k = 0) := by
  refine ⟨by omega, ?_, .inl ?_⟩
  · exact Nat.le_trans (PySem.intBits_le_iff.mpr (show m.natAbs < 2 ^ 3 by omega)) (by omega)
  · exact Nat.lt_of_le_of_lt (Nat.gcd_le_right _ (by omega)) (lt_pow_le (show m.natAbs < 2 ^ 3 by omega) (by omega))
theorem v_law_powers (h : sp_law_powers ags Qd Xq) : t_law_powers (endD ags Qd Xq) (startD N_law_powers ags) := by
  obtain ⟨c, jar, n, rfl, hj, hc, h1, h2, h⟩ := h
  simp [t_law_powers, N_law_powers]
  refine ⟨c, jar, _, rfl, hj, by omega, by omega, by omega, fun way jar1 w1 w2 hj1 => ?_⟩
  simp
  by_cases q0 : way = 0
  · rw [if_pos q0]
    refine ⟨⟨by omega, by omega⟩, by rw [DL.upTo_len, sizeLine_eq]; omega, lc_map (e := fun _ => dr 0) (fun x hx K1 hk => ?_) ?_⟩
    · simp [line2]
      exact hk _ rfl
    · simp
      have := h (List.replicate n 0) jar1 (by simp) (fun r hr => ?_) (jar_mono hj1 (by omega))
      · rw [List.map_replicate] at this
        rw [show (DL.upTo 0 1 n).map (fun _ => dr 0) = List.replicate n (dr 0) by rw [List.map_const']; rw [DL.upTo_len]]
        exact this
      · rw [List.eq_of_mem_replicate hr]
        exact ⟨by decide, by decide⟩
  · rw [if_neg q0]
    by_cases q1 : way = 1
    · rw [if_pos q1]
      refine ⟨⟨by omega, by omega⟩, by rw [DL.upTo_len, sizeLine_eq]; omega, draws_lc hj1 (by omega) (by omega) (by omega) (fun jar d => rfl) (fun jar => rfl) (by omega) fun ks jar2 hk hb hj2 => ?_⟩
      simp
      refine ⟨_, jar2, _, rfl, hj2, by omega, by omega, by omega, fun d jar3 d1 d2 hj3 => ?_⟩
      obtain ⟨k, rfl⟩ := Int.eq_ofNat_of_zero_le d1
      have hkn : k < ks.length := by omega
      have e0 : itemD (.list (ks.map PyData.int)) (k : Nat) = some (.int ks[k]) := nat_ix (by rw [List.getElem?_map, List.getElem?_eq_getElem hkn]; rfl)
      have kb := hb _ (List.getElem_mem hkn)
      have sb := sum_le (B := 8) (ms := ks) fun x hx => by have := hb x hx; omega
      simp [e0]
      refine ⟨_, jar3, _, rfl, hj3, by omega, by omega, by omega, fun g jar4 g1 g2 hj4 => ?_⟩
      simp [ixN_nat hkn]
      refine ⟨_, intsOf_ints ks, ?_⟩
      first
        | simp only [ixN_nat hkn]
        | skip
      rw [← List.map_set]
      generalize hms : ks.set k (ks[k] + 2000 + g - ks.sum) = ms
      have mb : ∀ x ∈ ms, x.natAbs < 10 ^ 61 := fun x hx => by
        rw [← hms] at hx
        rcases List.mem_or_eq_of_mem_set hx with hx | hx
        · have := hb x hx
          omega
        · omega
      have ml : ms.length = n := by rw [← hms, List.length_set]; exact hk
      refine ⟨_, jar4, _, rfl, hj4, by omega, by omega, by omega, fun m jar5 m1 m2 hj5 => ?_⟩
      simp
      refine ⟨by rw [sizeLine_eq]; omega, lc_pure (p := fun _ => true) (e := fun x => dr (mkRat x (1 + m).toNat)) (fun x hx K1 K2 k1 k2 => ?_) ?_⟩
      · simp
        obtain ⟨o1, o2, o3⟩ := low_ok (k := x) (m := 1 + m) (by omega) (by omega)
        refine ⟨_, _, rfl, o1, o2, o3, ?_⟩
        simp
        exact k1 rfl _ rfl
      · simp
        rw [filter_true]
        have := h (ms.map fun x => mkRat x (1 + m).toNat) jar5 (by rw [List.length_map]; exact ml) (fun r hr => ?_) (jar_mono hj5 (by omega))
        · rw [List.map_map] at this
          exact this
        · obtain ⟨x, hx, rfl⟩ := List.mem_map.mp hr
          exact mk_b (by omega) (by omega) (mb x hx)
    · rw [if_neg q1]
      have st : ∀ {i : Nat} {rs : List Qn} {k m : Int}, (∀ r ∈ rs, r.num.natAbs < 10 ^ 61 ∧ r.den ≤ 7) → 1 ≤ m → m ≤ 7 → k.natAbs < 10 ^ 61 → ∀ r ∈ rs ++ [mkRat k m.toNat], r.num.natAbs < 10 ^ 61 ∧ r.den ≤ 7 := fun {i rs k m} hr hm1 hm2 hk r hm => by
        rcases List.mem_append.mp hm with hm | hm
        · exact hr r hm
        · rw [List.mem_singleton.mp hm]
          exact mk_b (by omega) (by omega) hk
      by_cases q2 : way = 2
      · rw [if_pos q2]
        refine ⟨⟨by omega, by omega⟩, by rw [DL.upTo_len, sizeLine_eq]; omega, ?_⟩
        refine ⟨fun i acc δ => ∃ (jar' : List D) (rs : List Qn), δ = [.bw jar', .im (.int (n : Nat)), .im (.int way), .no, .no, .no, .no] ∧ acc = rs.map dr ∧ rs.length = i ∧ (∀ r ∈ rs, r.num.natAbs < 10 ^ 61 ∧ r.den ≤ 7) ∧ JarOk (c + 2 + 110 * i) jar' ∧ i ≤ n, ⟨jar1, [], rfl, rfl, rfl, by simp, jar_mono hj1 (by omega), by omega⟩, fun i d acc δ2 hd hI => ?_, fun acc δ2 hI => ?_⟩
        · obtain ⟨jar2, rs, rfl, rfl, hl, hr, hj2, hi⟩ := hI
          obtain ⟨hi', rfl⟩ := upTo_get' hd
          simp
          refine ⟨_, jar2, _, rfl, hj2, by omega, by omega, by omega, fun g jar3 g1 g2 hj3 => ?_⟩
          simp
          refine ⟨_, jar3, _, rfl, hj3, by omega, by omega, by omega, fun k jar4 k1 k2 hj4 => ?_⟩
          simp
          refine ⟨_, jar4, _, rfl, hj4, by omega, by omega, by omega, fun m jar5 m1 m2 hj5 => ?_⟩
          simp
          obtain ⟨o1, o2, o3⟩ := low_ok (k := k) (m := 1 + m) (by omega) (by omega)
          refine ⟨_, _, rfl, o1, o2, o3, ?_⟩
          simp
          have kb : k.natAbs < 10 ^ 61 := Nat.lt_of_lt_of_le k2 (Nat.pow_le_pow_right (by omega) (by omega))
          exact ⟨rs ++ [mkRat k (1 + m).toNat], by simp, by simp [hl], st (i := 0) hr (by omega) (by omega) kb, jar_mono hj5 (by omega), by omega⟩
        · obtain ⟨jar2, rs, rfl, rfl, hl, hr, hj2, hi⟩ := hI
          rw [DL.upTo_len] at hl hj2
          simp
          exact h rs jar2 hl hr (jar_mono hj2 (by omega))
      · rw [if_neg q2]
        refine ⟨by rw [sizeLine_eq]; omega, _, jar1, _, rfl, hj1, by omega, by simp, by simp, fun x hxm jar2 hj2 => ?_⟩
        obtain ⟨a, rfl, a1, a2⟩ : ∃ a : Int, x = .int a ∧ 1 ≤ a ∧ a ≤ 6 := by
          simp only [List.mem_cons, List.not_mem_nil, or_false] at hxm
          rcases hxm with rfl | rfl | rfl | rfl
          · exact ⟨_, rfl, by omega, by omega⟩
          · exact ⟨_, rfl, by omega, by omega⟩
          · exact ⟨_, rfl, by omega, by omega⟩
          · exact ⟨_, rfl, by omega, by omega⟩
        simp
        refine ⟨⟨by omega, by omega⟩, by rw [DL.upTo_len, sizeLine_eq]; omega, fun i acc δ => ∃ (jar' : List D) (rs : List Qn), δ = [.bw jar', .im (.int (n : Nat)), .im (.int way), .no, .no, .no, .im (.int a)] ∧ acc = rs.map dr ∧ rs.length = i ∧ (∀ r ∈ rs, r.num.natAbs < 10 ^ 61 ∧ r.den ≤ 7) ∧ JarOk (c + 2 + 110 * i) jar' ∧ i ≤ n, ⟨jar2, [], rfl, rfl, rfl, by simp, jar_mono hj2 (by omega), by omega⟩, fun i d acc δ2 hd hI => ?_, fun acc δ2 hI => ?_⟩
        · obtain ⟨jar2, rs, rfl, rfl, hl, hr, hj2, hi⟩ := hI
          obtain ⟨hi', rfl⟩ := upTo_get' hd
          simp
          refine ⟨_, jar2, _, rfl, hj2, by omega, by omega, by omega, fun g jar3 g1 g2 hj3 => ?_⟩
          have kb : (a * g).natAbs < 10 ^ 61 := by
            have : (a * g).natAbs ≤ 6 * 9 := by
              rw [Int.natAbs_mul]
              exact Nat.mul_le_mul (by omega) (by omega)
            omega
          simp
          refine ⟨mulOk (m := 20) (n := 20) (smallN (by omega) (by omega)) (smallN (by omega) (by omega)) (by omega), ?_⟩
          by_cases q5 : 5 < way
          · rw [if_pos q5]
            refine ⟨_, jar3, _, rfl, hj3, by omega, by omega, by omega, fun m jar5 m1 m2 hj5 => ?_⟩
            simp
            obtain ⟨o1, o2, o3⟩ := low_ok (k := a * g) (m := 1 + m) (by omega) (by omega)
            refine ⟨_, _, rfl, o1, o2, o3, ?_⟩
            simp
            exact ⟨rs ++ [mkRat (a * g) (1 + m).toNat], by simp, by simp [hl], st (i := 0) hr (by omega) (by omega) kb, jar_mono hj5 (by omega), by omega⟩
          · rw [if_neg q5]
            obtain ⟨o1, o2, o3⟩ := low_ok (k := a * g) (m := a + 1) (by omega) (by omega)
            refine ⟨_, _, rfl, o1, o2, o3, ?_⟩
            simp
            exact ⟨rs ++ [mkRat (a * g) (a + 1).toNat], by simp, by simp [hl], st (i := 0) hr (by omega) (by omega) kb, jar_mono hj3 (by omega), by omega⟩
        · obtain ⟨jar2, rs, rfl, rfl, hl, hr, hj2, hi⟩ := hI
          rw [DL.upTo_len] at hl hj2
          simp
          exact h rs jar2 hl hr (jar_mono hj2 (by omega))
end K1


/-! text V3g -/
set_option Elab.async false
set_option linter.all false
set_option maxRecDepth 100000
set_option maxHeartbeats 1000000
namespace K1
open PySem PySem.Spec PyProof.Rows L2 L2H DL T
open NumText (digitsVal AllDigits)
variable {K : PySem.W.Frag} {ags : List Ag} {Qd : Rv → List (List D) → Prop} {Xq : Ex → List (List D) → Prop}
theorem len_seq {d : D} {ds : List D} (h : seqOf d = some ds) (k : D → Prop) : DL.rLen [d] k = k (.int (ds.length : Nat)) := by
  cases d with
  | list es => cases h; rfl
  | tuple es => cases h; rfl
  | _ => cases h
theorem tab_seq {d : D} {rs : List Qn} (h : tabOf d = some rs) : ∃ ds, seqOf d = some ds ∧ ds.any badT = false ∧ sumQ (frs ds) = 1 ∧ rs = frs ds := by
  unfold tabOf at h
  cases hs : seqOf d with
  | none => rw [hs] at h; cases h
  | some ds =>
    rw [hs] at h
    simp only at h
    by_cases q : ds.any badT = false ∧ sumQ (frs ds) = 1
    · rw [if_pos q] at h
      exact ⟨ds, rfl, q.1, q.2, (Option.some.inj h).symm⟩
    · rw [if_neg q] at h
      cases h
theorem frac_of {ds : List D} (h : ∀ x ∈ ds, badT x = false) {x : D} (hx : x ∈ ds) : ∃ r, frac x = some r ∧ 0 ≤ r.num := by
  have h1 := h x hx
  unfold badT at h1
  cases hf : frac x with
  | none => rw [hf] at h1; cases h1
  | some q =>
    rw [hf] at h1
    refine ⟨q, rfl, ?_⟩
    simpa using h1
theorem items_seq {d : D} {ds : List D} (h : seqOf d = some ds) : itemsD d = some ds := by
  cases d with
  | list es => cases h; rfl
  | tuple es => cases h; rfl
  | _ => cases h
theorem lit_cells : Str.ofString "TooMany " ++ Str.ofString "cells" = Str.ofString "TooMany cells" := by decide +kernel
theorem lit_digs : Str.ofString "TooMany " ++ Str.ofString "digits" = Str.ofString "TooMany digits" := by decide +kernel
theorem lit_total : Str.ofString "TooMany " ++ Str.ofString "total" = Str.ofString "TooMany total" := by decide +kernel
theorem big_app (a b : List Qn) : firstBig (a ++ b) = match firstBig a with
    | some m => some m
    | none => firstBig b := by
  induction a with
  | nil => rfl
  | cons x a ih =>
    rw [List.cons_append, firstBig, firstBig]
    split
    · rfl
    · exact ih
/-- a row of fractions -/
theorem fr_map {d : D} {ds : List D} {vs : List Nat} {g : TGd} {te : DL.TI} {Q : Rv → Ds → Prop} {δ1 : Ds} (hf : ∀ x ∈ ds, ∃ r, frac x = some r)
    (h : ∀ x ∈ ds, ∀ r, frac x = some r → ∀ (K1 : D → Ds → Prop), (∀ δ5, wipeD δ5 vs = wipeD δ1 vs → K1 (dr r) δ5) → g x (wipeD δ1 vs) fun δ3 => te δ3 K1 noX)
    (hq : Q (.ow ((frs ds).map dr)) (unwipeD δ1 (wipeD δ1 vs) vs)) : LcOk ds vs g bYes te Q δ1 := by
  refine lc_map (e := fun x => dr ((frac x).getD 0)) (fun x hx K1 hk => ?_) ?_
  · obtain ⟨r, hr⟩ := hf x hx
    refine h x hx r hr K1 fun δ5 h5 => ?_
    have := hk δ5 h5
    rw [hr] at this
    exact this
  · have e1 : ds.map (fun x => dr ((frac x).getD 0)) = (frs ds).map dr := by unfold frs; rw [List.map_map]; rfl
    rw [e1]
    exact hq
theorem v_law_due (h : sp_law_due ags Qd Xq) : t_law_due (endD ags Qd Xq) (startD N_law_due ags) := by
  obtain ⟨one, two, three, rfl, ok, h⟩ := h
  simp [t_law_due, N_law_due, -DL.rLen_s]
  refine ⟨one, rfl, ok.o, ?_⟩
  simp [-DL.rLen_s]
  cases ht : tabOf one with
  | none =>
    unfold fitOut at h
    rw [ht] at h
    simp
    exact ⟨by rw [sizeLine_eq]; omega, h⟩
  | some ls =>
    have l32 := ok.l ls ht
    obtain ⟨ds, hs, hb, _, rfl⟩ := tab_seq ht
    obtain ⟨l1, g1⟩ := tab_some ok.o ht
    have hlf : (frs ds).length = ds.length := by unfold frs; rw [List.length_map]
    have hb1 : ∀ x ∈ ds, badT x = false := fun x hx => by
      have := List.any_eq_false.mp hb x hx
      simpa using this
    unfold fitOut at h
    rw [ht] at h
    simp only at h
    simp [-DL.rLen_s]
    refine ⟨two, rfl, ok.t, ?_⟩
    simp [-DL.rLen_s]
    cases ht2 : tabOf two with
    | none =>
      rw [ht2] at h
      simp
      exact ⟨by rw [sizeLine_eq]; omega, h⟩
    | some rs =>
      obtain ⟨es, hs2, hb2, _, rfl⟩ := tab_seq ht2
      obtain ⟨l2, g2⟩ := tab_some ok.t ht2
      have hlf2 : (frs es).length = es.length := by unfold frs; rw [List.length_map]
      have hb3 : ∀ x ∈ es, badT x = false := fun x hx => by
        have := List.any_eq_false.mp hb2 x hx
        simpa using this
      rw [ht2] at h
      simp only at h
      simp [↓len_seq hs, ↓len_seq hs2, -DL.rLen_s]
      by_cases ql : ds.length = es.length
      · rw [if_pos (by omega)]
        rw [if_neg (by omega)] at h
        refine ⟨three, ds.length, rfl, ok.h, by omega, ?_⟩
        rw [← hlf]
        cases hat : badAt three (frs ds).length with
        | some i =>
          rw [hat] at h
          simp [optI, isN]
          exact ⟨by rw [sizeLine_eq]; omega, h⟩
        | none =>
          rw [hat] at h
          have hq := cnt_qs ok.h ok.c hat
          obtain ⟨l3, l4, g3⟩ := cnt_none ok.h hat
          obtain ⟨fs, hs3, hfs, hf3⟩ : ∃ fs, seqOf three = some fs ∧ cntOf three = frs fs ∧ ∀ x ∈ fs, ∃ r, frac x = some r := by
            unfold badAt at hat
            unfold cntOf
            cases z : seqOf three with
            | none => rw [z] at hat; cases hat
            | some fs =>
              rw [z] at hat
              simp only at hat
              refine ⟨fs, rfl, rfl, fun x hx => ?_⟩
              have hf : fs.findIdx? badC = none := by
                split at hat
                · cases hat
                · cases w : fs.findIdx? badC with
                  | none => rfl
                  | some i => rw [w] at hat; cases hat
              have := List.findIdx?_eq_none_iff.mp hf x hx
              unfold badC at this
              cases hq : frac x with
              | none => rw [hq] at this; cases this
              | some q => exact ⟨q, rfl⟩
          have hl4 : fs.length = ds.length := by
            rw [hfs] at l3
            unfold frs at l3
            simpa using l3
          simp only at h
          rw [if_neg (by omega)] at h
          simp [optI, isN]
          rw [items_seq hs]
          simp only
          refine ⟨by rw [sizeLine_eq]; omega, fr_map (d := one) (fun x hx => let ⟨r, hr, _⟩ := frac_of hb1 hx; ⟨r, hr⟩) (fun x hx r hr K1 hk => ?_) ?_⟩
          · simp
            refine ⟨x, rfl, (ok.o.ok ds hs x hx).1, ?_⟩
            simp [hr, optD]
            exact hk _ rfl
          simp [items_seq hs2]
          refine ⟨by rw [sizeLine_eq]; omega, fr_map (d := one) (fun x hx => let ⟨r, hr, _⟩ := frac_of hb3 hx; ⟨r, hr⟩) (fun x hx r hr K1 hk => ?_) ?_⟩
          · simp
            refine ⟨x, rfl, (ok.t.ok es hs2 x hx).1, ?_⟩
            simp [hr, optD]
            exact hk _ rfl
          simp [items_seq hs3]
          refine ⟨by rw [sizeLine_eq]; omega, fr_map (d := one) hf3 (fun x hx r hr K1 hk => ?_) ?_⟩
          · simp
            refine ⟨x, rfl, (ok.h.ok fs hs3 x hx).1, ?_⟩
            simp [hr, optD]
            exact hk _ rfl
          rw [← hfs]
          simp
          have hlr : (frs es).length = (frs ds).length := by omega
          generalize frs ds = ls at *
          generalize frs es = rs at *
          generalize cntOf three = ts at *
          refine ⟨by rw [sizeLine_eq]; omega, by rw [sizeLine_eq]; omega, ?_⟩
          rw [← List.map_append, ← List.map_append]
          have hsz : ∀ r ∈ ls ++ (rs ++ ts), Sz 210 r := fun r hr => by
            rcases List.mem_append.mp hr with hr | hr
            · exact (g1 r hr).2
            · rcases List.mem_append.mp hr with hr | hr
              · exact (g2 r hr).2
              · exact (g3 r hr).1
          have key : ∀ m, firstBig (ls ++ (rs ++ ts)) = some m → Qd (.im (.tuple [.str (Str.ofString "TooMany digits"), .int (m : Nat), .bool true])) [] := fun m hm => by
            have e : dueD (Out.many (Str.ofString "digits") m) = .tuple [.str (Str.ofString "TooMany digits"), .int (m : Nat), .bool true] := by
              simp only [dueD, lit_digs]
            rw [big_app, big_app] at hm
            cases f1 : firstBig ls with
            | some m1 =>
              rw [f1] at hm h
              simp only at hm h
              rw [Option.some.inj hm, e] at h
              exact h
            | none =>
              rw [f1] at hm h
              simp only at hm h
              cases f2 : firstBig rs with
              | some m1 =>
                rw [f2] at hm h
                simp only at hm h
                rw [Option.some.inj hm, e] at h
                exact h
              | none =>
                rw [f2] at hm h
                simp only at hm h
                rw [hm] at h
                simp only at h
                rw [e] at h
                exact h
          refine ⟨fun i δ => (∃ x4 x8 x9 : Sl, δ = [.im one, .im two, .im three, .im .none, x4, .ow (ls.map dr), .ow (rs.map dr), .ow (ts.map dr), x8, x9]) ∧ ∀ x ∈ (ls ++ (rs ++ ts)).take i, ¬ 60 < dig x, ⟨⟨_, _, _, rfl⟩, by simp⟩, fun i d δ hd hI => ?_, fun δ hI => ?_⟩
          · obtain ⟨⟨x4, x8, x9, rfl⟩, hI⟩ := hI
            obtain ⟨r, hr, rfl⟩ := map_get hd
            have hz := hsz r (List.mem_of_getElem? hr)
            have hz2 : Sz 1900 r := ⟨lt_pow_le hz.1 (by omega), lt_pow_le hz.2 (by omega)⟩
            simp
            refine ⟨r, rfl, hz2, ?_⟩
            have hm2 : max (ndig r.num.natAbs) (ndig r.den) = dig r := rfl
            simp
            by_cases q : 60 < dig r
            · rw [if_pos (by omega)]
              refine ⟨r, rfl, hz2, ?_⟩
              simp
              exact ⟨by rw [sizeLine_eq]; omega, key _ (big_at hr hI q)⟩
            · rw [if_neg (by omega)]
              intro y hy
              rcases mem_take_more hr hy with hy | e
              · exact Nat.le_of_not_lt (hI y hy)
              · rw [e]
                exact Nat.le_of_not_lt q
          · obtain ⟨⟨x4, x8, x9, rfl⟩, hI⟩ := hI
            rw [List.length_map, List.take_length] at hI
            have b1 : firstBig ls = none := big_none fun x hx => hI x (List.mem_append_left _ hx)
            have b2 : firstBig rs = none := big_none fun x hx => hI x (List.mem_append_right _ (List.mem_append_left _ hx))
            have b3 : firstBig ts = none := big_none fun x hx => hI x (List.mem_append_right _ (List.mem_append_right _ hx))
            rw [b1, b2, b3] at h
            simp only at h
            simp
            refine ⟨ts, rfl, hq, ?_⟩
            have lm : (mulL ts).length = ls.length := by
              unfold mulL
              rw [List.length_map, l3]
            generalize mulL ts = cs at h lm ⊢
            simp
            refine ⟨_, intsOf_nat cs, ?_⟩
            rw [sum_cast]
            by_cases q20 : 2000 < cs.sum
            · rw [if_pos (by omega)]
              rw [if_pos q20] at h
              refine ⟨_, intsOf_nat cs, by rw [sizeLine_eq]; omega, ?_⟩
              rw [sum_cast]
              simp only [dueD, lit_total] at h
              exact h
            · rw [if_neg (by omega)]
              rw [if_neg q20] at h
              refine ⟨ls, cs, rfl, by omega, by omega, fun r hr => (g1 r hr).2, by omega, ?_⟩
              simp
              refine ⟨rs, cs, rfl, by omega, by omega, fun r hr => (g2 r hr).2, by omega, ?_⟩
              obtain ⟨z1, z2⟩ := pn_le (rs := ls) (cs := cs) fun x hx => (g1 x hx).2
              obtain ⟨z3, z4⟩ := pn_le (rs := rs) (cs := cs) fun x hx => (g2 x hx).2
              have w1 : (pn ls cs).natAbs < 2 ^ 420001 := Nat.lt_of_le_of_lt z1 (Nat.pow_lt_pow_right (by omega) (by omega))
              have w2 : ((pd ls cs : Nat) : Int).natAbs < 2 ^ 420001 := by rw [Int.natAbs_natCast]; exact Nat.lt_of_le_of_lt z2 (Nat.pow_lt_pow_right (by omega) (by omega))
              have w3 : (pn rs cs).natAbs < 2 ^ 420001 := Nat.lt_of_le_of_lt z3 (Nat.pow_lt_pow_right (by omega) (by omega))
              have w4 : ((pd rs cs : Nat) : Int).natAbs < 2 ^ 420001 := by rw [Int.natAbs_natCast]; exact Nat.lt_of_le_of_lt z4 (Nat.pow_lt_pow_right (by omega) (by omega))
              unfold cmpQ at h
              simp only [dueD] at h
              simp
              generalize hk : pn ls cs * ((pd rs cs : Nat) : Int) - pn rs cs * ((pd ls cs : Nat) : Int) = k at h ⊢
              refine ⟨mulOk w1 w4 (by omega), mulOk w3 w2 (by omega), by rw [sizeLine_eq]; omega, ?_⟩
              have e : ((if 0 < k then (1 : Int) else 0) - if k < 0 then 1 else 0) = sgn k := by
                unfold sgn
                by_cases c1 : 0 < k
                · rw [if_pos c1, if_pos c1, if_neg (by omega)]; rfl
                · rw [if_neg c1, if_neg c1]
                  split <;> rfl
              have e6 : (pn rs cs * ((pd ls cs : Nat) : Int) < pn ls cs * ((pd rs cs : Nat) : Int)) = (0 < k) := by
                rw [← hk]
                exact propext ⟨fun h => by omega, fun h => by omega⟩
              simp only [e6]
              rw [e]
              exact h
      · rw [if_neg (by omega)]
        rw [if_pos (by omega)] at h
        exact ⟨by rw [sizeLine_eq]; omega, h⟩
end K1


/-! text V3h -/
set_option Elab.async false
set_option linter.all false
set_option maxRecDepth 100000
set_option maxHeartbeats 1000000
namespace K1
open PySem PySem.Spec PyProof.Rows L2 L2H DL T
open NumText (digitsVal AllDigits)
variable {K : PySem.W.Frag} {ags : List Ag} {Qd : Rv → List (List D) → Prop} {Xq : Ex → List (List D) → Prop}
theorem lk_at (x y : D) : List.lookup (Str.ofString "at") [(Str.ofString "why", x), (Str.ofString "at", y)] = some y := by
  have : ((Str.ofString "at") == (Str.ofString "why")) = false := by decide +kernel
  simp [List.lookup, this]
theorem lk_what (x y : D) : List.lookup (Str.ofString "what") [(Str.ofString "count", x), (Str.ofString "what", y)] = some y := by
  have : ((Str.ofString "what") == (Str.ofString "count")) = false := by decide +kernel
  simp [List.lookup, this]
theorem many_len {one two three : D} {what : Str} {n : Nat} (h : fitOut one two three = .many what n) : (Str.ofString "TooMany ").length + what.length ≤ sizeLine := by
  have key : what = Str.ofString "cells" ∨ what = Str.ofString "digits" ∨ what = Str.ofString "total" := by
    unfold fitOut at h
    repeat' split at h
    all_goals first
      | (cases h; exact .inl rfl)
      | (cases h; exact .inr (.inl rfl))
      | (cases h; exact .inr (.inr rfl))
      | cases h
  have e1 : (Str.ofString "TooMany ").length = 8 := by decide +kernel
  have e2 : (Str.ofString "cells").length = 5 := by decide +kernel
  have e3 : (Str.ofString "digits").length = 6 := by decide +kernel
  have e4 : (Str.ofString "total").length = 5 := by decide +kernel
  rw [sizeLine_eq]
  rcases key with rfl | rfl | rfl <;> omega
theorem v_law_ask (h : sp_law_ask K ags Qd Xq) : t_law_ask K (endD ags Qd Xq) (startD N_law_ask ags) := by
  obtain ⟨c, jar, one, two, three, rfl, k, hj, hc, ho, ht, h3, h4, h⟩ := h
  simp [t_law_ask, N_law_ask]
  refine ⟨c, jar, _, rfl, hj, by omega, by omega, by omega, fun d jar' d1 d2 hj' => ?_⟩
  simp
  by_cases q : d = 0
  · rw [if_pos q]
    refine ⟨one, two, three, rfl, ho, ht, h3, h4, ?_⟩
    cases hf : fitOut one two three with
    | told r =>
      rw [hf] at h
      simp
      exact ⟨by rw [sizeLine_eq]; omega, h jar' hj'⟩
    | badT =>
      rw [hf] at h
      intro w hw
      simp [exT, k.tt]
      refine ⟨w, rfl, hw, ?_⟩
      simp [k.t2]
      exact ⟨by rw [sizeLine_eq]; omega, h jar' hj'⟩
    | badC i =>
      rw [hf] at h
      intro w hw
      simp [exC, k.ct, k.cc]
      refine ⟨_, lk_at _ _, w, rfl, hw, ?_⟩
      simp [k.c2]
      exact ⟨by rw [sizeLine_eq]; omega, h jar' hj'⟩
    | many what n =>
      rw [hf] at h
      simp [exM, k.mt, k.mc, k.mm]
      refine ⟨_, lk_what _ _, ?_⟩
      simp [k.m2]
      exact ⟨many_len hf, by rw [sizeLine_eq]; omega, h jar' hj'⟩
  · rw [if_neg q]
    refine ⟨one, two, three, rfl, ho, ht, h3, h4, ?_⟩
    cases hf : fitOut one two three with
    | told r =>
      rw [hf] at h
      simp
      exact ⟨by rw [sizeLine_eq]; omega, h jar' hj'⟩
    | badT =>
      rw [hf] at h
      intro w hw
      simp [exT, k.tt]
      refine ⟨w, rfl, hw, ?_⟩
      simp [k.t2]
      exact ⟨by rw [sizeLine_eq]; omega, h jar' hj'⟩
    | badC i =>
      rw [hf] at h
      intro w hw
      simp [exC, k.ct, k.cc]
      refine ⟨_, lk_at _ _, w, rfl, hw, ?_⟩
      simp [k.c2]
      exact ⟨by rw [sizeLine_eq]; omega, h jar' hj'⟩
    | many what n =>
      rw [hf] at h
      simp [exM, k.mt, k.mc, k.mm]
      refine ⟨_, lk_what _ _, ?_⟩
      simp [k.m2]
      exact ⟨many_len hf, by rw [sizeLine_eq]; omega, h jar' hj'⟩
end K1


/-! text V3i -/
set_option Elab.async false
set_option linter.all false
set_option maxRecDepth 100000
set_option maxHeartbeats 2000000
namespace K1
open PySem PySem.Spec PyProof.Rows L2 L2H DL T
open NumText (digitsVal AllDigits)
variable {K : PySem.W.Frag} {ags : List Ag} {Qd : Rv → List (List D) → Prop} {Xq : Ex → List (List D) → Prop}
/-! ### what is shown of data -/
def Shw (n B : Nat) (d : D) : Prop := d.showable = true ∧ d.depth ≤ n ∧ d.shown.length ≤ B
theorem shw_all {n B : Nat} : ∀ {ds : List D}, (∀ d ∈ ds, Shw n B d) → PyData.showableAll ds = true ∧ PyData.depthAll ds ≤ n ∧ ((PyData.shownAll ds).map (·.length)).sum ≤ B * ds.length
  | [], _ => ⟨rfl, by simp [PyData.depthAll], by simp [PyData.shownAll]⟩
  | d :: ds, h => by
    obtain ⟨a1, a2, a3⟩ := h d List.mem_cons_self
    obtain ⟨b1, b2, b3⟩ := shw_all (ds := ds) fun x hx => h x (List.mem_cons_of_mem _ hx)
    refine ⟨by simp [PyData.showableAll, a1, b1], ?_, ?_⟩
    · simp only [PyData.depthAll]
      omega
    · simp only [PyData.shownAll, List.map_cons, List.sum_cons, List.length_cons, Nat.mul_add]
      omega
theorem shw_list {n B : Nat} {ds : List D} (h : ∀ d ∈ ds, Shw n B d) : Shw (n + 1) ((B + 2) * ds.length + 3) (.list ds) := by
  obtain ⟨a1, a2, a3⟩ := shw_all h
  refine ⟨by simpa [PyData.showable] using a1, ?_, ?_⟩
  · simp only [PyData.depth]
    omega
  · have := listText_len_le (PyData.shownAll ds)
    rw [PyData.shownAll_length] at this
    simp only [PyData.shown]
    rw [Nat.add_mul]
    omega
theorem shw_tuple {n B : Nat} {ds : List D} (h : ∀ d ∈ ds, Shw n B d) : Shw (n + 1) ((B + 2) * ds.length + 3) (.tuple ds) := by
  obtain ⟨a1, a2, a3⟩ := shw_all h
  refine ⟨by simpa [PyData.showable] using a1, ?_, ?_⟩
  · simp only [PyData.depth]
    omega
  · have := tupleText_len_le (PyData.shownAll ds)
    rw [PyData.shownAll_length] at this
    simp only [PyData.shown]
    rw [Nat.add_mul]
    omega
theorem Shw.mono {n m B C : Nat} {d : D} (h : Shw n B d) (h1 : n ≤ m) (h2 : B ≤ C) : Shw m C d := ⟨h.1, Nat.le_trans h.2.1 h1, Nat.le_trans h.2.2 h2⟩
theorem shw_int {i : Int} {n : Nat} (h : i.natAbs < 2 ^ n) (hn : n ≤ 1900) : Shw 0 10002 (.int i) := by
  refine ⟨?_, by simp [PyData.depth], ?_⟩
  · simp only [PyData.showable]
    refine decide_eq_true ?_
    by_cases q : i.natAbs = 0
    · rw [q]; decide
    · exact (Nat.log2_lt q).mpr (lt_pow_le h (by omega))
  · have := ic_len h (by omega)
    rw [PyData.shown_int, str_int, st_len]
    exact this
theorem shw_str {x : Str} (h : x.length ≤ 130) (hk : PyData.strOk x = true) : Shw 0 10002 (.str x) := by
  refine ⟨rfl, by simp [PyData.depth], ?_⟩
  have hc : ∀ c ∈ x.cps.toList, c < 16 ^ 8 := fun c hc => by
    rw [st_of x] at hk
    have := (strOk_st _).mp hk c hc
    omega
  have := StrLaws.reprText_len x hc
  rw [PyData.shown_str]
  omega
theorem shw_it {d : D} (h : It d) : Shw 1 20011 d := by
  match d, h with
  | .int i, h => exact (shw_int h (by omega)).mono (by omega) (by omega)
  | .str x, h => exact (shw_str h.1 h.2.1).mono (by omega) (by omega)
  | .tuple [.int a, .int b], h =>
    refine (shw_tuple (n := 0) (B := 10002) fun d hd => ?_).mono (by omega) (by simp)
    simp at hd
    rcases hd with rfl | rfl
    · exact shw_int h.1 (by omega)
    · exact shw_int h.2 (by omega)
  | .bool b, _ => exact ⟨rfl, by simp [PyData.depth], by cases b <;> decide⟩
  | .none, _ => exact ⟨rfl, by simp [PyData.depth], by decide⟩
  | .list [.int i], h =>
    refine (shw_list (n := 0) (B := 10002) fun d hd => ?_).mono (by omega) (by simp)
    simp at hd
    subst hd
    exact shw_int (n := 208) (by rw [show i = 1 from h]; decide) (by omega)
theorem shw_sp {P : D → Prop} {n : Nat} {d : D} (hP : ∀ x, P x → It x) (hn : n ≤ 41) (h : SpD P n d) : Shw 2 820600 d := by
  rcases h with ⟨ds, hd, hl, hx⟩ | h
  · have hm : (20011 + 2) * ds.length + 3 ≤ 820600 := by
      have := Nat.mul_le_mul_left (20011 + 2) (Nat.le_trans hl hn)
      omega
    rcases hd with rfl | rfl
    · exact (shw_list fun x hx2 => shw_it (hP x (hx x hx2))).mono (by omega) hm
    · exact (shw_tuple fun x hx2 => shw_it (hP x (hx x hx2))).mono (by omega) hm
  · unfold menuR at h
    simp only [List.mem_cons, List.not_mem_nil, or_false] at h
    rcases h with rfl | rfl | rfl | rfl | rfl
    · exact (shw_it (d := .none) trivial).mono (by omega) (by omega)
    · exact (shw_str (x := "1") (by decide +kernel) (by decide +kernel)).mono (by omega) (by omega)
    · exact ⟨rfl, by simp [PyData.depth, PyData.depthKv], by decide⟩
    · exact (shw_it (d := .int 1) (by show (1 : Int).natAbs < 2 ^ 208; decide)).mono (by omega) (by omega)
    · exact (shw_it (d := .bool true) trivial).mono (by omega) (by omega)
theorem sh_three {one two three : D} (h1 : Shw 2 820600 one) (h2 : Shw 2 820600 two) (h3 : Shw 2 820600 three) : shOk (.list [one, two, three]) := by
  have := shw_list (n := 2) (B := 820600) (ds := [one, two, three]) fun d hd => by
    simp at hd
    rcases hd with rfl | rfl | rfl
    · exact h1
    · exact h2
    · exact h3
  refine ⟨this.1, Nat.le_trans this.2.1 (by omega), Nat.le_trans this.2.2 ?_, _, .inl rfl⟩
  rw [sizeLine_eq]
  simp
end K1


/-! text V3j -/
set_option Elab.async false
set_option linter.all false
set_option maxRecDepth 100000
set_option maxHeartbeats 2000000
namespace K1
open PySem PySem.Spec PyProof.Rows L2 L2H DL T
open NumText (digitsVal AllDigits)
theorem ndig_lt (n : Nat) : n < 10 ^ ndig n := by
  induction n using Nat.strongRecOn with
  | _ n ih =>
    by_cases h : n < 10
    · rw [ndig_small h]
      omega
    · rw [ndig_big (by omega), Nat.pow_succ]
      have := ih (n / 10) (by omega)
      omega
theorem wcs_sz {r : Qn} (h : (wcs r).length ≤ 62) : Sz 210 r := by
  have key : ∀ n, ndig n ≤ 62 → n < 2 ^ 210 := fun n hn => Nat.lt_of_lt_of_le (ndig_lt n) (Nat.le_trans (Nat.pow_le_pow_right (by omega) hn) (by decide))
  have hi : ndig r.num.natAbs ≤ (icL r.num).length := by
    unfold icL
    split
    · rw [List.length_cons, dec_ndig]; omega
    · rw [dec_ndig]; omega
  unfold wcs at h
  by_cases q : r.den = 1
  · rw [if_pos q] at h
    refine ⟨key _ (by omega), ?_⟩
    rw [q]
    decide
  · rw [if_neg q, List.length_append, List.length_cons, dec_ndig] at h
    exact ⟨key _ (by omega), key _ (by omega)⟩
theorem it_fr {d : D} (h : It d) : FrOk d ∧ ∀ r, frac d = some r → Sz 210 r := by
  match d, h with
  | .int i, h =>
    refine ⟨trivial, fun r hr => ?_⟩
    have := Option.some.inj (show some ((i : Int) : Qn) = some r from hr)
    rw [← this]
    have h' : i.natAbs < 2 ^ 208 := h
    exact ⟨by rw [(den_int i).2]; exact lt_pow_le h' (by omega), by rw [(den_int i).1]; decide⟩
  | .str x, h => exact ⟨⟨Nat.le_trans h.1 (by omega), h.2.1⟩, fun r hr => h.2.2 r hr⟩
  | .tuple [.int a, .int b], h =>
    obtain ⟨h1, h2⟩ := h
    refine ⟨lt_pow_le h2 (by omega), fun r hr => ?_⟩
    have hr' : (if 1 ≤ b then some (mkRat a b.toNat) else none) = some r := hr
    by_cases q : 1 ≤ b
    · rw [if_pos q] at hr'
      rw [← Option.some.inj hr']
      exact sz_mk (lt_pow_le h1 (by omega)) (lt_pow_le (show b.toNat < 2 ^ 208 by omega) (by omega)) (by omega)
    · rw [if_neg q] at hr'
      cases hr'
  | .bool _, _ => exact ⟨trivial, fun r hr => by cases hr⟩
  | .none, _ => exact ⟨trivial, fun r hr => by cases hr⟩
  | .list [.int _], _ => exact ⟨trivial, fun r hr => by cases hr⟩
theorem menuR_no {d : D} (h : d ∈ menuR) : seqOf d = none := by
  unfold menuR at h
  simp only [List.mem_cons, List.not_mem_nil, or_false] at h
  rcases h with rfl | rfl | rfl | rfl | rfl <;> rfl
theorem sp_seq {P : D → Prop} {n : Nat} {d : D} (h : SpD P n d) {ds : List D} (hs : seqOf d = some ds) : ds.length ≤ n ∧ ∀ x ∈ ds, P x := by
  rcases h with ⟨es, hd, hl, hx⟩ | h
  · rcases hd with rfl | rfl
    · cases hs; exact ⟨hl, hx⟩
    · cases hs; exact ⟨hl, hx⟩
  · rw [menuR_no h] at hs
    cases hs
theorem row_sp {P : D → Prop} {n : Nat} {d : D} (hP : ∀ x, P x → It x) (hn : n ≤ 40) (h : SpD P n d) : RowOk d :=
  ⟨fun ds hs => Nat.le_trans (sp_seq h hs).1 hn, fun ds hs x hx => it_fr (hP x ((sp_seq h hs).2 x hx))⟩
theorem it_str {x : Str} (h : x.length ≤ 62) (hk : PyData.strOk x = true) : It (.str x) := by
  refine ⟨Nat.le_trans h (by omega), hk, fun r hr => ?_⟩
  have e := ratio_eq hr
  refine wcs_sz ?_
  rw [← e]
  rw [st_of x, st_len] at h
  exact h
/-- an item whose fraction's bottom is small -/
def PD (x : D) : Prop := It x ∧ ∀ r, frac x = some r → r.den ∣ 420
def chk (x : D) : Bool := match frac x with
  | none => true
  | some r => decide (420 % r.den = 0)
theorem chk_ok {x : D} (h : chk x = true) : ∀ r, frac x = some r → r.den ∣ 420 := fun r hr => by
  unfold chk at h
  rw [hr] at h
  exact Nat.dvd_of_mod_eq_zero (of_decide_eq_true h)
theorem menu_it : ∀ x ∈ menuS, It x := by
  intro x hx
  unfold menuS at hx
  simp only [List.mem_cons, List.not_mem_nil, or_false] at hx
  rcases hx with rfl | rfl | rfl | rfl | rfl | rfl | rfl | rfl | rfl | rfl
  · trivial
  · trivial
  · show (-1 : Int).natAbs < 2 ^ 208; decide
  · exact ⟨by decide, by decide⟩
  · exact it_str (by decide +kernel) (by decide +kernel)
  · exact it_str (by decide +kernel) (by decide +kernel)
  · rfl
  · exact ⟨by decide, by decide⟩
  · exact it_str (by decide +kernel) (by decide +kernel)
  · exact ⟨by decide, by decide⟩
theorem menu_c : (menuS.all fun x => chk x) = true := by decide +kernel
theorem menu_pd : ∀ x ∈ menuS, PD x := fun x hx => ⟨menu_it x hx, chk_ok (List.all_eq_true.mp menu_c x hx)⟩
theorem zero_pd : PD (.int 0) := ⟨by show (0 : Int).natAbs < 2 ^ 208; decide, fun r hr => by
  have := Option.some.inj (show some ((0 : Int) : Qn) = some r from hr)
  rw [← this, (den_int 0).1]
  decide⟩
theorem tri_ok {n : Nat} {one two three : D} (hn : n ≤ 30) (h1 : SpD It n one) (h2 : SpD It n two) (h3 : SpD PD n three) : TriOk one two three := by
  refine ⟨row_sp (fun x hx => hx) (by omega) h1, row_sp (fun x hx => hx) (by omega) h2, row_sp (fun x hx => hx.1) (by omega) h3, fun ds hs x hx r hr => ((sp_seq h3 hs).2 x hx).2 r hr, fun rs ht => ?_⟩
  obtain ⟨ds, hs, _, _, rfl⟩ := tab_seq ht
  have := (sp_seq h1 hs).1
  unfold frs
  rw [List.length_map]
  omega
/-! ### what is due is like itself -/
theorem like_due (o : Out) : LikeOk 5 (dueD o) := by
  cases o with
  | told i => exact ⟨by simp, fun x hx => by
      simp only [List.mem_cons, List.not_mem_nil, or_false] at hx
      rcases hx with rfl | rfl <;> trivial⟩
  | badT => exact ⟨by simp, fun x hx => by
      simp only [List.mem_cons, List.not_mem_nil, or_false] at hx
      rcases hx with rfl | rfl | rfl <;> trivial⟩
  | badC i => exact ⟨by simp, fun x hx => by
      simp only [List.mem_cons, List.not_mem_nil, or_false] at hx
      rcases hx with rfl | rfl | rfl <;> trivial⟩
  | many w n => exact ⟨by simp, fun x hx => by
      simp only [List.mem_cons, List.not_mem_nil, or_false] at hx
      rcases hx with rfl | rfl | rfl <;> trivial⟩
end K1


/-! text V3k -/
set_option Elab.async false
set_option linter.all false
set_option maxRecDepth 100000
set_option maxHeartbeats 2000000
namespace K1
open PySem PySem.Spec PyProof.Rows L2 L2H DL T
open NumText (digitsVal AllDigits)
variable {K : PySem.W.Frag} {ags : List Ag} {Qd : Rv → List (List D) → Prop} {Xq : Ex → List (List D) → Prop}
/-- a slot that holds d -/
def SlD (s : Sl) (d : D) : Prop := s = .im d ∨ ∃ ds, s = .ow ds ∧ d = .list ds
theorem sl_rv (rv : Rv) : SlD rv.sl rv.dat := by
  cases rv with
  | im d => exact .inl rfl
  | ow ds => exact .inr ⟨ds, rfl, rfl⟩
@[simp ↓] theorem kxt_0 (a b c : D) : itemD (.tuple [a, b, c]) 0 = some a := rfl
@[simp ↓] theorem kxt_1 (a b c : D) : itemD (.tuple [a, b, c]) 1 = some b := rfl
@[simp ↓] theorem kxt_2 (a b c : D) : itemD (.tuple [a, b, c]) 2 = some c := rfl
def tAsk (K : PySem.W.Frag) : TSd :=
  (dSeq (dFor (wA (dV 12)) (gN 13)
  (dSeq (dAsg (dCall sp_law_due (mCons (dIx (dV 13) (dC (.int 0))) (mCons (dIx (dV 13) (dC (.int 1))) (mCons (dIx (dV 13) (dC (.int 2))) (mNil))))) 14)
  (dIf (dNot (dB (dFz (dCall (sp_law_like 5) (mCons (dFz (dCall (sp_law_ask K) (mMut 1 (mCons (dIx (dV 13) (dC (.int 0))) (mCons (dIx (dV 13) (dC (.int 1))) (mCons (dIx (dV 13) (dC (.int 2))) (mNil))))))) (mCons (dV 14) (mNil)))))))
  (dRet (dEm (dC (.bool false))))
  (dNext))))
  (dIf (dB (dBin DL.rNe (dCB rRepr (dCons (dFz (dLst (dCons (dV 9) (dCons (dV 10) (dCons (dV 8) (dNil)))))) dNil)) (dV 11)))
  (dRet (dEm (dC (.bool false))))
  (dNext)))
def tEnd (K : PySem.W.Frag) : TSd :=
  (dSeq (dAsg (dEm (dCB rRepr (dCons (dFz (dLst (dCons (dV 9) (dCons (dV 10) (dCons (dV 8) (dNil)))))) dNil))) 11)
  (dSeq (dAsg (dLst (dCons (dTup (dCons (dV 9) (dCons (dV 10) (dCons (dV 8) (dNil))))) (dCons (dTup (dCons (dV 10) (dCons (dV 9) (dCons (dV 8) (dNil))))) (dCons (dTup (dCons (dV 9) (dCons (dV 9) (dCons (dV 8) (dNil))))) (dNil))))) 12)
  (tAsk K)))
theorem st_ask {De : En} {s0 s2 s3 s4 s5 s6 s7 s13 s14 : Sl} {jar : List D} {one two three : D} {c : Nat} (hk : ClsOk K) (hj : JarOk c jar) (hc : c < 2 ^ 37) (h1 : TriOk one two three) (h2 : TriOk two one three) (h3 : TriOk one one three) (hs : shOk (.list [one, two, three]))
    (hn : ∀ jar' y12 y13 y14, JarOk (c + 3) jar' → De.nx [s0, .ow jar', s2, s3, s4, s5, s6, s7, .im three, .im one, .im two, .im (.str (PyData.list [one, two, three]).shown), y12, y13, y14]) :
    tAsk K De [s0, .ow jar, s2, s3, s4, s5, s6, s7, .im three, .im one, .im two, .im (.str (PyData.list [one, two, three]).shown), .ow [.tuple [one, two, three], .tuple [two, one, three], .tuple [one, one, three]], s13, s14] := by
  have eqs : ∀ x : Str, eqD (.str x) (.str x) = true := fun x => by simp
  unfold tAsk
  simp
  refine ⟨fun i δ => ∃ (jar' : List D) (y12 y13 y14 : Sl), δ = [s0, .ow jar', s2, s3, s4, s5, s6, s7, .im three, .im one, .im two, .im (.str (PyData.list [one, two, three]).shown), y12, y13, y14] ∧ JarOk (c + i) jar', ⟨jar, _, _, _, rfl, hj⟩, fun i d δ hd hI => ?_, fun δ hI => ?_⟩
  · obtain ⟨jar', y12, y13, y14, rfl, hj'⟩ := hI
    obtain ⟨a, b, rfl, hab, hi⟩ : ∃ a b, d = .tuple [a, b, three] ∧ TriOk a b three ∧ i < 3 := by
      match i, hd with
      | 0, hd => cases hd; exact ⟨_, _, rfl, h1, by omega⟩
      | 1, hd => cases hd; exact ⟨_, _, rfl, h2, by omega⟩
      | 2, hd => cases hd; exact ⟨_, _, rfl, h3, by omega⟩
      | i + 3, hd => cases hd
    simp
    refine ⟨a, b, three, rfl, hab, ?_⟩
    simp
    refine ⟨_, jar', a, b, three, rfl, hk, hj', by omega, hab.o, hab.t, hab.h, hab.c, fun jar2 hj2 => ?_⟩
    simp
    refine ⟨_, rfl, like_due _, ?_⟩
    simp
    first
      | exact hj2
      | exact ⟨jar2, _, _, _, ⟨rfl, rfl, rfl⟩, hj2⟩
  · obtain ⟨jar', y12, y13, y14, rfl, hj'⟩ := hI
    simp
    exact ⟨by rw [sizeLine_eq]; omega, hs, hn _ _ _ _ hj'⟩
theorem st_end {De : En} {s0 s2 s3 s4 s5 s6 s7 s8 s11 s12 s13 s14 : Sl} {jar : List D} {one two three : D} {c : Nat} (hk : ClsOk K) (hj : JarOk c jar) (hc : c < 2 ^ 37) (h1 : TriOk one two three) (h2 : TriOk two one three) (h3 : TriOk one one three) (hs : shOk (.list [one, two, three])) (h8 : SlD s8 three)
    (hn : ∀ jar' y8 y11 y12 y13 y14, JarOk (c + 3) jar' → De.nx [s0, .ow jar', s2, s3, s4, s5, s6, s7, y8, .im one, .im two, y11, y12, y13, y14]) :
    tEnd K De [s0, .ow jar, s2, s3, s4, s5, s6, s7, s8, .im one, .im two, s11, s12, s13, s14] := by
  have A := fun s13 s14 => st_ask (De := De) (s0 := s0) (s2 := s2) (s3 := s3) (s4 := s4) (s5 := s5) (s6 := s6) (s7 := s7) (s13 := s13) (s14 := s14) hk hj hc h1 h2 h3 hs fun jar' y12 y13 y14 hj' => hn jar' _ _ _ _ _ hj'
  unfold tEnd
  generalize tAsk K = T2 at A ⊢
  rcases h8 with rfl | ⟨ds, rfl, rfl⟩
  all_goals
    simp [line2]
    exact ⟨by rw [sizeLine_eq]; omega, hs, by rw [sizeLine_eq]; omega, A _ _⟩
def RwD (P : D → Prop) (n : Nat) (d : D) : Prop := ∃ ds, (d = .list ds ∨ d = .tuple ds) ∧ 1 ≤ ds.length ∧ ds.length ≤ n ∧ ∀ x ∈ ds, P x
theorem RwD.sp {P : D → Prop} {n : Nat} {d : D} (h : RwD P n d) : SpD P (n + 1) d := by
  obtain ⟨ds, hd, _, hl, hx⟩ := h
  exact .inl ⟨ds, hd, by omega, hx⟩
theorem SpD.mono {P Q : D → Prop} {n m : Nat} {d : D} (h : SpD P n d) (hn : n ≤ m) (hP : ∀ x, P x → Q x) : SpD Q m d := by
  rcases h with ⟨ds, hd, hl, hx⟩ | h
  · exact .inl ⟨ds, hd, by omega, fun x hx2 => hP x (hx x hx2)⟩
  · exact .inr h
theorem RwD.seq {P : D → Prop} {n : Nat} {d : D} (h : RwD P n d) : ∃ ds, seqOf d = some ds ∧ 1 ≤ ds.length ∧ ds.length ≤ n ∧ ∀ x ∈ ds, P x := by
  obtain ⟨ds, hd, l1, l2, hp⟩ := h
  exact ⟨ds, by rcases hd with rfl | rfl <;> rfl, l1, l2, hp⟩
def tS8 (K : PySem.W.Frag) : TSd :=
  (dSeq (dAsg (dIfD (dB (dBin DL.rEq (dFz (dCall sp_law_draw (mMut 1 (mCons (dC (.int 6)) (mNil))))) (dC (.int 0)))) (dCall sp_law_spoilt (mMut 1 (mCons (dV 8) (mNil)))) (dEm (dV 8))) 8)
  (tEnd K))
def tS10 (K : PySem.W.Frag) : TSd :=
  (dSeq (dAsg (dEm (dIfE (dB (dBin DL.rEq (dFz (dCall sp_law_draw (mMut 1 (mCons (dC (.int 9)) (mNil))))) (dC (.int 0)))) (dFz (dCall sp_law_spoilt (mMut 1 (mCons (dV 10) (mNil))))) (dV 10))) 10)
  (tS8 K))
def tS9 (K : PySem.W.Frag) : TSd :=
  (dSeq (dAsg (dEm (dIfE (dB (dBin DL.rEq (dFz (dCall sp_law_draw (mMut 1 (mCons (dC (.int 9)) (mNil))))) (dC (.int 0)))) (dFz (dCall sp_law_spoilt (mMut 1 (mCons (dV 9) (mNil))))) (dV 9))) 9)
  (tS10 K))
theorem st_s8 {De : En} {s0 s2 s3 s4 s5 s6 s7 s8 s11 s12 s13 s14 : Sl} {jar : List D} {one two three : D} {c n : Nat} (hk : ClsOk K) (hj : JarOk c jar) (hc : c < 2 ^ 36) (hn : n ≤ 20) (h1 : SpD It (n + 1) one) (h2 : SpD It (n + 1) two) (h3 : RwD PD n three) (h8 : SlD s8 three)
    (hx : ∀ jar' y8 y9 y10 y11 y12 y13 y14, JarOk (c + 10) jar' → De.nx [s0, .ow jar', s2, s3, s4, s5, s6, s7, y8, y9, y10, y11, y12, y13, y14]) :
    tS8 K De [s0, .ow jar, s2, s3, s4, s5, s6, s7, s8, .im one, .im two, s11, s12, s13, s14] := by
  have A : ∀ {three : D} {y8 : Sl} {jar' : List D} {k : Nat}, SpD PD (n + 1) three → SlD y8 three → JarOk k jar' → k ≤ c + 6 → tEnd K De [s0, .ow jar', s2, s3, s4, s5, s6, s7, y8, .im one, .im two, s11, s12, s13, s14] := by
    intro three y8 jar' k g3 g8 hj' hk'
    exact st_end hk hj' (by omega) (tri_ok (by omega) h1 h2 g3) (tri_ok (by omega) h2 h1 g3) (tri_ok (by omega) h1 h1 g3) (sh_three (shw_sp (fun x h => h) (by omega) h1) (shw_sp (fun x h => h) (by omega) h2) (shw_sp (fun x h => h.1) (by omega) g3)) g8 fun jar2 y8 y11 y12 y13 y14 hj2 => hx _ _ _ _ _ _ _ _ (jar_mono hj2 (by omega))
  have h3s := h3.sp
  obtain ⟨ds, hsq, l1, l2, hp⟩ := h3.seq
  unfold tS8
  generalize tEnd K = T2 at A ⊢
  rcases h8 with rfl | ⟨es, rfl, rfl⟩
  all_goals
    simp
    refine ⟨_, jar, _, rfl, hj, by omega, by omega, by omega, fun d jar2 d1 d2 hj2 => ?_⟩
    simp
    by_cases q : d = 0
    · rw [if_pos q]
      refine ⟨_, jar2, _, ds, PD, rfl, hsq, hj2, by omega, l1, by omega, hp, menu_pd, zero_pd, fun rv jar3 hsp hj3 => ?_⟩
      simp
      exact A (hsp.mono (by omega) fun x h => h) (sl_rv rv) hj3 (by omega)
    · rw [if_neg q]
      exact A h3s (.inl rfl) hj2 (by omega)
theorem st_s10 {De : En} {s0 s2 s3 s4 s5 s6 s7 s8 s10 s11 s12 s13 s14 : Sl} {jar : List D} {one two three : D} {c n : Nat} (hk : ClsOk K) (hj : JarOk c jar) (hc : c < 2 ^ 35) (hn : n ≤ 20) (h1 : SpD It (n + 1) one) (h2 : RwD It n two) (h3 : RwD PD n three) (h8 : SlD s8 three) (h10 : SlD s10 two)
    (hx : ∀ jar' y8 y9 y10 y11 y12 y13 y14, JarOk (c + 20) jar' → De.nx [s0, .ow jar', s2, s3, s4, s5, s6, s7, y8, y9, y10, y11, y12, y13, y14]) :
    tS10 K De [s0, .ow jar, s2, s3, s4, s5, s6, s7, s8, .im one, s10, s11, s12, s13, s14] := by
  have A : ∀ {two : D} {jar' : List D} {k : Nat}, SpD It (n + 1) two → JarOk k jar' → k ≤ c + 6 → tS8 K De [s0, .ow jar', s2, s3, s4, s5, s6, s7, s8, .im one, .im two, s11, s12, s13, s14] := by
    intro two jar' k g2 hj' hk'
    exact st_s8 hk hj' (by omega) hn h1 g2 h3 h8 fun jar2 y8 y9 y10 y11 y12 y13 y14 hj2 => hx _ _ _ _ _ _ _ _ (jar_mono hj2 (by omega))
  have h2s := h2.sp
  obtain ⟨ds, hsq, l1, l2, hp⟩ := h2.seq
  unfold tS10
  generalize tS8 K = T2 at A ⊢
  rcases h10 with rfl | ⟨es, rfl, rfl⟩
  all_goals
    simp
    refine ⟨_, jar, _, rfl, hj, by omega, by omega, by omega, fun d jar2 d1 d2 hj2 => ?_⟩
    simp
    by_cases q : d = 0
    · rw [if_pos q]
      refine ⟨_, jar2, _, ds, It, rfl, hsq, hj2, by omega, l1, by omega, hp, menu_it, zero_pd.1, fun rv jar3 hsp hj3 => ?_⟩
      simp
      exact A (hsp.mono (by omega) fun x h => h) hj3 (by omega)
    · rw [if_neg q]
      exact A h2s hj2 (by omega)
theorem st_s9 {De : En} {s0 s2 s3 s4 s5 s6 s7 s8 s9 s10 s11 s12 s13 s14 : Sl} {jar : List D} {one two three : D} {c n : Nat} (hk : ClsOk K) (hj : JarOk c jar) (hc : c < 2 ^ 34) (hn : n ≤ 20) (h1 : RwD It n one) (h2 : RwD It n two) (h3 : RwD PD n three) (h8 : SlD s8 three) (h9 : SlD s9 one) (h10 : SlD s10 two)
    (hx : ∀ jar' y8 y9 y10 y11 y12 y13 y14, JarOk (c + 30) jar' → De.nx [s0, .ow jar', s2, s3, s4, s5, s6, s7, y8, y9, y10, y11, y12, y13, y14]) :
    tS9 K De [s0, .ow jar, s2, s3, s4, s5, s6, s7, s8, s9, s10, s11, s12, s13, s14] := by
  have A : ∀ {one : D} {jar' : List D} {k : Nat}, SpD It (n + 1) one → JarOk k jar' → k ≤ c + 6 → tS10 K De [s0, .ow jar', s2, s3, s4, s5, s6, s7, s8, .im one, s10, s11, s12, s13, s14] := by
    intro one jar' k g1 hj' hk'
    exact st_s10 hk hj' (by omega) hn g1 h2 h3 h8 h10 fun jar2 y8 y9 y10 y11 y12 y13 y14 hj2 => hx _ _ _ _ _ _ _ _ (jar_mono hj2 (by omega))
  have h1s := h1.sp
  obtain ⟨ds, hsq, l1, l2, hp⟩ := h1.seq
  unfold tS9
  generalize tS10 K = T2 at A ⊢
  rcases h9 with rfl | ⟨es, rfl, rfl⟩
  all_goals
    simp
    refine ⟨_, jar, _, rfl, hj, by omega, by omega, by omega, fun d jar2 d1 d2 hj2 => ?_⟩
    simp
    by_cases q : d = 0
    · rw [if_pos q]
      refine ⟨_, jar2, _, ds, It, rfl, hsq, hj2, by omega, l1, by omega, hp, menu_it, zero_pd.1, fun rv jar3 hsp hj3 => ?_⟩
      simp
      exact A (hsp.mono (by omega) fun x h => h) hj3 (by omega)
    · rw [if_neg q]
      exact A h1s hj2 (by omega)
/-! ### rows of fractions -/
theorem ndig_204 {n : Nat} (h : n < 2 ^ 204) : ndig n ≤ 62 := by
  have key : ∀ m n : Nat, n < 10 ^ (m + 1) → ndig n ≤ m + 1 := by
    intro m
    induction m with
    | zero =>
      intro n hn
      rw [ndig_small (by simpa using hn)]
      omega
    | succ m ih =>
      intro n hn
      by_cases q : n < 10
      · rw [ndig_small q]; omega
      · rw [ndig_big (by omega)]
        have := ih (n / 10) (by rw [Nat.pow_succ] at hn; omega)
        omega
  exact key 61 n (Nat.lt_of_lt_of_le h (by decide))
theorem wcs_130 {r : Qn} (h : Sz 204 r) : (wcs r).length ≤ 130 := by
  have a := ndig_204 h.1
  have b := ndig_204 h.2
  have d1 : (icL r.num).length ≤ 63 := by
    unfold icL
    split
    · rw [List.length_cons, dec_ndig]; omega
    · rw [dec_ndig]; omega
  unfold wcs
  split
  · omega
  · rw [List.length_append, List.length_cons, dec_ndig]
    omega
def tW (K : PySem.W.Frag) : TSd :=
  (dSeq (dAsg (dCall sp_law_ways (mMut 1 (mCons (dV 4) (mNil)))) 9)
  (dSeq (dAsg (dCall sp_law_ways (mMut 1 (mCons (dV 7) (mNil)))) 10)
  (tS9 K)))
theorem ways_rw {P : D → Prop} {n : Nat} {rs : List Qn} {ws : List D} {rv : Rv} (hl : ws.length = rs.length) (h1 : 1 ≤ rs.length) (hn : rs.length ≤ n) (hr : rv = .ow ws ∨ rv = .im (.tuple ws)) (hP : ∀ w ∈ ws, P w) : RwD P n rv.dat := by
  refine ⟨ws, ?_, by omega, by omega, hP⟩
  rcases hr with rfl | rfl
  · exact .inl rfl
  · exact .inr rfl
theorem st_w {De : En} {s0 s2 s3 s4 s5 s6 s7 s8 s9 s10 s11 s12 s13 s14 : Sl} {jar : List D} {l r : List Qn} {three : D} {c n : Nat} (hk : ClsOk K) (hj : JarOk c jar) (hc : c < 2 ^ 33) (hn : n ≤ 20)
    (hl : 1 ≤ l.length ∧ l.length ≤ n ∧ ∀ x ∈ l, Sz 204 x) (hr : 1 ≤ r.length ∧ r.length ≤ n ∧ ∀ x ∈ r, Sz 204 x) (h3 : RwD PD n three) (h4 : SlD s4 (.list (l.map dr))) (h7 : SlD s7 (.list (r.map dr))) (h8 : SlD s8 three)
    (hx : ∀ jar' y4 y7 y8 y9 y10 y11 y12 y13 y14, JarOk (c + 240) jar' → De.nx [s0, .ow jar', s2, s3, y4, s5, s6, y7, y8, y9, y10, y11, y12, y13, y14]) :
    tW K De [s0, .ow jar, s2, s3, s4, s5, s6, s7, s8, s9, s10, s11, s12, s13, s14] := by
  have A : ∀ {one two : D} {y4 y7 y9 y10 : Sl} {jar' : List D} {k : Nat}, RwD It n one → RwD It n two → SlD y9 one → SlD y10 two → JarOk k jar' → k ≤ c + 200 → tS9 K De [s0, .ow jar', s2, s3, y4, s5, s6, y7, s8, y9, y10, s11, s12, s13, s14] := by
    intro one two y4 y7 y9 y10 jar' k g1 g2 g9 g10 hj' hk'
    exact st_s9 hk hj' (by omega) hn g1 g2 h3 h8 g9 g10 fun jar2 y8 y9 y10 y11 y12 y13 y14 hj2 => hx _ _ _ _ _ _ _ _ _ _ (jar_mono hj2 (by omega))
  have e4 : s4 = .im (.list (l.map dr)) ∨ s4 = .ow (l.map dr) := by
    rcases h4 with h | ⟨ds, h, e⟩
    · exact .inl h
    · cases e; exact .inr h
  have e7 : s7 = .im (.list (r.map dr)) ∨ s7 = .ow (r.map dr) := by
    rcases h7 with h | ⟨ds, h, e⟩
    · exact .inl h
    · cases e; exact .inr h
  unfold tW
  generalize tS9 K = T2 at A ⊢
  rcases e4 with rfl | rfl <;> rcases e7 with rfl | rfl
  all_goals
    simp
    refine ⟨_, jar, l, rfl, hj, by omega, by omega, fun x hm => ⟨hl.2.2 x hm, wcs_130 (hl.2.2 x hm)⟩, fun ws rv jar3 hw hi hrv hj3 => ?_⟩
    have g1 : RwD It n rv.dat := ways_rw hw (by omega) (by omega) hrv fun w hm => (hi w hm).1
    have g9 := sl_rv rv
    generalize rv.dat = one at g1 g9
    simp
    generalize rv.sl = y9 at g9 ⊢
    refine ⟨_, jar3, r, rfl, hj3, by omega, by omega, fun x hm => ⟨hr.2.2 x hm, wcs_130 (hr.2.2 x hm)⟩, fun ws2 rv2 jar4 hw2 hi2 hrv2 hj4 => ?_⟩
    have g2 : RwD It n rv2.dat := ways_rw hw2 (by omega) (by omega) hrv2 fun w hm => (hi2 w hm).1
    have g10 := sl_rv rv2
    generalize rv2.dat = two at g2 g10
    simp
    generalize rv2.sl = y10 at g10 ⊢
    exact A g1 g2 g9 g10 hj4 (by omega)
end K1


/-! text V3l -/
set_option Elab.async false
set_option linter.all false
set_option maxRecDepth 100000
set_option maxHeartbeats 2000000
namespace K1
open PySem PySem.Spec PyProof.Rows L2 L2H DL T
open NumText (digitsVal AllDigits)
variable {K : PySem.W.Frag} {ags : List Ag} {Qd : Rv → List (List D) → Prop} {Xq : Ex → List (List D) → Prop}
def tBig (K : PySem.W.Frag) : TSd :=
  (dSeq (dIf (dB (dBin DL.rEq (dFz (dCall sp_law_draw (mMut 1 (mCons (dC (.int 12)) (mNil))))) (dC (.int 0))))
  (dSeq (dAsg (dCall sp_law_pick (mMut 1 (mCons (dFz (dLst (dCons (dBin rPow (dC (.int 10)) (dC (.int 59))) (dCons (dBin rPow (dC (.int 10)) (dC (.int 60))) (dNil))))) (mNil)))) 6)
  (dSeq (dAsg (dLst (dCons (dTup (dCons (dC (.int 1)) (dCons (dV 6) (dNil)))) (dCons (dTup (dCons (dBin DL.rSub (dV 6) (dC (.int 1))) (dCons (dV 6) (dNil)))) (dNil)))) 4)
  (dSeq (dAsg (dCall sp_law_shares (mMut 1 (mCons (dC (.int 2)) (mNil)))) 7)
  (dAsg (dLst (dCons (dFz (dCall sp_law_draw (mMut 1 (mCons (dC (.int 6)) (mNil))))) (dCons (dFz (dCall sp_law_draw (mMut 1 (mCons (dC (.int 6)) (mNil))))) (dNil)))) 8))))
  (dNext))
  (tW K))
theorem sz_nine {r : Qn} (h : 0 ≤ r.num ∧ r.num ≤ 9 ∧ r.den ≤ 1000) : Sz 204 r :=
  ⟨Nat.lt_of_lt_of_le (show r.num.natAbs < 2 ^ 4 by omega) (pow_le2 (by omega)), Nat.lt_of_lt_of_le (show r.den < 2 ^ 10 by omega) (pow_le2 (by omega))⟩
theorem dr_red {t : Int} {b : Nat} (h0 : b ≠ 0) (h : Int.gcd t b = 1) : dr (mkRat t b) = .tuple [.int t, .int (b : Nat)] := by
  obtain ⟨h1, h2⟩ := mk_red h0 h
  unfold dr
  rw [h1, h2]
theorem sz_red {t : Int} {b : Nat} (h0 : b ≠ 0) (h : Int.gcd t b = 1) (h1 : t.natAbs < 2 ^ 204) (h2 : b < 2 ^ 204) : Sz 204 (mkRat t b) := by
  obtain ⟨e1, e2⟩ := mk_red h0 h
  exact ⟨by rw [e1]; exact h1, by rw [e2]; exact h2⟩
theorem pd_small {v : Int} (h1 : 0 ≤ v) (h2 : v < 6) : PD (.int v) := by
  refine ⟨?_, fun r hr => ?_⟩
  · show v.natAbs < 2 ^ 208
    exact Nat.lt_of_lt_of_le (show v.natAbs < 2 ^ 3 by omega) (pow_le2 (by omega))
  · have := Option.some.inj (show some ((v : Int) : Qn) = some r from hr)
    rw [← this, (den_int v).1]
    exact ⟨420, rfl⟩
theorem st_big {De : En} {s0 s2 s3 s4 s5 s6 s7 s8 s9 s10 s11 s12 s13 s14 : Sl} {jar : List D} {l r : List Qn} {three : D} {c n : Nat} (hk : ClsOk K) (hj : JarOk c jar) (hc : c < 2 ^ 32) (hn : n ≤ 20)
    (hl : 1 ≤ l.length ∧ l.length ≤ n ∧ ∀ x ∈ l, Sz 204 x) (hr : 1 ≤ r.length ∧ r.length ≤ n ∧ ∀ x ∈ r, Sz 204 x) (h3 : RwD PD n three) (h4 : SlD s4 (.list (l.map dr))) (h7 : SlD s7 (.list (r.map dr))) (h8 : SlD s8 three)
    (hx : ∀ jar' y4 y6 y7 y8 y9 y10 y11 y12 y13 y14, JarOk (c + 360) jar' → De.nx [s0, .ow jar', s2, s3, y4, s5, y6, y7, y8, y9, y10, y11, y12, y13, y14]) :
    tBig K De [s0, .ow jar, s2, s3, s4, s5, s6, s7, s8, s9, s10, s11, s12, s13, s14] := by
  have A : ∀ {m : Nat} {l r : List Qn} {three : D} {y4 y6 y7 y8 : Sl} {jar' : List D} {k : Nat}, m ≤ 20 → (1 ≤ l.length ∧ l.length ≤ m ∧ ∀ x ∈ l, Sz 204 x) → (1 ≤ r.length ∧ r.length ≤ m ∧ ∀ x ∈ r, Sz 204 x) → RwD PD m three → SlD y4 (.list (l.map dr)) → SlD y7 (.list (r.map dr)) → SlD y8 three →
      JarOk k jar' → k ≤ c + 110 → tW K De [s0, .ow jar', s2, s3, y4, s5, y6, y7, y8, s9, s10, s11, s12, s13, s14] := by
    intro m l r three y4 y6 y7 y8 jar' k hm g1 g2 g3 g4 g7 g8 hj' hk'
    exact st_w hk hj' (by omega) hm g1 g2 g3 g4 g7 g8 fun jar2 y4 y7 y8 y9 y10 y11 y12 y13 y14 hj2 => hx _ _ _ _ _ _ _ _ _ _ _ (jar_mono hj2 (by omega))
  unfold tBig
  generalize tW K = T2 at A ⊢
  simp
  refine ⟨_, jar, _, rfl, hj, by omega, by omega, by omega, fun d jar2 d1 d2 hj2 => ?_⟩
  simp
  by_cases q : d = 0
  · rw [if_pos q]
    refine ⟨⟨by decide, by decide, by decide⟩, ⟨by decide, by decide, by decide⟩, by rw [sizeLine_eq]; omega, _, jar2, _, rfl, hj2, by omega, by simp, by simp, fun x hxm jar3 hj3 => ?_⟩
    obtain ⟨k, rfl, k1, k2, k3, k4⟩ : ∃ k : Nat, x = .int (k : Nat) ∧ 1 ≤ k ∧ k < 2 ^ 204 ∧ Int.gcd 1 (k : Nat) = 1 ∧ Int.gcd ((k : Int) - 1) (k : Nat) = 1 := by
      simp only [List.mem_cons, List.not_mem_nil, or_false] at hxm
      rcases hxm with rfl | rfl
      · exact ⟨10 ^ 59, by rfl, by decide, by decide, by decide +kernel, by decide +kernel⟩
      · exact ⟨10 ^ 60, by rfl, by decide, by decide, by decide +kernel, by decide +kernel⟩
    simp [line2]
    refine ⟨_, jar3, 2, rfl, hj3, by omega, by omega, by omega, fun rs jar4 hl4 hr4 hj4 => ?_⟩
    simp
    refine ⟨_, jar4, _, rfl, hj4, by omega, by omega, by omega, fun a jar5 a1 a2 hj5 => ?_⟩
    simp
    refine ⟨_, jar5, _, rfl, hj5, by omega, by omega, by omega, fun b jar6 b1 b2 hj6 => ?_⟩
    simp [line2]
    refine A (m := 2) (l := [mkRat 1 k, mkRat ((k : Int) - 1) k]) (r := rs) (three := .list [.int a, .int b]) (by omega) ⟨by simp, by simp, fun x hx => ?_⟩ ⟨by omega, by omega, fun x hx => sz_nine (hr4 x hx)⟩ ⟨_, .inl rfl, by simp, by simp, fun x hx => ?_⟩ (.inr ⟨_, rfl, ?_⟩) (.inr ⟨_, rfl, rfl⟩) (.inr ⟨_, rfl, rfl⟩) hj6 (by omega)
    · simp only [List.mem_cons, List.not_mem_nil, or_false] at hx
      rcases hx with rfl | rfl
      · exact sz_red (by omega) k3 (by decide) k2
      · exact sz_red (by omega) k4 (by omega) k2
    · simp only [List.mem_cons, List.not_mem_nil, or_false] at hx
      rcases hx with rfl | rfl
      · exact pd_small a1 a2
      · exact pd_small b1 b2
    · rw [List.map_cons, List.map_cons, List.map_nil, dr_red (by omega) k3, dr_red (by omega) k4]
  · rw [if_neg q]
    exact A hn hl hr h3 h4 h7 h8 hj2 (by omega)
def tThree (K : PySem.W.Frag) : TSd :=
  (dSeq (dAsg (dCall sp_law_ways (mMut 1 (mCons (dFz (dCall sp_law_powers (mMut 1 (mCons (dV 3) (mNil))))) (mNil)))) 8)
  (tBig K))
theorem den_7 {d : Nat} (h0 : 0 < d) (h : d ≤ 7) : d ∣ 420 := by
  have : ∀ d : Nat, d ≤ 7 → 0 < d → d ∣ 420 := by decide
  exact this d h h0
theorem st_three {De : En} {s0 s2 s4 s5 s6 s7 s8 s9 s10 s11 s12 s13 s14 : Sl} {jar : List D} {l r : List Qn} {c n : Nat} (hk : ClsOk K) (hj : JarOk c jar) (hc : c < 2 ^ 31) (h0 : 1 ≤ n) (hn : n ≤ 20)
    (hl : 1 ≤ l.length ∧ l.length ≤ n ∧ ∀ x ∈ l, Sz 204 x) (hr : 1 ≤ r.length ∧ r.length ≤ n ∧ ∀ x ∈ r, Sz 204 x) (h4 : SlD s4 (.list (l.map dr))) (h7 : SlD s7 (.list (r.map dr)))
    (hx : ∀ jar' y4 y6 y7 y8 y9 y10 y11 y12 y13 y14, JarOk (c + 4500) jar' → De.nx [s0, .ow jar', s2, .im (.int (n : Nat)), y4, s5, y6, y7, y8, y9, y10, y11, y12, y13, y14]) :
    tThree K De [s0, .ow jar, s2, .im (.int (n : Nat)), s4, s5, s6, s7, s8, s9, s10, s11, s12, s13, s14] := by
  have A : ∀ {three : D} {y8 : Sl} {jar' : List D} {k : Nat}, RwD PD n three → SlD y8 three → JarOk k jar' → k ≤ c + 4100 → tBig K De [s0, .ow jar', s2, .im (.int (n : Nat)), s4, s5, s6, s7, y8, s9, s10, s11, s12, s13, s14] := by
    intro three y8 jar' k g3 g8 hj' hk'
    exact st_big hk hj' (by omega) hn hl hr g3 h4 h7 g8 fun jar2 y4 y6 y7 y8 y9 y10 y11 y12 y13 y14 hj2 => hx _ _ _ _ _ _ _ _ _ _ _ (jar_mono hj2 (by omega))
  unfold tThree
  generalize tBig K = T2 at A ⊢
  simp
  refine ⟨_, jar, n, rfl, hj, by omega, h0, by omega, fun rs jar2 hl2 hr2 hj2 => ?_⟩
  simp
  have hz : ∀ r ∈ rs, Sz 204 r := fun r hr => ⟨Nat.lt_of_lt_of_le (hr2 r hr).1 (by decide), Nat.lt_of_le_of_lt (hr2 r hr).2 (by decide)⟩
  refine ⟨_, jar2, rs, rfl, hj2, by omega, by omega, fun x hm => ⟨hz x hm, wcs_130 (hz x hm)⟩, fun ws rv jar3 hw hi hrv hj3 => ?_⟩
  have g3 : RwD PD n rv.dat := ways_rw hw (by omega) (by omega) hrv fun w hm => by
    obtain ⟨hit, r, hrm, hf⟩ := hi w hm
    refine ⟨hit, fun r2 hf2 => ?_⟩
    rw [hf] at hf2
    rw [← Option.some.inj hf2]
    exact den_7 (den_pos r) (hr2 r hrm).2
  have g8 := sl_rv rv
  generalize rv.dat = three at g3 g8
  simp
  generalize rv.sl = y8 at g8 ⊢
  exact A g3 g8 hj3 (by omega)
theorem t_law_eq (K : PySem.W.Frag) : t_law K = dSeq (dAsg (dCall sp_law_jar (mCons (dV 0) (mNil))) 1)
  (dSeq (dFor (wR1 (dCons (dC (.int 4)) (dNil))) (gN 2)
  (dSeq (dAsg (dEm (dBin DL.rAdd (dC (.int 1)) (dFz (dCall sp_law_draw (mMut 1 (mCons (dC (.int 5)) (mNil))))))) 3)
  (dSeq (dAsg (dCall sp_law_shares (mMut 1 (mCons (dV 3) (mNil)))) 4)
  (dSeq (dAsg (dCall sp_law_draw (mMut 1 (mCons (dC (.int 4)) (mNil)))) 5)
  (dSeq (dAsg (dCall sp_law_draw (mMut 1 (mCons (dV 3) (mNil)))) 6)
  (dSeq (dAsg (dIfD (dB (dBin DL.rEq (dV 5) (dC (.int 0)))) (dEm (dV 4)) (dIfD (dB (dBin DL.rEq (dV 5) (dC (.int 1)))) (dCat (dSl (dV 4) (pSo (dV 6)) (pNo)) (dSl (dV 4) (pNo) (pSo (dV 6)))) (dCall sp_law_shares (mMut 1 (mCons (dV 3) (mNil)))))) 7)
  (tThree K)))))))
  (dRet (dEm (dC (.bool true))))) := rfl
theorem no_law_like (h : sp_law_like 0 ags Qd Xq) : False := by
  obtain ⟨d, _, h, _⟩ := h
  exact h
def I_law (xs : List Int) (i : Nat) (δ : Ds) : Prop := ∃ (jar : List D) (x2 x3 x4 x5 x6 x7 x8 x9 x10 x11 x12 x13 x14 : Sl), δ = [.im (.list (xs.map .int)), .ow jar, x2, x3, x4, x5, x6, x7, x8, x9, x10, x11, x12, x13, x14] ∧ JarOk (i * 10000) jar
theorem v_law (h : sp_law K ags Qd Xq) : t_law K (endD ags Qd Xq) (startD N_law ags) := by
  obtain ⟨xs, rfl, k, hl, h⟩ := h
  rw [t_law_eq]
  have W : ∀ {De : En} {s0 s2 s4 s5 s6 s7 s8 s9 s10 s11 s12 s13 s14 : Sl} {jar : List D} {l r : List Qn} {c n : Nat}, JarOk c jar → c < 2 ^ 31 → 1 ≤ n → n ≤ 20 →
    (1 ≤ l.length ∧ l.length ≤ n ∧ ∀ x ∈ l, Sz 204 x) → (1 ≤ r.length ∧ r.length ≤ n ∧ ∀ x ∈ r, Sz 204 x) → SlD s4 (.list (l.map dr)) → SlD s7 (.list (r.map dr)) →
    (∀ jar' y4 y6 y7 y8 y9 y10 y11 y12 y13 y14, JarOk (c + 4500) jar' → De.nx [s0, .ow jar', s2, .im (.int (n : Nat)), y4, s5, y6, y7, y8, y9, y10, y11, y12, y13, y14]) → tThree K De [s0, .ow jar, s2, .im (.int (n : Nat)), s4, s5, s6, s7, s8, s9, s10, s11, s12, s13, s14] := fun hj hc h0 hn hl hr h4 h7 hx => st_three k hj hc h0 hn hl hr h4 h7 hx
  generalize tThree K = T2 at W ⊢
  simp [N_law]
  refine ⟨xs, rfl, hl, fun jar hj => ?_⟩
  simp
  refine ⟨⟨by omega, by omega⟩, I_law xs, ⟨jar, _, _, _, _, _, _, _, _, _, _, _, _, _, rfl, hj⟩, fun i d δ hd hI => ?_, fun δ hI => ?_⟩
  · obtain ⟨jar, x2, x3, x4, x5, x6, x7, x8, x9, x10, x11, x12, x13, x14, rfl, hj⟩ := hI
    obtain ⟨hi, rfl⟩ := upTo_get' hd
    simp
    refine ⟨_, jar, _, rfl, hj, by omega, by omega, by omega, fun a1 jar1 a2 a3 hj1 => ?_⟩
    simp
    obtain ⟨n, hn⟩ := Int.eq_ofNat_of_zero_le (show 0 ≤ 1 + a1 by omega)
    rw [hn]
    refine ⟨_, jar1, n, rfl, hj1, by omega, by omega, by omega, fun rs jar2 hl2 hr2 hj2 => ?_⟩
    simp
    refine ⟨_, jar2, _, rfl, hj2, by omega, by omega, by omega, fun way jar3 w1 w2 hj3 => ?_⟩
    simp
    refine ⟨_, jar3, _, rfl, hj3, by omega, by omega, by omega, fun kk jar4 k1 k2 hj4 => ?_⟩
    obtain ⟨m, rfl⟩ := Int.eq_ofNat_of_zero_le k1
    have z1 : ∀ x ∈ rs, Sz 204 x := fun x hx => sz_nine (hr2 x hx)
    have fin : ∀ {De : En} {r : List Qn} {y4 y7 : Sl} {jar' : List D} {q : Nat}, (∀ δ, I_law xs (i + 1) δ → De.nx δ) → (1 ≤ r.length ∧ r.length ≤ n ∧ ∀ x ∈ r, Sz 204 x) → SlD y4 (.list (rs.map dr)) → SlD y7 (.list (r.map dr)) → JarOk q jar' → q ≤ i * 10000 + 300 →
        T2 De [.im (.list (xs.map .int)), .ow jar', .im (.int (i : Nat)), .im (.int (n : Nat)), y4, .im (.int way), .im (.int (m : Nat)), y7, x8, x9, x10, x11, x12, x13, x14] := by
      intro De r y4 y7 jar' q hD hr h4 h7 hj' hq
      exact W hj' (by omega) (by omega) (by omega) ⟨by omega, by omega, z1⟩ hr h4 h7 fun jar5 y4 y6 y7 y8 y9 y10 y11 y12 y13 y14 hj5 => hD _ ⟨jar5, _, _, _, _, _, _, _, _, _, _, _, _, _, rfl, jar_mono hj5 (by omega)⟩
    simp
    by_cases q0 : way = 0
    · rw [if_pos q0]
      exact fin (fun δ h => h) (r := rs) ⟨by omega, by omega, z1⟩ (.inl rfl) (.inl rfl) hj4 (by omega)
    · rw [if_neg q0]
      by_cases q1 : way = 1
      · rw [if_pos q1]
        rw [cut_toD (by rw [List.length_map]; omega), cut_fromD (by rw [List.length_map]; omega)]
        refine ⟨by rw [List.length_take, List.length_drop, List.length_map, sizeLine_eq]; omega, fin (fun δ h => h) (r := rs.drop m ++ rs.take m) ⟨?_, ?_, fun x hx => ?_⟩ (.inl rfl) (.inr ⟨_, rfl, ?_⟩) hj4 (by omega)⟩
        · rw [List.length_append, List.length_take, List.length_drop]; omega
        · rw [List.length_append, List.length_take, List.length_drop]; omega
        · rcases List.mem_append.mp hx with hx | hx
          · exact z1 x (List.mem_of_mem_drop hx)
          · exact z1 x (List.mem_of_mem_take hx)
        · rw [List.map_append, List.map_drop, List.map_take]
      · rw [if_neg q1]
        refine ⟨_, jar4, n, rfl, hj4, by omega, by omega, by omega, fun rs3 jar5 hl3 hr3 hj5 => ?_⟩
        simp
        exact fin (fun δ h => h) (r := rs3) ⟨by omega, by omega, fun x hx => sz_nine (hr3 x hx)⟩ (.inr ⟨_, rfl, rfl⟩) (.inr ⟨_, rfl, rfl⟩) hj5 (by omega)
  · obtain ⟨jar, x2, x3, x4, x5, x6, x7, x8, x9, x10, x11, x12, x13, x14, rfl, hj⟩ := hI
    simp
    exact h
end K1


/-! text D -/
set_option Elab.async false
set_option linter.all false
set_option maxRecDepth 100000
set_option maxHeartbeats 0

namespace K1
open PySem PySem.Spec PyProof.Rows L2 L2H DL

structure Fns (K : PySem.W.Frag) (mg : Str → Option Value) : Prop where
  f_made_q : (∃ fd, FunD K "made_q" "made_q" a_made_q b_made_q s_made_q [] [] (He.ga K "made_q") fd) ∧ mg "made_q" = some (.ref (He.ga K "made_q"))
  f_add_q : (∃ fd, FunD K "add_q" "add_q" a_add_q b_add_q s_add_q [] [] (He.ga K "add_q") fd) ∧ mg "add_q" = some (.ref (He.ga K "add_q"))
  f_times_q : (∃ fd, FunD K "times_q" "times_q" a_times_q b_times_q s_times_q [] [] (He.ga K "times_q") fd) ∧ mg "times_q" = some (.ref (He.ga K "times_q"))
  f_over_q : (∃ fd, FunD K "over_q" "over_q" a_over_q b_over_q s_over_q [] [] (He.ga K "over_q") fd) ∧ mg "over_q" = some (.ref (He.ga K "over_q"))
  f_power_whole : (∃ fd, FunD K "power_whole" "power_whole" a_power_whole b_power_whole s_power_whole [] [] (He.ga K "power_whole") fd) ∧ mg "power_whole" = some (.ref (He.ga K "power_whole"))
  f_sum_q : (∃ fd, FunD K "sum_q" "sum_q" a_sum_q b_sum_q s_sum_q [] [] (He.ga K "sum_q") fd) ∧ mg "sum_q" = some (.ref (He.ga K "sum_q"))
  f_only_of : (∃ fd, FunD K "only_of" "only_of" a_only_of b_only_of s_only_of [] [] (He.ga K "only_of") fd) ∧ mg "only_of" = some (.ref (He.ga K "only_of"))
  f_is_digits : (∃ fd, FunD K "is_digits" "is_digits" a_is_digits b_is_digits s_is_digits [] [] (He.ga K "is_digits") fd) ∧ mg "is_digits" = some (.ref (He.ga K "is_digits"))
  f_value_of_digits : (∃ fd, FunD K "value_of_digits" "value_of_digits" a_value_of_digits b_value_of_digits s_value_of_digits [] [] (He.ga K "value_of_digits") fd) ∧ mg "value_of_digits" = some (.ref (He.ga K "value_of_digits"))
  f_whole_of : (∃ fd, FunD K "whole_of" "whole_of" a_whole_of b_whole_of s_whole_of [] [] (He.ga K "whole_of") fd) ∧ mg "whole_of" = some (.ref (He.ga K "whole_of"))
  f_ratio_of : (∃ fd, FunD K "ratio_of" "ratio_of" a_ratio_of b_ratio_of s_ratio_of [] [] (He.ga K "ratio_of") fd) ∧ mg "ratio_of" = some (.ref (He.ga K "ratio_of"))
  f_is_row : (∃ fd, FunD K "is_row" "is_row" a_is_row b_is_row s_is_row [] [] (He.ga K "is_row") fd) ∧ mg "is_row" = some (.ref (He.ga K "is_row"))
  f_is_whole : (∃ fd, FunD K "is_whole" "is_whole" a_is_whole b_is_whole s_is_whole [] [] (He.ga K "is_whole") fd) ∧ mg "is_whole" = some (.ref (He.ga K "is_whole"))
  f_fraction_of : (∃ fd, FunD K "fraction_of" "fraction_of" a_fraction_of b_fraction_of s_fraction_of [] [] (He.ga K "fraction_of") fd) ∧ mg "fraction_of" = some (.ref (He.ga K "fraction_of"))
  f_digits_of : (∃ fd, FunD K "digits_of" "digits_of" a_digits_of b_digits_of s_digits_of [] [] (He.ga K "digits_of") fd) ∧ mg "digits_of" = some (.ref (He.ga K "digits_of"))
  f_longer_of : (∃ fd, FunD K "longer_of" "longer_of" a_longer_of b_longer_of s_longer_of [] [] (He.ga K "longer_of") fd) ∧ mg "longer_of" = some (.ref (He.ga K "longer_of"))
  f_ask_digits : (∃ fd, FunD K "ask_digits" "ask_digits" a_ask_digits b_ask_digits s_ask_digits [] [] (He.ga K "ask_digits") fd) ∧ mg "ask_digits" = some (.ref (He.ga K "ask_digits"))
  f_counts_among : (∃ fd, FunD K "counts_among" "counts_among" a_counts_among b_counts_among s_counts_among [] [] (He.ga K "counts_among") fd) ∧ mg "counts_among" = some (.ref (He.ga K "counts_among"))
  f_table_among : (∃ fd, FunD K "table_among" "table_among" a_table_among b_table_among s_table_among [] [] (He.ga K "table_among") fd) ∧ mg "table_among" = some (.ref (He.ga K "table_among"))
  f_bare_table : (∃ fd, FunD K "bare_table" "bare_table" a_bare_table b_bare_table s_bare_table [] [] (He.ga K "bare_table") fd) ∧ mg "bare_table" = some (.ref (He.ga K "bare_table"))
  f_bare_counts : (∃ fd, FunD K "bare_counts" "bare_counts" a_bare_counts b_bare_counts s_bare_counts [] [] (He.ga K "bare_counts") fd) ∧ mg "bare_counts" = some (.ref (He.ga K "bare_counts"))
  f_ask_cells : (∃ fd, FunD K "ask_cells" "ask_cells" a_ask_cells b_ask_cells s_ask_cells [] [] (He.ga K "ask_cells") fd) ∧ mg "ask_cells" = some (.ref (He.ga K "ask_cells"))
  f_ask_total : (∃ fd, FunD K "ask_total" "ask_total" a_ask_total b_ask_total s_ask_total [] [] (He.ga K "ask_total") fd) ∧ mg "ask_total" = some (.ref (He.ga K "ask_total"))
  f_least_multiple : (∃ fd, FunD K "least_multiple" "least_multiple" a_least_multiple b_least_multiple s_least_multiple [] [] (He.ga K "least_multiple") fd) ∧ mg "least_multiple" = some (.ref (He.ga K "least_multiple"))
  f_has_nought : (∃ fd, FunD K "has_nought" "has_nought" a_has_nought b_has_nought s_has_nought [] [] (He.ga K "has_nought") fd) ∧ mg "has_nought" = some (.ref (He.ga K "has_nought"))
  f_compared_fits : (∃ fd, FunD K "compared_fits" "compared_fits" a_compared_fits b_compared_fits s_compared_fits [] [] (He.ga K "compared_fits") fd) ∧ mg "compared_fits" = some (.ref (He.ga K "compared_fits"))
  f_fits_better : (∃ fd, FunD K "fits_better" "fits_better" a_fits_better b_fits_better s_fits_better [] [] (He.ga K "fits_better") fd) ∧ mg "fits_better" = some (.ref (He.ga K "fits_better"))
  f_law_jar : (∃ fd, FunD K "_law_jar" "_law_jar" a_law_jar b_law_jar s_law_jar [] [] (He.ga K "_law_jar") fd) ∧ mg "_law_jar" = some (.ref (He.ga K "_law_jar"))
  f_law_draw : (∃ fd, FunD K "_law_draw" "_law_draw" a_law_draw b_law_draw s_law_draw [] [] (He.ga K "_law_draw") fd) ∧ mg "_law_draw" = some (.ref (He.ga K "_law_draw"))
  f_law_pick : (∃ fd, FunD K "_law_pick" "_law_pick" a_law_pick b_law_pick s_law_pick [] [] (He.ga K "_law_pick") fd) ∧ mg "_law_pick" = some (.ref (He.ga K "_law_pick"))
  f_law_great : (∃ fd, FunD K "_law_great" "_law_great" a_law_great b_law_great s_law_great [] [] (He.ga K "_law_great") fd) ∧ mg "_law_great" = some (.ref (He.ga K "_law_great"))
  f_law_gcd : (∃ fd, FunD K "_law_gcd" "_law_gcd" a_law_gcd b_law_gcd s_law_gcd [] [] (He.ga K "_law_gcd") fd) ∧ mg "_law_gcd" = some (.ref (He.ga K "_law_gcd"))
  f_law_low : (∃ fd, FunD K "_law_low" "_law_low" a_law_low b_law_low s_law_low [] [] (He.ga K "_law_low") fd) ∧ mg "_law_low" = some (.ref (He.ga K "_law_low"))
  f_law_plus : (∃ fd, FunD K "_law_plus" "_law_plus" a_law_plus b_law_plus s_law_plus [] [] (He.ga K "_law_plus") fd) ∧ mg "_law_plus" = some (.ref (He.ga K "_law_plus"))
  f_law_power : (∃ fd, FunD K "_law_power" "_law_power" a_law_power b_law_power s_law_power [] [] (He.ga K "_law_power") fd) ∧ mg "_law_power" = some (.ref (He.ga K "_law_power"))
  f_law_word : (∃ fd, FunD K "_law_word" "_law_word" a_law_word b_law_word s_law_word [] [] (He.ga K "_law_word") fd) ∧ mg "_law_word" = some (.ref (He.ga K "_law_word"))
  f_law_whole : (∃ fd, FunD K "_law_whole" "_law_whole" a_law_whole b_law_whole s_law_whole [] [] (He.ga K "_law_whole") fd) ∧ mg "_law_whole" = some (.ref (He.ga K "_law_whole"))
  f_law_like : (∃ fd, FunD K "_law_like" "_law_like" a_law_like b_law_like s_law_like [] [] (He.ga K "_law_like") fd) ∧ mg "_law_like" = some (.ref (He.ga K "_law_like"))
  f_law_way : (∃ fd, FunD K "_law_way" "_law_way" a_law_way b_law_way s_law_way [] [] (He.ga K "_law_way") fd) ∧ mg "_law_way" = some (.ref (He.ga K "_law_way"))
  f_law_ways : (∃ fd, FunD K "_law_ways" "_law_ways" a_law_ways b_law_ways s_law_ways [] [] (He.ga K "_law_ways") fd) ∧ mg "_law_ways" = some (.ref (He.ga K "_law_ways"))
  f_law_said : (∃ fd, FunD K "_law_said" "_law_said" a_law_said b_law_said s_law_said [] [] (He.ga K "_law_said") fd) ∧ mg "_law_said" = some (.ref (He.ga K "_law_said"))
  f_law_read : (∃ fd, FunD K "_law_read" "_law_read" a_law_read b_law_read s_law_read [] [] (He.ga K "_law_read") fd) ∧ mg "_law_read" = some (.ref (He.ga K "_law_read"))
  f_law_fraction : (∃ fd, FunD K "_law_fraction" "_law_fraction" a_law_fraction b_law_fraction s_law_fraction [] [] (He.ga K "_law_fraction") fd) ∧ mg "_law_fraction" = some (.ref (He.ga K "_law_fraction"))
  f_law_digits : (∃ fd, FunD K "_law_digits" "_law_digits" a_law_digits b_law_digits s_law_digits [] [] (He.ga K "_law_digits") fd) ∧ mg "_law_digits" = some (.ref (He.ga K "_law_digits"))
  f_law_shares : (∃ fd, FunD K "_law_shares" "_law_shares" a_law_shares b_law_shares s_law_shares [] [] (He.ga K "_law_shares") fd) ∧ mg "_law_shares" = some (.ref (He.ga K "_law_shares"))
  f_law_ask : (∃ fd, FunD K "_law_ask" "_law_ask" a_law_ask b_law_ask s_law_ask [] [] (He.ga K "_law_ask") fd) ∧ mg "_law_ask" = some (.ref (He.ga K "_law_ask"))
  f_law_bad_table : (∃ fd, FunD K "_law_bad_table" "_law_bad_table" a_law_bad_table b_law_bad_table s_law_bad_table [] [] (He.ga K "_law_bad_table") fd) ∧ mg "_law_bad_table" = some (.ref (He.ga K "_law_bad_table"))
  f_law_bad_count : (∃ fd, FunD K "_law_bad_count" "_law_bad_count" a_law_bad_count b_law_bad_count s_law_bad_count [] [] (He.ga K "_law_bad_count") fd) ∧ mg "_law_bad_count" = some (.ref (He.ga K "_law_bad_count"))
  f_law_multiple : (∃ fd, FunD K "_law_multiple" "_law_multiple" a_law_multiple b_law_multiple s_law_multiple [] [] (He.ga K "_law_multiple") fd) ∧ mg "_law_multiple" = some (.ref (He.ga K "_law_multiple"))
  f_law_product : (∃ fd, FunD K "_law_product" "_law_product" a_law_product b_law_product s_law_product [] [] (He.ga K "_law_product") fd) ∧ mg "_law_product" = some (.ref (He.ga K "_law_product"))
  f_law_due : (∃ fd, FunD K "_law_due" "_law_due" a_law_due b_law_due s_law_due [] [] (He.ga K "_law_due") fd) ∧ mg "_law_due" = some (.ref (He.ga K "_law_due"))
  f_law_powers : (∃ fd, FunD K "_law_powers" "_law_powers" a_law_powers b_law_powers s_law_powers [] [] (He.ga K "_law_powers") fd) ∧ mg "_law_powers" = some (.ref (He.ga K "_law_powers"))
  f_law_spoilt : (∃ fd, FunD K "_law_spoilt" "_law_spoilt" a_law_spoilt b_law_spoilt s_law_spoilt [] [] (He.ga K "_law_spoilt") fd) ∧ mg "_law_spoilt" = some (.ref (He.ga K "_law_spoilt"))
  f_law : (∃ fd, FunD K "law" "law" a_law b_law s_law [] [] (He.ga K "law") fd) ∧ mg "law" = some (.ref (He.ga K "law"))
section
variable {P : Program} {w : World} {K : PySem.W.Frag} {mg : Str → Option Value} {base : Heap}
theorem D_made_q (g : Gls P w K mg base) (z : Fns K mg) : Dg P w K mg base "made_q" 1 ["top", "bottom"] sp_made_q := by
  obtain ⟨⟨fd, F⟩, hm⟩ := z.f_made_q
  exact ⟨_, fd, okG F sc_made_q (fun ags Q E h => by obtain ⟨_, _, rfl, _⟩ := h; rfl) (fun cdv A outer s H E R B ags Qd Xq C h => ⟨_, r_made_q (k := 0) g C , v_made_q h⟩), hm, F.kp, F.bindsN fun _ _ _ _ _ _ us hl => match us, hl with | [_, _], _ => rfl⟩
theorem D_add_q (g : Gls P w K mg base) (z : Fns K mg) : Dg P w K mg base "add_q" 2 ["p", "q"] sp_add_q := by
  obtain ⟨⟨fd, F⟩, hm⟩ := z.f_add_q
  exact ⟨_, fd, okG F sc_add_q (fun ags Q E h => by obtain ⟨_, _, _, _, rfl, _⟩ := h; rfl) (fun cdv A outer s H E R B ags Qd Xq C h => ⟨_, r_add_q (k := 0) g C (D_made_q g z), v_add_q h⟩), hm, F.kp, F.bindsN fun _ _ _ _ _ _ us hl => match us, hl with | [_, _], _ => rfl⟩
theorem D_times_q (g : Gls P w K mg base) (z : Fns K mg) : Dg P w K mg base "times_q" 1 ["p", "q"] sp_times_q := by
  obtain ⟨⟨fd, F⟩, hm⟩ := z.f_times_q
  exact ⟨_, fd, okG F sc_times_q (fun ags Q E h => by obtain ⟨_, _, _, _, rfl, _⟩ := h; rfl) (fun cdv A outer s H E R B ags Qd Xq C h => ⟨_, r_times_q (k := 0) g C , v_times_q h⟩), hm, F.kp, F.bindsN fun _ _ _ _ _ _ us hl => match us, hl with | [_, _], _ => rfl⟩
theorem D_over_q (g : Gls P w K mg base) (z : Fns K mg) : Dg P w K mg base "over_q" 2 ["p", "q"] sp_over_q := by
  obtain ⟨⟨fd, F⟩, hm⟩ := z.f_over_q
  exact ⟨_, fd, okG F sc_over_q (fun ags Q E h => by obtain ⟨_, _, rfl, _⟩ := h; rfl) (fun cdv A outer s H E R B ags Qd Xq C h => ⟨_, r_over_q (k := 0) g C (D_times_q g z), v_over_q h⟩), hm, F.kp, F.bindsN fun _ _ _ _ _ _ us hl => match us, hl with | [_, _], _ => rfl⟩
theorem D_power_whole (g : Gls P w K mg base) (z : Fns K mg) : Dg P w K mg base "power_whole" 1 ["n", "k"] sp_power_whole := by
  obtain ⟨⟨fd, F⟩, hm⟩ := z.f_power_whole
  exact ⟨_, fd, okG F sc_power_whole (fun ags Q E h => by obtain ⟨_, _, _, rfl, _⟩ := h; rfl) (fun cdv A outer s H E R B ags Qd Xq C h => ⟨_, r_power_whole (k := 0) g C , v_power_whole h⟩), hm, F.kp, F.bindsN fun _ _ _ _ _ _ us hl => match us, hl with | [_, _], _ => rfl⟩
theorem D_sum_q (g : Gls P w K mg base) (z : Fns K mg) : Dg P w K mg base "sum_q" 3 ["row"] sp_sum_q := by
  obtain ⟨⟨fd, F⟩, hm⟩ := z.f_sum_q
  exact ⟨_, fd, okG F sc_sum_q (fun ags Q E h => by obtain ⟨_, rfl, _⟩ := h; rfl) (fun cdv A outer s H E R B ags Qd Xq C h => ⟨_, r_sum_q (k := 0) g C (D_add_q g z), v_sum_q h⟩), hm, F.kp, F.bindsN fun _ _ _ _ _ _ us hl => match us, hl with | [_], _ => rfl⟩
theorem D_only_of (g : Gls P w K mg base) (z : Fns K mg) : Dg P w K mg base "only_of" 1 ["word", "signs"] sp_only_of := by
  obtain ⟨⟨fd, F⟩, hm⟩ := z.f_only_of
  exact ⟨_, fd, okG F sc_only_of (fun ags Q E h => by obtain ⟨_, _, rfl, _⟩ := h; rfl) (fun cdv A outer s H E R B ags Qd Xq C h => ⟨_, r_only_of (k := 0) g C , v_only_of h⟩), hm, F.kp, F.bindsN fun _ _ _ _ _ _ us hl => match us, hl with | [_, _], _ => rfl⟩
theorem D_is_digits (g : Gls P w K mg base) (z : Fns K mg) : Dg P w K mg base "is_digits" 2 ["word"] sp_is_digits := by
  obtain ⟨⟨fd, F⟩, hm⟩ := z.f_is_digits
  exact ⟨_, fd, okG F sc_is_digits (fun ags Q E h => by obtain ⟨_, rfl, _⟩ := h; rfl) (fun cdv A outer s H E R B ags Qd Xq C h => ⟨_, r_is_digits (k := 0) g C (D_only_of g z), v_is_digits h⟩), hm, F.kp, F.bindsN fun _ _ _ _ _ _ us hl => match us, hl with | [_], _ => rfl⟩
theorem D_value_of_digits (g : Gls P w K mg base) (z : Fns K mg) : Dg P w K mg base "value_of_digits" 1 ["word"] sp_value_of_digits := by
  obtain ⟨⟨fd, F⟩, hm⟩ := z.f_value_of_digits
  exact ⟨_, fd, okG F sc_value_of_digits (fun ags Q E h => by obtain ⟨_, rfl, _⟩ := h; rfl) (fun cdv A outer s H E R B ags Qd Xq C h => ⟨_, r_value_of_digits (k := 0) g C , v_value_of_digits h⟩), hm, F.kp, F.bindsN fun _ _ _ _ _ _ us hl => match us, hl with | [_], _ => rfl⟩
theorem D_whole_of (g : Gls P w K mg base) (z : Fns K mg) : Dg P w K mg base "whole_of" 3 ["word"] sp_whole_of := by
  obtain ⟨⟨fd, F⟩, hm⟩ := z.f_whole_of
  exact ⟨_, fd, okG F sc_whole_of (fun ags Q E h => by obtain ⟨_, rfl, _⟩ := h; rfl) (fun cdv A outer s H E R B ags Qd Xq C h => ⟨_, r_whole_of (k := 0) g C (D_is_digits g z) (D_value_of_digits g z), v_whole_of h⟩), hm, F.kp, F.bindsN fun _ _ _ _ _ _ us hl => match us, hl with | [_], _ => rfl⟩
theorem D_ratio_of (g : Gls P w K mg base) (z : Fns K mg) : Dg P w K mg base "ratio_of" 4 ["word"] sp_ratio_of := by
  obtain ⟨⟨fd, F⟩, hm⟩ := z.f_ratio_of
  exact ⟨_, fd, okG F sc_ratio_of (fun ags Q E h => by obtain ⟨_, rfl, _⟩ := h; rfl) (fun cdv A outer s H E R B ags Qd Xq C h => ⟨_, r_ratio_of (k := 0) g C (D_is_digits g z) (D_value_of_digits g z) (D_whole_of g z), v_ratio_of h⟩), hm, F.kp, F.bindsN fun _ _ _ _ _ _ us hl => match us, hl with | [_], _ => rfl⟩
theorem D_is_row (g : Gls P w K mg base) (z : Fns K mg) : Dg P w K mg base "is_row" 1 ["thing"] sp_is_row := by
  obtain ⟨⟨fd, F⟩, hm⟩ := z.f_is_row
  exact ⟨_, fd, okG F sc_is_row (fun ags Q E h => by obtain ⟨_, rfl, _⟩ := h; rfl) (fun cdv A outer s H E R B ags Qd Xq C h => ⟨_, r_is_row (k := 0) g C , v_is_row h⟩), hm, F.kp, F.bindsN fun _ _ _ _ _ _ us hl => match us, hl with | [_], _ => rfl⟩
theorem D_is_whole (g : Gls P w K mg base) (z : Fns K mg) : Dg P w K mg base "is_whole" 1 ["thing"] sp_is_whole := by
  obtain ⟨⟨fd, F⟩, hm⟩ := z.f_is_whole
  exact ⟨_, fd, okG F sc_is_whole (fun ags Q E h => by obtain ⟨_, rfl, _⟩ := h; rfl) (fun cdv A outer s H E R B ags Qd Xq C h => ⟨_, r_is_whole (k := 0) g C , v_is_whole h⟩), hm, F.kp, F.bindsN fun _ _ _ _ _ _ us hl => match us, hl with | [_], _ => rfl⟩
theorem D_fraction_of (g : Gls P w K mg base) (z : Fns K mg) : Dg P w K mg base "fraction_of" 5 ["thing"] sp_fraction_of := by
  obtain ⟨⟨fd, F⟩, hm⟩ := z.f_fraction_of
  exact ⟨_, fd, okG F sc_fraction_of (fun ags Q E h => by obtain ⟨_, rfl, _⟩ := h; rfl) (fun cdv A outer s H E R B ags Qd Xq C h => ⟨_, r_fraction_of (k := 0) g C (D_made_q g z) (D_ratio_of g z) (D_is_whole g z), v_fraction_of h⟩), hm, F.kp, F.bindsN fun _ _ _ _ _ _ us hl => match us, hl with | [_], _ => rfl⟩
theorem D_digits_of (g : Gls P w K mg base) (z : Fns K mg) : Dg P w K mg base "digits_of" 1 ["n"] sp_digits_of := by
  obtain ⟨⟨fd, F⟩, hm⟩ := z.f_digits_of
  exact ⟨_, fd, okG F sc_digits_of (fun ags Q E h => by obtain ⟨_, rfl, _⟩ := h; rfl) (fun cdv A outer s H E R B ags Qd Xq C h => ⟨_, r_digits_of (k := 0) g C , v_digits_of h⟩), hm, F.kp, F.bindsN fun _ _ _ _ _ _ us hl => match us, hl with | [_], _ => rfl⟩
theorem D_longer_of (g : Gls P w K mg base) (z : Fns K mg) : Dg P w K mg base "longer_of" 2 ["q"] sp_longer_of := by
  obtain ⟨⟨fd, F⟩, hm⟩ := z.f_longer_of
  exact ⟨_, fd, okG F sc_longer_of (fun ags Q E h => by obtain ⟨_, rfl, _⟩ := h; rfl) (fun cdv A outer s H E R B ags Qd Xq C h => ⟨_, r_longer_of (k := 0) g C (D_digits_of g z), v_longer_of h⟩), hm, F.kp, F.bindsN fun _ _ _ _ _ _ us hl => match us, hl with | [_], _ => rfl⟩
theorem D_ask_digits (g : Gls P w K mg base) (z : Fns K mg) : Dg P w K mg base "ask_digits" 3 ["row"] (sp_ask_digits K) := by
  obtain ⟨⟨fd, F⟩, hm⟩ := z.f_ask_digits
  exact ⟨_, fd, okG F sc_ask_digits (fun ags Q E h => by obtain ⟨_, rfl, _⟩ := h; rfl) (fun cdv A outer s H E R B ags Qd Xq C h => ⟨_, r_ask_digits (k := 0) g C (D_longer_of g z), v_ask_digits h⟩), hm, F.kp, F.bindsN fun _ _ _ _ _ _ us hl => match us, hl with | [_], _ => rfl⟩
theorem D_counts_among (g : Gls P w K mg base) (z : Fns K mg) : Dg P w K mg base "counts_among" 6 ["items", "full", "whole"] (sp_counts_among K) := by
  obtain ⟨⟨fd, F⟩, hm⟩ := z.f_counts_among
  exact ⟨_, fd, okG F sc_counts_among (fun ags Q E h => by obtain ⟨_, rfl, _⟩ := h; rfl) (fun cdv A outer s H E R B ags Qd Xq C h => ⟨_, r_counts_among (k := 0) g C (D_fraction_of g z), v_counts_among h⟩), hm, F.kp, F.bindsN fun _ _ _ _ _ _ us hl => match us, hl with | [_, _, _], _ => rfl⟩
theorem D_table_among (g : Gls P w K mg base) (z : Fns K mg) : Dg P w K mg base "table_among" 6 ["items", "edge"] (sp_table_among K) := by
  obtain ⟨⟨fd, F⟩, hm⟩ := z.f_table_among
  exact ⟨_, fd, okG F sc_table_among (fun ags Q E h => by obtain ⟨_, rfl, _⟩ := h; rfl) (fun cdv A outer s H E R B ags Qd Xq C h => ⟨_, r_table_among (k := 0) g C (D_sum_q g z) (D_fraction_of g z), v_table_among h⟩), hm, F.kp, F.bindsN fun _ _ _ _ _ _ us hl => match us, hl with | [_, _], _ => rfl⟩
theorem D_bare_table (g : Gls P w K mg base) (z : Fns K mg) : Dg P w K mg base "bare_table" 7 ["thing"] (sp_bare_table K) := by
  obtain ⟨⟨fd, F⟩, hm⟩ := z.f_bare_table
  exact ⟨_, fd, okG F sc_bare_table (fun ags Q E h => by obtain ⟨_, rfl, _⟩ := h; rfl) (fun cdv A outer s H E R B ags Qd Xq C h => ⟨_, r_bare_table (k := 0) g C (D_is_row g z) (D_table_among g z), v_bare_table h⟩), hm, F.kp, F.bindsN fun _ _ _ _ _ _ us hl => match us, hl with | [_], _ => rfl⟩
theorem D_bare_counts (g : Gls P w K mg base) (z : Fns K mg) : Dg P w K mg base "bare_counts" 7 ["thing", "many", "whole"] (sp_bare_counts K) := by
  obtain ⟨⟨fd, F⟩, hm⟩ := z.f_bare_counts
  exact ⟨_, fd, okG F sc_bare_counts (fun ags Q E h => by obtain ⟨_, _, rfl, _⟩ := h; rfl) (fun cdv A outer s H E R B ags Qd Xq C h => ⟨_, r_bare_counts (k := 0) g C (D_is_row g z) (D_counts_among g z), v_bare_counts h⟩), hm, F.kp, F.bindsN fun _ _ _ _ _ _ us hl => match us, hl with | [_, _, _], _ => rfl⟩
theorem D_ask_cells (g : Gls P w K mg base) (z : Fns K mg) : Dg P w K mg base "ask_cells" 3 ["many"] (sp_ask_cells K) := by
  obtain ⟨⟨fd, F⟩, hm⟩ := z.f_ask_cells
  exact ⟨_, fd, okG F sc_ask_cells (fun ags Q E h => by obtain ⟨_, rfl, _⟩ := h; rfl) (fun cdv A outer s H E R B ags Qd Xq C h => ⟨_, r_ask_cells (k := 0) g C , v_ask_cells h⟩), hm, F.kp, F.bindsN fun _ _ _ _ _ _ us hl => match us, hl with | [_], _ => rfl⟩
theorem D_ask_total (g : Gls P w K mg base) (z : Fns K mg) : Dg P w K mg base "ask_total" 3 ["total"] (sp_ask_total K) := by
  obtain ⟨⟨fd, F⟩, hm⟩ := z.f_ask_total
  exact ⟨_, fd, okG F sc_ask_total (fun ags Q E h => by obtain ⟨_, rfl, _⟩ := h; rfl) (fun cdv A outer s H E R B ags Qd Xq C h => ⟨_, r_ask_total (k := 0) g C , v_ask_total h⟩), hm, F.kp, F.bindsN fun _ _ _ _ _ _ us hl => match us, hl with | [_], _ => rfl⟩
theorem D_least_multiple (g : Gls P w K mg base) (z : Fns K mg) : Dg P w K mg base "least_multiple" 1 ["counts"] sp_least_multiple := by
  obtain ⟨⟨fd, F⟩, hm⟩ := z.f_least_multiple
  exact ⟨_, fd, okG F sc_least_multiple (fun ags Q E h => by obtain ⟨_, rfl, _⟩ := h; rfl) (fun cdv A outer s H E R B ags Qd Xq C h => ⟨_, r_least_multiple (k := 0) g C , v_least_multiple h⟩), hm, F.kp, F.bindsN fun _ _ _ _ _ _ us hl => match us, hl with | [_], _ => rfl⟩
theorem D_has_nought (g : Gls P w K mg base) (z : Fns K mg) : Dg P w K mg base "has_nought" 1 ["shares", "times"] sp_has_nought := by
  obtain ⟨⟨fd, F⟩, hm⟩ := z.f_has_nought
  exact ⟨_, fd, okG F sc_has_nought (fun ags Q E h => by obtain ⟨_, _, rfl, _⟩ := h; rfl) (fun cdv A outer s H E R B ags Qd Xq C h => ⟨_, r_has_nought (k := 0) g C , v_has_nought h⟩), hm, F.kp, F.bindsN fun _ _ _ _ _ _ us hl => match us, hl with | [_, _], _ => rfl⟩
theorem D_compared_fits (g : Gls P w K mg base) (z : Fns K mg) : Dg P w K mg base "compared_fits" 3 ["left", "right", "times"] sp_compared_fits := by
  obtain ⟨⟨fd, F⟩, hm⟩ := z.f_compared_fits
  exact ⟨_, fd, okG F sc_compared_fits (fun ags Q E h => by obtain ⟨_, _, _, rfl, _⟩ := h; rfl) (fun cdv A outer s H E R B ags Qd Xq C h => ⟨_, r_compared_fits (k := 0) g C (D_over_q g z) (D_power_whole g z) (D_has_nought g z), v_compared_fits h⟩), hm, F.kp, F.bindsN fun _ _ _ _ _ _ us hl => match us, hl with | [_, _, _], _ => rfl⟩
theorem D_fits_better (g : Gls P w K mg base) (z : Fns K mg) : Dg P w K mg base "fits_better" 8 ["p", "q", "counts"] (sp_fits_better K) := by
  obtain ⟨⟨fd, F⟩, hm⟩ := z.f_fits_better
  exact ⟨_, fd, okG F sc_fits_better (fun ags Q E h => by obtain ⟨_, _, _, rfl, _⟩ := h; rfl) (fun cdv A outer s H E R B ags Qd Xq C h => ⟨_, r_fits_better (k := 0) g C (D_ask_digits g z) (D_bare_table g z) (D_bare_counts g z) (D_ask_cells g z) (D_ask_total g z) (D_least_multiple g z) (D_compared_fits g z), v_fits_better h⟩), hm, F.kp, F.bindsN fun _ _ _ _ _ _ us hl => match us, hl with | [_, _, _], _ => rfl⟩
theorem DK_fits_better (g : Gls P w K mg base) (z : Fns K mg) : DgK P w K mg base "fits_better" 8 ["p", "q", "counts"] ["counts", "q", "p"] rev3 (sp_fits_better K) := by
  obtain ⟨⟨fd, F⟩, hm⟩ := z.f_fits_better
  exact ⟨_, fd, okG F sc_fits_better (fun ags Q E h => by obtain ⟨_, _, _, rfl, _⟩ := h; rfl) (fun cdv A outer s H E R B ags Qd Xq C h => ⟨_, r_fits_better (k := 0) g C (D_ask_digits g z) (D_bare_table g z) (D_bare_counts g z) (D_ask_cells g z) (D_ask_total g z) (D_least_multiple g z) (D_compared_fits g z), v_fits_better h⟩), hm, F.kp, kbN F fun _ _ _ _ _ _ ws hl => match ws, hl with | [_, _, _], _ => rfl⟩
theorem D_law_jar (g : Gls P w K mg base) (z : Fns K mg) : Dg P w K mg base "_law_jar" 1 ["script"] sp_law_jar := by
  obtain ⟨⟨fd, F⟩, hm⟩ := z.f_law_jar
  exact ⟨_, fd, okG F sc_law_jar (fun ags Q E h => by obtain ⟨_, rfl, _⟩ := h; rfl) (fun cdv A outer s H E R B ags Qd Xq C h => ⟨_, r_law_jar (k := 0) g C , v_law_jar h⟩), hm, F.kp, F.bindsN fun _ _ _ _ _ _ us hl => match us, hl with | [_], _ => rfl⟩
theorem D_law_draw (g : Gls P w K mg base) (z : Fns K mg) : Dg P w K mg base "_law_draw" 1 ["jar", "many"] sp_law_draw := by
  obtain ⟨⟨fd, F⟩, hm⟩ := z.f_law_draw
  exact ⟨_, fd, okG F sc_law_draw (fun ags Q E h => by obtain ⟨_, _, _, rfl, _⟩ := h; rfl) (fun cdv A outer s H E R B ags Qd Xq C h => ⟨_, r_law_draw (k := 0) g C , v_law_draw h⟩), hm, F.kp, F.bindsN fun _ _ _ _ _ _ us hl => match us, hl with | [_, _], _ => rfl⟩
theorem D_law_pick (g : Gls P w K mg base) (z : Fns K mg) : Dg P w K mg base "_law_pick" 2 ["jar", "menu"] sp_law_pick := by
  obtain ⟨⟨fd, F⟩, hm⟩ := z.f_law_pick
  exact ⟨_, fd, okG F sc_law_pick (fun ags Q E h => by obtain ⟨_, _, _, rfl, _⟩ := h; rfl) (fun cdv A outer s H E R B ags Qd Xq C h => ⟨_, r_law_pick (k := 0) g C (D_law_draw g z), v_law_pick h⟩), hm, F.kp, F.bindsN fun _ _ _ _ _ _ us hl => match us, hl with | [_, _], _ => rfl⟩
theorem D_law_great (g : Gls P w K mg base) (z : Fns K mg) : Dg P w K mg base "_law_great" 2 ["jar", "digits"] sp_law_great := by
  obtain ⟨⟨fd, F⟩, hm⟩ := z.f_law_great
  exact ⟨_, fd, okG F sc_law_great (fun ags Q E h => by obtain ⟨_, _, _, rfl, _⟩ := h; rfl) (fun cdv A outer s H E R B ags Qd Xq C h => ⟨_, r_law_great (k := 0) g C (D_law_draw g z), v_law_great h⟩), hm, F.kp, F.bindsN fun _ _ _ _ _ _ us hl => match us, hl with | [_, _], _ => rfl⟩
theorem D_law_gcd (g : Gls P w K mg base) (z : Fns K mg) : Dg P w K mg base "_law_gcd" 1 ["u", "v"] sp_law_gcd := by
  obtain ⟨⟨fd, F⟩, hm⟩ := z.f_law_gcd
  exact ⟨_, fd, okG F sc_law_gcd (fun ags Q E h => by obtain ⟨_, _, rfl, _⟩ := h; rfl) (fun cdv A outer s H E R B ags Qd Xq C h => ⟨_, r_law_gcd (k := 0) g C , v_law_gcd h⟩), hm, F.kp, F.bindsN fun _ _ _ _ _ _ us hl => match us, hl with | [_, _], _ => rfl⟩
theorem D_law_low (g : Gls P w K mg base) (z : Fns K mg) : Dg P w K mg base "_law_low" 2 ["top", "low"] sp_law_low := by
  obtain ⟨⟨fd, F⟩, hm⟩ := z.f_law_low
  exact ⟨_, fd, okG F sc_law_low (fun ags Q E h => by obtain ⟨_, _, rfl, _⟩ := h; rfl) (fun cdv A outer s H E R B ags Qd Xq C h => ⟨_, r_law_low (k := 0) g C (D_law_gcd g z), v_law_low h⟩), hm, F.kp, F.bindsN fun _ _ _ _ _ _ us hl => match us, hl with | [_, _], _ => rfl⟩
theorem D_law_plus (g : Gls P w K mg base) (z : Fns K mg) : Dg P w K mg base "_law_plus" 3 ["u", "v"] sp_law_plus := by
  obtain ⟨⟨fd, F⟩, hm⟩ := z.f_law_plus
  exact ⟨_, fd, okG F sc_law_plus (fun ags Q E h => by obtain ⟨_, _, _, _, rfl, _⟩ := h; rfl) (fun cdv A outer s H E R B ags Qd Xq C h => ⟨_, r_law_plus (k := 0) g C (D_law_low g z), v_law_plus h⟩), hm, F.kp, F.bindsN fun _ _ _ _ _ _ us hl => match us, hl with | [_, _], _ => rfl⟩
theorem D_law_power (g : Gls P w K mg base) (z : Fns K mg) : Dg P w K mg base "_law_power" 1 ["u", "k"] sp_law_power := by
  obtain ⟨⟨fd, F⟩, hm⟩ := z.f_law_power
  exact ⟨_, fd, okG F sc_law_power (fun ags Q E h => by obtain ⟨_, _, rfl, _⟩ := h; rfl) (fun cdv A outer s H E R B ags Qd Xq C h => ⟨_, r_law_power (k := 0) g C , v_law_power h⟩), hm, F.kp, F.bindsN fun _ _ _ _ _ _ us hl => match us, hl with | [_, _], _ => rfl⟩
theorem D_law_word (g : Gls P w K mg base) (z : Fns K mg) : Dg P w K mg base "_law_word" 1 ["u"] sp_law_word := by
  obtain ⟨⟨fd, F⟩, hm⟩ := z.f_law_word
  exact ⟨_, fd, okG F sc_law_word (fun ags Q E h => by obtain ⟨_, rfl, _⟩ := h; rfl) (fun cdv A outer s H E R B ags Qd Xq C h => ⟨_, r_law_word (k := 0) g C , v_law_word h⟩), hm, F.kp, F.bindsN fun _ _ _ _ _ _ us hl => match us, hl with | [_], _ => rfl⟩
theorem D_law_whole (g : Gls P w K mg base) (z : Fns K mg) : Dg P w K mg base "_law_whole" 1 ["told"] sp_law_whole := by
  obtain ⟨⟨fd, F⟩, hm⟩ := z.f_law_whole
  exact ⟨_, fd, okG F sc_law_whole (fun ags Q E h => by obtain ⟨_, rfl, _⟩ := h; rfl) (fun cdv A outer s H E R B ags Qd Xq C h => ⟨_, r_law_whole (k := 0) g C , v_law_whole h⟩), hm, F.kp, F.bindsN fun _ _ _ _ _ _ us hl => match us, hl with | [_], _ => rfl⟩
theorem D_law_like (g : Gls P w K mg base) (z : Fns K mg) : ∀ n, Dg P w K mg base "_law_like" (n + 1) ["told", "due"] (sp_law_like n)
  | 0 => by
    obtain ⟨⟨fd, F⟩, hm⟩ := z.f_law_like
    exact ⟨_, fd, okG F sc_law_like (fun ags Q E h => by obtain ⟨_, rfl, _⟩ := h; rfl) (fun cdv A outer s H E R B ags Qd Xq C h => (no_law_like h).elim), hm, F.kp, F.bindsN fun _ _ _ _ _ _ us hl => match us, hl with | [_, _], _ => rfl⟩
  | n + 1 => by
    obtain ⟨⟨fd, F⟩, hm⟩ := z.f_law_like
    exact ⟨_, fd, okG F sc_law_like (fun ags Q E h => by obtain ⟨_, rfl, _⟩ := h; rfl) (fun cdv A outer s H E R B ags Qd Xq C h => ⟨_, r_law_like (k := 0) g C (D_law_whole g z) (D_law_like g z n), v_law_like n h⟩), hm, F.kp, F.bindsN fun _ _ _ _ _ _ us hl => match us, hl with | [_, _], _ => rfl⟩
theorem D_law_way (g : Gls P w K mg base) (z : Fns K mg) : Dg P w K mg base "_law_way" 2 ["jar", "u"] sp_law_way := by
  obtain ⟨⟨fd, F⟩, hm⟩ := z.f_law_way
  exact ⟨_, fd, okG F sc_law_way (fun ags Q E h => by obtain ⟨_, _, _, rfl, _⟩ := h; rfl) (fun cdv A outer s H E R B ags Qd Xq C h => ⟨_, r_law_way (k := 0) g C (D_law_draw g z) (D_law_word g z), v_law_way h⟩), hm, F.kp, F.bindsN fun _ _ _ _ _ _ us hl => match us, hl with | [_, _], _ => rfl⟩
theorem D_law_ways (g : Gls P w K mg base) (z : Fns K mg) : Dg P w K mg base "_law_ways" 3 ["jar", "row"] sp_law_ways := by
  obtain ⟨⟨fd, F⟩, hm⟩ := z.f_law_ways
  exact ⟨_, fd, okG F sc_law_ways (fun ags Q E h => by obtain ⟨_, _, _, rfl, _⟩ := h; rfl) (fun cdv A outer s H E R B ags Qd Xq C h => ⟨_, r_law_ways (k := 0) g C (D_law_draw g z) (D_law_way g z), v_law_ways h⟩), hm, F.kp, F.bindsN fun _ _ _ _ _ _ us hl => match us, hl with | [_, _], _ => rfl⟩
theorem D_law_said (g : Gls P w K mg base) (z : Fns K mg) : Dg P w K mg base "_law_said" 1 ["why"] sp_law_said := by
  obtain ⟨⟨fd, F⟩, hm⟩ := z.f_law_said
  exact ⟨_, fd, okG F sc_law_said (fun ags Q E h => by obtain ⟨_, rfl, _⟩ := h; rfl) (fun cdv A outer s H E R B ags Qd Xq C h => ⟨_, r_law_said (k := 0) g C , v_law_said h⟩), hm, F.kp, F.bindsN fun _ _ _ _ _ _ us hl => match us, hl with | [_], _ => rfl⟩
theorem rh_law_said {H0 : Hp} {R0 : Rg} {B : List (Nat × Addr)} {W : WX} {f : Addr} {cdv : Value} {A : Around} {outer : List Env} {s : Shared} {H : Hp} {E : XK} {q : Addr × Obj} (g : Gls P w K mg base) (hu : (cxH (L2N.CX P w) P w K mg base N_law_said "_law_said" s_law_said f cdv A outer s H E q).A.units + 64 < cLine) :
    DSs ⟨K, H0, R0, B⟩ W (cxH (L2N.CX P w) P w K mg base N_law_said "_law_said" s_law_said f cdv A outer s H E q) b_law_said (t_law_said) :=
  dss_one (ds_ret (de_di (di_and (di_isi (Tn := "str") rfl g.isinstance_ g.str_ rfl (di_v (pv 0))) (di_one (di_cmp (od_ne hu rfl) (di_v (pv 0)) (di_str) rfl)))))

theorem DH_law_said (g : Gls P w K mg base) (z : Fns K mg) : DgH P w K mg base "_law_said" 1 ["why"] sp_law_said := by
  obtain ⟨⟨fd, F⟩, hm⟩ := z.f_law_said
  exact ⟨_, fd, okH F sc_law_said (fun ags Q E h => by obtain ⟨_, rfl, _⟩ := h; rfl) (fun ags Q E h => by obtain ⟨_, rfl, _⟩ := h; exact ⟨[_], rfl⟩) (fun cdv A outer s H E R q ags Qd Xq hu h => ⟨_, rh_law_said g hu, v_law_said (Xq := fun _ _ => False) h⟩), hm, F.kp, F.bindsN fun _ _ _ _ _ _ us hl => match us, hl with | [_], _ => rfl⟩
theorem D_law_read (g : Gls P w K mg base) (z : Fns K mg) : Dg P w K mg base "_law_read" 3 ["word"] sp_law_read := by
  obtain ⟨⟨fd, F⟩, hm⟩ := z.f_law_read
  exact ⟨_, fd, okG F sc_law_read (fun ags Q E h => by obtain ⟨_, rfl, _⟩ := h; rfl) (fun cdv A outer s H E R B ags Qd Xq C h => ⟨_, r_law_read (k := 0) g C (D_law_low g z) (D_law_word g z), v_law_read h⟩), hm, F.kp, F.bindsN fun _ _ _ _ _ _ us hl => match us, hl with | [_], _ => rfl⟩
theorem D_law_fraction (g : Gls P w K mg base) (z : Fns K mg) : Dg P w K mg base "_law_fraction" 4 ["one"] sp_law_fraction := by
  obtain ⟨⟨fd, F⟩, hm⟩ := z.f_law_fraction
  exact ⟨_, fd, okG F sc_law_fraction (fun ags Q E h => by obtain ⟨_, rfl, _⟩ := h; rfl) (fun cdv A outer s H E R B ags Qd Xq C h => ⟨_, r_law_fraction (k := 0) g C (D_law_low g z) (D_law_whole g z) (D_law_read g z), v_law_fraction h⟩), hm, F.kp, F.bindsN fun _ _ _ _ _ _ us hl => match us, hl with | [_], _ => rfl⟩
theorem D_law_digits (g : Gls P w K mg base) (z : Fns K mg) : Dg P w K mg base "_law_digits" 1 ["u"] sp_law_digits := by
  obtain ⟨⟨fd, F⟩, hm⟩ := z.f_law_digits
  exact ⟨_, fd, okG F sc_law_digits (fun ags Q E h => by obtain ⟨_, rfl, _⟩ := h; rfl) (fun cdv A outer s H E R B ags Qd Xq C h => ⟨_, r_law_digits (k := 0) g C , v_law_digits h⟩), hm, F.kp, F.bindsN fun _ _ _ _ _ _ us hl => match us, hl with | [_], _ => rfl⟩
theorem D_law_shares (g : Gls P w K mg base) (z : Fns K mg) : Dg P w K mg base "_law_shares" 3 ["jar", "many"] sp_law_shares := by
  obtain ⟨⟨fd, F⟩, hm⟩ := z.f_law_shares
  exact ⟨_, fd, okG F sc_law_shares (fun ags Q E h => by obtain ⟨_, _, _, rfl, _⟩ := h; rfl) (fun cdv A outer s H E R B ags Qd Xq C h => ⟨_, r_law_shares (k := 0) g C (D_law_draw g z) (D_law_low g z), v_law_shares h⟩), hm, F.kp, F.bindsN fun _ _ _ _ _ _ us hl => match us, hl with | [_, _], _ => rfl⟩
theorem D_law_ask (g : Gls P w K mg base) (z : Fns K mg) : Dg P w K mg base "_law_ask" 9 ["jar", "one", "two", "three"] (sp_law_ask K) := by
  obtain ⟨⟨fd, F⟩, hm⟩ := z.f_law_ask
  exact ⟨_, fd, okG F sc_law_ask (fun ags Q E h => by obtain ⟨_, _, _, _, _, rfl, _⟩ := h; rfl) (fun cdv A outer s H E R B ags Qd Xq C h => ⟨_, r_law_ask (k := 0) g C (D_fits_better g z) (D_law_draw g z) (DK_fits_better g z) (DH_law_said g z), v_law_ask h⟩), hm, F.kp, F.bindsN fun _ _ _ _ _ _ us hl => match us, hl with | [_, _, _, _], _ => rfl⟩
theorem D_law_bad_table (g : Gls P w K mg base) (z : Fns K mg) : Dg P w K mg base "_law_bad_table" 5 ["one"] sp_law_bad_table := by
  obtain ⟨⟨fd, F⟩, hm⟩ := z.f_law_bad_table
  exact ⟨_, fd, okG F sc_law_bad_table (fun ags Q E h => by obtain ⟨_, rfl, _⟩ := h; rfl) (fun cdv A outer s H E R B ags Qd Xq C h => ⟨_, r_law_bad_table (k := 0) g C (D_law_plus g z) (D_law_fraction g z), v_law_bad_table h⟩), hm, F.kp, F.bindsN fun _ _ _ _ _ _ us hl => match us, hl with | [_], _ => rfl⟩
theorem D_law_bad_count (g : Gls P w K mg base) (z : Fns K mg) : Dg P w K mg base "_law_bad_count" 5 ["one", "wide"] sp_law_bad_count := by
  obtain ⟨⟨fd, F⟩, hm⟩ := z.f_law_bad_count
  exact ⟨_, fd, okG F sc_law_bad_count (fun ags Q E h => by obtain ⟨_, _, rfl, _⟩ := h; rfl) (fun cdv A outer s H E R B ags Qd Xq C h => ⟨_, r_law_bad_count (k := 0) g C (D_law_fraction g z), v_law_bad_count h⟩), hm, F.kp, F.bindsN fun _ _ _ _ _ _ us hl => match us, hl with | [_, _], _ => rfl⟩
theorem D_law_multiple (g : Gls P w K mg base) (z : Fns K mg) : Dg P w K mg base "_law_multiple" 2 ["row"] sp_law_multiple := by
  obtain ⟨⟨fd, F⟩, hm⟩ := z.f_law_multiple
  exact ⟨_, fd, okG F sc_law_multiple (fun ags Q E h => by obtain ⟨_, rfl, _⟩ := h; rfl) (fun cdv A outer s H E R B ags Qd Xq C h => ⟨_, r_law_multiple (k := 0) g C (D_law_gcd g z), v_law_multiple h⟩), hm, F.kp, F.bindsN fun _ _ _ _ _ _ us hl => match us, hl with | [_], _ => rfl⟩
theorem D_law_product (g : Gls P w K mg base) (z : Fns K mg) : Dg P w K mg base "_law_product" 2 ["row", "powers"] sp_law_product := by
  obtain ⟨⟨fd, F⟩, hm⟩ := z.f_law_product
  exact ⟨_, fd, okG F sc_law_product (fun ags Q E h => by obtain ⟨_, _, rfl, _⟩ := h; rfl) (fun cdv A outer s H E R B ags Qd Xq C h => ⟨_, r_law_product (k := 0) g C (D_law_power g z), v_law_product h⟩), hm, F.kp, F.bindsN fun _ _ _ _ _ _ us hl => match us, hl with | [_, _], _ => rfl⟩
theorem D_law_due (g : Gls P w K mg base) (z : Fns K mg) : Dg P w K mg base "_law_due" 6 ["one", "two", "three"] sp_law_due := by
  obtain ⟨⟨fd, F⟩, hm⟩ := z.f_law_due
  exact ⟨_, fd, okG F sc_law_due (fun ags Q E h => by obtain ⟨_, _, _, rfl, _⟩ := h; rfl) (fun cdv A outer s H E R B ags Qd Xq C h => ⟨_, r_law_due (k := 0) g C (D_law_fraction g z) (D_law_digits g z) (D_law_bad_table g z) (D_law_bad_count g z) (D_law_multiple g z) (D_law_product g z), v_law_due h⟩), hm, F.kp, F.bindsN fun _ _ _ _ _ _ us hl => match us, hl with | [_, _, _], _ => rfl⟩
theorem D_law_powers (g : Gls P w K mg base) (z : Fns K mg) : Dg P w K mg base "_law_powers" 3 ["jar", "wide"] sp_law_powers := by
  obtain ⟨⟨fd, F⟩, hm⟩ := z.f_law_powers
  exact ⟨_, fd, okG F sc_law_powers (fun ags Q E h => by obtain ⟨_, _, _, rfl, _⟩ := h; rfl) (fun cdv A outer s H E R B ags Qd Xq C h => ⟨_, r_law_powers (k := 0) g C (D_law_draw g z) (D_law_pick g z) (D_law_great g z) (D_law_low g z), v_law_powers h⟩), hm, F.kp, F.bindsN fun _ _ _ _ _ _ us hl => match us, hl with | [_, _], _ => rfl⟩
theorem D_law_spoilt (g : Gls P w K mg base) (z : Fns K mg) : Dg P w K mg base "_law_spoilt" 3 ["jar", "one"] sp_law_spoilt := by
  obtain ⟨⟨fd, F⟩, hm⟩ := z.f_law_spoilt
  exact ⟨_, fd, okG F sc_law_spoilt (fun ags Q E h => by obtain ⟨_, _, _, _, _, rfl, _⟩ := h; rfl) (fun cdv A outer s H E R B ags Qd Xq C h => ⟨_, r_law_spoilt (k := 0) g C (D_law_draw g z) (D_law_pick g z), v_law_spoilt h⟩), hm, F.kp, F.bindsN fun _ _ _ _ _ _ us hl => match us, hl with | [_, _], _ => rfl⟩
theorem D_law (g : Gls P w K mg base) (z : Fns K mg) : Dg P w K mg base "law" 10 ["script"] (sp_law K) := by
  obtain ⟨⟨fd, F⟩, hm⟩ := z.f_law
  exact ⟨_, fd, okG F sc_law (fun ags Q E h => by obtain ⟨_, rfl, _⟩ := h; rfl) (fun cdv A outer s H E R B ags Qd Xq C h => ⟨_, r_law (k := 0) g C (D_law_jar g z) (D_law_draw g z) (D_law_pick g z) (D_law_like g z 5) (D_law_ways g z) (D_law_shares g z) (D_law_ask g z) (D_law_due g z) (D_law_powers g z) (D_law_spoilt g z), v_law h⟩), hm, F.kp, F.bindsN fun _ _ _ _ _ _ us hl => match us, hl with | [_], _ => rfl⟩
theorem G_law (g : Gls P w K mg base) (z : Fns K mg) {fd : FuncData} (F : FunD K "law" "law" a_law b_law s_law [] [] (He.ga K "law") fd) : FnG P w K mg base (L2N.CX P w) 10 (He.ga K "law") fd ["script"] (lsp K (sp_law K)) :=
  okG F sc_law (fun ags Q E h => by obtain ⟨_, rfl, _⟩ := h; rfl) (fun cdv A outer s H E R B ags Qd Xq C h => ⟨_, r_law (k := 0) g C (D_law_jar g z) (D_law_draw g z) (D_law_pick g z) (D_law_like g z 5) (D_law_ways g z) (D_law_shares g z) (D_law_ask g z) (D_law_due g z) (D_law_powers g z) (D_law_spoilt g z), v_law h⟩)
end
end K1


/-! text H -/
set_option Elab.async false
set_option linter.all false
set_option maxRecDepth 100000
set_option maxHeartbeats 0

namespace K1
open PySem PySem.Spec PyProof.Rows L2 L2H DL

def dd_made_q : He.DefD := ⟨("made_q", none), "made_q", "made_q", a_made_q, b_made_q, s_made_q, [], []⟩
def dd_add_q : He.DefD := ⟨("add_q", none), "add_q", "add_q", a_add_q, b_add_q, s_add_q, [], []⟩
def dd_times_q : He.DefD := ⟨("times_q", none), "times_q", "times_q", a_times_q, b_times_q, s_times_q, [], []⟩
def dd_over_q : He.DefD := ⟨("over_q", none), "over_q", "over_q", a_over_q, b_over_q, s_over_q, [], []⟩
def dd_power_whole : He.DefD := ⟨("power_whole", none), "power_whole", "power_whole", a_power_whole, b_power_whole, s_power_whole, [], []⟩
def dd_sum_q : He.DefD := ⟨("sum_q", none), "sum_q", "sum_q", a_sum_q, b_sum_q, s_sum_q, [], []⟩
def dd_only_of : He.DefD := ⟨("only_of", none), "only_of", "only_of", a_only_of, b_only_of, s_only_of, [], []⟩
def dd_is_digits : He.DefD := ⟨("is_digits", none), "is_digits", "is_digits", a_is_digits, b_is_digits, s_is_digits, [], []⟩
def dd_value_of_digits : He.DefD := ⟨("value_of_digits", none), "value_of_digits", "value_of_digits", a_value_of_digits, b_value_of_digits, s_value_of_digits, [], []⟩
def dd_whole_of : He.DefD := ⟨("whole_of", none), "whole_of", "whole_of", a_whole_of, b_whole_of, s_whole_of, [], []⟩
def dd_ratio_of : He.DefD := ⟨("ratio_of", none), "ratio_of", "ratio_of", a_ratio_of, b_ratio_of, s_ratio_of, [], []⟩
def dd_is_row : He.DefD := ⟨("is_row", none), "is_row", "is_row", a_is_row, b_is_row, s_is_row, [], []⟩
def dd_is_whole : He.DefD := ⟨("is_whole", none), "is_whole", "is_whole", a_is_whole, b_is_whole, s_is_whole, [], []⟩
def dd_fraction_of : He.DefD := ⟨("fraction_of", none), "fraction_of", "fraction_of", a_fraction_of, b_fraction_of, s_fraction_of, [], []⟩
def dd_digits_of : He.DefD := ⟨("digits_of", none), "digits_of", "digits_of", a_digits_of, b_digits_of, s_digits_of, [], []⟩
def dd_longer_of : He.DefD := ⟨("longer_of", none), "longer_of", "longer_of", a_longer_of, b_longer_of, s_longer_of, [], []⟩
def dd_ask_digits : He.DefD := ⟨("ask_digits", none), "ask_digits", "ask_digits", a_ask_digits, b_ask_digits, s_ask_digits, [], []⟩
def dd_counts_among : He.DefD := ⟨("counts_among", none), "counts_among", "counts_among", a_counts_among, b_counts_among, s_counts_among, [], []⟩
def dd_table_among : He.DefD := ⟨("table_among", none), "table_among", "table_among", a_table_among, b_table_among, s_table_among, [], []⟩
def dd_bare_table : He.DefD := ⟨("bare_table", none), "bare_table", "bare_table", a_bare_table, b_bare_table, s_bare_table, [], []⟩
def dd_bare_counts : He.DefD := ⟨("bare_counts", none), "bare_counts", "bare_counts", a_bare_counts, b_bare_counts, s_bare_counts, [], []⟩
def dd_ask_cells : He.DefD := ⟨("ask_cells", none), "ask_cells", "ask_cells", a_ask_cells, b_ask_cells, s_ask_cells, [], []⟩
def dd_ask_total : He.DefD := ⟨("ask_total", none), "ask_total", "ask_total", a_ask_total, b_ask_total, s_ask_total, [], []⟩
def dd_least_multiple : He.DefD := ⟨("least_multiple", none), "least_multiple", "least_multiple", a_least_multiple, b_least_multiple, s_least_multiple, [], []⟩
def dd_has_nought : He.DefD := ⟨("has_nought", none), "has_nought", "has_nought", a_has_nought, b_has_nought, s_has_nought, [], []⟩
def dd_compared_fits : He.DefD := ⟨("compared_fits", none), "compared_fits", "compared_fits", a_compared_fits, b_compared_fits, s_compared_fits, [], []⟩
def dd_fits_better : He.DefD := ⟨("fits_better", none), "fits_better", "fits_better", a_fits_better, b_fits_better, s_fits_better, [], []⟩
def dd_law_jar : He.DefD := ⟨("_law_jar", none), "_law_jar", "_law_jar", a_law_jar, b_law_jar, s_law_jar, [], []⟩
def dd_law_draw : He.DefD := ⟨("_law_draw", none), "_law_draw", "_law_draw", a_law_draw, b_law_draw, s_law_draw, [], []⟩
def dd_law_pick : He.DefD := ⟨("_law_pick", none), "_law_pick", "_law_pick", a_law_pick, b_law_pick, s_law_pick, [], []⟩
def dd_law_great : He.DefD := ⟨("_law_great", none), "_law_great", "_law_great", a_law_great, b_law_great, s_law_great, [], []⟩
def dd_law_gcd : He.DefD := ⟨("_law_gcd", none), "_law_gcd", "_law_gcd", a_law_gcd, b_law_gcd, s_law_gcd, [], []⟩
def dd_law_low : He.DefD := ⟨("_law_low", none), "_law_low", "_law_low", a_law_low, b_law_low, s_law_low, [], []⟩
def dd_law_plus : He.DefD := ⟨("_law_plus", none), "_law_plus", "_law_plus", a_law_plus, b_law_plus, s_law_plus, [], []⟩
def dd_law_power : He.DefD := ⟨("_law_power", none), "_law_power", "_law_power", a_law_power, b_law_power, s_law_power, [], []⟩
def dd_law_word : He.DefD := ⟨("_law_word", none), "_law_word", "_law_word", a_law_word, b_law_word, s_law_word, [], []⟩
def dd_law_whole : He.DefD := ⟨("_law_whole", none), "_law_whole", "_law_whole", a_law_whole, b_law_whole, s_law_whole, [], []⟩
def dd_law_like : He.DefD := ⟨("_law_like", none), "_law_like", "_law_like", a_law_like, b_law_like, s_law_like, [], []⟩
def dd_law_way : He.DefD := ⟨("_law_way", none), "_law_way", "_law_way", a_law_way, b_law_way, s_law_way, [], []⟩
def dd_law_ways : He.DefD := ⟨("_law_ways", none), "_law_ways", "_law_ways", a_law_ways, b_law_ways, s_law_ways, [], []⟩
def dd_law_said : He.DefD := ⟨("_law_said", none), "_law_said", "_law_said", a_law_said, b_law_said, s_law_said, [], []⟩
def dd_law_read : He.DefD := ⟨("_law_read", none), "_law_read", "_law_read", a_law_read, b_law_read, s_law_read, [], []⟩
def dd_law_fraction : He.DefD := ⟨("_law_fraction", none), "_law_fraction", "_law_fraction", a_law_fraction, b_law_fraction, s_law_fraction, [], []⟩
def dd_law_digits : He.DefD := ⟨("_law_digits", none), "_law_digits", "_law_digits", a_law_digits, b_law_digits, s_law_digits, [], []⟩
def dd_law_shares : He.DefD := ⟨("_law_shares", none), "_law_shares", "_law_shares", a_law_shares, b_law_shares, s_law_shares, [], []⟩
def dd_law_ask : He.DefD := ⟨("_law_ask", none), "_law_ask", "_law_ask", a_law_ask, b_law_ask, s_law_ask, [], []⟩
def dd_law_bad_table : He.DefD := ⟨("_law_bad_table", none), "_law_bad_table", "_law_bad_table", a_law_bad_table, b_law_bad_table, s_law_bad_table, [], []⟩
def dd_law_bad_count : He.DefD := ⟨("_law_bad_count", none), "_law_bad_count", "_law_bad_count", a_law_bad_count, b_law_bad_count, s_law_bad_count, [], []⟩
def dd_law_multiple : He.DefD := ⟨("_law_multiple", none), "_law_multiple", "_law_multiple", a_law_multiple, b_law_multiple, s_law_multiple, [], []⟩
def dd_law_product : He.DefD := ⟨("_law_product", none), "_law_product", "_law_product", a_law_product, b_law_product, s_law_product, [], []⟩
def dd_law_due : He.DefD := ⟨("_law_due", none), "_law_due", "_law_due", a_law_due, b_law_due, s_law_due, [], []⟩
def dd_law_powers : He.DefD := ⟨("_law_powers", none), "_law_powers", "_law_powers", a_law_powers, b_law_powers, s_law_powers, [], []⟩
def dd_law_spoilt : He.DefD := ⟨("_law_spoilt", none), "_law_spoilt", "_law_spoilt", a_law_spoilt, b_law_spoilt, s_law_spoilt, [], []⟩
def dd_law : He.DefD := ⟨("law", none), "law", "law", a_law, b_law, s_law, [], []⟩
def dd_BadCounts_init : He.DefD := ⟨("BadCounts", some "__init__"), "__init__", "BadCounts.__init__", a_BadCounts_init, b_BadCounts_init, s_BadCounts_init, [], []⟩
def dd_BadTable_init : He.DefD := ⟨("BadTable", some "__init__"), "__init__", "BadTable.__init__", a_BadTable_init, b_BadTable_init, s_BadTable_init, [], []⟩
def dd_TooMany_init : He.DefD := ⟨("TooMany", some "__init__"), "__init__", "TooMany.__init__", a_TooMany_init, b_TooMany_init, s_TooMany_init, [], []⟩
def fnH : List He.DefD := [dd_made_q, dd_add_q, dd_times_q, dd_over_q, dd_power_whole, dd_sum_q, dd_only_of, dd_is_digits, dd_value_of_digits, dd_whole_of, dd_ratio_of, dd_is_row, dd_is_whole, dd_fraction_of, dd_digits_of, dd_longer_of, dd_ask_digits, dd_counts_among, dd_table_among, dd_bare_table, dd_bare_counts, dd_ask_cells, dd_ask_total, dd_least_multiple, dd_has_nought, dd_compared_fits, dd_fits_better, dd_law_jar, dd_law_draw, dd_law_pick, dd_law_great, dd_law_gcd, dd_law_low, dd_law_plus, dd_law_power, dd_law_word, dd_law_whole, dd_law_like, dd_law_way, dd_law_ways, dd_law_said, dd_law_read, dd_law_fraction, dd_law_digits, dd_law_shares, dd_law_ask, dd_law_bad_table, dd_law_bad_count, dd_law_multiple, dd_law_product, dd_law_due, dd_law_powers, dd_law_spoilt, dd_law, dd_BadCounts_init, dd_BadTable_init, dd_TooMany_init]
def faH : List He.Fa := [.glo "made_q", .glo "add_q", .glo "times_q", .glo "over_q", .glo "power_whole", .glo "sum_q", .glo "only_of", .glo "is_digits", .glo "value_of_digits", .glo "whole_of", .glo "ratio_of", .glo "is_row", .glo "is_whole", .glo "fraction_of", .glo "digits_of", .glo "longer_of", .glo "ask_digits", .glo "counts_among", .glo "table_among", .glo "bare_table", .glo "bare_counts", .glo "ask_cells", .glo "ask_total", .glo "least_multiple", .glo "has_nought", .glo "compared_fits", .glo "fits_better", .glo "_law_jar", .glo "_law_draw", .glo "_law_pick", .glo "_law_great", .glo "_law_gcd", .glo "_law_low", .glo "_law_plus", .glo "_law_power", .glo "_law_word", .glo "_law_whole", .glo "_law_like", .glo "_law_way", .glo "_law_ways", .glo "_law_said", .glo "_law_read", .glo "_law_fraction", .glo "_law_digits", .glo "_law_shares", .glo "_law_ask", .glo "_law_bad_table", .glo "_law_bad_count", .glo "_law_multiple", .glo "_law_product", .glo "_law_due", .glo "_law_powers", .glo "_law_spoilt", .glo "law", .glo "BadCounts", .glo "BadTable", .glo "TooMany", .free "abs", .free "bool", .free "divmod", .free "enumerate", .free "int", .free "isinstance", .free "len", .free "list", .free "max", .free "range", .free "repr", .free "str", .free "sum", .free "tuple", .free "zip", .str "DIGITS" "0123456789", .int "STEP" 60, .int "MOST_DIGITS" 60, .int "MOST_CELLS" 32, .int "MOST_TOTAL" 2000]
def fxH : List DL.Fx := [sysB, errB "BadCounts" ["at", "why"], errB "BadTable" ["why"], errB "TooMany" ["what", "count"], bltB "gcd" "math.gcd", bltB "lcm" "math.lcm", exmB "BadTable" "BadTable" true, exmB "BadCounts" "BadTable" false, exmB "BadCounts" "BadCounts" true, exmB "TooMany" "BadTable" false, exmB "TooMany" "BadCounts" false, exmB "TooMany" "TooMany" true, anyB "BadTable" ["BadCounts", "TooMany"] false, anyB "BadCounts" ["BadTable", "TooMany"] false, anyB "TooMany" ["BadTable", "BadCounts"] false]
abbrev RH : PySem.W.OpenRow := PySem.W.OpenLaw.row PySem.Challenge.rw_ownbest_k02_better_of_two
abbrev hkH : PySem.W.Hook := hookX 4 faH fxH fnH
def obH (s : PySem.W.SharedT) : He.AlD := obsXG 4 faH fxH fnH (HandSHeadRun.getT s)
theorem obH_eq (s : PySem.W.SharedT) : obH s = hkH.obs s.abs := obsXG_eq (HandSHeadRun.getT_eq s)
def names0 : List PySem.Str := ["BadCounts", "BadTable", "TooMany", "made_q", "add_q", "times_q", "over_q", "power_whole", "sum_q", "DIGITS", "STEP", "only_of", "is_digits", "value_of_digits", "whole_of"]
def names1 : List PySem.Str := ["ratio_of", "MOST_DIGITS", "is_row", "is_whole", "fraction_of", "digits_of", "longer_of", "ask_digits", "MOST_CELLS", "MOST_TOTAL", "counts_among", "table_among", "bare_table", "bare_counts", "ask_cells"]
def names2 : List PySem.Str := ["ask_total", "least_multiple", "fits_better", "has_nought", "compared_fits", "_law_jar", "_law_draw", "_law_pick", "_law_great", "_law_gcd", "_law_low", "_law_plus", "_law_power", "_law_word", "_law_whole"]
def names3 : List PySem.Str := ["_law_like", "_law_way", "_law_ways", "_law_said", "_law_read", "_law_fraction", "_law_digits", "_law_shares", "_law_ask", "_law_bad_table", "_law_bad_count", "_law_multiple", "_law_product", "_law_due", "_law_powers"]
def names4 : List PySem.Str := ["_law_spoilt"]
def namesH : List PySem.Str := names0 ++ names1 ++ names2 ++ names3 ++ names4
def viewH : List Nat := [0, 68]
def lawAt : Nat := 68
theorem runH (w : World) : HandSHeadRun.RunEqI RH (PySem.W.view RH.prog viewH) hkH obH 20000 namesH w := by
  unfold HandSHeadRun.RunEqI
  kernel_rfl
section
variable {P : Program} {w : World} {K : PySem.W.Frag} {mg : Str → Option Value} {base : Heap}
theorem fns_of (X : K.In base) (G : base.Ns mainGlobals mg) (c : SaysX faH fxH fnH K) : Fns K mg where
  f_made_q := ⟨c.d.1.def_ 0 (d := dd_made_q) rfl, He.glo_ok X G (c.d.1.fact 0 (f := .glo "made_q") rfl)⟩
  f_add_q := ⟨c.d.1.def_ 1 (d := dd_add_q) rfl, He.glo_ok X G (c.d.1.fact 1 (f := .glo "add_q") rfl)⟩
  f_times_q := ⟨c.d.1.def_ 2 (d := dd_times_q) rfl, He.glo_ok X G (c.d.1.fact 2 (f := .glo "times_q") rfl)⟩
  f_over_q := ⟨c.d.1.def_ 3 (d := dd_over_q) rfl, He.glo_ok X G (c.d.1.fact 3 (f := .glo "over_q") rfl)⟩
  f_power_whole := ⟨c.d.1.def_ 4 (d := dd_power_whole) rfl, He.glo_ok X G (c.d.1.fact 4 (f := .glo "power_whole") rfl)⟩
  f_sum_q := ⟨c.d.1.def_ 5 (d := dd_sum_q) rfl, He.glo_ok X G (c.d.1.fact 5 (f := .glo "sum_q") rfl)⟩
  f_only_of := ⟨c.d.1.def_ 6 (d := dd_only_of) rfl, He.glo_ok X G (c.d.1.fact 6 (f := .glo "only_of") rfl)⟩
  f_is_digits := ⟨c.d.1.def_ 7 (d := dd_is_digits) rfl, He.glo_ok X G (c.d.1.fact 7 (f := .glo "is_digits") rfl)⟩
  f_value_of_digits := ⟨c.d.1.def_ 8 (d := dd_value_of_digits) rfl, He.glo_ok X G (c.d.1.fact 8 (f := .glo "value_of_digits") rfl)⟩
  f_whole_of := ⟨c.d.1.def_ 9 (d := dd_whole_of) rfl, He.glo_ok X G (c.d.1.fact 9 (f := .glo "whole_of") rfl)⟩
  f_ratio_of := ⟨c.d.1.def_ 10 (d := dd_ratio_of) rfl, He.glo_ok X G (c.d.1.fact 10 (f := .glo "ratio_of") rfl)⟩
  f_is_row := ⟨c.d.1.def_ 11 (d := dd_is_row) rfl, He.glo_ok X G (c.d.1.fact 11 (f := .glo "is_row") rfl)⟩
  f_is_whole := ⟨c.d.1.def_ 12 (d := dd_is_whole) rfl, He.glo_ok X G (c.d.1.fact 12 (f := .glo "is_whole") rfl)⟩
  f_fraction_of := ⟨c.d.1.def_ 13 (d := dd_fraction_of) rfl, He.glo_ok X G (c.d.1.fact 13 (f := .glo "fraction_of") rfl)⟩
  f_digits_of := ⟨c.d.1.def_ 14 (d := dd_digits_of) rfl, He.glo_ok X G (c.d.1.fact 14 (f := .glo "digits_of") rfl)⟩
  f_longer_of := ⟨c.d.1.def_ 15 (d := dd_longer_of) rfl, He.glo_ok X G (c.d.1.fact 15 (f := .glo "longer_of") rfl)⟩
  f_ask_digits := ⟨c.d.1.def_ 16 (d := dd_ask_digits) rfl, He.glo_ok X G (c.d.1.fact 16 (f := .glo "ask_digits") rfl)⟩
  f_counts_among := ⟨c.d.1.def_ 17 (d := dd_counts_among) rfl, He.glo_ok X G (c.d.1.fact 17 (f := .glo "counts_among") rfl)⟩
  f_table_among := ⟨c.d.1.def_ 18 (d := dd_table_among) rfl, He.glo_ok X G (c.d.1.fact 18 (f := .glo "table_among") rfl)⟩
  f_bare_table := ⟨c.d.1.def_ 19 (d := dd_bare_table) rfl, He.glo_ok X G (c.d.1.fact 19 (f := .glo "bare_table") rfl)⟩
  f_bare_counts := ⟨c.d.1.def_ 20 (d := dd_bare_counts) rfl, He.glo_ok X G (c.d.1.fact 20 (f := .glo "bare_counts") rfl)⟩
  f_ask_cells := ⟨c.d.1.def_ 21 (d := dd_ask_cells) rfl, He.glo_ok X G (c.d.1.fact 21 (f := .glo "ask_cells") rfl)⟩
  f_ask_total := ⟨c.d.1.def_ 22 (d := dd_ask_total) rfl, He.glo_ok X G (c.d.1.fact 22 (f := .glo "ask_total") rfl)⟩
  f_least_multiple := ⟨c.d.1.def_ 23 (d := dd_least_multiple) rfl, He.glo_ok X G (c.d.1.fact 23 (f := .glo "least_multiple") rfl)⟩
  f_has_nought := ⟨c.d.1.def_ 24 (d := dd_has_nought) rfl, He.glo_ok X G (c.d.1.fact 24 (f := .glo "has_nought") rfl)⟩
  f_compared_fits := ⟨c.d.1.def_ 25 (d := dd_compared_fits) rfl, He.glo_ok X G (c.d.1.fact 25 (f := .glo "compared_fits") rfl)⟩
  f_fits_better := ⟨c.d.1.def_ 26 (d := dd_fits_better) rfl, He.glo_ok X G (c.d.1.fact 26 (f := .glo "fits_better") rfl)⟩
  f_law_jar := ⟨c.d.1.def_ 27 (d := dd_law_jar) rfl, He.glo_ok X G (c.d.1.fact 27 (f := .glo "_law_jar") rfl)⟩
  f_law_draw := ⟨c.d.1.def_ 28 (d := dd_law_draw) rfl, He.glo_ok X G (c.d.1.fact 28 (f := .glo "_law_draw") rfl)⟩
  f_law_pick := ⟨c.d.1.def_ 29 (d := dd_law_pick) rfl, He.glo_ok X G (c.d.1.fact 29 (f := .glo "_law_pick") rfl)⟩
  f_law_great := ⟨c.d.1.def_ 30 (d := dd_law_great) rfl, He.glo_ok X G (c.d.1.fact 30 (f := .glo "_law_great") rfl)⟩
  f_law_gcd := ⟨c.d.1.def_ 31 (d := dd_law_gcd) rfl, He.glo_ok X G (c.d.1.fact 31 (f := .glo "_law_gcd") rfl)⟩
  f_law_low := ⟨c.d.1.def_ 32 (d := dd_law_low) rfl, He.glo_ok X G (c.d.1.fact 32 (f := .glo "_law_low") rfl)⟩
  f_law_plus := ⟨c.d.1.def_ 33 (d := dd_law_plus) rfl, He.glo_ok X G (c.d.1.fact 33 (f := .glo "_law_plus") rfl)⟩
  f_law_power := ⟨c.d.1.def_ 34 (d := dd_law_power) rfl, He.glo_ok X G (c.d.1.fact 34 (f := .glo "_law_power") rfl)⟩
  f_law_word := ⟨c.d.1.def_ 35 (d := dd_law_word) rfl, He.glo_ok X G (c.d.1.fact 35 (f := .glo "_law_word") rfl)⟩
  f_law_whole := ⟨c.d.1.def_ 36 (d := dd_law_whole) rfl, He.glo_ok X G (c.d.1.fact 36 (f := .glo "_law_whole") rfl)⟩
  f_law_like := ⟨c.d.1.def_ 37 (d := dd_law_like) rfl, He.glo_ok X G (c.d.1.fact 37 (f := .glo "_law_like") rfl)⟩
  f_law_way := ⟨c.d.1.def_ 38 (d := dd_law_way) rfl, He.glo_ok X G (c.d.1.fact 38 (f := .glo "_law_way") rfl)⟩
  f_law_ways := ⟨c.d.1.def_ 39 (d := dd_law_ways) rfl, He.glo_ok X G (c.d.1.fact 39 (f := .glo "_law_ways") rfl)⟩
  f_law_said := ⟨c.d.1.def_ 40 (d := dd_law_said) rfl, He.glo_ok X G (c.d.1.fact 40 (f := .glo "_law_said") rfl)⟩
  f_law_read := ⟨c.d.1.def_ 41 (d := dd_law_read) rfl, He.glo_ok X G (c.d.1.fact 41 (f := .glo "_law_read") rfl)⟩
  f_law_fraction := ⟨c.d.1.def_ 42 (d := dd_law_fraction) rfl, He.glo_ok X G (c.d.1.fact 42 (f := .glo "_law_fraction") rfl)⟩
  f_law_digits := ⟨c.d.1.def_ 43 (d := dd_law_digits) rfl, He.glo_ok X G (c.d.1.fact 43 (f := .glo "_law_digits") rfl)⟩
  f_law_shares := ⟨c.d.1.def_ 44 (d := dd_law_shares) rfl, He.glo_ok X G (c.d.1.fact 44 (f := .glo "_law_shares") rfl)⟩
  f_law_ask := ⟨c.d.1.def_ 45 (d := dd_law_ask) rfl, He.glo_ok X G (c.d.1.fact 45 (f := .glo "_law_ask") rfl)⟩
  f_law_bad_table := ⟨c.d.1.def_ 46 (d := dd_law_bad_table) rfl, He.glo_ok X G (c.d.1.fact 46 (f := .glo "_law_bad_table") rfl)⟩
  f_law_bad_count := ⟨c.d.1.def_ 47 (d := dd_law_bad_count) rfl, He.glo_ok X G (c.d.1.fact 47 (f := .glo "_law_bad_count") rfl)⟩
  f_law_multiple := ⟨c.d.1.def_ 48 (d := dd_law_multiple) rfl, He.glo_ok X G (c.d.1.fact 48 (f := .glo "_law_multiple") rfl)⟩
  f_law_product := ⟨c.d.1.def_ 49 (d := dd_law_product) rfl, He.glo_ok X G (c.d.1.fact 49 (f := .glo "_law_product") rfl)⟩
  f_law_due := ⟨c.d.1.def_ 50 (d := dd_law_due) rfl, He.glo_ok X G (c.d.1.fact 50 (f := .glo "_law_due") rfl)⟩
  f_law_powers := ⟨c.d.1.def_ 51 (d := dd_law_powers) rfl, He.glo_ok X G (c.d.1.fact 51 (f := .glo "_law_powers") rfl)⟩
  f_law_spoilt := ⟨c.d.1.def_ 52 (d := dd_law_spoilt) rfl, He.glo_ok X G (c.d.1.fact 52 (f := .glo "_law_spoilt") rfl)⟩
  f_law := ⟨c.d.1.def_ 53 (d := dd_law) rfl, He.glo_ok X G (c.d.1.fact 53 (f := .glo "law") rfl)⟩
theorem err_BadCounts (X : K.In base) (G : base.Ns mainGlobals mg) (c : SaysX faH fxH fnH K) : ErrC P w K mg base "BadCounts" (He.ga K "BadCounts") ["at", "why"] := by
  obtain ⟨fd, F⟩ := c.d.1.def_ 54 (d := dd_BadCounts_init) rfl
  refine errB_ok (c.at_ 1 (f := errB "BadCounts" ["at", "why"]) rfl) (He.glo_ok X G (c.d.1.fact 54 (f := .glo "BadCounts") rfl)) (fun T no => ?_) (F.bindsN (ps := ["self", "at", "why"]) fun _ _ _ _ _ _ us hl => match us, hl with | [_, _, _], _ => rfl)
  refine F.ok sc_BadCounts_init (fun vs H Q E h => by obtain ⟨a, xs, rfl, hl, _⟩ := h; simp [hl]) (fun cdv A outer s H vs Q E hr h => ⟨tSeq (tOst K "at" (tVar 0) (tVar 1)) (tOst K "why" (tVar 0) (tVar 2)), ?_, ini2 (N := N_BadCounts_init) T (no _ (by decide)) (no _ (by decide)) (by decide) h⟩)
  exact pss_cons (ps_ost (pv 0) (pv 1)) (pss_one (ps_ost (pv 0) (pv 2)))
theorem err_BadTable (X : K.In base) (G : base.Ns mainGlobals mg) (c : SaysX faH fxH fnH K) : ErrC P w K mg base "BadTable" (He.ga K "BadTable") ["why"] := by
  obtain ⟨fd, F⟩ := c.d.1.def_ 55 (d := dd_BadTable_init) rfl
  refine errB_ok (c.at_ 2 (f := errB "BadTable" ["why"]) rfl) (He.glo_ok X G (c.d.1.fact 55 (f := .glo "BadTable") rfl)) (fun T no => ?_) (F.bindsN (ps := ["self", "why"]) fun _ _ _ _ _ _ us hl => match us, hl with | [_, _], _ => rfl)
  refine F.ok sc_BadTable_init (fun vs H Q E h => by obtain ⟨a, xs, rfl, hl, _⟩ := h; simp [hl]) (fun cdv A outer s H vs Q E hr h => ⟨tOst K "why" (tVar 0) (tVar 1), ?_, ini1 (N := N_BadTable_init) T (no _ (by decide)) (by decide) h⟩)
  exact pss_one (ps_ost (pv 0) (pv 1))
theorem err_TooMany (X : K.In base) (G : base.Ns mainGlobals mg) (c : SaysX faH fxH fnH K) : ErrC P w K mg base "TooMany" (He.ga K "TooMany") ["what", "count"] := by
  obtain ⟨fd, F⟩ := c.d.1.def_ 56 (d := dd_TooMany_init) rfl
  refine errB_ok (c.at_ 3 (f := errB "TooMany" ["what", "count"]) rfl) (He.glo_ok X G (c.d.1.fact 56 (f := .glo "TooMany") rfl)) (fun T no => ?_) (F.bindsN (ps := ["self", "what", "count"]) fun _ _ _ _ _ _ us hl => match us, hl with | [_, _, _], _ => rfl)
  refine F.ok sc_TooMany_init (fun vs H Q E h => by obtain ⟨a, xs, rfl, hl, _⟩ := h; simp [hl]) (fun cdv A outer s H vs Q E hr h => ⟨tSeq (tOst K "what" (tVar 0) (tVar 1)) (tOst K "count" (tVar 0) (tVar 2)), ?_, ini2 (N := N_TooMany_init) T (no _ (by decide)) (no _ (by decide)) (by decide) h⟩)
  exact pss_cons (ps_ost (pv 0) (pv 1)) (pss_one (ps_ost (pv 0) (pv 2)))
theorem gls_of (X : K.In base) (G : base.Ns mainGlobals mg) (c : SaysX faH fxH fnH K) : Gls P w K mg base where
  sys := sysB_ok (c.at_ 0 (f := sysB) rfl)
  abs_ := He.free_ok X G (c.d.1.fact 57 (f := .free "abs") rfl)
  bool_ := He.free_ok X G (c.d.1.fact 58 (f := .free "bool") rfl)
  divmod_ := He.free_ok X G (c.d.1.fact 59 (f := .free "divmod") rfl)
  enumerate_ := He.free_ok X G (c.d.1.fact 60 (f := .free "enumerate") rfl)
  int_ := He.free_ok X G (c.d.1.fact 61 (f := .free "int") rfl)
  isinstance_ := He.free_ok X G (c.d.1.fact 62 (f := .free "isinstance") rfl)
  len_ := He.free_ok X G (c.d.1.fact 63 (f := .free "len") rfl)
  list_ := He.free_ok X G (c.d.1.fact 64 (f := .free "list") rfl)
  max_ := He.free_ok X G (c.d.1.fact 65 (f := .free "max") rfl)
  range_ := He.free_ok X G (c.d.1.fact 66 (f := .free "range") rfl)
  repr_ := He.free_ok X G (c.d.1.fact 67 (f := .free "repr") rfl)
  str_ := He.free_ok X G (c.d.1.fact 68 (f := .free "str") rfl)
  sum_ := He.free_ok X G (c.d.1.fact 69 (f := .free "sum") rfl)
  tuple_ := He.free_ok X G (c.d.1.fact 70 (f := .free "tuple") rfl)
  zip_ := He.free_ok X G (c.d.1.fact 71 (f := .free "zip") rfl)
  DIGITS := He.str_ok X G (c.d.1.fact 72 (f := .str "DIGITS" "0123456789") rfl)
  STEP := He.int_ok X G (c.d.1.fact 73 (f := .int "STEP" 60) rfl)
  MOST_DIGITS := He.int_ok X G (c.d.1.fact 74 (f := .int "MOST_DIGITS" 60) rfl)
  MOST_CELLS := He.int_ok X G (c.d.1.fact 75 (f := .int "MOST_CELLS" 32) rfl)
  MOST_TOTAL := He.int_ok X G (c.d.1.fact 76 (f := .int "MOST_TOTAL" 2000) rfl)
  gcd := bltB_ok X G (c.at_ 4 (f := bltB "gcd" "math.gcd") rfl)
  lcm := bltB_ok X G (c.at_ 5 (f := bltB "lcm" "math.lcm") rfl)
  BadCounts_E := err_BadCounts X G c
  BadTable_E := err_BadTable X G c
  TooMany_E := err_TooMany X G c
theorem cls_of (c : SaysX faH fxH fnH K) : ClsOk K where
  tt := of_decide_eq_true (c.at_ 6 (f := exmB "BadTable" "BadTable" true) rfl)
  ct := of_decide_eq_true (c.at_ 7 (f := exmB "BadCounts" "BadTable" false) rfl)
  cc := of_decide_eq_true (c.at_ 8 (f := exmB "BadCounts" "BadCounts" true) rfl)
  mt := of_decide_eq_true (c.at_ 9 (f := exmB "TooMany" "BadTable" false) rfl)
  mc := of_decide_eq_true (c.at_ 10 (f := exmB "TooMany" "BadCounts" false) rfl)
  mm := of_decide_eq_true (c.at_ 11 (f := exmB "TooMany" "TooMany" true) rfl)
  t2 := of_decide_eq_true (c.at_ 12 (f := anyB "BadTable" ["BadCounts", "TooMany"] false) rfl)
  c2 := of_decide_eq_true (c.at_ 13 (f := anyB "BadCounts" ["BadTable", "TooMany"] false) rfl)
  m2 := of_decide_eq_true (c.at_ 14 (f := anyB "TooMany" ["BadTable", "BadCounts"] false) rfl)
end
theorem noCX {P : Program} {w : World} {H : Hp} {s s2 : Shared} {e : Value} (z : L2N.CX P w [] H s (fun _ _ _ => False) e s2) : False := by
  obtain ⟨_, _, _, _, _, _, _, _, _, _, _, _, h⟩ := z
  exact h
theorem facts (w : World) (mg : Str → Option Value) (fa : Addr) (h : Heap) (Y : hkH.says w h) (G : h.Ns mainGlobals mg) (hfa : mg "law" = some (.ref fa)) :
    ∃ (K : PySem.W.Frag) (fd : FuncData) (sp : DSp), K.In h ∧ (∀ (s : Shared) (u : Value), BindsTo s fd ⟨[u], []⟩ [("script", u)]) ∧
      (∀ ns : List Int, ns.length ≤ 63 → ∀ Q E, Q (.im (.bool true)) [] → sp [.im (.list (ns.map PyData.int))] Q E) ∧
      ∀ base : Heap, K.In base → base.Ns mainGlobals mg → FnG RH.prog w K mg base (L2N.CX RH.prog w) 10 fa fd ["script"] (lsp K sp) := by
  obtain ⟨K, KX, c⟩ := Y
  obtain ⟨fd, F⟩ := c.d.1.def_ 53 (d := dd_law) rfl
  have e := hfa.symm.trans (He.glo_ok KX G (c.d.1.fact 53 (f := .glo "law") rfl))
  cases e
  have b := FunD.bindsA (ps := ["script"]) F fun _ _ _ _ _ _ us hl => match us, hl with | [_], _ => rfl
  refine ⟨K, fd, (sp_law K), KX, fun s v => b s [v] rfl, fun ns hl Q E hq => ⟨ns, rfl, cls_of c, hl, hq⟩, fun base X2 G2 => ?_⟩
  exact G_law (gls_of X2 G2 c) (fns_of X2 G2 c) F

end K1
open PySem PySem.W PySem.Calls PyProof.Rows
theorem PySem.Challenge.cw_ownbest_k02_better_of_two_holds : PySem.Challenge.rw_ownbest_k02_better_of_two.Holds := by
  w_on; o_law
  refine HandSHeadRun.head_imp (r := OpenLaw.row PySem.Challenge.rw_ownbest_k02_better_of_two) (q := view (OpenLaw.row PySem.Challenge.rw_ownbest_k02_better_of_two).prog K1.viewH) (H := K1.hkH) (ob := K1.obH) (M := 20000) (loose := K1.namesH) (d := HandSHeadRun.topDef (OpenLaw.row PySem.Challenge.rw_ownbest_k02_better_of_two).prog 68) (kwd := []) K1.obH_eq K1.runH
    (by kernel_rfl) (by kernel_rfl) (by kernel_rfl) (by rfl) (by first | assumption | decide +kernel) (by decide +kernel) ⟨rfl, rfl, rfl, rfl, rfl, by decide +kernel⟩ ?hw ?hc
  case hw => w_witness2
  case hc =>
    refine DL.walkG (l := PySem.Challenge.rw_ownbest_k02_better_of_two) (n := 63) (k := 10) (x := "script") (CX := fun w => L2N.CX (PySem.Challenge.rw_ownbest_k02_better_of_two).prog w) rfl (by decide) (by kernel_rfl) ⟨rfl, by decide, by decide⟩ ?F ?X
    case X => exact fun w H s e s' z => K1.noCX z
    case F =>
      intro w mg fa h Y G hmg0
      have hmg : mg ("law" : PySem.Str) = some (.ref fa) := by
        have e : (HandSHeadRun.topDef (OpenLaw.row PySem.Challenge.rw_ownbest_k02_better_of_two).prog 68).name = ("law" : PySem.Str) := by kernel_rfl
        rw [← e]
        exact hmg0
      exact K1.facts w mg fa h Y G hmg
