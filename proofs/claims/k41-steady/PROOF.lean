import PyProof.Rows.All
import Wide.All
import OpenK.AllK
import Wide.FinOn
import HandS.ForDict
import KE.OsRunLaw
import HandS.ForMost
import HandS.Strs
import HandS.ForExc
import HandS.TryMany
import HandS.CallSlots
import KE.KDictCopyH
import KE.KDictKeyed
import HandS.Flow
import HandS.Iter
import HandS.Zip
import HandS.Rev
import HandS.Comp
import HandS.TupAny
import HandS.TupMul
import HandS.Wide
import HandS.List
import HandS.Deep
import HandS.IsInst
import HandS.Gcd
import HandS.Struct
import KE.GoesMore
import KE.GoesEnum
import HandS.NoneIn
import HandS.Style
import HandS.Exc
import HandS.ExcIs
import HandS.ExcOwn
import HandS.Small
import KE.KMathGC
import KE.DatumOrd
import HandS.DictComp
import KE.KDictDisplayH
import KE.KDictWalk
import KE.SortData
import HandS.DictTup
import KE.KDictSum
import KE.DataCmp
import KE.KTupSum
import KE.KExcInit
import HandS.TupSets
import KE.KDictZip
import KE.GoesZip
import HandS.Star
import HandS.Text
import HandS.FStr
import HandS.MapJoin
import HandS.RevTup
import PyProof.JoinWalk
import PyProof.Draws
import PyProof.EnumMake
import PyProof.EnumFor
import PyProof.StrBlock2
import KE.KDictItemsList
import HandS.Conv
import HandS.TupLen
import HandS.SortKw
import KE.KeyNested
import HandS.Keys
import HandS.AnyAll
import HandS.RevRange
import HandS.Slots
import KE.SortKeyed
import KE.KDictOf
import KE.KDictPairs
import HandS.CallLocal
import HandS.SetFor
import KE.DataMinMax
import HandS.ExcValue
import HandS.RepeatKit
import PyProof.Rows.Range3
import HandS.ClsMeth
import KE.KTryMore
import HandS.HotCalls
import HandS.DictEq
import KE.KEqDict
import PySem.Challenge.RW_stoppedcoins_k41_steady_by_hand_and_what
set_option Elab.async false
set_option linter.all false
set_option maxRecDepth 100000
set_option maxHeartbeats 4000000
section
open PySem PySem.W PyProof.Rows
set_option maxHeartbeats 0
open_top hd_law for PySem.Challenge.rw_stoppedcoins_k41_steady_by_hand_and_what
end
namespace Ev
open PySem PySem.Spec PyProof.Rows L2

/-- what the reckoner's values are: a plain value or a known thing; a tuple; an object of its own heap -/
inductive W where
  | k (v : V)
  | tup (xs : List W)
  | obj (i : Nat)
  /-- a list or a tuple (nobody knows which), never written again -/
  | mix (xs : List W)
  /-- a tuple whose object has no dict of its own -/
  | pt (xs : List W)

inductive HV where
  | lst (xs : List W)
  | cel
  | urn (n : Nat)
  /-- a dict whose keys are tuples; one that is walked (never written again) -/
  | dct (kvs : List (W × W))
  | fdc (kvs : List (W × W))
  /-- an instance of an own class -/
  | ins (c : Nat) (fs : List (Str × W))
  /-- a dict whose keys are whole numbers -/
  | dki (kvs : List (Int × W))
  /-- a set of whole numbers, in the order in which they were added -/
  | sti (ks : List Int)
  /-- an exception object of an own class, held as a value -/
  | exv (c : Nat)

def lookA : List (Nat × HV) → Nat → Option HV
  | [], _ => none
  | p :: r, i => match Nat.beq p.1 i with
    | true => some p.2
    | false => lookA r i
def setA : List (Nat × HV) → Nat → HV → List (Nat × HV)
  | [], _, _ => []
  | p :: r, i, v => match Nat.beq p.1 i with
    | true => (p.1, v) :: r
    | false => p :: setA r i v
structure FH where
  n : Nat
  l : List (Nat × HV)
def FH.get (S : FH) (i : Nat) : Option HV := lookA S.l i
def FH.set (S : FH) (i : Nat) (v : HV) : FH := ⟨S.n, setA S.l i v⟩
def FH.new (S : FH) (v : HV) : FH := ⟨S.n + 1, (S.n, v) :: S.l⟩
def FH.bare (S : FH) : FH := ⟨S.n, []⟩

theorem beq_dec (a b : Nat) : Nat.beq a b = decide (a = b) := by
  cases h : Nat.beq a b with
  | true => rw [decide_eq_true (Nat.eq_of_beq_eq_true h)]
  | false => rw [decide_eq_false (Nat.ne_of_beq_eq_false h)]
theorem lookA_set : ∀ (l : List (Nat × HV)) (i : Nat) (v : HV) (j : Nat), lookA (setA l i v) j = if i = j then (lookA l i).map (fun _ => v) else lookA l j
  | [], i, v, j => by simp [lookA, setA]
  | p :: r, i, v, j => by
    have ih := lookA_set r i v j
    unfold setA
    rw [beq_dec]
    by_cases h : p.1 = i
    · rw [decide_eq_true h]
      simp only [lookA, beq_dec]
      by_cases q : i = j
      · subst q; simp [h]
      · have : ¬ p.1 = j := fun z => q (h.symm.trans z)
        simp [q, this]
    · rw [decide_eq_false h]
      simp only [lookA, beq_dec]
      by_cases q : p.1 = j
      · have : ¬ i = j := fun z => h (q.trans z.symm)
        simp [q, this]
      · simp only [decide_eq_false q, decide_eq_false h]
        rw [ih]
theorem get_set {S : FH} {i : Nat} {v v0 : HV} (h : S.get i = some v0) (j : Nat) : (S.set i v).get j = if i = j then some v else S.get j := by
  show lookA (setA S.l i v) j = _
  rw [lookA_set]
  have h' : lookA S.l i = some v0 := h
  rw [h']; rfl
theorem get_new {S : FH} {v : HV} (j : Nat) : (S.new v).get j = if S.n = j then some v else S.get j := by
  show lookA ((S.n, v) :: S.l) j = _
  simp only [lookA, beq_dec]
  by_cases q : S.n = j <;> simp [q] <;> rfl

/-- a tuple that is known to its object, which has no dict of its own -/
def PlT (H : Hp) (a : Addr) (vs : List V) : Prop := ∃ o, H a = some (.frz o (.tup vs)) ∧ o.dict = none
theorem PlT.sq {K : PySem.W.Frag} {H : Hp} {a : Addr} {vs : List V} (h : PlT H a vs) : SqT K H a vs := let ⟨o, e, _⟩ := h; .inl (.inr ⟨o, e⟩)
def SqM (K : PySem.W.Frag) (H : Hp) (a : Addr) (vs : List V) : Prop := SqT K H a vs ∨ ∃ o, H a = some (.frz o (.lst vs))
section
variable (K : PySem.W.Frag) (ρ : List Addr) (H : Hp)
mutual
def RW : W → V → Prop
  | .k v, u => u = v
  | .tup xs, u => ∃ a vs, u = .ref a ∧ SqT K H a vs ∧ RWs xs vs
  | .obj i, u => ∃ a, u = .ref a ∧ ρ[i]? = some a
  | .mix xs, u => ∃ a vs, u = .ref a ∧ SqM K H a vs ∧ RWs xs vs
  | .pt xs, u => ∃ a vs, u = .ref a ∧ PlT H a vs ∧ RWs xs vs
def RWs : List W → List V → Prop
  | [], vs => vs = []
  | w :: ws, vs => ∃ v r, vs = v :: r ∧ RW w v ∧ RWs ws r
end
end
def FRs (K : PySem.W.Frag) (ρ : List Addr) (H : Hp) : List (Str × W) → List (Str × V) → Prop
  | [], vs => vs = []
  | p :: r, vs => ∃ v ys, vs = (p.1, v) :: ys ∧ RW K ρ H p.2 v ∧ FRs K ρ H r ys
/-! a key of a dict -/
mutual
def nkey : W → Option NestedKey
  | .k (.int i) => some (.num i)
  | .k (.str x) => some (.text x)
  | .k _ => none
  | .tup xs => match nkeys xs with
    | some ks => some (.tup ks)
    | none => none
  | .obj _ => none
  | .mix _ => none
  | .pt _ => none
def nkeys : List W → Option (List NestedKey)
  | [] => some []
  | w :: ws => match nkey w with
    | some k => match nkeys ws with
      | some ks => some (k :: ks)
      | none => none
    | none => none
end
def KVs (K : PySem.W.Frag) (ρ : List Addr) (H : Hp) : List (W × W) → List (NestedKey × Addr × V) → Prop
  | [], ys => ys = []
  | p :: r, ys => ∃ k b v ys', ys = (k, b, v) :: ys' ∧ (nkey p.1 = some k ∧ k.depth ≤ 8) ∧ RW K ρ H p.1 (.ref b) ∧ RW K ρ H p.2 v ∧ KVs K ρ H r ys'
def KxR (p : NestedKey × Addr × V) (q : NestedKey × Addr × Value) : Prop := p.1 = q.1 ∧ p.2.1 = q.2.1 ∧ RelV p.2.2 q.2.2
/-- a dict whose keys are tuples: keys, the keys' addresses, values -/
def dctO (P : Program) (w : World) (d : Addr) (xs : List (NestedKey × Addr × V)) : HO := .ext fun h =>
  (d == sysModules) = false ∧ xs.length ≤ sizeLine ∧ ∃ ys : List (NestedKey × Addr × Value), Paired KxR xs ys ∧ (ys.map (·.1)).Nodup ∧ ∃ o es ep, h.get? d = some o ∧ o.ExactDict ∧ o.data = .dict es ep ∧ es.toList = ys.map (entryOfKey (nestedKind P w))
/-- what the module has written, with the exception classes by number -/
structure Glo where
  K : PySem.W.Frag
  cad : Nat → Addr
  cfl : Nat → Option Str
  P : Program
  w : World
def KIs (K : PySem.W.Frag) (ρ : List Addr) (H : Hp) : List (Int × W) → List (Key × V) → Prop
  | [], ys => ys = []
  | p :: r, ys => ∃ v ys', ys = (Sum.inl p.1, v) :: ys' ∧ RW K ρ H p.2 v ∧ KIs K ρ H r ys'
/-- an exception object at a, of the class cls, its dict d -/
def ExV (cls : Value) (d : Option Addr) (a : Addr) : HO := .ext fun h => ∃ (oe : Obj) (vs : Array Value), h.get? a = some oe ∧ Zc cls d oe ∧ oe.data = .fields vs
def RO (G : Glo) (ρ : List Addr) (H : Hp) (a : Addr) : HV → HO → Prop
  | .lst xs, .lst vs => RWs G.K ρ H xs vs
  | .cel, .lst vs => ∃ ns : List Int, ns ≠ [] ∧ vs = ns.map V.int
  | .urn n, .lst vs => ∃ a b c : Int, vs = [.int a, .int b, .int c] ∧ 0 ≤ b ∧ b < 2 ^ 62 ∧ 0 ≤ c ∧ c ≤ (n : Int)
  | .dct kvs, .ext φ => ∃ xs, HO.ext φ = dctO G.P G.w a xs ∧ KVs G.K ρ H kvs xs
  | .fdc kvs, .frz od u => ∃ xs, u = dctO G.P G.w a xs ∧ KVs G.K ρ H kvs xs
  | .ins c fs, .ins C _ vs => C = G.cad c ∧ FRs G.K ρ H fs vs
  | .dki kvs, .dK xs => KIs G.K ρ H kvs xs
  | .sti ks, .ext φ => ks.Nodup ∧ HO.ext φ = SetO G.w a (fun k => ks.any fun z => decide (k = z)) ks.length
  | .exv c, .ext φ => ∃ d, HO.ext φ = ExV (.ref (G.cad c)) d a ∧ ∀ dd : Addr, d = some dd → ∃ f v, H dd = some (.xd [(f, v)])
  | _, _ => False

/-- a configuration: which address each object of the reckoner has, the abstract heap, the reckoner's heap -/
structure Cf where
  ρ : List Addr
  H : Hp
  S : FH
structure Cf.Ok (G : Glo) (C : Cf) : Prop where
  len : C.ρ.length = C.S.n
  nd : ∀ (i j : Nat) (a : Addr), C.ρ[i]? = some a → C.ρ[j]? = some a → i = j
  lv : ∀ (i : Nat) (a : Addr), C.ρ[i]? = some a → C.H a ≠ none
  ob : ∀ (i : Nat) (v : HV), C.S.get i = some v → ∃ a o, C.ρ[i]? = some a ∧ C.H a = some o ∧ RO G C.ρ C.H a v o
structure Ext (C C' : Cf) : Prop where
  pre : ∀ (i : Nat) (a : Addr), C.ρ[i]? = some a → C'.ρ[i]? = some a
  keep : ∀ (a : Addr) (o : HO), C.H a = some o → (∀ (i : Nat) (v : HV), C.S.get i = some v → C.ρ[i]? ≠ some a) → C'.H a = some o
  live : ∀ a : Addr, C.H a ≠ none → C'.H a ≠ none
  frz : ∀ (a : Addr) (o : Obj) (u : HO), C.H a = some (.frz o u) → C'.H a = some (.frz o u)
  new1 : ∀ (i : Nat) (v : HV), C'.S.get i = some v → i < C.ρ.length → ∃ v0, C.S.get i = some v0
  new2 : ∀ (i : Nat) (a : Addr), C'.ρ[i]? = some a → C.ρ.length ≤ i → C.H a = none
theorem Ext.refl (C : Cf) : Ext C C := ⟨fun _ _ h => h, fun _ _ h _ => h, fun _ h => h, fun _ _ _ h => h, fun i v h1 _ => ⟨v, h1⟩, fun i a h1 h2 => by
  rw [List.getElem?_eq_none h2] at h1; cases h1⟩
theorem lt_of_get? {l : List Addr} {i : Nat} {a : Addr} (h : l[i]? = some a) : i < l.length := (List.getElem?_eq_some_iff.mp h).1
theorem Ext.le {A B : Cf} (x : Ext A B) : A.ρ.length ≤ B.ρ.length := by
  cases h : A.ρ.length with
  | zero => exact Nat.zero_le _
  | succ n =>
    have hn : n < A.ρ.length := by omega
    have := x.pre n A.ρ[n] (by simp [hn])
    have := lt_of_get? this
    omega
theorem Ext.trans {A B C : Cf} (x : Ext A B) (y : Ext B C) : Ext A C where
  pre := fun i a h => y.pre i a (x.pre i a h)
  keep := fun a o h n => y.keep a o (x.keep a o h n) fun i v h1 h2 => by
    by_cases hi : i < A.ρ.length
    · obtain ⟨v0, h3⟩ := x.new1 i v h1 hi
      have h4 : A.ρ[i]? = some A.ρ[i] := by simp [hi]
      have h5 := x.pre i _ h4
      rw [h2] at h5
      have e : a = A.ρ[i] := Option.some.inj h5
      exact n i v0 h3 (by rw [h4, e])
    · have := x.new2 i a h2 (by omega)
      rw [h] at this; cases this
  live := fun a h => y.live a (x.live a h)
  frz := fun a o u h => y.frz a o u (x.frz a o u h)
  new1 := fun i v h1 h2 => by
    obtain ⟨v0, h3⟩ := y.new1 i v h1 (Nat.lt_of_lt_of_le h2 x.le)
    exact x.new1 i v0 h3 h2
  new2 := fun i a h1 h2 => by
    by_cases hi : i < B.ρ.length
    · have h4 : B.ρ[i]? = some B.ρ[i] := by simp [hi]
      have h5 := y.pre i _ h4
      rw [h1] at h5
      have e : a = B.ρ[i] := Option.some.inj h5
      exact x.new2 i a (by rw [h4, e]) h2
    · have h3 := y.new2 i a h1 (by omega)
      cases q : A.H a with
      | none => rfl
      | some o => exact absurd h3 (x.live a (by rw [q]; simp))

section
variable {K : PySem.W.Frag} {G : Glo}
theorem RO.kind {ρ : List Addr} {H : Hp} {a : Addr} {v : HV} {o : HO} (h : RO G ρ H a v o) : (∀ ys, o ≠ .tup ys) ∧ (∀ ob ys, o ≠ .frz ob (.tup ys)) ∧ ∀ fs, o ≠ .xd fs := by
  cases v <;> cases o <;> first
    | exact h.elim
    | exact ⟨fun ys z => HO.noConfusion z, fun ob ys z => HO.noConfusion z, fun fs z => HO.noConfusion z⟩
    | (obtain ⟨xs, e, _⟩ := h
       refine ⟨fun ys z => HO.noConfusion z, fun ob ys z => ?_, fun fs z => HO.noConfusion z⟩
       injection z with z1 z2
       rw [z2] at e
       exact HO.noConfusion e)
theorem Ext.tup {C C' : Cf} (ok : C.Ok G) (x : Ext C C') {a : Addr} {vs : List V} (h : SqT G.K C.H a vs) : SqT G.K C'.H a vs := by
  have key : ∀ o, C.H a = some o → ((∃ ys, o = .tup ys) ∨ ∃ ob ys, o = .frz ob (.tup ys)) → C'.H a = some o := fun o e ne => x.keep a o e fun i v h1 h2 => by
    obtain ⟨b, u, h3, h4, h5⟩ := ok.ob i v h1
    rw [h2] at h3; cases h3
    rw [e] at h4; cases h4
    rcases ne with ⟨ys, z⟩ | ⟨ob, ys, z⟩
    · exact h5.kind.1 ys z
    · exact h5.kind.2.1 ob ys z
  rcases h with (h | ⟨o, h⟩) | h
  · exact .inl (.inl (key _ h (.inl ⟨_, rfl⟩)))
  · exact .inl (.inr ⟨o, key _ h (.inr ⟨_, _, rfl⟩)⟩)
  · exact .inr h
mutual
theorem RW.mono {C C' : Cf} (ok : C.Ok G) (x : Ext C C') : ∀ (w : W) {v : V}, RW G.K C.ρ C.H w v → RW G.K C'.ρ C'.H w v
  | .k _, v, h => by unfold RW at h ⊢; exact h
  | .tup xs, v, h => by
    unfold RW at h ⊢
    obtain ⟨a, vs, e, h1, h2⟩ := h
    exact ⟨a, vs, e, x.tup ok h1, RWs.mono ok x xs h2⟩
  | .obj i, v, h => by
    unfold RW at h ⊢
    obtain ⟨a, e, h1⟩ := h
    exact ⟨a, e, x.pre i a h1⟩
  | .mix xs, v, h => by
    unfold RW at h ⊢
    obtain ⟨a, vs, e, h1, h2⟩ := h
    exact ⟨a, vs, e, h1.imp (x.tup ok) fun ⟨o, z⟩ => ⟨o, x.frz a o _ z⟩, RWs.mono ok x xs h2⟩
  | .pt xs, v, h => by
    unfold RW at h ⊢
    obtain ⟨a, vs, e, h1, h2⟩ := h
    exact ⟨a, vs, e, h1.imp fun o z => ⟨x.frz a o _ z.1, z.2⟩, RWs.mono ok x xs h2⟩
theorem RWs.mono {C C' : Cf} (ok : C.Ok G) (x : Ext C C') : ∀ (ws : List W) {vs : List V}, RWs G.K C.ρ C.H ws vs → RWs G.K C'.ρ C'.H ws vs
  | [], vs, h => by unfold RWs at h ⊢; exact h
  | w :: ws, vs, h => by
    unfold RWs at h ⊢
    obtain ⟨v, r, e, h1, h2⟩ := h
    exact ⟨v, r, e, RW.mono ok x w h1, RWs.mono ok x ws h2⟩
end
theorem KVs.mono {C C' : Cf} (ok : C.Ok G) (x : Ext C C') : ∀ {kvs : List (W × W)} {ys : List (NestedKey × Addr × V)}, KVs G.K C.ρ C.H kvs ys → KVs G.K C'.ρ C'.H kvs ys
  | [], ys, h => h
  | p :: r, ys, h => by
    obtain ⟨k, b, v, ys', e, h1, h2, h3, h4⟩ := h
    exact ⟨k, b, v, ys', e, h1, RW.mono ok x _ h2, RW.mono ok x _ h3, KVs.mono ok x h4⟩
theorem KVs.map_ {K : PySem.W.Frag} {ρ ρ' : List Addr} {H H' : Hp} (f : ∀ w v, RW K ρ H w v → RW K ρ' H' w v) : ∀ {kvs : List (W × W)} {ys : List (NestedKey × Addr × V)}, KVs K ρ H kvs ys → KVs K ρ' H' kvs ys
  | [], ys, h => h
  | p :: r, ys, h => by
    obtain ⟨k, b, v, ys', e, h1, h2, h3, h4⟩ := h
    exact ⟨k, b, v, ys', e, h1, f _ _ h2, f _ _ h3, KVs.map_ f h4⟩
theorem FRs.mono {C C' : Cf} (ok : C.Ok G) (x : Ext C C') : ∀ {fs : List (Str × W)} {vs : List (Str × V)}, FRs G.K C.ρ C.H fs vs → FRs G.K C'.ρ C'.H fs vs
  | [], vs, h => h
  | p :: r, vs, h => by
    obtain ⟨v, ys, e, h1, h2⟩ := h
    exact ⟨v, ys, e, RW.mono ok x _ h1, FRs.mono ok x h2⟩
theorem FRs.map_ {K : PySem.W.Frag} {ρ ρ' : List Addr} {H H' : Hp} (f : ∀ w v, RW K ρ H w v → RW K ρ' H' w v) : ∀ {fs : List (Str × W)} {vs : List (Str × V)}, FRs K ρ H fs vs → FRs K ρ' H' fs vs
  | [], vs, h => h
  | p :: r, vs, h => by
    obtain ⟨v, ys, e, h1, h2⟩ := h
    exact ⟨v, ys, e, f _ _ h1, FRs.map_ f h2⟩
theorem KIs.mono {C C' : Cf} (ok : C.Ok G) (x : Ext C C') : ∀ {fs : List (Int × W)} {vs : List (Key × V)}, KIs G.K C.ρ C.H fs vs → KIs G.K C'.ρ C'.H fs vs
  | [], vs, h => h
  | p :: r, vs, h => by
    obtain ⟨v, ys, e, h1, h2⟩ := h
    exact ⟨v, ys, e, RW.mono ok x _ h1, KIs.mono ok x h2⟩
theorem Ext.xd {C C' : Cf} (ok : C.Ok G) (x : Ext C C') {dd : Addr} {fs : List (Str × V)} (h : C.H dd = some (.xd fs)) : C'.H dd = some (.xd fs) := x.keep dd _ h fun i v h1 h2 => by
  obtain ⟨b, u, h3, h4, h5⟩ := ok.ob i v h1
  rw [h2] at h3; cases h3
  rw [h] at h4; cases h4
  exact h5.kind.2.2 _ rfl
theorem RO.mono {C C' : Cf} (ok : C.Ok G) (x : Ext C C') {a : Addr} {v : HV} {o : HO} (h : RO G C.ρ C.H a v o) : RO G C'.ρ C'.H a v o := by
  cases v <;> cases o <;> first
    | exact RWs.mono ok x _ h
    | (obtain ⟨xs, e, q⟩ := h; exact ⟨xs, e, KVs.mono ok x q⟩)
    | (obtain ⟨e, q⟩ := h; exact ⟨e, FRs.mono ok x q⟩)
    | exact KIs.mono ok x h
    | (obtain ⟨d, e, q⟩ := h; exact ⟨d, e, fun dd hd => by obtain ⟨f, v, z⟩ := q dd hd; exact ⟨f, v, Ext.xd ok x z⟩⟩)
    | exact h
theorem RWs.length {ρ : List Addr} {H : Hp} : ∀ {ws : List W} {vs : List V}, RWs K ρ H ws vs → vs.length = ws.length
  | [], vs, h => by unfold RWs at h; subst h; rfl
  | w :: ws, vs, h => by
    unfold RWs at h
    obtain ⟨v, r, e, h1, h2⟩ := h
    subst e
    simp [h2.length]
theorem RWs.get {ρ : List Addr} {H : Hp} : ∀ {ws : List W} {vs : List V} {i : Nat} {w : W}, RWs K ρ H ws vs → ws[i]? = some w → ∃ v, vs[i]? = some v ∧ RW K ρ H w v
  | [], vs, i, w, h, e => by simp at e
  | w' :: ws, vs, 0, w, h, e => by
    unfold RWs at h
    obtain ⟨v, r, e1, h1, h2⟩ := h
    subst e1
    simp at e; subst e
    exact ⟨v, rfl, h1⟩
  | w' :: ws, vs, i + 1, w, h, e => by
    unfold RWs at h
    obtain ⟨v, r, e1, h1, h2⟩ := h
    subst e1
    obtain ⟨u, q1, q2⟩ := RWs.get (i := i) h2 (by simpa using e)
    exact ⟨u, by simpa using q1, q2⟩
theorem RWs.nil {ρ : List Addr} {H : Hp} : RWs K ρ H [] [] := by unfold RWs; rfl
theorem RWs.cons {ρ : List Addr} {H : Hp} {w : W} {v : V} {ws : List W} {vs : List V} (h1 : RW K ρ H w v) (h2 : RWs K ρ H ws vs) : RWs K ρ H (w :: ws) (v :: vs) := by
  unfold RWs; exact ⟨v, vs, rfl, h1, h2⟩
theorem RWs.append {ρ : List Addr} {H : Hp} : ∀ {ws ws' : List W} {vs vs' : List V}, RWs K ρ H ws vs → RWs K ρ H ws' vs' → RWs K ρ H (ws ++ ws') (vs ++ vs')
  | [], _, vs, _, h, h' => by unfold RWs at h; subst h; exact h'
  | w :: ws, _, vs, _, h, h' => by
    unfold RWs at h
    obtain ⟨v, r, e, h1, h2⟩ := h
    subst e
    exact .cons h1 (RWs.append h2 h')
theorem RWs.take {ρ : List Addr} {H : Hp} : ∀ {ws : List W} {vs : List V} (n : Nat), RWs K ρ H ws vs → RWs K ρ H (ws.take n) (vs.take n)
  | _, _, 0, _ => .nil
  | [], vs, n + 1, h => by unfold RWs at h; subst h; exact .nil
  | w :: ws, vs, n + 1, h => by
    unfold RWs at h
    obtain ⟨v, r, e, h1, h2⟩ := h
    subst e
    exact .cons h1 (RWs.take n h2)
theorem RWs.drop {ρ : List Addr} {H : Hp} : ∀ {ws : List W} {vs : List V} (n : Nat), RWs K ρ H ws vs → RWs K ρ H (ws.drop n) (vs.drop n)
  | _, _, 0, h => h
  | [], vs, n + 1, h => by unfold RWs at h; subst h; exact .nil
  | w :: ws, vs, n + 1, h => by
    unfold RWs at h
    obtain ⟨v, r, e, h1, h2⟩ := h
    subst e
    exact RWs.drop n h2
theorem RWs.set {ρ : List Addr} {H : Hp} {w : W} {v : V} (r : RW K ρ H w v) : ∀ {ws : List W} {vs : List V} (i : Nat), RWs K ρ H ws vs → RWs K ρ H (ws.set i w) (vs.set i v)
  | [], vs, _, h => by unfold RWs at h; subst h; exact .nil
  | w' :: ws, vs, 0, h => by
    unfold RWs at h
    obtain ⟨u, q, e, h1, h2⟩ := h
    subst e
    exact .cons r h2
  | w' :: ws, vs, i + 1, h => by
    unfold RWs at h
    obtain ⟨u, q, e, h1, h2⟩ := h
    subst e
    exact .cons h1 (RWs.set r i h2)

/-- a new object -/
theorem Cf.alloc {C : Cf} (ok : C.Ok G) {v : HV} {o : HO} {p : Addr} (hp : C.H p = none) (r : RO G C.ρ C.H p v o) :
    (Cf.mk (C.ρ ++ [p]) (upd C.H p o) (C.S.new v)).Ok G ∧ Ext C ⟨C.ρ ++ [p], upd C.H p o, C.S.new v⟩ ∧ (C.ρ ++ [p])[C.S.n]? = some p := by
  have hat : (C.ρ ++ [p])[C.S.n]? = some p := by rw [← ok.len]; simp
  have x : Ext C ⟨C.ρ ++ [p], upd C.H p o, C.S.new v⟩ := {
    pre := fun i a h => by
      show (C.ρ ++ [p])[i]? = some a
      rw [List.getElem?_append_left (lt_of_get? h)]; exact h
    keep := fun a u h _ => by
      show upd C.H p o a = some u
      rw [upd_ne (ne_of_none h hp)]; exact h
    live := fun a h => by
      show upd C.H p o a ≠ none
      by_cases q : a = p
      · rw [q, upd_same]; simp
      · rw [upd_ne q]; exact h
    frz := fun a ob u h => by
      show upd C.H p o a = some (.frz ob u)
      rw [upd_ne (ne_of_none h hp)]; exact h
    new1 := fun i w h1 h2 => by
      have h1' : (C.S.new v).get i = some w := h1
      rw [get_new] at h1'
      rw [if_neg (by rw [← ok.len]; omega)] at h1'
      exact ⟨w, h1'⟩
    new2 := fun i a h1 h2 => by
      have h1' : (C.ρ ++ [p])[i]? = some a := h1
      rw [List.getElem?_append_right h2] at h1'
      have : a = p := by
        cases q : i - C.ρ.length with
        | zero => rw [q] at h1'; simpa using h1'.symm
        | succ n => rw [q] at h1'; simp at h1'
      rw [this]; exact hp }
  refine ⟨⟨?_, ?_, ?_, ?_⟩, x, hat⟩
  · show (C.ρ ++ [p]).length = C.S.n + 1
    simp [ok.len]
  · intro i j a h1 h2
    have np : ∀ (i : Nat), C.ρ[i]? ≠ some p := fun i h => ok.lv i p h hp
    have cases_ : ∀ (i : Nat) (a : Addr), (C.ρ ++ [p])[i]? = some a → (C.ρ[i]? = some a) ∨ (i = C.ρ.length ∧ a = p) := fun i a h => by
      by_cases hi : i < C.ρ.length
      · rw [List.getElem?_append_left hi] at h; exact .inl h
      · rw [List.getElem?_append_right (by omega)] at h
        cases q : i - C.ρ.length with
        | zero => rw [q] at h; exact .inr ⟨by omega, by simpa using h.symm⟩
        | succ n => rw [q] at h; simp at h
    rcases cases_ i a h1 with g1 | ⟨g1, e1⟩ <;> rcases cases_ j a h2 with g2 | ⟨g2, e2⟩
    · exact ok.nd i j a g1 g2
    · subst e2; exact absurd g1 (np i)
    · subst e1; exact absurd g2 (np j)
    · omega
  · intro i a h
    by_cases q : a = p
    · show upd C.H p o a ≠ none
      rw [q, upd_same]; simp
    · by_cases hi : i < C.ρ.length
      · have h' : (C.ρ ++ [p])[i]? = some a := h
        rw [List.getElem?_append_left hi] at h'
        exact x.live a (ok.lv i a h')
      · have := x.new2 i a h (by omega)
        have h' : (C.ρ ++ [p])[i]? = some a := h
        rw [List.getElem?_append_right (by omega)] at h'
        cases z : i - C.ρ.length with
        | zero => rw [z] at h'; exact absurd (by simpa using h'.symm) q
        | succ n => rw [z] at h'; simp at h'
  · intro i w h
    have h' : (C.S.new v).get i = some w := h
    rw [get_new] at h'
    by_cases q : C.S.n = i
    · rw [if_pos q] at h'
      cases h'
      subst q
      exact ⟨p, o, hat, upd_same, RO.mono ok x r⟩
    · rw [if_neg q] at h'
      obtain ⟨a, u, h1, h2, h3⟩ := ok.ob i w h'
      exact ⟨a, u, x.pre i a h1, by show upd C.H p o a = some u; rw [upd_ne (ne_of_none h2 hp)]; exact h2, RO.mono ok x h3⟩
/-- an object changed -/
theorem Cf.put {C : Cf} (ok : C.Ok G) {i : Nat} {v0 v : HV} {o : HO} {a : Addr} (hi : C.S.get i = some v0) (ha : C.ρ[i]? = some a) (r : RO G C.ρ C.H a v o) (hv : ∀ kvs, v0 ≠ .fdc kvs := by intro _ z; cases z) :
    (Cf.mk C.ρ (upd C.H a o) (C.S.set i v)).Ok G ∧ Ext C ⟨C.ρ, upd C.H a o, C.S.set i v⟩ := by
  have x : Ext C ⟨C.ρ, upd C.H a o, C.S.set i v⟩ := {
    pre := fun _ _ h => h
    keep := fun b u h n => by
      show upd C.H a o b = some u
      by_cases q : b = a
      · subst q; exact absurd ha (n i v0 hi)
      · rw [upd_ne q]; exact h
    live := fun b h => by
      show upd C.H a o b ≠ none
      by_cases q : b = a
      · rw [q, upd_same]; simp
      · rw [upd_ne q]; exact h
    frz := fun b ob u h => by
      show upd C.H a o b = some (.frz ob u)
      by_cases q : b = a
      · subst q
        obtain ⟨b', o', h1, h2, h3⟩ := ok.ob i v0 hi
        rw [ha] at h1; cases h1
        rw [h] at h2; cases h2
        cases v0 with
        | fdc kvs => exact absurd rfl (hv kvs)
        | _ => exact h3.elim
      · rw [upd_ne q]; exact h
    new1 := fun j w h1 _ => by
      have h1' : (C.S.set i v).get j = some w := h1
      rw [get_set hi] at h1'
      by_cases q : i = j
      · subst q; exact ⟨v0, hi⟩
      · rw [if_neg q] at h1'; exact ⟨w, h1'⟩
    new2 := fun j b h1 h2 => by
      have h1' : C.ρ[j]? = some b := h1
      rw [List.getElem?_eq_none h2] at h1'; cases h1' }
  refine ⟨⟨ok.len, ok.nd, fun j b h => x.live b (ok.lv j b h), fun j w h => ?_⟩, x⟩
  have h' : (C.S.set i v).get j = some w := h
  rw [get_set hi] at h'
  by_cases q : i = j
  · subst q
    rw [if_pos rfl] at h'
    cases h'
    exact ⟨a, o, ha, upd_same, RO.mono ok x r⟩
  · rw [if_neg q] at h'
    obtain ⟨b, u, h1, h2, h3⟩ := ok.ob j w h'
    have nb : b ≠ a := fun e => q (ok.nd i j a ha (by rw [← e]; exact h1))
    exact ⟨b, u, h1, by show upd C.H a o b = some u; rw [upd_ne nb]; exact h2, RO.mono ok x h3⟩
/-- a heap that grew beside: only untracked places were taken -/
theorem Cf.beside {C : Cf} (ok : C.Ok G) {H' : Hp} (k : ∀ a o, C.H a = some o → H' a = some o) : (Cf.mk C.ρ H' C.S).Ok G ∧ Ext C ⟨C.ρ, H', C.S⟩ := by
  have x : Ext C ⟨C.ρ, H', C.S⟩ := ⟨fun _ _ h => h, fun a o h _ => k a o h, fun a h => by
    cases q : C.H a with
    | none => exact absurd q h
    | some o => show H' a ≠ none; rw [k a o q]; simp, fun a o u h => k a _ h, fun j w h _ => ⟨w, h⟩, fun j b h1 h2 => by
      have h1' : C.ρ[j]? = some b := h1
      rw [List.getElem?_eq_none h2] at h1'; cases h1'⟩
  exact ⟨⟨ok.len, ok.nd, fun j b h => x.live b (ok.lv j b h), fun j w h => by
    obtain ⟨b, u, h1, h2, h3⟩ := ok.ob j w h
    exact ⟨b, u, h1, k b u h2, RO.mono ok x h3⟩⟩, x⟩
/-- a new tuple -/
theorem Cf.tupd {C : Cf} (ok : C.Ok G) {p : Addr} {o : HO} (hp : C.H p = none) : (Cf.mk C.ρ (upd C.H p o) C.S).Ok G ∧ Ext C ⟨C.ρ, upd C.H p o, C.S⟩ :=
  Cf.beside ok fun a u h => by rw [upd_ne (ne_of_none h hp)]; exact h
end
end Ev

namespace Ev
open PySem PySem.Spec PyProof.Rows L2

/-! ### what a reckoning gives -/
abbrev Lo := List (Option W)
inductive Res (α : Type) where
  | ok (a : α) (S : FH)
  | exc (c : Nat) (x : W) (l : Lo) (S : FH)
  | pick (n : Nat) (f : Nat → Res α)
  | stuck
noncomputable def Res.bnd {α β : Type} (m : Res α) (k : α → FH → Res β) : Res β := Res.rec (motive := fun _ => Res β) (fun a S => k a S) (fun c x l S => .exc c x l S) (fun n _ ih => .pick n ih) .stuck m
theorem bnd_ok {α β : Type} {a : α} {S : FH} {k : α → FH → Res β} : (Res.ok a S).bnd k = k a S := rfl
theorem bnd_exc {α β : Type} {c x l} {S : FH} {k : α → FH → Res β} : (Res.exc c x l S).bnd k = .exc c x l S := rfl
theorem bnd_pick {α β : Type} {n f} {k : α → FH → Res β} : (Res.pick n f).bnd k = .pick n fun r => (f r).bnd k := rfl
theorem bnd_stuck {α β : Type} {k : α → FH → Res β} : (Res.stuck : Res α).bnd k = .stuck := rfl
noncomputable def getL (l : Lo) (i : Nat) : Option W := List.rec (motive := fun _ => Nat → Option W) (fun _ => none) (fun x _ ih i => Nat.rec (motive := fun _ => Option W) x (fun j _ => ih j) i) l i
def setL : Lo → Nat → Option W → Lo
  | [], _, _ => []
  | _ :: r, 0, w => w :: r
  | x :: r, i + 1, w => x :: setL r i w
theorem getL_eq : ∀ (l : Lo) (i : Nat), getL l i = (l[i]?).getD none
  | [], i => by simp [getL]
  | x :: r, 0 => by
    show x = _
    simp
  | x :: r, i + 1 => by
    have ih := getL_eq r i
    show getL r i = _
    simp [ih]
/-! the same by hand-overs: what is handed over is a value -/
noncomputable def setK {α : Type} (l : Lo) (i : Nat) (w : Option W) (k : Lo → α) : α := List.rec (motive := fun _ => Nat → (Lo → α) → α) (fun _ k => k []) (fun x r ih i k => Nat.rec (motive := fun _ => α) (k (w :: r)) (fun j _ => ih j fun r' => k (x :: r')) i) l i k
theorem setK_eq {α : Type} {w : Option W} : ∀ (l : Lo) (i : Nat) (k : Lo → α), setK l i w k = k (setL l i w)
  | [], i, k => rfl
  | x :: r, 0, k => rfl
  | x :: r, i + 1, k => setK_eq r i fun r' => k (x :: r')
noncomputable def fNat {α : Type} (n : Nat) (k : Nat → α) : α := Nat.rec (motive := fun _ => α) (k 0) (fun m _ => k (Nat.succ m)) n
theorem fNat_eq {α : Type} (n : Nat) (k : Nat → α) : fNat n k = k n := by cases n <;> rfl
noncomputable def fInt {α : Type} (i : Int) (k : Int → α) : α := Int.rec (motive := fun _ => α) (fun n => fNat n fun n => k (.ofNat n)) (fun n => fNat n fun n => k (.negSucc n)) i
theorem fInt_eq {α : Type} (i : Int) (k : Int → α) : fInt i k = k i := by
  cases i with
  | ofNat n => exact fNat_eq n fun n => k (.ofNat n)
  | negSucc n => exact fNat_eq n fun n => k (.negSucc n)
noncomputable def fBool {α : Type} (b : Bool) (k : Bool → α) : α := Bool.rec (motive := fun _ => α) (k false) (k true) b
theorem fBool_eq {α : Type} (b : Bool) (k : Bool → α) : fBool b k = k b := by cases b <;> rfl
noncomputable def newK {α : Type} (S : FH) (v : HV) (k : Nat → FH → α) : α := FH.rec (motive := fun _ => α) (fun n l => fNat n fun n => fNat (n + 1) fun m => k n ⟨m, (n, v) :: l⟩) S
theorem newK_eq {α : Type} (S : FH) (v : HV) (k : Nat → FH → α) : newK S v k = k S.n (S.new v) := by
  cases S with
  | mk n l =>
    show fNat n (fun n => fNat (n + 1) fun m => k n ⟨m, (n, v) :: l⟩) = _
    rw [fNat_eq, fNat_eq]; rfl
noncomputable def setAK {α : Type} (l : List (Nat × HV)) (i : Nat) (v : HV) (k : List (Nat × HV) → α) : α := List.rec (motive := fun _ => (List (Nat × HV) → α) → α) (fun k => k []) (fun p r ih k => Prod.rec (motive := fun _ => α) (fun j u => Bool.rec (motive := fun _ => α) (ih fun r' => k ((j, u) :: r')) (k ((j, v) :: r)) (Nat.beq j i)) p) l k
theorem setAK_eq {α : Type} {i : Nat} {v : HV} : ∀ (l : List (Nat × HV)) (k : List (Nat × HV) → α), setAK l i v k = k (setA l i v)
  | [], k => rfl
  | (j, u) :: r, k => by
    show Bool.rec (motive := fun _ => α) (setAK r i v fun r' => k ((j, u) :: r')) (k ((j, v) :: r)) (Nat.beq j i) = k (setA ((j, u) :: r) i v)
    have e : setA ((j, u) :: r) i v = match Nat.beq j i with | true => (j, v) :: r | false => (j, u) :: setA r i v := rfl
    rw [e]
    cases Nat.beq j i with
    | true => rfl
    | false => exact setAK_eq r _
noncomputable def FH.setK {α : Type} (S : FH) (i : Nat) (v : HV) (k : FH → α) : α := FH.rec (motive := fun _ => α) (fun n l => setAK l i v fun l' => k ⟨n, l'⟩) S
theorem FH.setK_eq {α : Type} (S : FH) (i : Nat) (v : HV) (k : FH → α) : S.setK i v k = k (S.set i v) := by
  cases S
  exact setAK_eq _ _
noncomputable def appK {α : Type} (l m : List W) (k : List W → α) : α := List.rec (motive := fun _ => (List W → α) → α) (fun k => k m) (fun x _ ih k => ih fun r => k (x :: r)) l k
theorem appK_eq {α : Type} {m : List W} : ∀ (l : List W) (k : List W → α), appK l m k = k (l ++ m)
  | [], k => rfl
  | x :: r, k => appK_eq r fun r => k (x :: r)
noncomputable def revK {α : Type} (l acc : List W) (k : List W → α) : α := List.rec (motive := fun _ => List W → α) (fun acc => k acc) (fun x _ ih acc => ih (x :: acc)) l acc
theorem revK_eq {α : Type} {k : List W → α} : ∀ (l acc : List W), revK l acc k = k (l.reverse ++ acc)
  | [], acc => rfl
  | x :: r, acc => by
    have := revK_eq (k := k) r (x :: acc)
    show revK r (x :: acc) k = _
    rw [this]; simp
theorem setL_eq : ∀ (l : Lo) (i : Nat) (w : Option W), setL l i w = l.set i w
  | [], i, w => by simp [setL]
  | x :: r, 0, w => by simp [setL]
  | x :: r, i + 1, w => by simp [setL, setL_eq r i w]

structure RL (G : Glo) (C : Cf) (l : Lo) (σ : L2.St) : Prop where
  len : l.length = σ.length
  at_ : ∀ (i : Nat) (w : W), l[i]? = some (some w) → ∃ v, σ[i]? = some (some v) ∧ RW G.K C.ρ C.H w v
def RX (G : Glo) (C : Cf) (c : Nat) (x : W) (cls : Value) (d : Option Addr) : Prop :=
  cls = .ref (G.cad c) ∧ match G.cfl c with
    | none => d = none
    | some f => ∃ dd v, d = some dd ∧ C.H dd = some (.xd [(f, v)]) ∧ RW G.K C.ρ C.H x v
theorem RL.mono {G : Glo} {C C' : Cf} {l : Lo} {σ : L2.St} (ok : C.Ok G) (x : Ext C C') (r : RL G C l σ) : RL G C' l σ :=
  ⟨r.len, fun i w h => by obtain ⟨v, h1, h2⟩ := r.at_ i w h; exact ⟨v, h1, h2.mono ok x⟩⟩
theorem RL.get {G : Glo} {C : Cf} {l : Lo} {σ : L2.St} (r : RL G C l σ) {i : Nat} {w : W} (h : getL l i = some w) : ∃ v, σ[i]? = some (some v) ∧ RW G.K C.ρ C.H w v := by
  rw [getL_eq] at h
  cases e : l[i]? with
  | none => rw [e] at h; cases h
  | some y => rw [e] at h; exact r.at_ i w (by rw [e]; exact congrArg some h)
theorem RL.set {G : Glo} {C : Cf} {l : Lo} {σ : L2.St} (r : RL G C l σ) {i : Nat} {w : W} {v : V} (h : RW G.K C.ρ C.H w v) : RL G C (setL l i (some w)) (σ.set i (some v)) := by
  refine ⟨by rw [setL_eq]; simp [r.len], fun j u e => ?_⟩
  rw [setL_eq] at e
  by_cases q : i = j
  · subst q
    by_cases hi : i < l.length
    · rw [List.getElem?_set_self hi] at e
      cases e
      exact ⟨v, by rw [List.getElem?_set_self (by rw [← r.len]; exact hi)], h⟩
    · rw [List.getElem?_eq_none (by simp; omega)] at e; cases e
  · rw [List.getElem?_set_ne q] at e
    rw [List.getElem?_set_ne q]
    exact r.at_ j u e

section
variable (G : Glo) (W' : WX)
def Post {α : Type} (C : Cf) (m : Res α) (Φ : α → Cf → Prop) : Prop := match m with
  | .ok a S => ∀ C' : Cf, C'.S = S → C'.Ok G → Ext C C' → Φ a C'
  | .exc c x l S => ∀ (C' : Cf) (cls : Value) (d : Option Addr) (σ' : L2.St), C'.S = S → C'.Ok G → Ext C C' → RX G C' c x cls d → RL G C' l σ' → W' cls d σ' C'.H
  | .pick n f => ∀ r : Nat, r < n → Post C (f r) Φ
  | .stuck => False
end
section
variable {G : Glo} {W' : WX} {α β : Type}
theorem Post.ok_ {C : Cf} {a : α} {S : FH} {Φ : α → Cf → Prop} : Post G W' C (.ok a S) Φ ↔ ∀ C' : Cf, C'.S = S → C'.Ok G → Ext C C' → Φ a C' := by
  conv => lhs; unfold Post
theorem Post.now {C : Cf} (ok : C.Ok G) {a : α} {Φ : α → Cf → Prop} (h : Post G W' C (.ok a C.S) Φ) : Φ a C := by
  unfold Post at h
  exact h C rfl ok (Ext.refl C)
theorem Post.base {C C' : Cf} (x : Ext C C') : ∀ {m : Res α} {Φ : α → Cf → Prop}, Post G W' C m Φ → Post G W' C' m Φ
  | .ok a S, Φ, h => by
    unfold Post at h ⊢
    exact fun D e ok y => h D e ok (x.trans y)
  | .exc c w l S, Φ, h => by
    unfold Post at h ⊢
    exact fun D cls d σ' e ok y => h D cls d σ' e ok (x.trans y)
  | .pick n f, Φ, h => by
    unfold Post at h ⊢
    exact fun r hr => Post.base x (h r hr)
  | .stuck, Φ, h => by
    unfold Post at h
    exact h.elim
theorem Post.mono {C : Cf} {Φ Ψ : α → Cf → Prop} (k : ∀ a (C' : Cf), C'.Ok G → Ext C C' → Φ a C' → Ψ a C') : ∀ {m : Res α}, Post G W' C m Φ → Post G W' C m Ψ
  | .ok a S, h => by
    unfold Post at h ⊢
    exact fun D e ok y => k a D ok y (h D e ok y)
  | .exc c w l S, h => by
    unfold Post at h ⊢
    exact h
  | .pick n f, h => by
    unfold Post at h ⊢
    exact fun r hr => Post.mono k (h r hr)
  | .stuck, h => by
    unfold Post at h
    exact h.elim
theorem Post.bnd {C : Cf} {k : α → FH → Res β} {Φ : β → Cf → Prop} : ∀ {m : Res α}, Post G W' C (m.bnd k) Φ → Post G W' C m fun a C1 => Post G W' C1 (k a C1.S) Φ
  | .ok a S, h => by
    rw [bnd_ok] at h
    unfold Post
    exact fun D e ok y => by rw [e]; exact Post.base y h
  | .exc c w l S, h => by
    rw [bnd_exc] at h
    unfold Post at h ⊢
    exact h
  | .pick n f, h => by
    rw [bnd_pick] at h
    unfold Post at h ⊢
    exact fun r hr => Post.bnd (h r hr)
  | .stuck, h => by
    rw [bnd_stuck] at h
    unfold Post at h
    exact h.elim
end

/-! ### readings -/
abbrev Evl := Lo → FH → Res W
abbrev Eva := Lo → FH → Res (List W)
abbrev Evt := Lo → FH → Res Bool
section
variable (G : Glo) (W' : WX)
def PhE (Q : VK) : W → Cf → Prop := fun w C' => ∀ v, RW G.K C'.ρ C'.H w v → Q v C'.H
def PhA (Q : List V → Hp → Prop) : List W → Cf → Prop := fun ws C' => ∀ vs, RWs G.K C'.ρ C'.H ws vs → Q vs C'.H
def PhT (Q : Bool → Hp → Prop) : Bool → Cf → Prop := fun b C' => Q b C'.H
def rdE (f : Evl) : TE := fun σ H Q => ∃ (C : Cf) (l : Lo), C.H = H ∧ C.Ok G ∧ RL G C l σ ∧ Post G W' C (f l C.S) (PhE G Q)
def rdA (f : Eva) : TA := fun σ H Q => ∃ (C : Cf) (l : Lo), C.H = H ∧ C.Ok G ∧ RL G C l σ ∧ Post G W' C (f l C.S) (PhA G Q)
def rdT (f : Evt) : TT := fun σ H Q => ∃ (C : Cf) (l : Lo), C.H = H ∧ C.Ok G ∧ RL G C l σ ∧ Post G W' C (f l C.S) (PhT Q)
end
theorem pe_imp {X : Cx} {e : Expr} {t t' : TE} (h : PE X e t) (k : ∀ σ H Q, t' σ H Q → t σ H Q) : PE X e t' := ⟨fun pins s σ H Q I q => h.run pins s σ H Q I (k σ H Q q)⟩
theorem pt_imp {X : Cx} {e : Expr} {t t' : TT} (h : PT X e t) (k : ∀ σ H Q, t' σ H Q → t σ H Q) : PT X e t' := ⟨fun pins s σ H Q I q => h.run pins s σ H Q I (k σ H Q q)⟩
theorem pw_imp {X : Cx} {e : Expr} {t t' : TT} (h : PW X e t) (k : ∀ σ H Q, t' σ H Q → t σ H Q) : PW X e t' := ⟨fun wh pins s σ H Q I q => h.run wh pins s σ H Q I (k σ H Q q)⟩
theorem pa_imp {X : Cx} {es : List Expr} {t t' : TA} (h : PA X es t) (k : ∀ σ H Q, t' σ H Q → t σ H Q) : PA X es t' := ⟨fun pos pins s σ H Q I q => h.run pos pins s σ H Q I (k σ H Q q)⟩
theorem ps_imp {X : Cx} {e : Stmt} {t t' : TS} (h : PS X e t) (k : ∀ D σ H, t' D σ H → t D σ H) : PS X e t' := ⟨fun pins s σ H D I q => h.run pins s σ H D I (k D σ H q)⟩
theorem pss_imp {X : Cx} {e : List Stmt} {t t' : TS} (h : PSs X e t) (k : ∀ D σ H, t' D σ H → t D σ H) : PSs X e t' := ⟨fun pins s σ H D I q => h.run pins s σ H D I (k D σ H q)⟩

/-- the context: what is fixed through a def's body -/
structure At (G : Glo) (X : Cx) (W' : WX) : Prop where
  k : X.K = G.K
  tk : Takes X W'
  calm : X.calm = true
section
variable (G : Glo) (X : Cx) (W' : WX)
def SE (f : Evl) (e : Expr) : Prop := PE X e (rdE G W' f)
def SA (f : Eva) (es : List Expr) : Prop := PA X es (rdA G W' f)
def ST (f : Evt) (e : Expr) : Prop := PT X e (rdT G W' f)
end

section
variable {G : Glo} {X : Cx} {W' : WX} {pos : Pos}
/-! ### names, constants -/
noncomputable def evVar (i : Nat) : Evl := fun l S => match getL l i with
  | some w => .ok w S
  | none => .stuck
theorem se_var {i : Nat} {e : Expr} (h : PE X e (tVar i)) : SE G X W' (evVar i) e := pe_imp h fun σ H Q ⟨C, l, e, ok, r, p⟩ => by
  subst e
  unfold evVar at p
  cases q : getL l i with
  | none => simp only [q] at p; unfold Post at p; exact p.elim
  | some w =>
    simp only [q] at p
    obtain ⟨v, h1, h2⟩ := r.get q
    exact ⟨v, h1, (Post.now ok p) v h2⟩
noncomputable def evK (v : V) : Evl := fun _ S => .ok (.k v) S
theorem se_k {v : V} {e : Expr} (h : PE X e (tC v)) : SE G X W' (evK v) e := pe_imp h fun σ H Q ⟨C, l, e, ok, r, p⟩ => by
  subst e
  exact (Post.now ok p) v (by unfold RW; rfl)
/-- a tuple of the module -/
noncomputable def evM (w : W) : Evl := fun _ S => .ok w S
theorem se_m {w : W} {v : V} {e : Expr} (h : PE X e (tC v)) (hw : ∀ ρ H, RW G.K ρ H w v) : SE G X W' (evM w) e := pe_imp h fun σ H Q ⟨C, l, e, ok, r, p⟩ => by
  subst e
  exact (Post.now ok p) v (hw _ _)

/-! ### argument lists, displays -/
noncomputable def eaNil : Eva := fun _ S => .ok [] S
noncomputable def eaCons (f : Evl) (g : Eva) : Eva := fun l S => (f l S).bnd fun w S1 => (g l S1).bnd fun ws S2 => .ok (w :: ws) S2
theorem sa_nil : SA G X W' eaNil [] := pa_imp pa_nil fun σ H Q ⟨C, l, e, ok, r, p⟩ => by
  subst e
  exact (Post.now ok p) [] .nil
theorem sa_cons {f : Evl} {g : Eva} {e : Expr} {es : List Expr} (h1 : SE G X W' f e) (h2 : SA G X W' g es) (hs : starEach (e :: es) X.env = (false, eval e X.env) :: starEach es X.env := by rfl) : SA G X W' (eaCons f g) (e :: es) :=
  pa_imp (pa_cons h1 h2 hs) fun σ H Q ⟨C, l, e, ok, r, p⟩ => by
    subst e
    refine ⟨C, l, rfl, ok, r, Post.mono (fun w C1 ok1 x1 p1 v rv => ?_) (Post.bnd p)⟩
    refine ⟨C1, l, rfl, ok1, r.mono ok x1, Post.mono (fun ws C2 ok2 x2 p2 vs rvs => ?_) (Post.bnd p1)⟩
    exact (Post.now ok2 p2) (v :: vs) (.cons (rv.mono ok1 x2) rvs)
def short (ws : List W) : Bool := Nat.ble ws.length 10000
theorem short_line {ws : List W} (h : short ws = true) : ws.length ≤ sizeLine := by
  have h1 : ws.length ≤ 10000 := Nat.le_of_ble_eq_true h
  rw [sizeLine_eq]; omega
noncomputable def evTup (f : Eva) : Evl := fun l S => (f l S).bnd fun ws S1 => match short ws with
  | true => .ok (.tup ws) S1
  | false => .stuck
noncomputable def evLst (f : Eva) : Evl := fun l S => (f l S).bnd fun ws S1 => match short ws with
  | true => newK S1 (.lst ws) fun n S2 => .ok (.obj n) S2
  | false => .stuck
theorem post_new {C : Cf} {Q : VK} (ok : C.Ok G) {v : HV} {o : HO} (p : Post G W' C (.ok (.obj C.S.n) (C.S.new v)) (PhE G Q)) (r : ∀ a, RO G C.ρ C.H a v o) : ∀ a, C.H a = none → Q (.ref a) (upd C.H a o) := fun a ha => by
  obtain ⟨ok1, x1, h1⟩ := Cf.alloc ok ha (r a)
  unfold Post at p
  refine p ⟨C.ρ ++ [a], upd C.H a o, C.S.new v⟩ rfl ok1 x1 (.ref a) ?_
  unfold RW
  exact ⟨a, rfl, h1⟩
theorem post_newL {C : Cf} {Q : VK} (ok : C.Ok G) {ws : List W} {vs : List V} (p : Post G W' C (.ok (.obj C.S.n) (C.S.new (.lst ws))) (PhE G Q)) (r : RWs G.K C.ρ C.H ws vs) : ∀ a, C.H a = none → Q (.ref a) (upd C.H a (.lst vs)) := post_new (o := .lst vs) ok p fun _ => r
theorem post_tup {C : Cf} {Q : VK} (ok : C.Ok G) {ws : List W} {vs : List V} (p : Post G W' C (.ok (.tup ws) C.S) (PhE G Q)) (r : RWs G.K C.ρ C.H ws vs) : ∀ a, C.H a = none → Q (.ref a) (upd C.H a (.tup vs)) := fun a ha => by
  obtain ⟨ok1, x1⟩ := Cf.tupd (o := .tup vs) ok ha
  unfold Post at p
  refine p ⟨C.ρ, upd C.H a (.tup vs), C.S⟩ rfl ok1 x1 (.ref a) ?_
  unfold RW
  exact ⟨a, vs, rfl, SqT.of upd_same, RWs.mono ok x1 ws r⟩
theorem se_tup {f : Eva} {es : List Expr} {k} (h : SA G X W' f es) : SE G X W' (evTup f) (.Tuple es k pos) := pe_imp (pe_tup h) fun σ H Q ⟨C, l, e, ok, r, p⟩ => by
  subst e
  refine ⟨C, l, rfl, ok, r, Post.mono (fun ws C1 ok1 x1 p1 vs rvs => ?_) (Post.bnd p)⟩
  cases hs : short ws with
  | false => simp only [hs] at p1; unfold Post at p1; exact p1.elim
  | true =>
    simp only [hs] at p1
    exact ⟨by rw [rvs.length]; exact short_line hs, post_tup ok1 p1 rvs⟩
theorem se_lst {f : Eva} {es : List Expr} (h : SA G X W' f es) : SE G X W' (evLst f) (.List es pos) := pe_imp (pe_lst h) fun σ H Q ⟨C, l, e, ok, r, p⟩ => by
  subst e
  refine ⟨C, l, rfl, ok, r, Post.mono (fun ws C1 ok1 x1 p1 vs rvs => ?_) (Post.bnd p)⟩
  cases hs : short ws with
  | false => simp only [hs] at p1; unfold Post at p1; exact p1.elim
  | true =>
    simp only [hs, newK_eq] at p1
    exact ⟨by rw [rvs.length]; exact short_line hs, post_newL (vs := vs) ok1 p1 rvs⟩

/-! ### operators -/
abbrev Op2 := W → W → FH → Res W
def OpS (G : Glo) (r : R2) (g : Op2) : Prop := ∀ (W' : WX) (C : Cf) (a b : W) (x y : V) (Q : VK), C.Ok G → RW G.K C.ρ C.H a x → RW G.K C.ρ C.H b y → Post G W' C (g a b C.S) (PhE G Q) → r x y C.H Q
noncomputable def evBin (g : Op2) (fa fb : Evl) : Evl := fun l S => (fa l S).bnd fun a S1 => (fb l S1).bnd fun b S2 => g a b S2
theorem rd_bin {g : Op2} {r : R2} (hg : OpS G r g) {fa fb : Evl} {σ : L2.St} {H : Hp} {Q : VK} (h : rdE G W' (evBin g fa fb) σ H Q) : tOp r (rdE G W' fa) (rdE G W' fb) σ H Q := by
  obtain ⟨C, l, e, ok, rl, p⟩ := h
  subst e
  refine ⟨C, l, rfl, ok, rl, Post.mono (fun a C1 ok1 x1 p1 v rv => ?_) (Post.bnd p)⟩
  refine ⟨C1, l, rfl, ok1, rl.mono ok x1, Post.mono (fun b C2 ok2 x2 p2 u ru => ?_) (Post.bnd p1)⟩
  exact hg W' C2 a b v u Q ok2 (rv.mono ok1 x2) ru p2
theorem se_bin {op : Operator} {r : R2} {g : Op2} {fa fb : Evl} {a b : Expr} (ho : OpR X (binaryOp op) r) (hg : OpS G r g) (ha : SE G X W' fa a) (hb : SE G X W' fb b) : SE G X W' (evBin g fa fb) (.BinOp a op b pos) :=
  pe_imp (pe_op ho ha hb) fun σ H Q h => rd_bin hg h
theorem se_cmp {op : CmpOp} {r : R2} {g : Op2} {fa fb : Evl} {a b : Expr} (ho : OpR X (compareOp op) r) (hg : OpS G r g) (ha : SE G X W' fa a) (hb : SE G X W' fb b) (hm : behindInMarks op b = false) : SE G X W' (evBin g fa fb) (.Compare a [op] [b] pos) :=
  pe_imp (pe_cmpR ho ha hb hm) fun σ H Q h => rd_bin hg h
end
end Ev

namespace Ev
open PySem PySem.Spec PyProof.Rows L2

/-! ### truth, tests -/
def truW (w : W) (S : FH) : Option Bool := match w with
  | .k .non => some false
  | .k (.bl b) => some b
  | .k (.int i) => some (match i with | .ofNat n => !(Nat.beq n 0) | .negSucc _ => true)
  | .tup xs => some (match xs with | [] => false | _ :: _ => true)
  | .obj i => match S.get i with
    | some (.lst xs) => some (match xs with | [] => false | _ :: _ => true)
    | some .cel => some true
    | _ => none
  | _ => none
section
variable {G : Glo}
theorem tru_of {C : Cf} (ok : C.Ok G) {w : W} {v : V} {b : Bool} (r : RW G.K C.ρ C.H w v) (h : truW w C.S = some b) : TruV G.K v C.H b := by
  unfold truW at h
  split at h
  · cases h; unfold RW at r; subst r; rfl
  · cases h; unfold RW at r; subst r; rfl
  · rename_i i
    unfold RW at r; subst r
    cases h
    show _ = (i != 0)
    cases i with
    | ofNat n =>
      show (!(Nat.beq n 0)) = _
      cases n with
      | zero => rfl
      | succ n => rfl
    | negSucc n => rfl
  · rename_i xs
    unfold RW at r
    obtain ⟨a, vs, rfl, h1, h2⟩ := r
    cases h
    refine .inr (.inl ⟨vs, h1, ?_⟩)
    have := h2.length
    cases xs <;> cases vs <;> simp_all
  · rename_i i
    unfold RW at r
    obtain ⟨a, rfl, h1⟩ := r
    split at h
    · rename_i xs hx
      obtain ⟨b', o, h2, h3, h4⟩ := ok.ob i _ hx
      rw [h1] at h2; cases h2
      cases o <;> try exact h4.elim
      rename_i vs
      have h5 : RWs G.K C.ρ C.H xs vs := h4
      cases h
      refine .inl ⟨vs, SqL.of h3, ?_⟩
      have := h5.length
      cases xs <;> cases vs <;> simp_all
    · rename_i hx
      obtain ⟨b', o, h2, h3, h4⟩ := ok.ob i _ hx
      rw [h1] at h2; cases h2
      cases o <;> try exact h4.elim
      rename_i vs
      obtain ⟨ns, n1, n2⟩ : ∃ ns : List Int, ns ≠ [] ∧ vs = ns.map V.int := h4
      cases h
      refine .inl ⟨vs, SqL.of h3, ?_⟩
      subst n2
      cases ns <;> simp_all
    · cases h
  · cases h
end
def ifTru {α : Type} (w : W) (S : FH) (k : Bool → Res α) : Res α := match truW w S with
  | some b => k b
  | none => .stuck
section
variable {G : Glo} {X : Cx} {W' : WX} {pos : Pos} {α : Type}
theorem post_tru {C : Cf} (ok : C.Ok G) {w : W} {v : V} {k : Bool → Res α} {Φ : α → Cf → Prop} (r : RW G.K C.ρ C.H w v) (p : Post G W' C (ifTru w C.S k) Φ) : ∃ b, TruV G.K v C.H b ∧ Post G W' C (k b) Φ := by
  unfold ifTru at p
  cases h : truW w C.S with
  | none => simp only [h] at p; unfold Post at p; exact p.elim
  | some b => simp only [h] at p; exact ⟨b, tru_of ok r h, p⟩
noncomputable def etTru (f : Evl) : Evt := fun l S => (f l S).bnd fun w S1 => ifTru w S1 fun b => .ok b S1
theorem st_tru {f : Evl} {e : Expr} (hk : X.K = G.K) (h : SE G X W' f e) (he : ∀ whole, isTrue e X.env whole = (do let v ← whole; standAt e.pos; holding [v] (truthy v))) : ST G X W' (etTru f) e :=
  pt_imp (pt_truth h he) fun σ H Q ⟨C, l, e, ok, r, p⟩ => by
    subst e
    refine ⟨C, l, rfl, ok, r, Post.mono (fun w C1 ok1 x1 p1 v rv => ?_) (Post.bnd p)⟩
    obtain ⟨b, h1, h2⟩ := post_tru ok1 rv p1
    exact ⟨b, by rw [hk]; exact h1, Post.now ok1 h2⟩
def boolW {α : Type} (w : W) (k : Bool → Res α) : Res α := match w with
  | .k (.bl b) => k b
  | _ => .stuck
theorem post_bool {C : Cf} {w : W} {v : V} {k : Bool → Res α} {Φ : α → Cf → Prop} (r : RW G.K C.ρ C.H w v) (p : Post G W' C (boolW w k) Φ) : ∃ b, v = .bl b ∧ Post G W' C (k b) Φ := by
  unfold boolW at p
  split at p
  · unfold RW at r; exact ⟨_, r, p⟩
  · unfold Post at p; exact p.elim
noncomputable def etBin (g : Op2) (fa fb : Evl) : Evt := fun l S => (evBin g fa fb l S).bnd fun w S1 => boolW w fun b => .ok b S1
theorem rd_tbin {g : Op2} {r : R2} (hg : OpS G r g) {fa fb : Evl} {σ : L2.St} {H : Hp} {Q : Bool → Hp → Prop} (h : rdT G W' (etBin g fa fb) σ H Q) : tTest (tOp r (rdE G W' fa) (rdE G W' fb)) σ H Q := by
  obtain ⟨C, l, e, ok, rl, p⟩ := h
  refine rd_bin hg (fa := fa) (fb := fb) ⟨C, l, e, ok, rl, Post.mono (fun w C1 ok1 x1 p1 v rv => ?_) (Post.bnd p)⟩
  obtain ⟨b, h1, h2⟩ := post_bool rv p1
  exact ⟨b, h1, Post.now ok1 h2⟩
theorem st_cmp {op : CmpOp} {r : R2} {g : Op2} {fa fb : Evl} {a b : Expr} (ho : OpR X (compareOp op) r) (hg : OpS G r g) (ha : SE G X W' fa a) (hb : SE G X W' fb b) (hm : behindInMarks op b = false) : ST G X W' (etBin g fa fb) (.Compare a [op] [b] pos) :=
  pt_imp (pt_cmpR ho ha hb hm) fun σ H Q h => rd_tbin hg h
noncomputable def etNot (f : Evt) : Evt := fun l S => (f l S).bnd fun b S1 => .ok (!b) S1
theorem st_not {f : Evt} {e : Expr} (h : ST G X W' f e) : ST G X W' (etNot f) (.UnaryOp .Not e pos) := pt_imp (pt_not h) fun σ H Q ⟨C, l, e, ok, r, p⟩ => by
  subst e
  refine ⟨C, l, rfl, ok, r, Post.mono (fun b C1 ok1 x1 p1 => ?_) (Post.bnd p)⟩
  have q : PhT Q (!b) C1 := Post.now ok1 p1
  exact q
def SW (G : Glo) (X : Cx) (W' : WX) (f : Evt) (e : Expr) : Prop := PW X e (rdT G W' f)
theorem sw_or1 {f : Evt} {a : Expr} (h : ST G X W' f a) : SW G X W' f (.BoolOp .Or [a] pos) := pw_or1 h
noncomputable def etOr (f g : Evt) : Evt := fun l S => (f l S).bnd fun b S1 => match b with
  | true => .ok true S1
  | false => g l S1
theorem sw_or {f g : Evt} {a b : Expr} {rest : List Expr} (h : ST G X W' f a) (h2 : SW G X W' g (.BoolOp .Or (b :: rest) pos)) : SW G X W' (etOr f g) (.BoolOp .Or (a :: b :: rest) pos) := pw_imp (pw_or h h2) fun σ H Q ⟨C, l, e, ok, r, p⟩ => by
  subst e
  refine ⟨C, l, rfl, ok, r, Post.mono (fun b C1 ok1 x1 p1 => ?_) (Post.bnd p)⟩
  unfold PhT
  cases b with
  | true => exact iteT (Post.now ok1 p1)
  | false => exact iteF ⟨C1, l, rfl, ok1, r.mono ok x1, p1⟩
theorem st_w {f : Evt} {e : Expr} (h : SW G X W' f e) : ST G X W' f e := PW.pt h
/-! .. as values -/
noncomputable def evAnd (f g : Evl) : Evl := fun l S => (f l S).bnd fun w S1 => ifTru w S1 fun b => match b with
  | true => g l S1
  | false => .ok w S1
noncomputable def evOr (f g : Evl) : Evl := fun l S => (f l S).bnd fun w S1 => ifTru w S1 fun b => match b with
  | true => .ok w S1
  | false => g l S1
theorem se_one {op} {f : Evl} {a : Expr} (h : SE G X W' f a) : SE G X W' f (.BoolOp op [a] pos) := pe_one h
theorem se_and {f g : Evl} {a b : Expr} {rest : List Expr} (hk : X.K = G.K) (h : SE G X W' f a) (h2 : SE G X W' g (.BoolOp .And (b :: rest) pos)) : SE G X W' (evAnd f g) (.BoolOp .And (a :: b :: rest) pos) := pe_imp (pe_andT h h2) fun σ H Q ⟨C, l, e, ok, r, p⟩ => by
  subst e
  refine ⟨C, l, rfl, ok, r, Post.mono (fun w C1 ok1 x1 p1 v rv => ?_) (Post.bnd p)⟩
  obtain ⟨b, h1, h2⟩ := post_tru ok1 rv p1
  refine ⟨b, by rw [hk]; exact h1, ?_⟩
  cases b with
  | true => exact iteT ⟨C1, l, rfl, ok1, r.mono ok x1, h2⟩
  | false => exact iteF ((Post.now ok1 h2) v rv)
theorem se_or {f g : Evl} {a b : Expr} {rest : List Expr} (hk : X.K = G.K) (h : SE G X W' f a) (h2 : SE G X W' g (.BoolOp .Or (b :: rest) pos)) : SE G X W' (evOr f g) (.BoolOp .Or (a :: b :: rest) pos) := pe_imp (pe_orT h h2) fun σ H Q ⟨C, l, e, ok, r, p⟩ => by
  subst e
  refine ⟨C, l, rfl, ok, r, Post.mono (fun w C1 ok1 x1 p1 v rv => ?_) (Post.bnd p)⟩
  obtain ⟨b, h1, h2⟩ := post_tru ok1 rv p1
  refine ⟨b, by rw [hk]; exact h1, ?_⟩
  cases b with
  | true => exact iteT ((Post.now ok1 h2) v rv)
  | false => exact iteF ⟨C1, l, rfl, ok1, r.mono ok x1, h2⟩
noncomputable def evNot (f : Evl) : Evl := fun l S => (f l S).bnd fun w S1 => ifTru w S1 fun b => .ok (.k (.bl (!b))) S1
theorem se_not {f : Evl} {e : Expr} (hk : X.K = G.K) (h : SE G X W' f e) : SE G X W' (evNot f) (.UnaryOp .Not e pos) := pe_imp (pe_notT h) fun σ H Q ⟨C, l, e, ok, r, p⟩ => by
  subst e
  refine ⟨C, l, rfl, ok, r, Post.mono (fun w C1 ok1 x1 p1 v rv => ?_) (Post.bnd p)⟩
  obtain ⟨b, h1, h2⟩ := post_tru ok1 rv p1
  exact ⟨b, by rw [hk]; exact h1, (Post.now ok1 h2) (.bl (!b)) (by unfold RW; rfl)⟩
noncomputable def evIf (c : Evt) (f g : Evl) : Evl := fun l S => (c l S).bnd fun b S1 => match b with
  | true => f l S1
  | false => g l S1
theorem se_if {c : Evt} {f g : Evl} {ec a b : Expr} (hc : ST G X W' c ec) (ha : SE G X W' f a) (hb : SE G X W' g b) : SE G X W' (evIf c f g) (.IfExp ec a b pos) := pe_imp (pe_ifExp hc ha hb) fun σ H Q ⟨C, l, e, ok, r, p⟩ => by
  subst e
  refine ⟨C, l, rfl, ok, r, Post.mono (fun b C1 ok1 x1 p1 => ?_) (Post.bnd p)⟩
  unfold PhT
  cases b with
  | true => exact iteT ⟨C1, l, rfl, ok1, r.mono ok x1, p1⟩
  | false => exact iteF ⟨C1, l, rfl, ok1, r.mono ok x1, p1⟩
/-- a op b op' c -/
noncomputable def evChain (g g' : Op2) (fa fb fc : Evl) : Evl := fun l S => (fa l S).bnd fun a S1 => (fb l S1).bnd fun b S2 => (g a b S2).bnd fun z S3 => boolW z fun t => match t with
  | true => (fc l S3).bnd fun c S4 => g' b c S4
  | false => .ok (.k (.bl false)) S3
theorem rd_chain {g g' : Op2} {r r' : R2} (hg : OpS G r g) (hg' : OpS G r' g') {fa fb fc : Evl} {σ : L2.St} {H : Hp} {Q : VK} (h : rdE G W' (evChain g g' fa fb fc) σ H Q) : tChain r r' (rdE G W' fa) (rdE G W' fb) (rdE G W' fc) σ H Q := by
  obtain ⟨C, l, e, ok, rl, p⟩ := h
  subst e
  refine ⟨C, l, rfl, ok, rl, Post.mono (fun a C1 ok1 x1 p1 v rv => ?_) (Post.bnd p)⟩
  refine ⟨C1, l, rfl, ok1, rl.mono ok x1, Post.mono (fun b C2 ok2 x2 p2 u ru => ?_) (Post.bnd p1)⟩
  refine hg W' C2 a b v u _ ok2 (rv.mono ok1 x2) ru (Post.mono (fun z C3 ok3 x3 p3 zv rz => ?_) (Post.bnd p2))
  obtain ⟨t, h1, h2⟩ := post_bool rz p3
  refine ⟨t, h1, ?_⟩
  cases t with
  | false => exact iteF ((Post.now ok3 h2) (.bl false) (by unfold RW; rfl))
  | true =>
    refine iteT ⟨C3, l, rfl, ok3, (rl.mono ok x1).mono ok1 (x2.trans x3), Post.mono (fun c C4 ok4 x4 p4 w rw4 => ?_) (Post.bnd h2)⟩
    exact hg' W' C4 b c u w Q ok4 (ru.mono ok2 (x3.trans x4)) rw4 p4
theorem se_chain {op op' : CmpOp} {g g' : Op2} {r r' : R2} {fa fb fc : Evl} {a b c : Expr} (ho : OpR X (compareOp op) r) (ho' : OpR X (compareOp op') r') (hg : OpS G r g) (hg' : OpS G r' g') (ha : SE G X W' fa a) (hb : SE G X W' fb b) (hc : SE G X W' fc c)
    (hm : lastMarks [op, op'] [b, c] = false := by with_unfolding_all rfl) : SE G X W' (evChain g g' fa fb fc) (.Compare a [op, op'] [b, c] pos) := pe_imp (pe_chain ho ho' ha hb hc hm) fun σ H Q h => rd_chain hg hg' h
noncomputable def etChain (g g' : Op2) (fa fb fc : Evl) : Evt := fun l S => (evChain g g' fa fb fc l S).bnd fun w S1 => boolW w fun b => .ok b S1
theorem st_chain {op op' : CmpOp} {g g' : Op2} {r r' : R2} {fa fb fc : Evl} {a b c : Expr} (ho : OpR X (compareOp op) r) (ho' : OpR X (compareOp op') r') (hg : OpS G r g) (hg' : OpS G r' g') (ha : SE G X W' fa a) (hb : SE G X W' fb b) (hc : SE G X W' fc c)
    (hm : lastMarks [op, op'] [b, c] = false := by with_unfolding_all rfl) : ST G X W' (etChain g g' fa fb fc) (.Compare a [op, op'] [b, c] pos) := pt_imp (pt_chain ho ho' ha hb hc hm) fun σ H Q ⟨C, l, e, ok, r, p⟩ => by
  refine rd_chain hg hg' (fa := fa) (fb := fb) (fc := fc) ⟨C, l, e, ok, r, Post.mono (fun w C1 ok1 x1 p1 v rv => ?_) (Post.bnd p)⟩
  obtain ⟨b, h1, h2⟩ := post_bool rv p1
  exact ⟨b, h1, Post.now ok1 h2⟩
end

/-! ### statements -/
inductive Fl where
  | nx (l : Lo)
  | rt (w : W)
  | bk (l : Lo)
  | ct (l : Lo)
abbrev Evs := Lo → FH → Res Fl
section
variable (G : Glo) (W' : WX)
def PhS (D : Ends) : Fl → Cf → Prop := fun f C' => match f with
  | .nx l => ∀ σ, RL G C' l σ → D.nx σ C'.H
  | .rt w => ∀ v, RW G.K C'.ρ C'.H w v → D.rt v C'.H
  | .bk l => ∀ σ, RL G C' l σ → D.bk σ C'.H
  | .ct l => ∀ σ, RL G C' l σ → D.ct σ C'.H
def rdS (f : Evs) : TS := fun D σ H => ∃ (C : Cf) (l : Lo), C.H = H ∧ C.Ok G ∧ RL G C l σ ∧ Post G W' C (f l C.S) (PhS G D)
end
section
variable (G : Glo) (X : Cx) (W' : WX)
def SS (f : Evs) (e : Stmt) : Prop := PS X e (rdS G W' f)
def SSs (f : Evs) (e : List Stmt) : Prop := PSs X e (rdS G W' f)
end
section
variable {G : Glo} {X : Cx} {W' : WX} {pos : Pos}
noncomputable def esNil : Evs := fun l S => .ok (.nx l) S
noncomputable def esSeq (f g : Evs) : Evs := fun l S => (f l S).bnd fun r S1 => match r with
  | .nx l1 => g l1 S1
  | .rt w => .ok (.rt w) S1
  | .bk l1 => .ok (.bk l1) S1
  | .ct l1 => .ok (.ct l1) S1
theorem ss_nil : SSs G X W' esNil [] := pss_imp pss_nil fun D σ H ⟨C, l, e, ok, r, p⟩ => by
  subst e
  exact (Post.now ok p) σ r
theorem ss_cons {f g : Evs} {st : Stmt} {rest : List Stmt} (h1 : SS G X W' f st) (h2 : SSs G X W' g rest) : SSs G X W' (esSeq f g) (st :: rest) := pss_imp (pss_cons h1 h2) fun D σ H ⟨C, l, e, ok, r, p⟩ => by
  subst e
  refine ⟨C, l, rfl, ok, r, Post.mono (fun fl C1 ok1 x1 p1 => ?_) (Post.bnd p)⟩
  cases fl with
  | nx l1 => exact fun σ1 r1 => ⟨C1, l1, rfl, ok1, r1, p1⟩
  | rt w => exact Post.now (W' := W') ok1 p1
  | bk l1 => exact Post.now (W' := W') ok1 p1
  | ct l1 => exact Post.now (W' := W') ok1 p1
theorem ss_one {f : Evs} {st : Stmt} (h1 : SS G X W' f st) : SSs G X W' f [st] := pss_one h1
noncomputable def esExpr (f : Evl) : Evs := fun l S => (f l S).bnd fun _ S1 => .ok (.nx l) S1
theorem ss_expr {f : Evl} {e : Expr} (h : SE G X W' f e) (hs : swapsWith e none pos.line X.env = pure false := by rfl) : SS G X W' (esExpr f) (.Expr e pos) := ps_imp (ps_expr h hs) fun D σ H ⟨C, l, e, ok, r, p⟩ => by
  subst e
  exact ⟨C, l, rfl, ok, r, Post.mono (fun w C1 ok1 x1 p1 v rv => (Post.now (W' := W') ok1 p1) σ (r.mono ok x1)) (Post.bnd p)⟩
noncomputable def esRet (f : Evl) : Evs := fun l S => (f l S).bnd fun w S1 => .ok (.rt w) S1
theorem ss_ret {f : Evl} {e : Expr} (h : SE G X W' f e) : SS G X W' (esRet f) (.Return (some e) pos) := ps_imp (ps_ret h) fun D σ H ⟨C, l, e, ok, r, p⟩ => by
  subst e
  exact ⟨C, l, rfl, ok, r, Post.mono (fun w C1 ok1 x1 p1 v rv => (Post.now (W' := W') ok1 p1) v rv) (Post.bnd p)⟩
noncomputable def esIf (c : Evt) (f g : Evs) : Evs := fun l S => (c l S).bnd fun b S1 => match b with
  | true => f l S1
  | false => g l S1
theorem ss_if {c : Evt} {f g : Evs} {ec : Expr} {a b : List Stmt} (hc : ST G X W' c ec) (ha : SSs G X W' f a) (hb : SSs G X W' g b) : SS G X W' (esIf c f g) (.If ec a b pos) := ps_imp (ps_if hc ha hb) fun D σ H ⟨C, l, e, ok, r, p⟩ => by
  subst e
  refine ⟨C, l, rfl, ok, r, Post.mono (fun b C1 ok1 x1 p1 => ?_) (Post.bnd p)⟩
  unfold PhT
  cases b with
  | true => exact iteT ⟨C1, l, rfl, ok1, r.mono ok x1, p1⟩
  | false => exact iteF ⟨C1, l, rfl, ok1, r.mono ok x1, p1⟩
/-! ### targets -/
abbrev Tg := W → Lo → FH → Option Lo
/-- only the slots of ks were turned -/
def Turned (ks : List Nat) (σ σ1 : L2.St) : Prop := σ1.length = σ.length ∧ ∀ j : Nat, j ∉ ks → σ1[j]? = σ[j]?
def TgS (G : Glo) (X : Cx) (ks : List Nat) (tg : Tg) (e : Expr) : Prop := ∃ g : TG, PG X e g ∧ ∀ (C : Cf) (l l1 : Lo) (σ : L2.St) (w : W) (v : V) (Q : L2.St → Hp → Prop), C.Ok G → RL G C l σ → RW G.K C.ρ C.H w v → tg w l C.S = some l1 →
  (∀ σ1, RL G C l1 σ1 → Turned ks σ σ1 → Q σ1 C.H) → g v σ C.H Q
noncomputable def tgName (i : Nat) : Tg := fun w l _ => setK l i (some w) some
theorem tgName_eq {i : Nat} {w : W} {l : Lo} {S : FH} : tgName i w l S = some (setL l i (some w)) := setK_eq _ _ _
theorem tg_name {i : Nat} {e : Expr} (h : PG X e (gName i)) : TgS G X [i] (tgName i) e := ⟨gName i, h, fun C l l1 σ w v Q ok r rv e k => by
  rw [tgName_eq] at e
  cases e
  refine k _ (r.set rv) ⟨by simp, fun j hj => ?_⟩
  rw [List.getElem?_set_ne (by intro z; subst z; simp at hj)]⟩
abbrev Tgs := List W → Lo → FH → Option Lo
def TgsS (G : Glo) (X : Cx) (ks : List Nat) (tg : Tgs) (es : List Expr) : Prop := ∃ g : TGs, PGs X es g ∧ ∀ (C : Cf) (l l1 : Lo) (σ : L2.St) (ws : List W) (vs : List V) (Q : L2.St → Hp → Prop), C.Ok G → RL G C l σ → RWs G.K C.ρ C.H ws vs → tg ws l C.S = some l1 →
  (∀ σ1, RL G C l1 σ1 → Turned ks σ σ1 → Q σ1 C.H) → g vs σ C.H Q
def tgNil : Tgs := fun ws l _ => match ws with
  | [] => some l
  | _ :: _ => none
def tgCons (t : Tg) (r : Tgs) : Tgs := fun ws l S => match ws with
  | [] => none
  | w :: ws => match t w l S with
    | some l1 => r ws l1 S
    | none => none
theorem tgs_nil : TgsS G X [] tgNil [] := ⟨gNil, pgs_nil, fun C l l1 σ ws vs Q ok r rv e k => by
  cases ws with
  | nil =>
    cases e
    unfold RWs at rv
    subst rv
    exact ⟨rfl, k σ r ⟨rfl, fun _ _ => rfl⟩⟩
  | cons w ws => cases e⟩
theorem tgs_cons {ks ks' : List Nat} {t : Tg} {r : Tgs} {e : Expr} {es : List Expr} (h1 : TgS G X ks t e) (h2 : TgsS G X ks' r es) (hs : (assignEach (e :: es) X.env).map (·.2) = assign e X.env :: (assignEach es X.env).map (·.2) := by rfl) :
    TgsS G X (ks ++ ks') (tgCons t r) (e :: es) := by
  obtain ⟨g1, p1, k1⟩ := h1
  obtain ⟨g2, p2, k2⟩ := h2
  refine ⟨gCons g1 g2, pgs_cons p1 p2 hs, fun C l l1 σ ws vs Q ok rl rv e k => ?_⟩
  cases ws with
  | nil => cases e
  | cons w ws =>
    unfold RWs at rv
    obtain ⟨v, vr, rfl, rv1, rv2⟩ := rv
    cases q : t w l C.S with
    | none => simp only [tgCons, q] at e; cases e
    | some l0 =>
      simp only [tgCons, q] at e
      refine ⟨v, vr, rfl, k1 C l l0 σ w v _ ok rl rv1 q fun σ1 rl1 tu1 => ?_⟩
      refine k2 C l0 l1 σ1 ws vr Q ok rl1 rv2 e fun σ2 rl2 tu2 => k σ2 rl2 ⟨by rw [tu2.1, tu1.1], fun j hj => ?_⟩
      simp only [List.mem_append, not_or] at hj
      rw [tu2.2 j hj.2, tu1.2 j hj.1]
/-- (a, b, ..) = a tuple -/
def tgTup (n : Nat) (r : Tgs) : Tg := fun w l S => match w with
  | .tup ws => match Nat.beq ws.length n with
    | true => r ws l S
    | false => none
  | _ => none
/-- (a, b, ..) = a list -/
def tgLst (n : Nat) (r : Tgs) : Tg := fun w l S => match w with
  | .obj i => match S.get i with
    | some (.lst ws) => match Nat.beq ws.length n with
      | true => r ws l S
      | false => none
    | _ => none
  | _ => none
/-! ### assignments -/
def ofTg (o : Option Lo) (S : FH) : Res Fl := match o with
  | some l => .ok (.nx l) S
  | none => .stuck
noncomputable def esAsg (f : Evl) (t : Tg) : Evs := fun l S => (f l S).bnd fun w S1 => ofTg (t w l S1) S1
theorem post_tg {C : Cf} {ks : List Nat} {t : Tg} {g : TG} (kk : ∀ (C : Cf) (l l1 : Lo) (σ : L2.St) (w : W) (v : V) (Q : L2.St → Hp → Prop), C.Ok G → RL G C l σ → RW G.K C.ρ C.H w v → t w l C.S = some l1 →
    (∀ σ1, RL G C l1 σ1 → Turned ks σ σ1 → Q σ1 C.H) → g v σ C.H Q) (ok : C.Ok G) {l : Lo} {σ : L2.St} {w : W} {v : V} {D : Ends} (r : RL G C l σ) (rv : RW G.K C.ρ C.H w v) (p : Post G W' C (ofTg (t w l C.S) C.S) (PhS G D)) : g v σ C.H D.nx := by
  cases q : t w l C.S with
  | none => simp only [ofTg, q] at p; unfold Post at p; exact p.elim
  | some l1 =>
    simp only [ofTg, q] at p
    exact kk C l l1 σ w v D.nx ok r rv q fun σ1 r1 _ => (Post.now ok p) σ1 r1
theorem ss_asg {ks : List Nat} {f : Evl} {t : Tg} {e tg : Expr} (he : SE G X W' f e) (hg : TgS G X ks t tg) (hs : swapsWithSole [tg] e pos.line X.env = pure false := by rfl) (hw : swappedStores [tg] e X.env = pure none := by rfl)
    (h1 : (assignEach [tg] X.env).map (·.2) = [assign tg X.env] := by rfl) : SS G X W' (esAsg f t) (.Assign [tg] e pos) := by
  obtain ⟨g, p, kk⟩ := hg
  refine ps_imp (ps_asg he p hs hw h1) fun D σ H ⟨C, l, e, ok, r, p⟩ => ?_
  subst e
  exact ⟨C, l, rfl, ok, r, Post.mono (fun w C1 ok1 x1 p1 v rv => post_tg (W' := W') kk ok1 (r.mono ok x1) rv p1) (Post.bnd p)⟩
noncomputable def esSet (i : Nat) (f : Evl) : Evs := esAsg f (tgName i)
theorem ss_set {i : Nat} {x : Str} {f : Evl} {e : Expr} {pos' : Pos} (hN : X.N.Nodup) (hi : X.N[i]? = some x) (hx : Loc X.env.scope x) (he : SE G X W' f e) (hs : swapsWith e (some (.Name x pos')) pos.line X.env = pure false := by rfl)
    (hf : X.fn x = true ∨ X.env.scope.names.lookup x = some .local := by first | exact .inl rfl | exact .inr rfl | assumption) : SS G X W' (esSet i f) (.Assign [.Name x pos'] e pos) :=
  ps_imp (ps_set hN hi hx he hs hf) fun D σ H ⟨C, l, e, ok, r, p⟩ => by
    subst e
    refine ⟨C, l, rfl, ok, r, Post.mono (fun w C1 ok1 x1 p1 v rv => ?_) (Post.bnd p)⟩
    rw [tgName_eq] at p1
    exact (Post.now (W' := W') ok1 p1) _ ((r.mono ok x1).set rv)
/-- a, b = x, y by plain local names -/
noncomputable def esPar (i j : Nat) (f : Eva) : Evs := fun l S => (f l S).bnd fun ws S1 => match ws with
  | [a, b] => setK l i (some a) fun l1 => setK l1 j (some b) fun l2 => .ok (.nx l2) S1
  | _ => .stuck
theorem ss_par {i j : Nat} {x y : Str} {a b : Expr} {f : Eva} {px py pt : Pos} {kt k2 pt2} (hc : X.calm = true) (hN : X.N.Nodup) (hi : X.N[i]? = some x) (hj : X.N[j]? = some y) (hij : i ≠ j)
    (hx : X.env.scope.names.lookup x = some .local) (hy : X.env.scope.names.lookup y = some .local) (ha : SA G X W' f [a, b])
    (hw : swappedStores [.Tuple [.Name x px, .Name y py] kt pt] (.Tuple [a, b] k2 pt2) X.env = pure (some [x, y]))
    (hs : swapsWithSole [.Tuple [.Name x px, .Name y py] kt pt] (.Tuple [a, b] k2 pt2) pos.line X.env = pure false := by rfl) :
    SS G X W' (esPar i j f) (.Assign [.Tuple [.Name x px, .Name y py] kt pt] (.Tuple [a, b] k2 pt2) pos) := ps_imp (ps_par hc hN hi hj hij hx hy ha hw hs) fun D σ H ⟨C, l, e, ok, r, p⟩ => by
  subst e
  refine ⟨C, l, rfl, ok, r, Post.mono (fun ws C1 ok1 x1 p1 vs rvs => ?_) (Post.bnd p)⟩
  split at p1
  · unfold RWs RWs RWs at rvs
    obtain ⟨v, vr, rfl, rv, u, ur, rfl, ru, rfl⟩ := rvs
    simp only [setK_eq] at p1
    exact ⟨v, u, rfl, (Post.now (W' := W') ok1 p1) _ (((r.mono ok x1).set rv).set ru)⟩
  · unfold Post at p1; exact p1.elim
end
end Ev

namespace Ev
open PySem PySem.Spec PyProof.Rows L2

/-! ### what a for walks: at turn i it stops, or yields -/
abbrev Src := Nat → FH → Option (Option W)
abbrev Evi := Lo → FH → Res Src
def SrcOk (G : Glo) (nx : Src) (J : It) (C0 : Cf) : Prop := ∀ C : Cf, C.Ok G → Ext C0 C → ∀ i : Nat, (nx i C.S = some none → J.stop i C.H) ∧
  ∀ w, nx i C.S = some (some w) → J.go i C.H ∧ ∀ x H', J.yld i C.H x H' → ∃ C' : Cf, C'.H = H' ∧ C'.S = C.S ∧ C'.Ok G ∧ Ext C C' ∧ RW G.K C'.ρ C'.H w x
theorem SrcOk.mono {G : Glo} {nx : Src} {J : It} {C C' : Cf} (h : SrcOk G nx J C) (x : Ext C C') : SrcOk G nx J C' := fun D ok y => h D ok (x.trans y)
def PhI (G : Glo) (R : It → Hp → Prop) : Src → Cf → Prop := fun nx C' => ∀ J, SrcOk G nx J C' → R J C'.H
def rdI (G : Glo) (W' : WX) (f : Evi) : TI := fun σ H R => ∃ (C : Cf) (l : Lo), C.H = H ∧ C.Ok G ∧ RL G C l σ ∧ Post G W' C (f l C.S) (PhI G R)
def SI (G : Glo) (X : Cx) (W' : WX) (f : Evi) (tg e : Expr) : Prop := PI X tg e (rdI G W' f)
theorem pi_imp {X : Cx} {tg e : Expr} {t t' : TI} (h : PI X tg e t) (k : ∀ σ H R, t' σ H R → t σ H R) : PI X tg e t' := ⟨fun pins s σ H R I q => h.run pins s σ H R I (k σ H R q)⟩
noncomputable def nth (l : List W) (i : Nat) : Option W := List.rec (motive := fun _ => Nat → Option W) (fun _ => none) (fun x _ ih i => Nat.rec (motive := fun _ => Option W) (some x) (fun j _ => ih j) i) l i
theorem nth_eq : ∀ (l : List W) (i : Nat), nth l i = l[i]?
  | [], i => by simp [nth]
  | w :: r, 0 => by
    show some w = _
    simp
  | w :: r, i + 1 => by
    have ih := nth_eq r i
    show nth r i = _
    simp [ih]
noncomputable def srcT (ws : List W) : Src := fun i _ => some (nth ws i)
noncomputable def srcO (j : Nat) : Src := fun i S => match S.get j with
  | some (.lst xs) => some (nth xs i)
  | _ => none
section
variable {G : Glo} {X : Cx} {W' : WX} {pos : Pos}
theorem RWs.get' {K : PySem.W.Frag} {ρ : List Addr} {H : Hp} {ws : List W} {vs : List V} (h : RWs K ρ H ws vs) (i : Nat) : (nth ws i = none → vs.length ≤ i) ∧ ∀ w, nth ws i = some w → ∃ v, vs[i]? = some v ∧ RW K ρ H w v := by
  rw [nth_eq]
  refine ⟨fun e => ?_, fun w e => h.get e⟩
  have := List.getElem?_eq_none_iff.mp e
  rw [h.length]; exact this
theorem Cf.lstAt {C : Cf} (ok : C.Ok G) {j : Nat} {xs : List W} (h : C.S.get j = some (.lst xs)) : ∃ a vs, C.ρ[j]? = some a ∧ C.H a = some (.lst vs) ∧ RWs G.K C.ρ C.H xs vs := by
  obtain ⟨a, o, h1, h2, h3⟩ := ok.ob j _ h
  cases o <;> try exact h3.elim
  rename_i vs
  exact ⟨a, vs, h1, h2, h3⟩
theorem srcO_ok {C0 : Cf} {j : Nat} {a : Addr} (ha : C0.ρ[j]? = some a) : SrcOk G (srcO j) (Itl G.K a) C0 := fun C ok x i => by
  have ha' := x.pre j a ha
  unfold srcO
  cases q : C.S.get j with
  | none => simp
  | some v =>
    cases v with
    | lst xs =>
      obtain ⟨a', vs, h1, h2, h3⟩ := Cf.lstAt ok q
      rw [ha'] at h1; cases h1
      refine ⟨fun e => ?_, fun w e => ?_⟩
      · exact ⟨vs, SqL.of h2, (h3.get' i).1 (Option.some.inj e)⟩
      · obtain ⟨v, e1, e2⟩ := (h3.get' i).2 w (Option.some.inj e)
        refine ⟨⟨vs, v, SqL.of h2, e1⟩, fun y H' ⟨hH, hy⟩ => ⟨C, hH.symm, rfl, ok, Ext.refl C, ?_⟩⟩
        have := hy vs (SqL.of h2)
        rw [e1] at this
        cases this
        exact e2
    | cel => simp
    | urn => simp
    | ins => simp
    | dki => simp
    | sti => simp
    | exv => simp
    | dct => simp
    | fdc => simp
theorem srcT_ok {C0 : Cf} (ok0 : C0.Ok G) {ws : List W} {a : Addr} {vs : List V} (ht : SqT G.K C0.H a vs) (r : RWs G.K C0.ρ C0.H ws vs) : SrcOk G (srcT ws) (Itt G.K a) C0 := fun C ok x i => by
  have ht' := x.tup ok0 ht
  have r' := RWs.mono ok0 x ws r
  unfold srcT
  refine ⟨fun e => ⟨vs, ht', (r'.get' i).1 (Option.some.inj e)⟩, fun w e => ?_⟩
  obtain ⟨v, e1, e2⟩ := (r'.get' i).2 w (Option.some.inj e)
  refine ⟨⟨vs, v, ht', e1⟩, fun y H' ⟨hH, hy⟩ => ⟨C, hH.symm, rfl, ok, Ext.refl C, ?_⟩⟩
  have := hy vs ht'
  rw [e1] at this
  cases this
  exact e2
noncomputable def ofSeq (w : W) (S : FH) : Res Src := match w with
  | .tup ws => .ok (srcT ws) S
  | .mix ws => .ok (srcT ws) S
  | .obj j => match S.get j with
    | some (.lst _) => .ok (srcO j) S
    | _ => .stuck
  | _ => .stuck
theorem srcM_ok {C0 : Cf} (ok0 : C0.Ok G) {ws : List W} {a : Addr} {o : Obj} {vs : List V} (ht : C0.H a = some (.frz o (.lst vs))) (r : RWs G.K C0.ρ C0.H ws vs) : SrcOk G (srcT ws) (Itl G.K a) C0 := fun C ok x i => by
  have ht' : SqL G.K C.H a vs := .inl (.inr ⟨o, x.frz a o _ ht⟩)
  have r' := RWs.mono ok0 x ws r
  unfold srcT
  refine ⟨fun e => ⟨vs, ht', (r'.get' i).1 (Option.some.inj e)⟩, fun w e => ?_⟩
  obtain ⟨v, e1, e2⟩ := (r'.get' i).2 w (Option.some.inj e)
  refine ⟨⟨vs, v, ht', e1⟩, fun y H' ⟨hH, hy⟩ => ⟨C, hH.symm, rfl, ok, Ext.refl C, ?_⟩⟩
  have := hy vs ht'
  rw [e1] at this
  cases this
  exact e2
theorem post_seq {C : Cf} (ok : C.Ok G) {w : W} {v : V} {R : It → Hp → Prop} (rv : RW G.K C.ρ C.H w v) (p : Post G W' C (ofSeq w C.S) (PhI G R)) :
    ∃ a, v = .ref a ∧ (((∃ xs, SqL G.K C.H a xs) ∧ R (Itl G.K a) C.H) ∨ ((∃ xs, SqT G.K C.H a xs) ∧ R (Itt G.K a) C.H)) := by
  unfold ofSeq at p
  split at p
  · unfold RW at rv
    obtain ⟨a, vs, rfl, h1, h2⟩ := rv
    exact ⟨a, rfl, .inr ⟨⟨vs, h1⟩, (Post.now ok p) _ (srcT_ok ok h1 h2)⟩⟩
  · unfold RW at rv
    obtain ⟨a, vs, rfl, h1, h2⟩ := rv
    rcases h1 with h1 | ⟨o, h1⟩
    · exact ⟨a, rfl, .inr ⟨⟨vs, h1⟩, (Post.now ok p) _ (srcT_ok ok h1 h2)⟩⟩
    · exact ⟨a, rfl, .inl ⟨⟨vs, .inl (.inr ⟨o, h1⟩)⟩, (Post.now ok p) _ (srcM_ok ok h1 h2)⟩⟩
  · unfold RW at rv
    obtain ⟨a, rfl, h1⟩ := rv
    split at p
    · rename_i hx
      obtain ⟨a', vs, h2, h3, h4⟩ := Cf.lstAt ok hx
      rw [h1] at h2; cases h2
      exact ⟨a, rfl, .inl ⟨⟨vs, SqL.of h3⟩, (Post.now ok p) _ (srcO_ok h1)⟩⟩
    · unfold Post at p; exact p.elim
  · unfold Post at p; exact p.elim
/-- range(n), range(a, b) -/
noncomputable def srcR (lo : Int) (n : Nat) : Src := fun i _ => match Nat.blt i n with
  | true => fInt (lo + i) fun j => some (some (.k (.int j)))
  | false => some none
theorem srcR_ok {C0 : Cf} {lo : Int} {n : Nat} : SrcOk G (srcR lo n) (Itr lo n) C0 := fun C ok x i => by
  unfold srcR
  cases q : Nat.blt i n with
  | true =>
    have : i < n := Nat.le_of_ble_eq_true q
    simp only [fInt_eq]
    refine ⟨fun e => (nomatch e), fun w e => ⟨this, fun y H' ⟨hH, hy⟩ => ⟨C, hH.symm, rfl, ok, Ext.refl C, ?_⟩⟩⟩
    cases e
    unfold RW
    exact hy
  | false =>
    refine ⟨fun _ => ?_, fun w e => (nomatch e)⟩
    show n ≤ i
    apply Nat.le_of_not_lt
    intro h
    have : Nat.blt i n = true := Nat.ble_eq_true_of_le h
    rw [this] at q; cases q
def intW {α : Type} (w : W) (k : Int → Res α) : Res α := match w with
  | .k (.int i) => k i
  | _ => .stuck
theorem post_int {α : Type} {C : Cf} {w : W} {v : V} {k : Int → Res α} {Φ : α → Cf → Prop} (r : RW G.K C.ρ C.H w v) (p : Post G W' C (intW w k) Φ) : ∃ i, v = .int i ∧ Post G W' C (k i) Φ := by
  unfold intW at p
  split at p
  · unfold RW at r; exact ⟨_, r, p⟩
  · unfold Post at p; exact p.elim
def small (i : Int) : Bool := match i with
  | .ofNat n => Nat.blt n 1000000000
  | .negSucc n => Nat.blt n 1000000000
theorem small_in {i : Int} (h : small i = true) : -(2 ^ 62) ≤ i ∧ i < 2 ^ 62 ∧ -1000000000 ≤ i ∧ i < 1000000000 := by
  unfold small at h
  cases i with
  | ofNat n =>
    have h : n < 1000000000 := Nat.le_of_ble_eq_true h
    have : (n : Int) < 1000000000 := by omega
    show -(2 ^ 62) ≤ (n : Int) ∧ (n : Int) < 2 ^ 62 ∧ -1000000000 ≤ (n : Int) ∧ (n : Int) < 1000000000
    omega
  | negSucc n =>
    have h : n < 1000000000 := Nat.le_of_ble_eq_true h
    omega
noncomputable def eiRng1 (f : Evl) : Evi := fun l S => (f l S).bnd fun w S1 => intW w fun j => match small j with
  | true => fNat j.toNat fun n => .ok (srcR 0 n) S1
  | false => .stuck
theorem rws1 {K : PySem.W.Frag} {ρ : List Addr} {H : Hp} {vs : List V} {w : W} (h : RWs K ρ H [w] vs) : ∃ v, vs = [v] ∧ RW K ρ H w v := by
  unfold RWs RWs at h
  obtain ⟨v, r, rfl, h1, rfl⟩ := h
  exact ⟨v, rfl, h1⟩
theorem si_rng1 {f : Evl} {tg e : Expr} {p : Pos} (hg : Gl X "range") (hm : X.mg "range" = none) (h : SE G X W' f e) (hs : starEach [e] X.env = [(false, eval e X.env)] := by rfl) : SI G X W' (eiRng1 f) tg (.Call (.Name "range" p) [e] [] pos) :=
  pi_imp (pi_range1 hg hm (pa_cons h pa_nil hs) hs) fun σ H R ⟨C, l, e, ok, r, p⟩ => by
    subst e
    refine ⟨C, l, rfl, ok, r, Post.mono (fun w C1 ok1 x1 p1 v rv => ?_) (Post.bnd p)⟩
    obtain ⟨j, rfl, p2⟩ := post_int rv p1
    cases q : small j with
    | false => simp only [q] at p2; unfold Post at p2; exact p2.elim
    | true =>
      simp only [q, fNat_eq] at p2
      have := small_in q
      exact ⟨j, rfl, this.1, this.2.1, (Post.now ok1 p2) _ srcR_ok⟩
noncomputable def eiRng2 (f g : Evl) : Evi := fun l S => (f l S).bnd fun w S1 => (g l S1).bnd fun u S2 => intW w fun i => intW u fun j => match small i, small j with
  | true, true => fNat (j - i).toNat fun n => .ok (srcR i n) S2
  | _, _ => .stuck
theorem si_rng2 {f g : Evl} {tg a b : Expr} {p : Pos} (hg : Gl X "range") (hm : X.mg "range" = none) (h : SE G X W' f a) (h2 : SE G X W' g b) (hs : starEach [a, b] X.env = [(false, eval a X.env), (false, eval b X.env)] := by rfl) (hs2 : starEach [b] X.env = [(false, eval b X.env)] := by rfl) :
    SI G X W' (eiRng2 f g) tg (.Call (.Name "range" p) [a, b] [] pos) :=
  pi_imp (pi_range2 hg hm (pa_cons h (pa_cons h2 pa_nil hs2) (by rw [hs, hs2])) hs hs2) fun σ H R ⟨C, l, e, ok, r, p⟩ => by
    subst e
    refine ⟨C, l, rfl, ok, r, Post.mono (fun w C1 ok1 x1 p1 v rv => ?_) (Post.bnd p)⟩
    refine ⟨C1, l, rfl, ok1, r.mono ok x1, Post.mono (fun u C2 ok2 x2 p2 v2 rv2 => ?_) (Post.bnd p1)⟩
    obtain ⟨i, rfl, p3⟩ := post_int (rv.mono ok1 x2) p2
    obtain ⟨j, rfl, p4⟩ := post_int rv2 p3
    cases q : small i with
    | false => simp only [q] at p4; unfold Post at p4; exact p4.elim
    | true =>
      cases q2 : small j with
      | false => simp only [q, q2] at p4; unfold Post at p4; exact p4.elim
      | true =>
        simp only [q, q2, fNat_eq] at p4
        have h1 := small_in q
        have h2 := small_in q2
        exact ⟨i, j, rfl, ⟨h1.1, h1.2.1, h2.1, h2.2.1⟩, (Post.now ok2 p4) _ srcR_ok⟩

/-! ### for -/
noncomputable def forL (nx : Src) (tg : Tg) (b : Evs) (m : Nat) : Nat → Evs := Nat.rec (motive := fun _ => Nat → Evs) (fun _ _ _ => .stuck) (fun _ ih i l S => match nx i S with
    | none => .stuck
    | some none => .ok (.nx l) S
    | some (some w) => match tg w l S with
      | none => .stuck
      | some l1 => (b l1 S).bnd fun r S1 => match r with
        | .nx l2 => fNat (i + 1) fun i1 => ih i1 l2 S1
        | .ct l2 => fNat (i + 1) fun i1 => ih i1 l2 S1
        | .bk l2 => .ok (.nx l2) S1
        | .rt w => .ok (.rt w) S1) m
theorem forL_zero {nx : Src} {tg : Tg} {b : Evs} {i : Nat} {l : Lo} {S : FH} : forL nx tg b 0 i l S = .stuck := rfl
theorem forL_succ {nx : Src} {tg : Tg} {b : Evs} {m i : Nat} {l : Lo} {S : FH} : forL nx tg b (m + 1) i l S = match nx i S with
    | none => .stuck
    | some none => .ok (.nx l) S
    | some (some w) => match tg w l S with
      | none => .stuck
      | some l1 => (b l1 S).bnd fun r S1 => match r with
        | .nx l2 => fNat (i + 1) fun i1 => forL nx tg b m i1 l2 S1
        | .ct l2 => fNat (i + 1) fun i1 => forL nx tg b m i1 l2 S1
        | .bk l2 => .ok (.nx l2) S1
        | .rt w => .ok (.rt w) S1 := rfl
noncomputable def esFor (fu : Nat) (f : Evi) (tg : Tg) (b : Evs) : Evs := fun l S => (f l S).bnd fun nx S1 => forL nx tg b fu 0 l S1
theorem ss_for {fu : Nat} {ks : List Nat} {f : Evi} {t : Tg} {b : Evs} {tg iter : Expr} {body : List Stmt} (hp : PassesOwn (model X.prog X.w) X.A X.env X.xe) (hc : X.calm = true) (hi : SI G X W' f tg iter) (hg : TgS G X ks t tg) (hb : SSs G X W' b body)
    (hs : ∀ x, foldedSetIterable iter X.env x = pure x := by intro _; rfl) : SS G X W' (esFor fu f t b) (.For tg iter body [] pos) := by
  obtain ⟨g, pg, kk⟩ := hg
  refine ps_imp (ps_for hp hc hi pg hb hs) fun D σ H ⟨C, l, e, ok, r, p⟩ => ?_
  subst e
  refine ⟨C, l, rfl, ok, r, Post.mono (fun nx C1 ok1 x1 p1 J hJ => ?_) (Post.bnd p)⟩
  refine ⟨fun i m σ H => ∃ (C : Cf) (l : Lo), C.H = H ∧ C.Ok G ∧ RL G C l σ ∧ Ext C1 C ∧ Post G W' C (forL nx t b m i l C.S) (PhS G D), ⟨fu, C1, l, rfl, ok1, r.mono ok x1, Ext.refl C1, p1⟩, ?_⟩
  rintro i m σ2 H2 ⟨C2, l2, rfl, ok2, r2, x2, p2⟩
  have hs2 := hJ C2 ok2 x2 i
  cases m with
  | zero => rw [forL_zero] at p2; unfold Post at p2; exact p2.elim
  | succ m =>
    rw [forL_succ] at p2
    cases q : nx i C2.S with
    | none => simp only [q] at p2; unfold Post at p2; exact p2.elim
    | some o =>
      cases o with
      | none =>
        simp only [q] at p2
        exact .inl ⟨hs2.1 q, (Post.now (W' := W') ok2 p2) σ2 r2⟩
      | some w =>
        simp only [q] at p2
        obtain ⟨h1, h2⟩ := hs2.2 w q
        refine .inr ⟨h1, fun σ' H' => ∃ (C : Cf) (l : Lo), C.H = H' ∧ C.Ok G ∧ RL G C l σ' ∧ Ext C1 C ∧ Post G W' C (forL nx t b m (i + 1) l C.S) (PhS G D), fun σ' H' h => ⟨m, Nat.lt_succ_self m, h⟩, fun x H' y => ?_⟩
        obtain ⟨C3, rfl, hS, ok3, x3, rv⟩ := h2 x H' y
        cases q2 : t w l2 C2.S with
        | none => simp only [q2] at p2; unfold Post at p2; exact p2.elim
        | some l3 =>
          simp only [q2] at p2
          refine kk C3 l2 l3 σ2 w x _ ok3 (r2.mono ok2 x3) rv (by rw [hS]; exact q2) fun σ3 r3 _ => ?_
          refine ⟨C3, l3, rfl, ok3, r3, ?_⟩
          rw [hS]
          refine Post.mono (fun fl C4 ok4 x4 p4 => ?_) (Post.bnd (Post.base x3 p2))
          cases fl with
          | nx l4 => exact fun σ4 r4 => ⟨C4, l4, rfl, ok4, r4, (x2.trans x3).trans x4, by simp only [fNat_eq] at p4; exact p4⟩
          | ct l4 => exact fun σ4 r4 => ⟨C4, l4, rfl, ok4, r4, (x2.trans x3).trans x4, by simp only [fNat_eq] at p4; exact p4⟩
          | bk l4 => exact fun σ4 r4 => (Post.now (W' := W') ok4 p4) σ4 r4
          | rt w4 => exact fun v4 r4 => (Post.now (W' := W') ok4 p4) v4 r4
/-! ### while -/
noncomputable def whileL (c : Evt) (b : Evs) (n : Nat) : Evs := Nat.rec (motive := fun _ => Evs) (fun _ _ => .stuck) (fun _ ih l S => (c l S).bnd fun t S1 => match t with
    | false => .ok (.nx l) S1
    | true => (b l S1).bnd fun r S2 => match r with
      | .nx l2 => ih l2 S2
      | .ct l2 => ih l2 S2
      | .bk l2 => .ok (.nx l2) S2
      | .rt w => .ok (.rt w) S2) n
theorem whileL_zero {c : Evt} {b : Evs} {l : Lo} {S : FH} : whileL c b 0 l S = .stuck := rfl
theorem whileL_succ {c : Evt} {b : Evs} {n : Nat} {l : Lo} {S : FH} : whileL c b (n + 1) l S = (c l S).bnd fun t S1 => match t with
    | false => .ok (.nx l) S1
    | true => (b l S1).bnd fun r S2 => match r with
      | .nx l2 => whileL c b n l2 S2
      | .ct l2 => whileL c b n l2 S2
      | .bk l2 => .ok (.nx l2) S2
      | .rt w => .ok (.rt w) S2 := rfl
theorem ss_while {fu : Nat} {c : Evt} {b : Evs} {ec : Expr} {body : List Stmt} (hp : PassesOwn (model X.prog X.w) X.A X.env X.xe) (hc : ST G X W' c ec) (hb : SSs G X W' b body) : SS G X W' (whileL c b fu) (.While ec body [] pos) := by
  refine ps_imp (ps_while hp hc hb) fun D σ H ⟨C, l, e, ok, r, p⟩ => ?_
  subst e
  refine ⟨fun m σ H => rdS G W' (whileL c b m) D σ H, ⟨fu, C, l, rfl, ok, r, p⟩, ?_⟩
  rintro m σ2 H2 ⟨C2, l2, rfl, ok2, r2, p2⟩
  cases m with
  | zero => rw [whileL_zero] at p2; unfold Post at p2; exact p2.elim
  | succ m =>
    rw [whileL_succ] at p2
    refine ⟨C2, l2, rfl, ok2, r2, Post.mono (fun t C3 ok3 x3 p3 => ?_) (Post.bnd p2)⟩
    unfold PhT
    cases t with
    | false => exact iteF ((Post.now (W' := W') ok3 p3) σ2 (r2.mono ok2 x3))
    | true =>
      refine iteT ⟨fun σ' H' => rdS G W' (whileL c b m) D σ' H', fun σ' H' h => ⟨m, Nat.lt_succ_self m, h⟩, C3, l2, rfl, ok3, r2.mono ok2 x3, Post.mono (fun fl C4 ok4 x4 p4 => ?_) (Post.bnd p3)⟩
      cases fl with
      | nx l4 => exact fun σ4 r4 => ⟨C4, l4, rfl, ok4, r4, p4⟩
      | ct l4 => exact fun σ4 r4 => ⟨C4, l4, rfl, ok4, r4, p4⟩
      | bk l4 => exact fun σ4 r4 => (Post.now (W' := W') ok4 p4) σ4 r4
      | rt w4 => exact fun v4 r4 => (Post.now (W' := W') ok4 p4) v4 r4
end
end Ev

namespace Ev
theorem KIs.map_ {K : PySem.W.Frag} {ρ ρ' : List PySem.Addr} {H H' : L2.Hp} (f : ∀ w v, RW K ρ H w v → RW K ρ' H' w v) : ∀ {kvs : List (Int × W)} {ys : List (L2.Key × L2.V)}, KIs K ρ H kvs ys → KIs K ρ' H' kvs ys
  | [], _, h => h
  | p :: r, _, h => by
    obtain ⟨v, ys', e, h2, h3⟩ := h
    exact ⟨v, ys', e, f _ _ h2, KIs.map_ f h3⟩
open PySem PySem.Spec PyProof.Rows L2

/-! ### list comprehensions -/
def wipeL : Lo → List Nat → Lo
  | l, [] => l
  | l, v :: vs => setL (wipeL l vs) v none
section
variable {G : Glo} {X : Cx} {W' : WX} {pos : Pos}
theorem rws1' {K : PySem.W.Frag} {ρ : List Addr} {H : Hp} {vs : List V} {w : W} (h : RWs K ρ H [w] vs) : ∃ v, vs = [v] ∧ RW K ρ H w v := by
  unfold RWs RWs at h
  obtain ⟨v, r, rfl, h1, rfl⟩ := h
  exact ⟨v, rfl, h1⟩
theorem RL.forget {C : Cf} {l : Lo} {σ : L2.St} (r : RL G C l σ) (i : Nat) : RL G C (setL l i none) (σ.set i none) := by
  refine ⟨by rw [setL_eq]; simp [r.len], fun j u e => ?_⟩
  rw [setL_eq] at e
  by_cases q : i = j
  · subst q
    by_cases hi : i < l.length
    · rw [List.getElem?_set_self hi] at e; cases e
    · rw [List.getElem?_eq_none (by simp; omega)] at e; cases e
  · rw [List.getElem?_set_ne q] at e
    rw [List.getElem?_set_ne q]
    exact r.at_ j u e
theorem RL.wipe {C : Cf} {l : Lo} {σ : L2.St} (r : RL G C l σ) : ∀ vs : List Nat, RL G C (wipeL l vs) (L2.wipe σ vs)
  | [] => r
  | v :: vs => by
    unfold wipeL L2.wipe
    exact (RL.wipe r vs).forget v
theorem wipe_get (σ : L2.St) (j : Nat) : ∀ vs : List Nat, (wipe σ vs)[j]? = if j ∈ vs ∧ j < σ.length then some none else σ[j]?
  | [] => by simp [wipe]
  | v :: vs => by
    unfold wipe
    have ih := wipe_get σ j vs
    by_cases q : v = j
    · subst q
      by_cases hv : v < σ.length
      · rw [List.getElem?_set_self (by rw [wipe_length]; exact hv)]
        simp [hv]
      · rw [List.getElem?_eq_none (by rw [List.length_set, wipe_length]; omega)]
        simp [hv]
    · rw [List.getElem?_set_ne q, ih]
      have : (j ∈ v :: vs) ↔ j ∈ vs := by simp [List.mem_cons, Ne.symm q, show ¬ j = v from fun e => q e.symm]
      simp only [this]
theorem turned_wipe {σ σ1 : L2.St} {ks vs : List Nat} (t : Turned ks σ σ1) (h : ∀ k ∈ ks, k ∈ vs) : wipe σ1 vs = wipe σ vs := by
  refine List.ext_getElem? fun j => ?_
  rw [wipe_get, wipe_get, t.1]
  by_cases q : j ∈ vs
  · by_cases hj : j < σ.length
    · simp [q, hj]
    · have h1 : σ[j]? = none := List.getElem?_eq_none (by omega)
      have h2 : σ1[j]? = none := List.getElem?_eq_none (by rw [t.1]; omega)
      simp [hj, h1, h2]
  · have : j ∉ ks := fun z => q (h j z)
    simp [q, t.2 j this]
theorem wipe_wipe (σ : L2.St) (vs : List Nat) : wipe (wipe σ vs) vs = wipe σ vs := by
  refine List.ext_getElem? fun j => ?_
  rw [wipe_get, wipe_get, wipe_length]
  by_cases q : j ∈ vs ∧ j < σ.length <;> simp [q]

/-- as Post.bnd, the base stays -/
theorem Post.bnd0 {α β : Type} {C : Cf} {k : α → FH → Res β} {Φ : β → Cf → Prop} : ∀ {m : Res α}, Post G W' C (m.bnd k) Φ → Post G W' C m fun a C1 => Post G W' C (k a C1.S) Φ
  | .ok a S, h => by
    dsimp only [Res.bnd] at h
    unfold Post
    exact fun D e ok y => by rw [e]; exact h
  | .exc c w l S, h => by
    dsimp only [Res.bnd] at h
    unfold Post at h ⊢
    exact h
  | .pick n f, h => by
    dsimp only [Res.bnd] at h
    unfold Post at h ⊢
    exact fun r hr => Post.bnd0 (h r hr)
  | .stuck, h => by
    dsimp only [Res.bnd] at h
    unfold Post at h
    exact h.elim
/-- what is raised is not followed here -/
noncomputable def noX {α : Type} (m : Res α) : Res α := Res.rec (motive := fun _ => Res α) (fun a S => .ok a S) (fun _ _ _ _ => .stuck) (fun n _ ih => .pick n ih) .stuck m
abbrev W0 : WX := fun _ _ _ _ => False
theorem Post.unX {α : Type} {C : Cf} {Φ : α → Cf → Prop} : ∀ {m : Res α}, Post G W' C (noX m) Φ → Post G W0 C m Φ
  | .ok a S, h => by
    dsimp only [Ev.noX] at h
    unfold Post at h ⊢
    exact h
  | .exc c w l S, h => by
    dsimp only [Ev.noX] at h
    unfold Post at h
    exact h.elim
  | .pick n f, h => by
    dsimp only [Ev.noX] at h
    unfold Post at h ⊢
    exact fun r hr => Post.unX (h r hr)
  | .stuck, h => by
    dsimp only [Ev.noX] at h
    unfold Post at h
    exact h.elim
/-- the loop: acc the items so far, the last first -/
noncomputable def lcL (nx : Src) (tg : Tg) (tt : Evt) (te : Evl) (l : Lo) (m : Nat) : Nat → List W → FH → Res W := Nat.rec (motive := fun _ => Nat → List W → FH → Res W) (fun _ _ _ => .stuck) (fun _ ih i acc S => match nx i S with
    | none => .stuck
    | some none => revK acc [] fun ws => newK S (.lst ws) fun n S1 => .ok (.obj n) S1
    | some (some w) => match tg w l S with
      | none => .stuck
      | some l1 => (noX (tt l1 S)).bnd fun b S1 => match b with
        | false => fNat (i + 1) fun i1 => ih i1 acc S1
        | true => (noX (te l1 S1)).bnd fun y S2 => fNat (i + 1) fun i1 => ih i1 (y :: acc) S2) m
theorem lcL_zero {nx : Src} {tg : Tg} {tt : Evt} {te : Evl} {l : Lo} {i : Nat} {acc : List W} {S : FH} : lcL nx tg tt te l 0 i acc S = .stuck := rfl
theorem lcL_succ {nx : Src} {tg : Tg} {tt : Evt} {te : Evl} {l : Lo} {m i : Nat} {acc : List W} {S : FH} : lcL nx tg tt te l (m + 1) i acc S = match nx i S with
    | none => .stuck
    | some none => .ok (.obj S.n) (S.new (.lst acc.reverse))
    | some (some w) => match tg w l S with
      | none => .stuck
      | some l1 => (noX (tt l1 S)).bnd fun b S1 => match b with
        | false => lcL nx tg tt te l m (i + 1) acc S1
        | true => (noX (te l1 S1)).bnd fun y S2 => lcL nx tg tt te l m (i + 1) (y :: acc) S2 := by
  have e : ∀ x, lcL nx tg tt te l (m + 1) i acc S = x ↔ (match nx i S with
    | none => .stuck
    | some none => revK acc [] fun ws => newK S (.lst ws) fun n S1 => .ok (.obj n) S1
    | some (some w) => match tg w l S with
      | none => .stuck
      | some l1 => (noX (tt l1 S)).bnd fun b S1 => match b with
        | false => fNat (i + 1) fun i1 => lcL nx tg tt te l m i1 acc S1
        | true => (noX (te l1 S1)).bnd fun y S2 => fNat (i + 1) fun i1 => lcL nx tg tt te l m i1 (y :: acc) S2) = x := fun x => Iff.rfl
  rw [e]
  simp only [revK_eq, newK_eq, fNat_eq, List.append_nil]
noncomputable def wipeK (l : Lo) (vs : List Nat) (k : Lo → Res W) : Res W := List.rec (motive := fun _ => (Lo → Res W) → Res W) (fun k => k l) (fun v _ ih k => ih fun l1 => setK l1 v none k) vs k
theorem wipeK_eq {l : Lo} : ∀ (vs : List Nat) (k : Lo → Res W), wipeK l vs k = k (wipeL l vs)
  | [], k => rfl
  | v :: vs, k => by
    show wipeK l vs (fun l1 => setK l1 v none k) = _
    rw [wipeK_eq, setK_eq]; rfl
noncomputable def evLc (f : Evi) (tg : Tg) (tt : Evt) (te : Evl) (vs : List Nat) : Evl := fun l S => (f l S).bnd fun nx S1 => wipeK l vs fun l1 => lcL nx tg tt te l1 10000 0 [] S1
theorem RWs.reverse {K : PySem.W.Frag} {ρ : List Addr} {H : Hp} {ws : List W} {w : W} {vs : List V} {v : V} (h : RWs K ρ H ws.reverse vs) (r : RW K ρ H w v) : RWs K ρ H (w :: ws).reverse (vs ++ [v]) := by
  rw [List.reverse_cons]
  exact h.append (.cons r .nil)
/-- a heap whose place D, tracked but not ours, holds another list -/
theorem Cf.side {C0 C : Cf} (ok : C.Ok G) (x : Ext C0 C) {D : Addr} {vs us : List V} (hD : C.H D = some (.lst vs)) (nD : ∀ i : Nat, C.ρ[i]? ≠ some D) (h0 : C0.H D = none) :
    (Cf.mk C.ρ (upd C.H D (.lst us)) C.S).Ok G ∧ Ext C0 ⟨C.ρ, upd C.H D (.lst us), C.S⟩ ∧ (∀ w v, RW G.K C.ρ C.H w v → RW G.K C.ρ (upd C.H D (.lst us)) w v) ∧ (∀ ws vs, RWs G.K C.ρ C.H ws vs → RWs G.K C.ρ (upd C.H D (.lst us)) ws vs) := by
  have tup : ∀ {a : Addr} {ys : List V}, SqT G.K C.H a ys → SqT G.K (upd C.H D (.lst us)) a ys := fun {a ys} h => by
    rcases h with (h | ⟨o, h⟩) | h
    · exact .inl (.inl (by rw [upd_ne (ne_of h hD (fun z => nomatch z))]; exact h))
    · exact .inl (.inr ⟨o, by rw [upd_ne (ne_of h hD (fun z => nomatch z))]; exact h⟩)
    · exact .inr h
  have fr : ∀ {a : Addr} {o : Obj} {u : HO}, C.H a = some (.frz o u) → upd C.H D (.lst us) a = some (.frz o u) := fun {a o u} h => by
    rw [upd_ne (ne_of h hD (fun z => nomatch z))]; exact h
  have kw : ∀ w v, RW G.K C.ρ C.H w v → RW G.K C.ρ (upd C.H D (.lst us)) w v := by
    -- by a detour: the two heaps as configurations without objects
    have okb : (Cf.mk C.ρ C.H C.S.bare).Ok G := ⟨ok.len, ok.nd, ok.lv, fun i v h => nomatch h⟩
    intro w
    exact (go tup fr w)
  have kws : ∀ ws vs, RWs G.K C.ρ C.H ws vs → RWs G.K C.ρ (upd C.H D (.lst us)) ws vs := fun ws => gos tup fr ws
  have x' : Ext C0 ⟨C.ρ, upd C.H D (.lst us), C.S⟩ := {
    pre := x.pre
    keep := fun a o h n => by
      show upd C.H D (.lst us) a = some o
      rw [upd_ne (ne_of_none h h0)]
      exact x.keep a o h n
    live := fun a h => by
      show upd C.H D (.lst us) a ≠ none
      by_cases q : a = D
      · rw [q, upd_same]; simp
      · rw [upd_ne q]; exact x.live a h
    frz := fun a o u h => by
      show upd C.H D (.lst us) a = some (.frz o u)
      rw [upd_ne (ne_of_none h h0)]
      exact x.frz a o u h
    new1 := x.new1
    new2 := x.new2 }
  refine ⟨⟨ok.len, ok.nd, fun i a h => ?_, fun i v h => ?_⟩, x', kw, kws⟩
  · show upd C.H D (.lst us) a ≠ none
    by_cases q : a = D
    · rw [q, upd_same]; simp
    · rw [upd_ne q]; exact ok.lv i a h
  · obtain ⟨a, o, h1, h2, h3⟩ := ok.ob i v h
    have ne : a ≠ D := fun e => nD i (by rw [h1, e])
    refine ⟨a, o, h1, by show upd C.H D (.lst us) a = some o; rw [upd_ne ne]; exact h2, ?_⟩
    cases v <;> cases o <;> first | exact kws _ _ h3 | (obtain ⟨xs, e, q⟩ := h3; exact ⟨xs, e, q.map_ kw⟩) | (obtain ⟨e, q⟩ := h3; exact ⟨e, FRs.map_ kw q⟩) | exact KIs.map_ kw h3 | (obtain ⟨d, e, q⟩ := h3; exact ⟨d, e, fun dd hd => by obtain ⟨f, y, z⟩ := q dd hd; exact ⟨f, y, by show upd C.H D (.lst us) dd = _; rw [upd_ne (ne_of z hD (fun z => nomatch z))]; exact z⟩⟩) | exact h3
where
  go {us : List V} {C : Cf} {D : Addr} (tup : ∀ {a : Addr} {ys : List V}, SqT G.K C.H a ys → SqT G.K (upd C.H D (.lst us)) a ys) (fr : ∀ {a : Addr} {o : Obj} {u : HO}, C.H a = some (.frz o u) → upd C.H D (.lst us) a = some (.frz o u)) : ∀ (w : W) (v : V), RW G.K C.ρ C.H w v → RW G.K C.ρ (upd C.H D (.lst us)) w v
    | .k _, v, h => by unfold RW at h ⊢; exact h
    | .tup xs, v, h => by
      unfold RW at h ⊢
      obtain ⟨a, vs, e, h1, h2⟩ := h
      exact ⟨a, vs, e, tup h1, gos tup fr xs vs h2⟩
    | .obj i, v, h => by unfold RW at h ⊢; exact h
    | .mix xs, v, h => by
      unfold RW at h ⊢
      obtain ⟨a, vs, e, h1, h2⟩ := h
      exact ⟨a, vs, e, h1.imp tup fun ⟨o, z⟩ => ⟨o, fr z⟩, gos tup fr xs vs h2⟩
    | .pt xs, v, h => by
      unfold RW at h ⊢
      obtain ⟨a, vs, e, h1, h2⟩ := h
      exact ⟨a, vs, e, h1.imp fun o z => ⟨fr z.1, z.2⟩, gos tup fr xs vs h2⟩
  gos {us : List V} {C : Cf} {D : Addr} (tup : ∀ {a : Addr} {ys : List V}, SqT G.K C.H a ys → SqT G.K (upd C.H D (.lst us)) a ys) (fr : ∀ {a : Addr} {o : Obj} {u : HO}, C.H a = some (.frz o u) → upd C.H D (.lst us) a = some (.frz o u)) : ∀ (ws : List W) (vs : List V), RWs G.K C.ρ C.H ws vs → RWs G.K C.ρ (upd C.H D (.lst us)) ws vs
    | [], vs, h => by unfold RWs at h ⊢; exact h
    | w :: ws, vs, h => by
      unfold RWs at h ⊢
      obtain ⟨v, r, e, h1, h2⟩ := h
      exact ⟨v, r, e, go tup fr w v h1, gos tup fr ws r h2⟩
/-- a tracked list becomes ours -/
theorem Cf.adopt {C0 C : Cf} (ok : C.Ok G) (x : Ext C0 C) {D : Addr} {vs : List V} {ws : List W} (hD : C.H D = some (.lst vs)) (nD : ∀ i : Nat, C.ρ[i]? ≠ some D) (h0 : C0.H D = none) (r : RWs G.K C.ρ C.H ws vs) :
    (Cf.mk (C.ρ ++ [D]) C.H (C.S.new (.lst ws))).Ok G ∧ Ext C0 ⟨C.ρ ++ [D], C.H, C.S.new (.lst ws)⟩ ∧ (C.ρ ++ [D])[C.S.n]? = some D := by
  have hat : (C.ρ ++ [D])[C.S.n]? = some D := by rw [← ok.len]; simp
  have old : ∀ (i : Nat) (a : Addr), C.ρ[i]? = some a → (C.ρ ++ [D])[i]? = some a := fun i a h => by rw [List.getElem?_append_left (lt_of_get? h)]; exact h
  have cases_ : ∀ (i : Nat) (a : Addr), (C.ρ ++ [D])[i]? = some a → (C.ρ[i]? = some a) ∨ (i = C.ρ.length ∧ a = D) := fun i a h => by
    by_cases hi : i < C.ρ.length
    · rw [List.getElem?_append_left hi] at h; exact .inl h
    · rw [List.getElem?_append_right (by omega)] at h
      cases q : i - C.ρ.length with
      | zero => rw [q] at h; exact .inr ⟨by omega, by simpa using h.symm⟩
      | succ n => rw [q] at h; simp at h
  have rmono : ∀ ws vs, RWs G.K C.ρ C.H ws vs → RWs G.K (C.ρ ++ [D]) C.H ws vs := fun ws vs h => by
    have okb : (Cf.mk C.ρ C.H C.S.bare).Ok G := ⟨ok.len, ok.nd, ok.lv, fun i v h => nomatch h⟩
    have xb : Ext (Cf.mk C.ρ C.H C.S.bare) (Cf.mk (C.ρ ++ [D]) C.H C.S.bare) → RWs G.K (C.ρ ++ [D]) C.H ws vs := fun xb => RWs.mono okb xb ws h
    by_cases hh : True
    · exact goA ws vs h
    · exact absurd trivial hh
  refine ⟨⟨?_, ?_, ?_, ?_⟩, ?_, hat⟩
  · show (C.ρ ++ [D]).length = C.S.n + 1
    simp [ok.len]
  · intro i j a h1 h2
    rcases cases_ i a h1 with g1 | ⟨g1, e1⟩ <;> rcases cases_ j a h2 with g2 | ⟨g2, e2⟩
    · exact ok.nd i j a g1 g2
    · subst e2; exact absurd g1 (nD i)
    · subst e1; exact absurd g2 (nD j)
    · omega
  · intro i a h
    rcases cases_ i a h with g | ⟨_, e⟩
    · exact ok.lv i a g
    · subst e; show C.H a ≠ none; rw [hD]; simp
  · intro i v h
    have h' : (C.S.new (.lst ws)).get i = some v := h
    rw [get_new] at h'
    by_cases q : C.S.n = i
    · rw [if_pos q] at h'
      cases h'
      subst q
      exact ⟨D, _, hat, hD, rmono _ _ r⟩
    · rw [if_neg q] at h'
      obtain ⟨a, o, h1, h2, h3⟩ := ok.ob i v h'
      refine ⟨a, o, old i a h1, h2, ?_⟩
      have rm1 : ∀ w v, RW G.K C.ρ C.H w v → RW G.K (C.ρ ++ [D]) C.H w v := fun w v h => by
        obtain ⟨u, e, z⟩ := rws1' (rmono [w] [v] (.cons h .nil))
        cases e
        exact z
      cases v <;> cases o <;> first | exact rmono _ _ h3 | (obtain ⟨xs, e, q⟩ := h3; exact ⟨xs, e, q.map_ rm1⟩) | (obtain ⟨e, q⟩ := h3; exact ⟨e, FRs.map_ rm1 q⟩) | exact KIs.map_ rm1 h3 | exact h3
  · exact {
      pre := fun i a h => old i a (x.pre i a h)
      keep := x.keep
      live := x.live
      frz := x.frz
      new1 := fun i v h1 h2 => by
        have h1' : (C.S.new (.lst ws)).get i = some v := h1
        rw [get_new, if_neg (by have := x.le; have := ok.len; omega)] at h1'
        exact x.new1 i v h1' h2
      new2 := fun i a h1 h2 => by
        rcases cases_ i a h1 with g | ⟨_, e⟩
        · exact x.new2 i a g h2
        · subst e; exact h0 }
where
  goA1 {C : Cf} {D : Addr} : ∀ (w : W) (v : V), RW G.K C.ρ C.H w v → RW G.K (C.ρ ++ [D]) C.H w v
    | .k _, v, h => by unfold RW at h ⊢; exact h
    | .tup xs, v, h => by
      unfold RW at h ⊢
      obtain ⟨a, vs, e, h1, h2⟩ := h
      exact ⟨a, vs, e, h1, goA xs vs h2⟩
    | .obj i, v, h => by
      unfold RW at h ⊢
      obtain ⟨a, e, h1⟩ := h
      exact ⟨a, e, by rw [List.getElem?_append_left (lt_of_get? h1)]; exact h1⟩
    | .mix xs, v, h => by
      unfold RW at h ⊢
      obtain ⟨a, vs, e, h1, h2⟩ := h
      exact ⟨a, vs, e, h1, goA xs vs h2⟩
    | .pt xs, v, h => by
      unfold RW at h ⊢
      obtain ⟨a, vs, e, h1, h2⟩ := h
      exact ⟨a, vs, e, h1, goA xs vs h2⟩
  goA {C : Cf} {D : Addr} : ∀ (ws : List W) (vs : List V), RWs G.K C.ρ C.H ws vs → RWs G.K (C.ρ ++ [D]) C.H ws vs
    | [], vs, h => by unfold RWs at h ⊢; exact h
    | w :: ws, vs, h => by
      unfold RWs at h ⊢
      obtain ⟨v, r, e, h1, h2⟩ := h
      exact ⟨v, r, e, goA1 w v h1, goA ws r h2⟩
end
end Ev

namespace Ev
open PySem PySem.Spec PyProof.Rows L2
section
variable {G : Glo} {X : Cx} {W' : WX} {pos : Pos}
def STs (G : Glo) (X : Cx) (W' : WX) (f : Evt) (ifs : List Expr) : Prop := PTs X ifs (rdT G W' f)
theorem pts_imp {X : Cx} {e : List Expr} {t t' : TT} (h : PTs X e t) (k : ∀ σ H Q, t' σ H Q → t σ H Q) : PTs X e t' := ⟨fun pins s σ H Q I q => h.run pins s σ H Q I (k σ H Q q)⟩
noncomputable def etYes : Evt := fun _ S => .ok true S
theorem sts_nil : STs G X W' etYes [] := pts_imp pts_nil fun σ H Q ⟨C, l, e, ok, r, p⟩ => by
  subst e
  have q : PhT Q true C := Post.now (W' := W') ok p
  exact q
theorem sts_one {f : Evt} {e : Expr} (h : ST G X W' f e) : STs G X W' f [e] := pts_one h
theorem Ext.side {C0 C1 : Cf} {D : Addr} (x : Ext C0 C1) {o : HO} (hD : C0.H D = some o) (nD : ∀ i : Nat, C0.ρ[i]? ≠ some D) : C1.H D = some o ∧ ∀ i : Nat, C1.ρ[i]? ≠ some D := by
  refine ⟨x.keep D o hD fun i v _ => nD i, fun i h => ?_⟩
  by_cases hi : i < C0.ρ.length
  · have h4 : C0.ρ[i]? = some C0.ρ[i] := by simp [hi]
    have h5 := x.pre i _ h4
    rw [h] at h5
    exact nD i (by rw [h4]; exact h5.symm)
  · have := x.new2 i D h (by omega)
    rw [hD] at this; cases this
/-- the reading of the reckoner's comprehension -/
theorem rd_lc {ks vs : List Nat} {f : Evi} {t : Tg} {tt : Evt} {te : Evl} {g : TG} {σ : L2.St} {H : Hp} {Q : VK}
    (kk : ∀ (C : Cf) (l l1 : Lo) (σ : L2.St) (w : W) (v : V) (Q : L2.St → Hp → Prop), C.Ok G → RL G C l σ → RW G.K C.ρ C.H w v → t w l C.S = some l1 → (∀ σ1, RL G C l1 σ1 → Turned ks σ σ1 → Q σ1 C.H) → g v σ C.H Q)
    (hks : ∀ k ∈ ks, k ∈ vs) (h : rdE G W' (evLc f t tt te vs) σ H Q) : tLc (rdI G W' f) g (rdT G W0 tt) (rdE G W0 te) vs σ H Q := by
  obtain ⟨C, l, e, ok, r, p⟩ := h
  subst e
  unfold evLc at p
  simp only [wipeK_eq] at p
  refine ⟨C, l, rfl, ok, r, Post.mono (fun nx C1 ok1 x1 p1 J hJ D hD => ?_) (Post.bnd (k := fun nx S1 => lcL nx t tt te (wipeL l vs) 10000 0 [] S1) p)⟩
  have r1 := (r.mono ok x1).wipe vs
  refine ⟨fun i m H => ∃ (C2 : Cf) (acc : List W) (av : List V), C2.H = H ∧ C2.Ok G ∧ Ext C1 C2 ∧ H D = some (.lst av) ∧ (∀ j : Nat, C2.ρ[j]? ≠ some D) ∧ RWs G.K C2.ρ C2.H acc.reverse av ∧ acc.length ≤ i ∧ i + m ≤ 10000 ∧ Post G W' C1 (lcL nx t tt te (wipeL l vs) m i acc C2.S) (PhE G Q), ⟨10000, ?_⟩, ?_⟩
  · obtain ⟨ok2, x2⟩ := Cf.tupd (o := .lst []) ok1 hD
    exact ⟨⟨C1.ρ, upd C1.H D (.lst []), C1.S⟩, [], [], rfl, ok2, x2, upd_same, fun j h => ok1.lv j D h hD, .nil, Nat.le_refl _, Nat.le_refl _, p1⟩
  rintro i m H2 ⟨C2, acc, av, rfl, ok2, x2, hD2, nD2, ra, hl, him, p2⟩
  have hs2 := hJ C2 ok2 x2 i
  cases m with
  | zero => rw [lcL_zero] at p2; unfold Post at p2; exact p2.elim
  | succ m =>
    rw [lcL_succ] at p2
    cases q : nx i C2.S with
    | none => simp only [q] at p2; unfold Post at p2; exact p2.elim
    | some o =>
      cases o with
      | none =>
        simp only [q] at p2
        refine .inl ⟨hs2.1 q, ?_⟩
        obtain ⟨ok3, x3, h3⟩ := Cf.adopt ok2 x2 hD2 nD2 hD ra
        unfold Post at p2
        exact p2 _ rfl ok3 x3 (.ref D) (by unfold RW; exact ⟨D, rfl, h3⟩)
      | some w =>
        simp only [q] at p2
        obtain ⟨h1, h2⟩ := hs2.2 w q
        refine .inr ⟨h1, fun H' => ∃ (C2 : Cf) (acc : List W) (av : List V), C2.H = H' ∧ C2.Ok G ∧ Ext C1 C2 ∧ H' D = some (.lst av) ∧ (∀ j : Nat, C2.ρ[j]? ≠ some D) ∧ RWs G.K C2.ρ C2.H acc.reverse av ∧ acc.length ≤ i + 1 ∧ i + 1 + m ≤ 10000 ∧ Post G W' C1 (lcL nx t tt te (wipeL l vs) m (i + 1) acc C2.S) (PhE G Q), fun H' h => ⟨m, Nat.lt_succ_self m, h⟩, fun x H' y => ?_⟩
        obtain ⟨C3, rfl, hS, ok3, x3, rv⟩ := h2 x H' y
        cases q2 : t w (wipeL l vs) C2.S with
        | none => simp only [q2] at p2; unfold Post at p2; exact p2.elim
        | some l3 =>
          simp only [q2] at p2
          have rC3 := (r1.mono ok1 x2).mono ok2 x3
          refine kk C3 (wipeL l vs) l3 (wipe σ vs) w x _ ok3 rC3 rv (by rw [hS]; exact q2) fun σ3 r3 tu => ?_
          refine ⟨by rw [turned_wipe tu hks, wipe_wipe], C3, l3, rfl, ok3, r3, ?_⟩
          have pb := Post.base (x2.trans x3) (Post.bnd0 p2)
          rw [hS]
          refine Post.mono (fun b C4 ok4 x4 p4 => ?_) (Post.unX pb)
          have s3 := x3.side hD2 nD2
          have s4 := x4.side s3.1 s3.2
          have ra4 := RWs.mono ok3 x4 _ (RWs.mono ok2 x3 _ ra)
          unfold PhT
          cases b with
          | false =>
            refine iteF ⟨C4, acc, av, rfl, ok4, (x2.trans x3).trans x4, s4.1, s4.2, ra4, by omega, by omega, p4⟩
          | true =>
            refine iteT ⟨C4, l3, rfl, ok4, r3.mono ok3 x4, ?_⟩
            have pb2 := Post.base ((x2.trans x3).trans x4) (Post.bnd0 p4)
            refine Post.mono (fun yw C5 ok5 x5 p5 yv ry => ?_) (Post.unX pb2)
            have s5 := x5.side s4.1 s4.2
            have ra5 := RWs.mono ok4 x5 _ ra4
            have x05 : Ext C1 C5 := ((x2.trans x3).trans x4).trans x5
            obtain ⟨ok6, x6, kw, kws⟩ := Cf.side (us := av ++ [yv]) ok5 x05 s5.1 s5.2 hD
            refine ⟨av, s5.1, ?_, ⟨C5.ρ, upd C5.H D (.lst (av ++ [yv])), C5.S⟩, yw :: acc, av ++ [yv], rfl, ok6, x6, upd_same, s5.2, ?_, by simp; omega, by omega, p5⟩
            · have := ra.length
              rw [List.length_reverse] at this
              rw [this, sizeLine_eq]; omega
            · exact RWs.reverse (kws _ _ ra5) (kw _ _ ry)
theorem se_lc {elt tg iter : Expr} {ifs : List Expr} {scope : Scope} {own : List (Str × Nat)} {ks : List Nat} {f : Evi} {t : Tg} {tt : Evt} {te : Evl} (hc : X.calm = true) (hN : X.N.Nodup) (hi : SI G X W' f tg iter) (ok : BlkOk X.N X.env.scope scope own)
    (g : TG) (hg : ∀ (s : Shared) (H : Hp) (C : Addr) (cl : List (Str × Addr)) (fp : List Addr), PG (X.blk s H scope (compEnvC scope cl C X.env) fp) tg g)
    (kk : ∀ (C : Cf) (l l1 : Lo) (σ : L2.St) (w : W) (v : V) (Q : L2.St → Hp → Prop), C.Ok G → RL G C l σ → RW G.K C.ρ C.H w v → t w l C.S = some l1 → (∀ σ1, RL G C l1 σ1 → Turned ks σ σ1 → Q σ1 C.H) → g v σ C.H Q)
    (ht : ∀ (s : Shared) (H : Hp) (C : Addr) (cl : List (Str × Addr)) (fp : List Addr), STs G (X.blk s H scope (compEnvC scope cl C X.env) fp) W0 tt ifs)
    (he : ∀ (s : Shared) (H : Hp) (C : Addr) (cl : List (Str × Addr)) (fp : List Addr), SE G (X.blk s H scope (compEnvC scope cl C X.env) fp) W0 te elt)
    (hks : ∀ k ∈ ks, k ∈ own.map (·.2)) (hs : ∀ x, foldedSetIterable iter X.env x = pure x := by intro _; rfl) : SE G X W' (evLc f t tt te (own.map (·.2))) (.ListComp elt [⟨tg, iter, ifs, 0⟩] scope pos) :=
  pe_imp (pe_lc hc hN hi ok hg ht he hs) fun σ H Q h => rd_lc kk hks h
/-- a target for a comprehension's block: its reading apart from the block -/
theorem kk_name (i : Nat) : ∀ (C : Cf) (l l1 : Lo) (σ : L2.St) (w : W) (v : V) (Q : L2.St → Hp → Prop), C.Ok G → RL G C l σ → RW G.K C.ρ C.H w v → tgName i w l C.S = some l1 → (∀ σ1, RL G C l1 σ1 → Turned [i] σ σ1 → Q σ1 C.H) → gName i v σ C.H Q := fun C l l1 σ w v Q ok r rv e k => by
  rw [tgName_eq] at e
  cases e
  refine k _ (r.set rv) ⟨by simp, fun j hj => ?_⟩
  rw [List.getElem?_set_ne (by intro z; subst z; simp at hj)]
end
end Ev

namespace Ev
open PySem PySem.Spec PyProof.Rows L2

/-! ### targets apart from the context -/
def KK (G : Glo) (ks : List Nat) (t : Tg) (g : TG) : Prop := ∀ (C : Cf) (l l1 : Lo) (σ : L2.St) (w : W) (v : V) (Q : L2.St → Hp → Prop), C.Ok G → RL G C l σ → RW G.K C.ρ C.H w v → t w l C.S = some l1 → (∀ σ1, RL G C l1 σ1 → Turned ks σ σ1 → Q σ1 C.H) → g v σ C.H Q
def KKs (G : Glo) (ks : List Nat) (t : Tgs) (g : TGs) : Prop := ∀ (C : Cf) (l l1 : Lo) (σ : L2.St) (ws : List W) (vs : List V) (Q : L2.St → Hp → Prop), C.Ok G → RL G C l σ → RWs G.K C.ρ C.H ws vs → t ws l C.S = some l1 → (∀ σ1, RL G C l1 σ1 → Turned ks σ σ1 → Q σ1 C.H) → g vs σ C.H Q
section
variable {G : Glo}
theorem kks_nil : KKs G [] tgNil gNil := fun C l l1 σ ws vs Q ok r rv e k => by
  cases ws with
  | nil =>
    cases e
    unfold RWs at rv
    subst rv
    exact ⟨rfl, k σ r ⟨rfl, fun _ _ => rfl⟩⟩
  | cons w ws => cases e
theorem kks_cons {ks ks' : List Nat} {t : Tg} {r : Tgs} {g1 : TG} {g2 : TGs} (k1 : KK G ks t g1) (k2 : KKs G ks' r g2) : KKs G (ks ++ ks') (tgCons t r) (gCons g1 g2) := fun C l l1 σ ws vs Q ok rl rv e k => by
  cases ws with
  | nil => cases e
  | cons w ws =>
    unfold RWs at rv
    obtain ⟨v, vr, rfl, rv1, rv2⟩ := rv
    cases q : t w l C.S with
    | none => simp only [tgCons, q] at e; cases e
    | some l0 =>
      simp only [tgCons, q] at e
      refine ⟨v, vr, rfl, k1 C l l0 σ w v _ ok rl rv1 q fun σ1 rl1 tu1 => ?_⟩
      refine k2 C l0 l1 σ1 ws vr Q ok rl1 rv2 e fun σ2 rl2 tu2 => k σ2 rl2 ⟨by rw [tu2.1, tu1.1], fun j hj => ?_⟩
      simp only [List.mem_append, not_or] at hj
      rw [tu2.2 j hj.2, tu1.2 j hj.1]
theorem kk_tup {ks : List Nat} {r : Tgs} {g : TGs} {n : Nat} {K : PySem.W.Frag} (hk : K = G.K) (k1 : KKs G ks r g) : KK G ks (tgTup n r) (gTup K n g) := fun C l l1 σ w v Q ok rl rv e kk => by
  subst hk
  unfold tgTup at e
  split at e
  · rename_i ws
    unfold RW at rv
    obtain ⟨a, vs, rfl, h1, h2⟩ := rv
    cases q : Nat.beq ws.length n with
    | false => simp only [q] at e; cases e
    | true =>
      simp only [q] at e
      exact ⟨a, vs, rfl, h1, by rw [h2.length]; exact Nat.eq_of_beq_eq_true q, k1 C l l1 σ ws vs Q ok rl h2 e kk⟩
  · cases e
end

/-! ### calls of the program's own defs -/
noncomputable def relo {α : Type} (l : Lo) (m : Res α) : Res α := Res.rec (motive := fun _ => Res α) (fun a S => .ok a S) (fun c x _ S => .exc c x l S) (fun n _ ih => .pick n ih) .stuck m
mutual
def pureW : W → Bool
  | .k _ => true
  | .tup xs => pureWs xs
  | .obj _ => false
  | .mix _ => false
  | .pt _ => false
def pureWs : List W → Bool
  | [] => true
  | w :: ws => match pureW w with
    | true => pureWs ws
    | false => false
end
/-- behind a call that began with a bare heap: what stood before stands again -/
noncomputable def hapK (S : FH) (m : List (Nat × HV)) {α : Type} (k : FH → α) : α := FH.rec (motive := fun _ => α) (fun n l => List.rec (motive := fun _ => (List (Nat × HV) → α) → α) (fun k => k m) (fun x _ ih k => ih fun r => k (x :: r)) l fun l' => k ⟨n, l'⟩) S
theorem hapK_eq (S : FH) (m : List (Nat × HV)) {α : Type} (k : FH → α) : hapK S m k = k ⟨S.n, S.l ++ m⟩ := by
  cases S with
  | mk n l =>
    have : ∀ (l : List (Nat × HV)) (k : List (Nat × HV) → α), (List.rec (motive := fun _ => (List (Nat × HV) → α) → α) (fun k => k m) (fun x _ ih k => ih fun r => k (x :: r)) l k : α) = k (l ++ m) := by
      intro l
      induction l with
      | nil => intro k; rfl
      | cons x r ih => intro k; exact ih fun r => k (x :: r)
    exact this l fun l' => k ⟨n, l'⟩
noncomputable def back {S : FH} {α : Type} (pr : α → Bool) (m : Res α) : Res α := Res.rec (motive := fun _ => Res α)
  (fun a S' => match pr a with
    | true => .ok a S
    | false => hapK S' S.l fun S1 => .ok a S1)
  (fun c x _ S' => match pureW x with
    | true => .exc c x [] S
    | false => hapK S' S.l fun S1 => .exc c x [] S1)
  (fun n _ ih => .pick n ih) .stuck m
abbrev Fn := List W → FH → Res W
noncomputable def callF (F : Fn) (ws : List W) (S : FH) : Res W := match pureWs ws with
  | true => back (S := S) pureW (F ws S.bare)
  | false => F ws S
section
variable {G : Glo} {W' : WX} {α : Type}
mutual
theorem pure_mono {K : PySem.W.Frag} {ρ ρ' : List Addr} {H H' : Hp} (t : ∀ {a : Addr} {vs : List V}, SqT K H a vs → SqT K H' a vs) : ∀ (w : W) {v : V}, pureW w = true → RW K ρ H w v → RW K ρ' H' w v
  | .k _, v, _, h => by unfold RW at h ⊢; exact h
  | .tup xs, v, p, h => by
    unfold RW at h ⊢
    unfold pureW at p
    obtain ⟨a, vs, e, h1, h2⟩ := h
    exact ⟨a, vs, e, t h1, pures_mono t xs p h2⟩
  | .obj i, v, p, h => by unfold pureW at p; cases p
  | .mix i, v, p, h => by unfold pureW at p; cases p
  | .pt i, v, p, h => by unfold pureW at p; cases p
theorem pures_mono {K : PySem.W.Frag} {ρ ρ' : List Addr} {H H' : Hp} (t : ∀ {a : Addr} {vs : List V}, SqT K H a vs → SqT K H' a vs) : ∀ (ws : List W) {vs : List V}, pureWs ws = true → RWs K ρ H ws vs → RWs K ρ' H' ws vs
  | [], vs, _, h => by unfold RWs at h ⊢; exact h
  | w :: ws, vs, p, h => by
    unfold RWs at h ⊢
    unfold pureWs at p
    obtain ⟨v, r, e, h1, h2⟩ := h
    cases q : pureW w with
    | false => simp only [q] at p; cases p
    | true =>
      simp only [q] at p
      exact ⟨v, r, e, pure_mono t w q h1, pures_mono t ws p h2⟩
end
/-- the configuration with nothing of ours in it -/
theorem Cf.bare_ok {C : Cf} (ok : C.Ok G) : (Cf.mk C.ρ C.H C.S.bare).Ok G := ⟨ok.len, ok.nd, ok.lv, fun i v h => nomatch h⟩
theorem lookA_app : ∀ (l l' : List (Nat × HV)) (i : Nat), lookA (l ++ l') i = match lookA l i with | some v => some v | none => lookA l' i
  | [], l', i => rfl
  | p :: r, l', i => by
    have ih := lookA_app r l' i
    show lookA (p :: (r ++ l')) i = match lookA (p :: r) i with | some v => some v | none => lookA l' i
    have e1 : ∀ t, lookA (p :: t) i = match Nat.beq p.1 i with | true => some p.2 | false => lookA t i := fun _ => rfl
    rw [e1, e1]
    cases h : Nat.beq p.1 i with
    | true => rfl
    | false => exact ih
/-- behind the call: D, reached from the bare configuration; the old one again -/
theorem Cf.again {C D : Cf} (ok : C.Ok G) (okD : D.Ok G) (x : Ext ⟨C.ρ, C.H, C.S.bare⟩ D) : (Cf.mk C.ρ D.H C.S).Ok G ∧ Ext C ⟨C.ρ, D.H, C.S⟩ :=
  Cf.beside ok fun a o h => x.keep a o h fun i v q => nomatch q
theorem Cf.both {C D : Cf} (ok : C.Ok G) (okD : D.Ok G) (x : Ext ⟨C.ρ, C.H, C.S.bare⟩ D) : (Cf.mk D.ρ D.H ⟨D.S.n, D.S.l ++ C.S.l⟩).Ok G ∧ Ext C ⟨D.ρ, D.H, ⟨D.S.n, D.S.l ++ C.S.l⟩⟩ := by
  have keepAll : ∀ a o, C.H a = some o → D.H a = some o := fun a o h => x.keep a o h fun i v q => nomatch q
  have gett : ∀ (i : Nat) (v : HV), (FH.mk D.S.n (D.S.l ++ C.S.l)).get i = some v → D.S.get i = some v ∨ C.S.get i = some v := fun i v h => by
    have h' : lookA (D.S.l ++ C.S.l) i = some v := h
    rw [lookA_app] at h'
    cases q : lookA D.S.l i with
    | none => rw [q] at h'; exact .inr h'
    | some u => rw [q] at h'; exact .inl (by show lookA D.S.l i = some v; rw [q]; exact h')
  have x' : Ext C ⟨D.ρ, D.H, ⟨D.S.n, D.S.l ++ C.S.l⟩⟩ := {
    pre := x.pre
    keep := fun a o h _ => keepAll a o h
    live := x.live
    frz := x.frz
    new1 := fun i v h1 h2 => by
      rcases gett i v h1 with h | h
      · obtain ⟨v0, q⟩ := x.new1 i v h h2
        exact nomatch q
      · exact ⟨v, h⟩
    new2 := x.new2 }
  refine ⟨⟨okD.len, okD.nd, okD.lv, fun i v h => ?_⟩, x'⟩
  rcases gett i v h with h | h
  · exact okD.ob i v h
  · obtain ⟨a, o, h1, h2, h3⟩ := ok.ob i v h
    exact ⟨a, o, x.pre i a h1, keepAll a o h2, RO.mono ok x' h3⟩
theorem rx_of {C D : Cf} {c : Nat} {x : W} {cls : Value} {d : Option Addr} (h : RX G C c x cls d) (e : D.H = C.H) (k : ∀ v, RW G.K C.ρ C.H x v → RW G.K D.ρ D.H x v) : RX G D c x cls d := by
  refine ⟨h.1, ?_⟩
  have h2 := h.2
  cases q : G.cfl c with
  | none => simp only [q] at h2 ⊢; exact h2
  | some f =>
    simp only [q] at h2 ⊢
    obtain ⟨dd, v, h3, h4, h5⟩ := h2
    exact ⟨dd, v, h3, by rw [e]; exact h4, k v h5⟩
theorem rl_nil {C : Cf} : RL G C [] [] := ⟨rfl, fun i w h => by simp at h⟩
abbrev WE' (E : XK) : WX := fun cls d _ H => E cls d H
theorem post_back {C : Cf} (ok : C.Ok G) {E : XK} {Q : VK} : ∀ {m : Res W}, Post G (WE' E) C (back (S := C.S) pureW m) (PhE G Q) → Post G (WE' E) ⟨C.ρ, C.H, C.S.bare⟩ m (PhE G Q)
  | .ok a S', h => by
    dsimp only [back] at h
    unfold Post
    intro D hD okD x v rv
    have tup : ∀ {a : Addr} {vs : List V}, SqT G.K D.H a vs → SqT G.K D.H a vs := fun h => h
    cases q : pureW a with
    | true =>
      simp only [q] at h
      unfold Post at h
      obtain ⟨ok', x'⟩ := Cf.again ok okD x
      exact h ⟨C.ρ, D.H, C.S⟩ rfl ok' x' v (pure_mono tup a q rv)
    | false =>
      simp only [q, hapK_eq] at h
      unfold Post at h
      obtain ⟨ok', x'⟩ := Cf.both ok okD x
      exact h ⟨D.ρ, D.H, ⟨D.S.n, D.S.l ++ C.S.l⟩⟩ (by rw [hD]) ok' x' v rv
  | .exc c w l S', h => by
    dsimp only [back] at h
    unfold Post
    intro D cls d σ' hD okD x hx hl
    have tup : ∀ {a : Addr} {vs : List V}, SqT G.K D.H a vs → SqT G.K D.H a vs := fun h => h
    cases q : pureW w with
    | true =>
      simp only [q] at h
      unfold Post at h
      obtain ⟨ok', x'⟩ := Cf.again ok okD x
      exact h ⟨C.ρ, D.H, C.S⟩ cls d [] rfl ok' x' (rx_of hx rfl fun v r => pure_mono tup w q r) rl_nil
    | false =>
      simp only [q, hapK_eq] at h
      unfold Post at h
      obtain ⟨ok', x'⟩ := Cf.both ok okD x
      exact h ⟨D.ρ, D.H, ⟨D.S.n, D.S.l ++ C.S.l⟩⟩ cls d [] (by rw [hD]) ok' x' (rx_of hx rfl fun v r => r) rl_nil
  | .pick n f, h => by
    dsimp only [back] at h
    unfold Post at h ⊢
    exact fun r hr => post_back ok (h r hr)
  | .stuck, h => by
    dsimp only [back] at h
    unfold Post at h
    exact h.elim
theorem post_relo {C : Cf} (ok : C.Ok G) {l : Lo} {σ : L2.St} (r : RL G C l σ) {Φ : α → Cf → Prop} : ∀ {m : Res α}, Post G W' C (relo l m) Φ → Post G (WE' fun cls d H => W' cls d σ H) C m Φ
  | .ok a S, h => by
    dsimp only [relo] at h
    unfold Post at h ⊢
    exact h
  | .exc c w l' S, h => by
    dsimp only [relo] at h
    unfold Post at h ⊢
    exact fun D cls d σ' hD okD x hx _ => h D cls d σ hD okD x hx (r.mono ok x)
  | .pick n f, h => by
    dsimp only [relo] at h
    unfold Post at h ⊢
    exact fun i hi => post_relo ok r (h i hi)
  | .stuck, h => by
    dsimp only [relo] at h
    unfold Post at h
    exact h.elim
/-- what a def promises: what the reckoner gives -/
def spF (G : Glo) (F : Fn) (n : Nat) : Sp := fun vs H Q E => vs.length = n ∧ ∃ (C : Cf) (ws : List W), C.H = H ∧ C.Ok G ∧ RWs G.K C.ρ C.H ws vs ∧ Post G (WE' E) C (F ws C.S) (PhE G Q)
theorem sp_of {C : Cf} (ok : C.Ok G) {F : Fn} {l : Lo} {σ : L2.St} {ws : List W} {vs : List V} {n : Nat} {Q : VK} (r : RL G C l σ) (rv : RWs G.K C.ρ C.H ws vs) (hn : vs.length = n) (p : Post G W' C (relo l (callF F ws C.S)) (PhE G Q)) :
    spF G F n vs C.H Q fun cls d H => W' cls d σ H := by
  refine ⟨hn, ?_⟩
  have p1 := post_relo ok r p
  unfold callF at p1
  cases q : pureWs ws with
  | true =>
    simp only [q] at p1
    refine ⟨⟨C.ρ, C.H, C.S.bare⟩, ws, rfl, Cf.bare_ok ok, rv, post_back ok p1⟩
  | false =>
    simp only [q] at p1
    exact ⟨C, ws, rfl, ok, rv, p1⟩
end
/-- a def's body, reckoned -/
noncomputable def nonesK {α : Type} (n : Nat) (k : Lo → α) : α := Nat.rec (motive := fun _ => (Lo → α) → α) (fun k => k []) (fun _ ih k => ih fun r => k (none :: r)) n k
theorem nonesK_eq {α : Type} : ∀ (n : Nat) (k : Lo → α), nonesK n k = k (List.replicate n none)
  | 0, k => rfl
  | n + 1, k => nonesK_eq n fun r => k (none :: r)
noncomputable def someK {α : Type} (ws : List W) (m : Lo) (k : Lo → α) : α := List.rec (motive := fun _ => (Lo → α) → α) (fun k => k m) (fun w _ ih k => ih fun r => k (some w :: r)) ws k
theorem someK_eq {α : Type} {m : Lo} : ∀ (ws : List W) (k : Lo → α), someK ws m k = k (ws.map some ++ m)
  | [], k => rfl
  | w :: ws, k => someK_eq ws fun r => k (some w :: r)
noncomputable def startK {α : Type} (ws : List W) (n : Nat) (k : Lo → α) : α := nonesK (n - ws.length) fun m => someK ws m k
theorem startK_eq {α : Type} (ws : List W) (n : Nat) (k : Lo → α) : startK ws n k = k (ws.map some ++ List.replicate (n - ws.length) none) := by
  unfold startK
  rw [nonesK_eq, someK_eq]
noncomputable def evFun (body : Evs) (n : Nat) : Fn := fun ws S => startK ws n fun l => (body l S).bnd fun r S1 => match r with
  | .rt w => .ok w S1
  | .nx _ => .ok (.k .non) S1
  | .bk _ => .stuck
  | .ct _ => .stuck
theorem rl_start {G : Glo} {C : Cf} {N : List Str} {ws : List W} {vs : List V} (r : RWs G.K C.ρ C.H ws vs) : RL G C (ws.map some ++ List.replicate (N.length - ws.length) none) (L2.start N vs) := by
  have hl := r.length
  refine ⟨by unfold L2.start; simp [hl], fun i w h => ?_⟩
  by_cases hi : i < ws.length
  · rw [List.getElem?_append_left (by simpa using hi), List.getElem?_map] at h
    cases q : ws[i]? with
    | none => rw [q] at h; cases h
    | some u =>
      rw [q] at h
      cases h
      obtain ⟨v, h1, h2⟩ := r.get q
      refine ⟨v, ?_, h2⟩
      unfold L2.start
      rw [List.getElem?_append_left (by rw [List.length_map, hl]; exact hi), List.getElem?_map, h1]
      rfl
  · rw [List.getElem?_append_right (by simpa using hi), List.getElem?_replicate] at h
    split at h <;> cases h
section
variable {P : Program} {w : World} {mg : Str → Option Value} {base : Heap} {G : Glo}
abbrev cxB (P : Program) (w : World) (K : PySem.W.Frag) (mg : Str → Option Value) (base : Heap) (N : List Str) (qual : Str) (scope : Scope) (f : Addr) (cd : Value) (A : Around) (outer : List Env) (s : Shared) (H : Hp) (E : XK) : Cx := cxOf (L2.CX P w) P w K mg base N qual scope f cd A outer s H E
theorem fn_ok {x qual : Str} {st : Stmt} {f : Addr} {fd : FuncData} {N ps : List Str} {k : Nat} (F : Fun G.K x qual st f fd) (Sc : FnScope N ps (defScope st)) (body : Evs)
    (hb : ∀ (cdv : Value) (A : Around) (outer : List Env) (s : Shared) (H : Hp) (E : XK), Room k (A.deeper (envOfC qual (defScope st) s.heap.objs.size f cdv)) → SSs G (cxB P w G.K mg base N qual (defScope st) f cdv A outer s H E) (WE' E) body (defBody st)) :
    FnOk P w G.K mg base (L2.CX P w) (k + 1) f fd ps (spF G (evFun body N.length) ps.length) := by
  refine F.okX Sc (fun vs H Q E h => h.1) (fun cdv A outer s H vs Q E hr h => ?_)
  obtain ⟨hn, C, ws, rfl, ok, rv, p⟩ := h
  unfold evFun at p
  rw [startK_eq] at p
  refine ⟨_, hb cdv A outer s C.H E hr, C, _, rfl, ok, rl_start rv, Post.mono (fun fl C1 ok1 x1 p1 => ?_) (Post.bnd (k := fun r S1 => match r with
    | .rt w => .ok w S1
    | .nx _ => .ok (.k .non) S1
    | .bk _ => .stuck
    | .ct _ => .stuck) p)⟩
  cases fl with
  | nx l => exact fun σ _ => (Post.now ok1 p1) .non (by unfold RW; rfl)
  | rt w => exact fun v rv => (Post.now ok1 p1) v rv
  | bk l => unfold Post at p1; exact p1.elim
  | ct l => unfold Post at p1; exact p1.elim
end
section
variable {G : Glo} {X : Cx} {W' : WX} {k : Nat} {f : Addr} {fd : FuncData} {ps : List Str} {x : Str} {p pos : Pos} {e : Expr} {es : List Expr} {F : Fn} {fa : Eva}
/-- f() -/
theorem pe_callS0 {CX : CXT} {sp : Sp} {E : L2.St → XK} (Fk : FnOk X.prog X.w X.K X.mg X.base CX k f fd ps sp) (hr : Room k X.A) (hg : Gl X x) (hm : X.mg x = some (.ref f)) (hk : PySem.W.keepIn X.K (.ref f) = true) (hb : Binds X.K fd ps []) (hx : ∀ σ, PassesAt CX X σ (E σ))
    (hdb : (x == ("__debug__" : Str)) = false := by decide) : PE X (.Call (.Name x p) [] [] pos) (fun σ H Q => sp [] H Q (E σ)) := by
  refine ⟨fun pins s σ H Q I h => ?_⟩
  refine wpAny_Call_Name_kw (ld_glob I hg hm ?_ hdb)
  exact PySem.W.callWith_K0 I.kIn hk (run_fnSD (us := []) (dvs := []) (ds := []) Fk hr hb .nil (hx σ) I .nil h)
end
end Ev

namespace Ev
open PySem PySem.Spec PyProof.Rows L2

structure Okx (G : Glo) (X : Cx) : Prop where
  k : X.K = G.K
  calm : X.calm = true
  un : X.A.units + 65 < cLine
  pr : X.prog = G.P := by first | rfl | assumption
  wo : X.w = G.w := by first | rfl | assumption
/-- an operation, reckoned by g -/
def OpX (G : Glo) (X : Cx) (f : Value → Value → Sem Value) (g : Op2) : Prop := ∃ r, OpR X f r ∧ OpS G r g
section
variable {G : Glo} {X : Cx} {W' : WX} {pos : Pos}
theorem se_bop {op : Operator} {g : Op2} {fa fb : Evl} {a b : Expr} (h : OpX G X (binaryOp op) g) (ha : SE G X W' fa a) (hb : SE G X W' fb b) : SE G X W' (evBin g fa fb) (.BinOp a op b pos) := by
  obtain ⟨r, h1, h2⟩ := h
  exact se_bin h1 h2 ha hb
theorem se_cop {op : CmpOp} {g : Op2} {fa fb : Evl} {a b : Expr} (h : OpX G X (compareOp op) g) (ha : SE G X W' fa a) (hb : SE G X W' fb b) (hm : behindInMarks op b = false) : SE G X W' (evBin g fa fb) (.Compare a [op] [b] pos) := by
  obtain ⟨r, h1, h2⟩ := h
  exact se_cmp h1 h2 ha hb hm
theorem st_cop {op : CmpOp} {g : Op2} {fa fb : Evl} {a b : Expr} (h : OpX G X (compareOp op) g) (ha : SE G X W' fa a) (hb : SE G X W' fb b) (hm : behindInMarks op b = false) : ST G X W' (etBin g fa fb) (.Compare a [op] [b] pos) := by
  obtain ⟨r, h1, h2⟩ := h
  exact st_cmp h1 h2 ha hb hm
theorem se_cch {op op' : CmpOp} {g g' : Op2} {fa fb fc : Evl} {a b c : Expr} (h : OpX G X (compareOp op) g) (h' : OpX G X (compareOp op') g') (ha : SE G X W' fa a) (hb : SE G X W' fb b) (hc : SE G X W' fc c)
    (hm : lastMarks [op, op'] [b, c] = false := by with_unfolding_all rfl) : SE G X W' (evChain g g' fa fb fc) (.Compare a [op, op'] [b, c] pos) := by
  obtain ⟨r, h1, h2⟩ := h
  obtain ⟨r', h1', h2'⟩ := h'
  exact se_chain h1 h1' h2 h2' ha hb hc hm
theorem st_cch {op op' : CmpOp} {g g' : Op2} {fa fb fc : Evl} {a b c : Expr} (h : OpX G X (compareOp op) g) (h' : OpX G X (compareOp op') g') (ha : SE G X W' fa a) (hb : SE G X W' fb b) (hc : SE G X W' fc c)
    (hm : lastMarks [op, op'] [b, c] = false := by with_unfolding_all rfl) : ST G X W' (etChain g g' fa fb fc) (.Compare a [op, op'] [b, c] pos) := by
  obtain ⟨r, h1, h2⟩ := h
  obtain ⟨r', h1', h2'⟩ := h'
  exact st_chain h1 h1' h2 h2' ha hb hc hm
theorem opr_or {f : Value → Value → Sem Value} {r1 r2 : R2} (h1 : OpR X f r1) (h2 : OpR X f r2) : OpR X f (fun x y H Q => r1 x y H Q ∨ r2 x y H Q) := fun pins s σ H x y v u Q I rx ry h => by
  rcases h with h | h
  · exact h1 pins s σ H x y v u Q I rx ry h
  · exact h2 pins s σ H x y v u Q I rx ry h
theorem post_stuck {α : Type} {C : Cf} {Φ : α → Cf → Prop} {P : Prop} (p : Post G W' C .stuck Φ) : P := by
  unfold Post at p
  exact p.elim
end

/-! ### ints -/
noncomputable def kint {α : Type} (w : W) (z : α) (k : Int → α) : α := W.casesOn (motive_1 := fun _ => α) w (fun v => V.rec (motive := fun _ => α) z (fun _ => z) k (fun _ => z) (fun _ => z) (fun _ => z) (fun _ => z) (fun _ => z) v) (fun _ => z) (fun _ => z) (fun _ => z) (fun _ => z)
theorem post_kint {G : Glo} {W' : WX} {β : Type} {C : Cf} {w : W} {k : Int → Res β} {Φ : β → Cf → Prop} (p : Post G W' C (kint w .stuck k) Φ) : ∃ i, w = W.k (.int i) ∧ Post G W' C (k i) Φ := by
  cases w with
  | k v => cases v <;> first | exact ⟨_, rfl, p⟩ | exact post_stuck p
  | tup xs => exact post_stuck p
  | mix _ => (first | exact post_stuck (by assumption) | exact .inl (by assumption) | (exfalso; contradiction) | (unfold nkey at *; contradiction) | (unfold RW at *; simp_all; done) | (simp_all; done))
  | pt _ => (first | exact post_stuck (by assumption) | exact .inl (by assumption) | (exfalso; contradiction) | (unfold nkey at *; contradiction) | (unfold RW at *; simp_all; done) | (simp_all; done))
  | obj i => exact post_stuck p
def iLt (a b : Int) : Bool := match a with
  | .ofNat m => match b with
    | .ofNat n => Nat.blt m n
    | .negSucc _ => false
  | .negSucc m => match b with
    | .ofNat _ => true
    | .negSucc n => Nat.blt n m
theorem blt_dec (m n : Nat) : Nat.blt m n = decide (m < n) := by
  cases h : Nat.blt m n with
  | true =>
    have : m < n := Nat.le_of_ble_eq_true h
    rw [decide_eq_true this]
  | false =>
    have : ¬ m < n := fun z => by
      have : Nat.blt m n = true := Nat.ble_eq_true_of_le z
      rw [this] at h; cases h
    rw [decide_eq_false this]
theorem ble_dec (m n : Nat) : Nat.ble m n = decide (m ≤ n) := by
  cases h : Nat.ble m n with
  | true => rw [decide_eq_true (Nat.le_of_ble_eq_true h)]
  | false =>
    have : ¬ m ≤ n := fun z => by
      rw [Nat.ble_eq_true_of_le z] at h; cases h
    rw [decide_eq_false this]
theorem iLt_eq (a b : Int) : iLt a b = decide (a < b) := by
  cases a <;> cases b <;> unfold iLt <;> simp only [blt_dec] <;> rw [eq_comm]
  · rename_i m n
    rw [decide_eq_decide]
    show ((m : Int) < (n : Int)) ↔ _
    omega
  · rename_i m n
    rw [decide_eq_false]
    show ¬ ((m : Int) < Int.negSucc n)
    omega
  · rename_i m n
    rw [decide_eq_true]
    show (Int.negSucc m < (n : Int))
    omega
  · rename_i m n
    rw [decide_eq_decide]
    omega
def iEq (a b : Int) : Bool := match a with
  | .ofNat m => match b with
    | .ofNat n => Nat.beq m n
    | .negSucc _ => false
  | .negSucc m => match b with
    | .ofNat _ => false
    | .negSucc n => Nat.beq m n
theorem iEq_eq (a b : Int) : iEq a b = decide (a = b) := by
  cases a <;> cases b <;> unfold iEq <;> simp [beq_dec] <;> omega
def iNeg (a : Int) : Int := match a with
  | .ofNat n => match n with
    | 0 => .ofNat 0
    | m + 1 => .negSucc m
  | .negSucc n => .ofNat (n + 1)
theorem iNeg_eq (a : Int) : iNeg a = -a := by
  cases a with
  | ofNat n => cases n <;> rfl
  | negSucc n => rfl
def iPos (a : Int) : Bool := match a with
  | .ofNat n => match n with
    | 0 => false
    | _ + 1 => true
  | .negSucc _ => false
theorem iPos_of {a : Int} (h : iPos a = true) : 0 < a := by
  cases a with
  | ofNat n => cases n with
    | zero => cases h
    | succ m => show (0 : Int) < ((m + 1 : Nat) : Int); omega
  | negSucc n => cases h
section
variable {G : Glo} {X : Cx}
theorem rw_int {K : PySem.W.Frag} {ρ : List Addr} {H : Hp} {i : Int} {v : V} (h : RW K ρ H (.k (.int i)) v) : v = .int i := by unfold RW at h; exact h
theorem rw_k {K : PySem.W.Frag} {ρ : List Addr} {H : Hp} {x v : V} (h : RW K ρ H (.k x) v) : v = x := by unfold RW at h; exact h
theorem mk_k {K : PySem.W.Frag} {ρ : List Addr} {H : Hp} {x : V} : RW K ρ H (.k x) x := by unfold RW; rfl
/-- ints to ints, under a check -/
noncomputable def g2I (c : Int → Int → Bool) (f : Int → Int → Int) : Op2 := fun a b S => kint a .stuck fun x => kint b .stuck fun y => match c x y with
  | true => fInt (f x y) fun r => .ok (.k (.int r)) S
  | false => .stuck
theorem ops_2I {c : Int → Int → Bool} {f : Int → Int → Int} {Cd : Int → Int → Prop} {h : Int → Int → V} (hc : ∀ i j, c i j = true → Cd i j) (hf : ∀ i j, c i j = true → h i j = .int (f i j)) : OpS G (rI Cd h) (g2I c f) := fun W' C a b x y Q ok ra rb p => by
  obtain ⟨i, ea, p1⟩ := post_kint (k := fun x => kint b .stuck fun y => match c x y with
    | true => fInt (f x y) fun r => Res.ok (W.k (V.int r)) C.S
    | false => .stuck) p
  obtain ⟨j, eb, p2⟩ := post_kint p1
  rw [ea] at ra
  rw [eb] at rb
  cases q : c i j with
  | false => simp only [q] at p2; exact post_stuck p2
  | true =>
    simp only [q, fInt_eq] at p2
    exact ⟨i, j, rw_int ra, rw_int rb, hc i j q, by rw [hf i j q]; exact Post.now ok p2 _ mk_k⟩
theorem ops_2I0 {f : Int → Int → Int} {h : Int → Int → V} (hf : ∀ i j, h i j = .int (f i j)) : OpS G (rI0 h) (g2I (fun _ _ => true) f) := fun W' C a b x y Q ok ra rb p => by
  obtain ⟨i, j, h1, h2, _, h3⟩ := ops_2I (Cd := fun _ _ => True) (h := h) (fun _ _ _ => trivial) (fun i j _ => hf i j) W' C a b x y Q ok ra rb p
  exact ⟨i, j, h1, h2, h3⟩
noncomputable def g2B (f : Int → Int → Bool) : Op2 := fun a b S => kint a .stuck fun x => kint b .stuck fun y => fBool (f x y) fun r => .ok (.k (.bl r)) S
theorem ops_2B {f : Int → Int → Bool} {h : Int → Int → V} (hf : ∀ i j, h i j = .bl (f i j)) : OpS G (rI0 h) (g2B f) := fun W' C a b x y Q ok ra rb p => by
  obtain ⟨i, ea, p1⟩ := post_kint (k := fun x => kint b .stuck fun y => fBool (f x y) fun r => Res.ok (W.k (V.bl r)) C.S) p
  obtain ⟨j, eb, p2⟩ := post_kint p1
  rw [ea] at ra
  rw [eb] at rb
  rw [fBool_eq] at p2
  exact ⟨i, j, rw_int ra, rw_int rb, by rw [hf i j]; exact Post.now ok p2 _ mk_k⟩
noncomputable def gLt : Op2 := g2B iLt
noncomputable def gGt : Op2 := g2B fun i j => iLt j i
noncomputable def gLe : Op2 := g2B fun i j => !(iLt j i)
noncomputable def gGe : Op2 := g2B fun i j => !(iLt i j)
theorem ox_lt : OpX G X (compareOp .Lt) gLt := ⟨_, op_lt, ops_2B fun i j => by rw [iLt_eq]⟩
theorem ox_gt : OpX G X (compareOp .Gt) gGt := ⟨_, op_gt, ops_2B fun i j => by rw [iLt_eq]⟩
theorem not_dec {i j : Int} : decide (i ≤ j) = !(decide (j < i)) := by
  by_cases h : j < i
  · rw [decide_eq_true h, decide_eq_false (by omega)]; rfl
  · rw [decide_eq_false h, decide_eq_true (by omega)]; rfl
theorem ox_le : OpX G X (compareOp .LtE) gLe := ⟨_, op_le, ops_2B fun i j => by rw [iLt_eq, not_dec]⟩
theorem ox_ge : OpX G X (compareOp .GtE) gGe := ⟨_, op_ge, ops_2B fun i j => by rw [iLt_eq, not_dec]⟩
/-! − of ints and of bools -/
noncomputable def gMod : Op2 := g2I (fun _ j => iPos j) Int.emod
theorem ox_mod : OpX G X (binaryOp .Mod) gMod := ⟨_, op_mod, ops_2I (fun _ _ h => iPos_of h) fun _ _ _ => rfl⟩
def divC (j : Int) : Bool := match j with
  | .ofNat n => match n with
    | 0 => false
    | m + 1 => Nat.blt (Nat.log2 (m + 1)) 9000
  | .negSucc n => Nat.blt n 1000000000
noncomputable def divF (i j : Int) : Int := match j with
  | .ofNat n => Int.ediv i (.ofNat n)
  | .negSucc n => Int.fdiv i (.negSucc n)
def rDivA : R2 := fun x y H Q => rI CDivW (fun i j => .int (i / j)) x y H Q ∨ rI CDivN (fun i j => .int (i.fdiv j)) x y H Q
noncomputable def gDiv : Op2 := g2I (fun _ j => divC j) divF
theorem ox_div : OpX G X (binaryOp .FloorDiv) gDiv := ⟨rDivA, opr_or op_fdivW op_fdivN, fun W' C a b x y Q ok ra rb p => by
  obtain ⟨i, j, h1, h2, h3, h4⟩ := ops_2I (Cd := fun i j => divC j = true) (h := fun i j => .int (divF i j)) (fun _ _ h => h) (fun i j _ => rfl) W' C a b x y Q ok ra rb p
  cases j with
  | ofNat n =>
    refine .inl ⟨i, .ofNat n, h1, h2, ?_, h4⟩
    cases n with
    | zero => cases h3
    | succ m =>
      refine ⟨by show (0 : Int) < ((m + 1 : Nat) : Int); omega, ?_⟩
      have : Nat.blt (Nat.log2 (m + 1)) 9000 = true := h3
      exact Nat.le_of_ble_eq_true this
  | negSucc n =>
    refine .inr ⟨i, .negSucc n, h1, h2, ⟨(by intro z; cases z), ?_⟩, h4⟩
    have h5 : Nat.blt n 1000000000 = true := h3
    have h6 : n < 1000000000 := Nat.le_of_ble_eq_true h5
    show n + 1 < 1073741824
    omega⟩
end

/-! ### + - * of all kinds -/
noncomputable def kobj {α : Type} (i : Nat) (S : FH) (k : List W → Res α) : Res α := match S.get i with
  | some (.lst xs) => k xs
  | _ => .stuck
section
variable {G : Glo} {X : Cx}
theorem post_kobj {W' : WX} {α : Type} {C : Cf} (ok : C.Ok G) {i : Nat} {k : List W → Res α} {Φ : α → Cf → Prop} (p : Post G W' C (kobj i C.S k) Φ) :
    ∃ xs a vs, C.S.get i = some (.lst xs) ∧ C.ρ[i]? = some a ∧ C.H a = some (.lst vs) ∧ RWs G.K C.ρ C.H xs vs ∧ Post G W' C (k xs) Φ := by
  unfold kobj at p
  split at p
  · rename_i xs h
    obtain ⟨a, vs, h1, h2, h3⟩ := Cf.lstAt ok h
    exact ⟨xs, a, vs, h, h1, h2, h3, p⟩
  · exact post_stuck p
noncomputable def gAdd : Op2 := fun a b S => match a with
  | .tup xs => match b with
    | .tup ys => match xs with
      | [] => match short ys with
        | true => .ok b S
        | false => .stuck
      | _ :: _ => match ys with
        | [] => match short xs with
          | true => .ok a S
          | false => .stuck
        | _ :: _ => appK xs ys fun zs => match short zs with
          | true => .ok (.tup zs) S
          | false => .stuck
    | _ => .stuck
  | .obj i => match b with
    | .obj j => kobj i S fun xs => kobj j S fun ys => appK xs ys fun zs => match short zs with
      | true => newK S (.lst zs) fun n S1 => .ok (.obj n) S1
      | false => .stuck
    | _ => .stuck
  | .k _ => g2I (fun _ _ => true) Int.add a b S
  | .mix _ => .stuck
  | .pt _ => .stuck
def rAddA (K : PySem.W.Frag) : R2 := fun x y H Q => (rI0 (fun i j => .int (i + j)) x y H Q ∨ rCatA K x y H Q) ∨ rCat x y H Q
theorem ox_add (hx : Okx G X) : OpX G X (binaryOp .Add) gAdd := ⟨rAddA G.K, by rw [← hx.k]; exact opr_or (opr_or op_add op_catA) op_cat, fun W' C a b x y Q ok ra rb p => by
  unfold gAdd at p
  cases a with
  | k v => exact .inl (.inl (ops_2I0 (fun _ _ => rfl) W' C (.k v) b x y Q ok ra rb p))
  | tup xs =>
    refine .inl (.inr ?_)
    cases b with
    | k v => exact post_stuck p
    | mix _ => (first | exact post_stuck (by assumption) | exact .inl (by assumption) | (exfalso; contradiction) | (unfold nkey at *; contradiction) | (unfold RW at *; simp_all; done) | (simp_all; done))
    | pt _ => (first | exact post_stuck (by assumption) | exact .inl (by assumption) | (exfalso; contradiction) | (unfold nkey at *; contradiction) | (unfold RW at *; simp_all; done) | (simp_all; done))
    | obj j => exact post_stuck p
    | tup ys =>
      have ra' := ra
      have rb' := rb
      unfold RW at ra rb
      obtain ⟨a, vs, rfl, h1, h2⟩ := ra
      obtain ⟨b, us, rfl, h3, h4⟩ := rb
      have l1 := h2.length
      have l2 := h4.length
      cases xs with
      | nil =>
        have e : vs = [] := List.eq_nil_of_length_eq_zero l1
        subst e
        cases q : short ys with
        | false => simp only [q] at p; exact post_stuck p
        | true =>
          simp only [q] at p
          have l3 := short_line q
          exact ⟨a, b, [], us, rfl, rfl, h1, h3, by rw [l2]; simpa using l3, fun _ => Post.now ok p _ rb', fun h => absurd rfl h, fun h => absurd rfl h⟩
      | cons x0 xr =>
        have ne : vs ≠ [] := fun e => by rw [e] at l1; cases l1
        cases ys with
        | nil =>
          have e : us = [] := List.eq_nil_of_length_eq_zero l2
          subst e
          cases q : short (x0 :: xr) with
          | false => simp only [q] at p; exact post_stuck p
          | true =>
            simp only [q] at p
            have l3 := short_line q
            exact ⟨a, b, vs, [], rfl, rfl, h1, h3, by rw [l1]; simpa using l3, fun h => absurd h ne, fun _ _ => Post.now ok p _ ra', fun _ h => absurd rfl h⟩
        | cons y0 yr =>
          simp only [appK_eq] at p
          cases q : short (x0 :: xr ++ y0 :: yr) with
          | false => simp only [q] at p; exact post_stuck p
          | true =>
            simp only [q] at p
            have l3 := short_line q
            refine ⟨a, b, vs, us, rfl, rfl, h1, h3, by rw [List.length_append] at l3; rw [l1, l2]; exact l3, fun h => absurd h ne, fun _ h => ?_, fun _ _ => post_tup ok p (h2.append h4)⟩
            rw [h] at l2; cases l2
  | mix _ => (first | exact post_stuck (by assumption) | exact .inl (by assumption) | (exfalso; contradiction) | (unfold nkey at *; contradiction) | (unfold RW at *; simp_all; done) | (simp_all; done))
  | pt _ => (first | exact post_stuck (by assumption) | exact .inl (by assumption) | (exfalso; contradiction) | (unfold nkey at *; contradiction) | (unfold RW at *; simp_all; done) | (simp_all; done))
  | obj i =>
    refine .inr ?_
    cases b with
    | k v => exact post_stuck p
    | tup xs => exact post_stuck p
    | mix _ => (first | exact post_stuck (by assumption) | exact .inl (by assumption) | (exfalso; contradiction) | (unfold nkey at *; contradiction) | (unfold RW at *; simp_all; done) | (simp_all; done))
    | pt _ => (first | exact post_stuck (by assumption) | exact .inl (by assumption) | (exfalso; contradiction) | (unfold nkey at *; contradiction) | (unfold RW at *; simp_all; done) | (simp_all; done))
    | obj j =>
      obtain ⟨xs, a, vs, _, h2, h3, h4, p⟩ := post_kobj ok p
      obtain ⟨ys, b, us, _, h5, h6, h7, p⟩ := post_kobj ok p
      unfold RW at ra rb
      obtain ⟨a', rfl, e⟩ := ra
      obtain ⟨b', rfl, e'⟩ := rb
      rw [h2] at e; cases e
      rw [h5] at e'; cases e'
      simp only [appK_eq] at p
      cases q : short (xs ++ ys) with
      | false => simp only [q] at p; exact post_stuck p
      | true =>
        simp only [q, newK_eq] at p
        have l3 := short_line q
        exact ⟨a, b, vs, us, rfl, rfl, h3, h6, by rw [List.length_append] at l3; rw [h4.length, h7.length]; exact l3, post_newL (vs := (vs ++ us)) ok p (h4.append h7)⟩⟩
end
end Ev

namespace Ev
open PySem PySem.Spec PyProof.Rows L2
theorem tuple_mulS (l : Addr) (items : Array Value) (n : Nat) (dd : Option Addr) (sl : Array (Option Value)) (x : Int) (u : Tok) (c0 : (decide (x < -(2 ^ 63)) || decide (x ≥ 2 ^ 63)) = false) (c1 : (items.isEmpty || x == 1) = true) :
    Meets (Builtin.«tuple.__mul__» ⟨[.ref l, .int x u], []⟩) (fun _ R s => s.heap.get? l = some { cls := .type "tuple", dict := dd, data := .seq items n, slots := sl } ∧
      R (.ok (.ret (Value.ref l))) s) :=
  .of_wp fun prog w A R s h => by
    obtain ⟨hp, g, d, tk, os⟩ := s
    obtain ⟨hl, h⟩ := h
    have f1 := AutoSeq1.idx_int
    wp_walk using wpAny_loadPart' hl
    repeat (first
      | (refine wpAny_ite_false (decide_eq_false (by rw [c0]; exact Bool.false_ne_true)) ?_; wp_walk using wpAny_loadPart' hl)
      | (refine wpAny_ite_true (decide_eq_true c1) ?_; wp_walk using wpAny_loadPart' hl))
    exact ⟨_, rfl, h⟩
theorem tuple_mulZ (l : Addr) (items : Array Value) (n : Nat) (dd : Option Addr) (sl : Array (Option Value)) (x : Int) (u : Tok) (c0 : (decide (x < -(2 ^ 63)) || decide (x ≥ 2 ^ 63)) = false) (c1 : (items.isEmpty || x == 1) = false) (c2 : (decide (x ≤ 0) || items.isEmpty) = true) :
    Meets (Builtin.«tuple.__mul__» ⟨[.ref l, .int x u], []⟩) (fun _ R s => s.heap.get? l = some { cls := .type "tuple", dict := dd, data := .seq items n, slots := sl } ∧
      R (.ok (.ret (Value.ref s.heap.objs.size))) { s with heap := s.heap.push { cls := Value.type "tuple", data := Data.seq #[] }, toks := s.toks }) :=
  .of_wp fun prog w A R s h => by
    obtain ⟨hp, g, d, tk, os⟩ := s
    obtain ⟨hl, h⟩ := h
    have f1 := AutoSeq1.idx_int
    wp_walk using wpAny_loadPart' hl
    repeat (first
      | (refine wpAny_ite_false (decide_eq_false (by rw [c0]; exact Bool.false_ne_true)) ?_; wp_walk using wpAny_loadPart' hl)
      | (refine wpAny_ite_false (decide_eq_false (by rw [c1]; exact Bool.false_ne_true)) ?_; wp_walk using wpAny_loadPart' hl)
      | (refine wpAny_ite_true (decide_eq_true c2) ?_; wp_walk using wpAny_loadPart' hl))
    exact ⟨_, rfl, h⟩
section
variable {X : Cx}
def rRepA (K : PySem.W.Frag) : R2 := fun x y H Q => ∃ l k xs, x = .ref l ∧ y = .int k ∧ SqT K H l xs ∧ k ≤ 1000 ∧ -1000 ≤ k ∧ xs.length ≤ 1000 ∧
  ((xs = [] ∨ k = 1) → Q (.ref l) H) ∧ (xs ≠ [] → k ≤ 0 → ∀ p, H p = none → Q (.ref p) (upd H p (.tup []))) ∧ (xs ≠ [] → 2 ≤ k → ∀ p, H p = none → Q (.ref p) (upd H p (.tup (List.replicate k.toNat xs).flatten)))
theorem op_repA : OpR X (binaryOp .Mult) (rRepA X.K) := by
  intro pins s σ H x y v u Q I rx ry h
  obtain ⟨l, k, xs, rfl, rfl, hT, h1, h0, hz, q0, q1, q2⟩ := h
  by_cases hb : xs ≠ [] ∧ 2 ≤ k
  · exact op_repT pins s σ H _ _ v u Q I rx ry ⟨l, k, xs, rfl, rfl, hT, hb.1, hb.2, h1, hz, q2 hb.1 hb.2⟩
  cases rx
  obtain ⟨t, rfl⟩ := ry
  obtain ⟨its, r, ⟨⟨cls, dd, data, sl⟩, ho, hc, n, hd⟩, hs⟩ := I.tuple hT
  simp only at hc hd
  subst hc hd
  have hle : its.length = xs.length := r.length.symm
  have c0 : (decide (k < -(2 ^ 63)) || decide (k ≥ 2 ^ 63)) = false := by
    rw [decide_eq_false (by omega), decide_eq_false (by omega)] <;> rfl
  by_cases hs1 : xs = [] ∨ k = 1
  · have c1 : (its.toArray.isEmpty || k == 1) = true := by
      rcases hs1 with e | e
      · subst e
        have : its = [] := List.eq_nil_of_length_eq_zero hle
        subst this
        rfl
      · subst e
        simp
    exact wpAny_binaryOp_repeat_ref (T := "tuple") (U := "int") (by decide) ⟨_, ho, rfl⟩ (fun s' => typeIs_int s' k t) noFill_tuple_mul F.fills_int_mul F.slot_int_rmul repeat_tuple F.slot_int_index.lookup
      (call_meets F.slot_int_rmul (typeIs_int s k t) F.entry_int_rmul (F.args_int_rmul_2 _ _) (int_rmul_tuple k t l its.toArray n dd sl)
        ⟨ho, rfl, ⟨_, ho, rfl⟩, call_meets F.slot_tuple_mul ⟨_, ho, rfl⟩ F.entry_tuple_mul (F.args_tuple_mul_2 _ _) (tuple_mulS l its.toArray n dd sl k t c0 c1) ⟨ho, .ref l, H, I, rfl, q0 hs1⟩⟩)
  · have hn : its ≠ [] := fun e => hs1 (.inl (List.eq_nil_of_length_eq_zero (by rw [← hle, e]; rfl)))
    have hi : its.toArray.isEmpty = false := by
      cases its with
      | nil => exact absurd rfl hn
      | cons a b => rfl
    have hx : xs ≠ [] := fun e => hs1 (.inl e)
    have hk : k ≤ 0 := by
      have : k ≠ 1 := fun e => hs1 (.inr e)
      have : ¬ 2 ≤ k := fun e => hb ⟨hx, e⟩
      omega
    have c1 : (its.toArray.isEmpty || k == 1) = false := by
      rw [hi, Bool.false_or]
      exact beq_eq_false_iff_ne.mpr (by omega)
    have c2 : (decide (k ≤ 0) || its.toArray.isEmpty) = true := by
      rw [decide_eq_true hk]; rfl
    exact wpAny_binaryOp_repeat_ref (T := "tuple") (U := "int") (by decide) ⟨_, ho, rfl⟩ (fun s' => typeIs_int s' k t) noFill_tuple_mul F.fills_int_mul F.slot_int_rmul repeat_tuple F.slot_int_index.lookup
      (call_meets F.slot_int_rmul (typeIs_int s k t) F.entry_int_rmul (F.args_int_rmul_2 _ _) (int_rmul_tuple k t l its.toArray n dd sl)
        ⟨ho, rfl, ⟨_, ho, rfl⟩, call_meets F.slot_tuple_mul ⟨_, ho, rfl⟩ F.entry_tuple_mul (F.args_tuple_mul_2 _ _) (tuple_mulZ l its.toArray n dd sl k t c0 c1 c2) ⟨ho,
          .ref s.heap.objs.size, _, I.laid (t' := s.toks) (o := .tup []) (fun b ob q => Heap.get?_push_of_some _ q) (Nat.le_refl _) ⟨Nat.zero_le _, _, .nil, IsTup.new _ _⟩, rfl, q1 hx hk _ (I.hok.fresh (Nat.le_refl _))⟩⟩)
def rSubB : R2 := fun x y H Q => ∃ p q, x = .bl p ∧ y = .bl q ∧ Q (.int ((if p = true then 1 else 0) - (if q = true then 1 else 0))) H
theorem op_subB : OpR X (binaryOp .Sub) rSubB := by
  intro pins s σ H x y v u Q I rx ry h
  obtain ⟨p, q, rfl, rfl, h⟩ := h
  cases rx
  cases ry
  exact PyProof.Rows.sub_bool ⟨.int _, H, I.tok _, ⟨_, rfl⟩, h⟩
end
end Ev

namespace Ev
open PySem PySem.Spec PyProof.Rows L2

/-! ### data -/
noncomputable def eqNs (a : List Nat) : List Nat → Bool := List.rec (motive := fun _ => List Nat → Bool) (fun b => match b with | [] => true | _ :: _ => false) (fun x _ ih b => match b with
  | [] => false
  | y :: r => match Nat.beq x y with
    | true => ih r
    | false => false) a
theorem eqNs_eq : ∀ a b : List Nat, eqNs a b = decide (a = b)
  | [], [] => rfl
  | [], y :: r => by
    show false = _
    rw [decide_eq_false (by intro h; cases h)]
  | x :: a, [] => by
    show false = _
    rw [decide_eq_false (by intro h; cases h)]
  | x :: a, y :: r => by
    have ih := eqNs_eq a r
    show (match Nat.beq x y with | true => eqNs a r | false => false) = _
    rw [beq_dec, ih]
    by_cases h : x = y
    · subst h
      simp
    · simp [h]
noncomputable def eqS (a b : Str) : Bool := eqNs a.cps.toList b.cps.toList
theorem eqS_eq (a b : Str) : eqS a b = decide (a = b) := by
  unfold eqS
  rw [eqNs_eq, decide_eq_decide]
  constructor
  · intro h
    cases a; cases b
    simp only at h
    exact congrArg Str.mk (Array.toList_inj.mp h)
  · intro h; rw [h]
theorem eqS_beq (a b : Str) : eqS a b = (a == b) := by
  rw [eqS_eq]
  rw [Bool.eq_iff_iff]; simp
noncomputable def sOkL (l : List Nat) : Bool := List.rec (motive := fun _ => Bool) true (fun c _ ih => match Nat.blt c 1114112 with
  | true => ih
  | false => false) l
theorem sOkL_of : ∀ {l : List Nat}, sOkL l = true → ∀ c ∈ l, c < 1114112
  | [], _, _, hc => nomatch hc
  | c :: l, h, c', hc => by
    have h' : (match Nat.blt c 1114112 with | true => sOkL l | false => false) = true := h
    rw [blt_dec] at h'
    by_cases q : c < 1114112
    · rw [decide_eq_true q] at h'
      rcases List.mem_cons.mp hc with e | e
      · subst e; exact q
      · exact sOkL_of h' c' e
    · rw [decide_eq_false q] at h'; cases h'
noncomputable def sOk (x : Str) : Bool := sOkL x.cps.toList
theorem sOk_of {x : Str} (h : sOk x = true) : PyData.strOk x = true := by
  unfold PyData.strOk
  rw [Array.all_eq_true]
  intro i hi
  have := sOkL_of h x.cps[i] (by simp)
  exact decide_eq_true this
noncomputable def toV (v : V) : Option PyData := match v with
  | .non => some .none
  | .bl b => some (.bool b)
  | .int i => some (.int i)
  | .str x => match sOk x with
    | true => some (.str x)
    | false => none
  | _ => none
noncomputable def allD (f : W → Option PyData) (ws : List W) : Option (List PyData) := List.rec (motive := fun _ => Option (List PyData)) (some []) (fun w _ ih => match f w with
  | some d => match ih with
    | some ds => some (d :: ds)
    | none => none
  | none => none) ws
noncomputable def toD (S : FH) (n : Nat) : W → Option PyData := Nat.rec (motive := fun _ => W → Option PyData) (fun w => match w with
  | .k v => toV v
  | _ => none) (fun _ ih w => match w with
  | .k v => toV v
  | .tup xs => match allD ih xs with
    | some ds => some (.tuple ds)
    | none => none
  | .obj i => match S.get i with
    | some (.lst xs) => match allD ih xs with
      | some ds => some (.list ds)
      | none => none
    | _ => none
  | .pt _ => none
  | .mix _ => none) n
theorem allD_cons {f : W → Option PyData} {w : W} {ws : List W} {ds : List PyData} (h : allD f (w :: ws) = some ds) : ∃ d r, ds = d :: r ∧ f w = some d ∧ allD f ws = some r := by
  have h' : (match f w with
    | some d => match allD f ws with
      | some ds => some (d :: ds)
      | none => none
    | none => none) = some ds := h
  cases e : f w with
  | none => rw [e] at h'; cases h'
  | some d =>
    rw [e] at h'
    cases e2 : allD f ws with
    | none => rw [e2] at h'; cases h'
    | some r => rw [e2] at h'; cases h'; exact ⟨d, r, rfl, rfl, rfl⟩
section
variable {K : PySem.W.Frag} {H : Hp}
theorem toV_of {v u : V} {d : PyData} (h : toV v = some d) (e : u = v) : Dp K H u d ∧ d.canLay0 = true ∧ d.depth = 0 := by
  subst e
  unfold toV at h
  split at h
  · cases h; exact ⟨.non, rfl, rfl⟩
  · cases h; exact ⟨.bl _, rfl, rfl⟩
  · cases h; exact ⟨.int _, rfl, rfl⟩
  · rename_i x
    cases q : sOk x with
    | false => simp only [q] at h; cases h
    | true =>
      simp only [q] at h
      cases h
      refine ⟨.str _, ?_, ?_⟩
      · unfold PyData.canLay0; exact sOk_of q
      · unfold PyData.depth; rfl
  · cases h
end
section
variable {G : Glo}
def DOk (C : Cf) (n : Nat) (w : W) (d : PyData) : Prop := (∀ v, RW G.K C.ρ C.H w v → Dp G.K C.H v d) ∧ d.canLay0 = true ∧ d.depth ≤ n
theorem allD_of {C : Cf} {n : Nat} {f : W → Option PyData} (hf : ∀ w d, f w = some d → DOk (G := G) C n w d) : ∀ {ws : List W} {ds : List PyData}, allD f ws = some ds → (∀ vs, RWs G.K C.ρ C.H ws vs → DpAll G.K C.H vs ds) ∧ PyData.canLayAll0 ds = true ∧ PyData.depthAll ds ≤ n
  | [], ds, h => by
    cases h
    refine ⟨fun vs h => ?_, rfl, Nat.zero_le _⟩
    unfold RWs at h
    subst h
    exact .nil
  | w :: ws, ds, h => by
    obtain ⟨d, r, rfl, h1, h2⟩ := allD_cons h
    obtain ⟨a1, a2, a3⟩ := hf w d h1
    obtain ⟨b1, b2, b3⟩ := allD_of hf h2
    refine ⟨fun vs h => ?_, ?_, ?_⟩
    · unfold RWs at h
      obtain ⟨v, vr, rfl, c1, c2⟩ := h
      exact .cons (a1 v c1) (b1 vr c2)
    · unfold PyData.canLayAll0
      rw [a2, b2]; rfl
    · unfold PyData.depthAll
      exact Nat.max_le.mpr ⟨a3, b3⟩
theorem toD_of {C : Cf} (ok : C.Ok G) : ∀ (n : Nat) (w : W) (d : PyData), toD C.S n w = some d → DOk (G := G) C n w d
  | 0, .k v, d, h => by
    have h' : toV v = some d := h
    exact ⟨fun u hu => (toV_of (K := G.K) (H := C.H) h' (rw_k hu)).1, (toV_of (K := G.K) (H := C.H) h' rfl).2.1, Nat.le_of_eq (toV_of (K := G.K) (H := C.H) h' rfl).2.2⟩
  | n + 1, .k v, d, h => by
    have h' : toV v = some d := h
    exact ⟨fun u hu => (toV_of (K := G.K) (H := C.H) h' (rw_k hu)).1, (toV_of (K := G.K) (H := C.H) h' rfl).2.1, by rw [(toV_of (K := G.K) (H := C.H) h' rfl).2.2]; exact Nat.zero_le _⟩
  | 0, .tup xs, d, h => by cases h
  | 0, .obj i, d, h => by cases h
  | 0, .mix i, d, h => by cases h
  | 0, .pt i, d, h => by cases h
  | n + 1, .mix i, d, h => by cases h
  | n + 1, .pt i, d, h => by cases h
  | n + 1, .tup xs, d, h => by
    have h' : (match allD (toD C.S n) xs with
      | some ds => some (.tuple ds)
      | none => none) = some d := h
    cases e : allD (toD C.S n) xs with
    | none => rw [e] at h'; cases h'
    | some ds =>
      rw [e] at h'
      cases h'
      obtain ⟨a1, a2, a3⟩ := allD_of (toD_of ok n) e
      refine ⟨fun u hu => ?_, ?_, ?_⟩
      · unfold RW at hu
        obtain ⟨a, vs, rfl, h1, h2⟩ := hu
        exact .tup h1 (a1 vs h2)
      · unfold PyData.canLay0; exact a2
      · unfold PyData.depth; omega
  | n + 1, .obj i, d, h => by
    have h' : (match C.S.get i with
      | some (.lst xs) => match allD (toD C.S n) xs with
        | some ds => some (.list ds)
        | none => none
      | _ => none) = some d := h
    split at h'
    · rename_i xs hx
      cases e : allD (toD C.S n) xs with
      | none => rw [e] at h'; cases h'
      | some ds =>
        rw [e] at h'
        cases h'
        obtain ⟨a1, a2, a3⟩ := allD_of (toD_of ok n) e
        obtain ⟨a, vs, h1, h2, h3⟩ := Cf.lstAt ok hx
        refine ⟨fun u hu => ?_, ?_, ?_⟩
        · unfold RW at hu
          obtain ⟨a', rfl, h4⟩ := hu
          rw [h1] at h4; cases h4
          exact .lst (SqL.of h2) (a1 vs h3)
        · unfold PyData.canLay0; exact a2
        · unfold PyData.depth; omega
    · cases h'
end
noncomputable def eqAllF (f : PyData → PyData → Bool) (a : List PyData) : List PyData → Bool := List.rec (motive := fun _ => List PyData → Bool) (fun b => match b with | [] => true | _ :: _ => false) (fun x _ ih b => match b with
  | [] => false
  | y :: r => match f x y with
    | true => ih r
    | false => false) a
def bI (b : Bool) : Int := match b with
  | true => 1
  | false => 0
def eqB (a b : Bool) : Bool := match a with
  | true => b
  | false => !b
noncomputable def eqF (n : Nat) : PyData → PyData → Bool := Nat.rec (motive := fun _ => PyData → PyData → Bool) (fun _ _ => false) (fun _ ih d e => match d with
  | .tuple xs => match e with
    | .tuple ys => eqAllF ih xs ys
    | _ => false
  | .list xs => match e with
    | .list ys => eqAllF ih xs ys
    | _ => false
  | .int i => match e with
    | .int j => iEq i j
    | .bool b => iEq i (bI b)
    | _ => false
  | .bool a => match e with
    | .bool b => eqB a b
    | .int j => iEq (bI a) j
    | _ => false
  | .str x => match e with
    | .str y => eqS x y
    | _ => false
  | .none => match e with
    | .none => true
    | _ => false
  | .dict _ => false) n
theorem iEq_beq (i j : Int) : iEq i j = (i == j) := by rw [iEq_eq]; rfl
theorem bI_eq (b : Bool) : bI b = if b = true then 1 else 0 := by cases b <;> rfl
theorem eqAllF_eq {n : Nat} (ih : ∀ d e, PyData.depth d < n → eqF n d e = PyData.eqv d e) : ∀ (xs ys : List PyData), PyData.depthAll xs < n → eqAllF (eqF n) xs ys = PyData.eqvAll xs ys
  | [], [], _ => by unfold PyData.eqvAll; rfl
  | [], y :: ys, _ => by unfold PyData.eqvAll; rfl
  | x :: xs, [], _ => by unfold PyData.eqvAll; rfl
  | x :: xs, y :: ys, h => by
    unfold PyData.depthAll at h
    have h1 : PyData.depth x < n := by omega
    have h2 : PyData.depthAll xs < n := by omega
    have e : eqAllF (eqF n) (x :: xs) (y :: ys) = match eqF n x y with
      | true => eqAllF (eqF n) xs ys
      | false => false := rfl
    rw [e, ih x y h1, eqAllF_eq ih xs ys h2]
    conv => rhs; unfold PyData.eqvAll
    cases PyData.eqv x y <;> rfl
theorem eqF_eq : ∀ (n : Nat) (d e : PyData), PyData.depth d < n → eqF n d e = PyData.eqv d e
  | 0, _, _, h => absurd h (Nat.not_lt_zero _)
  | n + 1, d, e, h => by
    cases d <;> cases e <;> first
      | (unfold PyData.eqv; rfl)
      | (unfold PyData.eqv; exact iEq_beq _ _)
      | (unfold PyData.eqv; rw [← bI_eq]; exact iEq_beq _ _)
      | (unfold PyData.eqv; exact eqS_beq _ _)
      | (rename_i a b; unfold PyData.eqv; cases a <;> cases b <;> rfl)
      | (rename_i xs ys
         unfold PyData.depth at h
         unfold PyData.eqv
         exact eqAllF_eq (eqF_eq n) xs ys (by omega))
noncomputable def datK {α : Type} (w : W) (S : FH) (k : PyData → Res α) : Res α := match toD S 40 w with
  | some d => k d
  | none => .stuck
section
variable {G : Glo} {X : Cx}
theorem post_dat {W' : WX} {α : Type} {C : Cf} (ok : C.Ok G) {w : W} {v : V} (rv : RW G.K C.ρ C.H w v) {k : PyData → Res α} {Φ : α → Cf → Prop} (p : Post G W' C (datK w C.S k) Φ) :
    ∃ d, Dp G.K C.H v d ∧ SeqAt.shaped d = true ∧ d.canLay0 = true ∧ d.depth ≤ 40 ∧ Post G W' C (k d) Φ := by
  unfold datK at p
  cases q : toD C.S 40 w with
  | none => simp only [q] at p; exact post_stuck p
  | some d =>
    simp only [q] at p
    obtain ⟨h1, h2, h3⟩ := toD_of ok 40 w d q
    refine ⟨d, h1 v rv, ?_, h2, h3, p⟩
    unfold SeqAt.shaped
    rw [h2, decide_eq_true (by omega)]; rfl
noncomputable def gEq : Op2 := fun a b S => datK a S fun d => datK b S fun e => fBool (eqF 50 d e) fun r => .ok (.k (.bl r)) S
noncomputable def gNe : Op2 := fun a b S => datK a S fun d => datK b S fun e => fBool (!(eqF 50 d e)) fun r => .ok (.k (.bl r)) S
theorem ox_eq (hx : Okx G X) : OpX G X (compareOp .Eq) gEq := ⟨rEqD G.K, by rw [← hx.k]; exact op_eqD (by have := hx.un; omega), fun W' C a b x y Q ok ra rb p => by
  obtain ⟨d, h1, h2, _, h3, p⟩ := post_dat ok ra p
  obtain ⟨e, h4, h5, _, h6, p⟩ := post_dat ok rb p
  rw [fBool_eq, eqF_eq 50 d e (by omega)] at p
  exact ⟨d, e, h1, h4, h2, h5, Post.now ok p _ mk_k⟩⟩
theorem ox_ne (hx : Okx G X) : OpX G X (compareOp .NotEq) gNe := ⟨rNeD G.K, by rw [← hx.k]; exact op_neD (by have := hx.un; omega), fun W' C a b x y Q ok ra rb p => by
  obtain ⟨d, h1, h2, _, h3, p⟩ := post_dat ok ra p
  obtain ⟨e, h4, h5, _, h6, p⟩ := post_dat ok rb p
  rw [fBool_eq, eqF_eq 50 d e (by omega)] at p
  exact ⟨d, e, h1, h4, h2, h5, Post.now ok p _ mk_k⟩⟩
/-! is None -/
noncomputable def isNon (w : W) : Bool := match w with
  | .k .non => true
  | _ => false
noncomputable def noneK {α : Type} (w : W) (k : Res α) : Res α := match w with
  | .k .non => k
  | _ => .stuck
noncomputable def gIs : Op2 := fun a b S => noneK b (fBool (isNon a) fun r => .ok (.k (.bl r)) S)
noncomputable def gIsN : Op2 := fun a b S => noneK b (fBool (!(isNon a)) fun r => .ok (.k (.bl r)) S)
theorem isNon_of {ρ : List Addr} {H : Hp} {w : W} {v : V} (r : RW G.K ρ H w v) : isNon w = decide (v = V.non) := by
  cases w with
  | k u =>
    rw [rw_k r]
    cases u <;> rfl
  | tup xs =>
    unfold RW at r
    obtain ⟨a, vs, rfl, _⟩ := r
    rfl
  | mix ys =>
    unfold RW at r
    obtain ⟨a, vs, rfl, _⟩ := r
    rfl
  | pt ys =>
    unfold RW at r
    obtain ⟨a, vs, rfl, _⟩ := r
    rfl
  | obj i =>
    unfold RW at r
    obtain ⟨a, rfl, _⟩ := r
    rfl
theorem post_none {W' : WX} {α : Type} {C : Cf} {w : W} {v : V} (r : RW G.K C.ρ C.H w v) {k : Res α} {Φ : α → Cf → Prop} (p : Post G W' C (noneK w k) Φ) : v = .non ∧ Post G W' C k Φ := by
  unfold noneK at p
  split at p
  · exact ⟨rw_k r, p⟩
  · exact post_stuck p
theorem ox_is : OpX G X (compareOp .Is) gIs := ⟨_, op_isN, fun W' C a b x y Q ok ra rb p => by
  obtain ⟨e, p⟩ := post_none rb p
  rw [fBool_eq, isNon_of ra] at p
  exact ⟨e, Post.now ok p _ mk_k⟩⟩
theorem ox_isn : OpX G X (compareOp .IsNot) gIsN := ⟨_, op_notN, fun W' C a b x y Q ok ra rb p => by
  obtain ⟨e, p⟩ := post_none rb p
  rw [fBool_eq, isNon_of ra] at p
  exact ⟨e, Post.now ok p _ mk_k⟩⟩
/-! - and * -/
noncomputable def gSub : Op2 := fun a b S => match a with
  | .k (.bl p) => match b with
    | .k (.bl q) => fInt (Int.sub (bI p) (bI q)) fun r => .ok (.k (.int r)) S
    | _ => .stuck
  | _ => g2I (fun _ _ => true) Int.sub a b S
theorem ox_sub : OpX G X (binaryOp .Sub) gSub := ⟨_, opr_or op_sub op_subB, fun W' C a b x y Q ok ra rb p => by
  unfold gSub at p
  split at p
  · rename_i c
    split at p
    · rename_i q
      rw [fInt_eq] at p
      refine .inr ⟨c, q, rw_k ra, rw_k rb, ?_⟩
      have := Post.now ok p _ mk_k
      rw [bI_eq, bI_eq] at this
      exact this
    · exact post_stuck p
  · exact .inl (ops_2I0 (fun _ _ => rfl) W' C a b x y Q ok ra rb p)⟩
noncomputable def repK {α : Type} (xs : List W) (n : Nat) (k : List W → α) : α := Nat.rec (motive := fun _ => (List W → α) → α) (fun k => k []) (fun _ ih k => ih fun r => appK xs r k) n k
theorem repK_eq {α : Type} {xs : List W} : ∀ (n : Nat) (k : List W → α), repK xs n k = k (List.replicate n xs).flatten
  | 0, k => rfl
  | n + 1, k => by
    show repK xs n (fun r => appK xs r k) = _
    rw [repK_eq n, appK_eq]
    simp [List.replicate_succ]
theorem RWs.rep {K : PySem.W.Frag} {ρ : List Addr} {H : Hp} {ws : List W} {vs : List V} (h : RWs K ρ H ws vs) : ∀ n : Nat, RWs K ρ H (List.replicate n ws).flatten (List.replicate n vs).flatten
  | 0 => .nil
  | n + 1 => by
    simp only [List.replicate_succ, List.flatten_cons]
    exact h.append (h.rep n)
noncomputable def fewW (ws : List W) : Bool := Nat.ble ws.length 1000
noncomputable def gMul : Op2 := fun a b S => match a with
  | .k _ => g2I (fun i j => Nat.blt (i.natAbs.log2 + j.natAbs.log2) 1000000) Int.mul a b S
  | .mix _ => .stuck
  | .pt _ => .stuck
  | .tup xs => kint b .stuck fun n => match n with
    | .ofNat n => match Nat.ble n 1000 with
      | true => match fewW xs with
        | true => match xs with
          | [] => .ok a S
          | _ :: _ => match Nat.beq n 1 with
            | true => .ok a S
            | false => repK xs n fun zs => .ok (.tup zs) S
        | false => .stuck
      | false => .stuck
    | .negSucc _ => .stuck
  | .obj i => kobj i S fun xs => kint b .stuck fun n => match n with
    | .ofNat n => match Nat.ble (xs.length * n) 10000 with
      | true => match Nat.ble n 10000 with
        | true => repK xs n fun zs => newK S (.lst zs) fun m S1 => .ok (.obj m) S1
        | false => .stuck
      | false => .stuck
    | .negSucc _ => .stuck
theorem ox_mul (hx : Okx G X) : OpX G X (binaryOp .Mult) gMul := ⟨fun x y H Q => (rI CMulW (fun i j => .int (i * j)) x y H Q ∨ rRepA G.K x y H Q) ∨ rRep x y H Q, by rw [← hx.k]; exact opr_or (opr_or op_mulW op_repA) op_rep, fun W' C a b x y Q ok ra rb p => by
  unfold gMul at p
  cases a with
  | k v =>
    refine .inl (.inl (ops_2I (c := fun i j => Nat.blt (i.natAbs.log2 + j.natAbs.log2) 1000000) (fun i j h => ?_) (fun _ _ _ => rfl) W' C (.k v) b x y Q ok ra rb p))
    exact Nat.le_of_ble_eq_true h
  | tup xs =>
    obtain ⟨n, eb, p⟩ := post_kint p
    rw [eb] at rb
    cases n with
    | negSucc n => exact post_stuck p
    | ofNat n =>
      simp only at p
      cases q1 : Nat.ble n 1000 with
      | false => simp only [q1] at p; exact post_stuck p
      | true =>
        simp only [q1] at p
        cases q2 : fewW xs with
        | false => simp only [q2] at p; exact post_stuck p
        | true =>
          simp only [q2] at p
          have h1 : n ≤ 1000 := Nat.le_of_ble_eq_true q1
          have h2 : xs.length ≤ 1000 := Nat.le_of_ble_eq_true q2
          have ra' := ra
          unfold RW at ra
          obtain ⟨a, vs, rfl, r1, r2⟩ := ra
          have l1 := r2.length
          refine .inl (.inr ⟨a, (n : Int), vs, rfl, rw_int rb, r1, by omega, by omega, by omega, ?_, ?_, ?_⟩)
          · intro hc
            cases xs with
            | nil => exact Post.now ok p _ ra'
            | cons x0 xr =>
              rcases hc with e | e
              · rw [e] at l1; cases l1
              · have : n = 1 := by omega
                subst this
                exact Post.now ok p _ ra'
          · intro ne hk
            have : n = 0 := by omega
            subst this
            cases xs with
            | nil => exact absurd (List.eq_nil_of_length_eq_zero l1) ne
            | cons x0 xr => exact post_tup ok p .nil
          · intro ne hk
            cases xs with
            | nil => exact absurd (List.eq_nil_of_length_eq_zero l1) ne
            | cons x0 xr =>
              simp only at p
              have e1 : Nat.beq n 1 = false := by rw [beq_dec, decide_eq_false]; omega
              rw [e1] at p
              simp only [repK_eq] at p
              exact post_tup ok p (r2.rep n)
  | mix _ => (first | exact post_stuck (by assumption) | exact .inl (by assumption) | (exfalso; contradiction) | (unfold nkey at *; contradiction) | (unfold RW at *; simp_all; done) | (simp_all; done))
  | pt _ => (first | exact post_stuck (by assumption) | exact .inl (by assumption) | (exfalso; contradiction) | (unfold nkey at *; contradiction) | (unfold RW at *; simp_all; done) | (simp_all; done))
  | obj i =>
    obtain ⟨xs, a, vs, _, h2, h3, h4, p⟩ := post_kobj ok p
    obtain ⟨n, eb, p⟩ := post_kint p
    rw [eb] at rb
    cases n with
    | negSucc n => exact post_stuck p
    | ofNat n =>
      simp only at p
      cases q1 : Nat.ble (xs.length * n) 10000 with
      | false => simp only [q1] at p; exact post_stuck p
      | true =>
        simp only [q1] at p
        cases q2 : Nat.ble n 10000 with
        | false => simp only [q2] at p; exact post_stuck p
        | true =>
          simp only [q2, repK_eq, newK_eq] at p
          have l1 : xs.length * n ≤ 10000 := Nat.le_of_ble_eq_true q1
          have l2 : n ≤ 10000 := Nat.le_of_ble_eq_true q2
          unfold RW at ra
          obtain ⟨a', rfl, e⟩ := ra
          rw [h2] at e; cases e
          refine .inr ⟨a, (n : Int), vs, rfl, rw_int rb, h3, by omega, by omega, ?_, post_newL (vs := (List.replicate n vs).flatten) ok p (h4.rep n)⟩
          rw [h4.length, sizeLine_eq]
          show xs.length * n ≤ _
          omega⟩
end
end Ev

namespace Ev
open PySem PySem.Spec PyProof.Rows L2

section
variable {G : Glo} {X : Cx} {W' : WX} {pos : Pos}
/-! ### unary - -/
noncomputable def evNeg (f : Evl) : Evl := fun l S => (f l S).bnd fun w S1 => kint w .stuck fun i => fInt (iNeg i) fun r => .ok (.k (.int r)) S1
theorem se_neg {f : Evl} {e : Expr} (h : SE G X W' f e) : SE G X W' (evNeg f) (.UnaryOp .USub e pos) := pe_imp (pe_un un_neg h) fun σ H Q ⟨C, l, e, ok, r, p⟩ => by
  subst e
  refine ⟨C, l, rfl, ok, r, Post.mono (fun w C1 ok1 x1 p1 v rv => ?_) (Post.bnd p)⟩
  obtain ⟨i, e, p2⟩ := post_kint p1
  rw [e] at rv
  rw [fInt_eq, iNeg_eq] at p2
  exact ⟨i, rw_int rv, Post.now ok1 p2 _ mk_k⟩
/-! ### in -/
/-! ### subscripts -/
noncomputable def ixK {α : Type} (n : Nat) (i : Int) (k : Nat → Res α) : Res α := match i with
  | .ofNat m => match Nat.blt m n with
    | true => k m
    | false => .stuck
  | .negSucc m => match Nat.blt m n with
    | true => k (n - (m + 1))
    | false => .stuck
theorem post_ixK {α : Type} {C : Cf} {n : Nat} {i : Int} {k : Nat → Res α} {Φ : α → Cf → Prop} (p : Post G W' C (ixK n i k) Φ) : ∃ j, ixN n i = some j ∧ Post G W' C (k j) Φ := by
  unfold ixK at p
  split at p
  · rename_i m
    rw [blt_dec] at p
    by_cases h : m < n
    · rw [decide_eq_true h] at p
      refine ⟨m, ?_, p⟩
      unfold ixN
      rw [if_pos (by show (0 : Int) ≤ (m : Int); omega), if_pos (by show (m : Int) < n; omega)]
      rfl
    · rw [decide_eq_false h] at p; exact post_stuck p
  · rename_i m
    rw [blt_dec] at p
    by_cases h : m < n
    · rw [decide_eq_true h] at p
      refine ⟨n - (m + 1), ?_, p⟩
      unfold ixN
      rw [if_neg (by omega), if_pos (by omega)]
      congr 1
      omega
    · rw [decide_eq_false h] at p; exact post_stuck p
noncomputable def nthK {α : Type} (ws : List W) (j : Nat) (k : W → Res α) : Res α := List.rec (motive := fun _ => Nat → Res α) (fun _ => .stuck) (fun x _ ih j => Nat.rec (motive := fun _ => Res α) (k x) (fun m _ => ih m) j) ws j
theorem post_nthK {α : Type} {C : Cf} {k : W → Res α} {Φ : α → Cf → Prop} : ∀ {ws : List W} {j : Nat}, Post G W' C (nthK ws j k) Φ → ∃ w, ws[j]? = some w ∧ Post G W' C (k w) Φ
  | [], j, p => post_stuck p
  | x :: ws, 0, p => ⟨x, rfl, p⟩
  | x :: ws, j + 1, p => by
    obtain ⟨w, h1, h2⟩ := post_nthK (ws := ws) (j := j) p
    exact ⟨w, by simpa using h1, h2⟩
noncomputable def gIx : Op2 := fun a b S => kint b .stuck fun i => match a with
  | .tup xs => ixK xs.length i fun j => nthK xs j fun w => .ok w S
  | .obj o => kobj o S fun xs => ixK xs.length i fun j => nthK xs j fun w => .ok w S
  | _ => .stuck
theorem se_ix {fa fb : Evl} {a b : Expr} (hx : Okx G X) (ha : SE G X W' fa a) (hb : SE G X W' fb b) (hs : PlainIx b) : SE G X W' (evBin gIx fa fb) (.Subscript a b pos) :=
  pe_imp (pe_ix (IxR.or ix_list ix_tup) ha hb hs) fun σ H Q h => by
    refine rd_bin (r := fun x y H Q => rIxL X.K x y H Q ∨ rIxT X.K x y H Q) (fun W' C a b x y Q ok ra rb p => ?_) h
    rw [hx.k]
    obtain ⟨i, eb, p⟩ := post_kint p
    rw [eb] at rb
    cases a with
    | k v => exact post_stuck p
    | tup xs =>
      have ra' := ra
      unfold RW at ra
      obtain ⟨c, vs, rfl, h1, h2⟩ := ra
      obtain ⟨j, hj, p⟩ := post_ixK p
      obtain ⟨w, hw, p⟩ := post_nthK p
      obtain ⟨v, hv, rv⟩ := h2.get hw
      refine .inr ⟨c, vs, i, v, rfl, rw_int rb, h1, ?_, Post.now ok p v rv⟩
      unfold atI
      rw [h2.length, hj]
      exact hv
    | mix _ => (first | exact post_stuck (by assumption) | exact .inl (by assumption) | (exfalso; contradiction) | (unfold nkey at *; contradiction) | (unfold RW at *; simp_all; done) | (simp_all; done))
    | pt _ => (first | exact post_stuck (by assumption) | exact .inl (by assumption) | (exfalso; contradiction) | (unfold nkey at *; contradiction) | (unfold RW at *; simp_all; done) | (simp_all; done))
    | obj o =>
      obtain ⟨xs, c, vs, h0, h1, h2, h3, p⟩ := post_kobj ok p
      unfold RW at ra
      obtain ⟨c', rfl, e⟩ := ra
      rw [h1] at e; cases e
      obtain ⟨j, hj, p⟩ := post_ixK p
      obtain ⟨w, hw, p⟩ := post_nthK p
      obtain ⟨v, hv, rv⟩ := h3.get hw
      refine .inl ⟨c, vs, i, v, rfl, rw_int rb, SqL.of h2, ?_, Post.now ok p v rv⟩
      unfold atI
      rw [h3.length, hj]
      exact hv
/-! ### slices: the parts -/
def Evo := Lo → FH → Res (Option Int)
noncomputable def eoN : Evo := fun _ S => .ok none S
noncomputable def eoS (f : Evl) : Evo := fun l S => (f l S).bnd fun w S1 => kint w .stuck fun i => .ok (some i) S1
def PhO (Q : Option Int → Hp → Prop) : Option Int → Cf → Prop := fun o C' => Q o C'.H
def rdO (G : Glo) (W' : WX) (f : Evo) : TO := fun σ H Q => ∃ (C : Cf) (l : Lo), C.H = H ∧ C.Ok G ∧ RL G C l σ ∧ Post G W' C (f l C.S) (PhO Q)
def SO (G : Glo) (X : Cx) (W' : WX) (f : Evo) (e : Option Expr) : Prop := PO X e (rdO G W' f)
theorem po_imp {X : Cx} {e : Option Expr} {t t' : TO} (h : PO X e t) (k : ∀ σ H Q, t' σ H Q → t σ H Q) : PO X e t' := ⟨fun pins s σ H Q I q => h.run pins s σ H Q I (k σ H Q q)⟩
theorem so_none : SO G X W' eoN none := po_imp po_none fun σ H Q ⟨C, l, e, ok, r, p⟩ => by
  subst e
  have q : PhO Q none C := Post.now (W' := W') ok p
  exact q
theorem so_some {f : Evl} {e : Expr} (h : SE G X W' f e) : SO G X W' (eoS f) (some e) := po_imp (po_some h) fun σ H Q ⟨C, l, e, ok, r, p⟩ => by
  subst e
  refine ⟨C, l, rfl, ok, r, Post.mono (fun w C1 ok1 x1 p1 v rv => ?_) (Post.bnd p)⟩
  obtain ⟨i, e, p2⟩ := post_kint p1
  rw [e] at rv
  have q : PhO Q (some i) C1 := Post.now (W' := W') ok1 p2
  exact ⟨i, rw_int rv, q⟩
noncomputable def sIxK (n d : Nat) (o : Option Int) : Nat := match o with
  | none => d
  | some i => match i with
    | .ofNat m => match Nat.ble m n with
      | true => m
      | false => n
    | .negSucc m => n - (m + 1)
theorem sIxK_eq (n d : Nat) (o : Option Int) : sIxK n d o = HT.sIx n d o := by
  cases o with
  | none => rfl
  | some i =>
    cases i with
    | ofNat m =>
      show (match Nat.ble m n with | true => m | false => n) = _
      rw [ble_dec]
      show _ = HT.sIx n d (some (m : Int))
      rw [HT.sIx_nat]
      by_cases h : m ≤ n
      · rw [decide_eq_true h, Nat.min_eq_left h]
      · rw [decide_eq_false h, Nat.min_eq_right (by omega)]
    | negSucc m =>
      show n - (m + 1) = if (Int.negSucc m < 0) then (Int.negSucc m + (n : Int)).toNat else _
      rw [if_pos (by omega)]
      omega
noncomputable def dropK {α : Type} (ws : List W) (n : Nat) (k : List W → α) : α := List.rec (motive := fun _ => Nat → α) (fun _ => k []) (fun x r ih n => Nat.rec (motive := fun _ => α) (k (x :: r)) (fun m _ => ih m) n) ws n
theorem dropK_eq {α : Type} {k : List W → α} : ∀ (ws : List W) (n : Nat), dropK ws n k = k (ws.drop n)
  | [], n => by simp [dropK]
  | x :: r, 0 => rfl
  | x :: r, n + 1 => dropK_eq r n
noncomputable def takeK {α : Type} (ws : List W) (n : Nat) (k : List W → α) : α := List.rec (motive := fun _ => Nat → (List W → α) → α) (fun _ k => k []) (fun x _ ih n k => Nat.rec (motive := fun _ => α) (k []) (fun m _ => ih m fun r => k (x :: r)) n) ws n k
theorem takeK_eq {α : Type} : ∀ (ws : List W) (n : Nat) (k : List W → α), takeK ws n k = k (ws.take n)
  | [], n, k => by simp [takeK]
  | x :: r, 0, k => rfl
  | x :: r, n + 1, k => takeK_eq r n fun r => k (x :: r)
noncomputable def cutK {α : Type} (ws : List W) (a b : Nat) (k : List W → α) : α := dropK ws a fun r => takeK r (b - a) k
theorem cutK_eq {α : Type} (ws : List W) (a b : Nat) (k : List W → α) : cutK ws a b k = k ((ws.drop a).take (b - a)) := by
  unfold cutK
  rw [dropK_eq, takeK_eq]
noncomputable def gSl (w : W) (lo hi : Option Int) (S : FH) : Res W := match w with
  | .tup xs => fNat (sIxK xs.length 0 lo) fun a => fNat (sIxK xs.length xs.length hi) fun b => match Nat.beq a 0 with
    | true => match Nat.beq b xs.length with
      | true => .ok w S
      | false => cutK xs a b fun zs => .ok (.tup zs) S
    | false => cutK xs a b fun zs => .ok (.tup zs) S
  | .obj o => kobj o S fun xs => fNat (sIxK xs.length 0 lo) fun a => fNat (sIxK xs.length xs.length hi) fun b => cutK xs a b fun zs => newK S (.lst zs) fun n S1 => .ok (.obj n) S1
  | _ => .stuck
noncomputable def evSl (f : Evl) (a b : Evo) : Evl := fun l S => (f l S).bnd fun w S1 => (a l S1).bnd fun lo S2 => (b l S2).bnd fun hi S3 => gSl w lo hi S3
theorem rws_cut {K : PySem.W.Frag} {ρ : List Addr} {H : Hp} {ws : List W} {vs : List V} (h : RWs K ρ H ws vs) (lo hi : Option Int) : RWs K ρ H ((ws.drop (HT.sIx ws.length 0 lo)).take (HT.sIx ws.length ws.length hi - HT.sIx ws.length 0 lo)) (cutV vs lo hi) := by
  unfold cutV
  rw [h.length]
  exact (h.drop _).take _
theorem se_sl {f : Evl} {a b : Evo} {e : Expr} {lo hi : Option Expr} {p2 : Pos} (hx : Okx G X) (he : SE G X W' f e) (ha : SO G X W' a lo) (hb : SO G X W' b hi) : SE G X W' (evSl f a b) (.Subscript e (.Slice lo hi none p2) pos) :=
  pe_imp (pe_slice (SlR.or sl_list sl_tupA) he ha hb) fun σ H Q ⟨C, l, e, ok, r, p⟩ => by
    subst e
    refine ⟨C, l, rfl, ok, r, Post.mono (fun w C1 ok1 x1 p1 v rv => ?_) (Post.bnd p)⟩
    refine ⟨C1, l, rfl, ok1, r.mono ok x1, Post.mono (fun lo C2 ok2 x2 p2 => ?_) (Post.bnd p1)⟩
    refine ⟨C2, l, rfl, ok2, (r.mono ok x1).mono ok1 x2, Post.mono (fun hi C3 ok3 x3 p3 => ?_) (Post.bnd p2)⟩
    have rv := (rv.mono ok1 x2).mono ok2 x3
    show rSlL X.K v lo hi C3.H Q ∨ rSlA X.K v lo hi C3.H Q
    rw [hx.k]
    unfold gSl at p3
    cases w with
    | k u => exact post_stuck p3
    | tup xs =>
      have rv' := rv
      unfold RW at rv
      obtain ⟨c, vs, rfl, h1, h2⟩ := rv
      simp only [fNat_eq, sIxK_eq, beq_dec, cutK_eq] at p3
      refine .inr ⟨c, vs, rfl, h1, fun hw => ?_, fun hw => ?_⟩
      · rw [h2.length] at hw
        rw [decide_eq_true hw.1, decide_eq_true hw.2] at p3
        exact Post.now ok3 p3 _ rv'
      · rw [h2.length] at hw
        have go := post_tup (vs := cutV vs lo hi) (ws := (xs.drop (HT.sIx xs.length 0 lo)).take (HT.sIx xs.length xs.length hi - HT.sIx xs.length 0 lo)) (Q := Q) (W' := W') ok3
        refine go ?_ (rws_cut h2 lo hi)
        by_cases q1 : HT.sIx xs.length 0 lo = 0
        · rw [decide_eq_true q1] at p3
          have q2 : ¬ HT.sIx xs.length xs.length hi = xs.length := fun e => hw ⟨q1, e⟩
          rw [decide_eq_false q2] at p3
          exact p3
        · rw [decide_eq_false q1] at p3
          exact p3
    | mix _ => (first | exact post_stuck (by assumption) | exact .inl (by assumption) | (exfalso; contradiction) | (unfold nkey at *; contradiction) | (unfold RW at *; simp_all; done) | (simp_all; done))
    | pt _ => (first | exact post_stuck (by assumption) | exact .inl (by assumption) | (exfalso; contradiction) | (unfold nkey at *; contradiction) | (unfold RW at *; simp_all; done) | (simp_all; done))
    | obj o =>
      obtain ⟨xs, c, vs, h0, h1, h2, h3, p4⟩ := post_kobj ok3 p3
      unfold RW at rv
      obtain ⟨c', rfl, e⟩ := rv
      rw [h1] at e; cases e
      simp only [fNat_eq, sIxK_eq, cutK_eq, newK_eq] at p4
      exact .inl ⟨c, vs, rfl, SqL.of h2, post_newL (vs := (cutV vs lo hi)) ok3 p4 (rws_cut h3 lo hi)⟩
end
end Ev

namespace Ev
open PySem PySem.Spec PyProof.Rows L2

/-! ### built-in functions and types -/
abbrev Opn := List W → FH → Res W
def CsS (G : Glo) (r : List V → Hp → VK → Prop) (g : Opn) : Prop := ∀ (W' : WX) (C : Cf) (ws : List W) (vs : List V) (Q : VK), C.Ok G → RWs G.K C.ρ C.H ws vs → Post G W' C (g ws C.S) (PhE G Q) → r vs C.H Q
def CallX (G : Glo) (X : Cx) (f : Value) (g : Opn) : Prop := ∃ r, CallR X f r ∧ CsS G r g
noncomputable def evCB (g : Opn) (f : Eva) : Evl := fun l S => (f l S).bnd fun ws S1 => g ws S1
section
variable {G : Glo} {X : Cx} {W' : WX} {pos : Pos}
theorem rd_cb {g : Opn} {r : List V → Hp → VK → Prop} (hg : CsS G r g) {f : Eva} {σ : L2.St} {H : Hp} {Q : VK} (h : rdE G W' (evCB g f) σ H Q) : tCB r (rdA G W' f) σ H Q := by
  obtain ⟨C, l, e, ok, rl, p⟩ := h
  exact ⟨C, l, e, ok, rl, Post.mono (fun ws C1 ok1 x1 p1 vs rv => hg W' C1 ws vs Q ok1 rv p1) (Post.bnd p)⟩
theorem se_callB {x : Str} {id : String} {p : Pos} {e : Expr} {es : List Expr} {g : Opn} {f : Eva} (hc : CallX G X (.builtin id) g) (hg : Gl X x) (hm : X.mg x = none) (hv : bootBuiltins x = some (.builtin id)) (ha : SA G X W' f (e :: es)) (hn : x ≠ "__name__" := by decide) (hdb : (x == ("__debug__" : Str)) = false := by decide)
    (he : starEach (e :: es) X.env = (false, eval e X.env) :: starEach es X.env := by rfl) (hpl : (backTo pos (starEach es X.env)).any (·.1) = false := by rfl) : SE G X W' (evCB g f) (.Call (.Name x p) (e :: es) [] pos) := by
  obtain ⟨r, h1, h2⟩ := hc
  exact pe_imp (pe_callB h1 hg hm hv ha hn hdb he hpl) fun σ H Q h => rd_cb h2 h
theorem se_callTy {x : Str} {T : String} {p : Pos} {e : Expr} {es : List Expr} {g : Opn} {f : Eva} (hc : CallX G X (.type T) g) (hg : Gl X x) (hm : X.mg x = none) (hv : bootBuiltins x = some (.type T)) (ha : SA G X W' f (e :: es)) (hn : x ≠ "__name__" := by decide) (hdb : (x == ("__debug__" : Str)) = false := by decide)
    (he : starEach (e :: es) X.env = (false, eval e X.env) :: starEach es X.env := by rfl) (hpl : (backTo pos (starEach es X.env)).any (·.1) = false := by rfl) : SE G X W' (evCB g f) (.Call (.Name x p) (e :: es) [] pos) := by
  obtain ⟨r, h1, h2⟩ := hc
  exact pe_imp (pe_callTy h1 hg hm hv ha hn hdb he hpl) fun σ H Q h => rd_cb h2 h
theorem se_callG {x : Str} {id : String} {p : Pos} {e : Expr} {es : List Expr} {g : Opn} {f : Eva} (hc : CallX G X (.builtin id) g) (hg : Gl X x) (hm : X.mg x = some (.builtin id)) (ha : SA G X W' f (e :: es)) (hdb : (x == ("__debug__" : Str)) = false := by decide)
    (he : starEach (e :: es) X.env = (false, eval e X.env) :: starEach es X.env := by rfl) (hpl : (backTo pos (starEach es X.env)).any (·.1) = false := by rfl) : SE G X W' (evCB g f) (.Call (.Name x p) (e :: es) [] pos) := by
  obtain ⟨r, h1, h2⟩ := hc
  exact pe_imp (StS.pe_callG h1 hg hm ha hdb he hpl) fun σ H Q h => rd_cb h2 h
theorem rws2 {K : PySem.W.Frag} {ρ : List Addr} {H : Hp} {vs : List V} {w u : W} (h : RWs K ρ H [w, u] vs) : ∃ v z, vs = [v, z] ∧ RW K ρ H w v ∧ RW K ρ H u z := by
  unfold RWs at h
  obtain ⟨v, r, rfl, h1, h2⟩ := h
  obtain ⟨z, rfl, h3⟩ := rws1 h2
  exact ⟨v, z, rfl, h1, h3⟩
noncomputable def one {α : Type} (ws : List W) (k : W → Res α) : Res α := match ws with
  | [] => .stuck
  | w :: r => match r with
    | [] => k w
    | _ :: _ => .stuck
noncomputable def two {α : Type} (ws : List W) (k : W → W → Res α) : Res α := match ws with
  | [] => .stuck
  | w :: r => one r fun u => k w u
theorem post_one {α : Type} {C : Cf} {ws : List W} {vs : List V} (rv : RWs G.K C.ρ C.H ws vs) {k : W → Res α} {Φ : α → Cf → Prop} (p : Post G W' C (one ws k) Φ) : ∃ w v, vs = [v] ∧ RW G.K C.ρ C.H w v ∧ Post G W' C (k w) Φ := by
  cases ws with
  | nil => exact post_stuck p
  | cons w r =>
    cases r with
    | nil =>
      obtain ⟨v, rfl, h⟩ := rws1 rv
      exact ⟨w, v, rfl, h, p⟩
    | cons u r => exact post_stuck p
theorem post_two {α : Type} {C : Cf} {ws : List W} {vs : List V} (rv : RWs G.K C.ρ C.H ws vs) {k : W → W → Res α} {Φ : α → Cf → Prop} (p : Post G W' C (two ws k) Φ) : ∃ w u v z, vs = [v, z] ∧ RW G.K C.ρ C.H w v ∧ RW G.K C.ρ C.H u z ∧ Post G W' C (k w u) Φ := by
  cases ws with
  | nil => exact post_stuck p
  | cons w r =>
    cases r with
    | nil => exact post_stuck p
    | cons u r =>
      cases r with
      | nil =>
        obtain ⟨v, z, rfl, h1, h2⟩ := rws2 rv
        exact ⟨w, u, v, z, rfl, h1, h2, p⟩
      | cons _ _ => exact post_stuck p
noncomputable def okI (i : Int) (S : FH) : Res W := fInt i fun r => .ok (.k (.int r)) S
noncomputable def okB (b : Bool) (S : FH) : Res W := fBool b fun r => .ok (.k (.bl r)) S
theorem post_okI {C : Cf} (ok : C.Ok G) {i : Int} {Q : VK} (p : Post G W' C (okI i C.S) (PhE G Q)) : Q (.int i) C.H := by
  unfold okI at p
  rw [fInt_eq] at p
  exact Post.now ok p _ mk_k
theorem post_okB {C : Cf} (ok : C.Ok G) {i : Bool} {Q : VK} (p : Post G W' C (okB i C.S) (PhE G Q)) : Q (.bl i) C.H := by
  unfold okB at p
  rw [fBool_eq] at p
  exact Post.now ok p _ mk_k
/-! len -/
noncomputable def cLen : Opn := fun ws S => one ws fun w => match w with
  | .tup xs => okI (.ofNat xs.length) S
  | .obj i => kobj i S fun xs => okI (.ofNat xs.length) S
  | _ => .stuck
theorem cx_len (hx : Okx G X) : CallX G X (.builtin "len") cLen := ⟨_, call_len_seq, fun W' C ws vs Q ok rv p => by
  rw [hx.k]
  obtain ⟨w, v, rfl, r, p⟩ := post_one rv p
  cases w with
  | k u => exact post_stuck p
  | tup xs =>
    unfold RW at r
    obtain ⟨a, us, rfl, h1, h2⟩ := r
    exact ⟨a, us, rfl, .inr h1, by rw [h2.length]; exact post_okI ok p⟩
  | mix _ => (first | exact post_stuck (by assumption) | exact .inl (by assumption) | (exfalso; contradiction) | (unfold nkey at *; contradiction) | (unfold RW at *; simp_all; done) | (simp_all; done))
  | pt _ => (first | exact post_stuck (by assumption) | exact .inl (by assumption) | (exfalso; contradiction) | (unfold nkey at *; contradiction) | (unfold RW at *; simp_all; done) | (simp_all; done))
  | obj i =>
    obtain ⟨xs, a, us, _, h1, h2, h3, p⟩ := post_kobj ok p
    unfold RW at r
    obtain ⟨a', rfl, e⟩ := r
    rw [h1] at e; cases e
    exact ⟨a, us, rfl, .inl (SqL.of h2), by rw [h3.length]; exact post_okI ok p⟩⟩
/-! abs, int, max, min, gcd -/
noncomputable def cAbs : Opn := fun ws S => one ws fun w => kint w .stuck fun i => okI (.ofNat i.natAbs) S
theorem cx_abs : CallX G X (.builtin "abs") cAbs := ⟨_, call_abs, fun W' C ws vs Q ok rv p => by
  obtain ⟨w, v, rfl, r, p⟩ := post_one rv p
  obtain ⟨i, e, p⟩ := post_kint p
  rw [e] at r
  refine ⟨i, by rw [rw_int r], ?_⟩
  have := post_okI ok p
  have e2 : (if i < 0 then -i else i) = Int.ofNat i.natAbs := by
    show _ = ((i.natAbs : Nat) : Int)
    split <;> omega
  rw [e2]; exact this⟩
noncomputable def cInt : Opn := fun ws S => one ws fun w => match w with
  | .k (.int i) => .ok w S
  | .k (.bl b) => okI (bI b) S
  | _ => .stuck
theorem cx_int : CallX G X (.type "int") cInt := ⟨_, call_int1, fun W' C ws vs Q ok rv p => by
  obtain ⟨w, v, rfl, r, p⟩ := post_one rv p
  split at p
  · rename_i i
    exact .inl ⟨i, by rw [rw_k r], Post.now ok p _ mk_k⟩
  · rename_i b
    exact .inr ⟨b, by rw [rw_k r], by rw [← bI_eq]; exact post_okI ok p⟩
  · exact post_stuck p⟩
noncomputable def cGcd : Opn := fun ws S => two ws fun a b => kint a .stuck fun i => kint b .stuck fun j => okI (.ofNat (Nat.gcd i.natAbs j.natAbs)) S
theorem cx_gcd : CallX G X (.builtin "math.gcd") cGcd := ⟨_, cr_gcd, fun W' C ws vs Q ok rv p => by
  obtain ⟨w, u, v, z, rfl, r1, r2, p⟩ := post_two rv p
  obtain ⟨i, e, p⟩ := post_kint p
  obtain ⟨j, e', p⟩ := post_kint p
  rw [e] at r1
  rw [e'] at r2
  exact ⟨i, j, by rw [rw_int r1, rw_int r2], post_okI ok p⟩⟩
/-! list, tuple -/
noncomputable def cList : Opn := fun ws S => one ws fun w => match w with
  | .tup xs => newK S (.lst xs) fun n S1 => .ok (.obj n) S1
  | .obj i => kobj i S fun xs => newK S (.lst xs) fun n S1 => .ok (.obj n) S1
  | _ => .stuck
theorem cx_list (hx : Okx G X) : CallX G X (.type "list") cList := ⟨_, call_list_of, fun W' C ws vs Q ok rv p => by
  rw [hx.k]
  obtain ⟨w, v, rfl, r, p⟩ := post_one rv p
  cases w with
  | k u => exact post_stuck p
  | tup xs =>
    unfold RW at r
    obtain ⟨a, us, rfl, h1, h2⟩ := r
    simp only [newK_eq] at p
    exact ⟨a, us, rfl, .inr h1, post_newL (vs := us) ok p h2⟩
  | mix _ => (first | exact post_stuck (by assumption) | exact .inl (by assumption) | (exfalso; contradiction) | (unfold nkey at *; contradiction) | (unfold RW at *; simp_all; done) | (simp_all; done))
  | pt _ => (first | exact post_stuck (by assumption) | exact .inl (by assumption) | (exfalso; contradiction) | (unfold nkey at *; contradiction) | (unfold RW at *; simp_all; done) | (simp_all; done))
  | obj i =>
    obtain ⟨xs, a, us, _, h1, h2, h3, p⟩ := post_kobj ok p
    unfold RW at r
    obtain ⟨a', rfl, e⟩ := r
    rw [h1] at e; cases e
    rw [newK_eq] at p
    exact ⟨a, us, rfl, .inl (SqL.of h2), post_newL (vs := us) ok p h3⟩⟩
noncomputable def cTup : Opn := fun ws S => one ws fun w => match w with
  | .tup xs => .ok w S
  | .obj i => kobj i S fun xs => .ok (.tup xs) S
  | _ => .stuck
theorem cx_tup (hx : Okx G X) : CallX G X (.type "tuple") cTup := ⟨_, call_tuple_of, fun W' C ws vs Q ok rv p => by
  rw [hx.k]
  obtain ⟨w, v, rfl, r, p⟩ := post_one rv p
  cases w with
  | k u => exact post_stuck p
  | tup xs =>
    have r' := r
    unfold RW at r
    obtain ⟨a, us, rfl, h1, h2⟩ := r
    exact ⟨a, us, rfl, .inr ⟨h1, Post.now ok p _ r'⟩⟩
  | mix _ => (first | exact post_stuck (by assumption) | exact .inl (by assumption) | (exfalso; contradiction) | (unfold nkey at *; contradiction) | (unfold RW at *; simp_all; done) | (simp_all; done))
  | pt _ => (first | exact post_stuck (by assumption) | exact .inl (by assumption) | (exfalso; contradiction) | (unfold nkey at *; contradiction) | (unfold RW at *; simp_all; done) | (simp_all; done))
  | obj i =>
    obtain ⟨xs, a, us, _, h1, h2, h3, p⟩ := post_kobj ok p
    unfold RW at r
    obtain ⟨a', rfl, e⟩ := r
    rw [h1] at e; cases e
    exact ⟨a, us, rfl, .inl ⟨SqL.of h2, post_tup ok p h3⟩⟩⟩
/-! all, any of a list of bools -/
noncomputable def blsK {α : Type} (ws : List W) (k : List Bool → Res α) : Res α := List.rec (motive := fun _ => (List Bool → Res α) → Res α) (fun k => k []) (fun w _ ih k => match w with
  | .k (.bl b) => ih fun bs => k (b :: bs)
  | _ => .stuck) ws k
theorem post_bls {α : Type} {C : Cf} {Φ : α → Cf → Prop} : ∀ {ws : List W} {vs : List V} (_ : RWs G.K C.ρ C.H ws vs) {k : List Bool → Res α} (_ : Post G W' C (blsK ws k) Φ), ∃ bs : List Bool, vs = bs.map V.bl ∧ Post G W' C (k bs) Φ
  | [], vs, rv, k, p => by
    unfold RWs at rv
    exact ⟨[], rv, p⟩
  | w :: ws, vs, rv, k, p => by
    unfold RWs at rv
    obtain ⟨v, r, rfl, h1, h2⟩ := rv
    have p' : Post G W' C (match w with
      | .k (.bl b) => blsK ws fun bs => k (b :: bs)
      | _ => .stuck) Φ := p
    split at p'
    · rename_i b
      obtain ⟨bs, e, p2⟩ := post_bls h2 p'
      exact ⟨b :: bs, by rw [rw_k h1, e]; rfl, p2⟩
    · exact post_stuck p'
noncomputable def andL (bs : List Bool) : Bool := List.rec (motive := fun _ => Bool) true (fun b _ ih => match b with
  | true => ih
  | false => false) bs
noncomputable def orL (bs : List Bool) : Bool := List.rec (motive := fun _ => Bool) false (fun b _ ih => match b with
  | true => true
  | false => ih) bs
theorem andL_eq : ∀ bs : List Bool, andL bs = bs.all id
  | [] => rfl
  | b :: bs => by
    have ih := andL_eq bs
    show (match b with | true => andL bs | false => false) = _
    rw [ih, List.all_cons]
    cases b <;> rfl
theorem orL_eq : ∀ bs : List Bool, orL bs = bs.any id
  | [] => rfl
  | b :: bs => by
    have ih := orL_eq bs
    show (match b with | true => true | false => orL bs) = _
    rw [ih, List.any_cons]
    cases b <;> rfl
noncomputable def cAll : Opn := fun ws S => one ws fun w => match w with
  | .obj i => kobj i S fun xs => blsK xs fun bs => okB (andL bs) S
  | _ => .stuck
theorem cx_all (hx : Okx G X) : CallX G X (.builtin "all") cAll := ⟨_, cr_all hx.calm, fun W' C ws vs Q ok rv p => by
  rw [hx.k]
  obtain ⟨w, v, rfl, r, p⟩ := post_one rv p
  cases w with
  | k u => exact post_stuck p
  | tup xs => exact post_stuck p
  | mix _ => (first | exact post_stuck (by assumption) | exact .inl (by assumption) | (exfalso; contradiction) | (unfold nkey at *; contradiction) | (unfold RW at *; simp_all; done) | (simp_all; done))
  | pt _ => (first | exact post_stuck (by assumption) | exact .inl (by assumption) | (exfalso; contradiction) | (unfold nkey at *; contradiction) | (unfold RW at *; simp_all; done) | (simp_all; done))
  | obj i =>
    obtain ⟨xs, a, us, _, h1, h2, h3, p⟩ := post_kobj ok p
    unfold RW at r
    obtain ⟨a', rfl, e⟩ := r
    rw [h1] at e; cases e
    obtain ⟨bs, e, p⟩ := post_bls h3 p
    subst e
    exact ⟨a, bs, rfl, SqL.of h2, by rw [← andL_eq]; exact post_okB ok p⟩⟩
end
end Ev

namespace Ev
open PySem PySem.Spec PyProof.Rows L2
section
variable {G : Glo} {X : Cx} {W' : WX} {pos : Pos}
/-! ### isinstance with built-in types: 0 int, 1 bool, 2 str, 3 list, 4 tuple, 9 NoneType -/
def tyN (n : Nat) : String := match n with
  | 0 => "int"
  | 1 => "bool"
  | 2 => "str"
  | 3 => "list"
  | 4 => "tuple"
  | _ => "NoneType"
noncomputable def tyc {α : Type} (w : W) (S : FH) (k : Nat → Res α) : Res α := match w with
  | .k v => match v with
    | .non => k 9
    | .bl _ => k 1
    | .int _ => k 0
    | .str _ => k 2
    | _ => .stuck
  | .tup _ => k 4
  | .mix _ => .stuck
  | .pt _ => .stuck
  | .obj i => match S.get i with
    | some v => match v with
      | .dct _ => .stuck
      | .fdc _ => .stuck
      | .ins _ _ => .stuck
      | .dki _ => .stuck
      | .sti _ => .stuck
      | .exv _ => .stuck
      | _ => k 3
    | none => .stuck
theorem post_tyc {α : Type} {C : Cf} (ok : C.Ok G) {w : W} {v : V} (r : RW G.K C.ρ C.H w v) {k : Nat → Res α} {Φ : α → Cf → Prop} (p : Post G W' C (tyc w C.S k) Φ) :
    ∃ t, (t = 0 ∨ t = 1 ∨ t = 2 ∨ t = 3 ∨ t = 4 ∨ t = 9) ∧ TyX G.K C.H v (.type (tyN t)) ∧ Post G W' C (k t) Φ := by
  unfold tyc at p
  cases w with
  | k u =>
    rw [rw_k r]
    cases u with
    | non => exact ⟨9, by decide, .base .non, p⟩
    | bl b => exact ⟨1, by decide, .base (.bl b), p⟩
    | int i => exact ⟨0, by decide, .base (.int i), p⟩
    | str x => exact ⟨2, by decide, .base (.str x), p⟩
    | _ => exact post_stuck p
  | tup xs =>
    unfold RW at r
    obtain ⟨a, vs, rfl, h1, _⟩ := r
    refine ⟨4, by decide, ?_, p⟩
    rcases h1 with (h | ⟨o, h⟩) | ⟨o, its, n, h, c, _⟩
    · exact .base (.tup h)
    · exact .fTuple h
    · exact .kTuple h c
  | mix _ => exact post_stuck p
  | pt _ => exact post_stuck p
  | obj i =>
    unfold RW at r
    obtain ⟨a, rfl, h1⟩ := r
    simp only at p
    split at p
    · rename_i hv hx
      obtain ⟨a', o, h2, h3, h4⟩ := ok.ob i _ hx
      rw [h1] at h2; cases h2
      cases hv with
      | dct kvs => exact post_stuck p
      | fdc kvs => exact post_stuck p
      | ins c fs => exact post_stuck p
      | dki _ => exact post_stuck p
      | sti _ => exact post_stuck p
      | exv _ => exact post_stuck p
      | lst xs =>
        cases o <;> try exact h4.elim
        exact ⟨3, by decide, .base (.lst h3), p⟩
      | cel =>
        cases o <;> try exact h4.elim
        exact ⟨3, by decide, .base (.lst h3), p⟩
      | urn n =>
        cases o <;> try exact h4.elim
        exact ⟨3, by decide, .base (.lst h3), p⟩
    · exact post_stuck p
def kit1 (t c : Nat) : Bool := match Nat.beq t c with
  | true => true
  | false => match Nat.beq t 1 with
    | true => Nat.beq c 0
    | false => false
noncomputable def kitN (t : Nat) (cs : List Nat) : Bool := List.rec (motive := fun _ => Bool) false (fun c _ ih => match kit1 t c with
  | true => true
  | false => ih) cs
theorem kit1_of (K : PySem.W.Frag) {t c : Nat} (ht : t = 0 ∨ t = 1 ∨ t = 2 ∨ t = 3 ∨ t = 4 ∨ t = 9) (hc : c = 0 ∨ c = 1 ∨ c = 2 ∨ c = 3 ∨ c = 4) : PySem.W.kitOne K (.type (tyN t)) (.type (tyN c)) = some (kit1 t c) := by
  rcases ht with rfl | rfl | rfl | rfl | rfl | rfl <;> rcases hc with rfl | rfl | rfl | rfl | rfl <;> kernel_rfl
abbrev low5 (cs : List Nat) : Prop := ∀ c ∈ cs, c = 0 ∨ c = 1 ∨ c = 2 ∨ c = 3 ∨ c = 4
theorem kitN_of (K : PySem.W.Frag) {t : Nat} (ht : t = 0 ∨ t = 1 ∨ t = 2 ∨ t = 3 ∨ t = 4 ∨ t = 9) : ∀ {cs : List Nat}, low5 cs → PySem.W.kitAny K (.type (tyN t)) (cs.map fun c => .type (tyN c)) = some (kitN t cs)
  | [], _ => rfl
  | c :: cs, h => by
    have ih := kitN_of K ht (cs := cs) fun c hc => h c (List.mem_cons_of_mem _ hc)
    have e : kitN t (c :: cs) = match kit1 t c with
      | true => true
      | false => kitN t cs := rfl
    rw [List.map_cons]
    unfold PySem.W.kitAny
    rw [kit1_of K ht (h c (List.mem_cons_self ..)), e]
    cases kit1 t c with
    | true => rfl
    | false => exact ih
noncomputable def tycB (w : W) (S : FH) (cs : List Nat) : Res W := match w with
  | .mix _ => match kitN 3 cs with
    | true => match kitN 4 cs with
      | true => okB true S
      | false => .stuck
    | false => match kitN 4 cs with
      | true => .stuck
      | false => okB false S
  | _ => tyc w S fun t => okB (kitN t cs) S
theorem post_tycB {C : Cf} (ok : C.Ok G) {w : W} {v : V} (r : RW G.K C.ρ C.H w v) {cs : List Nat} {Φ : W → Cf → Prop} (p : Post G W' C (tycB w C.S cs) Φ) :
    ∃ t, (t = 0 ∨ t = 1 ∨ t = 2 ∨ t = 3 ∨ t = 4 ∨ t = 9) ∧ TyX G.K C.H v (.type (tyN t)) ∧ Post G W' C (okB (kitN t cs) C.S) Φ := by
  unfold tycB at p
  cases w with
  | mix xs =>
    have p3 : Post G W' C (okB (kitN 3 cs) C.S) Φ ∧ Post G W' C (okB (kitN 4 cs) C.S) Φ := by
      simp only at p
      cases q3 : kitN 3 cs <;> cases q4 : kitN 4 cs <;> simp only [q3, q4] at p <;> first | exact ⟨p, p⟩ | exact post_stuck p
    unfold RW at r
    obtain ⟨a, vs, rfl, h1, _⟩ := r
    rcases h1 with h1 | ⟨o, h1⟩
    · refine ⟨4, by decide, ?_, p3.2⟩
      rcases h1 with (h | ⟨o, h⟩) | ⟨o, its, n, h, c, _⟩
      · exact .base (.tup h)
      · exact .fTuple h
      · exact .kTuple h c
    · exact ⟨3, by decide, .base (.frz h1), p3.1⟩
  | k u => exact post_tyc ok r p
  | pt _ => exact post_tyc ok r p
  | tup xs => exact post_tyc ok r p
  | obj i => exact post_tyc ok r p
noncomputable def evIsi (cs : List Nat) (f : Evl) : Evl := fun l S => (f l S).bnd fun w S1 => tycB w S1 cs
theorem se_isi {c : Nat} {f : Evl} {e ce : Expr} {p : Pos} (hx : Okx G X) (h : SE G X W' f e) (hce : PE X ce (tC (.ty (tyN c)))) (hc : c = 0 ∨ c = 1 ∨ c = 2 ∨ c = 3 ∨ c = 4) (hg : Gl X "isinstance") (hm : X.mg "isinstance" = none)
    (he1 : starEach [e, ce] X.env = (false, eval e X.env) :: starEach [ce] X.env := by rfl) (he2 : starEach [ce] X.env = (false, eval ce X.env) :: starEach [] X.env := by rfl) (hpl : (backTo pos (starEach [ce] X.env)).any (·.1) = false := by rfl) :
    SE G X W' (evIsi [c] f) (.Call (.Name "isinstance" p) [e, ce] [] pos) :=
  pe_imp (pe_callB call_isi hg hm PyProof.Rows.boot_isinstance (pa_cons h (pa_cons hce pa_nil he2) he1) (by decide) (by decide) he1 hpl) fun σ H Q ⟨C, l, e, ok, r, p⟩ => by
    subst e
    refine ⟨C, l, rfl, ok, r, Post.mono (fun w C1 ok1 x1 p1 v rv => ?_) (Post.bnd p)⟩
    obtain ⟨t, ht, ty, p2⟩ := post_tycB ok1 rv p1
    refine ⟨v, .ty (tyN c), _, _, kit1 t c, rfl, .ty _, by rw [hx.k]; exact ty, by rw [hx.k]; exact kit1_of G.K ht hc, ?_⟩
    have := post_okB ok1 p2
    have e : kitN t [c] = kit1 t c := by
      show (match kit1 t c with | true => true | false => false) = _
      cases kit1 t c <;> rfl
    rw [e] at this
    exact this
theorem vals_ty : ∀ cs : List Nat, Paired ClsV (cs.map fun c => V.ty (tyN c)) (cs.map fun c => Value.type (tyN c))
  | [] => .nil
  | c :: cs => .cons (.ty _) (vals_ty cs)
/-- the list of type names of a tuple -/
def tTys : List Nat → TA
  | [] => tNil
  | c :: cs => tCons (tC (.ty (tyN c))) (tTys cs)
theorem tTys_at {σ : L2.St} {H : Hp} : ∀ {cs : List Nat} {Q : List V → Hp → Prop}, Q (cs.map fun c => V.ty (tyN c)) H → tTys cs σ H Q
  | [], _, h => h
  | c :: cs, Q, h => tTys_at (cs := cs) (Q := fun vs H1 => Q (V.ty (tyN c) :: vs) H1) h
theorem se_isiT {cs : List Nat} {f : Evl} {e : Expr} {es : List Expr} {k : Nat} {p tp : Pos} (hx : Okx G X) (h : SE G X W' f e) (hce : PA X es (tTys cs)) (hc : low5 cs) (hl : cs.length ≤ 100) (hg : Gl X "isinstance") (hm : X.mg "isinstance" = none)
    (he1 : starEach [e, .Tuple es k tp] X.env = (false, eval e X.env) :: starEach [.Tuple es k tp] X.env := by rfl) (he2 : starEach [.Tuple es k tp] X.env = (false, eval (.Tuple es k tp) X.env) :: starEach [] X.env := by rfl) (hpl : (backTo pos (starEach [.Tuple es k tp] X.env)).any (·.1) = false := by rfl) :
    SE G X W' (evIsi cs f) (.Call (.Name "isinstance" p) [e, .Tuple es k tp] [] pos) :=
  pe_imp (pe_callB call_isiT hg hm PyProof.Rows.boot_isinstance (pa_cons h (pa_cons (pe_tup hce) pa_nil he2) he1) (by decide) (by decide) he1 hpl) fun σ H Q ⟨C, l, e, ok, r, p⟩ => by
    subst e
    refine ⟨C, l, rfl, ok, r, Post.mono (fun w C1 ok1 x1 p1 v rv => ?_) (Post.bnd p)⟩
    refine tTys_at ?_
    refine ⟨by rw [List.length_map, sizeLine_eq]; omega, fun q hq => ?_⟩
    obtain ⟨ok2, x2⟩ := Cf.tupd (o := .tup (cs.map fun c => V.ty (tyN c))) ok1 hq
    obtain ⟨t, ht, ty, p2⟩ := post_tycB ok2 (rv.mono ok1 x2) (Post.base x2 p1)
    refine ⟨v, q, _, _, _, kitN t cs, rfl, upd_same, vals_ty cs, by rw [hx.k]; exact ty, by rw [hx.k]; exact kitN_of G.K ht hc, ?_⟩
    exact post_okB ok2 p2
/-! ### o[i] = e -/
noncomputable def updK {α : Type} (ws : List W) (j : Nat) (w : W) (k : List W → Res α) : Res α := List.rec (motive := fun _ => Nat → (List W → Res α) → Res α) (fun _ _ => .stuck) (fun x r ih j k => Nat.rec (motive := fun _ => Res α) (k (w :: r)) (fun m _ => ih m fun r' => k (x :: r')) j) ws j k
theorem post_updK {α : Type} {C : Cf} {w : W} {Φ : α → Cf → Prop} : ∀ {ws : List W} {j : Nat} {k : List W → Res α}, Post G W' C (updK ws j w k) Φ → j < ws.length ∧ Post G W' C (k (ws.set j w)) Φ
  | [], j, k, p => post_stuck p
  | x :: ws, 0, k, p => ⟨by simp, p⟩
  | x :: ws, j + 1, k, p => by
    obtain ⟨h1, h2⟩ := post_updK (ws := ws) (j := j) (k := fun r' => k (x :: r')) p
    exact ⟨by simpa using h1, h2⟩
noncomputable def setIx {α : Type} (o i v : W) (S : FH) (k : FH → Res α) : Res α := match o with
  | .obj o => kobj o S fun xs => kint i .stuck fun i => ixK xs.length i fun j => updK xs j v fun ys => S.setK o (.lst ys) k
  | _ => .stuck
theorem post_setIx {α : Type} {C : Cf} (ok : C.Ok G) {o i v : W} {ov iv vv : V} (ro : RW G.K C.ρ C.H o ov) (ri : RW G.K C.ρ C.H i iv) (rv : RW G.K C.ρ C.H v vv) {k : FH → Res α} {Φ : α → Cf → Prop} (p : Post G W' C (setIx o i v C.S k) Φ) :
    ∃ C' : Cf, C'.Ok G ∧ Ext C C' ∧ rSetL ov iv vv C.H (fun H => H = C'.H) ∧ Post G W' C' (k C'.S) Φ := by
  unfold setIx at p
  cases o with
  | k u => exact post_stuck p
  | tup xs => exact post_stuck p
  | mix _ => (first | exact post_stuck (by assumption) | exact .inl (by assumption) | (exfalso; contradiction) | (unfold nkey at *; contradiction) | (unfold RW at *; simp_all; done) | (simp_all; done))
  | pt _ => (first | exact post_stuck (by assumption) | exact .inl (by assumption) | (exfalso; contradiction) | (unfold nkey at *; contradiction) | (unfold RW at *; simp_all; done) | (simp_all; done))
  | obj o =>
    obtain ⟨xs, a, us, h0, h1, h2, h3, p⟩ := post_kobj ok p
    unfold RW at ro
    obtain ⟨a', rfl, e⟩ := ro
    rw [h1] at e; cases e
    obtain ⟨n, e, p⟩ := post_kint p
    rw [e] at ri
    obtain ⟨j, hj, p⟩ := post_ixK p
    obtain ⟨hl, p⟩ := post_updK p
    rw [FH.setK_eq] at p
    obtain ⟨ok', x'⟩ := Cf.put (o := .lst (us.set j vv)) ok h0 h1 (show RO G C.ρ C.H _ (.lst (xs.set j v)) (.lst (us.set j vv)) from RWs.set rv j h3)
    refine ⟨_, ok', x', ⟨a, us, n, j, rfl, rw_int ri, h2, by rw [h3.length]; exact hj, rfl⟩, Post.base x' p⟩
/-! ### methods of lists -/
abbrev Opm := W → List W → FH → Res W
def MtS (G : Glo) (r : V → List V → Hp → VK → Prop) (g : Opm) : Prop := ∀ (W' : WX) (C : Cf) (w : W) (v : V) (ws : List W) (vs : List V) (Q : VK), C.Ok G → RW G.K C.ρ C.H w v → RWs G.K C.ρ C.H ws vs → Post G W' C (g w ws C.S) (PhE G Q) → r v vs C.H Q
noncomputable def lstK {α : Type} (w : W) (S : FH) (k : Res α) : Res α := match w with
  | .obj i => match S.get i with
    | some (.lst _) => k
    | _ => .stuck
  | _ => .stuck
theorem post_lstK {α : Type} {C : Cf} (ok : C.Ok G) {w : W} {v : V} (r : RW G.K C.ρ C.H w v) {k : Res α} {Φ : α → Cf → Prop} (p : Post G W' C (lstK w C.S k) Φ) : tyV G.K "list" v C.H ∧ Post G W' C k Φ := by
  unfold lstK at p
  cases w with
  | k u => exact post_stuck p
  | tup xs => exact post_stuck p
  | mix _ => (first | exact post_stuck (by assumption) | exact .inl (by assumption) | (exfalso; contradiction) | (unfold nkey at *; contradiction) | (unfold RW at *; simp_all; done) | (simp_all; done))
  | pt _ => (first | exact post_stuck (by assumption) | exact .inl (by assumption) | (exfalso; contradiction) | (unfold nkey at *; contradiction) | (unfold RW at *; simp_all; done) | (simp_all; done))
  | obj i =>
    simp only at p
    split at p
    · rename_i xs hx
      obtain ⟨a, vs, h1, h2, h3⟩ := Cf.lstAt ok hx
      unfold RW at r
      obtain ⟨a', rfl, e⟩ := r
      rw [h1] at e; cases e
      exact ⟨.inl ⟨rfl, vs, SqL.of h2⟩, p⟩
    · exact post_stuck p
noncomputable def evMt (g : Opm) (fo : Evl) (f : Eva) : Evl := fun l S => (fo l S).bnd fun w S1 => lstK w S1 ((f l S1).bnd fun ws S2 => g w ws S2)
theorem se_mt {name : Str} {id : String} {o e : Expr} {es : List Expr} {apos : Pos} {r : V → List V → Hp → VK → Prop} {g : Opm} {fo : Evl} {f : Eva} (hx : Okx G X) (slot : Slot "list" name id) (hty : typeOf (.builtin id) = pure (.type "method_descriptor")) (hm : MtR X id r) (hg : MtS G r g) (ho : SE G X W' fo o) (ha : SA G X W' f (e :: es))
    (hbase : attributeBase o name X.env (eval o X.env) = eval o X.env := by rfl)
    (hfew : ((backTo pos (starEach (e :: es) X.env)).all (fun x => !x.1) && (backToKw pos (keywordEach [] X.env)).all (fun x => x.1.isSome)
      && decide ((e :: es).length + ([] : List Keyword).length + (if ([] : List Keyword).isEmpty then 0 else 1) < 30)) = true := by rfl)
    (hline : (apos.endLine == pos.line) = true := by rfl) (hs : starEach (e :: es) X.env = (false, eval e X.env) :: starEach es X.env := by rfl) (hplain : (backTo pos (starEach es X.env)).any (·.1) = false := by rfl) :
    SE G X W' (evMt g fo f) (.Call (.Attribute o name apos) (e :: es) [] pos) :=
  pe_imp (pe_bm PySem.F.plainAttrs_list slot hty hm ho ha hbase hfew hline hs hplain) fun σ H Q ⟨C, l, e, ok, rl, p⟩ => by
    subst e
    refine ⟨C, l, rfl, ok, rl, Post.mono (fun w C1 ok1 x1 p1 v rv => ?_) (Post.bnd p)⟩
    obtain ⟨ty, p2⟩ := post_lstK ok1 rv p1
    refine ⟨by rw [hx.k]; exact ty, C1, l, rfl, ok1, rl.mono ok x1, Post.mono (fun ws C2 ok2 x2 p3 vs rvs => ?_) (Post.bnd p2)⟩
    exact hg W' C2 w v ws vs Q ok2 (rv.mono ok1 x2) rvs p3
noncomputable def oobj {α : Type} (w : W) (S : FH) (k : Nat → List W → Res α) : Res α := match w with
  | .obj i => kobj i S fun xs => k i xs
  | _ => .stuck
theorem post_oobj {α : Type} {C : Cf} (ok : C.Ok G) {w : W} {v : V} (r : RW G.K C.ρ C.H w v) {k : Nat → List W → Res α} {Φ : α → Cf → Prop} (p : Post G W' C (oobj w C.S k) Φ) :
    ∃ i xs a vs, v = .ref a ∧ C.S.get i = some (.lst xs) ∧ C.ρ[i]? = some a ∧ C.H a = some (.lst vs) ∧ RWs G.K C.ρ C.H xs vs ∧ Post G W' C (k i xs) Φ := by
  unfold oobj at p
  cases w with
  | k u => exact post_stuck p
  | tup xs => exact post_stuck p
  | mix _ => (first | exact post_stuck (by assumption) | exact .inl (by assumption) | (exfalso; contradiction) | (unfold nkey at *; contradiction) | (unfold RW at *; simp_all; done) | (simp_all; done))
  | pt _ => (first | exact post_stuck (by assumption) | exact .inl (by assumption) | (exfalso; contradiction) | (unfold nkey at *; contradiction) | (unfold RW at *; simp_all; done) | (simp_all; done))
  | obj i =>
    obtain ⟨xs, a, vs, h0, h1, h2, h3, p⟩ := post_kobj ok p
    unfold RW at r
    obtain ⟨a', rfl, e⟩ := r
    rw [h1] at e; cases e
    exact ⟨i, xs, a, vs, rfl, h0, h1, h2, h3, p⟩
theorem post_put {C : Cf} (ok : C.Ok G) {i : Nat} {v0 : HV} {xs : List W} {vs : List V} {a : Addr} {w : W} {u : V} {Q : VK} (h0 : C.S.get i = some v0) (h1 : C.ρ[i]? = some a) (r : RWs G.K C.ρ C.H xs vs) (rw_ : RW G.K C.ρ C.H w u)
    (p : Post G W' C (.ok w (C.S.set i (.lst xs))) (PhE G Q)) (hv : ∀ kvs, v0 ≠ .fdc kvs := by intro _ z; cases z) : Q u (upd C.H a (.lst vs)) := by
  obtain ⟨ok', x'⟩ := Cf.put (o := .lst vs) (v := .lst xs) ok h0 h1 r hv
  have p' := Post.base x' p
  unfold Post at p'
  exact p' ⟨C.ρ, upd C.H a (.lst vs), C.S.set i (.lst xs)⟩ rfl ok' (Ext.refl _) u (rw_.mono ok x')
noncomputable def mApp : Opm := fun w ws S => one ws fun y => oobj w S fun i xs => match short xs with
  | true => appK xs [y] fun zs => S.setK i (.lst zs) fun S1 => .ok (.k .non) S1
  | false => .stuck
theorem ms_app : MtS G rAppend mApp := fun W' C w v ws vs Q ok rv rvs p => by
  obtain ⟨y, u, rfl, ru, p⟩ := post_one rvs p
  obtain ⟨i, xs, a, us, rfl, h0, h1, h2, h3, p⟩ := post_oobj ok rv p
  cases q : short xs with
  | false => simp only [q] at p; exact post_stuck p
  | true =>
    simp only [q, appK_eq, FH.setK_eq] at p
    have l3 : xs.length ≤ 10000 := Nat.le_of_ble_eq_true q
    refine ⟨a, us, u, rfl, rfl, h2, by rw [h3.length, sizeLine_eq]; omega, post_put ok h0 h1 (h3.append (.cons ru .nil)) mk_k p⟩
/-! ### x op= e at a name -/
def AugX (G : Glo) (X : Cx) (op : Operator) (g : Op2) : Prop := ∃ ti : TIp, PIp X op ti ∧ OpS G ti g
noncomputable def esAug (i : Nat) (g : Op2) (f : Evl) : Evs := fun l S => match getL l i with
  | some w => (f l S).bnd fun y S1 => (g w y S1).bnd fun z S2 => setK l i (some z) fun l1 => .ok (.nx l1) S2
  | none => .stuck
theorem ss_aug {i : Nat} {x : Str} {op : Operator} {g : Op2} {f : Evl} {e : Expr} {pos' : Pos} (hN : X.N.Nodup) (hi : X.N[i]? = some x) (hx : Loc X.env.scope x) (he : SE G X W' f e) (ho : AugX G X op g) (hf : X.fn x = true ∨ X.env.scope.names.lookup x = some .local := by first | exact .inl rfl | exact .inr rfl | assumption) :
    SS G X W' (esAug i g f) (.AugAssign (.Name x pos') op e pos) := by
  obtain ⟨ti, h1, h2⟩ := ho
  refine ps_imp (ps_aug hN hi hx he h1 hf) fun D σ H ⟨C, l, e, ok, r, p⟩ => ?_
  subst e
  unfold esAug at p
  cases q : getL l i with
  | none => simp only [q] at p; exact post_stuck p
  | some w =>
    simp only [q] at p
    obtain ⟨v, hv, rv⟩ := r.get q
    refine ⟨v, hv, C, l, rfl, ok, r, Post.mono (fun y C1 ok1 x1 p1 u ru => ?_) (Post.bnd (k := fun y S1 => (g w y S1).bnd fun z S2 => setK l i (some z) fun l1 => Res.ok (Fl.nx l1) S2) p)⟩
    refine h2 W' C1 w y v u _ ok1 (rv.mono ok x1) ru (Post.mono (fun z C2 ok2 x2 p2 zv rz => ?_) (Post.bnd (k := fun z S2 => setK l i (some z) fun l1 => Res.ok (Fl.nx l1) S2) p1))
    rw [setK_eq] at p2
    exact (Post.now (W' := W') ok2 p2) _ (((r.mono ok x1).mono ok1 x2).set rz)
theorem ax_add : AugX G X .Add (g2I (fun _ _ => true) Int.add) := ⟨_, ip_add, fun W' C a b x y Q ok ra rb p => by
  obtain ⟨i, j, h1, h2, h3⟩ := ops_2I0 (h := fun i j => .int (i + j)) (fun _ _ => rfl) W' C a b x y Q ok ra rb p
  exact ⟨i, j, h1, h2, h3⟩⟩
end
end Ev

namespace Ev
open PySem PySem.Spec PyProof.Rows L2
/-! enumerate of a tuple -/
section
variable {prog : Program} {w : World} {A : Around} {E : Value → Shared → Prop} {s : Shared}
end
end Ev

namespace Ev
open PySem PySem.Spec PyProof.Rows L2 RZ RT
section
variable {G : Glo} {X : Cx} {W' : WX} {pos : Pos}
theorem Cf.newTup {C : Cf} (ok : C.Ok G) {T : Addr} (hT : C.H T = none) {ws : List W} {vs : List V} (r : RWs G.K C.ρ C.H ws vs) :
    ∃ C' : Cf, C'.H = upd C.H T (.tup vs) ∧ C'.S = C.S ∧ C'.Ok G ∧ Ext C C' ∧ RW G.K C'.ρ C'.H (.tup ws) (.ref T) := by
  obtain ⟨ok1, x1⟩ := Cf.tupd (o := .tup vs) ok hT
  refine ⟨⟨C.ρ, upd C.H T (.tup vs), C.S⟩, rfl, rfl, ok1, x1, ?_⟩
  unfold RW
  exact ⟨T, vs, rfl, SqT.of upd_same, RWs.mono ok x1 ws r⟩
/-! ### enumerate -/
/-! ### zip -/
noncomputable def zipW (a b : Option W) : Option W := match a with
  | some x => match b with
    | some y => some (.tup [x, y])
    | none => none
  | none => none
theorem zip_none {K : PySem.W.Frag} {ρ : List Addr} {H : Hp} {ws us : List W} {vs zs : List V} {i : Nat} (h1 : RWs K ρ H ws vs) (h2 : RWs K ρ H us zs) (q : zipW (nth ws i) (nth us i) = none) : vs.length ≤ i ∨ zs.length ≤ i := by
  cases e1 : nth ws i with
  | none => exact .inl ((h1.get' i).1 e1)
  | some x =>
    cases e2 : nth us i with
    | none => exact .inr ((h2.get' i).1 e2)
    | some y => rw [e1, e2] at q; cases q
theorem zip_some {K : PySem.W.Frag} {ρ : List Addr} {H : Hp} {ws us : List W} {vs zs : List V} {i : Nat} {w : W} (h1 : RWs K ρ H ws vs) (h2 : RWs K ρ H us zs) (q : zipW (nth ws i) (nth us i) = some w) :
    ∃ x y v z, w = .tup [x, y] ∧ vs[i]? = some v ∧ zs[i]? = some z ∧ RW K ρ H x v ∧ RW K ρ H y z := by
  cases e1 : nth ws i with
  | none => rw [e1] at q; cases q
  | some x =>
    cases e2 : nth us i with
    | none => rw [e1, e2] at q; cases q
    | some y =>
      rw [e1, e2] at q
      cases q
      obtain ⟨v, a1, a2⟩ := (h1.get' i).2 x e1
      obtain ⟨z, b1, b2⟩ := (h2.get' i).2 y e2
      exact ⟨x, y, v, z, rfl, a1, b1, a2, b2⟩
/-! ### reversed -/
theorem blt_of {i n : Nat} (h : Nat.blt i n = true) : i < n := Nat.le_of_ble_eq_true h
/-! ### range(a, b, -1) -/
/-! ### targets: (a, b, ..) = a list -/
noncomputable def tgAny (n : Nat) (r : Tgs) : Tg := fun w l S => match w with
  | .tup _ => tgTup n r w l S
  | _ => tgLst n r w l S
theorem kk_lst {ks : List Nat} {r : Tgs} {g : TGs} {n : Nat} (hk : X.K = G.K) (k1 : KKs G ks r g) : KK G ks (tgLst n r) (gUnl X.K n g) := fun C l l1 σ w v Q ok rl rv e kk => by
  rw [hk]
  unfold tgLst at e
  split at e
  · rename_i i
    unfold RW at rv
    obtain ⟨a, rfl, h1⟩ := rv
    split at e
    · rename_i ws hx
      obtain ⟨a', vs, h2, h3, h4⟩ := Cf.lstAt ok hx
      rw [h1] at h2; cases h2
      cases q : Nat.beq ws.length n with
      | false => simp only [q] at e; cases e
      | true =>
        simp only [q] at e
        exact ⟨a, vs, rfl, SqL.of h3, by rw [h4.length]; exact Nat.eq_of_beq_eq_true q, k1 C l l1 σ ws vs Q ok rl h4 e kk⟩
    · cases e
  · cases e
theorem tg_any {ks : List Nat} {r : Tgs} {es : List Expr} {k n : Nat} (hx : Okx G X) (h : TgsS G X ks r es)
    (hn : (assignEach es X.env).length = n := by rfl) (hst : (assignEach es X.env).findIdx? (·.1) = none := by rfl) : TgS G X ks (tgAny n r) (.Tuple es k pos) := by
  obtain ⟨g, p, k1⟩ := h
  refine ⟨fun v σ H Q => gUnl X.K n g v σ H Q ∨ gTup X.K n g v σ H Q, ⟨fun pins s σ H v u Q I r h => ?_⟩, ?_⟩
  · rcases h with h | h
    · exact (pg_unl (pos := pos) (k := k) hx.calm p hn hst).run pins s σ H v u Q I r h
    · exact (pg_tup (pos := pos) (k := k) hx.calm p hn hst).run pins s σ H v u Q I r h
  · intro C l l1 σ w v Q ok rl rv e kk
    unfold tgAny at e
    split at e
    · exact .inr (kk_tup hx.k k1 C l l1 σ _ v Q ok rl rv e kk)
    · exact .inl (kk_lst hx.k k1 C l l1 σ w v Q ok rl rv e kk)
/-! ### three names at once -/
noncomputable def esPar3 (i j k : Nat) (f : Eva) : Evs := fun l S => (f l S).bnd fun ws S1 => match ws with
  | [a, b, c] => setK l i (some a) fun l1 => setK l1 j (some b) fun l2 => setK l2 k (some c) fun l3 => .ok (.nx l3) S1
  | _ => .stuck
theorem ss_par3 {i j k : Nat} {x y z : Str} {a b c : Expr} {f : Eva} {px py pz pt : Pos} {kt k2 pt2} (hc : X.calm = true) (hN : X.N.Nodup) (hi : X.N[i]? = some x) (hj : X.N[j]? = some y) (hl : X.N[k]? = some z) (hij : i ≠ j) (hil : i ≠ k) (hjl : j ≠ k)
    (hx : X.env.scope.names.lookup x = some .local) (hy : X.env.scope.names.lookup y = some .local) (hz : X.env.scope.names.lookup z = some .local) (ha : SA G X W' f [a, b, c])
    (hw : swappedStores [.Tuple [.Name x px, .Name y py, .Name z pz] kt pt] (.Tuple [a, b, c] k2 pt2) X.env = pure (some [x, y, z]))
    (hs : swapsWithSole [.Tuple [.Name x px, .Name y py, .Name z pz] kt pt] (.Tuple [a, b, c] k2 pt2) pos.line X.env = pure false := by rfl) :
    SS G X W' (esPar3 i j k f) (.Assign [.Tuple [.Name x px, .Name y py, .Name z pz] kt pt] (.Tuple [a, b, c] k2 pt2) pos) := ps_imp (ps_par3 hc hN hi hj hl hij hil hjl hx hy hz ha hw hs) fun D σ H ⟨C, l, e, ok, r, p⟩ => by
  subst e
  refine ⟨C, l, rfl, ok, r, Post.mono (fun ws C1 ok1 x1 p1 vs rvs => ?_) (Post.bnd p)⟩
  split at p1
  · rename_i a b c
    unfold RWs at rvs
    obtain ⟨v, vr, rfl, rv, rvs⟩ := rvs
    obtain ⟨u, w, rfl, ru, rw_⟩ := rws2 rvs
    simp only [setK_eq] at p1
    exact ⟨v, u, w, rfl, (Post.now (W' := W') ok1 p1) _ ((((r.mono ok x1).set rv).set ru).set rw_)⟩
  · exact post_stuck p1
end
end Ev

namespace Ev
open PySem PySem.Spec PyProof.Rows L2
/-! comprehensions that an exception leaves -/
section
variable {M : Model} {A : Around} {E : Value → Shared → Prop} {s : Shared} {env : Env}
def compPostF (M : Model) (A : Around) (E : Value → Shared → Prop) (use : Option (Value → Sem Unit)) (Q : Value → Shared → Prop) (acc : Value) (cenv : Env) (r : Result) (s' : Shared) : Prop :=
  match r, use with
  | .ok _, none => ∃ m, s'.heap.Ns cenv.locals m ∧ ∀ h', Heap.SameBut cenv.locals s'.heap h' → Q acc { s' with heap := h' }
  | .ok _, some u => wpAny M A (u acc) (fun _ s'' => ∃ m, s''.heap.Ns cenv.locals m ∧ ∀ h', Heap.SameBut cenv.locals s''.heap h' → Q .none { s'' with heap := h' }) E s'
  | .error x, _ => ∃ m, s'.heap.Ns cenv.locals m ∧ ∀ h', Heap.SameBut cenv.locals s'.heap h' → wpAny M A (passOn "comprehension.variables-let-go" x cenv : Sem Value) (fun _ _ => False) E { s' with heap := h' }
theorem comp_freeF {e : Expr} {scope : Scope} {pos : Pos} {newAcc first : Sem Value} {g : Comprehension} {gs : List Comprehension} {cl : List (Str × Addr)} {use : Option (Value → Sem Unit)}
    {Q : Value → Shared → Prop}
    (hcl : clausesOf e = g :: gs) (hs : ∀ x, foldedSetIterable g.iter env x = pure x) (hclos : closureFor scope env = pure cl)
    (hkind : scope.kind = .function) (hnames : ∀ x ∈ scope.names, x.2 = .local → scope.names.lookup x.1 = some .local)
    (h : wpAny M A first (fun x s₁ => wpAny M A (pyIter x) (fun it s₂ => wpAny M A newAcc (fun acc s₃ =>
      wpAny M A (newFunctionEnv scope env.globals cl [] env.qual none .none (some env)) (fun cenv s₄ =>
        codeAny M A (.compStart e 0 it acc { cenv with scope := relabel scope env }) (compPostF M A E use Q acc { cenv with scope := relabel scope env }) s₄) E s₃) E s₂) E s₁) E s) :
    wpAny M A (comprehension e scope env pos newAcc false first use) Q E s := by
  unfold comprehension
  rw [hclos, hcl]
  refine wpAny_bind (wpAny_mono h (fun x s₁ h₁ => wpAny_bind (wpAny_standAt (wpAny_bind (wpAny_of_eq (hs x) (wpAny_bind (wpAny_holding (wpAny_mono h₁ (fun it s₂ h₂ =>
    wpAny_standIf (wpAny_bind (wpAny_mono h₂ (fun acc s₃ h₃ => wpAny_bind (wpAny_pure (wpAny_bind (wpAny_mono h₃ (fun cenv s₄ h₄ => ?_) fun _ _ h' => h')))) fun _ _ h' => h')))
      fun _ _ h' => h'))))))) fun _ _ h' => h')
  dsimp only
  have hv : ∀ x ∈ (scope.names.filter fun x => (x.2 == .local || x.2 == .cell) && x.1 != (".0" : Str)).reverse, x.2 = .local →
      Env.kindOf { cenv with scope := relabel scope env } x.1 = some .local := fun x hx hl => lookup_relabel_local (hnames x (List.mem_filter.mp (List.mem_reverse.mp hx)).1 hl)
  have hv' : ∀ x ∈ (scope.names.filter fun x => (x.2 == .local || x.2 == .cell) && x.1 != (".0" : Str)).reverse.drop 1 ++ (scope.names.filter fun x => (x.2 == .local || x.2 == .cell) && x.1 != (".0" : Str)).reverse.take 1,
      x.2 = .local → Env.kindOf { cenv with scope := relabel scope env } x.1 = some .local := fun x hx hl => by
    rcases List.mem_append.mp hx with h1 | h1
    · exact hv x (List.mem_of_mem_drop h1) hl
    · exact hv x (List.mem_of_mem_take h1) hl
  refine wpAny_holding (wpAny_bind (wpAny_attempt (wpAny_holding (wpAny_run (codeAny_mono h₄ fun r s' hr => ?_)))))
  cases r with
  | ok f =>
    cases use with
    | none =>
      obtain ⟨m, hn, hr⟩ := hr
      exact wpAny_bind (wpAny_holding (wpAny_comp_letGo (cenv := { cenv with scope := relabel scope env }) hkind _ s' m hv hn fun h' m' _ hs' => wpAny_pure (hr h' hs')))
    | some u =>
      refine wpAny_bind (wpAny_rule (wpAny_bind (wpAny_holding (wpAny_mono hr (fun _ s'' hr' => ?_) fun _ _ h' => h'))))
      obtain ⟨m, hn, hr'⟩ := hr'
      exact wpAny_bind (wpAny_comp_letGo (cenv := { cenv with scope := relabel scope env }) hkind _ s'' m hv' hn fun h' m' _ hs' => wpAny_pure (hr' h' hs'))
  | error x =>
    have hr' : ∃ m, s'.heap.Ns cenv.locals m ∧ ∀ h', Heap.SameBut cenv.locals s'.heap h' → wpAny M A (passOn "comprehension.variables-let-go" x { cenv with scope := relabel scope env } : Sem Value) (fun _ _ => False) E { s' with heap := h' } := by cases use <;> exact hr
    obtain ⟨m, hn, hr⟩ := hr'
    exact wpAny_bind (wpAny_holding (wpAny_comp_letGo (cenv := { cenv with scope := relabel scope env }) hkind _ s' m hv hn fun h' m' _ hs' => wpAny_mono (hr h' hs') (fun _ _ f => f.elim) fun _ _ y => y))
end
/-! the frame notes the exception -/
section
variable {M : Model} {A : Around} {E : Value → Shared → Prop} {s : Shared} {env : Env} {outer : List Env} {base : Heap} {e L : Addr} {Z : Obj → Prop}
open HandSPX
theorem looks_far {fl : Value} {Q : Unit → Shared → Prop} (hZ : Steady Z) (hfr : A.frames = some (env :: outer)) (hf : env.frame = some L) (hne : (fl == rawInt L) = false)
    (hkb : base.StaysIn s.heap) (hen : base.get? e = none) (hl : s.heap.FunFrames base (env :: outer)) (ht : TracedZ s.heap base e Z fl)
    (hQ : ∀ h', HeldZ base (env :: outer) e Z L h' → s.heap.UpToSlots h' → Q () { s with heap := h' }) : wpAny M A (noteFrame (.ref e) env) Q E s := by
  obtain ⟨oe, vs, T, oT, ts, he, hz, hd, h1, hnT, hTe, hT, hdT, h3⟩ := ht
  unfold noteFrame
  simp only [hf]
  refine wpAny_bind (wpAny_field he hd h1 ?_)
  rw [if_pos (show (Value.ref T != Value.none) = true from by simp)]
  refine wpAny_bind (wpAny_field hT hdT h3 ?_)
  rw [if_neg (by rw [hne]; exact Bool.false_ne_true)]
  refine wpAny_bind (wpAny_setField hT hdT (Array.getElem?_eq_some_iff.mp h3).1 ?_)
  have other : ∀ b, b ≠ T → (s.heap.update T (Obj.mapFields (·.setIfInBounds 3 Value.none))).get? b = s.heap.get? b := fun b hb => Heap.get?_update_other _ _ (Ne.symm hb)
  have noRecord : ∀ b o, s.heap.get? b = some o → (∀ vs, o.data ≠ .fields vs) → b ≠ T := fun b o hb hnf q => by
    rw [q, hT] at hb; injection hb with hb; subst hb; exact hnf ts hdT
  refine wpAny_entryZ hZ hfr (hl.of_keeps fun b o hb hnf => ⟨o, (other b (noRecord b o hb hnf)).trans hb, rfl⟩) hf ((other e (Ne.symm hTe)).trans he)
    (fun b o hbo => (other b fun q => by rw [q, hnT] at hbo; cases hbo).trans (hkb b o hbo)) hen hd (Array.getElem?_eq_some_iff.mp h1).1 hz fun h' hN => ?_
  obtain ⟨x1, x2, x3, x4⟩ := hN
  exact hQ h' ⟨x1, hen, x2, x3⟩ (Heap.UpToSlots.trans (fun b o hb hnf => ⟨o.slots, (other b (noRecord b o hb hnf)).trans hb⟩) x4)
end
section
open HandSPX
theorem funFrames_erase {h h' B B' : Heap} {C : Addr} (k : ∀ b, b ≠ C → h'.get? b = h.get? b) (kB : ∀ b, B.get? b = none → B'.get? b = none) (hC : ∃ o, B.get? C = some o) : ∀ {l : List Env}, h.FunFrames B l → h'.FunFrames B' l
  | [], _ => trivial
  | env :: l, x => by
    obtain ⟨hk, ⟨L, o, hf, hn, ho, hd⟩, hr⟩ := x
    have ne : L ≠ C := fun e => by
      obtain ⟨oc, hc⟩ := hC
      rw [e, hc] at hn; cases hn
    exact ⟨hk, ⟨L, o, hf, kB L hn, by rw [k L ne]; exact ho, hd⟩, funFrames_erase k kB hC hr⟩
variable {X : Cx} {pins : List (Addr × Obj)} {σ : L2.St} {H3 : Hp} {s3 : Shared} {W : WX} {scope : Scope} {cl : List (Str × Addr)} {fp : List Addr} {xe : Value → Shared → Prop} {use : Option (Value → Sem Unit)} {Qf : Value → Shared → Prop} {acc : Value}
abbrev blkX (X : Cx) (s : Shared) (H : Hp) (scope : Scope) (cenv : Env) (fp : List Addr) (xe : Value → Shared → Prop) : Cx := { X.blk s H scope cenv fp with xe := xe }
theorem comp_note (hs : X.stack = X.env :: X.outer) (hf : X.env.frame = some X.env.locals) (I3 : Inv X pins σ H3 s3) (hfp : ∀ b ∈ fp, FpOk X pins H3 b ∧ b < s3.heap.objs.size) (tk : Takes X W) {u : Value} {s' : Shared}
    (x : XE (blkX X s3 H3 scope (compEnvC scope cl s3.heap.objs.size X.env) fp xe) (fun cls d _ H => W cls d σ H) u s') :
    notedBy (model X.prog X.w) X.A (compEnvC scope cl s3.heap.objs.size X.env) (fun e s' => compPostF (model X.prog X.w) X.A X.xe use Qf acc (compEnvC scope cl s3.heap.objs.size X.env) (.error e) s') u s' := by
  obtain ⟨a, B, sI, pins', σ', H', cls, d, rfl, I6, nb, up, sky, na, os, ag, w⟩ := x
  have hfr : X.A.frames = some (X.env :: X.outer) := by rw [← hs]; exact I3.ok.frames
  obtain ⟨m, hn, _⟩ := I6.loc
  have hn : sI.heap.Ns s3.heap.objs.size m := hn
  -- the block's dict stands on the ground
  have nCf : s3.heap.objs.size ∉ frs X.stack := fun hm => by
    have st3 := I3.stack
    obtain ⟨_, o, ho, _⟩ := st3.mem hm
    exact absurd (Heap.lt_size ho) (Nat.lt_irrefl _)
  have hCL : s3.heap.objs.size ≠ X.env.locals := fun e => nCf (by rw [hs]; exact List.mem_filterMap.mpr ⟨X.env, List.mem_cons_self, by rw [e]; exact hf⟩)
  have hC : ∃ o, B.get? s3.heap.objs.size = some o := by
    obtain ⟨o, es, ep, ho, _⟩ := id hn
    exact ⟨o, nb _ o ho nCf⟩
  have nC : H' s3.heap.objs.size = none := I6.free
  -- the rest, once it is noted
  have rest : ∀ h1, HeldZ B (X.env :: X.outer) a (Zc cls d) X.env.locals h1 → s'.heap.UpToSlots h1 → compPostF (model X.prog X.w) X.A X.xe use Qf acc (compEnvC scope cl s3.heap.objs.size X.env) (.error (.ref a)) { s' with heap := h1 } := fun h1 hh up1 => by
    have up2 := up.trans up1
    have go : ∃ m, h1.Ns s3.heap.objs.size m ∧ ∀ h', Heap.SameBut s3.heap.objs.size h1 h' → wpAny (model X.prog X.w) X.A (passOn "comprehension.variables-let-go" (.ref a) (compEnvC scope cl s3.heap.objs.size X.env) : Sem Value) (fun _ _ => False) X.xe { s' with heap := h' } := by
      refine ⟨m, up2.ns hn, fun h2 sb => ?_⟩
      obtain ⟨GB, b1, b2⟩ := restrict B fun b => decide (b ≠ s3.heap.objs.size)
      obtain ⟨GI, i1, i2⟩ := restrict sI.heap fun b => decide (b ≠ s3.heap.objs.size)
      have b1' : ∀ b, b ≠ s3.heap.objs.size → GB.get? b = B.get? b := fun b hb => b1 b (by simp [hb])
      have i1' : ∀ b, b ≠ s3.heap.objs.size → GI.get? b = sI.heap.get? b := fun b hb => i1 b (by simp [hb])
      have b2' : GB.get? s3.heap.objs.size = none := b2 _ (by simp)
      have i2' : GI.get? s3.heap.objs.size = none := i2 _ (by simp)
      obtain ⟨hst, hen, hl, ht⟩ := hh
      have kB : ∀ b, B.get? b = none → GB.get? b = none := fun b e => by
        by_cases q : b = s3.heap.objs.size
        · rw [q]; exact b2'
        · rw [b1' b q]; exact e
      have k2 : ∀ b, b ≠ s3.heap.objs.size → h2.get? b = h1.get? b := fun b hb => sb.2 b hb
      have hst2 : GB.StaysIn h2 := fun b o e => by
        by_cases q : b = s3.heap.objs.size
        · rw [q, b2'] at e; cases e
        · rw [b1' b q] at e; rw [k2 b q]; exact hst b o e
      have hl2 : h2.FunFrames GB (X.env :: X.outer) := funFrames_erase k2 kB hC hl
      have neB : ∀ b, B.get? b = none → b ≠ s3.heap.objs.size := fun b e q => by
        obtain ⟨o, ho⟩ := hC
        rw [q, ho] at e; cases e
      have ht2 : TracedZ h2 GB a (Zc cls d) (rawInt X.env.locals) := by
        obtain ⟨oe, vs, T, oT, ts, he, hz, hd, h1', hnT, hTe, hT, hdT, h3⟩ := ht
        exact ⟨oe, vs, T, oT, ts, by rw [k2 a (neB a hen)]; exact he, hz, hd, h1', kB T hnT, hTe, by rw [k2 T (neB T hnT)]; exact hT, hdT, h3⟩
      have I7 : Inv X pins σ H' sI := I3.call' (ch := fp) I6.os I6.base I6.hok I6.bare fun b hb => ⟨(hfp b hb).1.2.2.2.1, (hfp b hb).1.2.1, (hfp b hb).1.2.2.2.2.1, (hfp b hb).1.2.2.2.2.2⟩
      obtain ⟨f0, f1, f2, f3, f4, f5⟩ := I3.fpOk (Nat.le_refl _) nC
      have I8 : Inv X pins σ H' { sI with heap := GI } := I7.turned (t' := sI.toks) (fun b o hb e => by rw [i1' b hb]; exact e) f0 f1 f3 f4 f5
      unfold PySem.passOn
      obtain ⟨oe, vs, T, oT, ts, he, hz, hd, h1', hnT, hTe, hT, hdT, h3⟩ := id ht2
      refine wpAny_bind (wpAny_field he hd h1' ?_)
      rw [if_neg (show ¬ ((Value.ref T == Value.none) = true) from by simp)]
      refine wpAny_bind ?_
      refine setFlight_anyZ (fr := X.env.frame) hst2 hl2 ht2 fun h4 st4 fr4 tr4 up4 => ?_
      refine wpAny_throw (tk _ _ ⟨a, GB, { sI with heap := GI }, pins, σ, H', cls, d, rfl, I8, fun b o e hb => ?_, fun b o e hnf => ?_, .inr (.inr ?_), na, os, ag, w⟩)
      · by_cases q : b = s3.heap.objs.size
        · have e' : GI.get? b = some o := e
          rw [q, i2'] at e'; cases e'
        · have e' : GI.get? b = some o := e
          rw [i1' b q] at e'
          rw [b1' b q]
          exact nb b o e' hb
      · by_cases q : b = s3.heap.objs.size
        · have e' : GI.get? b = some o := e
          rw [q, i2'] at e'; cases e'
        · have e' : GI.get? b = some o := e
          rw [i1' b q] at e'
          obtain ⟨sl, e2⟩ := up2 b o e' hnf
          rw [← k2 b q] at e2
          obtain ⟨sl2, e3⟩ := up4 b _ e2 hnf
          exact ⟨sl2, e3⟩
      · rw [hs]
        refine ⟨st4, kB a hen, fr4, ?_⟩
        rw [hf] at tr4
        exact tr4
    cases use <;> exact go
  show wpAny (model X.prog X.w) X.A (noteFrame (.ref a) X.env) _ _ s'
  have sky : Sky B X.stack a (Zc cls d) s3.heap.objs.size s'.heap := sky
  rw [hs] at sky
  rcases sky with ⟨hB, hn', hl, oe, vs, he, hz, hd, h1⟩ | fl | hh
  · exact look_newZ Zc.steady hfr hl hf he hB hn' hd h1 hz rest
  · exact looks_onZ Zc.steady hfr hf fl rest
  · obtain ⟨q1, q2, q3, q4⟩ := hh
    refine looks_far Zc.steady hfr hf ?_ q1 q2 q3 q4 rest
    simp [rawInt]
    omega
theorem lc_coreX {pins : List (Addr × Obj)} {s : Shared} {σ : L2.St} {H : Hp} {Q : VK} {elt tg iter : Expr} {ifs : List Expr} {scope : Scope} {own : List (Str × Nat)} {pos pos' : Pos} {wi : TI} {g : TG} {tt : TT} {te : TE} {use : Option (Value → Sem Unit)} {Qf : Value → Shared → Prop} {Wx : WX}
    (hss : X.stack = X.env :: X.outer) (hf : X.env.frame = some X.env.locals) (tk : Takes X Wx)
    (hc : X.calm = true) (hN : X.N.Nodup) (I : Inv X pins σ H s) (hi : PI X tg iter wi) (ok : BlkOk X.N X.env.scope scope own)
    (hg : ∀ (s : Shared) (H : Hp) (C : Addr) (cl : List (Str × Addr)) (fp : List Addr) (xe : Value → Shared → Prop), PG (blkX X s H scope (compEnvC scope cl C X.env) fp xe) tg g)
    (ht : ∀ (s : Shared) (H : Hp) (C : Addr) (cl : List (Str × Addr)) (fp : List Addr) (xe : Value → Shared → Prop), Takes (blkX X s H scope (compEnvC scope cl C X.env) fp xe) (fun cls d _ H => Wx cls d σ H) → PTs (blkX X s H scope (compEnvC scope cl C X.env) fp xe) ifs tt)
    (he : ∀ (s : Shared) (H : Hp) (C : Addr) (cl : List (Str × Addr)) (fp : List Addr) (xe : Value → Shared → Prop), Takes (blkX X s H scope (compEnvC scope cl C X.env) fp xe) (fun cls d _ H => Wx cls d σ H) → PE (blkX X s H scope (compEnvC scope cl C X.env) fp xe) elt te) (hs : ∀ x, foldedSetIterable iter X.env x = pure x)
    (h : tLc wi g tt te (own.map (·.2)) σ H Q)
    (hRR : ∀ D C s' m H', Inv X pins σ H' s' → Q (.ref D) H' → s'.heap.Ns C m → FpOk X pins H' C → ∀ ce : Env, ce.locals = C → compPostF (model X.prog X.w) X.A X.xe use Qf (.ref D) ce (.ok .next) s') :
    wpAny (model X.prog X.w) X.A (comprehension (.ListComp elt [⟨tg, iter, ifs, 0⟩] scope pos) scope X.env pos' (newList []) false (eval iter X.env) use) Qf X.xe s := by
  have hfree : ∀ y ∈ scope.names, y.2 = .free → ∃ c, X.env.cells.lookup y.1 = some c := fun y hy e => by
    rcases ok.free y hy e with k | k
    · exact I.ok.has _ (.inl k)
    · exact I.ok.has _ (.inr k)
  refine comp_freeF (use := use) rfl hs (closure_ok hfree) ok.kind (fun y hy e => by rw [ok.uniq y hy, e])
    (thn (hi.run pins s σ H _ I h) fun xv s1 hx => thn hx fun itv s2 h2 => ?_)
  obtain ⟨it, fp, tn, J, H2, e, I2, T, st2, f2, q⟩ := h2
  subst e
  refine wpAny_newObj_type (newEnv_comp ?_) (by show 0 ≤ sizeLine; decide)
  generalize hD : s2.heap.objs.size = D
  have hDn : H2 D = none := I2.hok.fresh (Nat.le_of_eq hD)
  obtain ⟨W, ⟨m0, w0⟩, turn⟩ := q D hDn
  -- the new list
  generalize hs3 : ({ s2 with heap := s2.heap.push { cls := .type "list", data := .seq ([] : List Value).toArray } } : Shared) = s3
  have I3 : Inv X pins σ (upd H2 D (.lst [])) s3 := by
    rw [← hs3]
    refine I2.laid (t' := s2.toks) (fun b o e => Heap.get?_push_of_some _ e) (Nat.le_of_eq hD) ⟨Nat.zero_le _, [], 0, .nil, ?_⟩
    rw [← hD]
    exact Heap.get?_push_size _ rfl
  have h3 : s3.heap = s2.heap.push { cls := .type "list", data := .seq ([] : List Value).toArray } := by rw [← hs3]
  have sz : ∀ b ∈ fp, b < s2.heap.objs.size := fun b hb => by
    obtain ⟨o, e, _⟩ := T.obj _ _ st2 b hb
    exact Heap.lt_size e
  have f3 : ∀ b ∈ fp, FpOk X pins (upd H2 D (.lst [])) b ∧ b < s3.heap.objs.size := fun b hb => by
    have hlt := sz b hb
    refine ⟨⟨?_, (f2 b hb).2⟩, by rw [h3, Heap.size_push]; exact Nat.lt_succ_of_lt hlt⟩
    rw [upd_ne (by rw [← hD]; exact Nat.ne_of_lt hlt)]
    exact (f2 b hb).1
  have st3 : tn 0 s3.heap := T.keep _ _ _ st2 fun b _ o e => by rw [h3]; exact Heap.get?_push_of_some _ e
  have I4 := block_start I3 ok hN f3
  obtain ⟨xe, hxe⟩ : ∃ xe : Value → Shared → Prop, xe = fun u s' => XE (X.blk s3 (upd H2 D (.lst [])) scope (compEnvC scope (cellsFrom (s3.heap.objs.size + 1) scope.names (cloFrom X.env.cells scope.names [])) s3.heap.objs.size X.env) fp) (fun cls d _ H => Wx cls d σ H) u s' := ⟨_, rfl⟩
  have tkB : Takes (blkX X s3 (upd H2 D (.lst [])) scope (compEnvC scope (cellsFrom (s3.heap.objs.size + 1) scope.names (cloFrom X.env.cells scope.names [])) s3.heap.objs.size X.env) fp xe) (fun cls d _ H => Wx cls d σ H) := fun u s' x => by
    show xe u s'
    rw [hxe]
    obtain ⟨a, B, sI, pins', σ', H', cls, d, e, I6, rest⟩ := x
    exact ⟨a, B, sI, pins', σ', H', cls, d, e, ⟨⟨I6.ok.mod, I6.ok.kind, I6.ok.glob, I6.ok.blt, I6.ok.above, I6.ok.inj, I6.ok.has, I6.ok.cab, I6.ok.hd, I6.ok.frames, I6.ok.stk, I6.ok.exf, I6.ok.bs, I6.ok.bsz, I6.ok.noex, I6.ok.exfs, I6.ok.funs, I6.ok.frf⟩, I6.os, I6.bare, I6.base, I6.loc, I6.cell, I6.free, I6.freeC, I6.pin, I6.hok, I6.len⟩, rest⟩
  have I4 : Inv (blkX X s3 (upd H2 D (.lst [])) scope (compEnvC scope (cellsFrom (s3.heap.objs.size + 1) scope.names (cloFrom X.env.cells scope.names [])) s3.heap.objs.size X.env) fp xe) [] (wipe σ (own.map (·.2))) (upd H2 D (.lst [])) { s3 with heap := pushCells (s3.heap.push { cls := .type "dict", data := .dict #[] }) scope.names } :=
    ⟨⟨I4.ok.mod, I4.ok.kind, I4.ok.glob, I4.ok.blt, I4.ok.above, I4.ok.inj, I4.ok.has, I4.ok.cab, I4.ok.hd, I4.ok.frames, I4.ok.stk, I4.ok.exf, I4.ok.bs, I4.ok.bsz, I4.ok.noex, I4.ok.exfs, I4.ok.funs, I4.ok.frf⟩, I4.os, I4.bare, I4.base, I4.loc, I4.cell, I4.free, I4.freeC, I4.pin, I4.hok, I4.len⟩
  have noted : ∀ (e : Value) (s' : Shared), xe e s' → notedBy (model X.prog X.w) X.A (compEnvC scope (cellsFrom (s3.heap.objs.size + 1) scope.names (cloFrom X.env.cells scope.names [])) s3.heap.objs.size X.env) (fun e s' => compPostF (model X.prog X.w) X.A X.xe use Qf (.ref D) (compEnvC scope (cellsFrom (s3.heap.objs.size + 1) scope.names (cloFrom X.env.cells scope.names [])) s3.heap.objs.size X.env) (.error e) s') e s' := fun e s' x => by
    rw [hxe] at x
    obtain ⟨a, B, sI, pins', σ', H', cls, d, e, I6, rest⟩ := x
    exact comp_note (xe := fun _ _ => False) hss hf I3 f3 tk ⟨a, B, sI, pins', σ', H', cls, d, e, I6, rest⟩
  have pg := hg s3 (upd H2 D (.lst [])) s3.heap.objs.size (cellsFrom (s3.heap.objs.size + 1) scope.names (cloFrom X.env.cells scope.names [])) fp xe
  have pt := ht s3 (upd H2 D (.lst [])) s3.heap.objs.size (cellsFrom (s3.heap.objs.size + 1) scope.names (cloFrom X.env.cells scope.names [])) fp xe tkB
  have pe := he s3 (upd H2 D (.lst [])) s3.heap.objs.size (cellsFrom (s3.heap.objs.size + 1) scope.names (cloFrom X.env.cells scope.names [])) fp xe tkB
  show codeAny _ _ (.compStart (.ListComp elt [⟨tg, iter, ifs, 0⟩] scope pos) 0 (.ref it) (.ref D) (compEnvC scope (cellsFrom (s3.heap.objs.size + 1) scope.names (cloFrom X.env.cells scope.names [])) s3.heap.objs.size X.env)) (compPostF (model X.prog X.w) X.A X.xe use Qf (.ref D) (compEnvC scope (cellsFrom (s3.heap.objs.size + 1) scope.names (cloFrom X.env.cells scope.names [])) s3.heap.objs.size X.env)) { s3 with heap := pushCells (s3.heap.push { cls := .type "dict", data := .dict #[] }) scope.names }
  have nfp : ∀ b ∈ fp, (upd H2 D (.lst [])) b = none := fun b hb => (f3 b hb).1.1
  generalize hce : compEnvC scope (cellsFrom (s3.heap.objs.size + 1) scope.names (cloFrom X.env.cells scope.names [])) s3.heap.objs.size X.env = ce at I4 pg pt pe noted hxe tkB ⊢
  have cL : ce.locals = s3.heap.objs.size := by subst hce; rfl
  generalize hH3 : upd H2 D (.lst []) = H3 at I3 I4 pg pt pe w0 nfp f3 hxe tkB
  generalize hs4 : ({ s3 with heap := pushCells (s3.heap.push { cls := .type "dict", data := .dict #[] }) scope.names } : Shared) = s4 at I4 ⊢
  have st4 : tn 0 s4.heap := T.keep _ _ _ st3 fun b _ o e => by rw [← hs4]; exact pushCells_keeps _ _ _ _ (Heap.get?_push_of_some _ e)
  have stat : ∀ {σ' : L2.St} {H' : Hp} {s' : Shared}, Inv (blkX X s3 H3 scope ce fp xe) [] σ' H' s' → (∀ b ∈ fp, H' b = none) → ∀ b ∈ fp, FpOk (blkX X s3 H3 scope ce fp xe) [] H' b := fun {σ' H' s'} I' hn b hb =>
    ⟨hn b hb, (I'.ok.exf b hb).1, I'.ok.exfs b hb, .inl hb, fun x c e => (I'.ok.exf b hb).2 x c e, fun p hp => absurd (show p ∈ ([] : List (Addr × Obj)) ++ [] from hp) (by simp)⟩
  have thnX : ∀ {α : Type} {t : Sem α} {Q1 Q2 : α → Shared → Prop} {s : Shared}, wpAny (model X.prog X.w) X.A t Q1 xe s → (∀ a s, Q1 a s → Q2 a s) → wpAny (model X.prog X.w) X.A t Q2 (notedBy (model X.prog X.w) X.A ce (fun e s' => compPostF (model X.prog X.w) X.A X.xe use Qf (.ref D) ce (.error e) s')) s := fun h hQ => wpAny_mono h hQ fun e s' x => noted e s' x
  have loop : codeAny (model X.prog X.w) X.A (.compLoop (.ListComp elt [⟨tg, iter, ifs, 0⟩] scope pos) 0 (.ref it) (.ref D) ce) (compPostF (model X.prog X.w) X.A X.xe use Qf (.ref D) ce) s4 := by
    refine compLoop_any (fun n s' => ∃ i H', Inv (blkX X s3 H3 scope ce fp xe) [] (wipe σ (own.map (·.2))) H' s' ∧ tn i s'.heap ∧ (∀ b ∈ fp, H' b = none) ∧ W i n H') ?_ m0 ⟨0, H3, I4, st4, nfp, w0⟩
    rintro n s5 ⟨i, H5, I5, st5, n5, w5⟩
    rcases turn i n H5 w5 with ⟨stop, qq⟩ | ⟨go, Nx, hNx, step⟩
    · have td := T.done (blkX X s3 H3 scope ce fp xe) rfl rfl rfl hc i [] s5 _ H5 (fun _ _ => False) I5 (stat I5 n5) st5 stop
      refine thnF td fun r s6 ⟨hr, I6⟩ => ?_
      subst hr
      -- back in the def's context
      have I7 : Inv X pins σ H5 s6 := I3.call' (ch := fp) I6.os I6.base I6.hok I6.bare fun b hb => ⟨(f3 b hb).1.2.2.2.1, (f3 b hb).1.2.1, (f3 b hb).1.2.2.2.2.1, (f3 b hb).1.2.2.2.2.2⟩
      have nC : H5 s3.heap.objs.size = none := by
        have z : H5 ce.locals = none := I6.free
        rw [cL] at z
        exact z
      obtain ⟨m, hn, _⟩ := I6.loc
      have hn : s6.heap.Ns ce.locals m := hn
      rw [cL] at hn
      exact hRR D s3.heap.objs.size s6 m H5 I7 qq hn (I3.fpOk (Nat.le_refl _) nC) ce cL
    · have ti := T.item (blkX X s3 H3 scope ce fp xe) rfl rfl rfl hc i [] s5 _ H5 (fun _ _ => False) I5 (stat I5 n5) st5 go
      refine thnF ti fun r s6 ⟨u, hr, h6⟩ => ?_
      subst hr
      refine thnF h6 fun _ s7 ⟨x, H7, I7, r7, y7, st7, n7⟩ => ?_
      have I7' := I7.pinned (stat I7 n7) (T.obj _ _ st7)
      refine thnX (pg.run _ s7 _ H7 x u _ I7' r7 (step x H7 y7)) fun _ s8 ⟨σ8, H8, I8, hw8, q8⟩ => ?_
      refine thnX (pt.run _ s8 σ8 H8 _ I8 q8) fun b s9 ⟨H9, I9, q9⟩ => ?_
      -- the turn's end
      have fin : ∀ {s' : Shared} {H' : Hp}, Inv (blkX X s3 H3 scope ce fp xe) ([] ++ pinsAt fp s7.heap) σ8 H' s' → Nx H' → ∃ m, m < n ∧ ∃ i H', Inv (blkX X s3 H3 scope ce fp xe) [] (wipe σ (own.map (·.2))) H' s' ∧ tn i s'.heap ∧ (∀ b ∈ fp, H' b = none) ∧ W i m H' := fun {s' H'} I' nx => by
        obtain ⟨m', hm, w'⟩ := hNx H' nx
        have pin' : ∀ b ∈ fp, ∀ o, s7.heap.get? b = some o → s'.heap.get? b = some o ∧ H' b = none := fun b hb o e =>
          let z := I'.pin (b, o) (List.mem_append_right _ (List.mem_append_right _ (mem_pinsAt hb e)))
          ⟨z.1, z.2.1⟩
        have hl : (wipe σ (own.map (·.2))).length = σ8.length := by rw [← hw8, wipe_length]
        refine ⟨m', hm, i + 1, H', (I'.unpinned (pins := [])).weak hl (fun j v e => ?_), T.keep _ _ _ st7 fun b hb o e => (pin' b hb o e).1, fun b hb => ?_, w'⟩
        · rw [← hw8] at e
          exact (wipe_some e).1
        · obtain ⟨o, e, _⟩ := T.obj _ _ st7 b hb
          exact (pin' b hb o e).2
      cases b with
      | false =>
        simp only [Bool.false_eq_true, if_false] at q9 ⊢
        exact fin I9 q9
      | true =>
        simp only [if_true] at q9 ⊢
        refine thnX (pe.run _ s9 σ8 H9 _ I9 q9) fun z s10 ⟨yv, H10, I10, r10, acc, hD10, hz10, nx⟩ => ?_
        exact app_ok (X := blkX X s3 H3 scope ce fp xe) I10 hD10 hz10 r10 fun s11 I11 => fin I11 nx
  exact codeAny_compStart_list loop (T.self X.A 0 _ _ _ st4 loop)
end
end Ev

namespace Ev
open PySem PySem.Spec PyProof.Rows L2
section
variable {X : Cx} {W : WX}
theorem pe_lcX {elt tg iter : Expr} {ifs : List Expr} {scope : Scope} {own : List (Str × Nat)} {pos : Pos} {wi : TI} {g : TG} {tt : L2.St → TT} {te : L2.St → TE} (hss : X.stack = X.env :: X.outer) (hf : X.env.frame = some X.env.locals) (tk : Takes X W) (hc : X.calm = true) (hN : X.N.Nodup) (hi : PI X tg iter wi) (ok : BlkOk X.N X.env.scope scope own)
    (hg : ∀ (s : Shared) (H : Hp) (C : Addr) (cl : List (Str × Addr)) (fp : List Addr) (xe : Value → Shared → Prop), PG (blkX X s H scope (compEnvC scope cl C X.env) fp xe) tg g)
    (ht : ∀ (σ : L2.St) (s : Shared) (H : Hp) (C : Addr) (cl : List (Str × Addr)) (fp : List Addr) (xe : Value → Shared → Prop), Takes (blkX X s H scope (compEnvC scope cl C X.env) fp xe) (fun cls d _ H => W cls d σ H) → PTs (blkX X s H scope (compEnvC scope cl C X.env) fp xe) ifs (tt σ))
    (he : ∀ (σ : L2.St) (s : Shared) (H : Hp) (C : Addr) (cl : List (Str × Addr)) (fp : List Addr) (xe : Value → Shared → Prop), Takes (blkX X s H scope (compEnvC scope cl C X.env) fp xe) (fun cls d _ H => W cls d σ H) → PE (blkX X s H scope (compEnvC scope cl C X.env) fp xe) elt (te σ)) (hs : ∀ x, foldedSetIterable iter X.env x = pure x := by intro _; rfl) :
    PE X (.ListComp elt [⟨tg, iter, ifs, 0⟩] scope pos) (fun σ H Q => tLc wi g (tt σ) (te σ) (own.map (·.2)) σ H Q) := by
  refine ⟨fun pins s σ H Q I h => ?_⟩
  rw [eval_ListComp]
  refine lc_coreX hss hf tk hc hN I hi ok hg (ht σ) (he σ) hs h fun D C s' m H' I' q hn f ce hce => ⟨m, by rw [hce]; exact hn, fun h'' sb => ?_⟩
  obtain ⟨f0, f1, f2, f3, f4, f5⟩ := f
  rw [hce] at sb
  exact ⟨.ref D, H', I'.turned (t' := s'.toks) (fun b o hb e => (sb.2 b hb).trans e) f0 f1 f3 f4 f5, rfl, q⟩
theorem ps_setLcX {i : Nat} {y : Str} {py : Pos} {elt tg iter : Expr} {ifs : List Expr} {scope : Scope} {own : List (Str × Nat)} {pos spos : Pos} {wi : TI} {g : TG} {tt : L2.St → TT} {te : L2.St → TE} (hss : X.stack = X.env :: X.outer) (hf : X.env.frame = some X.env.locals) (tk : Takes X W) (hc : X.calm = true) (hN : X.N.Nodup) (hy : X.N[i]? = some y) (hyl : X.env.scope.names.lookup y = some .local)
    (hsw : swapsWith (.ListComp elt [⟨tg, iter, ifs, 0⟩] scope pos) (some (.Name y py)) spos.line X.env = pure true) (hi : PI X tg iter wi) (ok : BlkOk X.N X.env.scope scope own)
    (hg : ∀ (s : Shared) (H : Hp) (C : Addr) (cl : List (Str × Addr)) (fp : List Addr) (xe : Value → Shared → Prop), PG (blkX X s H scope (compEnvC scope cl C X.env) fp xe) tg g)
    (ht : ∀ (σ : L2.St) (s : Shared) (H : Hp) (C : Addr) (cl : List (Str × Addr)) (fp : List Addr) (xe : Value → Shared → Prop), Takes (blkX X s H scope (compEnvC scope cl C X.env) fp xe) (fun cls d _ H => W cls d σ H) → PTs (blkX X s H scope (compEnvC scope cl C X.env) fp xe) ifs (tt σ))
    (he : ∀ (σ : L2.St) (s : Shared) (H : Hp) (C : Addr) (cl : List (Str × Addr)) (fp : List Addr) (xe : Value → Shared → Prop), Takes (blkX X s H scope (compEnvC scope cl C X.env) fp xe) (fun cls d _ H => W cls d σ H) → PE (blkX X s H scope (compEnvC scope cl C X.env) fp xe) elt (te σ)) (hs : ∀ x, foldedSetIterable iter X.env x = pure x := by intro _; rfl) :
    PS X (.Assign [.Name y py] (.ListComp elt [⟨tg, iter, ifs, 0⟩] scope pos) spos) (tAsg (fun σ H Q => tLc wi g (tt σ) (te σ) (own.map (·.2)) σ H Q) (gName i)) := by
  refine ⟨fun pins s σ H D I h => ?_⟩
  rw [exec_Assign_Name_used _ _ _ _ hsw]
  refine wpAny_bind (wpAny_standAt (wpAny_bind ?_))
  show wpAny _ X.A (do let _ ← comprehension (.ListComp elt [⟨tg, iter, ifs, 0⟩] scope pos) scope X.env (firstIterPos [⟨tg, iter, ifs, 0⟩] pos) (newList []) false (eval iter X.env) (some (assign (.Name y py) X.env))) _ _ s
  have h : tLc wi g (tt σ) (te σ) (own.map (·.2)) σ H (fun x H1 => gName i x σ H1 D.nx) := h
  refine wpAny_bind (thn (lc_coreX (Qf := fun _ s' => SP X pins D .next s') hss hf tk hc hN I hi ok hg (ht σ) (he σ) hs h fun L C s' m H' I' q hn f ce hce => ?_) fun _ s' hq => wpAny_pure (wpAny_pure hq))
  show wpAny _ _ (assign (.Name y py) X.env (.ref L)) _ _ _
  refine wpAny_assign_Name (store_ok2 (v := V.ref L) I' hN hy (.inl hyl) rfl (fun s2 I2 ⟨a, sb, ha⟩ => ?_) (.inr hyl))
  obtain ⟨f0, f1, f2, f3, f4, f5⟩ := f
  have haC : C ≠ a := by
    rcases ha with z | z
    · rw [z]; exact f1
    · exact fun e => f4 y a z e.symm
  rw [hce]
  refine ⟨m, hn.sameBut sb haC, fun h3 sb3 => ?_⟩
  exact ⟨_, H', I2.turned (t' := s2.toks) (fun b o hb e => (sb3.2 b hb).trans e) f0 f1 f3 f4 f5, q⟩
end
/-! the reckoner's comprehension that an exception may leave -/
noncomputable def lcX (nx : Src) (tg : Tg) (tt : Evt) (te : Evl) (l0 l : Lo) (m : Nat) : Nat → List W → FH → Res W := Nat.rec (motive := fun _ => Nat → List W → FH → Res W) (fun _ _ _ => .stuck) (fun _ ih i acc S => match nx i S with
    | none => .stuck
    | some none => revK acc [] fun ws => newK S (.lst ws) fun n S1 => .ok (.obj n) S1
    | some (some w) => match tg w l S with
      | none => .stuck
      | some l1 => (relo l0 (tt l1 S)).bnd fun b S1 => match b with
        | false => fNat (i + 1) fun i1 => ih i1 acc S1
        | true => (relo l0 (te l1 S1)).bnd fun y S2 => fNat (i + 1) fun i1 => ih i1 (y :: acc) S2) m
theorem lcX_zero {nx : Src} {tg : Tg} {tt : Evt} {te : Evl} {l0 l : Lo} {i : Nat} {acc : List W} {S : FH} : lcX nx tg tt te l0 l 0 i acc S = .stuck := rfl
theorem lcX_succ {nx : Src} {tg : Tg} {tt : Evt} {te : Evl} {l0 l : Lo} {m i : Nat} {acc : List W} {S : FH} : lcX nx tg tt te l0 l (m + 1) i acc S = match nx i S with
    | none => .stuck
    | some none => .ok (.obj S.n) (S.new (.lst acc.reverse))
    | some (some w) => match tg w l S with
      | none => .stuck
      | some l1 => (relo l0 (tt l1 S)).bnd fun b S1 => match b with
        | false => lcX nx tg tt te l0 l m (i + 1) acc S1
        | true => (relo l0 (te l1 S1)).bnd fun y S2 => lcX nx tg tt te l0 l m (i + 1) (y :: acc) S2 := by
  have e : ∀ x, lcX nx tg tt te l0 l (m + 1) i acc S = x ↔ (match nx i S with
    | none => .stuck
    | some none => revK acc [] fun ws => newK S (.lst ws) fun n S1 => .ok (.obj n) S1
    | some (some w) => match tg w l S with
      | none => .stuck
      | some l1 => (relo l0 (tt l1 S)).bnd fun b S1 => match b with
        | false => fNat (i + 1) fun i1 => lcX nx tg tt te l0 l m i1 acc S1
        | true => (relo l0 (te l1 S1)).bnd fun y S2 => fNat (i + 1) fun i1 => lcX nx tg tt te l0 l m i1 (y :: acc) S2) = x := fun x => Iff.rfl
  rw [e]
  simp only [revK_eq, newK_eq, fNat_eq, List.append_nil]
noncomputable def evLx (f : Evi) (tg : Tg) (tt : Evt) (te : Evl) (vs : List Nat) : Evl := fun l S => (f l S).bnd fun nx S1 => wipeK l vs fun l1 => lcX nx tg tt te l l1 10000 0 [] S1
section
variable {G : Glo} {X : Cx} {W' : WX} {pos : Pos}
theorem rd_lx {ks vs : List Nat} {f : Evi} {t : Tg} {tt : Evt} {te : Evl} {g : TG} {σ : L2.St} {H : Hp} {Q : VK}
    (kk : KK G ks t g) (hks : ∀ k ∈ ks, k ∈ vs) (h : rdE G W' (evLx f t tt te vs) σ H Q) : tLc (rdI G W' f) g (rdT G (fun cls d _ H => W' cls d σ H) tt) (rdE G (fun cls d _ H => W' cls d σ H) te) vs σ H Q := by
  obtain ⟨C, l, e, ok, r, p⟩ := h
  subst e
  unfold evLx at p
  simp only [wipeK_eq] at p
  refine ⟨C, l, rfl, ok, r, Post.mono (fun nx C1 ok1 x1 p1 J hJ D hD => ?_) (Post.bnd (k := fun nx S1 => lcX nx t tt te l (wipeL l vs) 10000 0 [] S1) p)⟩
  have r0 := r.mono ok x1
  have r1 := (r.mono ok x1).wipe vs
  refine ⟨fun i m H => ∃ (C2 : Cf) (acc : List W) (av : List V), C2.H = H ∧ C2.Ok G ∧ Ext C1 C2 ∧ H D = some (.lst av) ∧ (∀ j : Nat, C2.ρ[j]? ≠ some D) ∧ RWs G.K C2.ρ C2.H acc.reverse av ∧ acc.length ≤ i ∧ i + m ≤ 10000 ∧ Post G W' C1 (lcX nx t tt te l (wipeL l vs) m i acc C2.S) (PhE G Q), ⟨10000, ?_⟩, ?_⟩
  · obtain ⟨ok2, x2⟩ := Cf.tupd (o := .lst []) ok1 hD
    exact ⟨⟨C1.ρ, upd C1.H D (.lst []), C1.S⟩, [], [], rfl, ok2, x2, upd_same, fun j h => ok1.lv j D h hD, .nil, Nat.le_refl _, Nat.le_refl _, p1⟩
  rintro i m H2 ⟨C2, acc, av, rfl, ok2, x2, hD2, nD2, ra, hl, him, p2⟩
  have hs2 := hJ C2 ok2 x2 i
  cases m with
  | zero => rw [lcX_zero] at p2; exact post_stuck p2
  | succ m =>
    rw [lcX_succ] at p2
    cases q : nx i C2.S with
    | none => simp only [q] at p2; exact post_stuck p2
    | some o =>
      cases o with
      | none =>
        simp only [q] at p2
        refine .inl ⟨hs2.1 q, ?_⟩
        obtain ⟨ok3, x3, h3⟩ := Cf.adopt ok2 x2 hD2 nD2 hD ra
        unfold Post at p2
        exact p2 _ rfl ok3 x3 (.ref D) (by unfold RW; exact ⟨D, rfl, h3⟩)
      | some w =>
        simp only [q] at p2
        obtain ⟨h1, h2⟩ := hs2.2 w q
        refine .inr ⟨h1, fun H' => ∃ (C2 : Cf) (acc : List W) (av : List V), C2.H = H' ∧ C2.Ok G ∧ Ext C1 C2 ∧ H' D = some (.lst av) ∧ (∀ j : Nat, C2.ρ[j]? ≠ some D) ∧ RWs G.K C2.ρ C2.H acc.reverse av ∧ acc.length ≤ i + 1 ∧ i + 1 + m ≤ 10000 ∧ Post G W' C1 (lcX nx t tt te l (wipeL l vs) m (i + 1) acc C2.S) (PhE G Q), fun H' h => ⟨m, Nat.lt_succ_self m, h⟩, fun x H' y => ?_⟩
        obtain ⟨C3, rfl, hS, ok3, x3, rv⟩ := h2 x H' y
        cases q2 : t w (wipeL l vs) C2.S with
        | none => simp only [q2] at p2; exact post_stuck p2
        | some l3 =>
          simp only [q2] at p2
          have rC3 := (r1.mono ok1 x2).mono ok2 x3
          refine kk C3 (wipeL l vs) l3 (wipe σ vs) w x _ ok3 rC3 rv (by rw [hS]; exact q2) fun σ3 r3 tu => ?_
          refine ⟨by rw [turned_wipe tu hks, wipe_wipe], C3, l3, rfl, ok3, r3, ?_⟩
          have pb := Post.base (x2.trans x3) (Post.bnd0 p2)
          rw [hS]
          refine Post.mono (fun b C4 ok4 x4 p4 => ?_) (post_relo ok3 ((r0.mono ok1 x2).mono ok2 x3) pb)
          have s3 := x3.side hD2 nD2
          have s4 := x4.side s3.1 s3.2
          have ra4 := RWs.mono ok3 x4 _ (RWs.mono ok2 x3 _ ra)
          unfold PhT
          cases b with
          | false =>
            refine iteF ⟨C4, acc, av, rfl, ok4, (x2.trans x3).trans x4, s4.1, s4.2, ra4, by omega, by omega, p4⟩
          | true =>
            refine iteT ⟨C4, l3, rfl, ok4, r3.mono ok3 x4, ?_⟩
            have pb2 := Post.base ((x2.trans x3).trans x4) (Post.bnd0 p4)
            refine Post.mono (fun yw C5 ok5 x5 p5 yv ry => ?_) (post_relo ok4 (((r0.mono ok1 x2).mono ok2 x3).mono ok3 x4) pb2)
            have s5 := x5.side s4.1 s4.2
            have ra5 := RWs.mono ok4 x5 _ ra4
            have x05 : Ext C1 C5 := ((x2.trans x3).trans x4).trans x5
            obtain ⟨ok6, x6, kw, kws⟩ := Cf.side (us := av ++ [yv]) ok5 x05 s5.1 s5.2 hD
            refine ⟨av, s5.1, ?_, ⟨C5.ρ, upd C5.H D (.lst (av ++ [yv])), C5.S⟩, yw :: acc, av ++ [yv], rfl, ok6, x6, upd_same, s5.2, ?_, by simp; omega, by omega, p5⟩
            · have := ra.length
              rw [List.length_reverse] at this
              rw [this, sizeLine_eq]; omega
            · exact RWs.reverse (kws _ _ ra5) (kw _ _ ry)
/-- what a def's context tells beside -/
structure Dfx (X : Cx) : Prop where
  stk : X.stack = X.env :: X.outer
  frm : X.env.frame = some X.env.locals
theorem se_lx {elt tg iter : Expr} {ifs : List Expr} {scope : Scope} {own : List (Str × Nat)} {ks : List Nat} {f : Evi} {t : Tg} {tt : Evt} {te : Evl} {g : TG} (hd : Dfx X) (tk : Takes X W') (hc : X.calm = true) (hN : X.N.Nodup) (hi : SI G X W' f tg iter) (ok : BlkOk X.N X.env.scope scope own)
    (kk : KK G ks t g) (hks : ∀ k ∈ ks, k ∈ own.map (·.2))
    (hg : ∀ (s : Shared) (H : Hp) (C : Addr) (cl : List (Str × Addr)) (fp : List Addr) (xe : Value → Shared → Prop), PG (blkX X s H scope (compEnvC scope cl C X.env) fp xe) tg g)
    (ht : ∀ (s : Shared) (H : Hp) (C : Addr) (cl : List (Str × Addr)) (fp : List Addr) (xe : Value → Shared → Prop) (W1 : WX), Takes (blkX X s H scope (compEnvC scope cl C X.env) fp xe) W1 → STs G (blkX X s H scope (compEnvC scope cl C X.env) fp xe) W1 tt ifs)
    (he : ∀ (s : Shared) (H : Hp) (C : Addr) (cl : List (Str × Addr)) (fp : List Addr) (xe : Value → Shared → Prop) (W1 : WX), Takes (blkX X s H scope (compEnvC scope cl C X.env) fp xe) W1 → SE G (blkX X s H scope (compEnvC scope cl C X.env) fp xe) W1 te elt)
    (hs : ∀ x, foldedSetIterable iter X.env x = pure x := by intro _; rfl) : SE G X W' (evLx f t tt te (own.map (·.2))) (.ListComp elt [⟨tg, iter, ifs, 0⟩] scope pos) :=
  pe_imp (pe_lcX hd.stk hd.frm tk hc hN hi ok hg (fun σ s H C cl fp xe tk => ht s H C cl fp xe _ tk) (fun σ s H C cl fp xe tk => he s H C cl fp xe _ tk) hs) fun σ H Q h => rd_lx kk hks h
theorem ss_setLx {i : Nat} {y : Str} {py : Pos} {elt tg iter : Expr} {ifs : List Expr} {scope : Scope} {own : List (Str × Nat)} {ks : List Nat} {spos : Pos} {f : Evi} {t : Tg} {tt : Evt} {te : Evl} {g : TG} (hd : Dfx X) (tk : Takes X W') (hc : X.calm = true) (hN : X.N.Nodup) (hy : X.N[i]? = some y) (hyl : X.env.scope.names.lookup y = some .local)
    (hsw : swapsWith (.ListComp elt [⟨tg, iter, ifs, 0⟩] scope pos) (some (.Name y py)) spos.line X.env = pure true) (hi : SI G X W' f tg iter) (ok : BlkOk X.N X.env.scope scope own)
    (kk : KK G ks t g) (hks : ∀ k ∈ ks, k ∈ own.map (·.2))
    (hg : ∀ (s : Shared) (H : Hp) (C : Addr) (cl : List (Str × Addr)) (fp : List Addr) (xe : Value → Shared → Prop), PG (blkX X s H scope (compEnvC scope cl C X.env) fp xe) tg g)
    (ht : ∀ (s : Shared) (H : Hp) (C : Addr) (cl : List (Str × Addr)) (fp : List Addr) (xe : Value → Shared → Prop) (W1 : WX), Takes (blkX X s H scope (compEnvC scope cl C X.env) fp xe) W1 → STs G (blkX X s H scope (compEnvC scope cl C X.env) fp xe) W1 tt ifs)
    (he : ∀ (s : Shared) (H : Hp) (C : Addr) (cl : List (Str × Addr)) (fp : List Addr) (xe : Value → Shared → Prop) (W1 : WX), Takes (blkX X s H scope (compEnvC scope cl C X.env) fp xe) W1 → SE G (blkX X s H scope (compEnvC scope cl C X.env) fp xe) W1 te elt)
    (hs : ∀ x, foldedSetIterable iter X.env x = pure x := by intro _; rfl) : SS G X W' (esSet i (evLx f t tt te (own.map (·.2)))) (.Assign [.Name y py] (.ListComp elt [⟨tg, iter, ifs, 0⟩] scope pos) spos) :=
  ps_imp (ps_setLcX hd.stk hd.frm tk hc hN hy hyl hsw hi ok hg (fun σ s H C cl fp xe tk => ht s H C cl fp xe _ tk) (fun σ s H C cl fp xe tk => he s H C cl fp xe _ tk) hs) fun D σ H ⟨C, l, e, okC, r, p⟩ => by
    refine rd_lx (W' := W') (σ := σ) (H := H) (Q := fun x H1 => gName i x σ H1 D.nx) kk hks ⟨C, l, e, okC, r, ?_⟩
    refine Post.mono (fun w C1 ok1 x1 p1 v rv => ?_) (Post.bnd p)
    rw [tgName_eq] at p1
    exact (Post.now (W' := W') ok1 p1) _ ((r.mono okC x1).set rv)
end
end Ev

namespace Ev
open PySem PySem.Spec PyProof.Rows L2
/-! ### calls: with a heap of its own where only plain values go in and come out -/
noncomputable def backP (S : FH) (z m : Res W) : Res W := Res.rec (motive := fun _ => Res W)
  (fun a _ => match pureW a with
    | true => .ok a S
    | false => z)
  (fun c x _ _ => match pureW x with
    | true => .exc c x [] S
    | false => z)
  (fun _ _ _ => z) .stuck m
noncomputable def callM (pm : Bool) (F : Fn) (ws : List W) (S : FH) : Res W := match pm with
  | true => match pureWs ws with
    | true => backP S (back (S := S) pureW (F ws S.bare)) (F ws ⟨0, []⟩)
    | false => F ws S
  | false => callF F ws S
section
variable {G : Glo} {W' : WX}
theorem Cf.zero_ok {H : Hp} : (Cf.mk [] H ⟨0, []⟩).Ok G := ⟨rfl, fun i j a h => by simp at h, fun i a h => by simp at h, fun i v h => nomatch h⟩
theorem post_backP {C : Cf} (ok : C.Ok G) {E : XK} {Q : VK} {z : Res W} {P : Prop} (hz : Post G (WE' E) C z (PhE G Q) → P) : ∀ {m : Res W}, Post G (WE' E) C (backP C.S z m) (PhE G Q) → Post G (WE' E) ⟨[], C.H, ⟨0, []⟩⟩ m (PhE G Q) ∨ P
  | .ok a S', h => by
    dsimp only [backP] at h
    cases q : pureW a with
    | true =>
      simp only [q] at h
      refine .inl ?_
      unfold Post
      intro D hD okD x v rv
      unfold Post at h
      obtain ⟨ok', x'⟩ := Cf.beside (H' := D.H) ok fun b o e => x.keep b o e fun i v q => nomatch q
      exact h ⟨C.ρ, D.H, C.S⟩ rfl ok' x' v (pure_mono (fun h => h) a q rv)
    | false => simp only [q] at h; exact .inr (hz h)
  | .exc c w l S', h => by
    dsimp only [backP] at h
    cases q : pureW w with
    | true =>
      simp only [q] at h
      refine .inl ?_
      unfold Post
      intro D cls d σ' hD okD x hx hl
      unfold Post at h
      obtain ⟨ok', x'⟩ := Cf.beside (H' := D.H) ok fun b o e => x.keep b o e fun i v q => nomatch q
      exact h ⟨C.ρ, D.H, C.S⟩ cls d [] rfl ok' x' (rx_of hx rfl fun v r => pure_mono (fun h => h) w q r) rl_nil
    | false => simp only [q] at h; exact .inr (hz h)
  | .pick n f, h => .inr (hz h)
  | .stuck, h => by
    dsimp only [backP] at h
    exact post_stuck h
theorem sp_ofM {C : Cf} (ok : C.Ok G) {pm : Bool} {F : Fn} {l : Lo} {σ : L2.St} {ws : List W} {vs : List V} {n : Nat} {Q : VK} (r : RL G C l σ) (rv : RWs G.K C.ρ C.H ws vs) (hn : vs.length = n) (p : Post G W' C (relo l (callM pm F ws C.S)) (PhE G Q)) :
    spF G F n vs C.H Q fun cls d H => W' cls d σ H := by
  cases pm with
  | false => exact sp_of ok r rv hn p
  | true =>
    refine ⟨hn, ?_⟩
    have p1 := post_relo ok r p
    unfold callM at p1
    cases q : pureWs ws with
    | false =>
      simp only [q] at p1
      exact ⟨C, ws, rfl, ok, rv, p1⟩
    | true =>
      simp only [q] at p1
      rcases post_backP (P := ∃ (C' : Cf) (ws : List W), C'.H = C.H ∧ C'.Ok G ∧ RWs G.K C'.ρ C'.H ws vs ∧ Post G (WE' fun cls d H => W' cls d σ H) C' (F ws C'.S) (PhE G Q)) ok (fun hz => ⟨⟨C.ρ, C.H, C.S.bare⟩, ws, rfl, Cf.bare_ok ok, rv, post_back ok hz⟩) p1 with p2 | ⟨C', ws', e1, h⟩
      · exact ⟨⟨[], C.H, ⟨0, []⟩⟩, ws, rfl, Cf.zero_ok, pures_mono (fun h => h) ws q rv, p2⟩
      · exact ⟨C', ws', e1, h⟩
end
section
variable {G : Glo} {X : Cx} {W' : WX} {k : Nat} {f : Addr} {fd : FuncData} {ps : List Str} {x : Str} {p pos : Pos} {e : Expr} {es : List Expr} {F : Fn} {fa : Eva}
noncomputable def evCl (pm : Bool) (n : Nat) (F : Fn) (f : Eva) : Evl := fun l S => (f l S).bnd fun ws S1 => match Nat.beq ws.length n with
  | true => relo l (callM pm F ws S1)
  | false => .stuck
/-- a def of the module, as a caller sees it -/
structure Def (G : Glo) (P : Program) (w : World) (mg : Str → Option Value) (base : Heap) (k : Nat) (x : Str) (ps : List Str) (n : Nat) (F : Fn) : Prop where
  ex : ∃ (f : Addr) (fd : FuncData), FnOk P w G.K mg base (L2.CX P w) k f fd ps (spF G F n) ∧ ps.length = n ∧ mg x = some (.ref f) ∧ PySem.W.keepIn G.K (.ref f) = true ∧ Binds G.K fd ps [] ∧ ∃ (oc : Value) (od : Option Addr) (osl : Array (Option Value)), G.K.lookup f = some ⟨oc, od, .func fd, osl⟩
theorem se_cl {n : Nat} (pm : Bool) (hx : Okx G X) (D : Def G X.prog X.w X.mg X.base k x ps n F) (hr : Room k X.A) (hg : Gl X x) (tk : Takes X W')
    (ha : SA G X W' fa (e :: es)) (hdb : (x == ("__debug__" : Str)) = false := by decide) (he : starEach (e :: es) X.env = (false, eval e X.env) :: starEach es X.env := by rfl) (hpl : (backTo pos (starEach es X.env)).any (·.1) = false := by rfl) :
    SE G X W' (evCl pm n F fa) (.Call (.Name x p) (e :: es) [] pos) := by
  obtain ⟨f, fd, Fk, hl, hm, hk, hb, _⟩ := D.ex
  rw [← hx.k] at Fk hk hb
  refine pe_imp (pe_callSD (dvs := []) (ds := []) (E := fun σ => L2.WE W' σ) Fk hr hg hm hk hb .nil (fun σ => L2.passAt tk σ) ha hdb he hpl) fun σ H Q ⟨C, l, e, ok, r, p⟩ => ?_
  subst e
  refine ⟨C, l, rfl, ok, r, Post.mono (fun ws C1 ok1 x1 p1 vs rvs => ?_) (Post.bnd p)⟩
  show spF G F n (vs ++ []) C1.H Q _
  rw [List.append_nil]
  cases q : Nat.beq ws.length n with
  | false => simp only [q] at p1; exact post_stuck p1
  | true =>
    simp only [q] at p1
    exact sp_ofM ok1 (r.mono ok x1) rvs (by rw [rvs.length]; exact Nat.eq_of_beq_eq_true q) p1
theorem se_cl0 (pm : Bool) (hx : Okx G X) (D : Def G X.prog X.w X.mg X.base k x ps 0 F) (hr : Room k X.A) (hg : Gl X x) (tk : Takes X W')
    (hdb : (x == ("__debug__" : Str)) = false := by decide) : SE G X W' (evCl pm 0 F eaNil) (.Call (.Name x p) [] [] pos) := by
  obtain ⟨f, fd, Fk, hl, hm, hk, hb, _⟩ := D.ex
  rw [← hx.k] at Fk hk hb
  refine pe_imp (pe_callS0 (E := fun σ => L2.WE W' σ) Fk hr hg hm hk hb (fun σ => L2.passAt tk σ) hdb) fun σ H Q ⟨C, l, e, ok, r, p⟩ => ?_
  subst e
  exact sp_ofM ok r .nil rfl p
/-! ### calls with keywords: the values in the call's order, then put in the parameters' order -/
noncomputable def permK {α : Type} (ws : List W) (is : List Nat) (k : List W → Res α) : Res α := List.rec (motive := fun _ => (List W → Res α) → Res α) (fun k => k []) (fun i _ ih k => nthK ws i fun w => ih fun r => k (w :: r)) is k
noncomputable def evKw (pm : Bool) (n m mk : Nat) (F : Fn) (is : List Nat) (f g : Eva) : Evl := fun l S => (f l S).bnd fun ws S1 => (g l S1).bnd fun us S2 => match Nat.beq ws.length m with
  | true => match Nat.beq us.length mk with
    | true => appK ws us fun zs => permK zs is fun ys => match Nat.beq ys.length n with
      | true => relo l (callM pm F ys S2)
      | false => .stuck
    | false => .stuck
  | false => .stuck
def permL {α : Type} (ws : List α) (is : List Nat) (d : α) : List α := is.map fun i => (ws[i]?).getD d
theorem post_permK {α : Type} {C : Cf} {Φ : α → Cf → Prop} {ws : List W} {vs : List V} (rv : RWs G.K C.ρ C.H ws vs) : ∀ {is : List Nat} {k : List W → Res α}, Post G W' C (permK ws is k) Φ → ∃ ys, RWs G.K C.ρ C.H ys (permL vs is .non) ∧ (∀ i ∈ is, i < vs.length) ∧ Post G W' C (k ys) Φ
  | [], k, p => ⟨[], .nil, fun i h => (nomatch h), p⟩
  | i :: is, k, p => by
    obtain ⟨w, hw, p1⟩ := post_nthK p
    obtain ⟨ys, h1, h2, h3⟩ := post_permK rv (is := is) (k := fun r => k (w :: r)) p1
    obtain ⟨v, hv, r⟩ := rv.get hw
    refine ⟨w :: ys, ?_, fun j hj => ?_, h3⟩
    · show RWs G.K C.ρ C.H (w :: ys) ((vs[i]?).getD .non :: permL vs is .non)
      rw [hv]
      exact .cons r h1
    · rcases List.mem_cons.mp hj with e | e
      · rw [e]; exact (List.getElem?_eq_some_iff.mp hv).1
      · exact h2 j e
theorem vals_perm {vs : List V} {us : List Value} (r : Vals vs us) : ∀ {is : List Nat}, (∀ i ∈ is, i < vs.length) → Vals (permL vs is .non) (permL us is .none)
  | [], _ => .nil
  | i :: is, h => by
    have hi := h i (List.mem_cons_self ..)
    have e : vs[i]? = some vs[i] := by simp [hi]
    obtain ⟨u, hu, ru⟩ := r.get e
    show Vals ((vs[i]?).getD .non :: permL vs is .non) ((us[i]?).getD .none :: permL us is .none)
    rw [e, hu]
    exact .cons ru (vals_perm r fun j hj => h j (List.mem_cons_of_mem _ hj))
/-- how a call with m values and the keywords ks binds -/
def KwB (K : PySem.W.Frag) (fd : FuncData) (ps : List Str) (m : Nat) (ks : List Str) (is : List Nat) : Prop := ∀ (s : Shared) (us ws : List Value), us.length = m → ws.length = ks.length → BindsTo s fd ⟨us, ks.zip ws⟩ (ps.zip (permL (us ++ ws) is .none))
theorem run_kw {E : L2.St → XK} {ks : List Str} {is : List Nat} {m n : Nat} {pins : List (Addr × Obj)} {σ : L2.St} {H : Hp} {s : Shared} {Q : VK} {us ws : List Value} {vs zs : List V} (Fk : FnOk X.prog X.w X.K X.mg X.base (L2.CX X.prog X.w) k f fd ps (spF G F n)) (hl : ps.length = n) (hr : Room k X.A) (hb : KwB X.K fd ps m ks is) (hx : PassesAt (L2.CX X.prog X.w) X σ (E σ))
    (I : Inv X pins σ H s) (r : Vals vs us) (rz : Vals zs ws) (hm : us.length = m) (hks : ws.length = ks.length) (hi : ∀ i ∈ is, i < (vs ++ zs).length) (h : spF G F n (permL (vs ++ zs) is .non) H Q (E σ)) : wpAny (model X.prog X.w) X.A (call (.ref f) us (ks.zip ws)) (EP X pins σ Q) X.xe s := by
  have r2 := vals_perm (r.append rz) hi
  have hl' : (permL (us ++ ws) is Value.none).length = ps.length := by rw [← r2.length]; exact Fk.len _ _ _ _ h
  refine wpAny_call (codeAny_mono (Fk.run X.A X.stack s H ⟨us, ks.zip ws⟩ (permL (us ++ ws) is .none) (permL (vs ++ zs) is .non) Q (E σ) hr I.env0 (hb s us ws hm hks) r2 h) fun r s' hq => ?_)
  cases r with
  | error e => exact hx pins H s e s' I hq
  | ok fl =>
    cases fl with
    | ret u => exact I.after hq
    | next => exact False.elim hq
    | brk => exact False.elim hq
    | cont => exact False.elim hq
def SK (G : Glo) (X : Cx) (W' : WX) (f : Eva) (kws : List Keyword) : Prop := PK X kws (rdA G W' f)
theorem sk_nil : SK G X W' eaNil [] := ⟨fun pos pins s σ H Q I ⟨C, l, e, ok, r, p⟩ => by
  subst e
  exact (pk_nil (X := X)).run pos pins s σ C.H Q I ((Post.now ok p) [] .nil)⟩
theorem sk_cons {f : Evl} {g : Eva} {nm : Option Str} {kpos : Pos} {kws : List Keyword} (h1 : SE G X W' f e) (h2 : SK G X W' g kws) : SK G X W' (eaCons f g) (⟨nm, e, kpos⟩ :: kws) := ⟨fun pos pins s σ H Q I ⟨C, l, e, ok, r, p⟩ => by
  refine (pk_cons (nm := nm) (kpos := kpos) h1 h2).run pos pins s σ H Q I ?_
  subst e
  refine ⟨C, l, rfl, ok, r, Post.mono (fun w C1 ok1 x1 p1 v rv => ?_) (Post.bnd p)⟩
  refine ⟨C1, l, rfl, ok1, r.mono ok x1, Post.mono (fun ws C2 ok2 x2 p2 vs rvs => ?_) (Post.bnd p1)⟩
  exact (Post.now ok2 p2) (v :: vs) (.cons (rv.mono ok1 x2) rvs)⟩
/-- keywords of a def -/
structure DefK (G : Glo) (P : Program) (w : World) (mg : Str → Option Value) (base : Heap) (k : Nat) (x : Str) (n : Nat) (F : Fn) (m : Nat) (ks : List Str) (is : List Nat) : Prop where
  ex : ∃ (f : Addr) (fd : FuncData) (ps : List Str), FnOk P w G.K mg base (L2.CX P w) k f fd ps (spF G F n) ∧ ps.length = n ∧ mg x = some (.ref f) ∧ PySem.W.keepIn G.K (.ref f) = true ∧ KwB G.K fd ps m ks is
theorem rd_kw {n m mk : Nat} {pm : Bool} {is : List Nat} {ga : Eva} {σ : L2.St} {H : Hp} {Q : VK} (h : rdE G W' (evKw pm n m mk F is fa ga) σ H Q) : rdA G W' fa σ H fun vs H1 => rdA G W' ga σ H1 fun zs H2 => vs.length = m ∧ zs.length = mk ∧ (∀ i ∈ is, i < (vs ++ zs).length) ∧ spF G F n (permL (vs ++ zs) is .non) H2 Q fun cls d H => W' cls d σ H := by
  obtain ⟨C, l, e, ok, r, p⟩ := h
  refine ⟨C, l, e, ok, r, Post.mono (fun ws C1 ok1 x1 p1 vs rvs => ?_) (Post.bnd p)⟩
  refine ⟨C1, l, rfl, ok1, r.mono ok x1, Post.mono (fun us C2 ok2 x2 p2 zs rzs => ?_) (Post.bnd p1)⟩
  cases q1 : Nat.beq ws.length m with
  | false => simp only [q1] at p2; exact post_stuck p2
  | true =>
    cases q2 : Nat.beq us.length mk with
    | false => simp only [q1, q2] at p2; exact post_stuck p2
    | true =>
      simp only [q1, q2] at p2
      rw [appK_eq] at p2
      obtain ⟨ys, h1, h2, h3⟩ := post_permK ((RWs.mono ok1 x2 ws rvs).append rzs) p2
      refine ⟨by rw [rvs.length]; exact Nat.eq_of_beq_eq_true q1, by rw [rzs.length]; exact Nat.eq_of_beq_eq_true q2, h2, ?_⟩
      cases q : Nat.beq ys.length n with
      | false => simp only [q] at h3; exact post_stuck h3
      | true =>
        simp only [q] at h3
        exact sp_ofM ok2 ((r.mono ok x1).mono ok1 x2) h1 (by rw [h1.length]; exact Nat.eq_of_beq_eq_true q) h3
theorem se_kw0 {n : Nat} {ks : List Str} {is : List Nat} {kws : List Keyword} {ga : Eva} (pm : Bool) (hx : Okx G X) (D : DefK G X.prog X.w X.mg X.base k x n F 0 ks is) (hr : Room k X.A) (hg : Gl X x) (tk : Takes X W')
    (hkw : SK G X W' ga kws)
    (hall : (backToKw pos (keywordEach kws X.env)).all (·.1.isSome) = true := by rfl) (hks : (backToKw pos (keywordEach kws X.env)).filterMap (·.1) = ks := by rfl)
    (hdb : (x == ("__debug__" : Str)) = false := by decide)
    (hpl : ((backTo pos (starEach [] X.env)).any (·.1) || (backToKw pos (keywordEach kws X.env)).any (·.1.isNone)) = false := by rfl) :
    SE G X W' (evKw pm n 0 ks.length F is eaNil ga) (.Call (.Name x p) [] kws pos) := by
  obtain ⟨f, fd, ps, Fk, hl, hm, hk, hb⟩ := D.ex
  rw [← hx.k] at Fk hk hb
  refine ⟨fun pins s σ H Q I h => ?_⟩
  refine wpAny_Call_Name_kw (ld_glob I hg hm ?_ hdb)
  have h' := rd_kw h
  obtain ⟨C, l, e, ok, r, p⟩ := h'
  subst e
  have q0 := (Post.now ok p) [] .nil
  refine PySem.W.callWith_KW0 (h₀ := X.base) I.ok.mod.kin hk hall ?_ hpl
  refine thn (hkw.run pos pins s σ C.H _ I q0) fun ws s2 ⟨zs, H2, I2, rz, q1, q2, q3, q4⟩ => ⟨I2.kIn, ?_⟩
  rw [hks]
  exact run_kw (G := G) (E := fun σ => L2.WE W' σ) (us := []) (vs := []) Fk hl hr hb (L2.passAt tk σ) I2 .nil rz rfl (by rw [← rz.length]; exact q2) q3 q4
end
end Ev

namespace Ev
open PySem PySem.Spec PyProof.Rows L2
/-! ### raise C() -/
section
variable {G : Glo} {X : Cx} {W' : WX} {pos : Pos}
theorem pmk_own0A {C : Addr} {bmB : List Value} {B newId initId : String} {x : Str} {p : Pos} (F : ExcBaseFacts B newId initId bmB) (q : PySem.W.excIn X.K C bmB newId = true) (gC : X.mg x = some (.ref C))
    (kC : PySem.W.keepIn X.K (.ref C) = true) (r : Raises X (.ref C)) (hg : Gl X x) (hdb : (x == ("__debug__" : Str)) = false := by decide) :
    PMk X (.Call (.Name x p) [] [] pos) (fun σ H Q => Q (.ref C) none H) := by
  intro pins s σ H Q I h
  refine wpAny_Call_Name_kw (ld_glob I hg gC ?_ hdb)
  refine PySem.W.callWith_K0 I.kIn kC ?_
  show wpAny _ _ (call (.ref C) []) _ _ _
  obtain ⟨bm, N, nm, qn, bs, hdct, sn, sub, ab, col, dd, k0, k1, k2, k3, k5, mN, hC, hN, hni, T⟩ := exc_obj I.kIn q
  refine wpAny_call_exc_subT F T hC hN hni (fun h' e hm => ?_) (by show 0 ≤ sizeLine; exact Nat.zero_le _)
  exact mk_of I hm r h (I.hok.gone hm.new)
/-- an own error's class without __init__, by its number -/
structure Exc0 (G : Glo) (mg : Str → Option Value) (c : Nat) (x : Str) : Prop where
  fl : G.cfl c = none
  mg : mg x = some (.ref (G.cad c))
  q : ∃ bmB B newId initId, ExcBaseFacts B newId initId bmB ∧ PySem.W.excIn G.K (G.cad c) bmB newId = true
  kp : PySem.W.keepIn G.K (.ref (G.cad c)) = true
  s1 : PySem.W.subIn G.K (.ref (G.cad c)) (.type "BaseException") = some true
  s2 : PySem.W.typeIn G.K (.ref (G.cad c)) = some (.type "type")
noncomputable def esRaise0 (c : Nat) : Evs := fun l S => .exc c (.k .non) l S
theorem ss_raise0 {c : Nat} {x : Str} {p pos' : Pos} (hx : Okx G X) (tk : Takes X W') (E : Exc0 G X.mg c x) (hg : Gl X x) (hdb : (x == ("__debug__" : Str)) = false := by decide) : SS G X W' (esRaise0 c) (.Raise (some (.Call (.Name x p) [] [] pos)) none pos') := by
  obtain ⟨bmB, B, newId, initId, F, q⟩ := E.q
  rw [← hx.k] at q
  refine ps_imp (ps_raise hx.calm tk (pmk_own0A F q E.mg (by rw [hx.k]; exact E.kp) (raises_own (by rw [hx.k]; exact E.s1) (by rw [hx.k]; exact E.s2)) hg hdb)) fun D σ H ⟨C, l, e, ok, r, p⟩ => ?_
  subst e
  unfold esRaise0 at p
  unfold Post at p
  refine p C _ none σ rfl ok (Ext.refl C) ⟨rfl, ?_⟩ r
  rw [E.fl]
end
/-! ### try: body, except x as n: suite, .. -/
def hdEnds (i : Option Nat) (D : Ends) : Ends := match i with
  | none => D
  | some i => { nx := fun σ' H' => D.nx (σ'.set i none) H', rt := D.rt, bk := fun σ' H' => D.bk (σ'.set i none) H', ct := fun σ' H' => D.ct (σ'.set i none) H' }
def hdSt (i : Option Nat) (a : Addr) (σ : L2.St) : L2.St := match i with
  | none => σ
  | some i => σ.set i (some (.ref a))
/-- what the clauses wish of an exception of the body -/
def wHds (K : PySem.W.Frag) (Wout : WX) (D : Ends) : List (Value × Option Nat × (Addr → Value → Option Addr → TS)) → WX
  | [] => Wout
  | (c, i, ts) :: r => fun cls d σ H => ∃ b, PySem.W.exmOne K cls c = some b ∧ (b = true → ∀ a, H a = none → ts a cls d (hdEnds i D) (hdSt i a σ) H) ∧ (b = false → wHds K Wout D r cls d σ H)
def NmOk (X : Cx) (i : Option Nat) (n : Option Str) : Prop := match i with
  | none => n = none
  | some i => ∃ m, n = some m ∧ X.N[i]? = some m ∧ X.env.kindOf m = some .local
inductive HdsOkA (X : Cx) : List ExceptHandler → List (Value × Option Nat × (Addr → Value → Option Addr → TS)) → Prop
  | nil : HdsOkA X [] []
  | cons {x : Str} {c : Value} {i : Option Nat} {n : Option Str} {ts : Addr → Value → Option Addr → TS} {b₀ : Stmt} {suite : List Stmt} {np pos' : Pos} {hds : List ExceptHandler} {l : List (Value × Option Nat × (Addr → Value → Option Addr → TS))} (hc : Names X x c) (hn : NmOk X i n)
      (hsu : ∀ (a : Addr) (oe : Obj) (cls : Value) (d : Option Addr) (pn : List (Addr × Obj)), Zc cls d oe → (∃ vs, oe.data = .fields vs) → PSs (X.suite a ((a, oe) :: pn)) (b₀ :: suite) (ts a cls d)) (r : HdsOkA X hds l) :
      HdsOkA X (.ExceptHandler (some (.Name x np)) n (b₀ :: suite) pos' :: hds) ((c, i, ts) :: l)
section
variable {X : Cx} {body : List Stmt} {h₀ : ExceptHandler} {hds : List ExceptHandler} {l : List (Value × Option Nat × (Addr → Value → Option Addr → TS))} {pos : Pos} {tb : WX → TS} {Wout : WX}
theorem ps_try_hds (hs : X.stack = X.env :: X.outer) (hf : X.env.frame = some X.env.locals) (hN : X.N.Nodup) (tk : Takes X Wout)
    (hb : ∀ (W : WX) (pn : List (Addr × Obj)) (xe : Value → Shared → Prop), Takes (X.tr pn xe) W → PassesOwn (model X.prog X.w) X.A X.env xe → PSs (X.tr pn xe) body (tb W))
    (hh : HdsOkA X (h₀ :: hds) l) : PS X (.Try body (h₀ :: hds) [] [] pos) (fun D σ H => tb (wHds X.K Wout D l) D σ H) := by
  refine ⟨fun pins s σ H D I h => ?_⟩
  have ok := I.ok
  have hfr : X.A.frames = some (X.env :: X.outer) := by rw [ok.frames, hs]
  refine wpAny_Try_except ?_
  refine wpAny_mono ((hb (wHds X.K Wout D l) (X.pn ++ pins) (fun e s₁ => wpAny (model X.prog X.w) X.A (noteFrame e X.env) (fun _ s₂ => wpAny (model X.prog X.w) X.A (setFlight e none) (fun _ s₃ =>
    wpAny (model X.prog X.w) X.A (handleBy e X.env (h₀ :: hds)) (SP X pins D) X.xe s₃) X.xe s₂) X.xe s₁) (fun u s' xx => ?_) PassesOwn.looking).run [] s σ H D (I.toTry _) h) (fun f s1 hsp => ?_) (fun e s1 he => he)
  · obtain ⟨a, B, sI, pins', σ', H', cls, d, rfl, J', nb, up, sky, na, os, ag, w⟩ := xx
    have J : Inv X pins σ' H' sI := J'.ofTry ok
    have sky' : Sky B (X.env :: X.outer) a (Zc cls d) X.env.locals s'.heap := by rw [← hs]; exact sky
    show wpAny (model X.prog X.w) X.A (noteFrame (.ref a) X.env) _ _ _
    refine Sky.land Zc.steady hfr hf sky' fun h3 fl3 up3 => ?_
    have J3 : Inv X pins σ' H' { s' with heap := h3 } := J.landed nb fl3.1 (up.trans up3) os ag
    obtain ⟨oe3, vs3, he3, hz3, hd3⟩ := fl3.there
    have notFr : ∀ {h : Heap} {o : Obj} {vs : Array Value}, h.FunFrames B (X.env :: X.outer) → h.get? a = some o → o.data = .fields vs → a ∉ frs (X.env :: X.outer) := fun {h o vs} ff e dd hm => by
      obtain ⟨_, o', e', hnf⟩ := ff.mem hm
      rw [e] at e'; cases e'
      exact hnf _ dd
    have nfr := notFr fl3.2.2.1 he3 hd3
    have nL : a ≠ X.env.locals := fun z => nfr (List.mem_filterMap.mpr ⟨X.env, List.mem_cons_self, by rw [hf, z]⟩)
    have nF : a ∉ X.fs := fun hm => by
      obtain ⟨e, he, q⟩ := List.mem_filterMap.mp hm
      exact nfr (List.mem_filterMap.mpr ⟨e, List.mem_cons_of_mem _ he, q⟩)
    have S3 := J3.suite he3 hd3 na nL nF
    have go : ∀ {hds' : List ExceptHandler} {l' : List (Value × Option Nat × (Addr → Value → Option Addr → TS))}, HdsOkA X hds' l' → wHds X.K Wout D l' cls d σ' H' →
        wpAny (model X.prog X.w) X.A (handleBy (.ref a) X.env hds') (SP X pins D) X.xe { s' with heap := h3 } := by
      intro hds' l' hk
      induction hk with
      | nil =>
        intro w
        refine wpAny_handleBy_nil ?_
        obtain ⟨k1, k2, k3, oe, vs, T, oT, ts', he, hz, hd, h1, hr⟩ := id fl3
        unfold PySem.passOn
        refine wpAny_bind (wpAny_field he hd h1 ?_)
        rw [if_neg (show ¬ ((Value.ref T == Value.none) = true) from by simp)]
        have fin : wpAny (model X.prog X.w) X.A (setFlight (.ref a) X.env.frame) (fun _ s4 => wpAny (model X.prog X.w) X.A (throw (.ref a) : Sem Flow) (SP X pins D) X.xe s4) X.xe { s' with heap := h3 } := by
          rw [hf]
          refine HandSPX.setFlight_upZ fl3 fun h4 hh4 up4 => wpAny_throw (tk _ _ ?_)
          exact ⟨a, B, sI, pins, σ', H', cls, d, rfl, J, nb, (up.trans up3).trans up4, .inr (.inr (by rw [hs]; exact hh4)), na, os, ag, w⟩
        first
          | exact wpAny_bind (wpAny_pure (wpAny_bind fin))
          | exact wpAny_bind fin
      | @cons x c i n ts b₀ suite np pos' hds2 l2 hc hn hsu r ih =>
        intro w
        obtain ⟨b, hb1, hyes, hno⟩ := w
        refine wpAny_handleBy_cons (codeAny_handlers_test ?_) (by intro q; cases q)
        have LT : PySem.W.Looks (model X.prog X.w) h3 (typeOf (.ref a)) cls := fun A Q E s k q => wpAny_typeOf_ref (k _ _ he3) (by rw [hz3.1]; exact q)
        have LM := PySem.W.exm_one (M := model X.prog X.w) (J3.kIn) LT hb1
        have test : ∀ {Q : Value → Shared → Prop} {E : Value → Shared → Prop}, Q c { s' with heap := h3 } → wpAny (model X.prog X.w) (X.A.mark (some (.ref a))) (eval (.Name x np) X.env) Q E { s' with heap := h3 } := fun {Q E} q => by
          obtain ⟨hg, hdbg, hm | ⟨hm, hv, hnn⟩⟩ := hc
          · exact ld_glob (X := X.suite a ((a, oe3) :: (X.pn ++ pins))) S3 hg hm q hdbg
          · exact ld_blt (X := X.suite a ((a, oe3) :: (X.pn ++ pins))) S3 hg hm hv q hnn hdbg
        refine test (LM.here ?_)
        cases b with
        | true =>
          cases i with
          | none =>
            cases (show n = none from hn)
            refine codeAny_handlers_suite ?_
            refine HandSPX.lands_againZ fl3 fun h4 fl4 up4 => ?_
            have J4 : Inv X pins σ' H' { s' with heap := h4 } := J.landed nb fl4.1 ((up.trans up3).trans up4) os ag
            obtain ⟨oe4, vs4, he4, hz4, hd4⟩ := fl4.there
            have S4 := J4.suite he4 hd4 na nL nF
            refine wpAny_mono ((hsu a oe4 cls d (X.pn ++ pins) hz4 ⟨_, hd4⟩).run [] _ _ H' _ S4 (hyes rfl a na)) (fun f s6 hsp => ?_) (fun _ _ z => False.elim z)
            cases f with
            | next =>
              obtain ⟨σ6, H6, S6, q6⟩ := hsp
              exact ⟨_, _, S6.unsuite ok, q6⟩
            | brk =>
              obtain ⟨σ6, H6, S6, q6⟩ := hsp
              exact ⟨_, _, S6.unsuite ok, q6⟩
            | cont =>
              obtain ⟨σ6, H6, S6, q6⟩ := hsp
              exact ⟨_, _, S6.unsuite ok, q6⟩
            | ret u =>
              obtain ⟨v6, σ6, H6, S6, r6, q6⟩ := hsp
              exact ⟨_, _, _, S6.unsuite ok, r6, q6⟩
          | some i =>
            obtain ⟨m, rfl, hi, hln⟩ := hn
            have hloc : Loc X.env.scope m := .inl hln
            refine codeAny_handlers_suite_as ?_
            refine HandSPX.lands_againZ fl3 fun h4 fl4 up4 => ?_
            have J4 : Inv X pins σ' H' { s' with heap := h4 } := J.landed nb fl4.1 ((up.trans up3).trans up4) os ag
            obtain ⟨oe4, vs4, he4, hz4, hd4⟩ := fl4.there
            have S4 := J4.suite he4 hd4 na nL nF
            refine store_ok (X := X.suite a ((a, oe4) :: (X.pn ++ pins))) (v := .ref a) S4 hN hi hloc rfl (fun s5 S5 => ?_) (.inr hln)
            refine wpAny_mono ((hsu a oe4 cls d (X.pn ++ pins) hz4 ⟨_, hd4⟩).run [] s5 _ H' _ S5 (hyes rfl a na)) (fun f s6 hsp => ?_) (fun _ _ z => False.elim z)
            have end_ : ∀ {σ6 : L2.St} {H6 : Hp} {Q : Shared → Prop}, Inv (X.suite a ((a, oe4) :: (X.pn ++ pins))) [] σ6 H6 s6 → (∀ s7, Inv X pins (σ6.set i none) H6 s7 → Q s7) →
                wpAny (model X.prog X.w) X.A (do bindName X.env m .none; unbindBehindTheSuite X.env m pos') (fun _ s7 => Q s7) X.xe s6 := fun {σ6 H6 Q} S6 hq => gone_ok (S6.unsuite ok) hN hi hln hq
            cases f with
            | next =>
              obtain ⟨σ6, H6, S6, q6⟩ := hsp
              exact end_ S6 fun s7 J7 => ⟨_, _, J7, q6⟩
            | brk =>
              obtain ⟨σ6, H6, S6, q6⟩ := hsp
              exact end_ S6 fun s7 J7 => ⟨_, _, J7, q6⟩
            | cont =>
              obtain ⟨σ6, H6, S6, q6⟩ := hsp
              exact end_ S6 fun s7 J7 => ⟨_, _, J7, q6⟩
            | ret u =>
              obtain ⟨v6, σ6, H6, S6, r6, q6⟩ := hsp
              exact end_ S6 fun s7 J7 => ⟨_, _, _, J7, r6, q6⟩
        | false =>
          show wpAny _ X.A (handleBy (.ref a) X.env hds2) _ _ _
          exact ih (hno rfl)
    exact go hh w
  · cases f with
    | next =>
      obtain ⟨σ', H', J', q⟩ := hsp
      exact wpAny_execs_nil ⟨σ', H', J'.ofTry ok, q⟩
    | brk =>
      obtain ⟨σ', H', J', q⟩ := hsp
      exact ⟨σ', H', J'.ofTry ok, q⟩
    | cont =>
      obtain ⟨σ', H', J', q⟩ := hsp
      exact ⟨σ', H', J'.ofTry ok, q⟩
    | ret u =>
      obtain ⟨v, σ', H', J', r, q⟩ := hsp
      exact ⟨v, σ', H', J'.ofTry ok, r, q⟩
end
end Ev

namespace Ev
open PySem PySem.Spec PyProof.Rows L2
abbrev Hdl := (Nat → Option Bool) × (W → Evs)
noncomputable def pickH (hs : List Hdl) (c : Nat) (x : W) (l : Lo) (S : FH) : Res Fl := List.rec (motive := fun _ => Res Fl) (.exc c x l S) (fun h _ ih => Prod.rec (motive := fun _ => Res Fl) (fun t sv => match t c with
  | none => .stuck
  | some b => match b with
    | true => sv x l S
    | false => ih) h) hs
noncomputable def tryK (hs : List Hdl) (m : Res Fl) : Res Fl := Res.rec (motive := fun _ => Res Fl) (fun a S => .ok a S) (fun c x l S => pickH hs c x l S) (fun n _ ih => .pick n ih) .stuck m
noncomputable def esTry (b : Evs) (hs : List Hdl) : Evs := fun l S => tryK hs (b l S)
noncomputable def clrFl (i : Nat) (r : Fl) (S : FH) : Res Fl := match r with
  | .nx l2 => setK l2 i none fun l3 => .ok (.nx l3) S
  | .rt w => .ok (.rt w) S
  | .bk l2 => setK l2 i none fun l3 => .ok (.bk l3) S
  | .ct l2 => setK l2 i none fun l3 => .ok (.ct l3) S
noncomputable def asK (i : Option Nat) (sv : W → Evs) : W → Evs := fun x l S => match i with
  | none => sv x l S
  | some i => match Nat.blt i l.length with
    | true => setK l i none fun l1 => (sv x l1 S).bnd fun r S1 => clrFl i r S1
    | false => .stuck
def lookB (l : List Bool) (c : Nat) : Option Bool := match l with
  | [] => none
  | b :: r => match c with
    | 0 => some b
    | m + 1 => lookB r m
section
variable (G : Glo)
def rdX (i : Option Nat) (a : Addr) (c : Nat) (d : Option Addr) (sv : W → Evs) : TS := fun D σ H => (∀ j, i = some j → σ[j]? = some (some (.ref a))) ∧ ∃ (C : Cf) (l : Lo) (x : W), C.H = H ∧ C.Ok G ∧ RL G C l σ ∧ RX G C c x (.ref (G.cad c)) d ∧ Post G W0 C (sv x l C.S) (PhS G D)
/-- the suite of a clause -/
def SX (X : Cx) (i : Option Nat) (c : Nat) (sv : W → Evs) (st : List Stmt) : Prop := ∀ (a : Addr) (oe : Obj) (d : Option Addr) (pn : List (Addr × Obj)), Zc (.ref (G.cad c)) d oe → (∃ vs, oe.data = .fields vs) → PSs (X.suite a ((a, oe) :: pn)) st (rdX G i a c d sv)
inductive HdsG (X : Cx) : List ExceptHandler → List Hdl → Prop
  | nil : HdsG X [] []
  | cons {x : Str} {cv : Value} {i : Option Nat} {n : Option Str} {t : Nat → Option Bool} {sv : W → Evs} {b₀ : Stmt} {suite : List Stmt} {np pos' : Pos} {hds : List ExceptHandler} {l : List Hdl} (hc : Names X x cv) (hn : NmOk X i n) (ht : ∀ c b, t c = some b → PySem.W.exmOne G.K (.ref (G.cad c)) cv = some b)
      (hsu : ∀ c, t c = some true → SX G X i c sv (b₀ :: suite)) (r : HdsG X hds l) : HdsG X (.ExceptHandler (some (.Name x np)) n (b₀ :: suite) pos' :: hds) ((t, asK i sv) :: l)
end
section
variable {G : Glo} {X : Cx} {W' : WX}
theorem RX.mono {C C' : Cf} (ok : C.Ok G) (x : Ext C C') {c : Nat} {w : W} {cls : Value} {d : Option Addr} (h : RX G C c w cls d) : RX G C' c w cls d := by
  obtain ⟨h1, h2⟩ := h
  refine ⟨h1, ?_⟩
  cases q : G.cfl c with
  | none => rw [q] at h2; exact h2
  | some f =>
    rw [q] at h2
    obtain ⟨dd, v, e1, e2, e3⟩ := h2
    refine ⟨dd, v, e1, x.keep dd _ e2 fun i hv g1 g2 => ?_, e3.mono ok x⟩
    obtain ⟨a, o, k1, k2, k3⟩ := ok.ob i hv g1
    rw [g2] at k1; cases k1
    rw [e2] at k2; cases k2
    exact k3.kind.2.2 _ rfl
theorem RL.hd {C : Cf} {l : Lo} {σ : L2.St} (r : RL G C l σ) (i : Nat) (v : Option V) : RL G C (setL l i none) (σ.set i v) := by
  refine ⟨by rw [setL_eq]; simp [r.len], fun j u e => ?_⟩
  rw [setL_eq] at e
  by_cases q : i = j
  · subst q
    by_cases hi : i < l.length
    · rw [List.getElem?_set_self hi] at e; cases e
    · rw [List.getElem?_eq_none (by simp; omega)] at e; cases e
  · rw [List.getElem?_set_ne q] at e
    rw [List.getElem?_set_ne q]
    exact r.at_ j u e
theorem rdX_as {C : Cf} (ok : C.Ok G) {i : Option Nat} {a : Addr} {c : Nat} {d : Option Addr} {sv : W → Evs} {D : Ends} {σ : L2.St} {l : Lo} {x : W} (r : RL G C l σ) (hx : RX G C c x (.ref (G.cad c)) d) (p : Post G W0 C (asK i sv x l C.S) (PhS G D)) : rdX G i a c d sv (hdEnds i D) (hdSt i a σ) C.H := by
  cases i with
  | none => exact ⟨fun j e => (nomatch e), C, l, x, rfl, ok, r, hx, p⟩
  | some i =>
    unfold asK at p
    simp only at p
    cases q : Nat.blt i l.length with
    | false => rw [q] at p; exact post_stuck p
    | true =>
      rw [q] at p
      simp only [setK_eq] at p
      have hi : i < σ.length := by rw [← r.len]; exact blt_of q
      refine ⟨fun j e => by cases e; exact List.getElem?_set_self hi, C, setL l i none, x, rfl, ok, r.hd i _, hx, Post.mono (fun f C1 ok1 x1 p1 => ?_) (Post.bnd p)⟩
      unfold clrFl at p1
      cases f with
      | nx l2 =>
        simp only [setK_eq] at p1
        exact fun σ2 r2 => (Post.now (W' := W0) ok1 p1) _ (r2.hd i none)
      | rt w => exact fun v rv => (Post.now (W' := W0) ok1 p1) v rv
      | bk l2 =>
        simp only [setK_eq] at p1
        exact fun σ2 r2 => (Post.now (W' := W0) ok1 p1) _ (r2.hd i none)
      | ct l2 =>
        simp only [setK_eq] at p1
        exact fun σ2 r2 => (Post.now (W' := W0) ok1 p1) _ (r2.hd i none)
theorem post_hds {D : Ends} : ∀ {hds : List ExceptHandler} {hs : List Hdl}, HdsG G X hds hs → ∃ lst, HdsOkA X hds lst ∧ ∀ (C : Cf) (c : Nat) (x : W) (l : Lo) (S : FH), Post G W' C (pickH (hs.map fun h => (h.1, fun x l S => noX (h.2 x l S))) c x l S) (PhS G D) →
      ∀ (C' : Cf) (cls : Value) (d : Option Addr) (σ' : L2.St), C'.S = S → C'.Ok G → Ext C C' → RX G C' c x cls d → RL G C' l σ' → wHds G.K W' D lst cls d σ' C'.H
  | _, _, .nil => ⟨[], .nil, fun C c x l S h => by
    have h' : Post G W' C (.exc c x l S : Res Fl) (PhS G D) := h
    unfold Post at h'
    exact h'⟩
  | _, _, @HdsG.cons _ _ x cv i n t sv b₀ suite np pos' hds l hc hn ht hsu r => by
    obtain ⟨lst, h1, h2⟩ := post_hds (D := D) r
    refine ⟨(cv, i, fun a cls d D σ H => ∃ c, cls = .ref (G.cad c) ∧ t c = some true ∧ rdX G i a c d sv D σ H) :: lst, .cons hc hn (fun a oe cls d pn hz hf => ⟨fun pins s σ H D I ⟨c, e, ht', q⟩ => ?_⟩) h1, fun C c x l S h C' cls d σ' eS ok' xx hx hl => ?_⟩
    · subst e
      exact (hsu c ht' a oe d pn hz hf).run pins s σ H D I q
    · have h' : Post G W' C (match t c with
        | none => .stuck
        | some b => match b with
          | true => noX (asK i sv x l S)
          | false => pickH (_ : List Hdl) c x l S) (PhS G D) := h
      cases q : t c with
      | none => rw [q] at h'; exact post_stuck h'
      | some b =>
        rw [q] at h'
        have ecls : cls = .ref (G.cad c) := hx.1
        cases b with
        | true =>
          refine ⟨true, by rw [ecls]; exact ht c true q, fun _ a ha => ⟨c, ecls, q, ?_⟩, fun z => (nomatch z)⟩
          refine rdX_as ok' hl (by rw [← ecls]; exact hx) ?_
          have h3 := Post.unX (Post.base xx h')
          rw [eS]; exact h3
        | false =>
          refine ⟨false, by rw [ecls]; exact ht c false q, fun z => (nomatch z), fun _ => h2 C c x l S h' C' cls d σ' eS ok' xx hx hl⟩
noncomputable def quiet (hs : List Hdl) : List Hdl := List.rec (motive := fun _ => List Hdl) [] (fun h _ ih => Prod.rec (motive := fun _ => List Hdl) (fun t sv => (t, fun x l S => noX (sv x l S)) :: ih) h) hs
theorem quiet_eq : ∀ hs : List Hdl, quiet hs = hs.map fun h => (h.1, fun x l S => noX (h.2 x l S))
  | [] => rfl
  | (t, sv) :: hs => by
    rw [List.map_cons, ← quiet_eq hs]; rfl
theorem post_try {D : Ends} {hs : List Hdl} {lst : List (Value × Option Nat × (Addr → Value → Option Addr → TS))}
    (k : ∀ (C : Cf) (c : Nat) (x : W) (l : Lo) (S : FH), Post G W' C (pickH hs c x l S) (PhS G D) → ∀ (C' : Cf) (cls : Value) (d : Option Addr) (σ' : L2.St), C'.S = S → C'.Ok G → Ext C C' → RX G C' c x cls d → RL G C' l σ' → wHds G.K W' D lst cls d σ' C'.H) {C : Cf} :
    ∀ {m : Res Fl}, Post G W' C (tryK hs m) (PhS G D) → Post G (wHds G.K W' D lst) C m (PhS G D)
  | .ok a S, h => by
    have h' : Post G W' C (.ok a S) (PhS G D) := h
    unfold Post at h' ⊢
    exact h'
  | .exc c x l S, h => by
    unfold Post
    exact k C c x l S h
  | .pick n f, h => by
    have h' : Post G W' C (.pick n fun r => tryK hs (f r)) (PhS G D) := h
    unfold Post at h' ⊢
    exact fun r hr => post_try k (h' r hr)
  | .stuck, h => post_stuck h
theorem ss_try {b : Evs} {hs : List Hdl} {body : List Stmt} {h₀ : ExceptHandler} {hds : List ExceptHandler} {pos : Pos} (hx : Okx G X) (hd : Dfx X) (hN : X.N.Nodup) (tk : Takes X W')
    (hb : ∀ (W1 : WX) (pn : List (Addr × Obj)) (xe : Value → Shared → Prop), Takes (X.tr pn xe) W1 → PassesOwn (model X.prog X.w) X.A X.env xe → SSs G (X.tr pn xe) W1 b body)
    (hh : HdsG G X (h₀ :: hds) hs) : SS G X W' (esTry b (quiet hs)) (.Try body (h₀ :: hds) [] [] pos) := by
  refine ⟨fun pins s σ H D I ⟨C, l, e, ok, r, p⟩ => ?_⟩
  subst e
  obtain ⟨lst, h1, h2⟩ := post_hds (W' := W') (D := D) hh
  refine (ps_try_hds (pos := pos) hd.stk hd.frm hN tk (tb := fun W1 => rdS G W1 b) hb h1).run pins s σ C.H D I ⟨C, l, rfl, ok, r, ?_⟩
  rw [hx.k]
  unfold esTry at p
  rw [quiet_eq] at p
  exact post_try h2 p
/-! ### suites -/
def SXE (G : Glo) (X : Cx) (i : Option Nat) (c : Nat) (f : W → Evl) (e : Expr) : Prop := ∀ (a : Addr) (oe : Obj) (d : Option Addr) (pn : List (Addr × Obj)), Zc (.ref (G.cad c)) d oe → (∃ vs, oe.data = .fields vs) → PE (X.suite a ((a, oe) :: pn)) e
  (fun σ H Q => (∀ j, i = some j → σ[j]? = some (some (.ref a))) ∧ ∃ (C : Cf) (l : Lo) (x : W), C.H = H ∧ C.Ok G ∧ RL G C l σ ∧ RX G C c x (.ref (G.cad c)) d ∧ Post G W0 C (f x l C.S) (PhE G Q))
variable {pos : Pos}
theorem sxe_of {i : Option Nat} {c : Nat} {f : Evl} {e : Expr} (h : ∀ (a : Addr) (pn : List (Addr × Obj)), SE G (X.suite a pn) W0 f e) : SXE G X i c (fun _ => f) e := fun a oe d pn _ _ => pe_imp (h a ((a, oe) :: pn)) fun σ H Q ⟨_, C, l, x, e, ok, r, _, p⟩ => ⟨C, l, e, ok, r, p⟩
/-- name = e in a suite -/
theorem sx_set {i : Option Nat} {c j : Nat} {x : Str} {f : W → Evl} {e : Expr} {pos' : Pos} (hN : X.N.Nodup) (hi : X.N[j]? = some x) (hx : Loc X.env.scope x) (he : SXE G X i c f e) (hs : swapsWith e (some (.Name x pos')) pos.line X.env = pure false := by rfl)
    (hf : X.fn x = true ∨ X.env.scope.names.lookup x = some .local := by first | exact .inl rfl | exact .inr rfl | assumption) : SX G X i c (fun x => esSet j (f x)) [.Assign [.Name x pos'] e pos] := fun a oe d pn hz hff => by
  refine ⟨fun pins s σ H D I ⟨h0, C, l, x, e, ok, r, rx, q⟩ => ?_⟩
  subst e
  refine (pss_one (ps_set (X := X.suite a ((a, oe) :: pn)) (pos := pos) hN hi hx (he a oe d pn hz hff) hs hf)).run pins s σ C.H D I ?_
  refine ⟨h0, C, l, x, rfl, ok, r, rx, Post.mono (fun w C1 ok1 x1 p1 v rv => ?_) (Post.bnd q)⟩
  rw [tgName_eq] at p1
  exact (Post.now (W' := W0) ok1 p1) _ ((r.mono ok x1).set rv)
end
end Ev

namespace Ev
open PySem PySem.Spec PyProof.Rows L2
/-! comb, by naturals -/
section
variable {G : Glo} {X : Cx} {W' : WX} {pos : Pos}
/-! comb -/
/-! texts -/
theorem se_str {m m' : Str} {j : Nat} (h : m = m') : SE G X W' (evK (.str m')) (.Constant (.str m) j pos) := by
  subst h
  exact se_k pe_str
/-! short names -/
theorem sv (i : Nat) {x : Str} (hN : X.N[i]? = some x := by rfl) (hv : Vis X.env.scope x := by first | exact Or.inl rfl | exact Or.inr (Or.inl rfl) | exact Or.inr (Or.inr rfl)) (hd : (x == ("__debug__" : Str)) = false := by decide)
    (hcd : (x == ("__classdict__" : Str)) = false := by decide) : SE G X W' (evVar i) (.Name x pos) := se_var (pe_var hN hv hd hcd)
theorem si {i : Int} {j : Nat} : SE G X W' (evK (.int i)) (.Constant (.int i) j pos) := se_k pe_int
theorem Okx.blk (h : Okx G X) {s : Shared} {H : Hp} {sc : Scope} {e : Env} {fp : List Addr} {xe : Value → Shared → Prop} : Okx G (blkX X s H sc e fp xe) := ⟨h.k, h.calm, h.un, h.pr, h.wo⟩
theorem Okx.blk0 (h : Okx G X) {s : Shared} {H : Hp} {sc : Scope} {e : Env} {fp : List Addr} : Okx G (X.blk s H sc e fp) := ⟨h.k, h.calm, h.un, h.pr, h.wo⟩
theorem Okx.tr (h : Okx G X) {pn : List (Addr × Obj)} {xe : Value → Shared → Prop} : Okx G (X.tr pn xe) := ⟨h.k, h.calm, h.un, h.pr, h.wo⟩
theorem Dfx.tr (h : Dfx X) {pn : List (Addr × Obj)} {xe : Value → Shared → Prop} : Dfx (X.tr pn xe) := ⟨h.stk, h.frm⟩
theorem ss_stuck {st : List Stmt} : SSs G X W' (fun _ _ => .stuck) st := ⟨fun pins s σ H D I ⟨C, l, e, ok, r, p⟩ => post_stuck p⟩
end
section
variable {P : Program} {w : World} {G : Glo} {mg : Str → Option Value} {base : Heap} {x : Str} {st : Stmt} {f : Addr} {fd : FuncData} {ps : List Str} {n k : Nat} {F : Fn}
/-- a def that stands in the module -/
def Fd (K : PySem.W.Frag) (mg : Str → Option Value) (st : Stmt) (x : Str) (ps : List Str) : Prop := ∃ (f : Addr) (fd : FuncData), Fun K x x st f fd ∧ mg x = some (.ref f) ∧ Binds K fd ps []
theorem def_mk (Fu : Fun G.K x x st f fd) (ok : FnOk P w G.K mg base (L2.CX P w) k f fd ps (spF G F ps.length)) (hl : ps.length = n) (m : mg x = some (.ref f)) (b : Binds G.K fd ps []) : Def G P w mg base k x ps n F := by
  subst hl
  obtain ⟨oc, od, kV, doc, pm, an, cdv, ct, osl, e, lk, hcd⟩ := Fu.ex
  exact ⟨f, fd, ok, rfl, m, Fu.kp, b, oc, od, osl, by rw [lk, e]⟩
theorem dfk_of {m : Nat} {ks : List Str} {is : List Nat} (D : Def G P w mg base k x ps n F) (Fx : Fd G.K mg st x ps)
    (h : ∀ (kV doc pm : Value) (an : Option Addr) (cdv ct : Value) (us ws : List Value), us.length = m → ws.length = ks.length → bindArgs (PySem.W.fnOf x x (defArgs st) (defBody st) (defScope st) .none kV doc pm an cdv ct) ⟨us, ks.zip ws⟩ = pure (ps.zip (permL (us ++ ws) is .none))) : DefK G P w mg base k x n F m ks is := by
  obtain ⟨f, fd, ok, hl, hm, hk, hb, oc, od, osl, lk⟩ := D.ex
  obtain ⟨f1, fd1, Fu, m1, b1⟩ := Fx
  rw [hm] at m1
  cases m1
  obtain ⟨oc1, od1, kV, doc, pm, an, cdv, ct, osl1, e, lk1, hcd⟩ := Fu.ex
  rw [lk] at lk1
  cases lk1
  refine ⟨f, fd, ps, ok, hl, hm, hk, fun s us ws h1 h2 => ?_⟩
  rw [e]
  exact .of_eq (h kV doc pm an cdv ct us ws h1 h2)
end
theorem un_of {k : Nat} {A : Around} (hr : Room k A) : A.units + 65 < cLine := by have := hr.un; omega
end Ev

namespace Ev
open PySem PySem.Spec PyProof.Rows L2
section
variable {G : Glo} {X : Cx} {W' : WX} {pos : Pos}
/-! o[i], q[j] = a pair -/
end
end Ev

namespace Ev
open PySem PySem.Spec PyProof.Rows L2 PySem.W
section
variable {G : Glo} {X : Cx} {W' : WX} {pos : Pos}
/-! min of one tuple or list of ints -/
noncomputable def kintsL {α : Type} (ws : List W) (k : List Int → Res α) : Res α := List.rec (motive := fun _ => (List Int → Res α) → Res α) (fun k => k []) (fun w _ ih k => kint w .stuck fun i => ih fun r => k (i :: r)) ws k
theorem post_kintsL {α : Type} {C : Cf} {Φ : α → Cf → Prop} : ∀ {ws : List W} {k : List Int → Res α}, Post G W' C (kintsL ws k) Φ → ∃ ns : List Int, ws = ns.map (fun i => W.k (.int i)) ∧ Post G W' C (k ns) Φ
  | [], k, p => ⟨[], rfl, p⟩
  | w :: ws, k, p => by
    obtain ⟨i, e, p⟩ := post_kint (show Post G W' C (kint w .stuck fun i => kintsL ws fun r => k (i :: r)) Φ from p)
    obtain ⟨ns, e2, p⟩ := post_kintsL (ws := ws) p
    exact ⟨i :: ns, by rw [e, e2]; rfl, p⟩
theorem rws_ints {C : Cf} : ∀ {ns : List Int} {vs : List V}, RWs G.K C.ρ C.H (ns.map fun i => W.k (.int i)) vs → vs = ns.map V.int
  | [], vs, h => by unfold RWs at h; exact h
  | n :: ns, vs, h => by
    rw [List.map_cons] at h
    unfold RWs at h
    obtain ⟨v, r, rfl, h1, h2⟩ := h
    rw [rw_int h1, rws_ints h2]; rfl
end
end Ev

namespace Ev
open PySem PySem.Spec PyProof.Rows L2
section
variable {G : Glo} {X : Cx}
/-! is True, is False -/
end
end Ev

namespace Ev
open PySem PySem.Spec PyProof.Rows L2
/-! a call that is reckoned once, in a theorem of its own -/
mutual
def beqW : W → W → Bool
  | .k (.int a), .k (.int b) => iEq a b
  | .tup xs, .tup ys => beqWs xs ys
  | _, _ => false
def beqWs : List W → List W → Bool
  | [], [] => true
  | x :: xs, y :: ys => match beqW x y with
    | true => beqWs xs ys
    | false => false
  | _, _ => false
end
mutual
theorem beqW_eq : ∀ a b : W, beqW a b = true → a = b
  | .k (.int a), .k (.int b), h => by
    unfold beqW at h
    rw [iEq_eq] at h
    rw [of_decide_eq_true h]
  | .tup xs, .tup ys, h => by
    unfold beqW at h
    rw [beqWs_eq xs ys h]
  | .obj _, _, h => by unfold beqW at h; cases h
  | .mix _, _, h => by unfold beqW at h; cases h
  | .pt _, _, h => by unfold beqW at h; cases h
  | .k v, .mix _, h => by cases v <;> (unfold beqW at h; cases h)
  | .k v, .pt _, h => by cases v <;> (unfold beqW at h; cases h)
  | .tup _, .mix _, h => by unfold beqW at h; cases h
  | .tup _, .pt _, h => by unfold beqW at h; cases h
  | .k v, .obj _, h => by cases v <;> (unfold beqW at h; cases h)
  | .tup _, .obj _, h => by unfold beqW at h; cases h
  | .k v, .tup _, h => by cases v <;> (unfold beqW at h; cases h)
  | .tup _, .k _, h => by unfold beqW at h; cases h
  | .k u, .k v, h => by cases u <;> cases v <;> first | (unfold beqW at h; rw [iEq_eq] at h; rw [of_decide_eq_true h]) | (unfold beqW at h; cases h)
theorem beqWs_eq : ∀ a b : List W, beqWs a b = true → a = b
  | [], [], _ => rfl
  | x :: xs, y :: ys, h => by
    unfold beqWs at h
    cases q : beqW x y with
    | false => rw [q] at h; cases h
    | true =>
      rw [q] at h
      rw [beqW_eq x y q, beqWs_eq xs ys h]
  | [], _ :: _, h => by unfold beqWs at h; cases h
  | _ :: _, [], h => by unfold beqWs at h; cases h
end
end Ev

namespace Ev
open PySem PySem.Spec PyProof.Rows L2
/-! ## dicts whose keys are tuples, by their objects -/
section
variable {X : Cx} {pins : List (Addr × Obj)} {σ : L2.St} {H : Hp} {s : Shared}
mutual
theorem nested_of (I : Inv X pins σ H s) {ρ : List Addr} : ∀ (w : W) {v : V} {u : Value} {k : NestedKey}, nkey w = some k → RW X.K ρ H w v → RelV v u → NestedIs s.heap k u
  | .k (.int i), v, u, k, e, r, q => by
    unfold nkey at e
    cases e
    rw [rw_k r] at q
    obtain ⟨t, rfl⟩ := (show ∃ t, u = Value.int i t from q)
    exact .int i t
  | .k (.str x), v, u, k, e, r, q => by
    unfold nkey at e
    cases e
    rw [rw_k r] at q
    obtain ⟨t, rfl⟩ := (show ∃ t, u = Value.str x t from q)
    exact .text x t
  | .k .non, v, u, k, e, r, q => by unfold nkey at e; cases e
  | .k (.bl b), v, u, k, e, r, q => by unfold nkey at e; cases e
  | .k (.byt b), v, u, k, e, r, q => by unfold nkey at e; cases e
  | .k (.flt b), v, u, k, e, r, q => by unfold nkey at e; cases e
  | .k (.ref b), v, u, k, e, r, q => by unfold nkey at e; cases e
  | .k (.ty b), v, u, k, e, r, q => by unfold nkey at e; cases e
  | .obj i, v, u, k, e, r, q => by unfold nkey at e; cases e
  | .mix i, v, u, k, e, r, q => by unfold nkey at e; cases e
  | .pt i, v, u, k, e, r, q => by unfold nkey at e; cases e
  | .tup xs, v, u, k, e, r, q => by
    unfold nkey at e
    cases h : nkeys xs with
    | none => rw [h] at e; cases e
    | some ks =>
      rw [h] at e
      cases e
      unfold RW at r
      obtain ⟨a, vs, rfl, h1, h2⟩ := r
      cases (show u = Value.ref a from q)
      obtain ⟨its, rv, p, hz⟩ := I.tuple h1
      obtain ⟨o, p1, p2, n, p3⟩ := p
      exact .tup p1 p2 p3 (by simpa using nesteds_of I xs h h2 rv)
theorem nesteds_of (I : Inv X pins σ H s) {ρ : List Addr} : ∀ (ws : List W) {vs : List V} {us : List Value} {ks : List NestedKey}, nkeys ws = some ks → RWs X.K ρ H ws vs → Vals vs us → NestedAll s.heap ks us
  | [], vs, us, ks, e, r, q => by
    unfold nkeys at e
    cases e
    unfold RWs at r
    subst r
    cases q
    exact .nil
  | w :: ws, vs, us, ks, e, r, q => by
    unfold nkeys at e
    cases h : nkey w with
    | none => rw [h] at e; cases e
    | some k =>
      rw [h] at e
      cases h2 : nkeys ws with
      | none => simp only [h2] at e; cases e
      | some ks' =>
        simp only [h2] at e
        cases e
        unfold RWs at r
        obtain ⟨v, r', rfl, h3, h4⟩ := r
        cases q with
        | cons q1 q2 => exact .cons (nested_of I w h h3 q1) (nesteds_of I ws h2 h4 q2)
end
/-- b is the address of a tuple that is the key k -/
def NKey (K : PySem.W.Frag) (H : Hp) (b : Addr) (k : NestedKey) : Prop := ∃ (ρ : List Addr) (kw : W), RW K ρ H kw (.ref b) ∧ nkey kw = some k ∧ k.depth ≤ 8
theorem NKey.is (I : Inv X pins σ H s) {b : Addr} {k : NestedKey} (h : NKey X.K H b k) : (nestedKind X.prog X.w).is s.heap k b := by
  obtain ⟨ρ, kw, h1, h2, h3⟩ := h
  exact ⟨nested_of I kw h2 h1 rfl, h3⟩
abbrev KeysOk (K : PySem.W.Frag) (H : Hp) (xs : List (NestedKey × Addr × V)) : Prop := ∀ x ∈ xs, NKey K H x.2.1 x.1
theorem KVs.keys {K : PySem.W.Frag} {ρ : List Addr} {H : Hp} : ∀ {kvs : List (W × W)} {ys : List (NestedKey × Addr × V)}, KVs K ρ H kvs ys → KeysOk K H ys
  | [], ys, h => by cases (show ys = [] from h); intro x hx; cases hx
  | p :: r, ys, h => by
    obtain ⟨k, b, v, ys', rfl, h1, h2, h3, h4⟩ := h
    intro x hx
    rcases List.mem_cons.mp hx with rfl | hx
    · exact ⟨ρ, p.1, h2, h1.1, h1.2⟩
    · exact KVs.keys h4 x hx
def valX (xs : List (NestedKey × Addr × V)) (k : NestedKey) : Option V := (xs.find? fun x => decide (x.1 = k)).map (·.2.2)
def putX : List (NestedKey × Addr × V) → NestedKey → Addr → V → List (NestedKey × Addr × V)
  | [], k, b, v => [(k, b, v)]
  | x :: r, k, b, v => if x.1 = k then (x.1, x.2.1, v) :: r else x :: putX r k b v
def putY : List (NestedKey × Addr × Value) → NestedKey → Addr → Value → List (NestedKey × Addr × Value)
  | [], k, b, v => [(k, b, v)]
  | x :: r, k, b, v => if x.1 = k then (x.1, x.2.1, v) :: r else x :: putY r k b v
theorem storedH_putY {k : NestedKey} {b : Addr} {u : Value} {ys : List (NestedKey × Addr × Value)} (nd : (ys.map (·.1)).Nodup) : storedH ys k b u = putY ys k b u := by
  cases h : atKey ys k with
  | none => rw [storedH_new h]; exact (nw ys h).symm
  | some p => rw [storedH_old h]; exact (od ys nd h).symm
where
  nw : ∀ ys : List (NestedKey × Addr × Value), atKey ys k = none → putY ys k b u = ys ++ [(k, b, u)]
    | [], _ => rfl
    | y :: r, h => by
      unfold atKey at h
      rw [List.find?_cons] at h
      by_cases e : y.1 = k
      · simp [e] at h
      · simp only [e, decide_false] at h
        unfold putY
        rw [if_neg e, nw r h]
        rfl
  od : ∀ ys : List (NestedKey × Addr × Value), (ys.map (·.1)).Nodup → ∀ {p}, atKey ys k = some p → putY ys k b u = ys.map (putAt k u)
    | [], _, p, h => by cases h
    | y :: r, nd, p, h => by
      unfold atKey at h
      rw [List.find?_cons] at h
      rw [List.map_cons] at nd
      have nd' := List.nodup_cons.mp nd
      by_cases e : y.1 = k
      · unfold putY
        rw [if_pos e, List.map_cons, map_putAt_of_not_mem r k u (by rw [← e]; exact nd'.1)]
        unfold putAt
        rw [if_pos e]
      · simp only [e, decide_false] at h
        unfold putY
        rw [if_neg e, od r nd'.2 h, List.map_cons]
        congr 1
        unfold putAt
        rw [if_neg e]
theorem valX_rel (k : NestedKey) : ∀ {xs : List (NestedKey × Addr × V)} {ys : List (NestedKey × Addr × Value)}, Paired KxR xs ys → RelO (valX xs k) ((atKey ys k).map (·.2))
  | _, _, .nil => True.intro
  | _, _, .cons (a := x) (b := y) ⟨h1, h2, h3⟩ r => by
    have ih := valX_rel k r
    unfold valX atKey at ih ⊢
    rw [List.find?_cons, List.find?_cons, ← h1]
    by_cases e : x.1 = k
    · simp only [e, decide_true]
      exact h3
    · simp only [e, decide_false]
      exact ih
theorem keys_rel : ∀ {xs : List (NestedKey × Addr × V)} {ys : List (NestedKey × Addr × Value)}, Paired KxR xs ys → KeysOk X.K H xs → Inv X pins σ H s → ∀ y ∈ ys, (nestedKind X.prog X.w).is s.heap y.1 y.2.1
  | _, _, .nil, _, _ => by intro y hy; cases hy
  | _, _, .cons (a := x) (b := y) ⟨h1, h2, h3⟩ r, hk, I => by
    intro z hz
    rcases List.mem_cons.mp hz with rfl | hz
    · rw [← h1, ← h2]
      exact (hk x (List.mem_cons_self)).is I
    · exact keys_rel r (fun a ha => hk a (List.mem_cons_of_mem _ ha)) I z hz
theorem dct_at {a : Addr} {xs : List (NestedKey × Addr × V)} (I : Inv X pins σ H s) (e : Rd H a (dctO X.prog X.w a xs)) (hk : KeysOk X.K H xs) :
    (a == sysModules) = false ∧ xs.length ≤ sizeLine ∧ ∃ ys, Paired KxR xs ys ∧ s.heap.DictOfH (nestedKind X.prog X.w) a ys := by
  obtain ⟨⟨hd, hz, ys, hp, nd, o, es, ep, h1, h2, h3, h4⟩, _, _⟩ := e.ok I.hok
  exact ⟨hd, hz, ys, hp, o, es, ep, h1, h2, h3, h4, keys_rel hp hk I, nd⟩
theorem dctO_ok {P : Program} {w : World} {H : Hp} {h : Heap} {a : Addr} {xs : List (NestedKey × Addr × V)} {ys : List (NestedKey × Addr × Value)} (hd : (a == sysModules) = false) (hz : xs.length ≤ sizeLine) (hp : Paired KxR xs ys) (dd : h.DictOfH (nestedKind P w) a ys) :
    ObjOk P w H h a (dctO P w a xs) := by
  obtain ⟨o, es, ep, h1, h2, h3, h4, _, nd⟩ := dd
  refine ⟨⟨hd, hz, ys, hp, nd, o, es, ep, h1, h2, h3, h4⟩, ⟨o, h1⟩, fun g1 g2 hφ k => ?_⟩
  obtain ⟨hd, hz, ys, hp, nd, o, es, ep, h1, h2, h3, h4⟩ := hφ
  exact ⟨hd, hz, ys, hp, nd, o, es, ep, k o h1, h2, h3, h4⟩
theorem put_relY (k : NestedKey) (b : Addr) {v : V} {u : Value} (rv : RelV v u) : ∀ {xs : List (NestedKey × Addr × V)} {ys : List (NestedKey × Addr × Value)}, Paired KxR xs ys → Paired KxR (putX xs k b v) (putY ys k b u)
  | _, _, .nil => .cons ⟨rfl, rfl, rv⟩ .nil
  | _, _, .cons (a := x) (b := y) ⟨h1, h2, h3⟩ r => by
    unfold putX putY
    rw [← h1]
    by_cases e : x.1 = k
    · rw [if_pos e, if_pos e]; exact .cons ⟨rfl, h2, rv⟩ r
    · rw [if_neg e, if_neg e]; exact .cons ⟨h1, h2, h3⟩ (put_relY k b rv r)
theorem put_rel (k : NestedKey) (b : Addr) {v : V} {u : Value} (rv : RelV v u) {xs : List (NestedKey × Addr × V)} {ys : List (NestedKey × Addr × Value)} (nd : (ys.map (·.1)).Nodup) (hp : Paired KxR xs ys) : Paired KxR (putX xs k b v) (storedH ys k b u) := by
  rw [storedH_putY nd]
  exact put_relY k b rv hp
theorem putX_len (k : NestedKey) (b : Addr) (v : V) : ∀ xs : List (NestedKey × Addr × V), (putX xs k b v).length ≤ xs.length + 1
  | [] => by simp [putX]
  | x :: r => by
    have ih := putX_len k b v r
    unfold putX
    split
    · simp
    · simp only [List.length_cons]; omega
end
/-- what a[y] gives -/
def NGet (P : Program) (w : World) (K : PySem.W.Frag) (H : Hp) (a : Addr) (y : V) (r : Option V) : Prop := ∃ xs k b, Rd H a (dctO P w a xs) ∧ KeysOk K H xs ∧ y = .ref b ∧ NKey K H b k ∧ r = valX xs k
/-- the heap behind a[y] = v -/
def NPut (P : Program) (w : World) (K : PySem.W.Frag) (H : Hp) (a : Addr) (y v : V) (H' : Hp) : Prop := ∃ xs k b, H a = some (dctO P w a xs) ∧ KeysOk K H xs ∧ y = .ref b ∧ NKey K H b k ∧ xs.length < sizeLine ∧ H' = upd H a (dctO P w a (putX xs k b v))
section
variable {X : Cx} {pins : List (Addr × Obj)} {σ : L2.St} {H : Hp} {s : Shared} {a : Addr} {y v d : V} {u r : Value} {o : Option V} {A : Around} {E : Value → Shared → Prop}
theorem n_room (hu : A.units + 9 < cLine) : (nestedKind X.prog X.w).room A.in1 := by
  show A.units + 1 + 8 < cLine
  omega
theorem n_room0 (hu : A.units + 9 < cLine) : (nestedKind X.prog X.w).room A := by
  show A.units + 8 < cLine
  omega
theorem n_getItem {Q : Value → Shared → Prop} (hu : A.units + 9 < cLine) (I : Inv X pins σ H s) (g : NGet X.prog X.w X.K H a y (some v)) (ry : RelV y u) (h : ∀ w' s', Inv X pins σ H s' → RelV v w' → Q w' s') :
    wpAny (model X.prog X.w) A (getItem (.ref a) u) Q E s := by
  obtain ⟨xs, k, b, e, hk, rfl, kb, l⟩ := g
  cases (show u = Value.ref b from ry)
  obtain ⟨hd, hz, ys, rel, dd⟩ := dct_at I e hk
  obtain ⟨w', hw, rw'⟩ := RelO.some_of (v := v) (o := (atKey ys k).map (·.2)) (by rw [l]; exact valX_rel k rel)
  obtain ⟨p, hp, hp2⟩ := Option.map_eq_some_iff.mp hw
  refine wpAny_getItem_heap (n_room hu) (kb.is I) dd hp ?_
  rw [hp2]
  exact h w' _ (I.tok _) rw'
theorem n_get1 {Q : Value → Shared → Prop} (hu : A.units + 9 < cLine) (I : Inv X pins σ H s) (g : NGet X.prog X.w X.K H a y o) (ry : RelV y u) (h : ∀ w' s', Inv X pins σ H s' → RelV (o.getD .non) w' → Q w' s') :
    wpAny (model X.prog X.w) A (call (.builtin "dict.get") [.ref a, u]) Q E s := by
  obtain ⟨xs, k, b, e, hk, rfl, kb, l⟩ := g
  cases (show u = Value.ref b from ry)
  obtain ⟨hd, hz, ys, rel, dd⟩ := dct_at I e hk
  refine call_meetsIn PySem.F.slot_dict_get dd.typeIs PySem.F.entry_dict_get (PySem.F.args_dict_get_2 _ _) (meetsH_dict_get (nestedKind X.prog X.w) a b hd) ⟨n_room hu, k, ys, kb.is I, dd, h _ _ (I.tok _) ?_⟩
  rw [l]
  exact (valX_rel k rel).getD rfl
theorem n_get2 {Q : Value → Shared → Prop} (hu : A.units + 9 < cLine) (I : Inv X pins σ H s) (g : NGet X.prog X.w X.K H a y o) (ry : RelV y u) (rd : RelV d r) (h : ∀ w' s', Inv X pins σ H s' → RelV (o.getD d) w' → Q w' s') :
    wpAny (model X.prog X.w) A (call (.builtin "dict.get") [.ref a, u, r]) Q E s := by
  obtain ⟨xs, k, b, e, hk, rfl, kb, l⟩ := g
  cases (show u = Value.ref b from ry)
  obtain ⟨hd, hz, ys, rel, dd⟩ := dct_at I e hk
  refine call_meetsIn PySem.F.slot_dict_get dd.typeIs PySem.F.entry_dict_get (PySem.F.args_dict_get_3 _ _ _) (meetsH_dict_get_default (nestedKind X.prog X.w) a b hd r) ⟨n_room hu, k, ys, kb.is I, dd, h _ _ (I.tok _) ?_⟩
  rw [l]
  exact (valX_rel k rel).getD rd
theorem n_write {h' : Heap} {t' : Nat} {xs xs' : List (NestedKey × Addr × V)} {ys' : List (NestedKey × Addr × Value)} (I : Inv X pins σ H s) (e : H a = some (dctO X.prog X.w a xs)) (hd : (a == sysModules) = false) (hz : xs'.length ≤ sizeLine) (hp : Paired KxR xs' ys')
    (dd : h'.DictOfH (nestedKind X.prog X.w) a ys') (hs : Heap.SameBut a s.heap h') : Inv X pins σ (upd H a (dctO X.prog X.w a xs')) { s with heap := h', toks := t' } := by
  have he : ∃ q, h'.get? a = some q := let ⟨q, _, _, hq, _⟩ := dd; ⟨q, hq⟩
  exact d_write I (by rw [e]; exact True.intro) hs he (dctO_ok hd hz hp dd)
theorem n_setItem {H' : Hp} {Q : Unit → Shared → Prop} (hu : A.units + 9 < cLine) (I : Inv X pins σ H s) (g : NPut X.prog X.w X.K H a y v H') (ry : RelV y u) (rv : RelV v r) (h : ∀ s', Inv X pins σ H' s' → Q () s') :
    wpAny (model X.prog X.w) A (setItem (.ref a) u r) Q E s := by
  obtain ⟨xs, k, b, e, hk, rfl, kb, l, rfl⟩ := g
  cases (show u = Value.ref b from ry)
  obtain ⟨hd, hz, ys, rel, dd⟩ := dct_at I (.inl e) hk
  have hzy : ys.length ≤ sizeLine := by rw [← Paired.length rel]; exact hz
  refine wpAny_setItem_heap (hsz := hzy) (n_room hu) (kb.is I) dd fun h' dd' hs => h _ (n_write I e hd ?_ (put_rel k b rv dd.nodup rel) dd' hs)
  have := putX_len k b v xs
  omega
theorem n_dictSet {H' : Hp} {Q : Unit → Shared → Prop} (hu : A.units + 9 < cLine) (I : Inv X pins σ H s) (g : NPut X.prog X.w X.K H a y v H') (ry : RelV y u) (rv : RelV v r) (h : ∀ s', Inv X pins σ H' s' → Q () s') :
    wpAny (model X.prog X.w) A (dictSet a u r) Q E s := by
  obtain ⟨xs, k, b, e, hk, rfl, kb, l, rfl⟩ := g
  cases (show u = Value.ref b from ry)
  obtain ⟨hd, hz, ys, rel, dd⟩ := dct_at I (.inl e) hk
  have hzy : ys.length ≤ sizeLine := by rw [← Paired.length rel]; exact hz
  refine wpAny_dictSet_heap (hsz := hzy) (n_room0 hu) (kb.is I) dd fun h' dd' hs => h _ (n_write I e hd ?_ (put_rel k b rv dd.nodup rel) dd' hs)
  have := putX_len k b v xs
  omega
theorem n_empty {P : Program} {w : World} {H : Hp} (h : Heap) (hb : sysModules < h.objs.size) : ObjOk P w H (h.push { cls := .type "dict", data := .dict #[] }) h.objs.size (dctO P w h.objs.size []) :=
  dctO_ok (beq_eq_false_iff_ne.mpr (Ne.symm (Nat.ne_of_lt hb))) (Nat.zero_le _) .nil (Heap.DictOfH.new h)
end
end Ev

namespace Ev
open PySem PySem.Spec PyProof.Rows L2
/-! ## dicts in the reckoner -/
noncomputable def keqsF (ih : W → W → Bool) : List W → List W → Bool := List.rec (motive := fun _ => List W → Bool) (fun ys => match ys with
  | [] => true
  | _ :: _ => false) (fun x _ r ys => match ys with
  | [] => false
  | y :: t => match ih x y with
    | true => r t
    | false => false)
/-- two keys are one, by n levels -/
noncomputable def keq (n : Nat) : W → W → Bool := Nat.rec (motive := fun _ => W → W → Bool) (fun _ _ => false) (fun _ ih a b => match a with
  | .k u => match u with
    | .int i => kint b false fun j => iEq i j
    | .str x => match b with
      | .k v => match v with
        | .str y => eqS x y
        | _ => false
      | _ => false
    | _ => false
  | .tup xs => match b with
    | .tup ys => keqsF ih xs ys
    | _ => false
  | .obj _ => false
  | .pt _ => false
  | .mix _ => false) n
noncomputable def koksF (ih : W → Bool) : List W → Bool := List.rec (motive := fun _ => Bool) true fun x _ r => match ih x with
  | true => r
  | false => false
/-- a key of at most n levels -/
noncomputable def kok (n : Nat) : W → Bool := Nat.rec (motive := fun _ => W → Bool) (fun w => match w with
  | .k u => match u with
    | .int _ => true
    | .str _ => true
    | _ => false
  | _ => false) (fun _ ih w => match w with
  | .k u => match u with
    | .int _ => true
    | .str _ => true
    | _ => false
  | .tup xs => koksF ih xs
  | .obj _ => false
  | .pt _ => false
  | .mix _ => false) n
theorem koksF_of {ih : W → Bool} {n : Nat} (hi : ∀ w, ih w = true → ∃ k, nkey w = some k ∧ k.depth ≤ n) : ∀ {ws : List W}, koksF ih ws = true → ∃ ks, nkeys ws = some ks ∧ NestedKey.depthAll ks ≤ n
  | [], _ => ⟨[], by unfold nkeys; rfl, by unfold NestedKey.depthAll; omega⟩
  | w :: ws, h => by
    have h' : (match ih w with | true => koksF ih ws | false => false) = true := h
    cases q : ih w with
    | false => rw [q] at h'; cases h'
    | true =>
      rw [q] at h'
      obtain ⟨k, h1, h2⟩ := hi w q
      obtain ⟨ks, h3, h4⟩ := koksF_of hi h'
      refine ⟨k :: ks, ?_, ?_⟩
      · unfold nkeys; simp only [h1, h3]
      · unfold NestedKey.depthAll; omega
theorem kok_of : ∀ {n : Nat} {w : W}, kok n w = true → ∃ k, nkey w = some k ∧ k.depth ≤ n
  | 0, .k v, h => by cases v <;> first | exact ⟨_, by unfold nkey; rfl, by simp [NestedKey.depth]⟩ | cases h
  | 0, .tup xs, h => by cases h
  | 0, .obj i, h => by cases h
  | n + 1, .k v, h => by cases v <;> first | exact ⟨_, by unfold nkey; rfl, by simp [NestedKey.depth]⟩ | cases h
  | n + 1, .tup xs, h => by
    obtain ⟨ks, h1, h2⟩ := koksF_of (n := n) (fun w => kok_of) (show koksF (kok n) xs = true from h)
    refine ⟨.tup ks, ?_, ?_⟩
    · unfold nkey; simp only [h1]
    · unfold NestedKey.depth; omega
  | n + 1, .obj i, h => by cases h
theorem keqsF_eq {ih : W → W → Bool} {n : Nat} (hi : ∀ a b j k, nkey a = some j → nkey b = some k → j.depth < n → ih a b = decide (j = k)) : ∀ {xs ys : List W} {js ks : List NestedKey}, nkeys xs = some js → nkeys ys = some ks → NestedKey.depthAll js < n → keqsF ih xs ys = decide (js = ks)
  | [], [], js, ks, h1, h2, _ => by
    unfold nkeys at h1 h2
    cases h1; cases h2
    exact (decide_eq_true rfl).symm
  | [], y :: ys, js, ks, h1, h2, _ => by
    unfold nkeys at h1 h2
    cases h1
    cases q : nkey y with
    | none => rw [q] at h2; cases h2
    | some k =>
      rw [q] at h2
      cases q2 : nkeys ys with
      | none => simp only [q2] at h2; cases h2
      | some ks' =>
        simp only [q2] at h2
        cases h2
        show false = _
        simp
  | x :: xs, [], js, ks, h1, h2, _ => by
    unfold nkeys at h1 h2
    cases h2
    cases q : nkey x with
    | none => rw [q] at h1; cases h1
    | some k =>
      rw [q] at h1
      cases q2 : nkeys xs with
      | none => simp only [q2] at h1; cases h1
      | some ks' =>
        simp only [q2] at h1
        cases h1
        show false = _
        simp
  | x :: xs, y :: ys, js, ks, h1, h2, hd => by
    unfold nkeys at h1 h2
    cases q : nkey x with
    | none => rw [q] at h1; cases h1
    | some j =>
      rw [q] at h1
      cases q2 : nkeys xs with
      | none => simp only [q2] at h1; cases h1
      | some js' =>
        simp only [q2] at h1
        cases h1
        cases q3 : nkey y with
        | none => rw [q3] at h2; cases h2
        | some k =>
          rw [q3] at h2
          cases q4 : nkeys ys with
          | none => simp only [q4] at h2; cases h2
          | some ks' =>
            simp only [q4] at h2
            cases h2
            unfold NestedKey.depthAll at hd
            show (match ih x y with | true => keqsF ih xs ys | false => false) = _
            rw [hi x y j k q q3 (by omega), keqsF_eq hi q2 q4 (by omega)]
            by_cases e : j = k
            · subst e; simp
            · simp [e]
theorem keq_eq : ∀ (n : Nat) (a b : W) (j k : NestedKey), nkey a = some j → nkey b = some k → j.depth < n → keq n a b = decide (j = k)
  | 0, _, _, _, _, _, _, h => absurd h (Nat.not_lt_zero _)
  | n + 1, .k u, b, j, k, h1, h2, hd => by
    cases u with
    | int i =>
      unfold nkey at h1
      cases h1
      show kint b false (fun j => iEq i j) = _
      cases b with
      | k v =>
        cases v with
        | int i' =>
          unfold nkey at h2
          cases h2
          show iEq i i' = _
          rw [iEq_eq]
          simp
        | str y =>
          unfold nkey at h2
          cases h2
          show false = _
          simp
        | _ => unfold nkey at h2; cases h2
      | tup ys =>
        unfold nkey at h2
        cases q : nkeys ys with
        | none => rw [q] at h2; cases h2
        | some ks => rw [q] at h2; cases h2; show false = _; simp
      | mix _ => (first | exact post_stuck (by assumption) | exact .inl (by assumption) | (exfalso; contradiction) | (unfold nkey at *; contradiction) | (unfold RW at *; simp_all; done) | (simp_all; done))
      | pt _ => (first | exact post_stuck (by assumption) | exact .inl (by assumption) | (exfalso; contradiction) | (unfold nkey at *; contradiction) | (unfold RW at *; simp_all; done) | (simp_all; done))
      | obj o => unfold nkey at h2; cases h2
    | str x =>
      unfold nkey at h1
      cases h1
      cases b with
      | k v =>
        cases v with
        | int i' =>
          unfold nkey at h2
          cases h2
          show false = _
          simp
        | str y =>
          unfold nkey at h2
          cases h2
          show eqS x y = _
          rw [eqS_eq]
          simp
        | _ => unfold nkey at h2; cases h2
      | tup ys =>
        unfold nkey at h2
        cases q : nkeys ys with
        | none => rw [q] at h2; cases h2
        | some ks => rw [q] at h2; cases h2; show false = _; simp
      | mix _ => (first | exact post_stuck (by assumption) | exact .inl (by assumption) | (exfalso; contradiction) | (unfold nkey at *; contradiction) | (unfold RW at *; simp_all; done) | (simp_all; done))
      | pt _ => (first | exact post_stuck (by assumption) | exact .inl (by assumption) | (exfalso; contradiction) | (unfold nkey at *; contradiction) | (unfold RW at *; simp_all; done) | (simp_all; done))
      | obj o => unfold nkey at h2; cases h2
    | _ => unfold nkey at h1; cases h1
  | n + 1, .obj i, b, j, k, h1, h2, hd => by unfold nkey at h1; cases h1
  | n + 1, .tup xs, b, j, k, h1, h2, hd => by
    unfold nkey at h1
    cases q : nkeys xs with
    | none => rw [q] at h1; cases h1
    | some js =>
      rw [q] at h1
      cases h1
      unfold NestedKey.depth at hd
      cases b with
      | k v => cases v <;> first | (unfold nkey at h2; cases h2; show false = _; simp) | (unfold nkey at h2; cases h2)
      | tup ys =>
        unfold nkey at h2
        cases q2 : nkeys ys with
        | none => rw [q2] at h2; cases h2
        | some ks =>
          rw [q2] at h2
          cases h2
          show keqsF (keq n) xs ys = _
          rw [keqsF_eq (n := n) (fun a b j k => keq_eq n a b j k) q q2 (by omega)]
          simp
      | mix _ => (first | exact post_stuck (by assumption) | exact .inl (by assumption) | (exfalso; contradiction) | (unfold nkey at *; contradiction) | (unfold RW at *; simp_all; done) | (simp_all; done))
      | pt _ => (first | exact post_stuck (by assumption) | exact .inl (by assumption) | (exfalso; contradiction) | (unfold nkey at *; contradiction) | (unfold RW at *; simp_all; done) | (simp_all; done))
      | obj o => unfold nkey at h2; cases h2
/-- the value at a key -/
noncomputable def findD (kvs : List (W × W)) (w : W) : Option W := List.rec (motive := fun _ => Option W) none (fun p _ ih => match keq 10 p.1 w with
  | true => some p.2
  | false => ih) kvs
theorem find_rel {K : PySem.W.Frag} {ρ : List Addr} {H : Hp} {w : W} {k : NestedKey} (hw : nkey w = some k) : ∀ {kvs : List (W × W)} {xs : List (NestedKey × Addr × V)}, KVs K ρ H kvs xs → (findD kvs w = none → valX xs k = none) ∧ ∀ vw, findD kvs w = some vw → ∃ v, valX xs k = some v ∧ RW K ρ H vw v
  | [], xs, h => by
    cases (show xs = [] from h)
    exact ⟨fun _ => rfl, fun vw e => nomatch e⟩
  | p :: r, xs, h => by
    obtain ⟨j, b, v, ys', rfl, h1, h2, h3, h4⟩ := h
    have ih := find_rel hw h4
    have e : findD (p :: r) w = match keq 10 p.1 w with | true => some p.2 | false => findD r w := rfl
    rw [e, keq_eq 10 p.1 w j k h1.1 hw (by have := h1.2; omega)]
    unfold valX at ih ⊢
    rw [List.find?_cons]
    by_cases q : j = k
    · rw [decide_eq_true q]
      refine ⟨fun z => (nomatch z), fun vw z => ?_⟩
      have z2 : p.2 = vw := Option.some.inj z
      exact ⟨v, rfl, z2 ▸ h3⟩
    · rw [decide_eq_false q]
      exact ih
/-- the entries with one put in -/
noncomputable def putK {α : Type} (kvs : List (W × W)) (w v : W) (k : List (W × W) → α) : α := List.rec (motive := fun _ => (List (W × W) → α) → α) (fun k => k [(w, v)]) (fun p r ih k => match keq 10 p.1 w with
  | true => k ((p.1, v) :: r)
  | false => ih fun r' => k (p :: r')) kvs k
theorem putK_rel {K : PySem.W.Frag} {ρ : List Addr} {H : Hp} {α : Type} {w v : W} {k : NestedKey} {b : Addr} {u : V} (hw : nkey w = some k) (hk : k.depth ≤ 8) (rw_ : RW K ρ H w (.ref b)) (rv : RW K ρ H v u) : ∀ {kvs : List (W × W)} {xs : List (NestedKey × Addr × V)} (f : List (W × W) → α), KVs K ρ H kvs xs → ∃ kvs', Ev.putK kvs w v f = f kvs' ∧ KVs K ρ H kvs' (putX xs k b u) ∧ kvs'.length ≤ kvs.length + 1
  | [], xs, f, h => by
    cases (show xs = [] from h)
    refine ⟨[(w, v)], rfl, ?_, by simp⟩
    show KVs K ρ H ((w, v) :: []) ((k, b, u) :: [])
    exact ⟨k, b, u, [], rfl, ⟨hw, hk⟩, rw_, rv, rfl⟩
  | p :: r, xs, f, h => by
    obtain ⟨j, c, z, ys', rfl, h1, h2, h3, h4⟩ := h
    have e : Ev.putK (p :: r) w v f = match keq 10 p.1 w with | true => f ((p.1, v) :: r) | false => Ev.putK r w v fun r' => f (p :: r') := rfl
    rw [e, keq_eq 10 p.1 w j k h1.1 hw (by have := h1.2; omega)]
    unfold putX
    by_cases q : j = k
    · simp only [q, decide_true, if_true]
      exact ⟨_, rfl, ⟨k, c, u, ys', rfl, q ▸ h1, h2, rv, h4⟩, by simp⟩
    · simp only [q, decide_false, if_false]
      obtain ⟨kvs', e1, e2, e3⟩ := putK_rel hw hk rw_ rv (fun r' => f (p :: r')) h4
      exact ⟨p :: kvs', e1, ⟨j, c, z, _, rfl, h1, h2, h3, e2⟩, by simp only [List.length_cons]; omega⟩
/-- a dict of our own heap, walked or not -/
noncomputable def dctK {α : Type} (w : W) (S : FH) (z : Res α) (k : List (W × W) → Res α) : Res α := match w with
  | .obj i => match S.get i with
    | some v => match v with
      | .dct kvs => k kvs
      | .fdc kvs => k kvs
      | _ => z
    | none => z
  | _ => z
section
variable {G : Glo} {X : Cx} {W' : WX} {pos : Pos}
theorem KVs.length {K : PySem.W.Frag} {ρ : List Addr} {H : Hp} : ∀ {kvs : List (W × W)} {xs : List (NestedKey × Addr × V)}, KVs K ρ H kvs xs → xs.length = kvs.length
  | [], xs, h => by cases (show xs = [] from h); rfl
  | p :: r, xs, h => by
    obtain ⟨k, b, v, ys', rfl, _, _, _, h4⟩ := h
    simp [KVs.length h4]
theorem Cf.dctAt {C : Cf} (ok : C.Ok G) {j : Nat} {kvs : List (W × W)} (h : C.S.get j = some (.dct kvs)) : ∃ a xs, C.ρ[j]? = some a ∧ C.H a = some (dctO G.P G.w a xs) ∧ KVs G.K C.ρ C.H kvs xs := by
  obtain ⟨a, o, h1, h2, h3⟩ := ok.ob j _ h
  cases o <;> try exact h3.elim
  obtain ⟨xs, e, q⟩ := h3
  exact ⟨a, xs, h1, by rw [h2, e], q⟩
theorem Cf.fdcAt {C : Cf} (ok : C.Ok G) {j : Nat} {kvs : List (W × W)} (h : C.S.get j = some (.fdc kvs)) : ∃ a od xs, C.ρ[j]? = some a ∧ C.H a = some (.frz od (dctO G.P G.w a xs)) ∧ KVs G.K C.ρ C.H kvs xs := by
  obtain ⟨a, o, h1, h2, h3⟩ := ok.ob j _ h
  cases o <;> try exact h3.elim
  obtain ⟨xs, e, q⟩ := h3
  exact ⟨a, _, xs, h1, by rw [h2, e], q⟩
theorem post_dctK {α : Type} {C : Cf} (ok : C.Ok G) {w : W} {x : V} (r : RW G.K C.ρ C.H w x) {z : Res α} {k : List (W × W) → Res α} {Φ : α → Cf → Prop} (p : Post G W' C (dctK w C.S z k) Φ) :
    Post G W' C z Φ ∨ ∃ a xs kvs, x = .ref a ∧ Rd C.H a (dctO G.P G.w a xs) ∧ KVs G.K C.ρ C.H kvs xs ∧ Post G W' C (k kvs) Φ := by
  unfold dctK at p
  cases w with
  | k u => exact .inl p
  | tup xs => exact .inl p
  | mix _ => (first | exact post_stuck (by assumption) | exact .inl (by assumption) | (exfalso; contradiction) | (unfold nkey at *; contradiction) | (unfold RW at *; simp_all; done) | (simp_all; done))
  | pt _ => (first | exact post_stuck (by assumption) | exact .inl (by assumption) | (exfalso; contradiction) | (unfold nkey at *; contradiction) | (unfold RW at *; simp_all; done) | (simp_all; done))
  | obj i =>
    unfold RW at r
    obtain ⟨a, rfl, h1⟩ := r
    cases q : C.S.get i with
    | none => simp only [q] at p; exact .inl p
    | some v =>
      cases v with
      | dct kvs =>
        simp only [q] at p
        obtain ⟨a', xs, h2, h3, h4⟩ := Cf.dctAt ok q
        rw [h1] at h2; cases h2
        exact .inr ⟨a, xs, kvs, rfl, .inl h3, h4, p⟩
      | fdc kvs =>
        simp only [q] at p
        obtain ⟨a', od, xs, h2, h3, h4⟩ := Cf.fdcAt ok q
        rw [h1] at h2; cases h2
        exact .inr ⟨a, xs, kvs, rfl, .inr ⟨od, h3⟩, h4, p⟩
      | lst xs => simp only [q] at p; exact .inl p
      | cel => simp only [q] at p; exact .inl p
      | urn n => simp only [q] at p; exact .inl p
      | ins c0 fs0 => simp only [q] at p; exact .inl p
      | dki _ => simp only [q] at p; exact .inl p
      | sti _ => simp only [q] at p; exact .inl p
      | exv _ => simp only [q] at p; exact .inl p
/-- a key: a tuple -/
noncomputable def keyK {α : Type} (w : W) (k : Res α) : Res α := match w with
  | .tup _ => match kok 8 w with
    | true => k
    | false => .stuck
  | _ => .stuck
theorem post_keyK {α : Type} {C : Cf} {w : W} {y : V} (r : RW G.K C.ρ C.H w y) {k : Res α} {Φ : α → Cf → Prop} (p : Post G W' C (keyK w k) Φ) : ∃ b j, y = .ref b ∧ nkey w = some j ∧ j.depth ≤ 8 ∧ Post G W' C k Φ := by
  unfold keyK at p
  split at p
  · rename_i xs
    split at p
    · rename_i h
      obtain ⟨j, h1, h2⟩ := kok_of h
      unfold RW at r
      obtain ⟨b, vs, rfl, _⟩ := r
      exact ⟨b, j, rfl, h1, h2, p⟩
    · exact post_stuck p
  · exact post_stuck p
theorem nget_of {C : Cf} {w : W} {a b : Addr} {k : NestedKey} {xs : List (NestedKey × Addr × V)} {kvs : List (W × W)} (rd : Rd C.H a (dctO G.P G.w a xs)) (kv : KVs G.K C.ρ C.H kvs xs) (r : RW G.K C.ρ C.H w (.ref b)) (hw : nkey w = some k) (hk : k.depth ≤ 8) : NGet G.P G.w G.K C.H a (.ref b) (valX xs k) :=
  ⟨xs, k, b, rd, kv.keys, rfl, ⟨C.ρ, w, r, hw, hk⟩, rfl⟩
/-! ### d[k] -/
def rIxN (P : Program) (w : World) (K : PySem.W.Frag) : R2 := fun x y H Q => ∃ a v, x = .ref a ∧ NGet P w K H a y (some v) ∧ Q v H
theorem ix_dct (hu : X.A.units + 9 < cLine) : IxR X (rIxN X.prog X.w X.K) := by
  intro value slice pins s σ H x y v u Q I rx ry h hs
  obtain ⟨a, z, rfl, g, q⟩ := h
  obtain rfl : v = Value.ref a := rx
  have hT : s.TypeIs (.ref a) "dict" := by
    obtain ⟨xs, k, b, e, hk, _⟩ := g
    obtain ⟨_, _, ys, _, dd⟩ := dct_at I e hk
    exact dd.typeIs
  unfold subscriptTail
  refine wpAny_bind ?_
  rw [getitemInPython_of_ne hT.not_modules]
  refine wpAny_bind (wpAny_specialOf hT PySem.F.slot_dict_getitem.lookup ?_)
  have fin : wpAny (model X.prog X.w) X.A (subscripted slice false (.ref a) u) (fun r s₃ => wpAny (model X.prog X.w) X.A (letTemporaryGo value (.ref a) r >>= fun _ => pure r) (EP X pins σ Q) X.xe s₃) X.xe s := by
    rw [hs]
    exact wpAny_operating (n_getItem hu I g ry fun w' s' I' rw' => wpAny_bind (wpAny_letTemporaryGo (wpAny_pure ⟨z, H, I', rw', q⟩)))
  first
    | exact wpAny_pure (wpAny_bind fin)
    | exact wpAny_bind (wpAny_pure (wpAny_bind fin))
    | exact wpAny_bind fin
noncomputable def gIx2 : Op2 := fun a b S => dctK a S (gIx a b S) fun kvs => keyK b (match findD kvs b with
  | some w => .ok w S
  | none => .stuck)
theorem gIx_rd (hx : Okx G X) {W' : WX} {C : Cf} {a b : W} {x y : V} {Q : VK} (ok : C.Ok G) (ra : RW G.K C.ρ C.H a x) (rb : RW G.K C.ρ C.H b y) (p : Post G W' C (gIx a b C.S) (PhE G Q)) : rIxL X.K x y C.H Q ∨ rIxT X.K x y C.H Q := by
  rw [hx.k]
  obtain ⟨i, eb, p⟩ := post_kint p
  rw [eb] at rb
  cases a with
  | k v => exact post_stuck p
  | tup xs =>
    unfold RW at ra
    obtain ⟨c, vs, rfl, h1, h2⟩ := ra
    obtain ⟨j, hj, p⟩ := post_ixK p
    obtain ⟨w, hw, p⟩ := post_nthK p
    obtain ⟨v, hv, rv⟩ := h2.get hw
    refine .inr ⟨c, vs, i, v, rfl, rw_int rb, h1, ?_, Post.now ok p v rv⟩
    unfold atI
    rw [h2.length, hj]
    exact hv
  | mix _ => (first | exact post_stuck (by assumption) | exact .inl (by assumption) | (exfalso; contradiction) | (unfold nkey at *; contradiction) | (unfold RW at *; simp_all; done) | (simp_all; done))
  | pt _ => (first | exact post_stuck (by assumption) | exact .inl (by assumption) | (exfalso; contradiction) | (unfold nkey at *; contradiction) | (unfold RW at *; simp_all; done) | (simp_all; done))
  | obj o =>
    obtain ⟨xs, c, vs, h0, h1, h2, h3, p⟩ := post_kobj ok p
    unfold RW at ra
    obtain ⟨c', rfl, e⟩ := ra
    rw [h1] at e; cases e
    obtain ⟨j, hj, p⟩ := post_ixK p
    obtain ⟨w, hw, p⟩ := post_nthK p
    obtain ⟨v, hv, rv⟩ := h3.get hw
    refine .inl ⟨c, vs, i, v, rfl, rw_int rb, SqL.of h2, ?_, Post.now ok p v rv⟩
    unfold atI
    rw [h3.length, hj]
    exact hv
theorem se_ix2 {fa fb : Evl} {a b : Expr} (hx : Okx G X) (ha : SE G X W' fa a) (hb : SE G X W' fb b) (hs : PlainIx b) : SE G X W' (evBin gIx2 fa fb) (.Subscript a b pos) :=
  pe_imp (pe_ix (IxR.or (IxR.or ix_list ix_tup) (ix_dct (by have := hx.un; omega))) ha hb hs) fun σ H Q h => by
    refine rd_bin (r := fun x y H Q => (rIxL X.K x y H Q ∨ rIxT X.K x y H Q) ∨ rIxN X.prog X.w X.K x y H Q) (fun W' C a b x y Q ok ra rb p => ?_) h
    rcases post_dctK ok ra p with p | ⟨d, xs, kvs, rfl, rd, kv, p⟩
    · exact .inl (gIx_rd hx ok ra rb p)
    · obtain ⟨c, k, rfl, h1, h2, p⟩ := post_keyK rb p
      cases q : findD kvs b with
      | none => rw [q] at p; exact post_stuck p
      | some w =>
        rw [q] at p
        obtain ⟨v, e1, e2⟩ := (find_rel h1 kv).2 w q
        refine .inr ⟨d, v, rfl, ?_, Post.now ok p v e2⟩
        rw [hx.pr, hx.wo, hx.k]
        have := nget_of rd kv rb h1 h2
        rw [e1] at this
        exact this
/-! ### k in d -/
end
end Ev

namespace Ev
open PySem PySem.Spec PyProof.Rows L2
/-! ## dicts: {}, {k: v, ..}, d[k] = v, d.get, d.update -/
/-! ### entries put in one by one -/
def putsX (xs : List (NestedKey × Addr × V)) (ps : List (NestedKey × Addr × V)) : List (NestedKey × Addr × V) := ps.foldl (fun acc p => putX acc p.1 p.2.1 p.2.2) xs
theorem putY_keys (k : NestedKey) (b : Addr) (u : Value) : ∀ ys : List (NestedKey × Addr × Value), (ys.map (·.1)).Nodup → ((putY ys k b u).map (·.1)).Nodup ∧ ∀ j, j ∈ (putY ys k b u).map (·.1) → j = k ∨ j ∈ ys.map (·.1)
  | [], _ => by
    unfold putY
    exact ⟨by simp, fun j h => .inl (by simpa using h)⟩
  | y :: r, nd => by
    rw [List.map_cons] at nd
    have nd' := List.nodup_cons.mp nd
    obtain ⟨h1, h2⟩ := putY_keys k b u r nd'.2
    unfold putY
    by_cases e : y.1 = k
    · rw [if_pos e]
      refine ⟨by rw [List.map_cons]; exact nd, fun j h => .inr ?_⟩
      rw [List.map_cons] at h ⊢
      exact h
    · rw [if_neg e]
      refine ⟨?_, fun j h => ?_⟩
      · rw [List.map_cons]
        refine List.nodup_cons.mpr ⟨fun z => ?_, h1⟩
        rcases h2 _ z with z | z
        · exact e z
        · exact nd'.1 z
      · rw [List.map_cons] at h
        rw [List.map_cons]
        rcases List.mem_cons.mp h with z | z
        · exact .inr (List.mem_cons.mpr (.inl z))
        · rcases h2 _ z with z | z
          · exact .inl z
          · exact .inr (List.mem_cons_of_mem _ z)
theorem puts_rel : ∀ {ps : List (NestedKey × Addr × V)} {qs : List (NestedKey × Addr × Value)}, Paired KxR ps qs → ∀ {xs : List (NestedKey × Addr × V)} {ys : List (NestedKey × Addr × Value)}, (ys.map (·.1)).Nodup → Paired KxR xs ys → Paired KxR (putsX xs ps) (storedAllH ys qs)
  | _, _, .nil, xs, ys, nd, h => h
  | _, _, .cons (a := p) (b := q) ⟨h1, h2, h3⟩ r, xs, ys, nd, h => by
    have e := put_rel p.1 p.2.1 h3 nd h
    rw [h1, h2] at e
    have nd2 : ((storedH ys q.1 q.2.1 q.2.2).map (·.1)).Nodup := by rw [storedH_putY nd]; exact (putY_keys _ _ _ _ nd).1
    show Paired KxR (putsX (putX xs p.1 p.2.1 p.2.2) _) (storedAllH (storedH ys q.1 q.2.1 q.2.2) _)
    rw [h1, h2]
    exact puts_rel r nd2 e
theorem putsX_len : ∀ (ps xs : List (NestedKey × Addr × V)), (putsX xs ps).length ≤ xs.length + ps.length
  | [], xs => Nat.le_refl _
  | p :: r, xs => by
    have h1 := putsX_len r (putX xs p.1 p.2.1 p.2.2)
    have h2 := putX_len p.1 p.2.1 p.2.2 xs
    show (putsX (putX xs p.1 p.2.1 p.2.2) r).length ≤ _
    rw [List.length_cons]; omega
section
variable {X : Cx} {pos : Pos}
/-! ### {} -/
def tDNewN (P : Program) (w : World) : TE := fun _ H Q => ∀ p, H p = none → Q (.ref p) (upd H p (dctO P w p []))
theorem pe_dnewN : PE X (.Dict [] [] pos) (tDNewN X.prog X.w) := ⟨fun pins s σ H Q I h =>
  wpAny_Dict_empty ⟨.ref s.heap.objs.size, _, I.laid (a := s.heap.objs.size) (o := dctO X.prog X.w s.heap.objs.size []) (t' := s.toks) (fun _ _ q => Heap.get?_push_of_some _ q) (Nat.le_refl _) (n_empty s.heap I.big), rfl, h _ (I.hok.fresh (Nat.le_refl _))⟩⟩
/-! ### {k: v, ..} -/
/-! ### o[i] = v -/
def rSetN (P : Program) (w : World) (K : PySem.W.Frag) : V → V → V → Hp → (Hp → Prop) → Prop := fun o i v H Q => ∃ a H', o = .ref a ∧ NPut P w K H a i v H' ∧ Q H'
theorem set_dct (hu : X.A.units + 9 < cLine) : PSet X (rSetN X.prog X.w X.K) := by
  intro pins s σ H o i v ov iv u Q I ro ri rv h
  obtain ⟨a, H', rfl, g, q⟩ := h
  obtain rfl : ov = Value.ref a := ro
  exact n_setItem hu I g ri rv fun s' I' => ⟨H', I', q⟩
theorem PSet.or {t t' : V → V → V → Hp → (Hp → Prop) → Prop} (h : PSet X t) (h' : PSet X t') : PSet X (fun o i v H Q => t o i v H Q ∨ t' o i v H Q) := by
  intro pins s σ H o i v ov iv u Q I ro ri rv q
  rcases q with q | q
  · exact h pins s σ H o i v ov iv u Q I ro ri rv q
  · exact h' pins s σ H o i v ov iv u Q I ro ri rv q
/-! ### methods of a dict -/
/-- x is such a dict -/
def IsN (P : Program) (w : World) (x : V) (H : Hp) : Prop := ∃ a xs, x = .ref a ∧ Rd H a (dctO P w a xs)
theorem isN_at {pins : List (Addr × Obj)} {σ : L2.St} {H : Hp} {s : Shared} {x : V} {v : Value} (I : Inv X pins σ H s) (r : RelV x v) (d : IsN X.prog X.w x H) : s.TypeIs v "dict" ∧ ∀ b, v = .ref b → ∃ ob, s.heap.get? b = some ob ∧ ob.dict = none := by
  obtain ⟨a, xs, rfl, e⟩ := d
  obtain rfl : v = Value.ref a := r
  obtain ⟨⟨hd, hz, ys, hp, nd, o, es, ep, h1, h2, h3, h4⟩, _, _⟩ := e.ok I.hok
  refine ⟨⟨o, h1, h2.1⟩, fun b q => ?_⟩
  cases q
  exact ⟨o, h1, h2.2.1⟩
def tBN (P : Program) (w : World) (r : V → List V → Hp → VK → Prop) (to : TE) (t : TA) : TE := fun σ H Q => to σ H fun x H1 => IsN P w x H1 ∧ t σ H1 fun xs H2 => r x xs H2 Q
variable {o e : Expr} {es : List Expr} {to : TE} {t : TA} {name : Str} {apos cpos : Pos} {id : String} {r : V → List V → Hp → VK → Prop}
theorem pe_bn (slot : Slot "dict" name id) (hty : typeOf (.builtin id) = pure (.type "method_descriptor")) (hm : MtR X id r) (ho : PE X o to) (ha : PA X (e :: es) t)
    (hbase : attributeBase o name X.env (eval o X.env) = eval o X.env := by rfl)
    (hfew : ((backTo cpos (starEach (e :: es) X.env)).all (fun x => !x.1) && (backToKw cpos (keywordEach [] X.env)).all (fun x => x.1.isSome)
      && decide ((e :: es).length + ([] : List Keyword).length + (if ([] : List Keyword).isEmpty then 0 else 1) < 30)) = true := by rfl)
    (hline : (apos.endLine == cpos.line) = true := by rfl) (hs : starEach (e :: es) X.env = (false, eval e X.env) :: starEach es X.env := by rfl) (hplain : (backTo cpos (starEach es X.env)).any (·.1) = false := by rfl) :
    PE X (.Call (.Attribute o name apos) (e :: es) [] cpos) (tBN X.prog X.w r to t) := by
  refine ⟨fun pins s σ H Q I h => ?_⟩
  refine wpAny_Call_method_late hbase hfew hline rfl (thn (ho.run pins s σ H _ I h) fun v s1 ⟨x, H1, I1, r1, ty, q1⟩ => ?_)
  obtain ⟨h1, h2⟩ := isN_at I1 r1 ty
  refine ⟨"dict", id, PySem.F.plainAttrs_dict, slot, hty, h1, h2, ?_⟩
  have hA := ha.run cpos pins s1 σ H1 _ I1 q1
  rw [hs] at hA ⊢
  refine Calls.callWith_builtin (by show (false || (backTo cpos (starEach es X.env)).any (·.1)) = false; rw [hplain] <;> rfl) (Calls.evalArgs_plain ?_)
  exact thn hA fun us s2 ⟨vs, H2, I2, r2, q2⟩ => hm pins s2 σ H2 x vs v us Q I2 r1 r2 q2
/-- d.get(k), d.get(k, z) -/
def rGetN (P : Program) (w : World) (K : PySem.W.Frag) : V → List V → Hp → VK → Prop := fun x xs H Q => ∃ a y o, x = .ref a ∧ NGet P w K H a y o ∧ ((xs = [y] ∧ Q (o.getD .non) H) ∨ ∃ z, xs = [y, z] ∧ Q (o.getD z) H)
theorem mt_getN (hu : X.A.units + 9 < cLine) : MtR X "dict.get" (rGetN X.prog X.w X.K) := by
  intro pins s σ H x xs v us Q I rx rs h
  obtain ⟨a, y, o, rfl, g, h⟩ := h
  obtain rfl : v = Value.ref a := rx
  rcases h with ⟨rfl, q⟩ | ⟨z, rfl, q⟩
  · cases rs with
    | cons ry rn =>
      cases rn
      exact n_get1 hu I g ry fun w' s' I' rw' => ⟨_, H, I', rw', q⟩
  · cases rs with
    | cons ry rn =>
      cases rn with
      | cons rz rn =>
        cases rn
        exact n_get2 hu I g ry rz fun w' s' I' rw' => ⟨_, H, I', rw', q⟩
end
end Ev

namespace Ev
open PySem PySem.Spec PyProof.Rows L2
section
variable {G : Glo} {X : Cx} {W' : WX} {pos : Pos}
/-! ### {} -/
noncomputable def evDnew : Evl := fun _ S => newK S (.dct []) fun n S1 => .ok (.obj n) S1
theorem ro_dct0 {ρ : List Addr} {H : Hp} (a : Addr) : RO G ρ H a (.dct []) (dctO G.P G.w a []) := ⟨[], rfl, rfl⟩
theorem se_dnew (hx : Okx G X) : SE G X W' evDnew (.Dict [] [] pos) := pe_imp pe_dnewN fun σ H Q ⟨C, l, e, ok, r, p⟩ => by
  subst e
  unfold evDnew at p
  simp only [newK_eq] at p
  intro a ha
  rw [hx.pr, hx.wo]
  obtain ⟨ok1, x1, h1⟩ := Cf.alloc ok ha (ro_dct0 a)
  unfold Post at p
  refine p ⟨C.ρ ++ [a], upd C.H a (dctO G.P G.w a []), C.S.new (.dct [])⟩ rfl ok1 x1 (.ref a) ?_
  unfold RW
  exact ⟨a, rfl, h1⟩
/-! ### {k: v, ..} -/
abbrev Evp := Lo → FH → Res (List (W × W))
def RPs (K : PySem.W.Frag) (ρ : List Addr) (H : Hp) : List (W × W) → List (V × V) → Prop
  | [], vs => vs = []
  | p :: r, vs => ∃ k v vs', vs = (k, v) :: vs' ∧ RW K ρ H p.1 k ∧ RW K ρ H p.2 v ∧ RPs K ρ H r vs'
def PhP (G : Glo) (Q : List (V × V) → Hp → Prop) : List (W × W) → Cf → Prop := fun ps C' => ∀ vs, RPs G.K C'.ρ C'.H ps vs → Q vs C'.H
def rdP (G : Glo) (W' : WX) (f : Evp) (σ : L2.St) (H : Hp) (Q : List (V × V) → Hp → Prop) : Prop := ∃ (C : Cf) (l : Lo), C.H = H ∧ C.Ok G ∧ RL G C l σ ∧ Post G W' C (f l C.S) (PhP G Q)
def SP (G : Glo) (X : Cx) (W' : WX) (f : Evp) (pos : Pos) (keys : List (Option Expr)) (values : List Expr) : Prop := ∃ trs, PPs X pos keys values trs ∧ ∀ σ H Q, rdP G W' f σ H Q → tPairs trs σ H Q
/-- all are put in, from the left -/
noncomputable def putsK {α : Type} (ps kvs : List (W × W)) (k : List (W × W) → Res α) : Res α := List.rec (motive := fun _ => List (W × W) → Res α) (fun kvs => k kvs) (fun p _ ih kvs => Prod.rec (motive := fun _ => Res α) (fun w v => keyK w (Ev.putK kvs w v fun kvs' => ih kvs')) p) ps kvs
theorem post_putsK {α : Type} {C : Cf} {k : List (W × W) → Res α} {Φ : α → Cf → Prop} : ∀ {ps kvs : List (W × W)} {vs : List (V × V)} {xs : List (NestedKey × Addr × V)}, RPs G.K C.ρ C.H ps vs → KVs G.K C.ρ C.H kvs xs → Post G W' C (putsK ps kvs k) Φ →
    ∃ ks kvs', vs = ks.map (fun x => (V.ref x.2.1, x.2.2)) ∧ KeysOk G.K C.H ks ∧ ks.length = ps.length ∧ KVs G.K C.ρ C.H kvs' (putsX xs ks) ∧ kvs'.length ≤ kvs.length + ps.length ∧ Post G W' C (k kvs') Φ
  | [], kvs, vs, xs, rp, rk, p => by
    cases (show vs = [] from rp)
    exact ⟨[], kvs, rfl, fun x hx => (nomatch hx), rfl, rk, by simp, p⟩
  | (w, v) :: r, kvs, vs, xs, rp, rk, p => by
    obtain ⟨kv, vv, vs', rfl, h1, h2, h3⟩ := rp
    have p' : Post G W' C (keyK w (Ev.putK kvs w v fun kvs' => putsK r kvs' k)) Φ := p
    obtain ⟨b, j, rfl, e1, e2, p2⟩ := post_keyK h1 p'
    obtain ⟨kvs1, q1, q2, q3⟩ := putK_rel e1 e2 h1 h2 (fun kvs' => putsK r kvs' k) rk
    rw [q1] at p2
    obtain ⟨ks, kvs', z1, z2, z3, z4, z5, z6⟩ := post_putsK h3 q2 p2
    refine ⟨(j, b, vv) :: ks, kvs', by rw [z1]; rfl, fun x hx => ?_, by simp [z3], z4, by simp only [List.length_cons]; omega, z6⟩
    rcases List.mem_cons.mp hx with rfl | hx
    · exact ⟨C.ρ, w, h1, e1, e2⟩
    · exact z2 x hx
/-! ### o[i] = v -/
def manyK (kvs : List (W × W)) : Bool := Nat.ble kvs.length 100000
theorem many_line {kvs : List (W × W)} {n : Nat} (h : manyK kvs = true) (e : n = kvs.length) : n + 100000 < sizeLine := by
  have h1 : kvs.length ≤ 100000 := Nat.le_of_ble_eq_true h
  rw [sizeLine_eq]; omega
noncomputable def setIx2 {α : Type} (o i v : W) (S : FH) (k : FH → Res α) : Res α := match o with
  | .obj n => match S.get n with
    | some u => match u with
      | .dct kvs => match manyK kvs with
        | true => keyK i (Ev.putK kvs i v fun kvs' => S.setK n (.dct kvs') k)
        | false => .stuck
      | _ => setIx o i v S k
    | none => .stuck
  | _ => .stuck
noncomputable def esStd (f fo fi : Evl) : Evs := fun l S => (f l S).bnd fun v S1 => (fo l S1).bnd fun o S2 => (fi l S2).bnd fun i S3 => setIx2 o i v S3 fun S4 => .ok (.nx l) S4
theorem post_setIx2 {α : Type} {C : Cf} (ok : C.Ok G) {o i v : W} {ov iv vv : V} (ro : RW G.K C.ρ C.H o ov) (ri : RW G.K C.ρ C.H i iv) (rv : RW G.K C.ρ C.H v vv) {k : FH → Res α} {Φ : α → Cf → Prop} (p : Post G W' C (setIx2 o i v C.S k) Φ) :
    ∃ C' : Cf, C'.Ok G ∧ Ext C C' ∧ (rSetL ov iv vv C.H (fun H => H = C'.H) ∨ rSetN G.P G.w G.K ov iv vv C.H (fun H => H = C'.H)) ∧ Post G W' C' (k C'.S) Φ := by
  unfold setIx2 at p
  cases o with
  | k u => exact post_stuck p
  | tup xs => exact post_stuck p
  | mix _ => (first | exact post_stuck (by assumption) | exact .inl (by assumption) | (exfalso; contradiction) | (unfold nkey at *; contradiction) | (unfold RW at *; simp_all; done) | (simp_all; done))
  | pt _ => (first | exact post_stuck (by assumption) | exact .inl (by assumption) | (exfalso; contradiction) | (unfold nkey at *; contradiction) | (unfold RW at *; simp_all; done) | (simp_all; done))
  | obj n =>
    cases q : C.S.get n with
    | none => simp only [q] at p; exact post_stuck p
    | some u =>
      have old : Post G W' C (setIx (.obj n) i v C.S k) Φ → ∃ C' : Cf, C'.Ok G ∧ Ext C C' ∧ (rSetL ov iv vv C.H (fun H => H = C'.H) ∨ rSetN G.P G.w G.K ov iv vv C.H (fun H => H = C'.H)) ∧ Post G W' C' (k C'.S) Φ := fun p => by
        obtain ⟨C', h1, h2, h3, h4⟩ := post_setIx ok ro ri rv p
        exact ⟨C', h1, h2, .inl h3, h4⟩
      cases u with
      | dct kvs =>
        simp only [q] at p
        cases q2 : manyK kvs with
        | false => simp only [q2] at p; exact post_stuck p
        | true =>
          simp only [q2] at p
          obtain ⟨b, j, rfl, e1, e2, p2⟩ := post_keyK ri p
          obtain ⟨a, xs, k1, k2, k3⟩ := Cf.dctAt ok q
          obtain ⟨kvs', z1, z2, z3⟩ := putK_rel e1 e2 ri rv (fun kvs' => C.S.setK n (.dct kvs') k) k3
          rw [z1, FH.setK_eq] at p2
          unfold RW at ro
          obtain ⟨a', rfl, k1'⟩ := ro
          rw [k1] at k1'; cases k1'
          obtain ⟨ok', x'⟩ := Cf.put (v := .dct kvs') (o := dctO G.P G.w a (putX xs j b vv)) ok q k1 ⟨_, rfl, z2⟩
          refine ⟨_, ok', x', .inr ⟨a, _, rfl, ⟨xs, j, b, k2, k3.keys, rfl, ⟨C.ρ, i, ri, e1, e2⟩, ?_, rfl⟩, rfl⟩, Post.base x' p2⟩
          have := many_line q2 k3.length
          omega
      | fdc kvs => simp only [q] at p; exact old p
      | lst xs => simp only [q] at p; exact old p
      | cel => simp only [q] at p; exact old p
      | urn m => simp only [q] at p; exact old p
      | ins c0 fs0 => simp only [q] at p; exact old p
      | dki _ => simp only [q] at p; exact old p
      | sti _ => simp only [q] at p; exact old p
      | exv _ => simp only [q] at p; exact old p
theorem ss_std {f fo fi : Evl} {e o i : Expr} {tp : Pos} (hx : Okx G X) (he : SE G X W' f e) (ho : SE G X W' fo o) (hi : SE G X W' fi i)
    (ha : ∀ v, assign (.Subscript o i tp) X.env v = (do
      let ov ← holding [v] (eval o X.env)
      let iv ← holding [v, ov] (eval i X.env)
      standAt tp
      holding [v, ov, iv] (setItem ov iv v)
      release [v, ov, iv] []) := by intro _; rfl)
    (hs : swapsWithSole [.Subscript o i tp] e pos.line X.env = pure false := by rfl) (hw : swappedStores [.Subscript o i tp] e X.env = pure none := by rfl)
    (h1 : (assignEach [.Subscript o i tp] X.env).map (·.2) = [assign (.Subscript o i tp) X.env] := by rfl) : SS G X W' (esStd f fo fi) (.Assign [.Subscript o i tp] e pos) :=
  ps_imp (ps_asg he (pg_sub ho hi (PSet.or set_list (set_dct (by have := hx.un; omega))) ha) hs hw h1) fun D σ H ⟨C, l, e, ok, r, p⟩ => by
    subst e
    refine ⟨C, l, rfl, ok, r, Post.mono (fun v C1 ok1 x1 p1 vv rv => ?_) (Post.bnd p)⟩
    refine ⟨C1, l, rfl, ok1, r.mono ok x1, Post.mono (fun o C2 ok2 x2 p2 ov ro => ?_) (Post.bnd p1)⟩
    refine ⟨C2, l, rfl, ok2, (r.mono ok x1).mono ok1 x2, Post.mono (fun i C3 ok3 x3 p3 iv ri => ?_) (Post.bnd p2)⟩
    have r3 := ((r.mono ok x1).mono ok1 x2).mono ok2 x3
    obtain ⟨C4, ok4, x4, hset, p4⟩ := post_setIx2 ok3 (ro.mono ok2 x3) ri ((rv.mono ok1 x2).mono ok2 x3) p3
    have fin := (Post.now (W' := W') ok4 p4) σ (r3.mono ok3 x4)
    rcases hset with ⟨q, xs, n, j, e1, e2, e3, e4, e5⟩ | ⟨a, H', e1, g, e5⟩
    · refine .inl ⟨q, xs, n, j, e1, e2, e3, e4, ?_⟩
      rw [e5]
      exact fin
    · refine .inr ⟨a, H', e1, by rw [hx.pr, hx.wo, hx.k]; exact g, ?_⟩
      rw [e5]
      exact fin
/-! ### methods of a dict -/
noncomputable def dOnly {α : Type} (w : W) (S : FH) (k : Res α) : Res α := dctK w S .stuck fun _ => k
theorem post_dOnly {α : Type} {C : Cf} (ok : C.Ok G) {w : W} {x : V} (r : RW G.K C.ρ C.H w x) {k : Res α} {Φ : α → Cf → Prop} (p : Post G W' C (dOnly w C.S k) Φ) : IsN G.P G.w x C.H ∧ Post G W' C k Φ := by
  rcases post_dctK ok r p with p | ⟨a, xs, kvs, rfl, rd, kv, p⟩
  · exact post_stuck p
  · exact ⟨⟨a, xs, rfl, rd⟩, p⟩
noncomputable def evBn (g : Opm) (fo : Evl) (f : Eva) : Evl := fun l S => (fo l S).bnd fun w S1 => dOnly w S1 ((f l S1).bnd fun ws S2 => g w ws S2)
theorem se_bn {name : Str} {id : String} {o e : Expr} {es : List Expr} {apos : Pos} {r : V → List V → Hp → VK → Prop} {g : Opm} {fo : Evl} {f : Eva} (hx : Okx G X) (slot : Slot "dict" name id) (hty : typeOf (.builtin id) = pure (.type "method_descriptor")) (hm : MtR X id r) (hg : MtS G r g) (ho : SE G X W' fo o) (ha : SA G X W' f (e :: es))
    (hbase : attributeBase o name X.env (eval o X.env) = eval o X.env := by rfl)
    (hfew : ((backTo pos (starEach (e :: es) X.env)).all (fun x => !x.1) && (backToKw pos (keywordEach [] X.env)).all (fun x => x.1.isSome)
      && decide ((e :: es).length + ([] : List Keyword).length + (if ([] : List Keyword).isEmpty then 0 else 1) < 30)) = true := by rfl)
    (hline : (apos.endLine == pos.line) = true := by rfl) (hs : starEach (e :: es) X.env = (false, eval e X.env) :: starEach es X.env := by rfl) (hplain : (backTo pos (starEach es X.env)).any (·.1) = false := by rfl) :
    SE G X W' (evBn g fo f) (.Call (.Attribute o name apos) (e :: es) [] pos) :=
  pe_imp (pe_bn slot hty hm ho ha hbase hfew hline hs hplain) fun σ H Q ⟨C, l, e, ok, rl, p⟩ => by
    subst e
    refine ⟨C, l, rfl, ok, rl, Post.mono (fun w C1 ok1 x1 p1 v rv => ?_) (Post.bnd p)⟩
    obtain ⟨ty, p2⟩ := post_dOnly ok1 rv p1
    refine ⟨by rw [hx.pr, hx.wo]; exact ty, C1, l, rfl, ok1, rl.mono ok x1, Post.mono (fun ws C2 ok2 x2 p3 vs rvs => ?_) (Post.bnd p2)⟩
    exact hg W' C2 w v ws vs Q ok2 (rv.mono ok1 x2) rvs p3
/-- get -/
noncomputable def mGetD : Opm := fun w ws S => dctK w S .stuck fun kvs => match ws with
  | [] => .stuck
  | y :: r => keyK y (match r with
    | [] => (match findD kvs y with
      | some v => .ok v S
      | none => .ok (.k .non) S)
    | z :: r2 => match r2 with
      | [] => (match findD kvs y with
        | some v => .ok v S
        | none => .ok z S)
      | _ :: _ => .stuck)
theorem ms_getD : MtS G (rGetN G.P G.w G.K) mGetD := fun W' C w x ws vs Q ok rw_ rs p => by
  rcases post_dctK ok rw_ p with p | ⟨a, xs, kvs, rfl, rd, kv, p⟩
  · exact post_stuck p
  · cases ws with
    | nil => exact post_stuck p
    | cons y r =>
      unfold RWs at rs
      obtain ⟨yv, vs', rfl, ry, rs⟩ := rs
      obtain ⟨b, k, rfl, e1, e2, p⟩ := post_keyK ry p
      have g := nget_of rd kv ry e1 e2
      have fr := find_rel e1 kv
      cases r with
      | nil =>
        unfold RWs at rs
        subst rs
        refine ⟨a, _, _, rfl, g, .inl ⟨rfl, ?_⟩⟩
        cases q : findD kvs y with
        | none =>
          simp only [q] at p
          rw [fr.1 q]
          exact Post.now ok p _ mk_k
        | some v =>
          simp only [q] at p
          obtain ⟨u, h1, h2⟩ := fr.2 v q
          rw [h1]
          exact Post.now ok p _ h2
      | cons z r2 =>
        cases r2 with
        | cons _ _ => exact post_stuck p
        | nil =>
          obtain ⟨zv, rfl, rz⟩ := rws1 rs
          refine ⟨a, _, _, rfl, g, .inr ⟨zv, rfl, ?_⟩⟩
          cases q : findD kvs y with
          | none =>
            simp only [q] at p
            rw [fr.1 q]
            exact Post.now ok p _ rz
          | some v =>
            simp only [q] at p
            obtain ⟨u, h1, h2⟩ := fr.2 v q
            rw [h1]
            exact Post.now ok p _ h2
theorem mt_getD (hx : Okx G X) : MtR X "dict.get" (rGetN G.P G.w G.K) := by
  rw [← hx.pr, ← hx.wo, ← hx.k]
  exact mt_getN (by have := hx.un; omega)
end
end Ev

namespace Ev
open PySem PySem.Spec PyProof.Rows L2
/-! ## for k in d, for k, v in d.items(): the dict is never written again -/
section
variable {X : Cx} {pins : List (Addr × Obj)} {σ : L2.St} {H : Hp} {s : Shared} {d : Addr} {o : Obj}
theorem frzN {xs : List (NestedKey × Addr × V)} (I : Inv X pins σ H s) (h : H d = some (.frz o (dctO X.prog X.w d xs))) :
    (d == sysModules) = false ∧ s.heap.get? d = some o ∧ o.ExactDict ∧ ∃ (es : Array DictEntry) (ep : Nat), o.data = .dict es ep ∧ es.size = xs.length ∧
      ∀ (i : Nat) (k : NestedKey) (b : Addr) (v : V), xs[i]? = some (k, b, v) → ∃ (en : DictEntry), es[i]? = some en ∧ en.key = .ref b ∧ RelV v en.val := by
  obtain ⟨hd, ⟨hs, z, ys, pr, nd, o', es, ep, ho, hx, hdt, he⟩, _, _⟩ := I.hok d _ h
  rw [hd] at ho
  cases ho
  refine ⟨hs, hd, hx, es, ep, hdt, ?_, fun i k b v e => ?_⟩
  · have l1 : es.size = ys.length := size_of_entries he
    have l2 : xs.length = ys.length := Paired.length pr
    omega
  · obtain ⟨y, hy, e1, e2, e3⟩ := paired_get pr e
    have q := entry_at he i
    rw [hy] at q
    exact ⟨_, q, by show Value.ref y.2.1 = _; rw [← e2], e3⟩
end
/-- the keys; the pairs, each a new tuple -/
def Itkn (P : Program) (w : World) (d : Addr) (o : Obj) (xs : List (NestedKey × Addr × V)) : It :=
  ⟨fun i H => H d = some (.frz o (dctO P w d xs)) ∧ i < xs.length, fun i H x H' => H' = H ∧ ∃ k b v, xs[i]? = some (k, b, v) ∧ x = .ref b, fun i H => H d = some (.frz o (dctO P w d xs)) ∧ xs.length ≤ i⟩
def Itin (P : Program) (w : World) (d : Addr) (o : Obj) (xs : List (NestedKey × Addr × V)) : It :=
  ⟨fun i H => H d = some (.frz o (dctO P w d xs)) ∧ i < xs.length, fun i H x H' => ∃ T k b v, xs[i]? = some (k, b, v) ∧ x = .ref T ∧ H T = none ∧ H' = upd H T (.tup [.ref b, v]), fun i H => H d = some (.frz o (dctO P w d xs)) ∧ xs.length ≤ i⟩
section
variable {P : Program} {w : World} {K : PySem.W.Frag} {tg : Expr} {d : Addr} {o : Obj} {es : Array DictEntry} {ep : Nat}
theorem turn_keysN {xs : List (NestedKey × Addr × V)} (it : Addr) (hod : o.data = .dict es ep) : Turn P w K tg (Itkn P w d o xs) [it] it (fun i h => h.IsKeyIter it d i xs.length ep) where
  mem := by simp
  obj := fun i h st b hb => by
    have e : b = it := by simpa using hb
    subst e
    obtain ⟨oi, e, c, dd⟩ := st
    exact ⟨oi, e, fun v z => by rw [dd] at z; cases z⟩
  keep := fun i h h' st k => st.at fun oi e => k it (by simp) oi e
  item := by
    intro X hP hw hK hc i pins s σ H E I hf st hg
    subst hP hw hK
    obtain ⟨hd, hi⟩ := hg
    obtain ⟨f0, f1, f2, f3, f4, f5⟩ := hf it (by simp)
    obtain ⟨hs, hgd, hx, es', ep', hdt, hsz, ent⟩ := frzN I hd
    obtain ⟨rfl, rfl⟩ := dict_ep hod hdt
    obtain ⟨⟨k, b, v⟩, hkv⟩ : ∃ p, xs[i]? = some p := ⟨xs[i], List.getElem?_eq_getElem hi⟩
    obtain ⟨en, hen, hkey, _⟩ := ent i k b v hkv
    refine next_key_item st hgd hdt hsz hen fun h' st' sb => ?_
    have I1 : Inv X pins σ H { s with heap := h' } := I.turned (t' := s.toks) (fun b ob hb e => (sb.2 b hb).trans e) f0 f1 f3 f4 f5
    obtain ⟨oi, e, c, dd⟩ := id st'
    exact ⟨en.key, rfl, go_of (s := { s with heap := h' }) e c dd (by decide) ⟨.ref b, H, I1, hkey, ⟨rfl, k, b, v, hkv, rfl⟩, st', fun b hb => (hf b hb).1⟩⟩
  done := by
    intro X hP hw hK hc i pins s σ H E I hf st hg
    subst hP hw hK
    obtain ⟨hd, hi⟩ := hg
    obtain ⟨f0, f1, f2, f3, f4, f5⟩ := hf it (by simp)
    obtain ⟨hs, hgd, hx, es', ep', hdt, hsz, ent⟩ := frzN I hd
    obtain ⟨rfl, rfl⟩ := dict_ep hod hdt
    exact next_key_end (I.ok.hd hc) st hgd hdt hsz hi fun h' eb => ⟨rfl, I.turned (t' := s.toks) (fun b ob hb e => eb b ob hb e) f0 f1 f3 f4 f5⟩
  self := fun A i s Q E st h => by
    refine wpAny_pyIter_slot st.typeIs PySem.F.slot_dict_keyiterator_iter (wpAny_call_entry PySem.F.slot_dict_keyiterator_iter st.typeIs PySem.F.entry_dict_keyiterator_iter ?_ (PySem.F.args_dict_keyiterator_iter_1 _))
    show wpAny _ _ (ret (.ref it)) _ _ s
    exact wpAny_pure ⟨_, rfl, "dict_keyiterator", _, st.typeIs, PySem.F.slot_dict_keyiterator_next.lookup, h⟩
theorem turn_itemsN {xs : List (NestedKey × Addr × V)} {elts : List Expr} {kk : Nat} {tpos : Pos} (it : Addr) (hod : o.data = .dict es ep) :
    Turn P w K (.Tuple elts kk tpos) (Itin P w d o xs) [it] it (fun i h => ∃ ok ov, IsItemIter h it d i xs.length ep ok ov) where
  mem := by simp
  obj := fun i h st b hb => by
    have e : b = it := by simpa using hb
    subst e
    obtain ⟨ok, ov, e⟩ := st
    exact ⟨_, e, fun v z => nomatch z⟩
  keep := fun i h h' st k => let ⟨ok, ov, e⟩ := st; ⟨ok, ov, k it (by simp) _ e⟩
  item := by
    intro X hP hw hK hc i pins s σ H E I hf st hg
    subst hP hw hK
    obtain ⟨hd, hi⟩ := hg
    obtain ⟨hs, hgd, hx, es', ep', hdt, hsz, ent⟩ := frzN I hd
    obtain ⟨rfl, rfl⟩ := dict_ep hod hdt
    obtain ⟨⟨k, b, v⟩, hkv⟩ : ∃ p, xs[i]? = some p := ⟨xs[i], List.getElem?_eq_getElem hi⟩
    obtain ⟨en, hen, hkey, hval⟩ := ent i k b v hkv
    obtain ⟨ok, ov, he⟩ := st
    rw [← hsz] at he
    have hi' : i < es'.size := by omega
    have hen2 : es'[i] = en := by
      have := Array.getElem?_eq_getElem hi'
      rw [hen] at this
      exact (Option.some.inj this).symm
    have hlt : it < s.heap.objs.size := Heap.lt_size he
    refine PySem.wpAny_pyNext_items_item_raw he ⟨_, hgd, hx, hdt⟩ hi' fun h' ho hT hz hk => ?_
    refine ⟨_, rfl, wpAny_letOwnedTupleGo_items (s := { s with heap := h' }) ho fun h'' he' sb => ?_⟩
    rw [hen2, hkey] at hT
    have hT2 : h''.get? s.heap.objs.size = some { cls := .type "tuple", data := .seq #[.ref b, en.val] } := (sb.2 _ (Nat.ne_of_gt hlt)).trans hT
    have new : ObjOk X.prog X.w (upd H s.heap.objs.size (.tup [.ref b, v])) h'' s.heap.objs.size (.tup [.ref b, v]) :=
      ⟨by show 2 ≤ sizeLine; decide, [.ref b, en.val], .cons rfl (.cons hval .nil), ⟨_, hT2, rfl, _, rfl⟩⟩
    have I1 : Inv X pins σ (upd H s.heap.objs.size (.tup [.ref b, v])) { s with heap := h'' } :=
      I.turnedNew (t' := s.toks) (ch := [it]) (fun b ob hb e => (sb.2 b (by simpa using hb)).trans (hk b ob (by simpa using hb) e)) hf (Nat.le_refl _) new
    refine ⟨.ref s.heap.objs.size, _, I1, rfl, ⟨_, k, b, v, hkv, rfl, I.hok.fresh (Nat.le_refl _), rfl⟩, ⟨es'[i].key, es'[i].val, by rw [← hsz]; exact he'⟩, fun b hb => ?_⟩
    · have e : b = it := by simpa using hb
      rw [e, upd_ne (Nat.ne_of_lt hlt)]
      exact (hf it (by simp)).1
  done := by
    intro X hP hw hK hc i pins s σ H E I hf st hg
    subst hP hw hK
    obtain ⟨hd, hi⟩ := hg
    obtain ⟨f0, f1, f2, f3, f4, f5⟩ := hf it (by simp)
    obtain ⟨hs, hgd, hx, es', ep', hdt, hsz, ent⟩ := frzN I hd
    obtain ⟨rfl, rfl⟩ := dict_ep hod hdt
    obtain ⟨ok, ov, he⟩ := st
    rw [← hsz] at he
    exact PySem.wpAny_pyNext_items_end_raw (I.ok.hd hc) he ⟨_, hgd, hx, hdt⟩ (by omega) fun h' eb => ⟨rfl, I.turned (t' := s.toks) (fun b ob hb e => eb b ob hb e) f0 f1 f3 f4 f5⟩
  self := fun A i s Q E st h => let ⟨_, _, e⟩ := st; PySem.W.kcp_self e h
end
/-- locked already, or now -/
def LockN (P : Program) (w : World) (x : V) (H1 : Hp) (R : Addr → Obj → List (NestedKey × Addr × V) → Hp → Prop) : Prop := ∃ d xs, x = .ref d ∧ ((∃ o, H1 d = some (.frz o (dctO P w d xs)) ∧ R d o xs H1) ∨ (H1 d = some (dctO P w d xs) ∧ ∀ o, R d o xs (upd H1 d (.frz o (dctO P w d xs)))))
theorem lockN {X : Cx} {pins : List (Addr × Obj)} {σ : L2.St} {H1 : Hp} {s : Shared} {x : V} {R : Addr → Obj → List (NestedKey × Addr × V) → Hp → Prop} (I : Inv X pins σ H1 s) (h : LockN X.prog X.w x H1 R) :
    ∃ d xs o H2, x = .ref d ∧ Inv X pins σ H2 s ∧ H2 d = some (.frz o (dctO X.prog X.w d xs)) ∧ R d o xs H2 := by
  obtain ⟨d, xs, rfl, ⟨o, e, r⟩ | ⟨e, r⟩⟩ := h
  · exact ⟨d, xs, o, H1, rfl, I, e, r⟩
  · obtain ⟨o, I2⟩ := I.lock e True.intro
    exact ⟨d, xs, o, _, rfl, I2, upd_same, r o⟩
def iItemsN (P : Program) (w : World) (td : TE) : TI := fun σ H R => td σ H fun x H1 => LockN P w x H1 fun d o xs H2 => R (Itin P w d o xs) H2
section
variable {X : Cx} {tg e : Expr} {td : TE} {apos cpos : Pos}
theorem pie_keysN {pins : List (Addr × Obj)} {σ : L2.St} {H1 : Hp} {s : Shared} {x : V} {u : Value} {R : It → Hp → Prop} (I : Inv X pins σ H1 s) (rx : RelV x u) (h : LockN X.prog X.w x H1 fun d o xs H2 => R (Itkn X.prog X.w d o xs) H2) :
    wpAny (model X.prog X.w) X.A (pyIter u) (PIE X pins σ tg R) X.xe s := by
  obtain ⟨d, xs, o, H2, rfl, I2, e, r⟩ := lockN I h
  obtain rfl : u = Value.ref d := rx
  obtain ⟨hs, hgd, hx, es, ep, hdt, hsz, ent⟩ := frzN I2 e
  refine iter_keys hs hgd hx hdt (pi_one (tk := s.toks) I2 _ (turn_keysN _ hdt) ⟨_, Heap.get?_push_size _ rfl, rfl, ?_⟩ r)
  rw [hsz] <;> rfl
theorem pi_itemsN {elts : List Expr} {kk : Nat} {tpos : Pos} (he : PE X e td) (hbase : attributeBase e "items" X.env (eval e X.env) = eval e X.env := by rfl) (hline : (apos.endLine == cpos.line) = true := by rfl) :
    PI X (.Tuple elts kk tpos) (.Call (.Attribute e "items" apos) [] [] cpos) (iItemsN X.prog X.w td) := by
  refine ⟨fun pins s σ H R I h => ?_⟩
  refine wpAny_Call_method (T := "dict") (id := "dict.items") hbase rfl hline PySem.F.plainAttrs_dict PySem.F.slot_dict_items PySem.F.type_dict_items (thn (he.run pins s σ H _ I h) fun u s1 ⟨x, H1, I1, rx, q⟩ => ?_)
  obtain ⟨d, xs, o, H2, rfl, I2, e, r⟩ := lockN I1 q
  obtain rfl : u = Value.ref d := rx
  obtain ⟨hs, hgd, hx, es, ep, hdt, hsz, ent⟩ := frzN I2 e
  have raw : s1.heap.DictRaw d es ep := ⟨_, hgd, hx, hdt⟩
  refine ⟨raw.typeIs, fun b z => ?_, ?_⟩
  · cases z
    exact ⟨o, hgd, hx.2.1⟩
  · have I3 : Inv X pins σ H2 { s1 with heap := s1.heap.push { cls := .type "dict_items", data := .fields #[.ref d] } } := I2.kept (t' := s1.toks) fun b ob q => Heap.get?_push_of_some _ q
    have fin : wpAny (model X.prog X.w) X.A (pyIter (.ref s1.heap.objs.size)) (PIE X pins σ (.Tuple elts kk tpos) R) X.xe { s1 with heap := s1.heap.push { cls := .type "dict_items", data := .fields #[.ref d] } } := by
      refine PySem.wpAny_pyIter_items_raw (d := d) (es := es) (ep := ep) ⟨_, Heap.get?_push_size _ rfl, rfl, rfl⟩ (raw.push _) (pi_one (tk := s1.toks) I3 _ (turn_itemsN _ hdt) ⟨.none, .none, ?_⟩ r)
      rw [← hsz]
      exact Heap.get?_push_size _ rfl
    show wpAny _ _ (callWith cpos (.builtin "dict.items") [.ref d] [] []) _ X.xe s1
    exact method_meetsIn PySem.F.slot_dict_items PySem.F.entry_dict_items rfl (PySem.evalArgs_none ⟨rfl, raw.typeIs, PySem.F.args_dict_items_1 _, _, PySem.meets_dict_items_raw d hs, ⟨es, ep, raw⟩, fin⟩)
end
/-! ### in the reckoner -/
section
variable {G : Glo} {X : Cx} {W' : WX} {pos : Pos}
noncomputable def keysOf (kvs : List (W × W)) : List W := List.rec (motive := fun _ => List W) [] (fun p _ ih => p.1 :: ih) kvs
noncomputable def itemsOf (kvs : List (W × W)) : List W := List.rec (motive := fun _ => List W) [] (fun p _ ih => .tup [p.1, p.2] :: ih) kvs
theorem keysOf_at {K : PySem.W.Frag} {ρ : List Addr} {H : Hp} : ∀ {kvs : List (W × W)} {xs : List (NestedKey × Addr × V)}, KVs K ρ H kvs xs → ∀ i, (nth (keysOf kvs) i = none → xs.length ≤ i) ∧ ∀ w, nth (keysOf kvs) i = some w → ∃ k b v, xs[i]? = some (k, b, v) ∧ RW K ρ H w (.ref b)
  | [], xs, h, i => by
    cases (show xs = [] from h)
    exact ⟨fun _ => Nat.zero_le _, fun w e => nomatch e⟩
  | p :: r, xs, h, i => by
    obtain ⟨k, b, v, ys', rfl, h1, h2, h3, h4⟩ := h
    cases i with
    | zero => exact ⟨fun e => (nomatch e), fun w e => ⟨k, b, v, rfl, by cases (Option.some.inj e : p.1 = w); exact h2⟩⟩
    | succ i =>
      have ih := keysOf_at h4 i
      refine ⟨fun e => ?_, fun w e => ?_⟩
      · have := ih.1 e
        simp only [List.length_cons]; omega
      · obtain ⟨k', b', v', e1, e2⟩ := ih.2 w e
        exact ⟨k', b', v', by simpa using e1, e2⟩
theorem itemsOf_at {K : PySem.W.Frag} {ρ : List Addr} {H : Hp} : ∀ {kvs : List (W × W)} {xs : List (NestedKey × Addr × V)}, KVs K ρ H kvs xs → ∀ i, (nth (itemsOf kvs) i = none → xs.length ≤ i) ∧ ∀ w, nth (itemsOf kvs) i = some w → ∃ k b v kw vw, xs[i]? = some (k, b, v) ∧ w = .tup [kw, vw] ∧ RW K ρ H kw (.ref b) ∧ RW K ρ H vw v
  | [], xs, h, i => by
    cases (show xs = [] from h)
    exact ⟨fun _ => Nat.zero_le _, fun w e => nomatch e⟩
  | p :: r, xs, h, i => by
    obtain ⟨k, b, v, ys', rfl, h1, h2, h3, h4⟩ := h
    cases i with
    | zero => exact ⟨fun e => (nomatch e), fun w e => ⟨k, b, v, p.1, p.2, rfl, (Option.some.inj e).symm, h2, h3⟩⟩
    | succ i =>
      have ih := itemsOf_at h4 i
      refine ⟨fun e => ?_, fun w e => ?_⟩
      · have := ih.1 e
        simp only [List.length_cons]; omega
      · obtain ⟨k', b', v', kw, vw, e1, e2⟩ := ih.2 w e
        exact ⟨k', b', v', kw, vw, by simpa using e1, e2⟩
theorem srcKN_ok {C0 : Cf} (ok0 : C0.Ok G) {kvs : List (W × W)} {d : Addr} {o : Obj} {xs : List (NestedKey × Addr × V)} (hd : C0.H d = some (.frz o (dctO G.P G.w d xs))) (kv : KVs G.K C0.ρ C0.H kvs xs) : SrcOk G (srcT (keysOf kvs)) (Itkn G.P G.w d o xs) C0 := fun C ok x i => by
  have hd' := x.frz d o _ hd
  have kv' := kv.mono ok0 x
  have q := keysOf_at kv' i
  unfold srcT
  refine ⟨fun e => ⟨hd', q.1 (Option.some.inj e)⟩, fun w e => ?_⟩
  obtain ⟨k, b, v, e1, e2⟩ := q.2 w (Option.some.inj e)
  refine ⟨⟨hd', (List.getElem?_eq_some_iff.mp e1).1⟩, fun y H' ⟨hH, k', b', v', e3, ey⟩ => ⟨C, hH.symm, rfl, ok, Ext.refl C, ?_⟩⟩
  rw [e1] at e3
  cases e3
  rw [ey]
  exact e2
theorem srcIN_ok {C0 : Cf} (ok0 : C0.Ok G) {kvs : List (W × W)} {d : Addr} {o : Obj} {xs : List (NestedKey × Addr × V)} (hd : C0.H d = some (.frz o (dctO G.P G.w d xs))) (kv : KVs G.K C0.ρ C0.H kvs xs) : SrcOk G (srcT (itemsOf kvs)) (Itin G.P G.w d o xs) C0 := fun C ok x i => by
  have hd' := x.frz d o _ hd
  have kv' := kv.mono ok0 x
  have q := itemsOf_at kv' i
  unfold srcT
  refine ⟨fun e => ⟨hd', q.1 (Option.some.inj e)⟩, fun w e => ?_⟩
  obtain ⟨k, b, v, kw, vw, e1, rfl, e2, e3⟩ := q.2 w (Option.some.inj e)
  refine ⟨⟨hd', (List.getElem?_eq_some_iff.mp e1).1⟩, fun y H' ⟨T, k', b', v', e4, ey, hT, hH⟩ => ?_⟩
  rw [e1] at e4
  cases e4
  obtain ⟨C', h1, h2, h3, h4, h5⟩ := Cf.newTup ok hT (.cons e2 (.cons e3 .nil))
  exact ⟨C', by rw [h1, hH], h2, h3, h4, by rw [ey]; exact h5⟩
/-- the dict at w is locked -/
noncomputable def lockK {α : Type} (w : W) (S : FH) (z : Res α) (k : List (W × W) → FH → Res α) : Res α := match w with
  | .obj n => match S.get n with
    | some v => match v with
      | .dct kvs => S.setK n (.fdc kvs) fun S1 => k kvs S1
      | .fdc kvs => k kvs S
      | _ => z
    | none => z
  | _ => z
theorem post_lockK {α : Type} {C : Cf} (ok : C.Ok G) {w : W} {x : V} (r : RW G.K C.ρ C.H w x) {z : Res α} {k : List (W × W) → FH → Res α} {Φ : α → Cf → Prop} {R : Addr → Obj → List (NestedKey × Addr × V) → Hp → Prop} (p : Post G W' C (lockK w C.S z k) Φ)
    (hk : ∀ (C1 : Cf) (kvs : List (W × W)) (d : Addr) (o : Obj) (xs : List (NestedKey × Addr × V)), C1.Ok G → Ext C C1 → C1.H d = some (.frz o (dctO G.P G.w d xs)) → KVs G.K C1.ρ C1.H kvs xs → Post G W' C1 (k kvs C1.S) Φ → R d o xs C1.H) :
    Post G W' C z Φ ∨ LockN G.P G.w x C.H R := by
  unfold lockK at p
  cases w with
  | k u => exact .inl p
  | tup xs => exact .inl p
  | mix _ => (first | exact post_stuck (by assumption) | exact .inl (by assumption) | (exfalso; contradiction) | (unfold nkey at *; contradiction) | (unfold RW at *; simp_all; done) | (simp_all; done))
  | pt _ => (first | exact post_stuck (by assumption) | exact .inl (by assumption) | (exfalso; contradiction) | (unfold nkey at *; contradiction) | (unfold RW at *; simp_all; done) | (simp_all; done))
  | obj n =>
    unfold RW at r
    obtain ⟨a, rfl, h1⟩ := r
    cases q : C.S.get n with
    | none => simp only [q] at p; exact .inl p
    | some v =>
      cases v with
      | dct kvs =>
        simp only [q] at p
        obtain ⟨a', xs, h2, h3, h4⟩ := Cf.dctAt ok q
        rw [h1] at h2; cases h2
        refine .inr ⟨a, xs, rfl, .inr ⟨h3, fun o => ?_⟩⟩
        rw [FH.setK_eq] at p
        obtain ⟨ok', x'⟩ := Cf.put (v := .fdc kvs) (o := .frz o (dctO G.P G.w a xs)) ok q h1 ⟨xs, rfl, h4⟩
        exact hk ⟨C.ρ, upd C.H a (.frz o (dctO G.P G.w a xs)), C.S.set n (.fdc kvs)⟩ kvs a o xs ok' x' upd_same (h4.mono ok x') (Post.base x' p)
      | fdc kvs =>
        simp only [q] at p
        obtain ⟨a', od, xs, h2, h3, h4⟩ := Cf.fdcAt ok q
        rw [h1] at h2; cases h2
        exact .inr ⟨a, xs, rfl, .inl ⟨od, h3, hk C kvs a od xs ok (Ext.refl C) h3 h4 p⟩⟩
      | lst xs => simp only [q] at p; exact .inl p
      | cel => simp only [q] at p; exact .inl p
      | urn m => simp only [q] at p; exact .inl p
      | ins c0 fs0 => simp only [q] at p; exact .inl p
      | dki _ => simp only [q] at p; exact .inl p
      | sti _ => simp only [q] at p; exact .inl p
      | exv _ => simp only [q] at p; exact .inl p
noncomputable def ofSeq2 (w : W) (S : FH) : Res Src := lockK w S (ofSeq w S) fun kvs S1 => .ok (srcT (keysOf kvs)) S1
noncomputable def eiSeq2 (f : Evl) : Evi := fun l S => (f l S).bnd fun w S1 => ofSeq2 w S1
/-- a list, a tuple, a dict -/
def iSeq2 (P : Program) (w : World) (K : PySem.W.Frag) (tl : TE) : TI := fun σ H R => tl σ H fun x H1 => (∃ a, x = .ref a ∧ (((∃ xs, SqL K H1 a xs) ∧ R (Itl K a) H1) ∨ ((∃ xs, SqT K H1 a xs) ∧ R (Itt K a) H1))) ∨ LockN P w x H1 fun d o xs H2 => R (Itkn P w d o xs) H2
theorem pi_seq2 {tg l : Expr} {tl : TE} (hl : PE X l tl) : PI X tg l (iSeq2 X.prog X.w X.K tl) := by
  refine ⟨fun pins s σ H R I h => ?_⟩
  refine thn (hl.run pins s σ H _ I h) fun v s1 ⟨x, H1, I1, r1, q1⟩ => ?_
  rcases q1 with q1 | q1
  · obtain ⟨a, e, q1⟩ := q1
    subst e
    cases r1
    rcases q1 with ⟨⟨xs, hq⟩, q⟩ | ⟨⟨xs, hq⟩, q⟩
    · obtain ⟨its, rv, p, hz⟩ := I1.list hq
      refine wpAny_pyIter_list p.isList ?_
      refine ⟨s1.heap.objs.size, [s1.heap.objs.size], _, _, H1, rfl, I1.kept (t' := s1.toks) fun b o e => Heap.get?_push_of_some _ e, turn_list a _, ⟨_, Heap.get?_push_size _ rfl, rfl, rfl⟩, fun b hb => ?_, q⟩
      have e : b = s1.heap.objs.size := by simpa using hb
      subst e
      exact I1.fpOk (Nat.le_refl _) (I1.hok.fresh (Nat.le_refl _))
    · obtain ⟨its, rv, p, hz⟩ := I1.tuple hq
      refine wpAny_pyIter_tuple (show s1.heap.IsTuple a its.toArray from p) ?_
      refine ⟨s1.heap.objs.size, [s1.heap.objs.size], _, _, H1, rfl, I1.kept (t' := s1.toks) fun b o e => Heap.get?_push_of_some _ e, turn_tuple a _, ⟨_, Heap.get?_push_size _ rfl, rfl, rfl⟩, fun b hb => ?_, q⟩
      have e : b = s1.heap.objs.size := by simpa using hb
      subst e
      exact I1.fpOk (Nat.le_refl _) (I1.hok.fresh (Nat.le_refl _))
  · exact pie_keysN I1 r1 q1
theorem si_seq2 {f : Evl} {tg e : Expr} (hx : Okx G X) (h : SE G X W' f e) : SI G X W' (eiSeq2 f) tg e := pi_imp (pi_seq2 h) fun σ H R ⟨C, l, e, ok, r, p⟩ => by
  subst e
  rw [hx.k, hx.pr, hx.wo]
  refine ⟨C, l, rfl, ok, r, Post.mono (fun w C1 ok1 x1 p1 v rv => ?_) (Post.bnd (k := fun w S1 => ofSeq2 w S1) p)⟩
  rcases post_lockK (R := fun d o xs H2 => R (Itkn G.P G.w d o xs) H2) ok1 rv p1 (fun C2 kvs d o xs ok2 x2 hd kv p2 => (Post.now ok2 p2) _ (srcKN_ok ok2 hd kv)) with q | q
  · exact .inl (post_seq ok1 rv q)
  · exact .inr q
noncomputable def eiItems (f : Evl) : Evi := fun l S => (f l S).bnd fun w S1 => lockK w S1 .stuck fun kvs S2 => .ok (srcT (itemsOf kvs)) S2
theorem si_items {f : Evl} {elts : List Expr} {kk : Nat} {tpos apos : Pos} {e : Expr} (hx : Okx G X) (h : SE G X W' f e) (hbase : attributeBase e "items" X.env (eval e X.env) = eval e X.env := by rfl) (hline : (apos.endLine == pos.line) = true := by rfl) :
    SI G X W' (eiItems f) (.Tuple elts kk tpos) (.Call (.Attribute e "items" apos) [] [] pos) := pi_imp (pi_itemsN h hbase hline) fun σ H R ⟨C, l, e, ok, r, p⟩ => by
  subst e
  rw [hx.pr, hx.wo]
  refine ⟨C, l, rfl, ok, r, Post.mono (fun w C1 ok1 x1 p1 v rv => ?_) (Post.bnd p)⟩
  rcases post_lockK (R := fun d o xs H2 => R (Itin G.P G.w d o xs) H2) ok1 rv p1 (fun C2 kvs d o xs ok2 x2 hd kv p2 => (Post.now ok2 p2) _ (srcIN_ok ok2 hd kv)) with q | q
  · exact post_stuck q
  · exact q
end
end Ev

namespace Ev
open PySem PySem.Spec PyProof.Rows L2
/-! ## {k: v for target in iter if ..}, the keys tuples -/
section
variable {X : Cx}
def tDcN (P : Program) (w : World) (K : PySem.W.Frag) (wi : TI) (g : TG) (tt : TT) (tk tv : TE) (vs : List Nat) : TE := fun σ H Q => wi σ H fun J H1 => ∀ D, H1 D = none → ∃ Wn : Nat → Nat → Hp → Prop, (∃ m, Wn 0 m (upd H1 D (dctO P w D []))) ∧ ∀ i m H, Wn i m H →
  (J.stop i H ∧ Q (.ref D) H) ∨ (J.go i H ∧ ∃ Nx : Hp → Prop, (∀ H', Nx H' → ∃ m', m' < m ∧ Wn (i + 1) m' H') ∧ ∀ x H', J.yld i H x H' → g x (wipe σ vs) H' fun σ2 H2 => wipe σ2 vs = wipe σ vs ∧ tt σ2 H2 fun b H3 =>
    if b = true then tk σ2 H3 fun y H4 => tv σ2 H4 fun z H5 => ∃ H6, NPut P w K H5 D y z H6 ∧ Nx H6 else Nx H3)
theorem pe_dcN {kx vx tg iter : Expr} {ifs : List Expr} {scope : Scope} {own : List (Str × Nat)} {pos : Pos} {wi : TI} {g : TG} {tt : TT} {tk tv : TE} (hu : X.A.units + 9 < cLine) (hc : X.calm = true) (hN : X.N.Nodup) (hi : PI X tg iter wi) (ok : BlkOk X.N X.env.scope scope own)
    (hg : ∀ (s : Shared) (H : Hp) (C : Addr) (cl : List (Str × Addr)) (fp : List Addr), PG (X.blk s H scope (compEnvC scope cl C X.env) fp) tg g) (ht : ∀ (s : Shared) (H : Hp) (C : Addr) (cl : List (Str × Addr)) (fp : List Addr), PTs (X.blk s H scope (compEnvC scope cl C X.env) fp) ifs tt)
    (hk : ∀ (s : Shared) (H : Hp) (C : Addr) (cl : List (Str × Addr)) (fp : List Addr), PE (X.blk s H scope (compEnvC scope cl C X.env) fp) kx tk)
    (he : ∀ (s : Shared) (H : Hp) (C : Addr) (cl : List (Str × Addr)) (fp : List Addr), PE (X.blk s H scope (compEnvC scope cl C X.env) fp) vx tv) (hs : ∀ x, foldedSetIterable iter X.env x = pure x := by intro _; rfl) :
    PE X (.DictComp kx vx [⟨tg, iter, ifs, 0⟩] scope pos) (tDcN X.prog X.w X.K wi g tt tk tv (own.map (·.2))) := by
  refine ⟨fun pins s σ H Q I h => ?_⟩
  rw [arm_eval_DictComp]
  have hfree : ∀ y ∈ scope.names, y.2 = .free → ∃ c, X.env.cells.lookup y.1 = some c := fun y hy e => (ok.free y hy e).elim (fun k => I.ok.has _ (.inl k)) fun k => I.ok.has _ (.inr k)
  refine wpAny_comprehension_free rfl hs (closure_ok hfree) ok.kind (fun y hy e => by rw [ok.uniq y hy, e])
    (thn (hi.run pins s σ H _ I h) fun xv s1 hx => thn hx fun itv s2 ⟨it, fp, tn, J, H2, e, I2, T, st2, f2, q⟩ => ?_)
  subst e
  refine wpAny_newObj_type (newEnv_comp ?_)
  generalize hD : s2.heap.objs.size = D
  have hDn : H2 D = none := I2.hok.fresh (Nat.le_of_eq hD)
  obtain ⟨Wn, ⟨m0, w0⟩, turn⟩ := q D hDn
  -- the dict, new and empty
  generalize hs3 : ({ s2 with heap := s2.heap.push { cls := .type "dict", data := .dict #[] } } : Shared) = s3
  have h3 : s3.heap = s2.heap.push { cls := .type "dict", data := .dict #[] } := by rw [← hs3]
  have I3 : Inv X pins σ (upd H2 D (dctO X.prog X.w D [])) s3 := by
    subst hs3
    refine I2.laid (t' := s2.toks) (fun b o e => Heap.get?_push_of_some _ e) (Nat.le_of_eq hD) ?_
    subst hD
    exact n_empty s2.heap I2.big
  have sz : ∀ b ∈ fp, b < s2.heap.objs.size := fun b hb => let ⟨o, e, _⟩ := T.obj _ _ st2 b hb; Heap.lt_size e
  have f3 : ∀ b ∈ fp, FpOk X pins (upd H2 D (dctO X.prog X.w D [])) b ∧ b < s3.heap.objs.size := fun b hb =>
    ⟨⟨by rw [upd_ne (by rw [← hD]; exact Nat.ne_of_lt (sz b hb))]; exact (f2 b hb).1, (f2 b hb).2⟩, by rw [h3, Heap.size_push]; exact Nat.lt_succ_of_lt (sz b hb)⟩
  have st3 : tn 0 s3.heap := T.keep _ _ _ st2 fun b _ o e => by rw [h3]; exact Heap.get?_push_of_some _ e
  have I4 := block_start I3 ok hN f3
  have pg := hg s3 (upd H2 D (dctO X.prog X.w D [])) s3.heap.objs.size (cellsFrom (s3.heap.objs.size + 1) scope.names (cloFrom X.env.cells scope.names [])) fp
  have pt := ht s3 (upd H2 D (dctO X.prog X.w D [])) s3.heap.objs.size (cellsFrom (s3.heap.objs.size + 1) scope.names (cloFrom X.env.cells scope.names [])) fp
  have pk := hk s3 (upd H2 D (dctO X.prog X.w D [])) s3.heap.objs.size (cellsFrom (s3.heap.objs.size + 1) scope.names (cloFrom X.env.cells scope.names [])) fp
  have pe := he s3 (upd H2 D (dctO X.prog X.w D [])) s3.heap.objs.size (cellsFrom (s3.heap.objs.size + 1) scope.names (cloFrom X.env.cells scope.names [])) fp
  show codeAny _ _ (.compStart (.DictComp kx vx [⟨tg, iter, ifs, 0⟩] scope pos) 0 (.ref it) (.ref D) (compEnvC scope (cellsFrom (s3.heap.objs.size + 1) scope.names (cloFrom X.env.cells scope.names [])) s3.heap.objs.size X.env)) (compPost (model X.prog X.w) X.A X.xe none (EP X pins σ Q) (.ref D) s3.heap.objs.size) { s3 with heap := pushCells (s3.heap.push { cls := .type "dict", data := .dict #[] }) scope.names }
  generalize hR : (compPost (model X.prog X.w) X.A X.xe none (EP X pins σ Q) (.ref D) s3.heap.objs.size) = R
  have nfp : ∀ b ∈ fp, (upd H2 D (dctO X.prog X.w D [])) b = none := fun b hb => (f3 b hb).1.1
  generalize hce : compEnvC scope (cellsFrom (s3.heap.objs.size + 1) scope.names (cloFrom X.env.cells scope.names [])) s3.heap.objs.size X.env = ce at I4 pg pt pk pe ⊢
  have cL : ce.locals = s3.heap.objs.size := by subst hce; rfl
  generalize hH3 : upd H2 D (dctO X.prog X.w D []) = H3 at I3 I4 pg pt pk pe w0 nfp f3
  generalize hs4 : ({ s3 with heap := pushCells (s3.heap.push { cls := .type "dict", data := .dict #[] }) scope.names } : Shared) = s4 at I4 ⊢
  have st4 : tn 0 s4.heap := T.keep _ _ _ st3 fun b _ o e => by rw [← hs4]; exact pushCells_keeps _ _ _ _ (Heap.get?_push_of_some _ e)
  have stat : ∀ {σ' : L2.St} {H' : Hp} {s' : Shared}, Inv (X.blk s3 H3 scope ce fp) [] σ' H' s' → (∀ b ∈ fp, H' b = none) → ∀ b ∈ fp, FpOk (X.blk s3 H3 scope ce fp) [] H' b := fun {σ' H' s'} I' hn b hb =>
    ⟨hn b hb, (I'.ok.exf b hb).1, I'.ok.exfs b hb, .inl hb, fun x c e => (I'.ok.exf b hb).2 x c e, fun p hp => absurd (show p ∈ ([] : List (Addr × Obj)) ++ [] from hp) (by simp)⟩
  have loop : codeAny (model X.prog X.w) X.A (.compLoop (.DictComp kx vx [⟨tg, iter, ifs, 0⟩] scope pos) 0 (.ref it) (.ref D) ce) R s4 := by
    refine compLoop_anyD (fun n s' => ∃ i H', Inv (X.blk s3 H3 scope ce fp) [] (wipe σ (own.map (·.2))) H' s' ∧ tn i s'.heap ∧ (∀ b ∈ fp, H' b = none) ∧ Wn i n H') ?_ m0 ⟨0, H3, I4, st4, nfp, w0⟩
    rintro n s5 ⟨i, H5, I5, st5, n5, w5⟩
    rcases turn i n H5 w5 with ⟨stop, qq⟩ | ⟨go, Nx, hNx, step⟩
    · refine thnF (T.done (X.blk s3 H3 scope ce fp) rfl rfl rfl hc i [] s5 _ H5 (fun _ _ => False) I5 (stat I5 n5) st5 stop) fun r s6 ⟨hr, I6⟩ => ?_
      subst hr
      have I7 : Inv X pins σ H5 s6 := I3.call' (ch := fp) I6.os I6.base I6.hok I6.bare fun b hb => ⟨(f3 b hb).1.2.2.2.1, (f3 b hb).1.2.1, (f3 b hb).1.2.2.2.2.1, (f3 b hb).1.2.2.2.2.2⟩
      have nC : H5 s3.heap.objs.size = none := cL ▸ (show H5 ce.locals = none from I6.free)
      obtain ⟨m, hn, _⟩ := I6.loc
      have hn : s6.heap.Ns ce.locals m := hn
      rw [cL] at hn
      obtain ⟨f0, f1, f2, f3, f4, f5⟩ := I3.fpOk (Nat.le_refl s3.heap.objs.size) nC
      subst hR
      exact ⟨m, hn, fun h'' sb => ⟨.ref D, H5, I7.turned (t' := s6.toks) (fun b o hb e => (sb.2 b hb).trans e) f0 f1 f3 f4 f5, rfl, qq⟩⟩
    · refine thnF (T.item (X.blk s3 H3 scope ce fp) rfl rfl rfl hc i [] s5 _ H5 (fun _ _ => False) I5 (stat I5 n5) st5 go) fun r s6 ⟨u, hr, h6⟩ => ?_
      subst hr
      refine thnF h6 fun _ s7 ⟨x, H7, I7, r7, y7, st7, n7⟩ => ?_
      refine thnF (pg.run _ s7 _ H7 x u _ (I7.pinned (stat I7 n7) (T.obj _ _ st7)) r7 (step x H7 y7)) fun _ s8 ⟨σ8, H8, I8, hw8, q8⟩ => ?_
      refine thnF (pt.run _ s8 σ8 H8 _ I8 q8) fun b s9 ⟨H9, I9, q9⟩ => ?_
      have fin : ∀ {s' : Shared} {H' : Hp}, Inv (X.blk s3 H3 scope ce fp) ([] ++ pinsAt fp s7.heap) σ8 H' s' → Nx H' → ∃ m, m < n ∧ ∃ i H', Inv (X.blk s3 H3 scope ce fp) [] (wipe σ (own.map (·.2))) H' s' ∧ tn i s'.heap ∧ (∀ b ∈ fp, H' b = none) ∧ Wn i m H' := fun {s' H'} I' nx => by
        obtain ⟨m', hm, w'⟩ := hNx H' nx
        have pin' : ∀ b ∈ fp, ∀ o, s7.heap.get? b = some o → s'.heap.get? b = some o ∧ H' b = none := fun b hb o e =>
          let z := I'.pin (b, o) (List.mem_append_right _ (List.mem_append_right _ (mem_pinsAt hb e)))
          ⟨z.1, z.2.1⟩
        have hl : (wipe σ (own.map (·.2))).length = σ8.length := by rw [← hw8, wipe_length]
        exact ⟨m', hm, i + 1, H', (I'.unpinned (pins := [])).weak hl (fun j v e => by rw [← hw8] at e; exact (wipe_some e).1), T.keep _ _ _ st7 fun b hb o e => (pin' b hb o e).1, fun b hb => let ⟨o, e, _⟩ := T.obj _ _ st7 b hb; (pin' b hb o e).2, w'⟩
      cases b with
      | false =>
        simp only [Bool.false_eq_true, if_false] at q9 ⊢
        exact fin I9 q9
      | true =>
        simp only [if_true] at q9 ⊢
        refine thnF (pk.run _ s9 σ8 H9 _ I9 q9) fun z s10 ⟨yk, H10, I10, r10, q10⟩ => thnF (pe.run _ s10 σ8 H10 _ I10 q10) fun z2 s11 ⟨yv, H11, I11, r11, H12, np, nx⟩ => ?_
        exact n_dictSet (X := X.blk s3 H3 scope ce fp) hu I11 np r10 r11 fun s12 I12 => fin I12 nx
  exact codeAny_compStart_dict loop (T.self X.A 0 _ _ _ st4 loop)
end
/-! ### in the reckoner -/
section
variable {G : Glo} {X : Cx} {W' : WX} {pos : Pos}
noncomputable def dcL (n : Nat) (nx : Src) (tg : Tg) (tt : Evt) (tk tv : Evl) (l : Lo) (m : Nat) : Nat → FH → Res W := Nat.rec (motive := fun _ => Nat → FH → Res W) (fun _ _ => .stuck) (fun _ ih i S => match nx i S with
    | none => .stuck
    | some none => .ok (.obj n) S
    | some (some w) => match tg w l S with
      | none => .stuck
      | some l1 => (noX (tt l1 S)).bnd fun b S1 => match b with
        | false => fNat (i + 1) fun i1 => ih i1 S1
        | true => (noX (tk l1 S1)).bnd fun y S2 => (noX (tv l1 S2)).bnd fun z S3 => match S3.get n with
          | some u => match u with
            | .dct kvs => match manyK kvs with
              | true => keyK y (Ev.putK kvs y z fun kvs' => S3.setK n (.dct kvs') fun S4 => fNat (i + 1) fun i1 => ih i1 S4)
              | false => .stuck
            | _ => .stuck
          | none => .stuck) m
theorem dcL_zero {n : Nat} {nx : Src} {tg : Tg} {tt : Evt} {tk tv : Evl} {l : Lo} {i : Nat} {S : FH} : dcL n nx tg tt tk tv l 0 i S = .stuck := rfl
theorem dcL_succ {n : Nat} {nx : Src} {tg : Tg} {tt : Evt} {tk tv : Evl} {l : Lo} {m i : Nat} {S : FH} : dcL n nx tg tt tk tv l (m + 1) i S = match nx i S with
    | none => .stuck
    | some none => .ok (.obj n) S
    | some (some w) => match tg w l S with
      | none => .stuck
      | some l1 => (noX (tt l1 S)).bnd fun b S1 => match b with
        | false => fNat (i + 1) fun i1 => dcL n nx tg tt tk tv l m i1 S1
        | true => (noX (tk l1 S1)).bnd fun y S2 => (noX (tv l1 S2)).bnd fun z S3 => match S3.get n with
          | some u => match u with
            | .dct kvs => match manyK kvs with
              | true => keyK y (Ev.putK kvs y z fun kvs' => S3.setK n (.dct kvs') fun S4 => fNat (i + 1) fun i1 => dcL n nx tg tt tk tv l m i1 S4)
              | false => .stuck
            | _ => .stuck
          | none => .stuck := rfl
noncomputable def evDc (f : Evi) (tg : Tg) (tt : Evt) (tk tv : Evl) (vs : List Nat) : Evl := fun l S => (f l S).bnd fun nx S1 => wipeK l vs fun l1 => newK S1 (.dct []) fun n S2 => dcL n nx tg tt tk tv l1 10000 0 S2
theorem rd_dc {ks vs : List Nat} {f : Evi} {t : Tg} {tt : Evt} {tk tv : Evl} {g : TG} {σ : L2.St} {H : Hp} {Q : VK}
    (kk : ∀ (C : Cf) (l l1 : Lo) (σ : L2.St) (w : W) (v : V) (Q : L2.St → Hp → Prop), C.Ok G → RL G C l σ → RW G.K C.ρ C.H w v → t w l C.S = some l1 → (∀ σ1, RL G C l1 σ1 → Turned ks σ σ1 → Q σ1 C.H) → g v σ C.H Q)
    (hks : ∀ k ∈ ks, k ∈ vs) (h : rdE G W' (evDc f t tt tk tv vs) σ H Q) : tDcN G.P G.w G.K (rdI G W' f) g (rdT G W0 tt) (rdE G W0 tk) (rdE G W0 tv) vs σ H Q := by
  obtain ⟨C, l, e, ok, r, p⟩ := h
  subst e
  unfold evDc at p
  simp only [wipeK_eq, newK_eq] at p
  refine ⟨C, l, rfl, ok, r, Post.mono (fun nx C1 ok1 x1 p1 J hJ D hD => ?_) (Post.bnd (k := fun nx S1 => dcL S1.n nx t tt tk tv (wipeL l vs) 10000 0 (S1.new (.dct []))) p)⟩
  have r1 := (r.mono ok x1).wipe vs
  obtain ⟨okD, xD, hn⟩ := Cf.alloc ok1 hD (ro_dct0 D)
  refine ⟨fun i m H => ∃ (C2 : Cf), C2.H = H ∧ C2.Ok G ∧ Ext C1 C2 ∧ C2.ρ[C1.S.n]? = some D ∧ Post G W' C1 (dcL C1.S.n nx t tt tk tv (wipeL l vs) m i C2.S) (PhE G Q), ⟨10000, ⟨C1.ρ ++ [D], upd C1.H D (dctO G.P G.w D []), C1.S.new (.dct [])⟩, rfl, okD, xD, hn, p1⟩, ?_⟩
  rintro i m H2 ⟨C2, rfl, ok2, x2, hn2, p2⟩
  have hs2 := hJ C2 ok2 x2 i
  cases m with
  | zero => rw [dcL_zero] at p2; exact post_stuck p2
  | succ m =>
    rw [dcL_succ] at p2
    cases q : nx i C2.S with
    | none => simp only [q] at p2; exact post_stuck p2
    | some o =>
      cases o with
      | none =>
        simp only [q] at p2
        refine .inl ⟨hs2.1 q, ?_⟩
        unfold Post at p2
        exact p2 C2 rfl ok2 x2 (.ref D) (by unfold RW; exact ⟨D, rfl, hn2⟩)
      | some w =>
        simp only [q] at p2
        obtain ⟨h1, h2⟩ := hs2.2 w q
        refine .inr ⟨h1, fun H' => ∃ (C2 : Cf), C2.H = H' ∧ C2.Ok G ∧ Ext C1 C2 ∧ C2.ρ[C1.S.n]? = some D ∧ Post G W' C1 (dcL C1.S.n nx t tt tk tv (wipeL l vs) m (i + 1) C2.S) (PhE G Q), fun H' h => ⟨m, Nat.lt_succ_self m, h⟩, fun x H' y => ?_⟩
        obtain ⟨C3, rfl, hS, ok3, x3, rv⟩ := h2 x H' y
        cases q2 : t w (wipeL l vs) C2.S with
        | none => simp only [q2] at p2; exact post_stuck p2
        | some l3 =>
          simp only [q2] at p2
          have rC3 := (r1.mono ok1 x2).mono ok2 x3
          refine kk C3 (wipeL l vs) l3 (wipe σ vs) w x _ ok3 rC3 rv (by rw [hS]; exact q2) fun σ3 r3 tu => ?_
          refine ⟨by rw [turned_wipe tu hks, wipe_wipe], C3, l3, rfl, ok3, r3, ?_⟩
          have pb := Post.base (x2.trans x3) (Post.bnd0 p2)
          rw [hS]
          refine Post.mono (fun b C4 ok4 x4 p4 => ?_) (Post.unX pb)
          unfold PhT
          cases b with
          | false =>
            simp only [fNat_eq] at p4
            refine iteF ⟨C4, rfl, ok4, (x2.trans x3).trans x4, x4.pre _ _ (x3.pre _ _ hn2), p4⟩
          | true =>
            refine iteT ⟨C4, l3, rfl, ok4, r3.mono ok3 x4, ?_⟩
            have x14 := (x2.trans x3).trans x4
            have pb2 := Post.base x14 (Post.bnd0 p4)
            refine Post.mono (fun yw C5 ok5 x5 p5 yv ry => ?_) (Post.unX pb2)
            refine ⟨C5, l3, rfl, ok5, (r3.mono ok3 x4).mono ok4 x5, ?_⟩
            have pb3 := Post.base (x14.trans x5) (Post.bnd0 p5)
            refine Post.mono (fun zw C6 ok6 x6 p6 zv rz => ?_) (Post.unX pb3)
            have hn6 := x6.pre _ _ (x5.pre _ _ (x4.pre _ _ (x3.pre _ _ hn2)))
            cases g1 : C6.S.get C1.S.n with
            | none => simp only [g1] at p6; exact post_stuck p6
            | some u =>
              cases u with
              | dct kvs =>
                simp only [g1] at p6
                cases g2 : manyK kvs with
                | false => simp only [g2] at p6; exact post_stuck p6
                | true =>
                  simp only [g2] at p6
                  have ry6 := ry.mono ok5 x6
                  have p7 := Post.base ((x14.trans x5).trans x6) p6
                  obtain ⟨b, j, rfl, e1, e2, p8⟩ := post_keyK ry6 p7
                  obtain ⟨_, _, _, _, _, p8'⟩ := (show ∃ (b' : Addr) (j' : NestedKey), V.ref b = .ref b' ∧ nkey yw = some j' ∧ j'.depth ≤ 8 ∧ Post G W' C1 (Ev.putK kvs yw zw fun kvs' => C6.S.setK C1.S.n (.dct kvs') fun S4 => fNat (i + 1) fun i1 => dcL C1.S.n nx t tt tk tv (wipeL l vs) m i1 S4) (PhE G Q) from by
                    unfold keyK at p6
                    split at p6
                    · split at p6
                      · exact ⟨b, j, rfl, e1, e2, p6⟩
                      · exact post_stuck p6
                    · exact post_stuck p6)
                  obtain ⟨a, xs, k1, k2, k3⟩ := Cf.dctAt ok6 g1
                  rw [hn6] at k1; cases k1
                  obtain ⟨kvs', z1, z2, z3⟩ := putK_rel e1 e2 ry6 rz (fun kvs' => C6.S.setK C1.S.n (.dct kvs') fun S4 => fNat (i + 1) fun i1 => dcL C1.S.n nx t tt tk tv (wipeL l vs) m i1 S4) k3
                  rw [z1, FH.setK_eq, fNat_eq] at p8'
                  obtain ⟨ok7, x7⟩ := Cf.put (v := .dct kvs') (o := dctO G.P G.w D (putX xs j b zv)) ok6 g1 hn6 ⟨_, rfl, z2⟩
                  refine ⟨_, ⟨xs, j, b, k2, k3.keys, rfl, ⟨C6.ρ, yw, ry6, e1, e2⟩, ?_, rfl⟩, ⟨_, rfl, ok7, ((x14.trans x5).trans x6).trans x7, hn6, p8'⟩⟩
                  have := many_line g2 k3.length
                  omega
              | fdc kvs => simp only [g1] at p6; exact post_stuck p6
              | lst xs => simp only [g1] at p6; exact post_stuck p6
              | cel => simp only [g1] at p6; exact post_stuck p6
              | urn k => simp only [g1] at p6; exact post_stuck p6
              | ins c0 fs0 => simp only [g1] at p6; exact post_stuck p6
              | dki _ => simp only [g1] at p6; exact post_stuck p6
              | sti _ => simp only [g1] at p6; exact post_stuck p6
              | exv _ => simp only [g1] at p6; exact post_stuck p6
theorem se_dc {kx vx tg iter : Expr} {ifs : List Expr} {scope : Scope} {own : List (Str × Nat)} {ks : List Nat} {f : Evi} {t : Tg} {tt : Evt} {tk tv : Evl} (hx : Okx G X) (hN : X.N.Nodup) (hi : SI G X W' f tg iter) (ok : BlkOk X.N X.env.scope scope own)
    {g : TG} (kk : ∀ (C : Cf) (l l1 : Lo) (σ : L2.St) (w : W) (v : V) (Q : L2.St → Hp → Prop), C.Ok G → RL G C l σ → RW G.K C.ρ C.H w v → t w l C.S = some l1 → (∀ σ1, RL G C l1 σ1 → Turned ks σ σ1 → Q σ1 C.H) → g v σ C.H Q)
    (hks : ∀ k ∈ ks, k ∈ own.map (·.2))
    (hg : ∀ (s : Shared) (H : Hp) (C : Addr) (cl : List (Str × Addr)) (fp : List Addr), PG (X.blk s H scope (compEnvC scope cl C X.env) fp) tg g)
    (ht : ∀ (s : Shared) (H : Hp) (C : Addr) (cl : List (Str × Addr)) (fp : List Addr), STs G (X.blk s H scope (compEnvC scope cl C X.env) fp) W0 tt ifs)
    (hk : ∀ (s : Shared) (H : Hp) (C : Addr) (cl : List (Str × Addr)) (fp : List Addr), SE G (X.blk s H scope (compEnvC scope cl C X.env) fp) W0 tk kx)
    (he : ∀ (s : Shared) (H : Hp) (C : Addr) (cl : List (Str × Addr)) (fp : List Addr), SE G (X.blk s H scope (compEnvC scope cl C X.env) fp) W0 tv vx)
    (hs : ∀ x, foldedSetIterable iter X.env x = pure x := by intro _; rfl) : SE G X W' (evDc f t tt tk tv (own.map (·.2))) (.DictComp kx vx [⟨tg, iter, ifs, 0⟩] scope pos) :=
  pe_imp (pe_dcN (by have := hx.un; omega) hx.calm hN hi ok hg ht hk he hs) fun σ H Q h => by
    have := rd_dc kk hks h
    rw [hx.pr, hx.wo, hx.k]
    exact this
end
end Ev

namespace Ev
open PySem PySem.Spec PyProof.Rows L2
open PySem.W (alike alikeAll dataLt AllAlike Sortable EachIs TotalLe sameRank dataLe)
/-! ## sorting -/
section
variable {β : Type} {le : β → β → Bool}
def insG (le : β → β → Bool) (x : β) : List β → List β
  | [] => [x]
  | y :: r => match le x y with
    | true => x :: y :: r
    | false => y :: insG le x r
def isortG (le : β → β → Bool) : List β → List β
  | [] => []
  | x :: r => insG le x (isortG le r)
theorem mem_insG {x z : β} : ∀ {ys : List β}, z ∈ insG le x ys → z = x ∨ z ∈ ys
  | [], h => by simpa [insG] using h
  | y :: r, h => by
    unfold insG at h
    split at h
    · rcases List.mem_cons.mp h with h | h
      · exact .inl h
      · exact .inr h
    · rcases List.mem_cons.mp h with h | h
      · exact .inr (List.mem_cons.mpr (.inl h))
      · rcases mem_insG h with h | h
        · exact .inl h
        · exact .inr (List.mem_cons_of_mem _ h)
theorem mem_isortG {z : β} : ∀ {ys : List β}, z ∈ isortG le ys → z ∈ ys
  | [], h => h
  | y :: r, h => by
    rcases mem_insG h with h | h
    · exact List.mem_cons.mpr (.inl h)
    · exact List.mem_cons_of_mem _ (mem_isortG h)
theorem pw_insG (t : TotalLe le) {x : β} : ∀ {ys : List β}, ys.Pairwise (fun a b => le a b = true) → (insG le x ys).Pairwise (fun a b => le a b = true)
  | [], _ => by simp [insG]
  | y :: r, h => by
    have h' := List.pairwise_cons.mp h
    unfold insG
    split
    · rename_i e
      refine List.pairwise_cons.mpr ⟨fun z hz => ?_, h⟩
      rcases List.mem_cons.mp hz with rfl | hz
      · exact e
      · exact t.trans _ _ _ e (h'.1 z hz)
    · rename_i e
      refine List.pairwise_cons.mpr ⟨fun z hz => ?_, pw_insG t h'.2⟩
      rcases mem_insG hz with rfl | hz
      · rcases t.total y z with q | q
        · exact q
        · rw [q] at e; cases e
      · exact h'.1 z hz
theorem pw_isortG (t : TotalLe le) : ∀ ys : List β, (isortG le ys).Pairwise (fun a b => le a b = true)
  | [] => List.Pairwise.nil
  | y :: r => pw_insG t (pw_isortG t r)
theorem fl_insG (t : TotalLe le) (c : β) {x : β} : ∀ ys : List β, (insG le x ys).filter (sameRank le c) = (x :: ys).filter (sameRank le c)
  | [] => rfl
  | y :: r => by
    unfold insG
    split
    · rfl
    · rename_i e
      rw [List.filter_cons, fl_insG t c r, List.filter_cons, List.filter_cons, List.filter_cons]
      cases q1 : sameRank le c x with
      | false => simp
      | true =>
        cases q2 : sameRank le c y with
        | false => simp
        | true =>
          unfold sameRank at q1 q2
          rw [Bool.and_eq_true] at q1 q2
          have := t.trans _ _ _ q1.2 q2.1
          rw [this] at e
          cases e
theorem fl_isortG (t : TotalLe le) (c : β) : ∀ ys : List β, (isortG le ys).filter (sameRank le c) = ys.filter (sameRank le c)
  | [] => rfl
  | y :: r => by
    show (insG le y (isortG le r)).filter _ = _
    rw [fl_insG t c, List.filter_cons, List.filter_cons, fl_isortG t c r]
theorem isortG_eq (t : TotalLe le) (l : List β) : isortG le l = l.mergeSort le := PySem.W.sort_unique t (pw_isortG t l) fun c => fl_isortG t c l
theorem insG_congr {le2 : β → β → Bool} {x : β} : ∀ {ys : List β}, (∀ y ∈ ys, le x y = le2 x y) → insG le x ys = insG le2 x ys
  | [], _ => rfl
  | y :: r, h => by
    unfold insG
    rw [h y (List.mem_cons_self), insG_congr fun z hz => h z (List.mem_cons_of_mem _ hz)]
theorem isortG_congr {le2 : β → β → Bool} : ∀ {ys : List β}, (∀ x ∈ ys, ∀ y ∈ ys, le x y = le2 x y) → isortG le ys = isortG le2 ys
  | [], _ => rfl
  | y :: r, h => by
    show insG le y (isortG le r) = insG le2 y (isortG le2 r)
    rw [isortG_congr fun a ha b hb => h a (List.mem_cons_of_mem _ ha) b (List.mem_cons_of_mem _ hb)]
    exact insG_congr fun z hz => h y (List.mem_cons_self) z (List.mem_cons_of_mem _ (mem_isortG hz))
end
/-! the order of data, quickly -/
noncomputable def ltAllF (ih : PyData → PyData → Bool) : List PyData → List PyData → Bool := List.rec (motive := fun _ => List PyData → Bool) (fun ys => match ys with
  | [] => false
  | _ :: _ => true) (fun x _ r ys => match ys with
  | [] => false
  | y :: t => match eqF 50 x y with
    | true => r t
    | false => ih x y)
noncomputable def ltF (n : Nat) : PyData → PyData → Bool := Nat.rec (motive := fun _ => PyData → PyData → Bool) (fun _ _ => false) (fun _ ih d e => match d with
  | .int i => match e with
    | .int j => iLt i j
    | _ => false
  | .tuple xs => match e with
    | .tuple ys => ltAllF ih xs ys
    | _ => false
  | _ => false) n
noncomputable def alAllF (ih : PyData → PyData → Bool) : List PyData → List PyData → Bool := List.rec (motive := fun _ => List PyData → Bool) (fun _ => true) (fun x _ r ys => match ys with
  | [] => true
  | y :: t => match ih x y with
    | true => r t
    | false => false)
noncomputable def alF (n : Nat) : PyData → PyData → Bool := Nat.rec (motive := fun _ => PyData → PyData → Bool) (fun _ _ => false) (fun _ ih d e => match d with
  | .int i => match e with
    | .int j => true
    | _ => false
  | .tuple xs => match e with
    | .tuple ys => alAllF ih xs ys
    | _ => false
  | _ => false) n
theorem alAllF_of {ih : PyData → PyData → Bool} (hi : ∀ d e, ih d e = true → alike d e = true) : ∀ {xs ys : List PyData}, alAllF ih xs ys = true → alikeAll xs ys = true
  | [], ys, _ => by cases ys <;> simp [alikeAll]
  | x :: xs, [], _ => by simp [alikeAll]
  | x :: xs, y :: ys, h => by
    have h' : (match ih x y with | true => alAllF ih xs ys | false => false) = true := h
    cases q : ih x y with
    | false => rw [q] at h'; cases h'
    | true =>
      rw [q] at h'
      unfold alikeAll
      rw [hi x y q, alAllF_of hi h']
      rfl
theorem alF_of : ∀ (n : Nat) (d e : PyData), alF n d e = true → alike d e = true
  | 0, _, _, h => by cases h
  | n + 1, d, e, h => by
    cases d <;> cases e <;> first
      | (cases (show false = true from h))
      | (simp [alike]; done)
      | (unfold alike; exact alAllF_of (fun d e => alF_of n d e) h)
theorem ltAllF_eq {ih : PyData → PyData → Bool} {al : PyData → PyData → Bool} (ha : ∀ d e, al d e = true → alike d e = true) (hi : ∀ d e, d.depth < 50 → al d e = true → ih d e = dataLt d e) : ∀ {xs ys : List PyData}, PyData.depthAll xs < 50 → alAllF al xs ys = true → ltAllF ih xs ys = PyProof.Rows.lexLt itemOrd (PySem.W.keyToksAll xs) (PySem.W.keyToksAll ys)
  | [], [], _, _ => (lex_irrefl _).symm
  | [], y :: ys, _, _ => by
    show true = _
    unfold PySem.W.keyToksAll
    simp [PyProof.Rows.lexLt, itemLt]
  | x :: xs, [], _, _ => by
    show false = _
    unfold PySem.W.keyToksAll
    simp [PyProof.Rows.lexLt, itemLt]
  | x :: xs, y :: ys, hd, h => by
    have h' : (match al x y with | true => alAllF al xs ys | false => false) = true := h
    unfold PyData.depthAll at hd
    cases q : al x y with
    | false => rw [q] at h'; cases h'
    | true =>
      rw [q] at h'
      rw [PySem.W.dataLt_cons (ha x y q)]
      show (match eqF 50 x y with | true => ltAllF ih xs ys | false => ih x y) = _
      rw [eqF_eq 50 x y (by omega), ltAllF_eq ha hi (by omega) h', hi x y (by omega) q]
      cases PyData.eqv x y <;> rfl
theorem ltF_eq : ∀ (n : Nat) (d e : PyData), d.depth < 50 → alF n d e = true → ltF n d e = dataLt d e
  | 0, _, _, _, h => by cases h
  | n + 1, d, e, hd, h => by
    cases d <;> cases e <;> first
      | (cases (show false = true from h))
      | (rw [PySem.W.dataLt_int, ← iLt_eq]; rfl)
      | (rw [PySem.W.dataLt_tuple]
         rename_i xs ys
         unfold PyData.depth at hd
         exact ltAllF_eq (al := alF n) (fun d e => alF_of n d e) (fun d e => ltF_eq n d e) (by omega) h)
end Ev

namespace Ev
open PySem PySem.Spec PyProof.Rows L2
open PySem.W (alike alikeAll dataLt AllAlike Sortable EachIs TotalLe sameRank dataLe)
/-! ## sorted(..) -/
section
variable {X : Cx} {pins : List (Addr × Obj)} {σ : L2.St} {H : Hp} {s : Shared} {E : Value → Shared → Prop}
abbrev srtV (xs : List V) (ds : List PyData) : List V := ((xs.zip ds).mergeSort (dataLe false Prod.snd)).map Prod.fst
theorem each_zip (I : Inv X pins σ H s) : ∀ {xs : List V} {acc : List Value} {ds : List PyData}, Vals xs acc → DpAll X.K H xs ds →
    EachIs (fun v (b : V × PyData) => RelV b.1 v) acc (xs.zip ds) ∧ EachIs (fun v (b : V × PyData) => ∃ as, Reads s.heap v b.2 as) acc (xs.zip ds) ∧ (xs.zip ds).map Prod.snd = ds
  | [], _, _, r, d => by
    cases r
    cases d
    exact ⟨.nil, .nil, rfl⟩
  | x :: xs, _, _, r, d => by
    cases r with
    | cons r1 r2 =>
      cases d with
      | cons d1 d2 =>
        obtain ⟨h1, h2, h3⟩ := each_zip I r2 d2
        exact ⟨.cons r1 h1, .cons (Dp.reads I _ _ _ d1 r1) h2, by rw [List.zip_cons_cons, List.map_cons, h3]⟩
theorem each_vals : ∀ {out : List Value} {bs : List (V × PyData)}, EachIs (fun v (b : V × PyData) => RelV b.1 v) out bs → Vals (bs.map Prod.fst) out
  | _, _, .nil => .nil
  | _, _, .cons h r => .cons h (each_vals r)
theorem srt_tail (I : Inv X pins σ H s) {xs : List V} {acc : List Value} {ds : List PyData} {Q : VK} (rv : Vals xs acc) (hd : DpAll X.K H xs ds) (hal : AllAlike ds) (hk : Sortable ds) (hL : xs.length ≤ sizeLine) (hu : ∀ d, d ∈ ds → X.A.units + 2 + d.depth < cLine)
    (q : ∀ p, H p = none → Q (.ref p) (upd H p (.lst (srtV xs ds)))) :
    wpAny (model X.prog X.w) X.A.in1 (call (.builtin "list.sort") [.ref s.heap.objs.size]) (fun _ s' => EP X pins σ Q (.ref s.heap.objs.size) s') E { s with heap := s.heap.push (seqObj "list" acc.toArray 0) } := by
  obtain ⟨e1, e2, e3⟩ := each_zip I rv hd
  have hob : (s.heap.push (seqObj "list" acc.toArray 0)).get? s.heap.objs.size = some (seqObj "list" acc.toArray 0) := Heap.get?_push_size _ rfl
  have ll : (xs.zip ds).length = xs.length := by
    have := e1.length
    have := rv.length
    omega
  refine PySem.W.list_sort_data (s := { s with heap := s.heap.push (seqObj "list" acc.toArray 0) }) (enc := Prod.snd) (R := fun v (b : V × PyData) => RelV b.1 v) hob e1 (e2.mono fun v b ⟨as, r⟩ => ⟨as, PyProof.Rows.Reads.keeps (fun _ _ z => Heap.get?_push_of_some _ z) r, fun hm => by
    obtain ⟨o, ho⟩ := PyProof.On.reads_mem_get r _ hm
    exact absurd (Heap.lt_size ho) (Nat.lt_irrefl _)⟩) (by rw [e3]; exact hal) (by rw [e3]; exact hk) (by omega) (fun b hb => ?_) fun out h1 h2 => ?_
  · show X.A.units + 1 + 1 + _ < cLine
    have : b.2 ∈ ds := by rw [← e3]; exact List.mem_map.mpr ⟨b, hb, rfl⟩
    have := hu _ this
    omega
  · obtain ⟨e', he'⟩ := PyProof.Rows.sortedHeap_at (vs := acc) (out := out.toArray) hob
    have hlen : (srtV xs ds).length ≤ sizeLine := by
      rw [List.length_map, List.length_mergeSort]
      omega
    refine ⟨.ref s.heap.objs.size, upd H s.heap.objs.size (.lst (srtV xs ds)), I.laid (t' := s.toks) (fun b u e => ?_) (Nat.le_refl _) ⟨hlen, out, e', each_vals h2, he'⟩, rfl, q _ (I.hok.fresh (Nat.le_refl _))⟩
    have hb : b < s.heap.objs.size := Heap.lt_size e
    rw [PyProof.Rows.sortedHeap_old (Nat.ne_of_lt hb) (by rw [size_push']; exact Nat.lt_succ_of_lt hb)]
    exact Heap.get?_push_of_some _ e
theorem sorted_by {r : Value} {Q : Value → Shared → Prop} (h : wpAny (model X.prog X.w) X.A.in1 (collect r) (fun acc s1 => acc.length ≤ sizeLine ∧ wpAny (model X.prog X.w) X.A.in1 (call (.builtin "list.sort") [.ref s1.heap.objs.size]) (fun _ s' => Q (.ref s1.heap.objs.size) s') E { s1 with heap := s1.heap.push (seqObj "list" acc.toArray 0) }) E s) :
    wpAny (model X.prog X.w) X.A (call (.builtin "sorted") [r]) Q E s := by
  refine Calls.call_function_entry PyProof.Rows.kind_sorted PyProof.Rows.plain_sorted PyProof.Rows.entry_sorted (PyProof.Rows.args_sorted1 _) ?_
  unfold Builtin.«sorted»
  refine wpAny_bind (m := checkCount "sorted" 1 1 _) (wpAny_pure ?_)
  refine wpAny_bind (wpAny_mono h (fun acc s1 ⟨hz, hg⟩ => ?_) fun _ _ e => e)
  refine wpAny_bind (wpAny_newList ?_ hz)
  refine wpAny_bind (wpAny_holding (wpAny_mono hg (fun _ s' x => ?_) fun _ _ e => e))
  exact wpAny_pure ⟨_, rfl, x⟩
theorem vals_atN : ∀ (xs : List V) (vs : List Value), vs.length = xs.length → (∀ (j : Nat) (v : Value), vs[j]? = some v → ∃ x : V, xs[j]? = some x ∧ RelV x v) → Vals xs vs
  | [], [], _, _ => .nil
  | x :: xs, v :: vs, hl, h => by
    obtain ⟨y, e, r⟩ := h 0 v rfl
    cases (Option.some.inj e : x = y)
    exact .cons r (vals_atN xs vs (by simpa using hl) fun j u e => by
      obtain ⟨z, e1, e2⟩ := h (j + 1) u (by simpa using e)
      exact ⟨z, by simpa using e1, e2⟩)
  | [], _ :: _, hl, _ => by simp at hl
  | _ :: _, [], hl, _ => by simp at hl
/-- what is sorted -/
def SrtOk (K : PySem.W.Frag) (H : Hp) (xs : List V) (ds : List PyData) : Prop := DpAll K H xs ds ∧ AllAlike ds ∧ Sortable ds ∧ xs.length ≤ sizeLine ∧ ∀ d, d ∈ ds → d.depth ≤ 41
/-- a list, a tuple, a dict (its keys) -/
def rSortA (P : Program) (w : World) (K : PySem.W.Frag) : List V → Hp → VK → Prop := fun vs H Q => ∃ (a : Addr) (xs : List V) (ds : List PyData), vs = [.ref a] ∧ SrtOk K H xs ds ∧ (SqL K H a xs ∨ SqT K H a xs ∨ ∃ ks : List (NestedKey × Addr × V), Rd H a (dctO P w a ks) ∧ KeysOk K H ks ∧ xs = ks.map fun x => V.ref x.2.1) ∧
  ∀ p, H p = none → Q (.ref p) (upd H p (.lst (srtV xs ds)))
theorem cr_sortA (hc : X.calm = true) (hu : X.A.units + 65 < cLine) : CallR X (.builtin "sorted") (rSortA X.prog X.w X.K) := by
  intro pins s σ H vs us Q I r h
  obtain ⟨a, xs, ds, rfl, ⟨d1, d2, d3, d4, d5⟩, src, q⟩ := h
  rw [Vals.ref1 r]
  have hu' : ∀ d, d ∈ ds → X.A.units + 2 + d.depth < cLine := fun d hd => by
    have := d5 d hd
    omega
  refine sorted_by ?_
  rcases src with hq | hq | ⟨ks, rd, hk, rfl⟩
  · obtain ⟨its, rv, p, hz⟩ := I.list hq
    obtain ⟨o, n, ho, hc', hd', hdat⟩ := p
    refine wpAny_collect_seq (hsz := by simpa [rv.length] using d4) a (.inl rfl) ho hc' hdat fun h' k => ?_
    have I1 : Inv X pins σ H { s with heap := h' } := I.kept (t' := s.toks) k
    exact ⟨by simpa [rv.length] using d4, srt_tail I1 (by simpa using rv) d1 d2 d3 d4 hu' q⟩
  · obtain ⟨its, rv, p, hz⟩ := I.tuple hq
    obtain ⟨o, ho, hc', n, hdat⟩ := p
    refine wpAny_collect_seq (hsz := by simpa [rv.length] using d4) a (.inr rfl) ho hc' hdat fun h' k => ?_
    have I1 : Inv X pins σ H { s with heap := h' } := I.kept (t' := s.toks) k
    exact ⟨by simpa [rv.length] using d4, srt_tail I1 (by simpa using rv) d1 d2 d3 d4 hu' q⟩
  · obtain ⟨lo, hz, ys, rel, dd⟩ := dct_at I rd hk
    obtain ⟨o, es, ep, h1, h2, h3, h4, _, nd⟩ := dd
    have hs : es.size = ys.length := size_of_entries h4
    have hl : ks.length = ys.length := Paired.length rel
    refine PySem.W.kdu_collect (A := X.A.in1) (KdlSrc.rawDict (es := es) (ep := ep) lo) (I.ok.hd hc) ⟨o, h1, h2, h3⟩ (by omega) fun h' tk acc k hacc => ?_
    have I1 : Inv X pins σ H { s with heap := h', toks := tk } := I.kept k
    have la : acc.toList.length = ks.length := by rw [Array.length_toList, hacc.1]; omega
    have rv : Vals (ks.map fun x => V.ref x.2.1) acc.toList := by
      refine vals_atN _ _ (by rw [List.length_map]; omega) fun j v e => ?_
      obtain ⟨hi, e2⟩ := hacc.2 j v (by rw [← Array.getElem?_toList]; exact e)
      have hj : j < ks.length := by omega
      obtain ⟨y, hy, r1, r2, r3⟩ := paired_get rel (List.getElem?_eq_getElem hj)
      have q2 := entry_at h4 j
      rw [hy, Array.getElem?_eq_getElem hi] at q2
      have q3 := Option.some.inj q2
      refine ⟨V.ref ks[j].2.1, by rw [List.getElem?_map, List.getElem?_eq_getElem hj]; rfl, ?_⟩
      rw [e2, q3, r2]
      rfl
    refine ⟨by rw [la]; rw [List.length_map] at d4; exact d4, ?_⟩
    exact srt_tail I1 rv d1 d2 d3 d4 hu' q
end
end Ev

namespace Ev
open PySem PySem.Spec PyProof.Rows L2
open PySem.W (alike alikeAll dataLt AllAlike Sortable EachIs TotalLe sameRank dataLe)
/-! ## sorted(..), in the reckoner -/
noncomputable def leD {α : Type} (a b : α × PyData) : Bool := !(ltF 45 b.2 a.2)
noncomputable def insK {α : Type} (x : W × PyData) (ys : List (W × PyData)) (k : List (W × PyData) → α) : α := List.rec (motive := fun _ => (List (W × PyData) → α) → α) (fun k => k [x]) (fun y r ih k => match leD x y with
  | true => k (x :: y :: r)
  | false => ih fun r' => k (y :: r')) ys k
theorem insK_eq {α : Type} {x : W × PyData} : ∀ (ys : List (W × PyData)) (k : List (W × PyData) → α), insK x ys k = k (insG leD x ys)
  | [], k => rfl
  | y :: r, k => by
    show (match leD x y with | true => k (x :: y :: r) | false => insK x r fun r' => k (y :: r')) = _
    unfold insG
    cases leD x y with
    | true => rfl
    | false => exact insK_eq r _
noncomputable def sortK {α : Type} (xs : List (W × PyData)) (k : List (W × PyData) → α) : α := List.rec (motive := fun _ => (List (W × PyData) → α) → α) (fun k => k []) (fun x _ ih k => ih fun ys => insK x ys k) xs k
theorem sortK_eq {α : Type} : ∀ (xs : List (W × PyData)) (k : List (W × PyData) → α), sortK xs k = k (isortG leD xs)
  | [], k => rfl
  | x :: xs, k => by
    show sortK xs (fun ys => insK x ys k) = _
    rw [sortK_eq xs, insK_eq]
    rfl
noncomputable def fstK {α : Type} (ps : List (W × PyData)) (k : List W → α) : α := List.rec (motive := fun _ => (List W → α) → α) (fun k => k []) (fun p _ ih k => ih fun r => k (p.1 :: r)) ps k
theorem fstK_eq {α : Type} : ∀ (ps : List (W × PyData)) (k : List W → α), fstK ps k = k (ps.map Prod.fst)
  | [], k => rfl
  | p :: r, k => fstK_eq r _
noncomputable def zipF (ws : List W) : List PyData → List (W × PyData) := List.rec (motive := fun _ => List PyData → List (W × PyData)) (fun _ => []) (fun w _ ih ds => match ds with
  | [] => []
  | d :: r => (w, d) :: ih r) ws
theorem zipF_eq : ∀ (ws : List W) (ds : List PyData), zipF ws ds = ws.zip ds
  | [], ds => by cases ds <;> rfl
  | w :: ws, [] => rfl
  | w :: ws, d :: ds => by
    show (w, d) :: zipF ws ds = _
    rw [zipF_eq ws ds]
    rfl
noncomputable def alOne (d : PyData) (es : List PyData) : Bool := List.rec (motive := fun _ => Bool) true (fun e _ ih => match alF 45 d e with
  | true => ih
  | false => false) es
noncomputable def alTwo (ds es : List PyData) : Bool := List.rec (motive := fun _ => Bool) true (fun d _ ih => match alOne d es with
  | true => ih
  | false => false) ds
theorem alOne_of {d : PyData} : ∀ {es : List PyData}, alOne d es = true → ∀ e, e ∈ es → alF 45 d e = true
  | [], _, e, h => by cases h
  | x :: es, h, e, he => by
    have h' : (match alF 45 d x with | true => alOne d es | false => false) = true := h
    cases q : alF 45 d x with
    | false => rw [q] at h'; cases h'
    | true =>
      rw [q] at h'
      rcases List.mem_cons.mp he with rfl | he
      · exact q
      · exact alOne_of h' e he
theorem alTwo_of {es : List PyData} : ∀ {ds : List PyData}, alTwo ds es = true → ∀ d, d ∈ ds → ∀ e, e ∈ es → alF 45 d e = true
  | [], _, d, h, e, he => by cases h
  | x :: ds, h, d, hd, e, he => by
    have h' : (match alOne x es with | true => alTwo ds es | false => false) = true := h
    cases q : alOne x es with
    | false => rw [q] at h'; cases h'
    | true =>
      rw [q] at h'
      rcases List.mem_cons.mp hd with rfl | hd
      · exact alOne_of q e he
      · exact alTwo_of h' d hd e he
def isTp (d : PyData) : Bool := match d with
  | .tuple xs => match xs with
    | [] => false
    | _ :: _ => true
  | _ => false
def isIn (d : PyData) : Bool := match d with
  | .int _ => true
  | _ => false
noncomputable def allP (f : PyData → Bool) (ds : List PyData) : Bool := List.rec (motive := fun _ => Bool) true (fun d _ ih => match f d with
  | true => ih
  | false => false) ds
theorem allP_of {f : PyData → Bool} : ∀ {ds : List PyData}, allP f ds = true → ∀ d, d ∈ ds → f d = true
  | [], _, d, h => by cases h
  | x :: ds, h, d, hd => by
    have h' : (match f x with | true => allP f ds | false => false) = true := h
    cases q : f x with
    | false => rw [q] at h'; cases h'
    | true =>
      rw [q] at h'
      rcases List.mem_cons.mp hd with rfl | hd
      · exact q
      · exact allP_of h' d hd
noncomputable def okSrt (ds : List PyData) : Bool := match alTwo ds ds with
  | true => match allP isIn ds with
    | true => true
    | false => allP isTp ds
  | false => false
theorem okSrt_of {ds : List PyData} (h : okSrt ds = true) : (∀ d, d ∈ ds → ∀ e, e ∈ ds → alF 45 d e = true) ∧ AllAlike ds ∧ Sortable ds := by
  unfold okSrt at h
  cases q : alTwo ds ds with
  | false => rw [q] at h; cases h
  | true =>
    rw [q] at h
    have al := alTwo_of q
    refine ⟨al, fun d hd e he => alF_of 45 d e (al d hd e he), ?_⟩
    cases q2 : allP isIn ds with
    | true =>
      refine .inr fun d hd => ?_
      have := allP_of q2 d hd
      cases d with
      | int i => exact ⟨PyData.noConfusion, fun xs => PyData.noConfusion⟩
      | _ => cases this
    | false =>
      rw [q2] at h
      refine .inl fun d hd => ?_
      have := allP_of h d hd
      cases d with
      | tuple xs =>
        cases xs with
        | nil => cases this
        | cons x r => exact ⟨x, r, rfl⟩
      | _ => cases this
noncomputable def sortWK {α : Type} (ws : List W) (S : FH) (k : List W → Res α) : Res α := match short ws with
  | true => match allD (toD S 40) ws with
    | some ds => match okSrt ds with
      | true => sortK (zipF ws ds) fun ps => fstK ps k
      | false => .stuck
    | none => .stuck
  | false => .stuck
section
variable {G : Glo} {X : Cx} {W' : WX} {pos : Pos}
abbrev PR (K : PySem.W.Frag) (ρ : List Addr) (H : Hp) : List (W × PyData) → List (V × PyData) → Prop := Paired fun p q => RW K ρ H p.1 q.1 ∧ p.2 = q.2
theorem pr_zip {K : PySem.W.Frag} {ρ : List Addr} {H : Hp} : ∀ {ws : List W} {vs : List V} (ds : List PyData), RWs K ρ H ws vs → PR K ρ H (ws.zip ds) (vs.zip ds)
  | [], vs, ds, h => by
    unfold RWs at h
    subst h
    cases ds <;> exact .nil
  | w :: ws, vs, [], h => by
    unfold RWs at h
    obtain ⟨v, r, rfl, h1, h2⟩ := h
    exact .nil
  | w :: ws, vs, d :: ds, h => by
    unfold RWs at h
    obtain ⟨v, r, rfl, h1, h2⟩ := h
    exact .cons ⟨h1, rfl⟩ (pr_zip ds h2)
theorem pr_ins {K : PySem.W.Frag} {ρ : List Addr} {H : Hp} {x : W × PyData} {y : V × PyData} (h : RW K ρ H x.1 y.1 ∧ x.2 = y.2) : ∀ {xs : List (W × PyData)} {ys : List (V × PyData)}, PR K ρ H xs ys → PR K ρ H (insG leD x xs) (insG leD y ys)
  | _, _, .nil => .cons h .nil
  | _, _, .cons (a := a) (b := b) h1 r => by
    unfold insG
    have e : leD x a = leD y b := by unfold leD; rw [h.2, h1.2]
    rw [e]
    cases leD y b with
    | true => exact .cons h (.cons h1 r)
    | false => exact .cons h1 (pr_ins h r)
theorem pr_sort {K : PySem.W.Frag} {ρ : List Addr} {H : Hp} : ∀ {xs : List (W × PyData)} {ys : List (V × PyData)}, PR K ρ H xs ys → PR K ρ H (isortG leD xs) (isortG leD ys)
  | _, _, .nil => .nil
  | _, _, .cons h r => pr_ins h (pr_sort r)
theorem pr_fst {K : PySem.W.Frag} {ρ : List Addr} {H : Hp} : ∀ {xs : List (W × PyData)} {ys : List (V × PyData)}, PR K ρ H xs ys → RWs K ρ H (xs.map Prod.fst) (ys.map Prod.fst)
  | _, _, .nil => .nil
  | _, _, .cons h r => .cons h.1 (pr_fst r)
theorem leD_data {ds : List PyData} (al : ∀ d, d ∈ ds → ∀ e, e ∈ ds → alF 45 d e = true) (hd : ∀ d, d ∈ ds → d.depth < 50) {bs : List (V × PyData)} (hb : ∀ b, b ∈ bs → b.2 ∈ ds) : isortG leD bs = bs.mergeSort (dataLe false Prod.snd) := by
  have t : TotalLe (dataLe false (Prod.snd : V × PyData → PyData)) := PySem.W.sortLe_total _ _ _
  rw [← isortG_eq t]
  refine isortG_congr fun x hx y hy => ?_
  rw [PySem.W.dataLe_eq]
  show leD x y = !dataLt y.2 x.2
  unfold leD
  rw [ltF_eq 45 y.2 x.2 (hd _ (hb y hy)) (al _ (hb y hy) _ (hb x hx))]
theorem depthAll_mem : ∀ {ds : List PyData} {n : Nat}, PyData.depthAll ds ≤ n → ∀ d, d ∈ ds → d.depth ≤ n
  | [], n, _, d, h => by cases h
  | x :: ds, n, h, d, hd => by
    unfold PyData.depthAll at h
    rcases List.mem_cons.mp hd with rfl | hd
    · omega
    · exact depthAll_mem (by omega) d hd
theorem post_sortWK {α : Type} {C : Cf} (ok : C.Ok G) {ws : List W} {xs : List V} (r : RWs G.K C.ρ C.H ws xs) {k : List W → Res α} {Φ : α → Cf → Prop} (p : Post G W' C (sortWK ws C.S k) Φ) :
    ∃ ds zs, SrtOk G.K C.H xs ds ∧ RWs G.K C.ρ C.H zs (srtV xs ds) ∧ Post G W' C (k zs) Φ := by
  unfold sortWK at p
  cases q0 : short ws with
  | false => simp only [q0] at p; exact post_stuck p
  | true =>
    simp only [q0] at p
    cases q : allD (toD C.S 40) ws with
    | none => simp only [q] at p; exact post_stuck p
    | some ds =>
      simp only [q] at p
      cases q2 : okSrt ds with
      | false => simp only [q2] at p; exact post_stuck p
      | true =>
        simp only [q2, sortK_eq, fstK_eq, zipF_eq] at p
        obtain ⟨h1, h2, h3⟩ := allD_of (toD_of ok 40) q
        obtain ⟨al, a1, a2⟩ := okSrt_of q2
        have dp := h1 xs r
        have hd : ∀ d, d ∈ ds → d.depth ≤ 40 := depthAll_mem h3
        refine ⟨ds, _, ⟨dp, a1, a2, by rw [r.length]; exact short_line q0, fun d hm => by have := hd d hm; omega⟩, ?_, p⟩
        have e := leD_data al (fun d hm => by have := hd d hm; omega) (bs := xs.zip ds) fun b hb => (List.of_mem_zip hb).2
        unfold srtV
        rw [← e]
        exact pr_fst (pr_sort (pr_zip ds r))
noncomputable def srcW {α : Type} (w : W) (S : FH) (k : List W → Res α) : Res α := match w with
  | .tup xs => k xs
  | .obj n => match S.get n with
    | some v => match v with
      | .lst xs => k xs
      | .dct kvs => k (keysOf kvs)
      | .fdc kvs => k (keysOf kvs)
      | _ => .stuck
    | none => .stuck
  | _ => .stuck
theorem keysOf_rws {K : PySem.W.Frag} {ρ : List Addr} {H : Hp} : ∀ {kvs : List (W × W)} {ks : List (NestedKey × Addr × V)}, KVs K ρ H kvs ks → RWs K ρ H (keysOf kvs) (ks.map fun x => V.ref x.2.1)
  | [], ks, h => by cases (show ks = [] from h); exact .nil
  | p :: r, ks, h => by
    obtain ⟨k, b, v, ys', rfl, h1, h2, h3, h4⟩ := h
    exact .cons h2 (keysOf_rws h4)
theorem post_srcW {α : Type} {C : Cf} (ok : C.Ok G) {w : W} {x : V} (r : RW G.K C.ρ C.H w x) {k : List W → Res α} {Φ : α → Cf → Prop} (p : Post G W' C (srcW w C.S k) Φ) :
    ∃ a ws xs, x = .ref a ∧ RWs G.K C.ρ C.H ws xs ∧ (SqL G.K C.H a xs ∨ SqT G.K C.H a xs ∨ ∃ ks : List (NestedKey × Addr × V), Rd C.H a (dctO G.P G.w a ks) ∧ KeysOk G.K C.H ks ∧ xs = ks.map fun x => V.ref x.2.1) ∧ Post G W' C (k ws) Φ := by
  unfold srcW at p
  cases w with
  | k u => exact post_stuck p
  | tup xs =>
    unfold RW at r
    obtain ⟨a, vs, rfl, h1, h2⟩ := r
    exact ⟨a, xs, vs, rfl, h2, .inr (.inl h1), p⟩
  | mix _ => (first | exact post_stuck (by assumption) | exact .inl (by assumption) | (exfalso; contradiction) | (unfold nkey at *; contradiction) | (unfold RW at *; simp_all; done) | (simp_all; done))
  | pt _ => (first | exact post_stuck (by assumption) | exact .inl (by assumption) | (exfalso; contradiction) | (unfold nkey at *; contradiction) | (unfold RW at *; simp_all; done) | (simp_all; done))
  | obj n =>
    unfold RW at r
    obtain ⟨a, rfl, h1⟩ := r
    cases q : C.S.get n with
    | none => simp only [q] at p; exact post_stuck p
    | some v =>
      cases v with
      | lst xs =>
        simp only [q] at p
        obtain ⟨a', vs, h2, h3, h4⟩ := Cf.lstAt ok q
        rw [h1] at h2; cases h2
        exact ⟨a, xs, vs, rfl, h4, .inl (SqL.of h3), p⟩
      | dct kvs =>
        simp only [q] at p
        obtain ⟨a', xs, h2, h3, h4⟩ := Cf.dctAt ok q
        rw [h1] at h2; cases h2
        exact ⟨a, _, _, rfl, keysOf_rws h4, .inr (.inr ⟨xs, .inl h3, h4.keys, rfl⟩), p⟩
      | fdc kvs =>
        simp only [q] at p
        obtain ⟨a', od, xs, h2, h3, h4⟩ := Cf.fdcAt ok q
        rw [h1] at h2; cases h2
        exact ⟨a, _, _, rfl, keysOf_rws h4, .inr (.inr ⟨xs, .inr ⟨od, h3⟩, h4.keys, rfl⟩), p⟩
      | cel => simp only [q] at p; exact post_stuck p
      | urn k => simp only [q] at p; exact post_stuck p
      | ins c0 fs0 => simp only [q] at p; exact post_stuck p
      | dki _ => simp only [q] at p; exact post_stuck p
      | sti _ => simp only [q] at p; exact post_stuck p
      | exv _ => simp only [q] at p; exact post_stuck p
noncomputable def cSorted : Opn := fun ws S => one ws fun w => srcW w S fun xs => sortWK xs S fun zs => newK S (.lst zs) fun n S1 => .ok (.obj n) S1
theorem cx_sorted (hx : Okx G X) : CallX G X (.builtin "sorted") cSorted := ⟨rSortA G.P G.w G.K, by rw [← hx.pr, ← hx.wo, ← hx.k]; exact cr_sortA hx.calm hx.un, fun W' C ws vs Q ok rv p => by
  obtain ⟨w, v, rfl, r1, p⟩ := post_one rv p
  obtain ⟨a, us, xs, rfl, r2, src, p⟩ := post_srcW ok r1 p
  obtain ⟨ds, zs, so, r3, p⟩ := post_sortWK ok r2 p
  rw [newK_eq] at p
  exact ⟨a, xs, ds, rfl, so, src, post_newL ok p r3⟩⟩
end
end Ev

namespace Ev
open PySem PySem.Spec PyProof.Rows L2
open PySem.W (alike alikeAll dataLt AllAlike Sortable EachIs TotalLe sameRank dataLe)
/-! ## sorted(d.items()) -/
section
variable {X : Cx}
end
/-! ### in the reckoner -/
section
variable {G : Glo} {X : Cx} {W' : WX} {pos : Pos}
end
end Ev

namespace Ev
open PySem PySem.Spec PyProof.Rows L2
theorem takes0 {X : Cx} : Takes X W0 := fun u s' ⟨a, B, sI, pins, σ, H, cls, d, e, I, nb, up, sky, na, os, ag, w⟩ => w.elim
/-! ## [e for x in a for y in b] -/
section
variable {G : Glo} {X : Cx} {W' : WX} {pos : Pos}
end
end Ev

namespace Ev
open PySem PySem.Spec PyProof.Rows L2
open PySem.W (alike alikeAll dataLt)
/-! ## sum, max of one, < of tuples -/
section
variable {G : Glo} {X : Cx} {W' : WX} {pos : Pos}
def rSum1 (K : PySem.W.Frag) : List V → Hp → VK → Prop := fun vs H Q => ∃ (a : Addr) (ns : List Int), vs = [V.ref a] ∧ (SqT K H a (ns.map V.int) ∨ SqL K H a (ns.map V.int)) ∧ Q (.int ns.sum) H
theorem cr_sum1 (hc : X.calm = true) : CallR X (.builtin "sum") (rSum1 X.K) := by
  intro pins s σ H vs us Q I r h
  obtain ⟨a, ns, rfl, hs, q⟩ := h
  rcases hs with hs | hs
  · rw [Vals.ref1 r]
    obtain ⟨its, rv, hl, _⟩ := I.tuple hs
    have hi := rv.ints
    obtain ⟨xs, hx⟩ := hi.allInts.items
    have hn : numsOf its.toArray.toList = ns := by rw [show its.toArray.toList = its from rfl, hi.numsOf]
    have hl' : s.heap.IsTuple a its.toArray := hl
    rw [hx] at hl' hn
    rw [nums_intItems] at hn
    refine PySem.W.ktm_sumG (I.ok.hd hc) hl' fun h' tk t' hk => ?_
    rw [preSum_eq, List.take_of_length_le (by simp), hn]
    exact ⟨.int _, H, I.kept hk, ⟨_, rfl⟩, q⟩
  · exact cr_sum hc pins s σ H _ us Q I r ⟨a, ns, rfl, hs, q⟩
noncomputable def sumI (ns : List Int) : Int := List.rec (motive := fun _ => Int) 0 (fun n _ ih => Int.add n ih) ns
theorem sumI_eq : ∀ ns : List Int, sumI ns = ns.sum
  | [] => rfl
  | n :: ns => by
    show n + sumI ns = _
    rw [sumI_eq ns, List.sum_cons]
noncomputable def cSum : Opn := fun ws S => one ws fun w => match w with
  | .tup xs => kintsL xs fun ns => okI (sumI ns) S
  | .obj i => kobj i S fun xs => kintsL xs fun ns => okI (sumI ns) S
  | _ => .stuck
theorem cx_sum (hx : Okx G X) : CallX G X (.builtin "sum") cSum := ⟨rSum1 G.K, by rw [← hx.k]; exact cr_sum1 hx.calm, fun W' C ws vs Q ok rv p => by
  obtain ⟨w, v, rfl, r, p⟩ := post_one rv p
  cases w with
  | k u => exact post_stuck p
  | tup xs =>
    unfold RW at r
    obtain ⟨a, us, rfl, h1, h2⟩ := r
    obtain ⟨ns, e, p2⟩ := post_kintsL p
    subst e
    rw [rws_ints h2] at h1
    exact ⟨a, ns, rfl, .inl h1, by rw [← sumI_eq]; exact post_okI ok p2⟩
  | mix _ => (first | exact post_stuck (by assumption) | exact .inl (by assumption) | (exfalso; contradiction) | (unfold nkey at *; contradiction) | (unfold RW at *; simp_all; done) | (simp_all; done))
  | pt _ => (first | exact post_stuck (by assumption) | exact .inl (by assumption) | (exfalso; contradiction) | (unfold nkey at *; contradiction) | (unfold RW at *; simp_all; done) | (simp_all; done))
  | obj i =>
    obtain ⟨xs, a, us, _, h1, h2, h3, p⟩ := post_kobj ok p
    unfold RW at r
    obtain ⟨a', rfl, e⟩ := r
    rw [h1] at e; cases e
    obtain ⟨ns, e, p2⟩ := post_kintsL p
    subst e
    rw [rws_ints h3] at h2
    exact ⟨a, ns, rfl, .inr (SqL.of h2), by rw [← sumI_eq]; exact post_okI ok p2⟩⟩
/-! max of one list or tuple of ints -/
/-! < -/
def rLtD (K : PySem.W.Frag) : R2 := fun x y H Q => ∃ d e, Dp K H x d ∧ Dp K H y e ∧ alike d e = true ∧ d ≠ .none ∧ d.depth ≤ 40 ∧ Q (.bl (dataLt d e)) H
theorem op_ltD (hu : X.A.units + 65 < cLine) : OpR X (compareOp .Lt) (rLtD X.K) := by
  intro pins s σ H x y v u Q I rx ry h
  obtain ⟨d, e, h1, h2, h3, h4, h5, q⟩ := h
  obtain ⟨as, r1⟩ := Dp.reads I d x v h1 rx
  obtain ⟨bs, r2⟩ := Dp.reads I e y u h2 ry
  exact PySem.W.lt_data r1 r2 h3 h4 (by have := Nat.min_le_left d.depth e.depth; omega) ⟨.bl _, H, I, rfl, q⟩
noncomputable def gLt2 : Op2 := fun a b S => match a with
  | .tup _ => datK a S fun d => datK b S fun e => match alF 45 d e with
    | true => fBool (ltF 45 d e) fun r => .ok (.k (.bl r)) S
    | false => .stuck
  | _ => gLt a b S
theorem ox_lt2 (hx : Okx G X) : OpX G X (compareOp .Lt) gLt2 := by
  obtain ⟨r, o1, s1⟩ := (ox_lt : OpX G X (compareOp .Lt) gLt)
  refine ⟨fun x y H Q => r x y H Q ∨ rLtD G.K x y H Q, opr_or o1 (by rw [← hx.k]; exact op_ltD hx.un), fun W' C a b x y Q ok ra rb p => ?_⟩
  cases a with
  | k u => exact .inl (s1 W' C _ b x y Q ok ra rb p)
  | mix _ => (first | exact post_stuck (by assumption) | exact .inl (by assumption) | (exfalso; contradiction) | (unfold nkey at *; contradiction) | (unfold RW at *; simp_all; done) | (simp_all; done))
  | pt _ => (first | exact post_stuck (by assumption) | exact .inl (by assumption) | (exfalso; contradiction) | (unfold nkey at *; contradiction) | (unfold RW at *; simp_all; done) | (simp_all; done))
  | obj i => exact .inl (s1 W' C _ b x y Q ok ra rb p)
  | tup xs =>
    right
    have p' : Post G W' C (datK (.tup xs) C.S fun d => datK b C.S fun e => match alF 45 d e with
      | true => fBool (ltF 45 d e) fun r => .ok (.k (.bl r)) C.S
      | false => .stuck) (PhE G Q) := p
    obtain ⟨d, h1, h2, _, h3, p2⟩ := post_dat ok ra p'
    obtain ⟨e, h4, h5, _, h6, p3⟩ := post_dat ok rb p2
    cases q : alF 45 d e with
    | false => simp only [q] at p3; exact post_stuck p3
    | true =>
      simp only [q, fBool_eq] at p3
      refine ⟨d, e, h1, h4, alF_of 45 d e q, fun z => ?_, h3, ?_⟩
      · subst z
        cases e <;> cases q
      · rw [← ltF_eq 45 d e (by omega) q]
        exact Post.now ok p3 _ mk_k
end
end Ev

/-! an own error's class with __init__(self, f): self.f = f -/
namespace PySem
namespace OwnX
open PySem.W PySem.Calls PyProof.Rows PySem.HandSPX
def iA (p1 p2 : Pos) (f : Str) : Arguments := { posonlyargs := [], args := [{ arg := "self", annotation := none, pos := p1 }, { arg := f, annotation := none, pos := p2 }], vararg := none, kwonlyargs := [], kw_defaults := [], kwarg := none, defaults := [] }
def iB (q1 q2 q3 q4 : Pos) (f : Str) : List Stmt := [.Assign [.Attribute (.Name "self" q1) f q2] (.Name f q3) q4]
def iS (f : Str) : Scope := { kind := .function, names := [(PySem.Str.ofString "self", .local), (f, .local)], isGenerator := false, isCoroutine := false, more := [] }
/-- what the written part says of the class at C and of its __init__, at fI -/
structure OwnTxt (K : Frag) (C fI : Addr) (qn f : Str) (B newId initId : String) (bmB : List Value) : Prop where
  nm : f = "place" ∨ f = "line"
  fb : ExcBaseFacts B newId initId bmB
  sf : StoreFacts B bmB "object.__setattr__" "object"
  cls : ∃ nm q N bs bm sn sub ab col dd k0 k1 k2 k3 k5, K.lookup C = some (excClassObj nm q C N bs bm true sn sub ab col dd k0 k1 k2 k3 k5 newId) ∧ PySem.W.excTail bmB bm = true
  sa : findIn K (.ref C) "__setattr__" = some (some (.builtin "object.__setattr__"))
  ga : findIn K (.ref C) "__getattribute__" = some (some (.builtin "BaseException.__getattribute__"))
  gg : findIn K (.ref C) "__getattr__" = some none
  noN : findIn K (.ref C) f = some none
  iC : findIn K (.ref C) "__init__" = some (some (.ref fI))
  tC : typeIn K (.ref fI) = some (.type "function")
  exC : subIn K (.ref C) (.type "BaseException") = some true
  tyC : typeIn K (.ref C) = some (.type "type")
  hdC : hasDictIn K C = true
  fn : ∃ (oc : Value) (od : Option Addr) (doc pm : Value) (an : Option Addr) (cdv ct : Value) (osl : Array (Option Value)) (p1 p2 q1 q2 q3 q4 : Pos),
    K.lookup fI = some ⟨oc, od, .func (fnOf "__init__" qn (iA p1 p2 f) (iB q1 q2 q3 q4 f) (iS f) .none .none doc pm an cdv ct), osl⟩ ∧ codeIn K cdv qn = true
structure InitEnd (h h' : Heap) (x C dx t1 : Addr) (f : Str) (v : Value) : Prop where
  keep : ∀ b o, b ≠ x → h.get? b = some o → h'.get? b = some o
  obj : h'.get? x = some { cls := .ref C, dict := some dx, data := .fields #[.ref t1, .none, .none, .none, .bool false, .none] }
  dbig : h.objs.size ≤ dx
  dne : dx ≠ x
  ns : h'.Ns1 dx (fun y => if y = f then some v else none)
structure OwnMade (h h' : Heap) (e C d : Addr) (f : Str) (v : Value) : Prop where
  keep : ∀ b o, h.get? b = some o → h'.get? b = some o
  new : h.objs.size ≤ e
  obj : ∃ oe vs, h'.get? e = some oe ∧ oe.cls = .ref C ∧ oe.dict = some d ∧ oe.data = .fields vs ∧ vs[1]? = some .none
  dbig : h.objs.size ≤ d
  dne : d ≠ e
  ns : h'.Ns1 d (fun y => if y = f then some v else none)
section
variable {prog : Program} {w : World} {A : Around} {E : Value → Shared → Prop} {R : Result → Shared → Prop} {hp : Heap} {g : Array GenState} {d : Drawn} {t : Nat} {os : OsState} {K : Frag} {B : String} {bmB : List Value}
end
section
variable {prog : Program} {w : World} {A : Around} {E : Value → Shared → Prop} {R : Result → Shared → Prop} {s : Shared} {K : Frag} {C fI : Addr} {qn f : Str} {B newId initId : String} {bmB : List Value}
theorem OwnTxt.over (T : OwnTxt K C fI qn f B newId initId bmB) : PySem.W.excOver K C bmB = true := by
  obtain ⟨nm, q, N, bs, bm, sn, sub, ab, col, dd, k0, k1, k2, k3, k5, hC, hbm⟩ := T.cls
  have hcl : clsIn K C = some { name := nm, bases := bs, mro := .ref C :: bm, ns := N, qualname := q, hasDict := true, slotNames := sn, subclasses := sub, abstract := ab, collection := col, hasDel := false } := by unfold clsIn; rw [hC] <;> rfl
  unfold PySem.W.excOver
  rw [hcl]
  show (C == C && PySem.W.excTail bmB bm) = true
  rw [hbm]; simp
end
end OwnX
end PySem
namespace L2
open PySem PySem.Spec PyProof.Rows
section
variable {X : Cx} {C fI : Addr} {qn f : Str} {B newId initId : String} {bmB : List Value}
end
end L2
namespace PySem.W
open PySem PySem.Spec PySem.Calls PyProof.Rows
section
variable {prog : Program} {w : World} {A : Around} {E : Value → Shared → Prop} {s : Shared} {K : Frag} {x D : Addr} {ox : Obj} {od : Option Obj}
theorem findObj_dataP {C : Addr} {name : Str} {a g : Value} (hc : (clsIn K C).isSome = true) (ha : findIn K (.ref C) name = some (some a)) (hg : specialIn K a "__get__" = some (some g)) (ht : takesIn K a = some true) : findObj K C od name = some (.bind g a) := by
  obtain ⟨cd, hc⟩ := Option.isSome_iff_exists.mp hc
  unfold findObj
  rw [hc, Option.bind_some, ha, Option.bind_some]
  simp [hg, ht]
theorem kin_classP {Q : Option Value → Shared → Prop} (hga : findIn K (.ref D) "__getattribute__" = some (some (.builtin "BaseException.__getattribute__"))) (hgt : findIn K (.ref D) "__getattr__" = some none) (hsub : subIn K (.ref D) (.type "BaseException") = some true)
    (hdct : hasDictIn K D = true) (ha : findIn K (.ref D) "__class__" = some (some (.builtin "object.__class__")))
    (hn : specialIn K (.builtin "object.__class__") "__get__" = some (some (.builtin "getset_descriptor.__get__"))) (htk : takesIn K (.builtin "object.__class__") = some true) (hm : mroIn K D (.type "object") = some true)
    (X : K.In s.heap) (I : InstAt s.heap x ox D od) (h : Q (some (.ref D)) { s with toks := s.toks + 1 }) : wpAny (model prog w) A (getAttr? (.ref x) "__class__") Q E s := by
  have hf : findObj K D od "__class__" = some (.bind (.builtin "getset_descriptor.__get__") (.builtin "object.__class__")) := findObj_dataP (by obtain ⟨cd, hc, _⟩ := any_some hdct; rw [hc]; rfl) ha hn htk
  obtain ⟨hp, g, d, t, os⟩ := s
  have L0 := I.type (M := model prog w)
  have L1 := looks_findIn (M := model prog w) X hga
  have L2 := looks_findIn (M := model prog w) X hgt
  have L3 := looks_find (M := model prog w) X I hf
  have sub : Looks (model prog w) hp (isInstance (.ref x) (.type "BaseException")) true := L0.andThen (looks_subIn X hsub)
  have hx0 : (false && onTheHeap (Value.builtin "BaseException.__getattribute__")) = false := rfl
  have hx2 : (Value.builtin "BaseException.__getattribute__" == Value.builtin "object.__getattribute__") = false := by decide +kernel
  have hx1 : (onTheHeap (Value.ref D) && Value.builtin "BaseException.__getattribute__" == Value.builtin "object.__getattribute__") = false := by rw [hx2]; rfl
  unfold getAttr? getAttrBy? getAttrBy
  refine wpAny_bind (wpAny_mkText (wpAny_bind (wpAny_attempt (wpAny_holding (wpAny_bind (L0.at (wpAny_bind (L1.at ?_))))))))
  show wpAny _ _ (if (onTheHeap (Value.ref D) && Value.builtin "BaseException.__getattribute__" == Value.builtin "object.__getattribute__") = true then _ else _) _ _ _
  rw [hx1, if_neg Bool.false_ne_true]
  unfold getAttrByItsOwn hookBefore
  refine wpAny_bind ?_
  rw [if_pos (show onTheHeap (Value.ref D) = true from rfl)]
  refine L2.at ?_
  refine wpAny_bind (wpAny_attempt (wpAny_holding ?_))
  unfold callGetattribute
  rw [hx0, if_neg Bool.false_ne_true]
  unfold boundAndCalled
  rw [PySem.F.excAttr_ValueError.ga.bind (.ref x)]
  refine wpAny_bind (wpAny_pure ?_)
  show wpAny _ _ (call (.builtin "BaseException.__getattribute__") [.ref x, .str "__class__" t]) _ _ _
  refine wpAny_call (codeAny_call_builtin PySem.F.excAttr_ValueError.ga.plain PySem.F.entry_bexc_ga ?_)
  refine @check_slot (model prog w) _ _ ⟨hp, g, d, t + 1, os⟩ "BaseException.__getattribute__" "BaseException" "__getattribute__" (.ref x) [.str "__class__" t] [] _ (by decide +kernel) (by decide +kernel) sub (PySem.F.args_bexc_ga (.ref x) (.str "__class__" t)) ?_
  unfold Builtin.«object.__getattribute__»
  refine wpAny_bind (wpAny_of_eq (a := ((Value.ref x : Value), [Value.str "__class__" t])) (by first | rfl | (simp only [slotArgs]; rfl)) ?_)
  refine wpAny_bind (wpAny_pure (wpAny_bind (L0.at (wpAny_bind (L3.at ?_)))))
  show wpAny _ _ (holding [Value.builtin "object.__class__"] (call (.builtin "getset_descriptor.__get__") [.builtin "object.__class__", .ref x, .ref D]) >>= ret) _ _ _
  refine wpAny_bind (wpAny_holding (wpAny_call (class_get (s := ⟨hp, g, d, t + 1, os⟩) (ox := ox) (od := od) X I hm ?_)))
  refine wpAny_pure ?_
  show wpAny _ _ (handedOut (.ref D)) _ _ _
  rw [handedOut_of (v := .ref D) rfl]
  first
    | exact wpAny_pure (wpAny_pure h)
    | exact wpAny_pure h
    | exact wpAny_pure (wpAny_bind (wpAny_pure (wpAny_pure h)))
theorem handS_kitx_excP (hga : findIn K (.ref D) "__getattribute__" = some (some (.builtin "BaseException.__getattribute__"))) (hgt : findIn K (.ref D) "__getattr__" = some none) (hsub : subIn K (.ref D) (.type "BaseException") = some true) (hdct : hasDictIn K D = true) (ha : findIn K (.ref D) "__class__" = some (some (.builtin "object.__class__")))
    (hn : specialIn K (.builtin "object.__class__") "__get__" = some (some (.builtin "getset_descriptor.__get__"))) (htk : takesIn K (.builtin "object.__class__") = some true) (hm : mroIn K D (.type "object") = some true) :
    KitX K (.ref x) (.ref D) (fun h => InstAt h x ox D od) where
  ty := fun _ _ _ I => I.type
  it := fun _ _ X _ => by
    obtain ⟨cdD, hcD, _⟩ := any_some hdct
    unfold clsIn at hcD
    split at hcD
    · rename_i c' d' cd' sl' ho
      intro A' Q' E' s' k q
      unfold isType loadHead
      exact wpAny_bind (wpAny_loadPart (k _ _ (X _ _ ho)) (wpAny_pure q))
    · cases hcD
  ne := fun h tp dd its n sl X htp => by
    obtain ⟨cdD, hcD, _⟩ := any_some hdct
    refine Bool.eq_false_iff.mpr fun q => ?_
    have e : D = tp := Value.ref.inj (beq_iff_eq.mp q)
    subst e
    unfold clsIn at hcD
    split at hcD
    · rename_i c' d' cd' sl' ho
      have z := (X _ _ ho).symm.trans htp
      cases z
    · cases hcD
  ca := fun X I k => kin_classP hga hgt hsub hdct ha hn htk hm X I k
end
end PySem.W

namespace L2
open PySem PySem.Spec PyProof.Rows
/-- isinstance(error, c), whether it holds a dict or none -/
theorem call_isP {X : Cx} {a D : Addr} {oe : Obj} {pn : List (Addr × Obj)} {σ0 : St} {d : Option Addr} (C : ExcC X.K D) (hz : Zc (.ref D) d oe) (hf : ∃ vs, oe.data = .fields vs) : CallR (X.suite a ((a, oe) :: pn)) (.builtin "isinstance")
    (fun xs H Q => ∃ (c : V) (cv : Value) (b : Bool), xs = [.ref a, c] ∧ (∀ u, RelV c u → u = cv) ∧ PySem.W.kitOne X.K (.ref D) cv = some b ∧ (∀ dd, d = some dd → ∃ f v, H dd = some (.xd [(f, v)])) ∧ Q (.bl b) H) := by
  intro pins s σ H xs us Q I r h
  obtain ⟨c, cv, b, rfl, hcv, e, hdd, q⟩ := h
  cases r with
  | cons rx rr =>
    cases rr with
    | cons rt rr =>
      cases rr
      cases rx
      have ec := hcv _ rt
      subst ec
      obtain ⟨hget, _⟩ := I.pin (a, oe) (List.mem_append.mpr (.inl List.mem_cons_self))
      obtain ⟨vs, hv⟩ := hf
      have J : ∃ od, PySem.W.InstAt s.heap a oe D od := by
        cases d with
        | none =>
          refine ⟨none, ?_⟩
          obtain ⟨oc, od, oda, osl⟩ := oe
          obtain ⟨h1, h2⟩ := hz
          dsimp only at h1 h2 hv
          subst h1 h2 hv
          exact ⟨hget, rfl, rfl, trivial⟩
        | some dd =>
          obtain ⟨f, v, ea⟩ := hdd dd rfl
          have hx : ObjOk X.prog X.w H s.heap dd (.xd [(f, v)]) := I.hok dd _ ea
          obtain ⟨mA, hns, hr⟩ := hx
          obtain ⟨od, ho, hl⟩ := lookIn_ns hns
          exact ⟨some od, hget, hz.1, by unfold PySem.W.notCls; rw [hv] <;> rfl, by rw [hz.2]; exact ho⟩
      obtain ⟨od, J⟩ := J
      exact PySem.W.kia_one (PySem.W.handS_kitx_excP C.hg C.hk C.hs C.hd C.ha C.hn C.ht C.hm) I.kIn J e (fun z => nomatch z) fun tk => ⟨.bl b, H, I.kept (t' := tk) fun _ _ z => z, rfl, q⟩
end L2
namespace Ev
open PySem PySem.Spec PyProof.Rows L2
/-- an own error's class with a payload, by its number -/
structure ExcP (G : Glo) (mg : Str → Option Value) (c : Nat) (x f : Str) : Prop where
  fl : G.cfl c = some f
  mg : mg x = some (.ref (G.cad c))
  q : ∃ fI qn B newId initId bmB, PySem.OwnX.OwnTxt G.K (G.cad c) fI qn f B newId initId bmB
  kp : PySem.W.keepIn G.K (.ref (G.cad c)) = true
section
variable {G : Glo} {X : Cx} {W' : WX} {pos : Pos}
/-! ### readings in a suite -/
theorem sxe_isP {i c : Nat} {b : Bool} {n : Str} {ce : Expr} {cv : V} {u : Value} {p np : Pos} (hx : Okx G X) (EC : ExcC G.K (G.cad c)) (hn : ∀ (a : Addr) (pn : List (Addr × Obj)), PE (X.suite a pn) (.Name n np) (tVar i)) (hce : ∀ (a : Addr) (pn : List (Addr × Obj)), PE (X.suite a pn) ce (tC cv)) (hcv : ∀ w, RelV cv w → w = u)
    (hk : PySem.W.kitOne G.K (.ref (G.cad c)) u = some b) (hg : Gl X "isinstance") (hm : X.mg "isinstance" = none)
    (he1 : starEach [.Name n np, ce] X.env = (false, eval (.Name n np) X.env) :: starEach [ce] X.env := by rfl) (he2 : starEach [ce] X.env = (false, eval ce X.env) :: starEach [] X.env := by rfl) (hpl : (backTo pos (starEach [ce] X.env)).any (·.1) = false := by rfl) :
    SXE G X (some i) c (fun _ => evK (.bl b)) (.Call (.Name "isinstance" p) [.Name n np, ce] [] pos) := fun a oe d pn hz hf => by
  refine ⟨fun pins s σ H Q I ⟨h0, C, l, x, e, ok, r, rx, q⟩ => ?_⟩
  subst e
  refine (pe_callB (pos := pos) (p := p) (call_isP (X := X) (σ0 := σ) (pn := pn) (by rw [hx.k]; exact EC) hz hf) hg hm PyProof.Rows.boot_isinstance (pa_cons (hn a _) (pa_cons (hce a _) pa_nil he2) he1) (by decide) (by decide) he1 hpl).run pins s σ C.H Q I ?_
  refine ⟨.ref a, h0 i rfl, cv, u, b, rfl, hcv, by rw [hx.k]; exact hk, fun dd ed => ?_, (Post.now (W' := W0) ok q) (.bl b) mk_k⟩
  have z := rx.2
  cases y : G.cfl c with
  | none => rw [y] at z; rw [z] at ed; cases ed
  | some f =>
    rw [y] at z
    obtain ⟨d', v, e1, e2, e3⟩ := z
    rw [e1] at ed; cases ed
    exact ⟨f, v, e2⟩
def SXA (G : Glo) (X : Cx) (i : Option Nat) (c : Nat) (f : W → Eva) (es : List Expr) : Prop := ∀ (a : Addr) (oe : Obj) (d : Option Addr) (pn : List (Addr × Obj)), Zc (.ref (G.cad c)) d oe → (∃ vs, oe.data = .fields vs) → PA (X.suite a ((a, oe) :: pn)) es
  (fun σ H Q => (∀ j, i = some j → σ[j]? = some (some (.ref a))) ∧ ∃ (C : Cf) (l : Lo) (x : W), C.H = H ∧ C.Ok G ∧ RL G C l σ ∧ RX G C c x (.ref (G.cad c)) d ∧ Post G W0 C (f x l C.S) (PhA G Q))
theorem sxa_nil {i : Option Nat} {c : Nat} : SXA G X i c (fun _ => eaNil) [] := fun a oe d pn hz hf => pa_imp pa_nil fun σ H Q ⟨_, C, l, x, e, ok, r, _, p⟩ => by
  subst e
  exact (Post.now ok p) [] .nil
theorem sxa_cons {i : Option Nat} {c : Nat} {f : W → Evl} {g : W → Eva} {e : Expr} {es : List Expr} (h1 : SXE G X i c f e) (h2 : SXA G X i c g es) (hs : starEach (e :: es) X.env = (false, eval e X.env) :: starEach es X.env := by rfl) : SXA G X i c (fun x => eaCons (f x) (g x)) (e :: es) := fun a oe d pn hz hf =>
  pa_imp (pa_cons (h1 a oe d pn hz hf) (h2 a oe d pn hz hf) hs) fun σ H Q ⟨h0, C, l, x, e, ok, r, rx, p⟩ => by
    subst e
    refine ⟨h0, C, l, x, rfl, ok, r, rx, Post.mono (fun w C1 ok1 x1 p1 v rv => ?_) (Post.bnd p)⟩
    refine ⟨h0, C1, l, x, rfl, ok1, r.mono ok x1, rx.mono ok x1, Post.mono (fun ws C2 ok2 x2 p2 vs rvs => ?_) (Post.bnd p1)⟩
    exact (Post.now ok2 p2) (v :: vs) (.cons (rv.mono ok1 x2) rvs)
theorem sxe_lst {i : Option Nat} {c : Nat} {f : W → Eva} {es : List Expr} (h : SXA G X i c f es) : SXE G X i c (fun x => evLst (f x)) (.List es pos) := fun a oe d pn hz hf => pe_imp (pe_lst (h a oe d pn hz hf)) fun σ H Q ⟨h0, C, l, x, e, ok, r, rx, p⟩ => by
  subst e
  refine ⟨h0, C, l, x, rfl, ok, r, rx, Post.mono (fun ws C1 ok1 x1 p1 vs rvs => ?_) (Post.bnd p)⟩
  cases hs : short ws with
  | false => simp only [hs] at p1; unfold Post at p1; exact p1.elim
  | true =>
    simp only [hs, newK_eq] at p1
    exact ⟨by rw [rvs.length]; exact short_line hs, post_newL (vs := vs) ok1 p1 rvs⟩
end
end Ev

namespace PySem
open PySem.W
section
variable {prog : Program} {w : World} {A : Around} {E : Value → Shared → Prop} {s : Shared}
end
end PySem
namespace Ev
open PySem PySem.Spec PyProof.Rows L2
open PySem.W (alike alikeAll dataLt)
section
variable {G : Glo} {X : Cx} {W' : WX} {pos : Pos}
end
end Ev

namespace Ev
open PySem PySem.Spec PyProof.Rows L2
/-! ## len(set(a)), a a list of tuples of ints -/
section
variable {X : Cx}
end
section
variable {G : Glo} {X : Cx} {W' : WX} {pos : Pos}
end
end Ev

namespace PySem
section
variable {prog : Program} {w : World} {A : Around} {E : Value → Shared → Prop} {s : Shared} {z TI TO T i1 i2 : Addr} {fp1 fp2 : List Addr} {n1 n2 i : Nat} {P1 P2 : Nat → Value → Prop} {St1 St2 : Nat → Heap → Prop} {f : Bool} {oT : Obj}
end
section
variable {prog : Program} {w : World}
end
end PySem
namespace Ev
open PySem PySem.Spec PyProof.Rows L2
section
variable {X : Cx} {pins : List (Addr × Obj)} {σ : L2.St} {H : Hp} {s : Shared}
end
section
variable {X : Cx} {pos : Pos}
end
open PySem PySem.Spec PyProof.Rows L2
section
variable {G : Glo} {X : Cx} {W' : WX} {pos : Pos}
noncomputable def seqWK {α : Type} (w : W) (S : FH) (k : List W → Res α) : Res α := match w with
  | .tup xs => k xs
  | .obj i => kobj i S k
  | _ => .stuck
end
end Ev

namespace L2
open PySem PySem.Spec PyProof.Rows
end L2
namespace Ev
open PySem PySem.Spec PyProof.Rows L2
section
variable {G : Glo} {X : Cx} {W' : WX} {pos : Pos}
/-! ### (*a, b) -/
/-! ### texts -/
/-! ### f'..' -/
inductive SJ (G : Glo) (X : Cx) (W' : WX) : List Evl → List Expr → Prop
  | nil : SJ G X W' [] []
  | cons {f : Evl} {fs : List Evl} {e : Expr} {es : List Expr} (h : SE G X W' f e) (r : SJ G X W' fs es) : SJ G X W' (f :: fs) (e :: es)
/-! ### suites: not, and, isinstance of several -/
/-! ### a call whose value is reckoned once -/
mutual
def beqX : W → W → Bool
  | .k (.int a), .k (.int b) => iEq a b
  | .k (.bl a), .k (.bl b) => match a with
    | true => b
    | false => !b
  | .k .non, .k .non => true
  | .tup xs, .tup ys => beqXs xs ys
  | _, _ => false
def beqXs : List W → List W → Bool
  | [], [] => true
  | x :: xs, y :: ys => match beqX x y with
    | true => beqXs xs ys
    | false => false
  | _, _ => false
end
mutual
theorem beqX_eq : ∀ a b : W, beqX a b = true → a = b
  | .k (.int a), .k (.int b), h => by
    unfold beqX at h
    rw [iEq_eq] at h
    rw [of_decide_eq_true h]
  | .tup xs, .tup ys, h => by
    unfold beqX at h
    rw [beqXs_eq xs ys h]
  | .obj _, _, h => by unfold beqX at h; cases h
  | .mix _, _, h => by unfold beqX at h; cases h
  | .pt _, _, h => by unfold beqX at h; cases h
  | .k v, .mix _, h => by cases v <;> (unfold beqX at h; cases h)
  | .k v, .pt _, h => by cases v <;> (unfold beqX at h; cases h)
  | .tup _, .mix _, h => by unfold beqX at h; cases h
  | .tup _, .pt _, h => by unfold beqX at h; cases h
  | .k v, .obj _, h => by cases v <;> (unfold beqX at h; cases h)
  | .tup _, .obj _, h => by unfold beqX at h; cases h
  | .k v, .tup _, h => by cases v <;> (unfold beqX at h; cases h)
  | .tup _, .k _, h => by unfold beqX at h; cases h
  | .k u, .k v, h => by
    cases u <;> cases v <;> first
      | (unfold beqX at h; rw [iEq_eq] at h; rw [of_decide_eq_true h])
      | rfl
      | (rename_i a b; cases a <;> cases b <;> first | rfl | (unfold beqX at h; cases h))
      | (unfold beqX at h; cases h)
theorem beqXs_eq : ∀ a b : List W, beqXs a b = true → a = b
  | [], [], _ => rfl
  | x :: xs, y :: ys, h => by
    unfold beqXs at h
    cases q : beqX x y with
    | false => rw [q] at h; cases h
    | true =>
      rw [q] at h
      rw [beqX_eq x y q, beqXs_eq xs ys h]
  | [], _ :: _, h => by unfold beqXs at h; cases h
  | _ :: _, [], h => by unfold beqXs at h; cases h
end
end
open PySem PySem.Spec PyProof.Rows L2
open PySem PySem.Spec PyProof.Rows L2
section
variable {G : Glo} {X : Cx} {W' : WX} {pos : Pos}
/-! ### xs.pop(i) -/
end
end Ev

namespace Ev
open PySem PySem.Spec PyProof.Rows L2
/-! ## zip of a list and a tuple in any mix -/
def SqB (k : Bool) (K : PySem.W.Frag) (H : Hp) (a : Addr) (xs : List V) : Prop := match k with
  | true => SqL K H a xs
  | false => SqT K H a xs
def ItB (k : Bool) (h : Heap) (it a : Addr) (i : Nat) : Prop := match k with
  | true => h.IsListIter it a i
  | false => h.IsTupleIter it a i
theorem ItB.at {k : Bool} {h h' : Heap} {it a : Addr} {i : Nat} (x : ItB k h it a i) (e : ∀ o, h.get? it = some o → h'.get? it = some o) : ItB k h' it a i := by
  cases k with
  | true => exact Heap.IsListIter.at x e
  | false => exact Heap.IsTupleIter.at x e
theorem ItB.there {k : Bool} {h : Heap} {it a : Addr} {i : Nat} (x : ItB k h it a i) : ∃ o, h.get? it = some o ∧ ∀ v, o.data ≠ .cell v := by
  cases k with
  | true =>
    obtain ⟨o, e, _, d⟩ := x
    exact ⟨o, e, fun v q => by rw [d] at q; cases q⟩
  | false =>
    obtain ⟨o, e, _, d⟩ := x
    exact ⟨o, e, fun v q => by rw [d] at q; cases q⟩
def ItzB (K : PySem.W.Frag) (k1 k2 : Bool) (a b : Addr) : It :=
  ⟨fun i H => ∃ (xs ys : List V) (x y : V), SqB k1 K H a xs ∧ SqB k2 K H b ys ∧ xs[i]? = some x ∧ ys[i]? = some y,
    fun i H v H' => ∃ T x y, v = .ref T ∧ H T = none ∧ H' = upd H T (.tup [x, y]) ∧ (∀ xs, SqB k1 K H a xs → xs[i]? = some x) ∧ ∀ ys, SqB k2 K H b ys → ys[i]? = some y,
    fun i H => ∃ xs ys : List V, SqB k1 K H a xs ∧ SqB k2 K H b ys ∧ i ≤ xs.length ∧ i ≤ ys.length ∧ (i = xs.length ∨ i = ys.length)⟩
section
variable {X : Cx} {pins : List (Addr × Obj)} {σ : L2.St} {H : Hp} {s : Shared}
theorem sqB_inj {k : Bool} {a : Addr} {xs ys : List V} (I : Inv X pins σ H s) (h : SqB k X.K H a xs) (h' : SqB k X.K H a ys) : xs = ys := by
  cases k with
  | true => exact I.list_inj h h'
  | false => exact I.tuple_inj h h'
theorem sqB_draws {k : Bool} {a it : Addr} {xs : List V} {i : Nat} (I : Inv X pins σ H s) (h : SqB k X.K H a xs) (hit : ItB k s.heap it a i) (ne : it ≠ a) : ∃ (its : List Value) (St : Nat → Heap → Prop), Vals xs its ∧ (∀ A : Around, A.handled = none → Draws X.prog X.w A it [it, a] its.toArray.size (fun j v => its.toArray[j]? = some v) St) ∧ St i s.heap ∧ (∀ j h', St j h' → ItB k h' it a j) := by
  cases k with
  | true =>
    obtain ⟨its, rv, hl, _⟩ := I.list h
    have hl' : s.heap.IsList a its.toArray := hl.isList
    exact ⟨its, fun j h => h.IsListIter it a j ∧ h.IsList a its.toArray, rv, fun A hA => Draws.list (prog := X.prog) (w := X.w) hA it a (Ne.symm ne) its.toArray, ⟨hit, hl'⟩, fun j h' q => q.1⟩
  | false =>
    obtain ⟨its, rv, hl, _⟩ := I.tuple h
    have hl' : s.heap.IsTuple a its.toArray := hl
    exact ⟨its, fun j h => h.IsTupleIter it a j ∧ h.IsTuple a its.toArray, rv, fun A hA => Draws.tuple (prog := X.prog) (w := X.w) hA it a (Ne.symm ne) its.toArray, ⟨hit, hl'⟩, fun j h' q => q.1⟩
end
theorem turn_zipB {P : Program} {w : World} {K : PySem.W.Frag} {elts : List Expr} {kk : Nat} {tpos : Pos} {k1 k2 : Bool} {a b z TI TO i1 i2 : Addr} (D : ZipSep2 z TI TO i1 i2 [i1, a] [i2, b]) (n1 : i1 ≠ a) (n2 : i2 ≠ b) :
    Turn P w K (.Tuple elts kk tpos) (ItzB K k1 k2 a b) [z, TI, TO, i1, i2] z (fun i h => IsZip h z TI TO .none ∧ IsTupOf2 h TI (.ref i1) (.ref i2) ∧ (∃ x y, IsTupOf2 h TO x y) ∧ ItB k1 h i1 a i ∧ ItB k2 h i2 b i) where
  mem := by simp
  obj := fun i h st c hc => by
    obtain ⟨hz, hTI, ⟨x, y, hTO⟩, h1, h2⟩ := st
    have e' : c = z ∨ c = TI ∨ c = TO ∨ c = i1 ∨ c = i2 := by simpa using hc
    rcases e' with q | q | q | q | q
    · rw [q]; exact ⟨_, hz, fun v q => nomatch q⟩
    · rw [q]; exact ⟨_, hTI, fun v q => nomatch q⟩
    · rw [q]; exact ⟨_, hTO, fun v q => nomatch q⟩
    · rw [q]; exact h1.there
    · rw [q]; exact h2.there
  keep := fun i h h' st k => by
    obtain ⟨hz, hTI, ⟨x, y, hTO⟩, h1, h2⟩ := st
    exact ⟨k z (by simp) _ hz, k TI (by simp) _ hTI, ⟨x, y, k TO (by simp) _ hTO⟩, h1.at fun o q => k i1 (by simp) o q, h2.at fun o q => k i2 (by simp) o q⟩
  item := by
    intro X hP hw hK hc i pins s σ H E I hf st hg
    subst hP hw hK
    obtain ⟨hz, hTI, ⟨x0, y0, hTO⟩, h1, h2⟩ := st
    obtain ⟨xs, ys, x, y, hqx, hqy, hx, hy⟩ := hg
    obtain ⟨its, St1, rv, D1, st1, back1⟩ := sqB_draws I hqx h1 n1
    obtain ⟨its2, St2, rv2, D2, st2, back2⟩ := sqB_draws I hqy h2 n2
    obtain ⟨u, hu, ru⟩ := rv.get hx
    obtain ⟨u2, hu2, ru2⟩ := rv2.get hy
    have hzl : z < s.heap.objs.size := Heap.lt_size hz
    have li : i < its.toArray.size := by
      have := (List.getElem?_eq_some_iff.mp hu).1
      simpa using this
    have li2 : i < its2.toArray.size := by
      have := (List.getElem?_eq_some_iff.mp hu2).1
      simpa using this
    have hA := I.ok.hd hc
    refine wpAny_pyNext_zipD2_item D (D1 X.A.in1 hA) (D2 X.A.in1 hA) hz hTI hTO st1 st2 li li2 fun v1 v2 h' tk p1 p2 z' TO' st1' st2' hT hsz hk => ?_
    have e1 : u = v1 := by
      have q : its[i]? = some v1 := by simpa using p1
      rw [hu] at q
      exact Option.some.inj q
    have e2 : u2 = v2 := by
      have q : its2[i]? = some v2 := by simpa using p2
      rw [hu2] at q
      exact Option.some.inj q
    subst e1 e2
    refine ⟨_, rfl, wpAny_letOwnedTupleGo_zip (s := { s with heap := h', toks := tk }) z' fun h'' z'' sb => ?_⟩
    have hT2 : h''.get? s.heap.objs.size = some { cls := .type "tuple", data := .seq #[u, u2] } := (sb.2 _ (Nat.ne_of_gt hzl)).trans hT
    have new : ObjOk X.prog X.w (upd H s.heap.objs.size (.tup [x, y])) h'' s.heap.objs.size (.tup [x, y]) :=
      ⟨by show 2 ≤ sizeLine; decide, [u, u2], .cons ru (.cons ru2 .nil), ⟨_, hT2, rfl, _, rfl⟩⟩
    have I1 : Inv X pins σ (upd H s.heap.objs.size (.tup [x, y])) { s with heap := h'', toks := tk } :=
      I.turnedNew (t' := tk) (ch := [z, TI, TO, i1, i2]) (fun c o hb q => (sb.2 c (fun q' => hb (by simp [q']))).trans (hk c o (fun q' => hb (by simp [q'])) (fun q' => hb (by simp [q'])) (fun q' => hb (by simp [q'])) (fun q' => hb (by simp [q'])) q)) hf (Nat.le_refl _) new
    refine ⟨.ref s.heap.objs.size, _, I1, rfl, ⟨_, x, y, rfl, I.hok.fresh (Nat.le_refl _), rfl, fun l hl => by rw [sqB_inj I hl hqx]; exact hx, fun l hl => by rw [sqB_inj I hl hqy]; exact hy⟩, ⟨z'', ?_, ⟨u, u2, ?_⟩, ?_, ?_⟩, fun c hcm => ?_⟩
    · exact (sb.2 _ D.TIz).trans (hk _ _ D.TIz D.TITO D.TIi1 D.TIi2 hTI)
    · exact (sb.2 _ D.TOz).trans TO'
    · exact (back1 _ _ st1').at fun o q => (sb.2 _ D.zi1.symm).trans q
    · exact (back2 _ _ st2').at fun o q => (sb.2 _ D.zi2.symm).trans q
    · have hlt : c < s.heap.objs.size := by
        have e' : c = z ∨ c = TI ∨ c = TO ∨ c = i1 ∨ c = i2 := by simpa using hcm
        rcases e' with q | q | q | q | q
        · rw [q]; exact hzl
        · rw [q]; exact Heap.lt_size hTI
        · rw [q]; exact Heap.lt_size hTO
        · rw [q]; obtain ⟨_, e1, _⟩ := h1.there; exact Heap.lt_size e1
        · rw [q]; obtain ⟨_, e2, _⟩ := h2.there; exact Heap.lt_size e2
      rw [upd_ne (Nat.ne_of_lt hlt)]
      exact (hf c hcm).1
  done := by
    intro X hP hw hK hc i pins s σ H E I hf st hg
    subst hP hw hK
    obtain ⟨hz, hTI, ⟨x0, y0, hTO⟩, h1, h2⟩ := st
    obtain ⟨xs, ys, hqx, hqy, le1, le2, hend⟩ := hg
    obtain ⟨its, St1, rv, D1, st1, back1⟩ := sqB_draws I hqx h1 n1
    obtain ⟨its2, St2, rv2, D2, st2, back2⟩ := sqB_draws I hqy h2 n2
    have l1 : its.toArray.size = xs.length := by rw [List.size_toArray, ← rv.length]
    have l2 : its2.toArray.size = ys.length := by rw [List.size_toArray, ← rv2.length]
    have hA := I.ok.hd hc
    refine wpAny_pyNext_zipD2_end D (D1 X.A.in1 hA) (D2 X.A.in1 hA) hz hTI hTO st1 st2 (by omega) (by omega) (by omega) fun h' tk hk => ⟨rfl, I.turnedL (t' := tk) (ch := [z, TI, TO, i1, i2]) (fun c o hb q =>
      hk c o (fun q' => hb (by simp [q'])) (fun q' => hb (by simp [q'])) (fun q' => hb (by simp [q'])) (fun q' => hb (by simp [q'])) q) hf⟩
  self := fun A i s Q E st h => wpAny_pyIter_zip st.1 h
def iZipB (K : PySem.W.Frag) (ta : TA) : TI := fun σ H R => ta σ H fun vs H1 => ∃ a b xs ys k1 k2, vs = [.ref a, .ref b] ∧ SqB k1 K H1 a xs ∧ SqB k2 K H1 b ys ∧ R (ItzB K k1 k2 a b) H1
theorem sqB_begins {X : Cx} {pins : List (Addr × Obj)} {σ : L2.St} {H : Hp} {s : Shared} {k : Bool} {a : Addr} {xs : List V} (I : Inv X pins σ H s) (h : SqB k X.K H a xs) : ∃ (o : Obj) (Hb : Heap → Prop), Begins (.ref a) o Hb ∧ Hb s.heap ∧ a < s.heap.objs.size ∧ ∀ (i : Addr) h', h'.get? i = some o → ItB k h' i a 0 := by
  cases k with
  | true =>
    obtain ⟨its, rv, hl, _⟩ := I.list h
    have hl' : s.heap.IsList a its.toArray := hl.isList
    refine ⟨_, _, begins_list a its.toArray, hl', ?_, fun i h' e => ⟨_, e, rfl, rfl⟩⟩
    obtain ⟨o, e, _⟩ := hl'
    exact Heap.lt_size e
  | false =>
    obtain ⟨its, rv, hl, _⟩ := I.tuple h
    have hl' : s.heap.IsTuple a its.toArray := hl
    refine ⟨_, _, begins_tuple a its.toArray, hl', ?_, fun i h' e => ⟨_, e, rfl, rfl⟩⟩
    obtain ⟨o, e, _⟩ := hl'
    exact Heap.lt_size e
theorem pi_zipB {X : Cx} {e e2 : Expr} {ta : TA} {p pos tpos : Pos} {elts : List Expr} {kk : Nat} (hg : Gl X "zip") (hm : X.mg "zip" = none) (ha : PA X [e, e2] ta)
    (hs : starEach [e, e2] X.env = (false, eval e X.env) :: starEach [e2] X.env := by rfl) (hpl : (backTo pos (starEach [e2] X.env)).any (·.1) = false := by rfl) :
    PI X (.Tuple elts kk tpos) (.Call (.Name "zip" p) [e, e2] [] pos) (iZipB X.K ta) := by
  refine ⟨fun pins s σ H R I h => ?_⟩
  refine Call_ (ld_blt I hg hm PyProof.Rows.boot_zip (PyProof.Rows.callWith_type1 (thn (ha.run pos pins s σ H _ I h) fun us s1 ⟨vs, H1, I1, r1, q1⟩ => ?_) hs hpl))
  obtain ⟨a, b, xs, ys, k1, k2, ex, hqx, hqy, q⟩ := q1
  subst ex
  cases r1 with
  | cons r rr =>
    cases rr with
    | cons r' rr =>
      cases rr
      cases r
      cases r'
      obtain ⟨o1, B1, v1, g1, la, c1⟩ := sqB_begins I1 hqx
      obtain ⟨o2, B2, v2, g2, lb, c2⟩ := sqB_begins I1 hqy
      refine zip_begins2 v1 v2 g1 g2 fun h' hz hTI hTO e1 e2 hsz hk => wpAny_pyIter_zip hz ?_
      have I2 : Inv X pins σ H1 { s1 with heap := h' } := I1.kept (t' := s1.toks) hk
      obtain ⟨m, hm0⟩ : ∃ m : Nat, m = s1.heap.objs.size := ⟨_, rfl⟩
      rw [← hm0] at hz hTI hTO e1 e2 hsz la lb ⊢
      have la' : Nat.lt a m := la
      have lb' : Nat.lt b m := lb
      have fresh5 : ∀ c, c ∈ ([m + 4, m + 2, m + 3, m, m + 1] : List Addr) → FpOk X pins H1 c := fun c hcm => by
        have e' : c = m + 4 ∨ c = m + 2 ∨ c = m + 3 ∨ c = m ∨ c = m + 1 := by simpa using hcm
        have hle : s1.heap.objs.size ≤ c := by
          rw [← hm0]
          rcases e' with z | z | z | z | z
          · rw [z]; exact Nat.le_add_right _ _
          · rw [z]; exact Nat.le_add_right _ _
          · rw [z]; exact Nat.le_add_right _ _
          · rw [z]; exact Nat.le_refl _
          · rw [z]; exact Nat.le_add_right _ _
        exact I1.fpOk hle (I1.hok.fresh hle)
      have ne : ∀ x y : Nat, x ≠ y → (x : Addr) ≠ y := fun _ _ h => h
      have nm : ∀ x p q : Nat, x ≠ p → x ≠ q → (x : Addr) ∉ ([p, q] : List Addr) := fun x p q h1 h2 h => by
        rcases List.mem_cons.mp h with e | h
        · exact h1 e
        · exact h2 (List.mem_singleton.mp h)
      have far : ∀ k y : Nat, Nat.lt y m → m + k ≠ y := fun k y h e => absurd h (by rw [← e]; exact Nat.not_lt.mpr (Nat.le_add_right m k))
      have S : ZipSep2 (m + 4) (m + 2) (m + 3) m (m + 1) [m, a] [m + 1, b] := {
        TIz := ne _ _ (by omega), TOz := ne _ _ (by omega), TITO := ne _ _ (by omega), TIi1 := ne _ _ (by omega), mem1 := List.mem_cons_self, zf1 := nm _ _ _ (by omega) (far 4 a la'), Tf1 := nm _ _ _ (by omega) (far 3 a la'),
        TIi2 := ne _ _ (by omega), mem2 := List.mem_cons_self, zf2 := nm _ _ _ (by omega) (far 4 b lb'), Tf2 := nm _ _ _ (by omega) (far 3 b lb'), sep1_2 := nm _ _ _ (by omega) (far 0 b lb'), sep2_1 := nm _ _ _ (by omega) (far 1 a la') }
      exact ⟨m + 4, [m + 4, m + 2, m + 3, m, m + 1], _, _, H1, rfl, I2, turn_zipB S (far 0 a la') (far 1 b lb'), ⟨hz, hTI, ⟨_, _, hTO⟩, c1 _ _ e1, c2 _ _ e2⟩, fresh5, q⟩
section
variable {G : Glo} {X : Cx} {W' : WX} {pos : Pos}
noncomputable def rowB (w : W) (S : FH) : Option (List W) := match w with
  | .tup ws => some ws
  | .obj j => match S.get j with
    | some v => match v with
      | .lst xs => some xs
      | _ => none
    | none => none
  | _ => none
def isObj (w : W) : Bool := match w with
  | .obj _ => true
  | _ => false
noncomputable def srcZB (a b : W) : Src := fun i S => match rowB a S with
  | some xs => match rowB b S with
    | some ys => match zipW (nth xs i) (nth ys i) with
      | some w => some (some w)
      | none => match Nat.ble i xs.length with
        | true => match Nat.ble i ys.length with
          | true => some none
          | false => none
        | false => none
    | none => none
  | none => none
theorem rowB_sq {C : Cf} (ok : C.Ok G) {w : W} {a : Addr} (r : RW G.K C.ρ C.H w (.ref a)) {xs : List W} (h : rowB w C.S = some xs) : ∃ vs, SqB (isObj w) G.K C.H a vs ∧ RWs G.K C.ρ C.H xs vs := by
  cases w with
  | k u => cases h
  | tup ws =>
    cases h
    unfold RW at r
    obtain ⟨a', vs, e, h1, h2⟩ := r
    cases e
    exact ⟨vs, h1, h2⟩
  | mix _ => (first | exact post_stuck (by assumption) | exact .inl (by assumption) | (exfalso; contradiction) | (unfold nkey at *; contradiction) | (unfold RW at *; simp_all; done) | (simp_all; done))
  | pt _ => (first | exact post_stuck (by assumption) | exact .inl (by assumption) | (exfalso; contradiction) | (unfold nkey at *; contradiction) | (unfold RW at *; simp_all; done) | (simp_all; done))
  | obj j =>
    unfold RW at r
    obtain ⟨a', e, h1⟩ := r
    cases e
    unfold rowB at h
    simp only at h
    cases q : C.S.get j with
    | none => rw [q] at h; cases h
    | some v =>
      rw [q] at h
      cases v with
      | lst ys =>
        cases h
        obtain ⟨a', vs, g1, g2, g3⟩ := Cf.lstAt ok q
        rw [h1] at g1; cases g1
        exact ⟨vs, SqL.of g2, g3⟩
      | _ => cases h
theorem srcZB_ok {C0 : Cf} (ok0 : C0.Ok G) {a b : W} {pa pb : Addr} (ra : RW G.K C0.ρ C0.H a (.ref pa)) (rb : RW G.K C0.ρ C0.H b (.ref pb)) : SrcOk G (srcZB a b) (ItzB G.K (isObj a) (isObj b) pa pb) C0 := fun C ok x i => by
  have ra' := ra.mono ok0 x
  have rb' := rb.mono ok0 x
  unfold srcZB
  cases q1 : rowB a C.S with
  | none => exact ⟨fun e => by simp at e, fun w e => by simp at e⟩
  | some xs =>
    cases q2 : rowB b C.S with
    | none => exact ⟨fun e => by simp at e, fun w e => by simp at e⟩
    | some ys =>
      obtain ⟨vs, s1, r1⟩ := rowB_sq ok ra' q1
      obtain ⟨zs, s2, r2⟩ := rowB_sq ok rb' q2
      simp only
      cases q3 : zipW (nth xs i) (nth ys i) with
      | none =>
        simp only
        cases q4 : Nat.ble i xs.length with
        | false => exact ⟨fun e => by simp at e, fun w e => by simp at e⟩
        | true =>
          cases q5 : Nat.ble i ys.length with
          | false => exact ⟨fun e => by simp at e, fun w e => by simp at e⟩
          | true =>
            refine ⟨fun _ => ⟨vs, zs, s1, s2, ?_, ?_, ?_⟩, fun w e => by simp at e⟩
            · rw [r1.length]; exact Nat.le_of_ble_eq_true q4
            · rw [r2.length]; exact Nat.le_of_ble_eq_true q5
            · have h1 := Nat.le_of_ble_eq_true q4
              have h2 := Nat.le_of_ble_eq_true q5
              have l1 := r1.length
              have l2 := r2.length
              rcases zip_none r1 r2 q3 with h | h
              · exact .inl (by omega)
              · exact .inr (by omega)
      | some w0 =>
        simp only
        refine ⟨fun e => by simp at e, fun w e => ?_⟩
        cases (Option.some.inj (Option.some.inj e))
        obtain ⟨x', y', v, z, rfl, a1, b1, a2, b2⟩ := zip_some r1 r2 q3
        refine ⟨⟨vs, zs, v, z, s1, s2, a1, b1⟩, fun y H' ⟨T, v', z', ey, hT, hH, hv, hz⟩ => ?_⟩
        have e1 := hv vs s1
        have e2 := hz zs s2
        rw [a1] at e1; cases e1
        rw [b1] at e2; cases e2
        obtain ⟨C', g1, g2, g3, g4, g5⟩ := Cf.newTup ok hT (.cons a2 (.cons b2 .nil))
        exact ⟨C', by rw [g1, hH], g2, g3, g4, by rw [ey]; exact g5⟩
noncomputable def ofZip2 (ws : List W) (S : FH) : Res Src := two ws fun a b => seqWK a S fun _ => seqWK b S fun _ => .ok (srcZB a b) S
noncomputable def eiZip2 (f : Eva) : Evi := fun l S => (f l S).bnd fun w S1 => ofZip2 w S1
theorem sqB_of {C : Cf} (ok : C.Ok G) {w : W} {x : V} (r : RW G.K C.ρ C.H w x) {α : Type} {k : List W → Res α} {Φ : α → Cf → Prop} (p : Post G W' C (seqWK w C.S k) Φ) : ∃ a ws vs, x = .ref a ∧ SqB (isObj w) G.K C.H a vs ∧ Post G W' C (k ws) Φ := by
  cases w with
  | k u => exact post_stuck p
  | tup xs =>
    unfold RW at r
    obtain ⟨a, vs, rfl, h1, h2⟩ := r
    exact ⟨a, xs, vs, rfl, h1, p⟩
  | mix _ => (first | exact post_stuck (by assumption) | exact .inl (by assumption) | (exfalso; contradiction) | (unfold nkey at *; contradiction) | (unfold RW at *; simp_all; done) | (simp_all; done))
  | pt _ => (first | exact post_stuck (by assumption) | exact .inl (by assumption) | (exfalso; contradiction) | (unfold nkey at *; contradiction) | (unfold RW at *; simp_all; done) | (simp_all; done))
  | obj i =>
    obtain ⟨xs, a, us, _, h1, h2, h3, p2⟩ := post_kobj ok p
    unfold RW at r
    obtain ⟨a', rfl, e⟩ := r
    rw [h1] at e; cases e
    exact ⟨a, xs, us, rfl, SqL.of h2, p2⟩
theorem si_zip2 {f : Eva} {e e2 : Expr} {p tpos : Pos} {elts : List Expr} {kk : Nat} (hx : Okx G X) (hg : Gl X "zip") (hm : X.mg "zip" = none) (h : SA G X W' f [e, e2])
    (hs : starEach [e, e2] X.env = (false, eval e X.env) :: starEach [e2] X.env := by rfl) (hpl : (backTo pos (starEach [e2] X.env)).any (·.1) = false := by rfl) :
    SI G X W' (eiZip2 f) (.Tuple elts kk tpos) (.Call (.Name "zip" p) [e, e2] [] pos) := pi_imp (pi_zipB hg hm h hs hpl) fun σ H R ⟨C, l, e, ok, r, p⟩ => by
  subst e
  rw [hx.k]
  refine ⟨C, l, rfl, ok, r, Post.mono (fun ws C1 ok1 x1 p1 vs rv => ?_) (Post.bnd (k := fun w S1 => ofZip2 w S1) p)⟩
  obtain ⟨a, b, v, z, rfl, r1, r2, p2⟩ := post_two rv p1
  obtain ⟨pa, _, us, rfl, s1, p3⟩ := sqB_of ok1 r1 p2
  obtain ⟨pb, _, zs, rfl, s2, p4⟩ := sqB_of ok1 r2 p3
  exact ⟨pa, pb, us, zs, _, _, rfl, s1, s2, (Post.now ok1 p4) _ (srcZB_ok ok1 r1 r2)⟩
end
end Ev

namespace Ev
open PySem PySem.Spec PyProof.Rows L2
/-! ## zip of three, lists and tuples in any mix -/
section
variable {G : Glo} {X : Cx} {W' : WX} {pos : Pos}
end
end Ev

namespace PySem
namespace SC
open Builtin Builtin.Str Builtin.Int
section
variable {prog : Program} {w : World} {A : Around} {E : Value → Shared → Prop} {s : Shared} {x : Str} {t : Tok} {Q : Value → Shared → Prop}
end
end SC
end PySem
namespace Ev
open PySem PySem.Spec PyProof.Rows L2
section
variable {X : Cx}
end
section
variable {G : Glo} {X : Cx} {W' : WX} {pos : Pos}
/-! ### x *= e, x //= e -/
theorem ax_mul : AugX G X .Mult (g2I (fun i j => Nat.blt (i.natAbs.log2 + j.natAbs.log2) 1000000) Int.mul) := ⟨rI CMulW fun i j => .int (i * j), opI fun i j _ _ _ _ _ hc q => imul_int q hc.ok, fun W' C a b x y Q ok ra rb p =>
  ops_2I (c := fun i j => Nat.blt (i.natAbs.log2 + j.natAbs.log2) 1000000) (fun i j h => Nat.le_of_ble_eq_true h) (fun _ _ _ => rfl) W' C a b x y Q ok ra rb p⟩
end
end Ev

namespace Ev
open PySem PySem.Spec PyProof.Rows L2
/-! ## texts in operators, subscripts, walks -/
section
variable {G : Glo} {X : Cx} {W' : WX} {pos : Pos}
/-! + -/
/-! * -/
/-! in -/
/-! len -/
/-! s[i] -/
/-! s[a:b] -/
/-! walks -/
/-! enumerate of a text -/
end
end Ev

namespace Ev
open PySem PySem.Spec PyProof.Rows L2
/-! ## a comprehension of two clauses that a plain name takes -/
section
variable {G : Glo} {X : Cx} {W' : WX} {pos : Pos}
end
end Ev

namespace Ev
open PySem PySem.Spec PyProof.Rows L2
/-! ## dict(xs), xs a list of pairs whose keys are tuples -/
def DKr (K : PySem.W.Frag) (H : Hp) : List V → List (NestedKey × Addr × V) → Prop
  | [], ks => ks = []
  | u :: us, ks => ∃ p k b v r, ks = (k, b, v) :: r ∧ u = .ref p ∧ SqT K H p [.ref b, v] ∧ DKr K H us r
section
variable {X : Cx} {pins : List (Addr × Obj)} {σ : L2.St} {H : Hp} {s : Shared}
theorem dk_pairs (I : Inv X pins σ H s) : ∀ {us : List V} {ks : List (NestedKey × Addr × V)} {its : List Value}, DKr X.K H us ks → Vals us its → ∃ ps : List (NestedKey × Addr × Value), Paired KxR ks ps ∧ ps.length = its.length ∧
    ∃ ts : List Addr, ts.length = ps.length ∧ ∀ (j : Nat) (q : NestedKey × Addr × Value), ps[j]? = some q → ∃ t, ts[j]? = some t ∧ its[j]? = some (.ref t) ∧ s.heap.IsTuple t #[.ref q.2.1, q.2.2]
  | [], ks, its, z, r => by
    cases r
    cases (show ks = [] from z)
    exact ⟨[], .nil, rfl, [], rfl, fun j q e => by simp at e⟩
  | u :: us, ks, its, z, r => by
    obtain ⟨p, k, b, v, rs, rfl, rfl, hs, z⟩ := z
    cases r with
    | cons ru r =>
      rename_i u' its
      have eu : u' = Value.ref p := ru
      subst eu
      obtain ⟨ps, h1, h2, ts, h3, h4⟩ := dk_pairs I z r
      obtain ⟨pv, rv, ht, _⟩ := I.tuple hs
      cases rv with
      | cons rb rv =>
        cases rv with
        | cons rw rv =>
          cases rv
          rename_i b' v'
          have eb : b' = Value.ref b := rb
          subst eb
          refine ⟨(k, b, v') :: ps, .cons ⟨rfl, rfl, rw⟩ h1, by simp [h2], p :: ts, by simp [h3], fun j q e => ?_⟩
          cases j with
          | zero =>
            simp only [List.getElem?_cons_zero, Option.some.injEq] at e
            subst e
            exact ⟨p, by simp, by simp, ht⟩
          | succ j =>
            simp only [List.getElem?_cons_succ] at e
            obtain ⟨t, e1, e2, e3⟩ := h4 j q e
            exact ⟨t, by simpa using e1, by simpa using e2, e3⟩
def rDictS (P : Program) (w : World) (K : PySem.W.Frag) : List V → Hp → (V → Hp → Prop) → Prop := fun xs H Q => ∃ a us ks, xs = [.ref a] ∧ SqL K H a us ∧ DKr K H us ks ∧ KeysOk K H ks ∧ us.length ≤ 10000 ∧ ∀ d, H d = none → Q (.ref d) (upd H d (dctO P w d (putsX [] ks)))
theorem call_dictS (hc : X.calm = true) (hu : X.A.units + 64 < cLine) : CallR X (.type "dict") (rDictS X.prog X.w X.K) := by
  intro pins s σ H xs us Q I r q
  obtain ⟨a, us1, ks, ex, hs, dk, ko, hl, q⟩ := q
  subst ex
  obtain ⟨u, eu, rx⟩ := vals1 r
  subst eu
  cases rx
  obtain ⟨its, rv, ⟨ol, nl, gl, cl, dl, sl⟩, _⟩ := I.list hs
  obtain ⟨ps, rel, hpl, ts, htl, hat⟩ := dk_pairs I dk rv
  obtain ⟨hp, gg, dr, tk, os⟩ := s
  let Ts : Nat → Addr := fun j => ts.getD j 0
  have hits : PairItems hp its.toArray Ts (ps.map fun q => (Value.ref q.2.1, q.2.2)) := by
    refine ⟨by simp [hpl], fun j k v e => ?_⟩
    rw [List.getElem?_map] at e
    cases e1 : ps[j]? with
    | none => rw [e1] at e; cases e
    | some q =>
      rw [e1] at e
      simp only [Option.map_some, Option.some.injEq, Prod.mk.injEq] at e
      obtain ⟨rfl, rfl⟩ := e
      obtain ⟨t, h1, h2, h3⟩ := hat j q e1
      have ht : Ts j = t := by
        show ts.getD j 0 = t
        rw [List.getD_eq_getElem?_getD, h1]
        rfl
      exact ⟨by rw [ht]; simpa using h2, by rw [ht]; exact .inl h3⟩
  have hA := I.ok.hd hc
  have hps2 : ps.length ≤ 10000 := by
    have e1 : its.length = us1.length := rv.length.symm
    omega
  have P := PairArg.list (prog := X.prog) (w := X.w) a its.toArray Ts (ps.map fun q => (Value.ref q.2.1, q.2.2))
  have hm : (ps.map fun q => (Value.ref q.2.1, q.2.2)).length = ps.length := List.length_map ..
  refine call_dict_pairsH (knd := nestedKind X.prog X.w) (ps := ps) (s := ⟨hp, gg, dr, tk, os⟩) P hA ?_ ⟨⟨ol, nl, gl, cl, dl, sl⟩, hits⟩ ⟨hm.symm, fun i key v e => ?_⟩ ?_ (by rw [hm, sizeLine_eq]; omega) fun h2 tk2 dd kp => ?_
  · show X.A.units + 1 + 1 + 8 < cLine
    omega
  · have e : (ps.map fun q => (Value.ref q.2.1, q.2.2))[i]? = some (key, v) := e
    rw [List.getElem?_map] at e
    cases e1 : ps[i]? with
    | none => rw [e1] at e; cases e
    | some q =>
      rw [e1] at e
      simp only [Option.map_some, Option.some.injEq, Prod.mk.injEq] at e
      obtain ⟨rfl, rfl⟩ := e
      exact ⟨q.1, q.2.1, rfl, rfl⟩
  · intro h3 k3 z hz
    have old : ∀ c o, hp.get? c = some o → h3.get? c = some o := fun c o e => k3 c o (Nat.ne_of_lt (Heap.lt_size e)) (List.not_mem_nil) e
    have I3 : Inv X pins σ H { (⟨hp, gg, dr, tk, os⟩ : Shared) with heap := h3, toks := tk } := I.kept old
    exact keys_rel rel ko I3 z hz
  · have old : ∀ c o, hp.get? c = some o → h2.get? c = some o := fun c o e => kp c o (List.not_mem_nil) e
    have hn : H hp.objs.size = none := I.hok.fresh (Nat.le_refl _)
    have big : sysModules < hp.objs.size := I.big
    have hlen : (putsX [] ks).length ≤ sizeLine := by
      have h1 := putsX_len ks []
      have h2 : ks.length = ps.length := Paired.length rel
      rw [List.length_nil] at h1
      rw [sizeLine_eq]; omega
    have ob : ObjOk X.prog X.w (upd H hp.objs.size (dctO X.prog X.w hp.objs.size (putsX [] ks))) h2 hp.objs.size (dctO X.prog X.w hp.objs.size (putsX [] ks)) :=
      dctO_ok (beq_eq_false_iff_ne.mpr (Ne.symm (Nat.ne_of_lt big))) hlen (puts_rel (ys := []) rel List.nodup_nil .nil) dd
    exact ⟨.ref hp.objs.size, _, I.laid (t' := tk2) old (Nat.le_refl _) ob, rfl, q _ hn⟩
end
section
variable {G : Glo} {X : Cx} {W' : WX} {pos : Pos}
/-- the pairs of a list -/
noncomputable def pairsP {α : Type} (xs : List W) (k : List (W × W) → Res α) : Res α := List.rec (motive := fun _ => (List (W × W) → Res α) → Res α) (fun k => k []) (fun x _ ih k => match x with
  | .tup ys => match ys with
    | a :: r => match r with
      | b :: r2 => match r2 with
        | [] => ih fun ps => k ((a, b) :: ps)
        | _ :: _ => .stuck
      | [] => .stuck
    | [] => .stuck
  | _ => .stuck) xs k
theorem post_pairsP {α : Type} {C : Cf} {Φ : α → Cf → Prop} : ∀ {xs : List W} {us : List V} {k : List (W × W) → Res α}, RWs G.K C.ρ C.H xs us → Post G W' C (pairsP xs k) Φ → ∃ ps pv, RPs G.K C.ρ C.H ps pv ∧ ps.length = xs.length ∧ (∀ ks : List (NestedKey × Addr × V), pv = ks.map (fun x => (V.ref x.2.1, x.2.2)) → DKr G.K C.H us ks) ∧ Post G W' C (k ps) Φ
  | [], us, k, r, p => by
    unfold RWs at r
    subst r
    refine ⟨[], [], rfl, rfl, fun ks e => ?_, p⟩
    cases ks with
    | nil => rfl
    | cons _ _ => cases e
  | x :: xs, us, k, r, p => by
    unfold RWs at r
    obtain ⟨u, ur, rfl, h1, r⟩ := r
    cases x with
    | k _ => exact post_stuck p
    | mix _ => (first | exact post_stuck (by assumption) | exact .inl (by assumption) | (exfalso; contradiction) | (unfold nkey at *; contradiction) | (unfold RW at *; simp_all; done) | (simp_all; done))
    | pt _ => (first | exact post_stuck (by assumption) | exact .inl (by assumption) | (exfalso; contradiction) | (unfold nkey at *; contradiction) | (unfold RW at *; simp_all; done) | (simp_all; done))
    | obj _ => exact post_stuck p
    | tup ys =>
      cases ys with
      | nil => exact post_stuck p
      | cons a r1 => cases r1 with
        | nil => exact post_stuck p
        | cons b r2 => cases r2 with
          | cons _ _ => exact post_stuck p
          | nil =>
            obtain ⟨ps, pv, h3, hl, h4, p2⟩ := post_pairsP r (show Post G W' C (pairsP xs fun ps => k ((a, b) :: ps)) Φ from p)
            unfold RW at h1
            obtain ⟨q, vs, rfl, hq, hv⟩ := h1
            unfold RWs at hv
            obtain ⟨va, vr, rfl, ha, hv⟩ := hv
            unfold RWs at hv
            obtain ⟨vb, vr2, rfl, hb, hv⟩ := hv
            unfold RWs at hv
            subst hv
            refine ⟨(a, b) :: ps, (va, vb) :: pv, ⟨va, vb, pv, rfl, ha, hb, h3⟩, by simp [hl], fun ks e => ?_, p2⟩
            cases ks with
            | nil => cases e
            | cons y ks =>
              rw [List.map_cons] at e
              injection e with e1 e2
              injection e1 with e3 e4
              subst e3 e4
              exact ⟨q, y.1, y.2.1, y.2.2, ks, rfl, rfl, hq, h4 ks e2⟩
end
end Ev

namespace Ev
open PySem PySem.Spec PyProof.Rows L2
/-! ## dict(list(..)), list(d.items()) -/
section
variable {G : Glo} {X : Cx} {W' : WX} {pos : Pos}
noncomputable def cDictS : Opn := fun ws S => one ws fun w => match w with
  | .obj i => kobj i S fun xs => match short xs with
    | true => pairsP xs fun ps => putsK ps [] fun kvs => newK S (.dct kvs) fun n S1 => .ok (.obj n) S1
    | false => .stuck
  | _ => .stuck
theorem cx_dictS (hx : Okx G X) : CallX G X (.type "dict") cDictS := ⟨rDictS G.P G.w G.K, by rw [← hx.pr, ← hx.wo, ← hx.k]; exact call_dictS hx.calm (by have := hx.un; omega), fun W' C ws vs Q ok rv p => by
  obtain ⟨w, v, rfl, r, p⟩ := post_one rv p
  cases w with
  | k u => exact post_stuck p
  | tup xs => exact post_stuck p
  | mix _ => (first | exact post_stuck (by assumption) | exact .inl (by assumption) | (exfalso; contradiction) | (unfold nkey at *; contradiction) | (unfold RW at *; simp_all; done) | (simp_all; done))
  | pt _ => (first | exact post_stuck (by assumption) | exact .inl (by assumption) | (exfalso; contradiction) | (unfold nkey at *; contradiction) | (unfold RW at *; simp_all; done) | (simp_all; done))
  | obj i =>
    obtain ⟨xs, a, us, _, h1, h2, h3, p⟩ := post_kobj ok p
    unfold RW at r
    obtain ⟨a', rfl, e⟩ := r
    rw [h1] at e; cases e
    cases hs : short xs with
    | false => simp only [hs] at p; exact post_stuck p
    | true =>
      simp only [hs] at p
      obtain ⟨ps, pv, h5, hl, h6, p5⟩ := post_pairsP h3 p
      obtain ⟨ks, kvs', z1, z2, z3, z4, z5, z6⟩ := post_putsK (kvs := []) (xs := []) h5 rfl p5
      rw [newK_eq] at z6
      have hl2 : xs.length ≤ 10000 := Nat.le_of_ble_eq_true hs
      refine ⟨a, us, ks, rfl, SqL.of h2, h6 ks z1, z2, by rw [h3.length]; exact hl2, fun d hd => ?_⟩
      obtain ⟨ok3, x3, h7⟩ := Cf.alloc (v := .dct kvs') (o := dctO G.P G.w d (putsX [] ks)) ok hd ⟨_, rfl, z4⟩
      unfold Post at z6
      refine z6 ⟨C.ρ ++ [d], upd C.H d (dctO G.P G.w d (putsX [] ks)), C.S.new (.dct kvs')⟩ rfl ok3 x3 (.ref d) ?_
      unfold RW
      exact ⟨d, rfl, h7⟩⟩
end
/-! ### list(d.items()) -/
section
variable {X : Cx}
end
section
variable {G : Glo} {X : Cx} {W' : WX} {pos : Pos}
end
end Ev

namespace PySem
/-! ## list(zip(a, b)) -/
/-- the pairs laid so far, at rising places above lo -/
structure EzlG (P1 P2 : Nat → Value → Prop) (lo : Addr) (h : Heap) (as : List Addr) : Prop where
  rise : as.Pairwise (· < ·)
  above : ∀ a ∈ as, lo < a
  pairs : ∀ (j : Nat) (a : Addr), as[j]? = some a → ∃ x y, P1 j x ∧ P2 j y ∧ IsTupOf2 h a x y
theorem EzlG.there {P1 P2 : Nat → Value → Prop} {lo : Addr} {h : Heap} {as : List Addr} (g : EzlG P1 P2 lo h as) {a : Addr} (ha : a ∈ as) : a < h.objs.size := by
  obtain ⟨j, hj⟩ := List.mem_iff_getElem?.mp ha
  obtain ⟨_, _, _, _, e⟩ := g.pairs j a hj
  exact Heap.lt_size e
section
variable {prog : Program} {w : World} {A : Around} {E : Value → Shared → Prop} {s : Shared} {z TI TO i1 i2 d : Addr} {fp1 fp2 : List Addr} {n1 n2 i : Nat} {P1 P2 : Nat → Value → Prop} {St1 St2 : Nat → Heap → Prop}
end
section
variable {prog : Program} {w : World} {A : Around} {s : Shared} {R : Result → Shared → Prop} {z TI TO i1 i2 : Addr} {fp1 fp2 : List Addr} {n1 n2 : Nat} {P1 P2 : Nat → Value → Prop} {St1 St2 : Nat → Heap → Prop}
end
section
variable {prog : Program} {w : World} {A : Around} {E : Value → Shared → Prop} {s : Shared} {z TI TO i1 i2 : Addr} {fp1 fp2 : List Addr} {n1 n2 : Nat} {P1 P2 : Nat → Value → Prop} {St1 St2 : Nat → Heap → Prop}
end
end PySem
namespace Ev
open PySem PySem.Spec PyProof.Rows L2
section
variable {X : Cx} {pos : Pos}
end
section
variable {G : Glo} {X : Cx} {W' : WX} {pos : Pos}
end
end Ev

namespace Ev
open PySem PySem.Spec PyProof.Rows L2
/-! ## a dict of the module: texts to numbers -/
def KDr (K : PySem.W.Frag) (w : World) (p : Addr) (z : Str) (r : Option Int) : Prop := ∃ es n, K.lookup p = some ⟨.type "dict", none, .dict es n, #[]⟩ ∧ PySem.W.KeysLit w.params es.toList ∧ (p == sysModules) = false ∧ ∃ u : Option Value, PySem.W.nsIn K p z = some u ∧ match r with
  | some i => ∃ t, u = some (.int i t)
  | none => u = none
def KDt (K : PySem.W.Frag) (w : World) (p : Addr) (tab : List (Str × Option Int)) : Prop := ∀ e ∈ tab, KDr K w p e.1 e.2
section
variable {X : Cx}
end
section
variable {G : Glo} {X : Cx} {W' : WX} {pos : Pos}
/-! ## xs.insert(i, y) -/
end
open PySem PySem.Spec PyProof.Rows L2
/-! ## a def under another name -/
section
variable {G : Glo} {P : Program} {w : World} {mg : Str → Option Value} {base : Heap} {k n : Nat} {nm x : Str} {ps : List Str} {F : Fn} {f : Addr} {fd : FuncData} {st : Stmt}
def FdA (K : PySem.W.Frag) (mg : Str → Option Value) (st : Stmt) (nm x : Str) (ps : List Str) : Prop := ∃ (f : Addr) (fd : FuncData), Fun K nm nm st f fd ∧ mg x = some (.ref f) ∧ Binds K fd ps []
end
end Ev

namespace PySem
open PySem.AutoSeq1
/-- xs.extend(t), t a tuple -/
theorem evExt_tuple (l : Addr) (items : Array Value) (n : Nat) (b : Addr) (items2 : Array Value) (n2 : Nat) (dd : Option Addr) (sl : Array (Option Value)) (hs0 : ¬(!items.isEmpty && Builtin.List.listTooLong (items.size + items2.size)) = true) (hs1 : items.size ≤ sizeLine) (hs2 : items.size + items2.size ≤ sizeLine + 1 := by seq_fits) :
    Meets (Builtin.«list.extend» ⟨[.ref l, .ref b], []⟩) (fun _ R s => s.heap.get? l = some { cls := .type "list", dict := none, data := .seq items n, slots := #[] } ∧ s.heap.get? b = some { cls := .type "tuple", dict := dd, data := .seq items2 n2, slots := sl } ∧ R (.ok (.ret Value.none)) { s with heap := s.heap.update l (Obj.mapSeq fun x => x ++ items2), toks := s.toks }) :=
  .of_wp fun prog w A R s h => by
    obtain ⟨hp, g, d, tk, os⟩ := s; obtain ⟨hl, hb, h⟩ := h; have f1 := idx_int; have f2 := sub_tuple_tuple; have f3 := sub_list_list; have f4 := sub_tuple_list; have f5 := sub_list_tuple;
    have hz' : (items ++ items2).size ≤ sizeLine + 1 := by rw [Array.size_append]; exact hs2
    wp_walk using (wpAny_updateSeq hl rfl (hz := hs1) (_hz' := hz')), wpAny_loadPart' hl, wpAny_loadPart' hb; exact ⟨_, rfl, h⟩
end PySem
namespace Ev
open PySem PySem.Spec PyProof.Rows L2
def rExtend2 (K : PySem.W.Frag) : V → List V → Hp → VK → Prop := fun x vs H Q => ∃ l b xs zs, x = .ref l ∧ vs = [.ref b] ∧ H l = some (.lst xs) ∧ (H b = some (.lst zs) ∨ SqT K H b zs) ∧ xs.length + zs.length ≤ 1000000 ∧ Q .non (upd H l (.lst (xs ++ zs)))
section
variable {X : Cx}
theorem mt_extend2 : MtM X "list.extend" (rExtend2 X.K) := by
  intro pins s σ H x vs v us Q I rx rv h
  obtain ⟨l, b, xs, zs, rfl, rfl, hH, hB, hz, q⟩ := h
  rcases hB with hB | hB
  · exact mt_extend pins s σ H (.ref l) [.ref b] v us Q I rx rv ⟨l, b, xs, zs, rfl, rfl, hH, hB, by rw [sizeLine_eq]; omega, q⟩
  · cases rx
    obtain ⟨u, rfl, ru⟩ := rv.one
    cases ru
    obtain ⟨z, its, n, r, hl, e⟩ := I.lstM hH
    obtain ⟨its2, r2, ⟨o2, e2, c2, n2, d2⟩, z2⟩ := I.tuple hB
    obtain ⟨cc, dd, dat, sl⟩ := o2
    simp only at c2 d2
    subst c2 d2
    have hl2 : its2.length = zs.length := r2.length.symm
    have hl1 : its.length = xs.length := r.length.symm
    have hsz : its.toArray.size + its2.toArray.size ≤ sizeLine := by rw [List.size_toArray, List.size_toArray, sizeLine_eq]; omega
    have hlong : ¬ (!its.toArray.isEmpty && Builtin.List.listTooLong (its.toArray.size + its2.toArray.size)) = true := by
      rw [notLongL hsz, Bool.and_false]
      exact Bool.false_ne_true
    refine call_meets PySem.F.slot_list_extend ⟨_, e, rfl⟩ PySem.F.entry_list_extend (PySem.F.args_list_extend_2 _ _)
      (evExt_tuple l its.toArray n b its2.toArray n2 dd sl hlong (by rw [List.size_toArray, sizeLine_eq]; omega) (by omega)) ⟨e, e2, ?_⟩
    refine ⟨.non, _, I.lset (its' := its ++ its2) hH e (by simp) (r.append r2) ?_, rfl, q⟩
    rw [List.length_append, sizeLine_eq]
    omega
end
section
variable {G : Glo} {X : Cx} {W' : WX} {pos : Pos}
noncomputable def mExt2 : Opm := fun w ws S => one ws fun y => oobj w S fun i xs => seqWK y S fun ys => match Nat.ble (xs.length + ys.length) 10000 with
  | true => appK xs ys fun zs => S.setK i (.lst zs) fun S1 => .ok (.k .non) S1
  | false => .stuck
theorem ms_ext2 : MtS G (rExtend2 G.K) mExt2 := fun W' C w v ws vs Q ok rv rvs p => by
  obtain ⟨y, u, rfl, ru, p⟩ := post_one rvs p
  obtain ⟨i, xs, a, us, rfl, h0, h1, h2, h3, p⟩ := post_oobj ok rv p
  cases y with
  | k _ => exact post_stuck p
  | tup ys =>
    unfold RW at ru
    obtain ⟨b, zs, rfl, g1, g2⟩ := ru
    have p : Post G W' C (match Nat.ble (xs.length + ys.length) 10000 with
      | true => appK xs ys fun zs => C.S.setK i (.lst zs) fun S1 => (Res.ok (W.k .non) S1 : Res W)
      | false => .stuck) (PhE G Q) := p
    cases q : Nat.ble (xs.length + ys.length) 10000 with
    | false => simp only [q] at p; exact post_stuck p
    | true =>
      simp only [q, appK_eq, FH.setK_eq] at p
      have l3 : xs.length + ys.length ≤ 10000 := Nat.le_of_ble_eq_true q
      exact ⟨a, b, us, zs, rfl, rfl, h2, .inr g1, by rw [h3.length, g2.length]; omega, post_put ok h0 h1 (h3.append g2) mk_k p⟩
  | mix _ => (first | exact post_stuck (by assumption) | exact .inl (by assumption) | (exfalso; contradiction) | (unfold nkey at *; contradiction) | (unfold RW at *; simp_all; done) | (simp_all; done))
  | pt _ => (first | exact post_stuck (by assumption) | exact .inl (by assumption) | (exfalso; contradiction) | (unfold nkey at *; contradiction) | (unfold RW at *; simp_all; done) | (simp_all; done))
  | obj j =>
    have p : Post G W' C (kobj j C.S fun ys => match Nat.ble (xs.length + ys.length) 10000 with
      | true => appK xs ys fun zs => C.S.setK i (.lst zs) fun S1 => (Res.ok (W.k .non) S1 : Res W)
      | false => .stuck) (PhE G Q) := p
    obtain ⟨ys, b, zs, _, e1, g2, g3, p⟩ := post_kobj ok p
    unfold RW at ru
    obtain ⟨b', rfl, e⟩ := ru
    rw [e1] at e; cases e
    cases q : Nat.ble (xs.length + ys.length) 10000 with
    | false => simp only [q] at p; exact post_stuck p
    | true =>
      simp only [q, appK_eq, FH.setK_eq] at p
      have l3 : xs.length + ys.length ≤ 10000 := Nat.le_of_ble_eq_true q
      exact ⟨a, b, us, zs, rfl, rfl, h2, .inl g2, by rw [h3.length, g3.length]; omega, post_put ok h0 h1 (h3.append g3) mk_k p⟩
theorem mt_extend2G (hx : Okx G X) : MtM X "list.extend" (rExtend2 G.K) := by
  rw [← hx.k]
  exact mt_extend2
end
open PySem PySem.Spec PyProof.Rows L2
/-! ## list(d) -/
section
variable {X : Cx}
theorem kxr_keys : ∀ {xs : List (NestedKey × Addr × V)} {ys : List (NestedKey × Addr × Value)}, Paired KxR xs ys → (xs.map fun x => V.ref x.2.1) = (ys.map fun x => x.2.1).map V.ref
  | _, _, .nil => rfl
  | _, _, .cons h t => by
    rw [List.map_cons, List.map_cons, List.map_cons, h.2.1, kxr_keys t]
def rListN (P : Program) (w : World) : List V → Hp → VK → Prop := fun xs H Q => ∃ d ks, xs = [V.ref d] ∧ Rd H d (dctO P w d ks) ∧ ∀ p, H p = none → Q (.ref p) (upd H p (.lst (ks.map fun x => V.ref x.2.1)))
theorem call_list_dN (hc : X.calm = true) : CallR X (.type "list") (rListN X.prog X.w) := by
  intro pins s σ H xs us Q I r h
  obtain ⟨d, kvs, rfl, hd, q⟩ := h
  obtain ⟨u, rfl, rx⟩ := r.one
  cases rx
  obtain ⟨⟨hs, z, ks, pr, hn, o, es, ep, ho, hx, hdt, he⟩, _, _⟩ := (show ObjOk X.prog X.w H s.heap d (dctO X.prog X.w d kvs) from hd.ok I.hok)
  have l1 : es.size = ks.length := size_of_entries he
  have l2 : kvs.length = ks.length := Paired.length pr
  refine PySem.W.kdl_call (kdl_raw hs hx hdt) (I.ok.hd hc) ho (by omega) fun h' tk acc' c' kp e it => ?_
  have ea : acc'.toList = ks.map fun x => Value.ref x.2.1 := by
    have hl : acc'.toList.length = ks.length := by rw [Array.length_toList, it.1]; exact l1
    apply List.ext_getElem?
    intro j
    rw [List.getElem?_map]
    cases hj : acc'.toList[j]? with
    | none =>
      have h1 := List.getElem?_eq_none_iff.mp hj
      rw [List.getElem?_eq_none (by omega)]
      all_goals rfl
    | some v =>
      obtain ⟨en, hen, hv⟩ := it.2 j v (by rw [← Array.getElem?_toList]; exact hj)
      have qe := entry_at he j
      rw [hen] at qe
      cases hb : ks[j]? with
      | none =>
        rw [hb] at qe
        exact nomatch (show some en = none from qe)
      | some b =>
        rw [hb] at qe
        have e2 : en = entryOfKey (nestedKind X.prog X.w) b := Option.some.inj qe
        rw [hv, e2]
        all_goals rfl
  have ek : (kvs.map fun x => V.ref x.2.1) = (ks.map fun x => x.2.1).map V.ref := kxr_keys pr
  have eb : acc'.toList = (ks.map fun x => x.2.1).map Value.ref := by rw [ea, List.map_map]; all_goals rfl
  have rv : Vals (kvs.map fun x => V.ref x.2.1) acc'.toList := by rw [ek, eb]; exact vals_refs _
  have hz : (kvs.map fun x => V.ref x.2.1).length ≤ sizeLine := by rw [List.length_map]; omega
  refine ⟨.ref s.heap.objs.size, _, I.laid (t' := tk) (o := .lst (kvs.map fun x => V.ref x.2.1)) kp (Nat.le_refl _) ?_, rfl, q _ (I.hok.fresh (Nat.le_refl _))⟩
  exact ⟨hz, acc'.toList, c', rv, by rw [Array.toArray_toList]; exact e⟩
end
section
variable {G : Glo} {X : Cx} {W' : WX} {pos : Pos}
noncomputable def keysWl (kvs : List (W × W)) : List W := List.rec (motive := fun _ => List W) [] (fun p _ ih => Prod.rec (motive := fun _ => List W) (fun k _ => k :: ih) p) kvs
theorem rws_keys {K : PySem.W.Frag} {ρ : List Addr} {H : Hp} : ∀ {kvs : List (W × W)} {ks : List (NestedKey × Addr × V)}, KVs K ρ H kvs ks → RWs K ρ H (keysWl kvs) (ks.map fun x => V.ref x.2.1)
  | [], ks, h => by
    cases (show ks = [] from h)
    exact .nil
  | p :: r, ks, h => by
    obtain ⟨k, b, v, ys', rfl, h1, h2, h3, h4⟩ := h
    exact .cons h2 (rws_keys h4)
noncomputable def cList2 : Opn := fun ws S => one ws fun w => dctK w S (cList ws S) fun kvs => newK S (.lst (keysWl kvs)) fun n S1 => .ok (.obj n) S1
theorem cx_list2 (hx : Okx G X) : CallX G X (.type "list") cList2 := by
  obtain ⟨r1, h1, h2⟩ := cx_list (X := X) hx
  refine ⟨fun xs H Q => r1 xs H Q ∨ rListN G.P G.w xs H Q, ?_, fun W' C ws vs Q ok rv p => ?_⟩
  · intro pins s σ H xs us Q I r h
    rcases h with h | h
    · exact h1 pins s σ H xs us Q I r h
    · exact call_list_dN hx.calm pins s σ H xs us Q I r (by rw [hx.pr, hx.wo]; exact h)
  · have p0 := p
    obtain ⟨w, v, rfl, r, p⟩ := post_one rv p
    rcases post_dctK ok r p with p2 | ⟨a, xs, kvs, rfl, rd, kv, p2⟩
    · exact .inl (h2 W' C ws [v] Q ok rv p2)
    · rw [newK_eq] at p2
      exact .inr ⟨a, xs, rfl, rd, post_newL ok p2 (rws_keys kv)⟩
end
end Ev

namespace Ev
open PySem PySem.Spec PyProof.Rows L2
/-! ## a dict comprehension that a plain name takes -/
section
variable {X : Cx}
end
section
variable {G : Glo} {X : Cx} {W' : WX} {pos : Pos}
end
end Ev

namespace Ev
open PySem PySem.Spec PyProof.Rows L2
/-! ## xs[::-1] -/
section
variable {prog : Program} {w : World} {A : Around} {E : Value → Shared → Prop} {s : Shared}
theorem rev_adjust (n : Nat) : Builtin.Slice.sliceAdjust none none (-1) (n : Int) = ((n : Int) - 1, -1) := by
  unfold Builtin.Slice.sliceAdjust
  rfl
theorem rev_places (n : Nat) : Builtin.Slice.slicePlaces ((n : Int) - 1) (-1) (-1) = n := by
  unfold Builtin.Slice.slicePlaces
  have h1 : ¬ ((-1 : Int) > 0) := by omega
  simp only [h1, if_false]
  have e : (-(-1) : Int) = 1 := by omega
  rw [e]
  split
  · rw [Int.ediv_one]; omega
  · omega
theorem sliceApplied_rev {sl : Addr} {t : Tok} {n : Nat} {Q : Int × Int × Nat → Shared → Prop} (hs : s.heap.IsSliceOf sl .none .none (.int (-1) t))
    (h : Q ((n : Int) - 1, -1, n) s) : wpAny (model prog w) A (Builtin.Slice.sliceApplied (.ref sl) (pure (n : Int))) Q E s := by
  obtain ⟨os, hos, hcs, hds⟩ := id hs
  unfold Builtin.Slice.sliceApplied Builtin.Slice.sliceFields
  refine wpAny_bind (wpAny_bind (wpAny_field hos hds (x := .none) rfl (wpAny_bind (wpAny_field hos hds (x := .none) rfl (wpAny_bind (wpAny_field hos hds (x := .int (-1) t) rfl (wpAny_pure ?_)))))))
  refine wpAny_bind (slicePart_int ?_)
  show wpAny _ _ (if ((-1 : Int) == 0) = true then _ else _) _ _ s
  rw [if_neg (by decide)]
  refine wpAny_bind (slicePart_none (wpAny_bind (slicePart_none (wpAny_bind (wpAny_pure ?_)))))
  show wpAny _ _ (match Builtin.Slice.sliceAdjust none none (-1) (n : Int) with | (lo, hi) => pure (lo, (-1 : Int), Builtin.Slice.slicePlaces lo hi (-1))) _ _ s
  rw [rev_adjust n]
  show wpAny _ _ (pure ((n : Int) - 1, (-1 : Int), Builtin.Slice.slicePlaces ((n : Int) - 1) (-1) (-1))) _ _ s
  rw [rev_places]
  exact wpAny_pure h
theorem fm_congr {α β : Type} {f g : α → Option β} : ∀ {l : List α}, (∀ x ∈ l, f x = g x) → l.filterMap f = l.filterMap g
  | [], _ => rfl
  | x :: l, h => by
    rw [List.filterMap_cons, List.filterMap_cons, h x List.mem_cons_self, fm_congr fun y hy => h y (List.mem_cons_of_mem _ hy)]
theorem pick_rev (its : List Value) (f : Nat → Nat) (hf : ∀ k, k < its.length → f k = its.length - 1 - k) : ((List.range its.length).filterMap fun k => its[f k]?) = its.reverse := by
  have e : (List.range its.length).filterMap (fun k => its[f k]?) = (List.range its.length).filterMap (fun k => its.reverse[k]?) := by
    refine fm_congr fun k hk => ?_
    have hk' := List.mem_range.mp hk
    rw [hf k hk', List.getElem?_reverse hk']
  rw [e]
  have : ∀ (l : List Value), (List.range l.length).filterMap (fun k => l[k]?) = l := by
    intro l
    apply List.ext_getElem?
    intro i
    induction l generalizing i with
    | nil => simp
    | cons x r ih =>
      rw [List.length_cons, List.range_succ_eq_map, List.filterMap_cons]
      simp only [List.getElem?_cons_zero, List.filterMap_map]
      cases i with
      | zero => simp
      | succ j =>
        rw [List.getElem?_cons_succ, List.getElem?_cons_succ]
        have := ih j
        rw [← this]
        congr 1
  have h := this its.reverse
  rw [List.length_reverse] at h
  exact h
theorem getItem_tuple_rev {t sl : Addr} {its : List Value} {tk : Tok} {Q : Value → Shared → Prop} (ht : IsTup s.heap t its.toArray) (hs : s.heap.IsSliceOf sl .none .none (.int (-1) tk))
    (h : Q (.ref s.heap.objs.size) { s with heap := s.heap.push { cls := .type "tuple", data := .seq its.reverse.toArray } })
    (hsz : its.length ≤ sizeLine) : wpAny (model prog w) A (getItem (.ref t) (.ref sl)) Q E s := by
  have htake : sizeOk (.seq its.reverse.toArray) := by
    show its.reverse.toArray.size ≤ sizeLine
    rw [List.size_toArray, List.length_reverse]
    exact hsz
  obtain ⟨os, hos, hcs, hds⟩ := id hs
  have hTs : s.TypeIs (.ref sl) "slice" := ⟨os, hos, hcs⟩
  unfold getItem
  try with_reducible refine wpAny_holding ?_
  first | refine wpAny_bind (wpAny_pure ?_) | skip
  refine wpAny_bind (wpAny_sequenceKey ht.typeIs (by decide) ?_)
  refine wpAny_bind (wpAny_callSpecial?_slot (name := Str.ofString "__getitem__") ht.typeIs PyProof.Rows.slot_tuple_getitem
    (wpAny_call_entry PyProof.Rows.slot_tuple_getitem ht.typeIs entry_tuple_getitem ?_ (args_tuple_getitem _ _)))
  show wpAny _ _ (Builtin.Tuple.tupleItemsOf (.ref t) >>= _) _ _ s
  refine wpAny_bind (tupleItemsOf_ ht ?_)
  refine wpAny_bind (wpAny_typeOf hTs ?_)
  rw [if_pos (by decide)]
  refine wpAny_bind (sliceApplied_rev hs ?_)
  have hno : ¬ ((((its.toArray.size : Int) - 1) == 0 && (-1 : Int) == 1 && its.toArray.size == its.toArray.size) = true) := by
    intro q
    rw [Bool.and_eq_true, Bool.and_eq_true] at q
    exact absurd q.1.2 (by decide)
  show wpAny _ _ (if (((its.toArray.size : Int) - 1) == 0 && (-1 : Int) == 1 && its.toArray.size == its.toArray.size) = true then _ else _) _ _ s
  rw [if_neg hno]
  have e : ((List.range its.toArray.size).filterMap fun (k : Nat) => its.toArray[(((its.toArray.size : Int) - 1) + (k : Int) * (-1)).toNat]?) = its.reverse := by
    have := pick_rev its (fun k => (((its.toArray.size : Int) - 1) + (k : Int) * (-1)).toNat) (fun k hk => by rw [List.size_toArray]; omega)
    rw [← this, List.size_toArray]
    simp
  rw [e]
  first
    | exact wpAny_bind (m := Builtin.Tuple.tupleExact _) (wpAny_newObj_type (wpAny_pure ⟨_, rfl, wpAny_pure h⟩) htake)
    | exact wpAny_bind (m := Builtin.Tuple.tupleExact _) (wpAny_newObj_type (wpAny_bind (wpAny_pure (wpAny_pure ⟨_, rfl, wpAny_pure h⟩))) htake)
    | exact wpAny_bind (wpAny_bind (m := Builtin.Tuple.tupleExact _) (wpAny_newObj_type (wpAny_pure (wpAny_pure ⟨_, rfl, wpAny_pure h⟩)) htake))
    | exact wpAny_bind (wpAny_bind (m := Builtin.Tuple.tupleExact _) (wpAny_newObj_type (wpAny_pure ⟨_, rfl, wpAny_pure h⟩) htake))
theorem slicePick_rev (its : List Value) : slicePick its.toArray none none (some (-1)) = its.reverse.toArray := by
  unfold slicePick
  have e : sliceBounds none none (some (-1)) its.toArray.size = ((its.length : Int) - 1, -1, -1) := by
    rw [List.size_toArray]; rfl
  rw [e]
  have r : sliceRange ((its.length : Int) - 1) (-1) (-1) = (List.range its.length).map fun k => its.length - 1 - k := by
    unfold sliceRange
    have h1 : ¬ ((-1 : Int) > 0) := by omega
    simp only [h1, if_false]
    have e : (-(-1) : Int) = 1 := by omega
    rw [e]
    have c : (if (its.length : Int) - 1 > -1 then ((its.length : Int) - 1 - -1 - -1 - 1) / 1 else 0).toNat = its.length := by
      split
      · rw [Int.ediv_one]; omega
      · omega
    rw [c]
    apply List.map_congr_left
    intro k hk
    have := List.mem_range.mp hk
    omega
  show ((sliceRange ((its.length : Int) - 1) (-1) (-1)).filterMap (its.toArray[·]?)).toArray = _
  rw [r, List.filterMap_map]
  have := pick_rev its (fun k => its.length - 1 - k) (fun _ _ => rfl)
  rw [← this]
  congr 1
  refine fm_congr fun k _ => ?_
  simp
end
section
variable {X : Cx} {e : Expr} {te : TE} {pos p2 : Pos}
/-- a list, a tuple: turned -/
def rRevS (K : PySem.W.Frag) : V → Hp → VK → Prop := fun x H Q => ∃ a xs, x = .ref a ∧ ((SqL K H a xs ∧ ∀ p, H p = none → Q (.ref p) (upd H p (.lst xs.reverse))) ∨ (SqT K H a xs ∧ ∀ p, H p = none → Q (.ref p) (upd H p (.tup xs.reverse))))
def tRevS (K : PySem.W.Frag) (te : TE) : TE := fun σ H Q => te σ H fun x H1 => rRevS K x H1 Q
theorem vals_rev : ∀ {xs : List V} {us : List Value}, Vals xs us → Vals xs.reverse us.reverse
  | _, _, .nil => .nil
  | x :: xs, u :: us, .cons h r => by
    rw [List.reverse_cons, List.reverse_cons]
    exact (vals_rev r).append (.cons h .nil)
theorem pe_revS {st : Expr} (he : PE X e te) (hst : PE X st (tC (.int (-1)))) : PE X (.Subscript e (.Slice none none (some st) p2) pos) (tRevS X.K te) := by
  refine ⟨fun pins s σ H Q I h => ?_⟩
  refine Subscript_ (thn (he.run pins s σ H _ I h) fun v s1 ⟨x, H1, I1, r1, q1⟩ => ?_)
  refine wpAny_Slice ?_
  rw [evalPart_none]
  refine wpAny_pure (wpAny_pure ?_)
  rw [evalPart_some]
  refine thn (hst.run pins s1 σ H1 (fun y H2 => y = .int (-1) ∧ H2 = H1) I1 ⟨rfl, rfl⟩) fun vs s3 ⟨y, H3, I3, r3, e3, eH⟩ => ?_
  subst e3 eH
  obtain ⟨tk, rfl⟩ := r3
  have I4 : Inv X pins σ H3 { s3 with heap := s3.heap.push { cls := .type "slice", data := .fields #[.none, .none, .int (-1) tk] } } := I3.kept (t' := s3.toks) fun b ob q => Heap.get?_push_of_some _ q
  have hs : ({ s3 with heap := s3.heap.push { cls := .type "slice", data := .fields #[.none, .none, .int (-1) tk] } } : Shared).heap.IsSliceOf s3.heap.objs.size .none .none (.int (-1) tk) := Heap.IsSliceOf.new ..
  obtain ⟨a, xs, rfl, q⟩ := q1
  cases r1
  show wpAny (model X.prog X.w) X.A (subscriptTail e (.Slice none none (some st) p2) (.ref a) (.ref s3.heap.objs.size)) (EP X pins σ Q) X.xe { s3 with heap := s3.heap.push { cls := .type "slice", data := .fields #[.none, .none, .int (-1) tk] } }
  revert I4 hs
  generalize { s3 with heap := s3.heap.push { cls := .type "slice", data := .fields #[.none, .none, .int (-1) tk] } } = s
  intro I hs
  rcases q with ⟨hx, q⟩ | ⟨hx, q⟩
  · obtain ⟨its, r, ht, hz⟩ := I.list hx
    have hlen := r.length
    refine tail_any (ops := [.ref a, .ref s3.heap.objs.size]) ht.isList.typeIs slot_list_getitem.lookup ?_ (by with_unfolding_all rfl)
    refine wpAny_getItem_list_slice ht.isList hs .none .none (.int (-1) tk) (by simp) ?_ (by rw [List.size_toArray] <;> omega)
    rw [slicePick_rev]
    refine ⟨.ref s.heap.objs.size, _, I.laid (t' := s.toks) (o := .lst xs.reverse) (fun b ob q => Heap.get?_push_of_some _ q) (Nat.le_refl _) ?_, rfl, q _ (I.hok.fresh (Nat.le_refl _))⟩
    exact ⟨by rw [List.length_reverse]; exact hz, _, 0, vals_rev r, Heap.get?_push_size _ rfl⟩
  · obtain ⟨its, r, ht, hz⟩ := I.tuple hx
    have hlen := r.length
    refine tail_any (ops := [.ref a, .ref s3.heap.objs.size]) ht.typeIs PyProof.Rows.slot_tuple_getitem.lookup ?_ (by with_unfolding_all rfl)
    refine getItem_tuple_rev ht hs ?_ (by rw [← hlen]; exact hz)
    refine ⟨.ref s.heap.objs.size, _, I.laid (t' := s.toks) (o := .tup xs.reverse) (fun b ob q => Heap.get?_push_of_some _ q) (Nat.le_refl _) ?_, rfl, q _ (I.hok.fresh (Nat.le_refl _))⟩
    exact ⟨by rw [List.length_reverse]; exact hz, _, vals_rev r, IsTup.new _ _⟩
end
section
variable {G : Glo} {X : Cx} {W' : WX} {pos : Pos}
theorem RWs.turned {K : PySem.W.Frag} {ρ : List Addr} {H : Hp} : ∀ {ws : List W} {vs : List V}, RWs K ρ H ws vs → RWs K ρ H ws.reverse vs.reverse
  | [], vs, h => by unfold RWs at h; subst h; exact .nil
  | w :: ws, vs, h => by
    unfold RWs at h
    obtain ⟨v, r, e, h1, h2⟩ := h
    subst e
    rw [List.reverse_cons, List.reverse_cons]
    exact h2.turned.append (.cons h1 .nil)
noncomputable def gRevS (w : W) (S : FH) : Res W := match w with
  | .tup xs => revK xs [] fun zs => .ok (.tup zs) S
  | .obj o => kobj o S fun xs => revK xs [] fun zs => newK S (.lst zs) fun n S1 => .ok (.obj n) S1
  | _ => .stuck
noncomputable def evRevS (f : Evl) : Evl := fun l S => (f l S).bnd fun w S1 => gRevS w S1
theorem se_revS {f : Evl} {e st : Expr} {p2 : Pos} (hx : Okx G X) (he : SE G X W' f e) (hst : PE X st (tC (.int (-1)))) : SE G X W' (evRevS f) (.Subscript e (.Slice none none (some st) p2) pos) :=
  pe_imp (pe_revS he hst) fun σ H Q ⟨C, l, e, ok, r, p⟩ => by
    subst e
    refine ⟨C, l, rfl, ok, r, Post.mono (fun w C1 ok1 x1 p1 v rv => ?_) (Post.bnd p)⟩
    rw [hx.k]
    unfold gRevS at p1
    cases w with
    | k u => exact post_stuck p1
    | tup xs =>
      unfold RW at rv
      obtain ⟨c, vs, rfl, h1, h2⟩ := rv
      simp only [revK_eq, List.append_nil] at p1
      refine ⟨c, vs, rfl, .inr ⟨h1, ?_⟩⟩
      exact post_tup (vs := vs.reverse) (ws := xs.reverse) (Q := Q) (W' := W') ok1 p1 h2.turned
    | mix _ => (first | exact post_stuck (by assumption) | exact .inl (by assumption) | (exfalso; contradiction) | (unfold nkey at *; contradiction) | (unfold RW at *; simp_all; done) | (simp_all; done))
    | pt _ => (first | exact post_stuck (by assumption) | exact .inl (by assumption) | (exfalso; contradiction) | (unfold nkey at *; contradiction) | (unfold RW at *; simp_all; done) | (simp_all; done))
    | obj o =>
      obtain ⟨xs, c, vs, h0, h1, h2, h3, p4⟩ := post_kobj ok1 p1
      unfold RW at rv
      obtain ⟨c', rfl, e⟩ := rv
      rw [h1] at e; cases e
      simp only [revK_eq, List.append_nil, newK_eq] at p4
      exact ⟨c, vs, rfl, .inl ⟨SqL.of h2, post_newL (vs := vs.reverse) ok1 p4 h3.turned⟩⟩
theorem pe_neg1 {j : _} {p1 p2 : Pos} : PE X (.UnaryOp .USub (.Constant (.int 1) j p1) p2) (tC (.int (-1))) := pe_imp (pe_un un_neg pe_int) fun σ H Q h => ⟨1, rfl, h⟩
end
end Ev

namespace Ev
open PySem PySem.Spec PyProof.Rows L2
/-! ## xs.index(y) -/
section
variable {G : Glo} {X : Cx} {W' : WX} {pos : Pos}
/-! ## t.index(z), t a tuple of texts -/
end
end Ev

namespace Ev
open PySem PySem.Spec PyProof.Rows L2
/-! ## instances of own classes -/
theorem FRs.length {K : PySem.W.Frag} {ρ : List Addr} {H : Hp} : ∀ {fs : List (Str × W)} {vs : List (Str × V)}, FRs K ρ H fs vs → vs.length = fs.length
  | [], vs, h => by
    unfold FRs at h
    subst h
    rfl
  | p :: r, vs, h => by
    unfold FRs at h
    obtain ⟨u, ys, rfl, h1, h2⟩ := h
    simp [h2.length]
section
variable {G : Glo} {X : Cx} {W' : WX} {pos : Pos}
/-! ### o.f -/
structure FldOk (G : Glo) (c : Nat) (f : Str) : Prop where
  cls : Cls G.K (G.cad c)
  no : NoAttr G.K (G.cad c) f
/-! ### o.f = e -/
/-! ### o.f, o.g, .. = a tuple; o a name -/
end
/-! ### o.m(..), C(..) -/
section
variable {X : Cx} {CX : CXT} {k : Nat} {f C : Addr} {fd : FuncData} {ps : List Str} {sp : Sp} {dvs : List V} {ds : List Value} {E : L2.St → XK} {x m : Str} {p pos apos : Pos} {e o : Expr} {es : List Expr} {ta : TE} {t : TA}
end
section
variable {G : Glo} {X : Cx} {W' : WX} {k c n : Nat} {x m : Str} {ps : List Str} {F : Fn} {fa : Eva} {fo : Evl} {p pos apos : Pos} {e o : Expr} {es : List Expr}
/-- a method, as a caller sees it -/
structure DefM (G : Glo) (P : Program) (w : World) (mg : Str → Option Value) (base : Heap) (k c : Nat) (m : Str) (ps : List Str) (n : Nat) (F : Fn) : Prop where
  ex : ∃ (f : Addr) (fd : FuncData), FnOk P w G.K mg base (L2.CX P w) k f fd ps (spF G F n) ∧ ps.length = n ∧ Binds G.K fd ps [] ∧ Meth G.K (G.cad c) m f ∧ Cls G.K (G.cad c)
/-- a class's __init__ -/
structure DefI (G : Glo) (P : Program) (w : World) (mg : Str → Option Value) (base : Heap) (k c : Nat) (x : Str) (ps : List Str) (n : Nat) (F : Fn) : Prop where
  ex : ∃ (f : Addr) (fd : FuncData), FnOk P w G.K mg base (L2.CX P w) k f fd ps (spF G F n) ∧ ps.length = n ∧ Binds G.K fd ps [] ∧ Mk G.K (G.cad c) f ∧ mg x = some (.ref (G.cad c))
end
/-! facts from the head -/
section
variable {G : Glo} {mg : Str → Option Value} {base : Heap} {k c n : Nat} {x m : Str} {ps : List Str} {F : Fn}
end
end Ev

namespace Ev
open PySem PySem.Spec PyProof.Rows L2
/-! ## d.get(k, z), d a dict of the module: texts to numbers -/
section
variable {X : Cx} {o e e2 : Expr} {t : TA} {apos cpos : Pos} {p : Addr}
end
section
variable {G : Glo} {X : Cx} {W' : WX} {pos : Pos}
end
end Ev

namespace Ev
open PySem PySem.Spec PyProof.Rows L2
/-! ## len(d) -/
section
variable {G : Glo} {X : Cx} {W' : WX} {pos : Pos}
theorem call_len_dN (hu : X.A.units + 9 < cLine) : CallR X (.builtin "len") (fun xs H Q => ∃ d ks, xs = [V.ref d] ∧ Rd H d (dctO X.prog X.w d ks) ∧ KeysOk X.K H ks ∧ Q (.int (ks.length : Nat)) H) := by
  intro pins s σ H xs us Q I r h
  obtain ⟨d, ks, rfl, hd, hk, q⟩ := h
  obtain ⟨u, rfl, rx⟩ := r.one
  cases rx
  obtain ⟨hs, z, ys, pr, dd⟩ := dct_at I hd hk
  have l2 : ks.length = ys.length := Paired.length pr
  have hsl := sizeLine_eq
  exact call_len_dictH hs dd (by omega) ⟨.int _, H, I.tok _, ⟨_, by rw [l2]⟩, q⟩
noncomputable def cLenD (g : Opn) : Opn := fun ws S => one ws fun w => dctK w S (g ws S) fun kvs => fNat kvs.length fun n => .ok (.k (.int (.ofNat n))) S
theorem cx_lenD {g : Opn} (hx : Okx G X) (hg : CallX G X (.builtin "len") g) : CallX G X (.builtin "len") (cLenD g) := by
  obtain ⟨r, h1, h2⟩ := hg
  refine ⟨fun xs H Q => r xs H Q ∨ ∃ d ks, xs = [V.ref d] ∧ Rd H d (dctO X.prog X.w d ks) ∧ KeysOk X.K H ks ∧ Q (.int (ks.length : Nat)) H, fun pins s σ H xs us Q I rv h => ?_, fun W' C ws vs Q ok rv p => ?_⟩
  · rcases h with h | h
    · exact h1 pins s σ H xs us Q I rv h
    · exact call_len_dN (by have := hx.un; omega) pins s σ H xs us Q I rv h
  · obtain ⟨w, v, rfl, r1, p⟩ := post_one rv p
    rcases post_dctK ok r1 p with p2 | ⟨a, xs, kvs, rfl, rd, kv, p2⟩
    · exact .inl (h2 W' C _ _ Q ok rv p2)
    · rw [fNat_eq] at p2
      exact .inr ⟨a, xs, rfl, by rw [hx.pr, hx.wo]; exact rd, by rw [hx.k]; exact kv.keys, by rw [kv.length]; exact Post.now ok p2 _ mk_k⟩
end
/-! ## list(d.values()) -/
section
variable {X : Cx} {o : Expr} {td : TE} {apos ipos p pos : Pos}
end
section
variable {G : Glo} {X : Cx} {W' : WX} {pos : Pos}
/-! ## tuple(reversed(xs)), xs a list -/
noncomputable def evTupRev (f : Evl) : Evl := fun l S => (f l S).bnd fun w S1 => match w with
  | .obj o => kobj o S1 fun xs => revK xs [] fun zs => .ok (.tup zs) S1
  | _ => .stuck
theorem se_tupRev {f : Evl} {e : Expr} {p p2 pos2 : Pos} (hx : Okx G X) (hg : Gl X "tuple") (hm : X.mg "tuple" = none) (hg2 : Gl X "reversed") (hm2 : X.mg "reversed" = none) (he : SE G X W' f e)
    (hs : starEach [e] X.env = (false, eval e X.env) :: starEach [] X.env := by rfl)
    (hs2 : starEach [.Call (.Name "reversed" p2) [e] [] pos2] X.env = (false, eval (.Call (.Name "reversed" p2) [e] [] pos2) X.env) :: starEach [] X.env := by rfl) :
    SE G X W' (evTupRev f) (.Call (.Name "tuple" p) [.Call (.Name "reversed" p2) [e] [] pos2] [] pos) :=
  pe_imp (RT.pe_tupRev hx.calm hg hm hg2 hm2 he hs hs2) fun σ H Q ⟨C, l, e, ok, r, p⟩ => by
    subst e
    refine ⟨C, l, rfl, ok, r, Post.mono (fun w C1 ok1 x1 p1 v rv => ?_) (Post.bnd p)⟩
    cases w with
    | k u => exact post_stuck p1
    | tup xs => exact post_stuck p1
    | mix _ => (first | exact post_stuck (by assumption) | exact .inl (by assumption) | (exfalso; contradiction) | (unfold nkey at *; contradiction) | (unfold RW at *; simp_all; done) | (simp_all; done))
    | pt _ => (first | exact post_stuck (by assumption) | exact .inl (by assumption) | (exfalso; contradiction) | (unfold nkey at *; contradiction) | (unfold RW at *; simp_all; done) | (simp_all; done))
    | obj o =>
      obtain ⟨xs, c, vs, h0, h1, h2, h3, p4⟩ := post_kobj ok1 p1
      unfold RW at rv
      obtain ⟨c', rfl, e⟩ := rv
      rw [h1] at e; cases e
      simp only [revK_eq, List.append_nil] at p4
      rw [hx.k]
      exact ⟨c, vs, rfl, SqL.of h2, post_tup (vs := vs.reverse) (ws := xs.reverse) (Q := Q) (W' := W') ok1 p4 h3.turned⟩
/-! ## list(range(..)) -/
abbrev Evr := Lo → FH → Res (Int × Int)
def PhR (Q : Int → Int → Hp → Prop) : Int × Int → Cf → Prop := fun r C' => Q r.1 r.2 C'.H
def rdR (G : Glo) (W' : WX) (f : Evr) : L2.St → Hp → (Int → Int → Hp → Prop) → Prop := fun σ H Q => ∃ (C : Cf) (l : Lo), C.H = H ∧ C.Ok G ∧ RL G C l σ ∧ Post G W' C (f l C.S) (PhR Q)
def SR (G : Glo) (X : Cx) (W' : WX) (f : Evr) (e : Expr) : Prop := PRg X e (rdR G W' f)
theorem prg_imp {X : Cx} {e : Expr} {t t' : L2.St → Hp → (Int → Int → Hp → Prop) → Prop} (h : PRg X e t) (k : ∀ σ H Q, t' σ H Q → t σ H Q) : PRg X e t' := fun pins s σ H Q I q => h pins s σ H Q I (k σ H Q q)
noncomputable def erOne (f : Evl) : Evr := fun l S => (f l S).bnd fun w S1 => kint w .stuck fun n => .ok (0, n) S1
noncomputable def erTwo (f g : Evl) : Evr := fun l S => (f l S).bnd fun a S1 => (g l S1).bnd fun b S2 => kint a .stuck fun i => kint b .stuck fun j => .ok (i, j) S2
theorem sr_one {f : Evl} {a : Expr} {p : Pos} (hg : Gl X "range") (hm : X.mg "range" = none) (ha : SE G X W' f a) (na : starEach [a] X.env = (false, eval a X.env) :: starEach [] X.env := by rfl) : SR G X W' (erOne f) (.Call (.Name "range" p) [a] [] pos) :=
  prg_imp (prg_1 hg hm ha na) fun σ H Q ⟨C, l, e, ok, r, p⟩ => by
    subst e
    refine ⟨C, l, rfl, ok, r, Post.mono (fun w C1 ok1 x1 p1 v rv => ?_) (Post.bnd p)⟩
    obtain ⟨i, e, p1⟩ := post_kint p1
    rw [e] at rv
    exact ⟨i, rw_int rv, Post.now ok1 p1⟩
theorem sr_two {f g : Evl} {a b : Expr} {p : Pos} (hg : Gl X "range") (hm : X.mg "range" = none) (ha : SE G X W' f a) (hb : SE G X W' g b) (na : starEach [a, b] X.env = (false, eval a X.env) :: starEach [b] X.env := by rfl)
    (nb : starEach [b] X.env = (false, eval b X.env) :: starEach [] X.env := by rfl) (hp : (backTo pos (starEach [b] X.env)).any (·.1) = false := by rfl) : SR G X W' (erTwo f g) (.Call (.Name "range" p) [a, b] [] pos) :=
  prg_imp (prg_2 hg hm ha hb na nb hp) fun σ H Q ⟨C, l, e, ok, r, p⟩ => by
    subst e
    refine ⟨C, l, rfl, ok, r, Post.mono (fun w C1 ok1 x1 p1 v rv => ?_) (Post.bnd p)⟩
    refine ⟨C1, l, rfl, ok1, r.mono ok x1, Post.mono (fun w2 C2 ok2 x2 p2 v2 rv2 => ?_) (Post.bnd p1)⟩
    obtain ⟨i, e, p2⟩ := post_kint p2
    obtain ⟨j, e2, p2⟩ := post_kint p2
    have rv := rv.mono ok1 x2
    rw [e] at rv
    rw [e2] at rv2
    exact ⟨i, j, rw_int rv, rw_int rv2, Post.now ok2 p2⟩
noncomputable def upI {α : Type} (n : Nat) (k : List W → α) : Int → α := Nat.rec (motive := fun _ => (List W → α) → Int → α) (fun k _ => k []) (fun _ ih k i => fInt i fun i => fInt (Int.add i 1) fun j => ih (fun r => k (.k (.int i) :: r)) j) n k
theorem upI_eq {α : Type} : ∀ (n : Nat) (k : List W → α) (i : Int), upI n k i = k ((List.range n).map fun m => W.k (.int (i + (m : Nat))))
  | 0, k, i => rfl
  | n + 1, k, i => by
    show (fInt i fun i => fInt (Int.add i 1) fun j => upI n (fun r => k (.k (.int i) :: r)) j) = _
    rw [fInt_eq, fInt_eq, upI_eq n, List.range_succ_eq_map, List.map_cons, List.map_map]
    have e0 : i + ((0 : Nat) : Int) = i := by omega
    have e1 : (fun m => W.k (V.int (Int.add i 1 + (m : Nat)))) = (fun m => W.k (V.int (i + (m : Nat)))) ∘ Nat.succ := by
      funext m
      show W.k (V.int (i + 1 + (m : Nat))) = W.k (V.int (i + ((m + 1 : Nat) : Int)))
      congr 2
      omega
    rw [e0, e1]
theorem rws_up {K : PySem.W.Frag} {ρ : List Addr} {H : Hp} (a b : Int) : RWs K ρ H ((List.range (b - a).toNat).map fun m => W.k (.int (a + (m : Nat)))) (rgV a b) := by
  unfold rgV
  generalize List.range (b - a).toNat = l
  induction l with
  | nil => exact .nil
  | cons x r ih => exact .cons mk_k ih
def rgS (a b : Int) : Bool := and (small a) (and (small b) (Nat.ble (b - a).toNat 10000))
theorem rgS_ok {a b : Int} (h : rgS a b = true) : RgOk a b := by
  unfold rgS at h
  cases q1 : small a with
  | false => rw [q1] at h; cases h
  | true =>
    cases q2 : small b with
    | false => rw [q1, q2] at h; cases h
    | true =>
      rw [q1, q2] at h
      have h3 : (b - a).toNat ≤ 10000 := Nat.le_of_ble_eq_true h
      have h1 := small_in q1
      have h2 := small_in q2
      exact ⟨by omega, by omega, by omega, by omega, by omega⟩
noncomputable def evListRg (f : Evr) : Evl := fun l S => (f l S).bnd fun r S1 => Prod.rec (motive := fun _ => Res W) (fun a b => match rgS a b with
  | true => fNat (b - a).toNat fun n => upI n (fun zs => newK S1 (.lst zs) fun n S2 => .ok (.obj n) S2) a
  | false => .stuck) r
theorem se_listRg {f : Evr} {e : Expr} {p : Pos} (hx : Okx G X) (hg : Gl X "list") (hm : X.mg "list" = none) (he : SR G X W' f e) (na : starEach [e] X.env = (false, eval e X.env) :: starEach [] X.env := by rfl) : SE G X W' (evListRg f) (.Call (.Name "list" p) [e] [] pos) :=
  pe_imp (pe_listRg hx.calm hg hm he na) fun σ H Q ⟨C, l, e, ok, r, p⟩ => by
    subst e
    refine ⟨C, l, rfl, ok, r, Post.mono (fun z C1 ok1 x1 p1 => ?_) (Post.bnd p)⟩
    obtain ⟨a, b⟩ := z
    have p1' : Post G W' C1 (match rgS a b with
      | true => fNat (b - a).toNat fun n => upI n (fun zs => newK C1.S (.lst zs) fun n S2 => .ok (.obj n) S2) a
      | false => .stuck) (PhE G Q) := p1
    cases q : rgS a b with
    | false => rw [q] at p1'; exact post_stuck p1'
    | true =>
      rw [q] at p1'
      simp only [fNat_eq, upI_eq, newK_eq] at p1'
      exact ⟨rgS_ok q, post_newL (vs := rgV a b) ok1 p1' (rws_up a b)⟩
end
end Ev

namespace Ev
open PySem PySem.Spec PyProof.Rows L2
open PySem.W (alike alikeAll dataLt AllAlike Sortable EachIs TotalLe sameRank dataLe)
/-! ## sorted(xs, reverse=True), xs a list -/
section
variable {X : Cx} {pins : List (Addr × Obj)} {σ : L2.St} {H : Hp} {s : Shared} {E : Value → Shared → Prop}
end
section
variable {G : Glo} {X : Cx} {W' : WX} {pos : Pos}
/-! ## targets that write -/
abbrev Tgw := W → Lo → FH → (Lo → FH → Res Fl) → Res Fl
def TgwS (G : Glo) (X : Cx) (W' : WX) (t : Tgw) (e : Expr) : Prop := ∃ g : TG, PG X e g ∧ ∀ (D : Ends) (C : Cf) (l : Lo) (σ : L2.St) (w : W) (v : V) (k : Lo → FH → Res Fl) (Q : L2.St → Hp → Prop), C.Ok G → RL G C l σ → RW G.K C.ρ C.H w v →
  Post G W' C (t w l C.S k) (PhS G D) → (∀ (C1 : Cf) (l1 : Lo) (σ1 : L2.St), C1.Ok G → Ext C C1 → RL G C1 l1 σ1 → Post G W' C1 (k l1 C1.S) (PhS G D) → Q σ1 C1.H) → g v σ C.H Q
noncomputable def twName (i : Nat) : Tgw := fun w l S k => setK l i (some w) fun l1 => k l1 S
theorem tw_name {i : Nat} {e : Expr} (h : PG X e (gName i)) : TgwS G X W' (twName i) e := ⟨gName i, h, fun D C l σ w v k Q ok r rv p hq => by
  unfold twName at p
  rw [setK_eq] at p
  exact hq C _ _ ok (Ext.refl C) (r.set rv) p⟩
noncomputable def twSub (fo fi : Evl) : Tgw := fun w l S k => (fo l S).bnd fun o S1 => (fi l S1).bnd fun i S2 => setIx2 o i w S2 fun S3 => k l S3
theorem tg_reads {fo : Evl} {C : Cf} {l : Lo} {σ : L2.St} {Φ : Fl → Cf → Prop} {m : W → FH → Res Fl} {R : V → Hp → Prop} (ok : C.Ok G) (r : RL G C l σ) (p : Post G W' C ((fo l C.S).bnd m) Φ)
    (h : ∀ (C1 : Cf) (o : W) (ov : V), C1.Ok G → Ext C C1 → RW G.K C1.ρ C1.H o ov → Post G W' C1 (m o C1.S) Φ → R ov C1.H) : rdE G W' fo σ C.H R :=
  ⟨C, l, rfl, ok, r, Post.mono (fun o C1 ok1 x1 p1 ov ro => h C1 o ov ok1 x1 ro p1) (Post.bnd p)⟩
theorem tw_sub {fo fi : Evl} {o i : Expr} {tp : Pos} (hx : Okx G X) (ho : SE G X W' fo o) (hi : SE G X W' fi i)
    (ha : ∀ v, assign (.Subscript o i tp) X.env v = (do
      let ov ← holding [v] (eval o X.env)
      let iv ← holding [v, ov] (eval i X.env)
      standAt tp
      holding [v, ov, iv] (setItem ov iv v)
      release [v, ov, iv] []) := by intro _; rfl) : TgwS G X W' (twSub fo fi) (.Subscript o i tp) :=
  ⟨_, pg_sub ho hi (PSet.or set_list (set_dct (by have := hx.un; omega))) ha, fun D C l σ w v k Q ok r rv p hq => by
    refine tg_reads ok r p fun C1 o ov ok1 x1 ro p1 => ?_
    refine tg_reads ok1 (r.mono ok x1) p1 fun C2 i iv ok2 x2 ri p2 => ?_
    obtain ⟨C4, ok4, x4, hset, p4⟩ := post_setIx2 ok2 (ro.mono ok1 x2) ri ((rv.mono ok x1).mono ok1 x2) p2
    have fin := hq C4 l σ ok4 ((x1.trans x2).trans x4) (((r.mono ok x1).mono ok1 x2).mono ok2 x4) p4
    rcases hset with ⟨q, xs, n, j, e1, e2, e3, e4, e5⟩ | ⟨a, H', e1, g, e5⟩
    · refine .inl ⟨q, xs, n, j, e1, e2, e3, e4, ?_⟩
      rw [e5]
      exact fin
    · refine .inr ⟨a, H', e1, by rw [hx.pr, hx.wo, hx.k]; exact g, ?_⟩
      rw [e5]
      exact fin⟩
abbrev Tgws := List W → Lo → FH → (Lo → FH → Res Fl) → Res Fl
def TgwsS (G : Glo) (X : Cx) (W' : WX) (t : Tgws) (es : List Expr) : Prop := ∃ g : TGs, PGs X es g ∧ ∀ (D : Ends) (C : Cf) (l : Lo) (σ : L2.St) (ws : List W) (vs : List V) (k : Lo → FH → Res Fl) (Q : L2.St → Hp → Prop), C.Ok G → RL G C l σ → RWs G.K C.ρ C.H ws vs →
  Post G W' C (t ws l C.S k) (PhS G D) → (∀ (C1 : Cf) (l1 : Lo) (σ1 : L2.St), C1.Ok G → Ext C C1 → RL G C1 l1 σ1 → Post G W' C1 (k l1 C1.S) (PhS G D) → Q σ1 C1.H) → g vs σ C.H Q
noncomputable def twNil : Tgws := fun ws l S k => match ws with
  | [] => k l S
  | _ :: _ => .stuck
noncomputable def twCons (t : Tgw) (r : Tgws) : Tgws := fun ws l S k => match ws with
  | [] => .stuck
  | w :: ws => t w l S fun l1 S1 => r ws l1 S1 k
theorem tws_nil : TgwsS G X W' twNil [] := ⟨gNil, pgs_nil, fun D C l σ ws vs k Q ok r rv p hq => by
  cases ws with
  | nil =>
    unfold RWs at rv
    subst rv
    exact ⟨rfl, hq C l σ ok (Ext.refl C) r p⟩
  | cons _ _ => exact post_stuck p⟩
theorem tws_cons {t : Tgw} {r : Tgws} {e : Expr} {es : List Expr} (h1 : TgwS G X W' t e) (h2 : TgwsS G X W' r es) (hs : (assignEach (e :: es) X.env).map (·.2) = assign e X.env :: (assignEach es X.env).map (·.2) := by rfl) : TgwsS G X W' (twCons t r) (e :: es) := by
  obtain ⟨g1, p1, k1⟩ := h1
  obtain ⟨g2, p2, k2⟩ := h2
  refine ⟨gCons g1 g2, pgs_cons p1 p2 hs, fun D C l σ ws vs k Q ok rl rv p hq => ?_⟩
  cases ws with
  | nil => exact post_stuck p
  | cons w ws =>
    unfold RWs at rv
    obtain ⟨v, vr, rfl, r1, r2⟩ := rv
    refine ⟨v, vr, rfl, k1 D C l σ w v (fun l1 S1 => r ws l1 S1 k) _ ok rl r1 p fun C1 l1 σ1 ok1 x1 rl1 q1 => ?_⟩
    exact k2 D C1 l1 σ1 ws vr k Q ok1 rl1 (r2.mono ok x1) q1 fun C2 l2 σ2 ok2 x2 rl2 q2 => hq C2 l2 σ2 ok2 (x1.trans x2) rl2 q2
noncomputable def esTgw (n : Nat) (f : Evl) (t : Tgws) : Evs := fun l S => (f l S).bnd fun x S1 => match x with
  | .tup ws => match Nat.beq ws.length n with
    | true => t ws l S1 fun l1 S2 => .ok (.nx l1) S2
    | false => .stuck
  | _ => .stuck
theorem ss_tgw {n : Nat} {f : Evl} {t : Tgws} {es : List Expr} {kk : Nat} {value : Expr} {tp : Pos} (hx : Okx G X) (h : TgwsS G X W' t es) (hv : SE G X W' f value)
    (hn : (assignEach es X.env).length = n := by rfl) (hst : (assignEach es X.env).findIdx? (·.1) = none := by rfl)
    (hs : swapsWithSole [.Tuple es kk tp] value pos.line X.env = pure false := by rfl) (hw : swappedStores [.Tuple es kk tp] value X.env = pure none := by rfl)
    (h1 : (assignEach [.Tuple es kk tp] X.env).map (·.2) = [assign (.Tuple es kk tp) X.env] := by rfl) : SS G X W' (esTgw n f t) (.Assign [.Tuple es kk tp] value pos) := by
  obtain ⟨g, pg, kg⟩ := h
  refine ps_imp (ps_asg hv (pg_tup hx.calm pg hn hst) hs hw h1) fun D σ H ⟨C, l, e, ok, r, p⟩ => ?_
  subst e
  refine ⟨C, l, rfl, ok, r, Post.mono (fun x C1 ok1 x1 p1 xv rx => ?_) (Post.bnd p)⟩
  cases x with
  | k u => exact post_stuck p1
  | mix _ => (first | exact post_stuck (by assumption) | exact .inl (by assumption) | (exfalso; contradiction) | (unfold nkey at *; contradiction) | (unfold RW at *; simp_all; done) | (simp_all; done))
  | pt _ => (first | exact post_stuck (by assumption) | exact .inl (by assumption) | (exfalso; contradiction) | (unfold nkey at *; contradiction) | (unfold RW at *; simp_all; done) | (simp_all; done))
  | obj j => exact post_stuck p1
  | tup ws =>
    unfold RW at rx
    obtain ⟨a, vs, rfl, h2, h3⟩ := rx
    cases q : Nat.beq ws.length n with
    | false => simp only [q] at p1; exact post_stuck p1
    | true =>
      simp only [q] at p1
      rw [hx.k]
      refine ⟨a, vs, rfl, h2, by rw [h3.length]; exact Nat.eq_of_beq_eq_true q, kg D C1 l σ ws vs _ _ ok1 (r.mono ok x1) h3 p1 fun C2 l2 σ2 ok2 x2 rl2 q2 => ?_⟩
      exact (Post.now ok2 q2) σ2 rl2
/-! ## o.f op= e -/
end
end Ev

namespace Ev
open PySem PySem.Spec PyProof.Rows L2
/-! what the law's box and its cells promise -/
def spBox (K : PySem.W.Frag) : Sp := fun vs H Q _ => ∃ (p : Addr) (ms : List Int) (k : Int), vs = [.ref p, .int k] ∧ SqL K H p (ms.map V.int) ∧ 0 ≤ k ∧ k ≤ 1000 ∧ ∀ (u : Addr) (x y : Int), H u = none → 0 ≤ y → y < 2 ^ 62 → Q (.ref u) (upd H u (.lst [.int x, .int y, .int 0]))
def spCells (K : PySem.W.Frag) : Sp := fun vs H Q _ => ∃ (a : Addr) (ns : List Int) (m : Int), vs = [.ref a, .int m] ∧ SqL K H a (ns.map V.int) ∧ ns.length ≤ 63 ∧ 1 ≤ m ∧ m ≤ 63 ∧ ∀ (p : Addr) (ms : List Int) (H' : Hp), H p = none → H' p = some (.lst (ms.map V.int)) → ms ≠ [] → (ms.length : Int) ≤ m → (∀ b o, H b = some o → H' b = some o) → Q (.ref p) H'
section
variable {P : Program} {w : World} {mg : Str → Option Value} {base : Heap} {G : Glo} {k n m : Nat} {x nm : Str} {ps ks : List Str} {F : Fn} {st : Stmt} {is : List Nat}
end
end Ev

namespace Ev
open PySem PySem.Spec PyProof.Rows L2
/-! ## sets of nested tuples of whole numbers -/
mutual
def noTx : NestedKey → Bool
  | .none => true
  | .num _ => true
  | .text _ => false
  | .tup ks => noTxs ks
def noTxs : List NestedKey → Bool
  | [] => true
  | k :: ks => noTx k && noTxs ks
end
section
variable {P : Program} {w : World} {s : Shared}
/-- an answer that leaves no trace -/
def Says (P : Program) (w : World) (s : Shared) (m : Sem Bool) (b : Bool) : Prop := ∀ (A : Around) (E : Value → Shared → Prop) (Q : Bool → Shared → Prop), Q b s → wpAny (model P w) A m Q E s
theorem says_pure {m : Sem Bool} {b : Bool} (h : m = pure b) : Says P w s m b := fun A E Q q => by rw [h]; exact wpAny_pure q
theorem cls_tup {n m : Nat} {a : Addr} {o : Obj} {vs : Array Value} (ho : s.heap.get? a = some o) (hc : o.cls = .type "tuple") (hd : o.data = .seq vs m) (hq : ∀ v ∈ vs.toList, Says P w s (ofAClassStatement n v) false) :
    Says P w s (ofAClassStatement (n + 1) (.ref a)) false := fun A E Q h => by
  have hT : s.TypeIs (.ref a) "tuple" := ⟨o, ho, hc⟩
  unfold ofAClassStatement
  refine wpAny_bind (wpAny_typeOf hT ?_)
  dsimp only
  have e : (("tuple" : String) == "tuple") = true := by decide
  simp only [e, if_true, Bool.not_true, Bool.false_eq_true, if_false]
  try refine wpAny_bind (wpAny_pure ?_)
  try simp only [Bool.not_true, Bool.false_eq_true, if_false]
  change wpAny _ _ (seqItems? (.ref a) >>= _) _ _ s
  refine wpAny_bind (wpAny_seqItems ho hd ?_)
  dsimp only
  refine wpAny_bind ?_
  change wpAny _ _ (forIn vs _ _) _ _ s
  rw [← Array.forIn_toList]
  refine wpAny_forIn_list _ (fun rest r z => r.1 = none ∧ z = s ∧ ∀ v ∈ rest, Says P w s (ofAClassStatement n v) false) _ ?_ ?_ _ _ ⟨rfl, rfl, hq⟩
  · rintro v rest r z ⟨hr, rfl, hall⟩
    refine wpAny_bind (hall v List.mem_cons_self _ _ _ ?_)
    simp only [Bool.false_eq_true, if_false]
    exact wpAny_pure ⟨rfl, rfl, fun u q => hall u (List.mem_cons_of_mem _ q)⟩
  · rintro ⟨r1, r2⟩ z ⟨hr, rfl, _⟩
    obtain rfl : r1 = none := hr
    exact wpAny_pure h
theorem hbv_tup {n m : Nat} {a : Addr} {o : Obj} {vs : Array Value} (ho : s.heap.get? a = some o) (hc : o.cls = .type "tuple") (hd : o.data = .seq vs m) (hq : ∀ v ∈ vs.toList, Says P w s (hashByValue n v) true) :
    Says P w s (hashByValue (n + 1) (.ref a)) true := fun A E Q h => by
  have hT : s.TypeIs (.ref a) "tuple" := ⟨o, ho, hc⟩
  unfold hashByValue
  refine wpAny_bind (wpAny_specialOf hT F.slot_tuple_hash.lookup ?_)
  change wpAny _ _ (seqItems? (.ref a) >>= _) _ _ s
  refine wpAny_bind (wpAny_seqItems ho hd ?_)
  refine wpAny_bind ?_
  change wpAny _ _ (forIn vs _ _) _ _ s
  rw [← Array.forIn_toList]
  refine wpAny_forIn_list _ (fun rest r z => r.1 = none ∧ z = s ∧ ∀ v ∈ rest, Says P w s (hashByValue n v) true) _ ?_ ?_ _ _ ⟨rfl, rfl, hq⟩
  · rintro v rest r z ⟨hr, rfl, hall⟩
    refine wpAny_bind (hall v List.mem_cons_self _ _ _ ?_)
    simp only [Bool.not_true, Bool.false_eq_true, if_false]
    exact wpAny_pure ⟨rfl, rfl, fun u q => hall u (List.mem_cons_of_mem _ q)⟩
  · rintro ⟨r1, r2⟩ z ⟨hr, rfl, _⟩
    obtain rfl : r1 = none := hr
    exact wpAny_pure h
mutual
theorem cls_key : ∀ (k : NestedKey) (v : Value) (n : Nat) (s : Shared), NestedIs s.heap k v → k.depth ≤ n → Says P w s (ofAClassStatement n v) false
  | .none, _, n, s, x, _ => by cases x; exact says_pure (by cases n <;> rfl)
  | .num i, _, n, s, x, _ => by cases x <;> exact says_pure (by cases n <;> rfl)
  | .text y, _, n, s, x, _ => by cases x; exact says_pure (by cases n <;> rfl)
  | .tup ks, _, n, s, x, hn => by
    cases x with
    | tup hg hc hd hk =>
      simp only [NestedKey.depth] at hn
      cases n with
      | zero => omega
      | succ n => exact cls_tup hg hc hd (cls_keys ks _ n s hk (by omega))
theorem cls_keys : ∀ (ks : List NestedKey) (vs : List Value) (n : Nat) (s : Shared), NestedAll s.heap ks vs → NestedKey.depthAll ks ≤ n → ∀ v ∈ vs, Says P w s (ofAClassStatement n v) false
  | [], _, n, s, x, _, v, hv => by cases x; cases hv
  | k :: ks, _, n, s, x, hn, v, hv => by
    cases x with
    | cons x1 x2 =>
      simp only [NestedKey.depthAll] at hn
      rcases List.mem_cons.mp hv with rfl | hv
      · exact cls_key k _ n s x1 (by omega)
      · exact cls_keys ks _ n s x2 (by omega) v hv
end
mutual
theorem hbv_key : ∀ (k : NestedKey) (v : Value) (n : Nat) (s : Shared), NestedIs s.heap k v → k.depth ≤ n → noTx k = true → Says P w s (hashByValue n v) true
  | .none, _, n, s, x, _, _ => by cases x; exact says_pure (by cases n <;> rfl)
  | .num i, _, n, s, x, _, _ => by cases x <;> exact says_pure (by cases n <;> rfl)
  | .text y, _, n, s, x, _, ht => by simp [noTx] at ht
  | .tup ks, _, n, s, x, hn, ht => by
    cases x with
    | tup hg hc hd hk =>
      simp only [NestedKey.depth] at hn
      cases n with
      | zero => omega
      | succ n => exact hbv_tup hg hc hd (hbv_keys ks _ n s hk (by omega) (by simpa [noTx] using ht))
theorem hbv_keys : ∀ (ks : List NestedKey) (vs : List Value) (n : Nat) (s : Shared), NestedAll s.heap ks vs → NestedKey.depthAll ks ≤ n → noTxs ks = true → ∀ v ∈ vs, Says P w s (hashByValue n v) true
  | [], _, n, s, x, _, _, v, hv => by cases x; cases hv
  | k :: ks, _, n, s, x, hn, ht, v, hv => by
    cases x with
    | cons x1 x2 =>
      simp only [NestedKey.depthAll] at hn
      simp only [noTxs, Bool.and_eq_true] at ht
      rcases List.mem_cons.mp hv with rfl | hv
      · exact hbv_key k _ n s x1 (by omega) ht.1
      · exact hbv_keys ks _ n s x2 (by omega) ht.2 v hv
end
/-- the tuple at b is the key k -/
def NKy (h : Heap) (k : NestedKey) (b : Addr) : Prop := NestedIs h k (.ref b) ∧ k.depth ≤ 8 ∧ noTx k = true
abbrev nkd (P : Program) (w : World) := nestedKind P w
theorem NKy.kind {h : Heap} {k : NestedKey} {b : Addr} (x : NKy h k b) : (nkd P w).is h k b := ⟨x.1, x.2.1⟩
theorem NKy.keep {h h' : Heap} {k : NestedKey} {b : Addr} (x : NKy h k b) (hk : ∀ c o, h.get? c = some o → h'.get? c = some o) : NKy h' k b := ⟨NestedIs.at (fun c o _ _ q _ => hk c o q) k _ x.1, x.2⟩
end
end Ev

namespace Ev
open PySem PySem.Spec PyProof.Rows L2
section
variable {P : Program} {w : World} {A : Around} {E : Value → Shared → Prop} {s : Shared}
abbrev Mem := Addr × NestedKey
abbrev hk (w : World) (k : NestedKey) : Int := NestedKey.hash w k
def entr (w : World) (L : List Mem) : List (Int × Value) := L.map fun p => (hk w p.2, Value.ref p.1)
def hss (w : World) (L : List Mem) : List Int := L.map fun p => hk w p.2
/-- a set object whose members are the tuples of L -/
structure NSet (w : World) (h : Heap) (a : Addr) (L : List Mem) (es : Array (Int × Value)) (ep : Nat) (t : SetTable) : Prop where
  at_ : ∃ o, h.get? a = some o ∧ o.ExactSet ∧ o.data = .set es ep t
  ent : es.toList = entr w L
  tab : TabOk t (hss w L)
  nod : (L.map (·.2)).Nodup
  mem : ∀ p ∈ L, NKy h p.2 p.1
  pln : t.plain = true
  lad : w.params.followText "set-order" = true ∨ t.led = true
  wid : L.length * 5 < t.mask * 3
  few : L.length < 64
variable {a : Addr} {L : List Mem} {es : Array (Int × Value)} {ep : Nat} {t : SetTable}
theorem ent_size (h : es.toList = entr w L) : es.size = L.length := by
  have := congrArg List.length h
  simpa [entr] using this
theorem NSet.size (R : NSet w s.heap a L es ep t) : es.size = L.length := ent_size R.ent
theorem NSet.keep {h h' : Heap} (R : NSet w h a L es ep t) (ha : ∀ o, h.get? a = some o → h'.get? a = some o) (ht : ∀ p ∈ L, NKy h' p.2 p.1) : NSet w h' a L es ep t := by
  obtain ⟨o, ho, r⟩ := R.at_
  exact { R with at_ := ⟨o, ha o ho, r⟩, mem := ht }
end
end Ev

namespace Ev
open PySem PySem.Spec PyProof.Rows L2
section
variable {P : Program} {w : World} {A : Around} {E : Value → Shared → Prop} {s : Shared}
variable {a : Addr} {L : List Mem} {es : Array (Int × Value)} {ep : Nat} {t : SetTable}
end
end Ev

namespace Ev
open PySem PySem.Spec PyProof.Rows L2
section
variable {P : Program} {w : World} {A : Around} {E : Value → Shared → Prop} {s : Shared}
/-- what of ks stands in L after i of them -/
structure After (ks : List Mem) (i : Nat) (L : List Mem) : Prop where
  sub : ∀ p ∈ L, p ∈ ks
  all : ∀ j p, j < i → ks[j]? = some p → p.2 ∈ L.map (·.2)
/-- what stands between two steps of set.update: J i, from the heap h0 on; S, the set -/
structure Adds (P : Program) (w : World) (A : Around) (items : Array Value) (S : Addr) (h0 : Heap) (J : Nat → Heap → Prop) : Prop where
  stay : ∀ (i : Nat) (h h' : Heap), J i h → (∀ b o, h0.get? b = some o → h'.get? b = some o) → (∀ o, h.get? S = some o → h'.get? S = some o) → J i h'
  step : ∀ (i : Nat) (v : Value) (s : Shared) (E : Value → Shared → Prop) (Q : Bool → Shared → Prop), items[i]? = some v → J i s.heap → (∀ b o, h0.get? b = some o → s.heap.get? b = some o) →
    (∀ (b : Bool) (h' : Heap) (tk : Nat), Heap.SameBut S s.heap h' → J (i + 1) h' → s.toks ≤ tk → Q b { s with heap := h', toks := tk }) → wpAny (model P w) A (setAdd S v) Q E s
/-- a new set has no member -/
theorem NSet.fresh {h : Heap} {a : Addr} (ho : h.get? a = some { cls := .type "set", dict := none, data := .set #[] 0 (.fresh 0 0 (!w.params.followText "set-order")) }) : NSet w h a [] #[] 0 (.fresh 0 0 (!w.params.followText "set-order")) where
  at_ := ⟨_, ho, ⟨rfl, rfl, rfl⟩, rfl⟩
  ent := rfl
  tab := ⟨List.Pairwise.nil, rfl, rfl, .inl rfl, fun x hx => (by cases hx), fun i h j hi => (by simp [hss] at hi)⟩
  nod := List.nodup_nil
  mem := fun p hp => (by cases hp)
  pln := rfl
  lad := by
    cases e : w.params.followText "set-order"
    · exact .inr rfl
    · exact .inl rfl
  wid := by show 0 * 5 < 7 * 3; decide
  few := by show 0 < 64; decide
theorem ints_get : ∀ {l : List Value} {ns : List Int}, IntsAre l ns → ∀ {i : Nat} {v : Value}, l[i]? = some v → ∃ z t, ns[i]? = some z ∧ v = .int z t
  | _, _, .nil, i, v, e => by simp at e
  | _, _, .cons n t r, 0, v, e => by
    simp at e
    exact ⟨n, t, rfl, e.symm⟩
  | _, _, .cons n t r, i + 1, v, e => by
    obtain ⟨z, t', e1, e2⟩ := ints_get r (i := i) (by simpa using e)
    exact ⟨z, t', by simpa using e1, e2⟩
end
end Ev

namespace Ev
open PySem PySem.Spec PyProof.Rows L2
section
variable {P : Program} {w : World} {A : Around} {E : Value → Shared → Prop} {s : Shared}
end
end Ev

namespace Ev
open PySem PySem.Spec PyProof.Rows L2
open PySem.W (alike alikeAll dataLt AllAlike Sortable EachIs TotalLe sameRank dataLe)
/-! sorted(..) of one thing, or of none -/
section
variable {X : Cx} {pins : List (Addr × Obj)} {σ : L2.St} {H : Hp} {s : Shared} {E : Value → Shared → Prop}
theorem short_perm {vs : List Value} {ps : List (Value × Value)} (h1 : vs.length ≤ 1) (h : ps.Perm (vs.zip vs)) : ps.map Prod.snd = vs := by
  match vs, h1, h with
  | [], _, h => rw [h.eq_nil]; rfl
  | [v], _, h => rw [List.perm_singleton.mp h]; rfl
theorem srt_one (I : Inv X pins σ H s) {xs : List V} {acc : List Value} {Q : VK} (rv : Vals xs acc) (h1 : xs.length ≤ 1) (q : ∀ p, H p = none → Q (.ref p) (upd H p (.lst xs))) :
    wpAny (model X.prog X.w) X.A.in1 (call (.builtin "list.sort") [.ref s.heap.objs.size]) (fun _ s' => EP X pins σ Q (.ref s.heap.objs.size) s') E { s with heap := s.heap.push (seqObj "list" acc.toArray 0) } := by
  have hob : (s.heap.push (seqObj "list" acc.toArray 0)).get? s.heap.objs.size = some (seqObj "list" acc.toArray 0) := Heap.get?_push_size _ rfl
  have la : acc.length = xs.length := rv.length.symm
  refine wpAny_call_entry slot_list_sort ⟨_, hob, rfl⟩ entry_list_sort (SK.plain_sort (r := fun _ => 0) hob (by omega) (fun h2 => by omega) fun ps out e1 e2 _ => ⟨_, rfl, ?_⟩) (args_list_sort _)
  obtain ⟨e', he'⟩ := PyProof.Rows.sortedHeap_at (vs := acc) (out := out) hob
  have eo : out.toList = acc := e1.trans (short_perm (by omega) e2)
  refine ⟨.ref s.heap.objs.size, upd H s.heap.objs.size (.lst xs), I.laid (t' := s.toks) (fun b u e => ?_) (Nat.le_refl _) ⟨by rw [sizeLine_eq]; omega, acc, e', rv, ?_⟩, rfl, q _ (I.hok.fresh (Nat.le_refl _))⟩
  · have hb : b < s.heap.objs.size := Heap.lt_size e
    rw [PyProof.Rows.sortedHeap_old (Nat.ne_of_lt hb) (by rw [size_push']; exact Nat.lt_succ_of_lt hb)]
    exact Heap.get?_push_of_some _ e
  · have oe : out = acc.toArray := by rw [← eo, Array.toArray_toList]
    rw [← oe] at he' ⊢
    exact he'
end
section
variable {X : Cx}
theorem cr_or {f : Value} {r1 r2 : List V → Hp → VK → Prop} (h1 : CallR X f r1) (h2 : CallR X f r2) : CallR X f fun xs H Q => r1 xs H Q ∨ r2 xs H Q := by
  intro pins s σ H xs us Q I r h
  exact h.elim (h1 _ _ _ _ _ _ _ I r) (h2 _ _ _ _ _ _ _ I r)
def rSortS (P : Program) (w : World) (K : PySem.W.Frag) : List V → Hp → VK → Prop := fun vs H Q => ∃ (a : Addr) (xs : List V), vs = [.ref a] ∧ xs.length ≤ 1 ∧ (SqL K H a xs ∨ SqT K H a xs ∨ ∃ ks : List (NestedKey × Addr × V), Rd H a (dctO P w a ks) ∧ KeysOk K H ks ∧ xs = ks.map fun x => V.ref x.2.1) ∧ ∀ p, H p = none → Q (.ref p) (upd H p (.lst xs))
theorem cr_sortS (hc : X.calm = true) (hu : X.A.units + 65 < cLine) : CallR X (.builtin "sorted") (rSortS X.prog X.w X.K) := by
  intro pins s σ H vs us Q I r h
  obtain ⟨a, xs, rfl, h1, src, q⟩ := h
  rw [Vals.ref1 r]
  refine sorted_by ?_
  have d4 : xs.length ≤ sizeLine := by rw [sizeLine_eq]; omega
  rcases src with hq | hq | ⟨ks, rd, hk, rfl⟩
  · obtain ⟨its, rv, p, hz⟩ := I.list hq
    obtain ⟨o, n, ho, hc', hd', hdat⟩ := p
    refine wpAny_collect_seq (hsz := by simpa [rv.length] using d4) a (.inl rfl) ho hc' hdat fun h' k => ?_
    have I1 : Inv X pins σ H { s with heap := h' } := I.kept (t' := s.toks) k
    exact ⟨by simpa [rv.length] using d4, srt_one I1 (by simpa using rv) h1 q⟩
  · obtain ⟨its, rv, p, hz⟩ := I.tuple hq
    obtain ⟨o, ho, hc', n, hdat⟩ := p
    refine wpAny_collect_seq (hsz := by simpa [rv.length] using d4) a (.inr rfl) ho hc' hdat fun h' k => ?_
    have I1 : Inv X pins σ H { s with heap := h' } := I.kept (t' := s.toks) k
    exact ⟨by simpa [rv.length] using d4, srt_one I1 (by simpa using rv) h1 q⟩
  · obtain ⟨lo, hz, ys, rel, dd⟩ := dct_at I rd hk
    obtain ⟨o, es, ep, g1, g2, g3, g4, _, nd⟩ := dd
    have hs : es.size = ys.length := size_of_entries g4
    have hl : ks.length = ys.length := Paired.length rel
    refine PySem.W.kdu_collect (A := X.A.in1) (KdlSrc.rawDict (es := es) (ep := ep) lo) (I.ok.hd hc) ⟨o, g1, g2, g3⟩ (by omega) fun h' tk acc k hacc => ?_
    have I1 : Inv X pins σ H { s with heap := h', toks := tk } := I.kept k
    have la : acc.toList.length = ks.length := by rw [Array.length_toList, hacc.1]; omega
    have rv : Vals (ks.map fun x => V.ref x.2.1) acc.toList := by
      refine vals_atN _ _ (by rw [List.length_map]; omega) fun j v e => ?_
      obtain ⟨hi, e2⟩ := hacc.2 j v (by rw [← Array.getElem?_toList]; exact e)
      have hj : j < ks.length := by omega
      obtain ⟨y, hy, r1, r2, r3⟩ := paired_get rel (List.getElem?_eq_getElem hj)
      have q2 := entry_at g4 j
      rw [hy, Array.getElem?_eq_getElem hi] at q2
      have q3 := Option.some.inj q2
      refine ⟨V.ref ks[j].2.1, by rw [List.getElem?_map, List.getElem?_eq_getElem hj]; rfl, ?_⟩
      rw [e2, q3, r2]
      rfl
    exact ⟨by rw [la]; rw [List.length_map] at d4; exact d4, srt_one I1 rv h1 q⟩
end
/-! in the reckoner -/
noncomputable def shortOf (w : W) (S : FH) : Option (List W) := match w with
  | .tup xs => match Nat.ble xs.length 1 with
    | true => some xs
    | false => none
  | .obj i => match S.get i with
    | some v => match v with
      | .lst xs => match Nat.ble xs.length 1 with
        | true => some xs
        | false => none
      | .dct kvs => match Nat.ble kvs.length 1 with
        | true => some (keysOf kvs)
        | false => none
      | .fdc kvs => match Nat.ble kvs.length 1 with
        | true => some (keysOf kvs)
        | false => none
      | _ => none
    | none => none
  | _ => none
noncomputable def cSorted2 : Opn := fun ws S => one ws fun w => match shortOf w S with
  | some xs => newK S (.lst xs) fun n S1 => .ok (.obj n) S1
  | none => cSorted [w] S
section
variable {G : Glo} {X : Cx}
theorem cx_sorted2 (hx : Okx G X) : CallX G X (.builtin "sorted") cSorted2 := by
  obtain ⟨r0, c0, k0⟩ := cx_sorted hx
  refine ⟨_, cr_or c0 (cr_sortS hx.calm hx.un), fun W' C ws vs Q ok rv p => ?_⟩
  rw [hx.k, hx.pr, hx.wo]
  obtain ⟨w, v, rfl, r, p⟩ := post_one rv p
  cases q : shortOf w C.S with
  | none =>
    simp only [q] at p
    exact .inl (k0 W' C [w] [v] Q ok (.cons r .nil) p)
  | some xs =>
    simp only [q, newK_eq] at p
    right
    unfold shortOf at q
    cases w with
    | k u => cases q
    | tup ys =>
      simp only at q
      cases q1 : Nat.ble ys.length 1 with
      | false => rw [q1] at q; cases q
      | true =>
        rw [q1] at q
        cases q
        unfold RW at r
        obtain ⟨a, us, rfl, h1, h2⟩ := r
        exact ⟨a, us, rfl, by rw [h2.length]; exact Nat.le_of_ble_eq_true q1, .inr (.inl h1), post_newL ok p h2⟩
    | mix _ => (first | exact post_stuck (by assumption) | exact .inl (by assumption) | (exfalso; contradiction) | (unfold nkey at *; contradiction) | (unfold RW at *; simp_all; done) | (simp_all; done))
    | pt _ => (first | exact post_stuck (by assumption) | exact .inl (by assumption) | (exfalso; contradiction) | (unfold nkey at *; contradiction) | (unfold RW at *; simp_all; done) | (simp_all; done))
    | obj i =>
      simp only at q
      cases q0 : C.S.get i with
      | none => rw [q0] at q; cases q
      | some hv =>
        rw [q0] at q
        cases hv with
        | lst ys =>
          simp only at q
          cases q1 : Nat.ble ys.length 1 with
          | false => rw [q1] at q; cases q
          | true =>
            rw [q1] at q
            cases q
            obtain ⟨a, us, h1, h2, h3⟩ := Cf.lstAt ok q0
            unfold RW at r
            obtain ⟨a', rfl, h4⟩ := r
            rw [h1] at h4; cases h4
            exact ⟨a, us, rfl, by rw [h3.length]; exact Nat.le_of_ble_eq_true q1, .inl (SqL.of h2), post_newL ok p h3⟩
        | dct kvs =>
          simp only at q
          cases q1 : Nat.ble kvs.length 1 with
          | false => rw [q1] at q; cases q
          | true =>
            rw [q1] at q
            cases q
            obtain ⟨a', xs, h2, h3, h4⟩ := Cf.dctAt ok q0
            unfold RW at r
            obtain ⟨a, rfl, h5⟩ := r
            rw [h2] at h5; cases h5
            exact ⟨a', _, rfl, by rw [List.length_map, h4.length]; exact Nat.le_of_ble_eq_true q1, .inr (.inr ⟨xs, .inl h3, h4.keys, rfl⟩), post_newL ok p (keysOf_rws h4)⟩
        | fdc kvs =>
          simp only at q
          cases q1 : Nat.ble kvs.length 1 with
          | false => rw [q1] at q; cases q
          | true =>
            rw [q1] at q
            cases q
            obtain ⟨a', od, xs, h2, h3, h4⟩ := Cf.fdcAt ok q0
            unfold RW at r
            obtain ⟨a, rfl, h5⟩ := r
            rw [h2] at h5; cases h5
            exact ⟨a', _, rfl, by rw [List.length_map, h4.length]; exact Nat.le_of_ble_eq_true q1, .inr (.inr ⟨xs, .inr ⟨od, h3⟩, h4.keys, rfl⟩), post_newL ok p (keysOf_rws h4)⟩
        | cel => simp only at q; cases q
        | urn _ => simp only at q; cases q
        | ins _ _ => simp only at q; cases q
        | dki _ => simp only at q; cases q
        | sti _ => simp only at q; cases q
        | exv _ => simp only at q; cases q
end
end Ev

namespace Ev
open PySem PySem.Spec PyProof.Rows L2
open PySem.W (alike alikeAll dataLt AllAlike Sortable EachIs TotalLe sameRank dataLe)
/-! ## set(xs), sorted(set(xs)) -/
/-- the set at a, its members' tuples unsaid -/
def NSet0 (w : World) (h : Heap) (a : Addr) (L : List Mem) : Prop := ∃ (es : Array (Int × Value)) (ep : Nat) (t : SetTable), (∃ o, h.get? a = some o ∧ o.ExactSet ∧ o.data = .set es ep t) ∧ es.toList = entr w L ∧ TabOk t (hss w L) ∧ (L.map (·.2)).Nodup ∧ t.plain = true ∧
  (w.params.followText "set-order" = true ∨ t.led = true) ∧ L.length * 5 < t.mask * 3 ∧ L.length < 64
theorem NSet.bare {w : World} {h : Heap} {a : Addr} {L : List Mem} {es : Array (Int × Value)} {ep : Nat} {t : SetTable} (R : NSet w h a L es ep t) : NSet0 w h a L := ⟨es, ep, t, R.at_, R.ent, R.tab, R.nod, R.pln, R.lad, R.wid, R.few⟩
section
variable {X : Cx} {pins : List (Addr × Obj)} {σ : L2.St} {H : Hp} {s : Shared}
end
section
variable {X : Cx}
end
end Ev

namespace Ev
open PySem PySem.Spec PyProof.Rows L2
open PySem.W (alike alikeAll dataLt AllAlike Sortable EachIs TotalLe sameRank dataLe)
/-! ## sorted(set(xs)), in the reckoner -/
mutual
theorem data_inj : ∀ a b : NestedKey, a.data = b.data → a = b
  | .none, b, h => by cases b <;> simp [NestedKey.data] at h <;> rfl
  | .num i, b, h => by cases b <;> simp [NestedKey.data] at h <;> rw [h]
  | .text x, b, h => by cases b <;> simp [NestedKey.data] at h <;> rw [h]
  | .tup ks, b, h => by
    cases b <;> simp [NestedKey.data] at h
    rw [datas_inj ks _ h]
theorem datas_inj : ∀ a b : List NestedKey, NestedKey.datas a = NestedKey.datas b → a = b
  | [], [], _ => rfl
  | [], _ :: _, h => by simp [NestedKey.datas] at h
  | _ :: _, [], h => by simp [NestedKey.datas] at h
  | x :: xs, y :: ys, h => by
    simp only [NestedKey.datas, List.cons.injEq] at h
    rw [data_inj x y h.1, datas_inj xs ys h.2]
end
theorem nkey_tup {xs : List W} {k : NestedKey} (h : nkey (.tup xs) = some k) : ∃ ks, nkeys xs = some ks ∧ k = .tup ks := by
  unfold nkey at h
  cases q : nkeys xs with
  | none => rw [q] at h; cases h
  | some ks => rw [q] at h; cases h; exact ⟨ks, rfl, rfl⟩
theorem nkeys_cons {w : W} {ws : List W} {ks : List NestedKey} (h : nkeys (w :: ws) = some ks) : ∃ k r, nkey w = some k ∧ nkeys ws = some r ∧ ks = k :: r := by
  unfold nkeys at h
  cases q : nkey w with
  | none => rw [q] at h; cases h
  | some k =>
    rw [q] at h
    cases q2 : nkeys ws with
    | none => simp only [q2] at h; cases h
    | some r => simp only [q2] at h; cases h; exact ⟨k, r, rfl, rfl, rfl⟩
mutual
theorem nkey_inj : ∀ (a b : W) (k : NestedKey), nkey a = some k → nkey b = some k → a = b
  | .k u, b, k, h1, h2 => by
    cases u <;> (unfold nkey at h1) <;> (first | (cases h1; done) | skip)
    all_goals
      cases h1
      cases b with
      | k v => cases v <;> (unfold nkey at h2) <;> first | (cases h2; rfl) | cases h2
      | tup ys => obtain ⟨_, _, e⟩ := nkey_tup h2; cases e
      | mix _ => (first | exact post_stuck (by assumption) | exact .inl (by assumption) | (exfalso; contradiction) | (unfold nkey at *; contradiction) | (unfold RW at *; simp_all; done) | (simp_all; done))
      | pt _ => (first | exact post_stuck (by assumption) | exact .inl (by assumption) | (exfalso; contradiction) | (unfold nkey at *; contradiction) | (unfold RW at *; simp_all; done) | (simp_all; done))
      | obj i => unfold nkey at h2; cases h2
  | .obj i, b, k, h1, h2 => by unfold nkey at h1; cases h1
  | .mix i, b, k, h1, h2 => by unfold nkey at h1; cases h1
  | .pt i, b, k, h1, h2 => by unfold nkey at h1; cases h1
  | .tup xs, b, k, h1, h2 => by
    obtain ⟨ks, e1, rfl⟩ := nkey_tup h1
    cases b with
    | k v => cases v <;> (unfold nkey at h2) <;> cases h2
    | tup ys =>
      obtain ⟨ks', e2, e⟩ := nkey_tup h2
      cases e
      rw [nkeys_inj xs ys ks e1 e2]
    | mix _ => (first | exact post_stuck (by assumption) | exact .inl (by assumption) | (exfalso; contradiction) | (unfold nkey at *; contradiction) | (unfold RW at *; simp_all; done) | (simp_all; done))
    | pt _ => (first | exact post_stuck (by assumption) | exact .inl (by assumption) | (exfalso; contradiction) | (unfold nkey at *; contradiction) | (unfold RW at *; simp_all; done) | (simp_all; done))
    | obj i => unfold nkey at h2; cases h2
theorem nkeys_inj : ∀ (a b : List W) (ks : List NestedKey), nkeys a = some ks → nkeys b = some ks → a = b
  | [], b, ks, h1, h2 => by
    unfold nkeys at h1
    cases h1
    cases b with
    | nil => rfl
    | cons y ys => obtain ⟨_, _, _, _, e⟩ := nkeys_cons h2; cases e
  | x :: xs, b, ks, h1, h2 => by
    obtain ⟨k, r, e1, e2, rfl⟩ := nkeys_cons h1
    cases b with
    | nil => unfold nkeys at h2; cases h2
    | cons y ys =>
      obtain ⟨k', r', e3, e4, e⟩ := nkeys_cons h2
      cases e
      rw [nkey_inj x y k e1 e3, nkeys_inj xs ys r e2 e4]
end
/-- a datum's key -/
def KeyIs (n : Nat) (w : W) (d : PyData) : Prop := ∃ k, nkey w = some k ∧ k.depth ≤ n ∧ noTx k = true ∧ k.data = d
/-! one order alone -/
end Ev

namespace Ev
open PySem PySem.Spec PyProof.Rows L2
open PySem.W (alike alikeAll dataLt AllAlike Sortable EachIs TotalLe sameRank dataLe)
section
variable {X : Cx}
theorem ints_vals : ∀ {ns : List Int} {us : List Value}, Vals (ns.map V.int) us → IntsAre us ns
  | [], _, .nil => .nil
  | n :: ns, _, .cons r t => by
    obtain ⟨tk, rfl⟩ := r
    exact .cons n tk (ints_vals t)
end
/-! ### the rows of a list -/
section
variable {G : Glo}
end
end Ev

namespace Ev
open PySem PySem.Spec PyProof.Rows L2
open PySem.W (alike alikeAll dataLt AllAlike Sortable EachIs TotalLe sameRank dataLe)
end Ev

namespace Ev
open PySem PySem.Spec PyProof.Rows L2
open PySem.W (alike alikeAll dataLt AllAlike Sortable EachIs TotalLe sameRank dataLe)
section
variable {G : Glo} {X : Cx} {W' : WX} {pos : Pos}
end
end Ev

namespace Ev
open PySem PySem.Spec PyProof.Rows L2
/-! the law's box, of a list of whole numbers that nobody knows -/
section
variable {G : Glo}
end
open PySem PySem.Spec PyProof.Rows L2
section
variable {G : Glo}
theorem Cf.one {H : Hp} {p : Addr} {v : HV} {o : HO} (hp : H p = some o) (r : RO G [p] H p v o) : (Cf.mk [p] H (FH.mk 1 [(0, v)])).Ok G := by
  refine ⟨rfl, fun i j a h1 h2 => ?_, fun i a h => ?_, fun i w h => ?_⟩
  · cases i with
    | zero => cases j with
      | zero => rfl
      | succ j => simp at h2
    | succ i => simp at h1
  · cases i with
    | zero =>
      have e : p = a := by simpa using h
      show H a ≠ none
      rw [← e, hp]; simp
    | succ i => simp at h
  · have h' : lookA [(0, v)] i = some w := h
    simp only [lookA, beq_dec] at h'
    by_cases q : 0 = i
    · subst q
      simp at h'
      subst h'
      exact ⟨p, o, rfl, hp, r⟩
    · simp [q] at h'
end
end Ev

namespace Ev
open PySem PySem.Spec PyProof.Rows L2
/-! any(t), t a tuple of whole numbers -/
theorem truth_ints {prog : Program} {w : World} {A : Around} {ns : List Int} {its : List Value} (e : IntsAre its ns) :
    TruthOf prog w A (fun i v => its.toArray[i]? = some v) (fun i => decide (ns.getD i 0 ≠ 0)) := fun i v s Q E hv hq => by
  obtain ⟨z, t, h1, rfl⟩ := ints_get e (show its[i]? = some v by simpa using hv)
  have hg : ns.getD i 0 = z := by rw [List.getD_eq_getElem?_getD, h1] <;> rfl
  have hq' : Q (decide (ns.getD i 0 ≠ 0)) s := hq
  rw [hg] at hq'
  refine truthy_int ?_
  have e : (z != 0) = decide (z ≠ 0) := by
    by_cases c : z = 0 <;> simp [c]
  rw [e]
  exact hq'
theorem any_ints : ∀ ns : List Int, (List.range ns.length).any (fun i => decide (ns.getD i 0 ≠ 0)) = ns.any fun z => decide (z ≠ 0)
  | [] => rfl
  | n :: ns => by
    rw [List.length_cons, List.range_succ_eq_map, List.any_cons, List.any_map, List.any_cons, ← any_ints ns]
    all_goals rfl
section
variable {X : Cx}
def rAnyT (K : PySem.W.Frag) : List V → Hp → VK → Prop := fun vs H Q => ∃ (a : Addr) (ns : List Int), vs = [V.ref a] ∧ SqT K H a (ns.map V.int) ∧ Q (.bl (ns.any fun z => decide (z ≠ 0))) H
theorem cr_anyT (hc : X.calm = true) : CallR X (.builtin "any") (rAnyT X.K) := by
  intro pins s σ H vs us Q I r h
  obtain ⟨a, ns, rfl, hs, q⟩ := h
  obtain ⟨its, rv, hl, _⟩ := I.tuple hs
  rw [Vals.ref1 r]
  have hb := ints_vals rv
  have hlt : a < s.heap.objs.size := by obtain ⟨_, e, _⟩ := hl; exact Heap.lt_size e
  refine call_any_walk (wpAny_pyIter_tuple hl ?_)
  refine ⟨_, _, _, _, _, _, _, rfl, Walks.tuple (A := X.A.in1) (I.ok.hd hc) _ a (Nat.ne_of_lt hlt) its.toArray, ⟨⟨_, Heap.get?_push_size _ rfl, rfl, rfl⟩, hl.push _⟩, truth_ints hb, fun h' tk hk => ?_⟩
  refine ⟨.bl _, H, I.kept fun b o eo => hk b o (fun hmem => ?_) (Heap.get?_push_of_some _ eo), ?_, q⟩
  · rcases List.mem_cons.mp hmem with e1 | hmem
    · exact absurd (e1 ▸ Heap.lt_size eo) (Nat.lt_irrefl _)
    · cases hmem
  · show Value.bool _ = Value.bool _
    rw [← any_ints, List.size_toArray, IntsAre.length hb]
end
/-! in the reckoner -/
noncomputable def anyNZ (xs : List W) : Option Bool := List.rec (motive := fun _ => Option Bool) (some false) (fun x _ ih => match x with
  | .k v => match v with
    | .int i => match ih with
      | some b => some (or (!(iEq i 0)) b)
      | none => none
    | _ => none
  | _ => none) xs
noncomputable def cAnyT : Opn := fun ws S => one ws fun w => match w with
  | .tup xs => match anyNZ xs with
    | some b => okB b S
    | none => .stuck
  | .obj i => kobj i S fun xs => blsK xs fun bs => okB (orL bs) S
  | _ => .stuck
theorem anyNZ_of {K : PySem.W.Frag} {ρ : List Addr} {H : Hp} : ∀ {xs : List W} {vs : List V} {b : Bool}, anyNZ xs = some b → RWs K ρ H xs vs → ∃ ns : List Int, vs = ns.map V.int ∧ (ns.any fun z => decide (z ≠ 0)) = b
  | [], vs, b, h, r => by
    unfold RWs at r
    cases (show some false = some b from h)
    exact ⟨[], r, rfl⟩
  | x :: xs, vs, b, h, r => by
    unfold RWs at r
    obtain ⟨v, rs, rfl, r1, r2⟩ := r
    cases x with
    | k u =>
      cases u with
      | int i =>
        have h' : (match anyNZ xs with | some b => some (or (!(iEq i 0)) b) | none => none) = some b := h
        cases q : anyNZ xs with
        | none => rw [q] at h'; cases h'
        | some c =>
          rw [q] at h'
          cases h'
          obtain ⟨ns, rfl, e⟩ := anyNZ_of q r2
          refine ⟨i :: ns, by rw [rw_k r1]; rfl, ?_⟩
          rw [List.any_cons, e, iEq_eq]
          by_cases z : i = 0 <;> simp [z]
      | _ => cases (show none = some b from h)
    | tup _ => cases (show none = some b from h)
    | mix _ => (first | exact post_stuck (by assumption) | exact .inl (by assumption) | (exfalso; contradiction) | (unfold nkey at *; contradiction) | (unfold RW at *; simp_all; done) | (simp_all; done))
    | pt _ => (first | exact post_stuck (by assumption) | exact .inl (by assumption) | (exfalso; contradiction) | (unfold nkey at *; contradiction) | (unfold RW at *; simp_all; done) | (simp_all; done))
    | obj _ => cases (show none = some b from h)
section
variable {G : Glo} {X : Cx}
theorem cx_anyT (hx : Okx G X) : CallX G X (.builtin "any") cAnyT := ⟨_, cr_or (cr_any hx.calm) (cr_anyT hx.calm), fun W' C ws vs Q ok rv p => by
  rw [hx.k]
  obtain ⟨w, v, rfl, r, p⟩ := post_one rv p
  cases w with
  | k u => exact post_stuck p
  | tup xs =>
    simp only at p
    unfold RW at r
    obtain ⟨a, us, rfl, h1, h2⟩ := r
    cases q : anyNZ xs with
    | none => simp only [q] at p; exact post_stuck p
    | some b =>
      simp only [q] at p
      obtain ⟨ns, rfl, e⟩ := anyNZ_of q h2
      exact .inr ⟨a, ns, rfl, h1, by rw [e]; exact post_okB ok p⟩
  | mix _ => (first | exact post_stuck (by assumption) | exact .inl (by assumption) | (exfalso; contradiction) | (unfold nkey at *; contradiction) | (unfold RW at *; simp_all; done) | (simp_all; done))
  | pt _ => (first | exact post_stuck (by assumption) | exact .inl (by assumption) | (exfalso; contradiction) | (unfold nkey at *; contradiction) | (unfold RW at *; simp_all; done) | (simp_all; done))
  | obj i =>
    obtain ⟨xs, a, us, _, h1, h2, h3, p⟩ := post_kobj ok p
    unfold RW at r
    obtain ⟨a', rfl, e⟩ := r
    rw [h1] at e; cases e
    obtain ⟨bs, e, p⟩ := post_bls h3 p
    subst e
    exact .inl ⟨a, bs, rfl, SqL.of h2, by rw [← orL_eq]; exact post_okB ok p⟩⟩
end
end Ev

namespace Ev
open PySem PySem.Spec PyProof.Rows L2
section
variable {G : Glo} {X : Cx} {W' : WX} {pos : Pos}
/-! o[i] op= e, o a list -/
end
end Ev

namespace Ev
open PySem PySem.Spec PyProof.Rows L2
open PySem.W (alike alikeAll dataLt AllAlike Sortable EachIs TotalLe sameRank dataLe)
section
variable {G : Glo} {X : Cx} {W' : WX} {pos : Pos}
/-! <=, >, >= of tuples -/
def rDat (f : PyData → PyData → Bool) (K : PySem.W.Frag) : R2 := fun x y H Q => ∃ d e, Dp K H x d ∧ Dp K H y e ∧ alike d e = true ∧ d ≠ .none ∧ d.depth ≤ 40 ∧ Q (.bl (f d e)) H
theorem op_gtD (hu : X.A.units + 65 < cLine) : OpR X (compareOp .Gt) (rDat (fun d e => dataLt e d) X.K) := by
  intro pins s σ H x y v u Q I rx ry h
  obtain ⟨d, e, h1, h2, h3, h4, h5, q⟩ := h
  obtain ⟨as, r1⟩ := Dp.reads I d x v h1 rx
  obtain ⟨bs, r2⟩ := Dp.reads I e y u h2 ry
  exact PySem.W.gt_data r1 r2 h3 h4 (by have := Nat.min_le_left d.depth e.depth; omega) ⟨.bl _, H, I, rfl, q⟩
theorem op_geD (hu : X.A.units + 65 < cLine) : OpR X (compareOp .GtE) (rDat (fun d e => !dataLt d e) X.K) := by
  intro pins s σ H x y v u Q I rx ry h
  obtain ⟨d, e, h1, h2, h3, h4, h5, q⟩ := h
  obtain ⟨as, r1⟩ := Dp.reads I d x v h1 rx
  obtain ⟨bs, r2⟩ := Dp.reads I e y u h2 ry
  exact PySem.W.ge_data r1 r2 h3 h4 (by have := Nat.min_le_left d.depth e.depth; omega) ⟨.bl _, H, I, rfl, q⟩
abbrev LtF := (PyData → PyData → Bool) → PyData → PyData → Bool
noncomputable def gDat (F : LtF) (g : Op2) : Op2 := fun a b S => match a with
  | .tup _ => datK a S fun d => datK b S fun e => match alF 45 d e with
    | true => match alF 45 e d with
      | true => fBool (F (ltF 45) d e) fun r => .ok (.k (.bl r)) S
      | false => .stuck
    | false => .stuck
  | _ => g a b S
theorem ox_dat {op : CmpOp} {g : Op2} {F : LtF} (hF : ∀ d e, ltF 45 d e = dataLt d e → ltF 45 e d = dataLt e d → F (ltF 45) d e = F dataLt d e) (h0 : OpX G X (compareOp op) g) (h1 : OpR X (compareOp op) (rDat (F dataLt) G.K)) : OpX G X (compareOp op) (gDat F g) := by
  obtain ⟨r, o1, s1⟩ := h0
  refine ⟨fun x y H Q => r x y H Q ∨ rDat (F dataLt) G.K x y H Q, opr_or o1 h1, fun W' C a b x y Q ok ra rb p => ?_⟩
  cases a with
  | k u => exact .inl (s1 W' C _ b x y Q ok ra rb p)
  | mix i => exact .inl (s1 W' C _ b x y Q ok ra rb p)
  | pt i => exact .inl (s1 W' C _ b x y Q ok ra rb p)
  | obj i => exact .inl (s1 W' C _ b x y Q ok ra rb p)
  | tup xs =>
    right
    have p' : Post G W' C (datK (.tup xs) C.S fun d => datK b C.S fun e => match alF 45 d e with
      | true => match alF 45 e d with
        | true => fBool (F (ltF 45) d e) fun r => .ok (.k (.bl r)) C.S
        | false => .stuck
      | false => .stuck) (PhE G Q) := p
    obtain ⟨d, h1, h2, _, h3, p2⟩ := post_dat ok ra p'
    obtain ⟨e, h4, h5, _, h6, p3⟩ := post_dat ok rb p2
    cases q : alF 45 d e with
    | false => simp only [q] at p3; exact post_stuck p3
    | true =>
      simp only [q] at p3
      cases q2 : alF 45 e d with
      | false => simp only [q2] at p3; exact post_stuck p3
      | true =>
        simp only [q2, fBool_eq] at p3
        refine ⟨d, e, h1, h4, alF_of 45 d e q, fun z => ?_, h3, ?_⟩
        · subst z
          cases e <;> cases q
        · rw [← hF d e (ltF_eq 45 d e (by omega) q) (ltF_eq 45 e d (by omega) q2)]
          exact Post.now ok p3 _ mk_k
noncomputable def gGt2 : Op2 := gDat (fun lt d e => lt e d) gGt
noncomputable def gGe2 : Op2 := gDat (fun lt d e => !(lt d e)) gGe
theorem ox_gt2 (hx : Okx G X) : OpX G X (compareOp .Gt) gGt2 := ox_dat (fun d e _ h => by rw [h]) ox_gt (by rw [← hx.k]; exact op_gtD hx.un)
theorem ox_ge2 (hx : Okx G X) : OpX G X (compareOp .GtE) gGe2 := ox_dat (fun d e h _ => by rw [h]) ox_ge (by rw [← hx.k]; exact op_geD hx.un)
end
end Ev

namespace Ev
open PySem PySem.Spec PyProof.Rows L2
section
variable {G : Glo} {X : Cx} {W' : WX} {pos : Pos}
/-! o.f op= e -/
end
end Ev

namespace Ev
open PySem PySem.Spec PyProof.Rows L2
/-! ## reversed(range(..)) as an iterator -/
section
variable {G : Glo} {X : Cx} {W' : WX} {pos : Pos}
end
end Ev

namespace Ev
open PySem PySem.Spec PyProof.Rows L2
/-! ## a dict whose keys are whole numbers -/
section
variable {G : Glo} {X : Cx} {W' : WX} {pos : Pos}
theorem KIs.length {K : PySem.W.Frag} {ρ : List Addr} {H : Hp} : ∀ {kvs : List (Int × W)} {xs : List (Key × V)}, KIs K ρ H kvs xs → xs.length = kvs.length
  | [], xs, h => by
    cases (show xs = [] from h)
    rfl
  | p :: r, xs, h => by
    obtain ⟨u, ys, rfl, h1, h2⟩ := h
    simp [h2.length]
/-! ### k in d, d[k], d[k] = v -/
end
/-! ## len(set(xs)), xs a list of whole numbers -/
section
variable {X : Cx}
end
section
variable {G : Glo} {X : Cx} {W' : WX} {pos : Pos}
end
end Ev

namespace Ev
open PySem PySem.Spec PyProof.Rows L2
/-! ## an expression whose draws and new objects are forgotten: all its ways must end alike -/
noncomputable def eqV : V → V → Bool
  | .int i, .int j => iEq i j
  | .bl a, .bl b => a == b
  | .non, .non => true
  | .str x, .str y => eqS x y
  | _, _ => false
theorem eqV_eq {a b : V} (h : eqV a b = true) : a = b := by
  cases a <;> cases b <;> first
    | rfl
    | (simp only [eqV, Bool.false_eq_true] at h; done)
    | (simp only [eqV, iEq_eq, decide_eq_true_eq] at h; rw [h])
    | (simp only [eqV, beq_iff_eq] at h; rw [h])
    | (simp only [eqV, eqS_eq, decide_eq_true_eq] at h; rw [h])
mutual
noncomputable def eqW : W → W → Bool
  | .k a, .k b => eqV a b
  | .tup xs, .tup ys => eqWs xs ys
  | .obj i, .obj j => Nat.beq i j
  | _, _ => false
noncomputable def eqWs : List W → List W → Bool
  | [], [] => true
  | x :: xs, y :: ys => match eqW x y with
    | true => eqWs xs ys
    | false => false
  | _, _ => false
end
mutual
theorem eqW_eq : ∀ {a b : W}, eqW a b = true → a = b
  | .k a, .k b, h => by unfold eqW at h; rw [eqV_eq h]
  | .tup xs, .tup ys, h => by unfold eqW at h; rw [eqWs_eq h]
  | .obj i, .obj j, h => by unfold eqW at h; rw [Nat.eq_of_beq_eq_true h]
  | .k _, .tup _, h => by unfold eqW at h; cases h
  | .k _, .obj _, h => by unfold eqW at h; cases h
  | .tup _, .k _, h => by unfold eqW at h; cases h
  | .tup _, .obj _, h => by unfold eqW at h; cases h
  | .mix _, _, h => by unfold eqW at h; cases h
  | .pt _, _, h => by unfold eqW at h; cases h
  | .k _, .mix _, h => by unfold eqW at h; cases h
  | .k _, .pt _, h => by unfold eqW at h; cases h
  | .tup _, .mix _, h => by unfold eqW at h; cases h
  | .tup _, .pt _, h => by unfold eqW at h; cases h
  | .obj _, .mix _, h => by unfold eqW at h; cases h
  | .obj _, .pt _, h => by unfold eqW at h; cases h
  | .obj _, .k _, h => by unfold eqW at h; cases h
  | .obj _, .tup _, h => by unfold eqW at h; cases h
theorem eqWs_eq : ∀ {xs ys : List W}, eqWs xs ys = true → xs = ys
  | [], [], _ => rfl
  | x :: xs, y :: ys, h => by
    unfold eqWs at h
    cases q : eqW x y with
    | false => rw [q] at h; cases h
    | true =>
      rw [q] at h
      rw [eqW_eq q, eqWs_eq h]
  | [], _ :: _, h => by unfold eqWs at h; cases h
  | _ :: _, [], h => by unfold eqWs at h; cases h
end
noncomputable def eqH : HV → HV → Bool
  | .lst xs, .lst ys => eqWs xs ys
  | .cel, .cel => true
  | .urn n, .urn m => Nat.beq n m
  | _, _ => false
/-! names below n only -/
mutual
def cloW (n : Nat) : W → Bool
  | .k _ => true
  | .tup xs => cloWs n xs
  | .obj i => Nat.blt i n
  | .mix xs => cloWs n xs
  | .pt xs => cloWs n xs
def cloWs (n : Nat) : List W → Bool
  | [] => true
  | x :: xs => match cloW n x with
    | true => cloWs n xs
    | false => false
end
mutual
theorem cloW_rw {K : PySem.W.Frag} {ρ : List Addr} {H : Hp} {n : Nat} : ∀ {w : W} {v : V}, cloW n w = true → RW K ρ H w v → RW K (ρ.take n) H w v
  | .k _, v, c, h => by unfold RW at h ⊢; exact h
  | .tup xs, v, c, h => by
    unfold RW at h ⊢
    unfold cloW at c
    obtain ⟨a, vs, e, h1, h2⟩ := h
    exact ⟨a, vs, e, h1, cloWs_rw c h2⟩
  | .obj i, v, c, h => by
    unfold RW at h ⊢
    unfold cloW at c
    obtain ⟨a, e, h1⟩ := h
    exact ⟨a, e, by rw [List.getElem?_take_of_lt (blt_of c)]; exact h1⟩
  | .mix xs, v, c, h => by
    unfold RW at h ⊢
    unfold cloW at c
    obtain ⟨a, vs, e, h1, h2⟩ := h
    exact ⟨a, vs, e, h1, cloWs_rw c h2⟩
  | .pt xs, v, c, h => by
    unfold RW at h ⊢
    unfold cloW at c
    obtain ⟨a, vs, e, h1, h2⟩ := h
    exact ⟨a, vs, e, h1, cloWs_rw c h2⟩
theorem cloWs_rw {K : PySem.W.Frag} {ρ : List Addr} {H : Hp} {n : Nat} : ∀ {ws : List W} {vs : List V}, cloWs n ws = true → RWs K ρ H ws vs → RWs K (ρ.take n) H ws vs
  | [], vs, c, h => by unfold RWs at h ⊢; exact h
  | w :: ws, vs, c, h => by
    unfold cloWs at c
    cases q : cloW n w with
    | false => rw [q] at c; cases c
    | true =>
      rw [q] at c
      unfold RWs at h ⊢
      obtain ⟨v, r, e, h1, h2⟩ := h
      exact ⟨v, r, e, cloW_rw q h1, cloWs_rw c h2⟩
end
section
variable {G : Glo} {X : Cx} {W' : WX} {pos : Pos}
end
end Ev

namespace Ev
open PySem PySem.Spec PyProof.Rows L2
/-! ## an expression over one plain local and the urn, reckoned once and kept in a table -/
mutual
theorem rw_any {K : PySem.W.Frag} {ρ ρ' : List Addr} {H : Hp} : ∀ {w : W} {v : V}, cloW 0 w = true → RW K ρ H w v → RW K ρ' H w v
  | .k _, v, c, h => by unfold RW at h ⊢; exact h
  | .tup xs, v, c, h => by
    unfold RW at h ⊢
    unfold cloW at c
    obtain ⟨a, vs, e, h1, h2⟩ := h
    exact ⟨a, vs, e, h1, rws_any c h2⟩
  | .obj i, v, c, h => by
    unfold cloW at c
    exact absurd (blt_of c) (Nat.not_lt_zero i)
  | .mix xs, v, c, h => by
    unfold RW at h ⊢
    unfold cloW at c
    obtain ⟨a, vs, e, h1, h2⟩ := h
    exact ⟨a, vs, e, h1, rws_any c h2⟩
  | .pt xs, v, c, h => by
    unfold RW at h ⊢
    unfold cloW at c
    obtain ⟨a, vs, e, h1, h2⟩ := h
    exact ⟨a, vs, e, h1, rws_any c h2⟩
theorem rws_any {K : PySem.W.Frag} {ρ ρ' : List Addr} {H : Hp} : ∀ {ws : List W} {vs : List V}, cloWs 0 ws = true → RWs K ρ H ws vs → RWs K ρ' H ws vs
  | [], vs, c, h => by unfold RWs at h ⊢; exact h
  | w :: ws, vs, c, h => by
    unfold cloWs at c
    cases q : cloW 0 w with
    | false => rw [q] at c; cases c
    | true =>
      rw [q] at c
      unfold RWs at h ⊢
      obtain ⟨v, r, e, h1, h2⟩ := h
      exact ⟨v, r, e, rw_any q h1, rws_any c h2⟩
end
/-- the local io and the urn alone -/
def mkL (len iu io : Nat) (w : W) : Lo := setL (setL (List.replicate len none) io (some w)) iu (some (.obj 0))
abbrev UE := W × Nat × W × Nat
section
variable {G : Glo} {X : Cx} {W' : WX} {pos : Pos}
end
end Ev

namespace Ev
open PySem PySem.Spec PyProof.Rows L2
/-! ## calls of plain arguments, reckoned once: the answer may hold new lists -/
mutual
noncomputable def shW (d : Nat) : W → W
  | .k v => .k v
  | .tup xs => .tup (shWs d xs)
  | .obj i => .obj (Nat.add d i)
  | .mix xs => .mix (shWs d xs)
  | .pt xs => .pt (shWs d xs)
noncomputable def shWs (d : Nat) : List W → List W
  | [] => []
  | x :: xs => shW d x :: shWs d xs
end
mutual
theorem shW_rw {K : PySem.W.Frag} {ρ ρ' : List Addr} {H : Hp} : ∀ {w : W} {v : V}, RW K ρ' H w v → RW K (ρ ++ ρ') H (shW ρ.length w) v
  | .k _, v, h => by unfold shW; unfold RW at h ⊢; exact h
  | .tup xs, v, h => by
    unfold shW
    unfold RW at h ⊢
    obtain ⟨a, vs, e, h1, h2⟩ := h
    exact ⟨a, vs, e, h1, shWs_rw h2⟩
  | .obj i, v, h => by
    unfold shW
    unfold RW at h ⊢
    obtain ⟨a, e, h1⟩ := h
    refine ⟨a, e, ?_⟩
    show (ρ ++ ρ')[ρ.length + i]? = some a
    rw [List.getElem?_append_right (by omega)]
    rw [show ρ.length + i - ρ.length = i by omega]
    exact h1
  | .mix xs, v, h => by
    unfold shW
    unfold RW at h ⊢
    obtain ⟨a, vs, e, h1, h2⟩ := h
    exact ⟨a, vs, e, h1, shWs_rw h2⟩
  | .pt xs, v, h => by
    unfold shW
    unfold RW at h ⊢
    obtain ⟨a, vs, e, h1, h2⟩ := h
    exact ⟨a, vs, e, h1, shWs_rw h2⟩
theorem shWs_rw {K : PySem.W.Frag} {ρ ρ' : List Addr} {H : Hp} : ∀ {ws : List W} {vs : List V}, RWs K ρ' H ws vs → RWs K (ρ ++ ρ') H (shWs ρ.length ws) vs
  | [], vs, h => by unfold shWs; unfold RWs at h ⊢; exact h
  | w :: ws, vs, h => by
    unfold shWs
    unfold RWs at h ⊢
    obtain ⟨v, r, e, h1, h2⟩ := h
    exact ⟨v, r, e, shW_rw h1, shWs_rw h2⟩
end
section
variable {G : Glo}
end
end Ev

namespace Ev
open PySem PySem.Spec PyProof.Rows L2
/-! ## things whose lists and tuples nobody knows apart: a draw per list or tuple, all ways at once -/
inductive LockAll : Hp → (Hp → Prop) → Prop
  | done {H : Hp} {R : Hp → Prop} (h : R H) : LockAll H R
  | lock {H : Hp} {R : Hp → Prop} {a : Addr} {xs : List V} (e : H a = some (.lst xs)) (k : ∀ o, LockAll (upd H a (.frz o (.lst xs))) R) : LockAll H R
/-- H is H0, but some lists of A are locked -/
def Frzd (A : Addr → Prop) (H0 H : Hp) : Prop := ∀ a, H a = H0 a ∨ (A a ∧ ∃ o xs, H0 a = some (.lst xs) ∧ H a = some (.frz o (.lst xs)))
/-! the shape: what is told, what came out -/
mutual
noncomputable def isMx (l : List (Nat × HV)) : W → W → Bool
  | .mix ys, w => match w with
    | .tup xs => isMxs l ys xs
    | .obj i => match Nat.blt 0 i with
      | true => match lookA l i with
        | some hv => match hv with
          | .lst xs => isMxs l ys xs
          | _ => false
        | none => false
      | false => false
    | _ => false
  | .k a, w => match w with
    | .k b => eqV a b
    | _ => false
  | .tup _, _ => false
  | .obj _, _ => false
  | .pt _, _ => false
noncomputable def isMxs (l : List (Nat × HV)) : List W → List W → Bool
  | [], xs => match xs with
    | [] => true
    | _ :: _ => false
  | y :: ys, xs => match xs with
    | [] => false
    | x :: xs => match isMx l y x with
      | true => isMxs l ys xs
      | false => false
end
noncomputable def allB0 (ih : Nat → Bool) (n : Nat) : Bool := Nat.rec (motive := fun _ => Bool) true (fun k r => match ih k with
  | true => r
  | false => false) n
/-- each way gives a thing of this shape, the urn drawn this often -/
noncomputable def allMx (y : W) (n : Nat) (m : Res W) : Bool := Res.rec (motive := fun _ => Bool) (fun a S => match isMx S.l y a with
  | true => match lookA S.l 0 with
    | some hv => eqH hv (.urn n)
    | none => false
  | false => false) (fun _ _ _ _ => false) (fun k _ ih => allB0 ih k) false m
noncomputable def okX (f : Evl) (iu io len : Nat) (e : UE) : Bool := match allMx e.2.2.1 e.2.2.2 (f (mkL len iu io e.1) ⟨1, [(0, .urn e.2.1)]⟩) with
  | true => match cloW 0 e.1 with
    | true => cloW 0 e.2.2.1
    | false => false
  | false => false
section
variable {G : Glo} {X : Cx} {W' : WX}
theorem frz_tup {K : PySem.W.Frag} {A : Addr → Prop} {H0 H : Hp} (f : Frzd A H0 H) {a : Addr} {vs : List V} (h : SqT K H0 a vs) : SqT K H a vs := by
  have key : ∀ o, H0 a = some o → (∀ xs, o ≠ .lst xs) → H a = some o := fun o e n => by
    rcases f a with e' | ⟨_, _, xs, e1, _⟩
    · rw [e', e]
    · rw [e] at e1; cases e1; exact absurd rfl (n xs)
  rcases h with (h | ⟨o, h⟩) | h
  · exact .inl (.inl (key _ h fun _ z => HO.noConfusion z))
  · exact .inl (.inr ⟨o, key _ h fun _ z => HO.noConfusion z⟩)
  · exact .inr h
mutual
theorem mx_rw {C : Cf} (ok : C.Ok G) {A : Addr → Prop} {H : Hp} {ρ : List Addr} (f : Frzd A C.H H) (al : ∀ (i : Nat) (a : Addr) (vs : List V), 0 < i → C.ρ[i]? = some a → C.H a = some (.lst vs) → ∃ o, H a = some (.frz o (.lst vs))) : ∀ {y w : W} {v : V}, isMx C.S.l y w = true → RW G.K C.ρ C.H w v → RW G.K ρ H y v
  | .mix ys, w, v, h, r => by
    unfold isMx at h
    cases w with
    | k _ => cases h
    | mix _ => cases h
    | pt _ => cases h
    | tup xs =>
      unfold RW at r ⊢
      obtain ⟨a, vs, e, h1, h2⟩ := r
      exact ⟨a, vs, e, .inl (frz_tup f h1), mxs_rw ok f al h h2⟩
    | obj i =>
      simp only at h
      cases q0 : Nat.blt 0 i with
      | false => simp only [q0] at h; cases h
      | true =>
        simp only [q0] at h
        cases q : lookA C.S.l i with
        | none => rw [q] at h; cases h
        | some hv =>
          rw [q] at h
          cases hv with
          | lst xs =>
            obtain ⟨a, vs, h1, h2, h3⟩ := Cf.lstAt ok (show C.S.get i = some (.lst xs) from q)
            unfold RW at r ⊢
            obtain ⟨a', e, h4⟩ := r
            rw [h1] at h4; cases h4
            obtain ⟨o, h5⟩ := al i a vs (blt_of q0) h1 h2
            exact ⟨a, vs, e, .inr ⟨o, h5⟩, mxs_rw ok f al h h3⟩
          | _ => cases h
  | .k a, w, v, h, r => by
    unfold isMx at h
    cases w with
    | k b =>
      have := eqV_eq h
      subst this
      unfold RW at r ⊢
      exact r
    | _ => cases h
  | .tup _, _, _, h, _ => by unfold isMx at h; cases h
  | .obj _, _, _, h, _ => by unfold isMx at h; cases h
  | .pt _, _, _, h, _ => by unfold isMx at h; cases h
theorem mxs_rw {C : Cf} (ok : C.Ok G) {A : Addr → Prop} {H : Hp} {ρ : List Addr} (f : Frzd A C.H H) (al : ∀ (i : Nat) (a : Addr) (vs : List V), 0 < i → C.ρ[i]? = some a → C.H a = some (.lst vs) → ∃ o, H a = some (.frz o (.lst vs))) : ∀ {ys ws : List W} {vs : List V}, isMxs C.S.l ys ws = true → RWs G.K C.ρ C.H ws vs → RWs G.K ρ H ys vs
  | [], [], vs, h, r => by unfold RWs at r ⊢; exact r
  | [], _ :: _, vs, h, r => by unfold isMxs at h; cases h
  | _ :: _, [], vs, h, r => by unfold isMxs at h; cases h
  | y :: ys, x :: xs, vs, h, r => by
    unfold isMxs at h
    simp only at h
    cases q : isMx C.S.l y x with
    | false => rw [q] at h; cases h
    | true =>
      rw [q] at h
      unfold RWs at r ⊢
      obtain ⟨v, r', e, h1, h2⟩ := r
      exact ⟨v, r', e, mx_rw ok f al q h1, mxs_rw ok f al h h2⟩
end
end
end Ev

namespace Ev
open PySem PySem.Spec PyProof.Rows L2
open PySem.W (alike alikeAll dataLt AllAlike Sortable EachIs TotalLe sameRank dataLe KeyEnd KeyIs KeyedOut)
/-! ## sorted(.., key=sum), sorted(.., key=len), reverse=True too -/
section
variable {X : Cx} {pins : List (Addr × Obj)} {σ : L2.St} {H : Hp} {s : Shared} {E : Value → Shared → Prop}
/-- keywords whose values are known -/
structure KV (X : Cx) (kws : List Keyword) (ws : List Value) : Prop where
  run : ∀ (pos : Pos) (pins : List (Addr × Obj)) (s : Shared) (σ : L2.St) (H : Hp) (Q : List Value → Shared → Prop), Inv X pins σ H s → (∀ s', Inv X pins σ H s' → Q ws s') → wpAny (model X.prog X.w) X.A (evalAll ((backToKw pos (keywordEach kws X.env)).map (·.2))) Q X.xe s
end
/-! in the reckoner -/
section
variable {G : Glo} {X : Cx} {W' : WX} {pos : Pos}
end
end Ev

namespace Ev
open PySem PySem.Spec PyProof.Rows L2
/-! ## dict(d), d a dict whose keys are tuples: the keys' hashes must be unlike (nothing is known of two keys that meet) -/
noncomputable def hshF (ih : W → Option Int) (xs : List W) : Option (List Int) := List.rec (motive := fun _ => Option (List Int)) (some []) (fun x _ r => match ih x with
  | some h => match r with
    | some hs => some (h :: hs)
    | none => none
  | none => none) xs
/-- hash(k) of a key without texts -/
noncomputable def hsh (n : Nat) : W → Option Int := Nat.rec (motive := fun _ => W → Option Int) (fun _ => none) (fun _ ih w => match w with
  | .k v => match v with
    | .int i => some (hashInt i)
    | _ => none
  | .tup xs => match hshF ih xs with
    | some hs => some (reduceHash (Builtin.Tuple.tupleHashOf hs))
    | none => none
  | _ => none) n
theorem hshF_of {ih : W → Option Int} {W0 : World} (hi : ∀ w h k, ih w = some h → nkey w = some k → NestedKey.hash W0 k = h) : ∀ {xs : List W} {hs : List Int} {ks : List NestedKey}, hshF ih xs = some hs → nkeys xs = some ks → NestedKey.hashes W0 ks = hs
  | [], hs, ks, h, e => by
    cases (show some [] = some hs from h)
    unfold nkeys at e
    cases e
    unfold NestedKey.hashes
    rfl
  | x :: xs, hs, ks, h, e => by
    have h' : (match (generalizing := false) ih x with
      | some h => match (generalizing := false) hshF ih xs with
        | some hs => some (h :: hs)
        | none => none
      | none => none) = some hs := h
    unfold nkeys at e
    cases q1 : ih x with
    | none => rw [q1] at h'; cases h'
    | some a =>
      cases q2 : hshF ih xs with
      | none => simp only [q1, q2] at h'; cases h'
      | some r =>
        simp only [q1, q2] at h'
        cases h'
        cases e1 : nkey x with
        | none => simp only [e1] at e; cases e
        | some k =>
          cases e2 : nkeys xs with
          | none => simp only [e1, e2] at e; cases e
          | some ks' =>
            simp only [e1, e2] at e
            cases e
            unfold NestedKey.hashes
            rw [hi x a k q1 e1, hshF_of hi q2 e2]
theorem hsh_of {W0 : World} : ∀ (n : Nat) (w : W) (h : Int) (k : NestedKey), hsh n w = some h → nkey w = some k → NestedKey.hash W0 k = h
  | 0, w, h, k, e, _ => by cases (show none = some h from e)
  | n + 1, w, h, k, e, q => by
    cases w with
    | obj i => cases (show none = some h from e)
    | mix i => cases (show none = some h from e)
    | pt i => cases (show none = some h from e)
    | k v =>
      cases v with
      | int i =>
        cases (show some (hashInt i) = some h from e)
        unfold nkey at q
        cases q
        unfold NestedKey.hash
        rfl
      | _ => cases (show none = some h from e)
    | tup xs =>
      have e' : (match (generalizing := false) hshF (hsh n) xs with
        | some hs => some (reduceHash (Builtin.Tuple.tupleHashOf hs))
        | none => none) = some h := e
      cases q1 : hshF (hsh n) xs with
      | none => rw [q1] at e'; cases e'
      | some hs =>
        rw [q1] at e'
        cases e'
        unfold nkey at q
        cases q2 : nkeys xs with
        | none => rw [q2] at q; cases q
        | some ks =>
          rw [q2] at q
          cases q
          unfold NestedKey.hash
          rw [hshF_of (hsh_of n) q1 q2]
noncomputable def notInI (a : Int) (xs : List Int) : Bool := List.rec (motive := fun _ => Bool) true (fun x _ r => match iEq a x with
  | true => false
  | false => r) xs
noncomputable def nodupI (xs : List Int) : Bool := List.rec (motive := fun _ => Bool) true (fun x r ih => match notInI x r with
  | true => ih
  | false => false) xs
theorem notInI_of {a : Int} : ∀ {xs : List Int}, notInI a xs = true → a ∉ xs
  | [], _ => List.not_mem_nil
  | x :: xs, h => by
    have h' : (match iEq a x with | true => false | false => notInI a xs) = true := h
    rw [iEq_eq] at h'
    by_cases z : a = x
    · rw [decide_eq_true z] at h'; cases h'
    · rw [decide_eq_false z] at h'
      intro m
      rcases List.mem_cons.mp m with m | m
      · exact z m
      · exact notInI_of h' m
theorem nodupI_of : ∀ {xs : List Int}, nodupI xs = true → xs.Nodup
  | [], _ => List.nodup_nil
  | x :: xs, h => by
    have h' : (match notInI x xs with | true => nodupI xs | false => false) = true := h
    cases q : notInI x xs with
    | false => rw [q] at h'; cases h'
    | true =>
      rw [q] at h'
      exact List.nodup_cons.mpr ⟨notInI_of q, nodupI_of h'⟩
section
variable {X : Cx}
def rDictD (P : Program) (w : World) (K : PySem.W.Frag) : List V → Hp → VK → Prop := fun xs H Q => ∃ (a : Addr) (ks : List (NestedKey × Addr × V)), xs = [.ref a] ∧ Rd H a (dctO P w a ks) ∧ KeysOk K H ks ∧ (ks.map fun x => NestedKey.hash w x.1).Nodup ∧ ∀ p, H p = none → Q (.ref p) (upd H p (dctO P w p ks))
theorem key_tuple {h : Heap} {k : NestedKey} {a : Addr} (n : NestedIs h k (.ref a)) : ∃ o, h.get? a = some o ∧ o.cls = .type "tuple" := by
  cases n with
  | tup h1 h2 => exact ⟨_, h1, h2⟩
theorem rel_hash {P : Program} {w : World} : ∀ {xs : List (NestedKey × Addr × V)} {ys : List (NestedKey × Addr × Value)}, Paired KxR xs ys → (ys.map fun y => (nestedKind P w).hash y.1) = xs.map fun x => NestedKey.hash w x.1
  | _, _, .nil => rfl
  | _, _, .cons ⟨h1, _, _⟩ r => by
    rw [List.map_cons, List.map_cons, rel_hash r, h1]
    rfl
theorem call_dictDN (hu : X.A.units + 64 < cLine) : CallR X (.type "dict") (rDictD X.prog X.w X.K) := by
  intro pins s σ H xs us Q I r q
  obtain ⟨a, ks, rfl, hd, hk, nd, q⟩ := q
  obtain ⟨u, rfl, rx⟩ := vals1 r
  cases rx
  obtain ⟨lo, hz, ys, rel, dd⟩ := dct_at I hd hk
  have hkr := keys_rel rel hk I
  have new0 : (s.heap.push { cls := .type "dict", data := .dict #[] }).DictOfH (nestedKind X.prog X.w) s.heap.objs.size [] := ⟨_, #[], 0, Heap.get?_push_size _ rfl, ⟨rfl, rfl, rfl⟩, rfl, rfl, fun x hx => (by cases hx), List.nodup_nil⟩
  have old : ∀ b o, s.heap.get? b = some o → (s.heap.push { cls := .type "dict", data := .dict #[] }).get? b = some o := fun b o e => Heap.get?_push_of_some _ e
  have I1 : Inv X pins σ H { s with heap := s.heap.push { cls := .type "dict", data := .dict #[] } } := I.kept (t' := s.toks) old
  obtain ⟨_, _, ys1, rel1, dd1⟩ := dct_at I1 hd hk
  have ne : s.heap.objs.size ≠ a := by
    obtain ⟨_, _, _, hg, _⟩ := id dd
    exact fun e => absurd (Heap.lt_size hg) (by rw [e]; exact Nat.lt_irrefl _)
  have hp : H s.heap.objs.size = none := I.hok.fresh (Nat.le_refl _)
  have lz : ys1.length = ks.length := (Paired.length rel1).symm
  refine callType_codes (Q₁ := fun v t => v = .ref s.heap.objs.size ∧ t = { s with heap := s.heap.push { cls := .type "dict", data := .dict #[] } }) F.kt_called_dict (F.kt_typeCall_dict_1 _) F.entry_dict_init (kt_code_dict_new _ ⟨rfl, rfl⟩) fun v t ⟨e1, e2⟩ => ?_
  subst e1 e2
  have hT : Shared.TypeIs { s with heap := s.heap.push { cls := .type "dict", data := .dict #[] } } (.ref s.heap.objs.size) "dict" := ⟨_, Heap.get?_push_size _ rfl, rfl⟩
  refine ⟨hT, F.args_dict_init_2 _ _, ?_⟩
  unfold Builtin.«dict.__init__»
  refine wpAny_bind ?_
  unfold Builtin.Dict.selfAndRest
  refine wpAny_bind (wpAny_notOrdered_dict hT (wpAny_pure ?_))
  refine updateFrom_dictH (s := { s with heap := s.heap.push { cls := .type "dict", data := .dict #[] } }) (knd := nestedKind X.prog X.w) .none (by show X.A.units + 1 + 1 + 8 < cLine; omega) ne lo new0 dd1 (.inr ⟨fun x hx => ?_, ?_⟩) (by simp only [List.length_nil]; omega) fun h' d1 d2 sb => ⟨rfl, ?_⟩
  · exact key_tuple (keys_rel rel1 hk I1 x hx).1
  · rw [rel_hash rel1]
    exact nd
  · have e : storedAllH [] ys1 = ys1 := storedAllH_nil_of_nodup ys1 d2.nodup
    rw [e] at d1
    have kp : ∀ b o, s.heap.get? b = some o → h'.get? b = some o := fun b o z => (sb.2 b (Nat.ne_of_lt (Heap.lt_size z))).trans (old b o z)
    exact ⟨.ref s.heap.objs.size, _, I.laid (t' := s.toks) kp (Nat.le_refl _) (dctO_ok (beq_eq_false_iff_ne.mpr (Nat.ne_of_gt I.big)) hz rel1 d1), rfl, q _ hp⟩
end
noncomputable def hshs (kvs : List (W × W)) : Option (List Int) := List.rec (motive := fun _ => Option (List Int)) (some []) (fun p _ r => match hsh 10 p.1 with
  | some h => match r with
    | some hs => some (h :: hs)
    | none => none
  | none => none) kvs
section
variable {G : Glo} {X : Cx} {W' : WX} {pos : Pos}
theorem hshs_of {K : PySem.W.Frag} {ρ : List Addr} {H : Hp} {W0 : World} : ∀ {kvs : List (W × W)} {xs : List (NestedKey × Addr × V)} {hs : List Int}, KVs K ρ H kvs xs → hshs kvs = some hs → (xs.map fun x => NestedKey.hash W0 x.1) = hs
  | [], xs, hs, kv, h => by
    cases (show xs = [] from kv)
    cases (show some [] = some hs from h)
    rfl
  | p :: r, xs, hs, kv, h => by
    obtain ⟨k, b, v, ys', rfl, h1, h2, h3, h4⟩ := kv
    have h' : (match (generalizing := false) hsh 10 p.1 with
      | some h => match (generalizing := false) hshs r with
        | some hs => some (h :: hs)
        | none => none
      | none => none) = some hs := h
    cases q1 : hsh 10 p.1 with
    | none => rw [q1] at h'; cases h'
    | some a =>
      cases q2 : hshs r with
      | none => simp only [q1, q2] at h'; cases h'
      | some rs =>
        simp only [q1, q2] at h'
        cases h'
        rw [List.map_cons, hshs_of h4 q2, hsh_of 10 p.1 a k q1 h1.1]
noncomputable def cDictD : Opn := fun ws S => one ws fun w => dctK w S (cDictS [w] S) fun kvs => match hshs kvs with
  | some hs => match nodupI hs with
    | true => newK S (.dct kvs) fun n S1 => .ok (.obj n) S1
    | false => .stuck
  | none => .stuck
theorem cx_dictD (hx : Okx G X) : CallX G X (.type "dict") cDictD := by
  obtain ⟨r, o1, s1⟩ := cx_dictS hx
  refine ⟨fun xs H Q => r xs H Q ∨ rDictD G.P G.w G.K xs H Q, o1.or (by rw [← hx.pr, ← hx.wo, ← hx.k]; exact call_dictDN (by have := hx.un; omega)), fun W' C ws vs Q ok rv p => ?_⟩
  obtain ⟨w, v, rfl, r1, p⟩ := post_one rv p
  rcases post_dctK ok r1 p with p | ⟨a, xs, kvs, rfl, hd, kv, p⟩
  · exact .inl (s1 W' C [w] [v] Q ok (.cons r1 .nil) p)
  · cases q : hshs kvs with
    | none => simp only [q] at p; exact post_stuck p
    | some hs =>
      simp only [q] at p
      cases q2 : nodupI hs with
      | false => simp only [q2] at p; exact post_stuck p
      | true =>
        simp only [q2, newK_eq] at p
        refine .inr ⟨a, xs, rfl, hd, kv.keys, ?_, fun p' hp => ?_⟩
        · rw [hshs_of kv q]
          exact nodupI_of q2
        · obtain ⟨ok1, x1, h1⟩ := Cf.alloc (v := .dct kvs) (o := dctO G.P G.w p' xs) ok hp ⟨xs, rfl, kv⟩
          unfold Post at p
          refine p ⟨C.ρ ++ [p'], upd C.H p' (dctO G.P G.w p' xs), C.S.new (.dct kvs)⟩ rfl ok1 x1 (.ref p') ?_
          unfold RW
          exact ⟨p', rfl, h1⟩
end
end Ev

namespace Ev
open PySem PySem.Spec PyProof.Rows L2
/-! ## f(..), f a local name that holds one of some defs -/
section
variable {G : Glo} {X : Cx} {W' : WX} {x : Str} {p pos : Pos} {e : Expr} {es : List Expr} {t : TA}
end
end Ev

namespace Ev
open PySem PySem.Spec PyProof.Rows L2
/-! ## len(set(t)), t a tuple of whole numbers -/
section
variable {X : Cx}
end
section
variable {G : Glo} {X : Cx} {W' : WX} {pos : Pos}
end
end Ev

namespace Ev
open PySem PySem.Spec PyProof.Rows L2
/-! ## {k: v for ..} and d.get(k, z), keys whole numbers -/
section
variable {G : Glo} {X : Cx} {W' : WX} {pos : Pos}
end
end Ev

namespace Ev
open PySem PySem.Spec PyProof.Rows L2
open PySem.W (alike dataLt AllAlike Sortable AlikeAll minD)
/-! ## min of a list of things that can be compared, the least one alone -/
section
variable {X : Cx} {pins : List (Addr × Obj)} {σ : L2.St} {H : Hp} {s : Shared}
end
section
variable {G : Glo} {X : Cx} {W' : WX} {pos : Pos}
end
end Ev

namespace Ev
open PySem PySem.Spec PyProof.Rows L2
/-! ## zip(*rows): any number of tuples -/
/-- one of the tuples: where it stands, its items, the item of this turn -/
structure Zp where
  a : Nat
  its : List Value
  x : Value
section
variable {prog : Program} {w : World} {A : Around} {E : Value → Shared → Prop} {s : Shared}
end
end Ev

namespace Ev
open PySem PySem.Spec PyProof.Rows L2
section
variable {X : Cx} {pins : List (Addr × Obj)} {σ : L2.St} {H : Hp} {s : Shared}
end
theorem vals_refs (as : List Nat) : ∀ (us : List Value), Vals (as.map V.ref) us → us = as.map Value.ref := by
  induction as with
  | nil =>
    intro us h
    cases h
    rfl
  | cons a as ih =>
    intro us h
    rw [List.map_cons] at h
    cases h with
    | cons r rr =>
      rw [ih _ rr, List.map_cons]
      cases r
      rfl
end Ev

namespace Ev
open PySem PySem.Spec PyProof.Rows L2
/-! ## zip(*rows), the reckoner's side -/
section
variable {G : Glo} {X : Cx} {W' : WX} {pos : Pos}
end
end Ev

namespace Ev
open PySem PySem.Spec PyProof.Rows L2
/-! ## list.remove of a whole number; sets of whole numbers -/
section
variable {G : Glo} {X : Cx} {W' : WX} {pos : Pos}
/-! ### set(), add, sorted -/
end
end Ev

namespace Ev
open PySem PySem.Spec PyProof.Rows L2
/-! ## d.setdefault(k, x), the keys tuples -/
section
variable {X : Cx} {pins : List (Addr × Obj)} {σ : L2.St} {H : Hp} {s : Shared}
end
section
variable {G : Glo} {X : Cx} {W' : WX} {pos : Pos}
end
end Ev

namespace Ev
open PySem PySem.Spec PyProof.Rows L2
/-! ## for v in d.values(), the keys tuples -/
section
variable {G : Glo} {X : Cx} {W' : WX} {pos : Pos}
end
end Ev

namespace Ev
open PySem PySem.Spec PyProof.Rows L2
/-! ## dict(zip(ns, ys)), the keys whole numbers -/
section
variable {X : Cx} {pos : Pos}
end
section
variable {G : Glo} {X : Cx} {W' : WX} {pos : Pos}
/-! ### tuple(range(..)) -/
end
end Ev

namespace Ev
open PySem PySem.Spec PyProof.Rows L2
/-! ## exception objects as values -/
section
variable {X : Cx}
end
section
variable {G : Glo} {X : Cx} {W' : WX} {pos : Pos}
end
end Ev

/-! an own error's class with __init__(self, f), called by a keyword -/
namespace PySem.HandSPX
open PySem PySem.W PySem.Calls PyProof.Rows
section
variable {M : Model} {A : Around} {E : Value → Shared → Prop} {h : Heap} {g : Array GenState} {d : Drawn} {t : Nat} {os : OsState}
variable {nm q : Str} {C N : Addr} {bs bm bmB : List Value} {hdct : Bool} {sn : List Str} {sub : List Value} {ab : Bool} {col : Option Bool} {dd : Option Addr} {k0 k1 k2 k3 k5 : Option Value} {B newId initId : String}
end
section
variable {prog : Program} {w : World} {A : Around} {E : Value → Shared → Prop} {R : Result → Shared → Prop} {h : Heap} {g : Array GenState} {d : Drawn} {t : Nat} {os : OsState}
variable {nm q : Str} {C N : Addr} {bs bm bmB : List Value} {hdct : Bool} {sn : List Str} {sub : List Value} {ab : Bool} {col : Option Bool} {dd : Option Addr} {k0 k1 k2 k3 k5 : Option Value} {B newId initId : String}
end
end PySem.HandSPX
namespace PySem
namespace OwnX
open PySem.W PySem.Calls PyProof.Rows PySem.HandSPX
section
variable {prog : Program} {w : World} {A : Around} {E : Value → Shared → Prop} {R : Result → Shared → Prop} {s : Shared} {K : Frag} {C fI : Addr} {qn f : Str} {B newId initId : String} {bmB : List Value}
end
end OwnX
end PySem
namespace L2
open PySem PySem.Spec PyProof.Rows
section
variable {X : Cx} {C fI : Addr} {qn f : Str} {B newId initId : String} {bmB : List Value}
end
end L2
namespace Ev
open PySem PySem.Spec PyProof.Rows L2
section
variable {G : Glo} {X : Cx} {W' : WX} {pos : Pos}
end
end Ev

namespace Ev
open PySem PySem.Spec PyProof.Rows L2
/-! ## a loop whose turns start anew, from a configuration without objects -/
section
variable {G : Glo} {W' : WX}
end
end Ev

/-! itertools.combinations, itertools.permutations: what the tables say of them -/
namespace CpIt
open PySem PySem.Spec
open Sem (wp)
end CpIt

namespace CpIt
open PySem PySem.Spec
open Sem (wp)
open PySem.Builtin.Itertools
section
variable {prog : Program} {w : World} {A : Around} {E : Value → Shared → Prop} {s : Shared}
end
end CpIt

namespace CpIt
open PySem PySem.Spec
open Sem (wp)
open PySem.Builtin.Itertools
section
variable {prog : Program} {w : World} {A : Around} {E : Value → Shared → Prop} {s : Shared}
/-! ### by pyNext, pyIter -/
/-! ### the whole walk of combinations, as one relation -/
end
end CpIt

namespace CpIt
open PySem PySem.Spec
open Sem (wp)
open PySem.Builtin.Itertools
end CpIt

namespace Ev
open PySem PySem.Spec PyProof.Rows L2 CpIt
/-! ## for lot in combinations(..): the walk -/
end Ev

namespace CpIt
open PySem PySem.Spec
open Sem (wp)
open PySem.Builtin.Itertools
end CpIt

namespace CpIt
open PySem PySem.Spec
open Sem (wp)
open PySem.Builtin.Itertools
/-! ### the whole walk of permutations, as one relation -/
section
variable {prog : Program} {w : World} {A : Around} {E : Value → Shared → Prop} {s : Shared}
end
end CpIt
namespace Ev
open PySem PySem.Spec PyProof.Rows L2 CpIt
/-! ## for lot in permutations(..): the walk -/
end Ev

namespace CpIt
open PySem PySem.Spec PyProof.Rows
open Sem (wp)
open PySem.Builtin.Itertools
section
variable {prog : Program} {w : World} {A : Around} {E : Value → Shared → Prop} {s : Shared}
end
end CpIt

namespace Ev
open PySem PySem.Spec PyProof.Rows L2 CpIt
/-! ## for rows in combinations(a list or a tuple, k) -/
/-! ## for rows in permutations(a list or a tuple, k) -/
end Ev

namespace CpIt
open PySem PySem.Spec
/-! ## the rows, by the machine's own step, with fuel -/
end CpIt

/-! ## list(an iterator that lays a new tuple at each turn) -/
namespace CpIt
open PySem PySem.Spec PyProof.Rows
open Sem (wp)
/-- an iterator at z (its pool beside it) that lays a new tuple at each of n turns -/
structure MkIt (prog : Program) (w : World) (T : String) (z pool : Addr) (n : Nat) (St : Nat → Heap → Prop) (row : Nat → List Value) : Prop where
  ty : ∀ i (s : Shared), St i s.heap → s.TypeIs (.ref z) T
  item : ∀ (A : Around) (E : Value → Shared → Prop) (s : Shared) (i : Nat) (Q : Option Value → Shared → Prop), i < n → St i s.heap →
    (∀ h', St (i + 1) h' → h'.get? s.heap.objs.size = some { cls := .type "tuple", data := .seq (row i).toArray } → h'.objs.size = s.heap.objs.size + 1 → (∀ c o, c ≠ z → s.heap.get? c = some o → h'.get? c = some o) → Q (some (.ref s.heap.objs.size)) { s with heap := h' }) → wpAny (model prog w) A (pyNext (.ref z)) Q E s
  done : ∀ (A : Around) (E : Value → Shared → Prop) (s : Shared) (Q : Option Value → Shared → Prop), A.in1.handled = none → St n s.heap → (∀ h', (∀ c o, c ≠ z → s.heap.get? c = some o → h'.get? c = some o) → Q none { s with heap := h' }) → wpAny (model prog w) A (pyNext (.ref z)) Q E s
  self : ∀ (A : Around) (E : Value → Shared → Prop) (s : Shared) (i : Nat) (Q : Value → Shared → Prop), St i s.heap → Q (.ref z) s → wpAny (model prog w) A (pyIter (.ref z)) Q E s
  keep : ∀ i h h', St i h → (∀ b o, b = z ∨ b = pool → h.get? b = some o → h'.get? b = some o) → St i h'
  nolen : typeLookup (.type T) "__len__" = pure none
  nohint : typeLookup (.type T) "__length_hint__" = pure none
  notl : (Value.type T == Value.type "list") = false
  nott : (Value.type T == Value.type "tuple") = false
/-- the tuples laid so far, at rising places above lo -/
structure MkG (row : Nat → List Value) (lo : Addr) (h : Heap) (as : List Addr) : Prop where
  rise : as.Pairwise (· < ·)
  above : ∀ a ∈ as, lo < a
  rows : ∀ (j : Nat) (a : Addr), as[j]? = some a → h.get? a = some { cls := .type "tuple", data := .seq (row j).toArray }
theorem MkG.there {row : Nat → List Value} {lo : Addr} {h : Heap} {as : List Addr} (g : MkG row lo h as) {a : Addr} (ha : a ∈ as) : a < h.objs.size := by
  obtain ⟨j, hj⟩ := List.mem_iff_getElem?.mp ha
  exact Heap.lt_size (g.rows j a hj)
section
variable {prog : Program} {w : World} {A : Around} {E : Value → Shared → Prop} {s : Shared} {T : String} {z pool : Addr} {n : Nat} {St : Nat → Heap → Prop} {row : Nat → List Value} {R : Result → Shared → Prop}
end
section
variable {prog : Program} {w : World} {z pool : Addr} {items : List Value}
end
end CpIt

namespace Ev
open PySem PySem.Spec PyProof.Rows L2 CpIt
/-! ## range(e1), e2 as the two arguments -/
section
variable {X : Cx} {e1 e2 : Expr} {t1 t2 : TE}
end
section
variable {X : Cx} {pins : List (Addr × Obj)} {σ : L2.St} {H : Hp} {s : Shared} {r : Addr} {m k : Nat} {t u v tk0 : Tok} {rows : List (List Nat)} {Q : Value → Shared → Prop}
/-- what a call of combinations, permutations over range(m) leaves -/
structure NewIt (X : Cx) (pins : List (Addr × Obj)) (σ : L2.St) (H : Hp) (s : Shared) (m : Nat) (h0 h' : Heap) (tk : Nat) (its : List Value) (z pool : Addr) : Prop where
  vals : Vals (rgV 0 m) its
  inv0 : Inv X pins σ H { s with heap := h0, toks := tk }
  inv : Inv X pins σ H { s with heap := h', toks := tk }
  kept : ∀ b o, s.heap.get? b = some o → h'.get? b = some o
  kept0 : ∀ b o, s.heap.get? b = some o → h0.get? b = some o
  lz : h0.objs.size ≤ z
  lp : h0.objs.size ≤ pool
  pool : h'.get? pool = some { cls := .type "tuple", data := .seq its.toArray }
theorem rgV_len (m : Nat) : (rgV 0 (m : Int)).length = m := by rw [rgV_length]; omega
theorem NewIt.len {h0 h' : Heap} {tk : Nat} {its : List Value} {z pool : Addr} (N : NewIt X pins σ H s m h0 h' tk its z pool) : its.length = m := by
  have := N.vals.length
  rw [rgV_len] at this
  exact this.symm
end
/-! ## the rules -/
section
variable {X : Cx} {e1 e2 tg : Expr} {t1 t2 : TE} {x : Str} {p p2 pos q pos2 p0 : Pos}
end
end Ev

namespace Ev
open PySem PySem.Spec PyProof.Rows L2 CpIt
/-! ## the rows in the reckoner -/
section
variable {G : Glo} {X : Cx} {W' : WX}
/-! ## the things picked -/
end
section
variable {G : Glo} {X : Cx} {W' : WX} {pos : Pos}
/-! perm -/
end
end Ev

namespace Ev
open PySem PySem.Spec PyProof.Rows L2
/-! ## a comprehension's target (a, b): a tuple or a list -/
section
variable {G : Glo} {X : Cx} {pos : Pos}
end
end Ev

/-! ## except (A, B, ..) as e -/
namespace PySem.W
open PySem PySem.Spec PySem.Calls PyProof.Rows
section
variable {M : Model} {K : Frag} {A : Around} {E : Value → Shared → Prop} {s : Shared}
end
end PySem.W

namespace Ev
open PySem PySem.Spec PyProof.Rows L2
/-- names of classes, their values -/
inductive NamesT (X : Cx) : List Expr → List Value → Prop
  | nil : NamesT X [] []
  | cons {x : Str} {c : Value} {np : Pos} {es : List Expr} {cs : List Value} (hc : Names X x c) (r : NamesT X es cs) : NamesT X (.Name x np :: es) (c :: cs)
section
variable {X : Cx} {body suite : List Stmt} {b₀ : Stmt} {es : List Expr} {cs : List Value} {i : Nat} {m : Str} {kt : Nat} {tp pos pos' : Pos} {tb : WX → TS} {ts : Addr → Value → Option Addr → TS} {Wout : WX}
end
end Ev

namespace L2
open PySem PySem.Spec PyProof.Rows
end L2
namespace Ev
open PySem PySem.Spec PyProof.Rows L2
section
variable {X : Cx} {a D : Addr} {oe : Obj} {d : Option Addr} {i : Nat} {b : Bool} {n : Str} {ce : Expr} {cv : V} {u : Value} {p np pos : Pos}
end
section
variable {G : Glo} {X : Cx} {W' : WX} {pos : Pos}
end
end Ev

namespace Ev
open PySem PySem.Spec PyProof.Rows L2
/-! ## one clause with many classes, in the reckoner: its suite once for each class -/
inductive HdT (G : Glo) (X : Cx) (i : Nat) (st : List Stmt) : List Expr → List Value → List Hdl → Prop
  | nil : HdT G X i st [] [] []
  | cons {x : Str} {cv : Value} {np : Pos} {es : List Expr} {cvs : List Value} {t : Nat → Option Bool} {sv : W → Evs} {l : List Hdl} (hc : Names X x cv) (ht : ∀ c b, t c = some b → PySem.W.exmOne G.K (.ref (G.cad c)) cv = some b)
      (hsu : ∀ c, t c = some true → SX G X (some i) c sv st) (hr : ∀ c, t c = some true → ∃ b, PySem.W.exmAny G.K (.ref (G.cad c)) cvs = some b) (r : HdT G X i st es cvs l) : HdT G X i st (.Name x np :: es) (cv :: cvs) ((t, asK (some i) sv) :: l)
section
variable {G : Glo} {X : Cx} {W' : WX}
theorem HdT.names {i : Nat} {st : List Stmt} : ∀ {es : List Expr} {cvs : List Value} {l : List Hdl}, HdT G X i st es cvs l → NamesT X es cvs
  | _, _, _, .nil => .nil
  | _, _, _, .cons h _ _ _ r => .cons h r.names
end
end Ev

namespace Ev
open PySem PySem.Spec PyProof.Rows L2
/-! ## a dict of the module: texts to texts -/
section
variable {X : Cx}
end
section
variable {G : Glo} {X : Cx} {W' : WX} {pos : Pos}
end
end Ev

namespace Ev
open PySem PySem.Spec PyProof.Rows L2
/-! ## zip of a text and a list or tuple -/
section
variable {G : Glo} {X : Cx} {W' : WX} {pos : Pos}
end
end Ev

namespace Ev
open PySem PySem.Spec PyProof.Rows L2
/-! ## a text or .. -/
section
variable {G : Glo} {X : Cx} {W' : WX} {pos : Pos}
end
end Ev

namespace Ev
open PySem PySem.Spec PyProof.Rows L2
/-! ## tuples that are known to their objects: made at a display, by tuple(list), by a slice; dict(..) of one -/
/-- a tuple's object as it is laid -/
abbrev tuO (its : List Value) : Obj := { cls := .type "tuple", data := .seq its.toArray }
section
variable {X : Cx} {pins : List (Addr × Obj)} {σ : L2.St} {H : Hp} {s : Shared} {pos : Pos}
theorem tuO_ok {P : Program} {w : World} {H : Hp} {h : Heap} {xs : List V} {its : List Value} (z : xs.length ≤ sizeLine) (r : Vals xs its) :
    ObjOk P w H (h.push (tuO its)) h.objs.size (.frz (tuO its) (.tup xs)) := by
  have e : (h.push (tuO its)).get? h.objs.size = some (tuO its) := Heap.get?_push_size _ rfl
  exact ⟨e, z, its, r, _, e, rfl, _, rfl⟩
def tTupP (t : TA) : TE := fun σ H Q => t σ H fun xs H1 => xs.length ≤ sizeLine ∧ ∀ p o, H1 p = none → o.dict = none → Q (.ref p) (upd H1 p (.frz o (.tup xs)))
theorem pe_tupP {es : List Expr} {t : TA} {c} (h : PA X es t) : PE X (.Tuple es c pos) (tTupP t) := by
  refine ⟨fun pins s σ H Q I hq => wpAny_Tuple_spliced (thn (h.run pos pins s σ H _ I hq) fun us s1 a => ?_)⟩
  obtain ⟨xs, H1, I1, r, z, q⟩ := a
  refine ⟨by rw [← r.length]; exact z, .ref s1.heap.objs.size, _, ?_, rfl, q s1.heap.objs.size (tuO us) (I1.hok.fresh (Nat.le_refl _)) rfl⟩
  exact I1.laid (t' := s1.toks) (fun b u e => Heap.get?_push_of_some _ e) (Nat.le_refl _) (tuO_ok z r)
def rTupP (K : PySem.W.Frag) : List V → Hp → (V → Hp → Prop) → Prop := fun xs H Q => ∃ p ys, xs = [.ref p] ∧ SqL K H p ys ∧ ∀ l o, H l = none → o.dict = none → Q (.ref l) (upd H l (.frz o (.tup ys)))
theorem call_tupP : CallR X (.type "tuple") (rTupP X.K) := fun pins s σ H xs us Q I r h => by
  obtain ⟨p, ys, rfl, hs, q⟩ := h
  obtain ⟨u, rfl, rx⟩ := vals1 r
  cases rx
  obtain ⟨its, rv, pl, hz⟩ := I.list hs
  refine call_tuple_list pl.isList (fun h2 k2 => ?_) (by rw [List.size_toArray, ← rv.length]; exact hz)
  have J : Inv X pins σ H { s with heap := h2 } := I.kept (t' := s.toks) k2
  refine ⟨.ref h2.objs.size, _, ?_, rfl, q h2.objs.size (tuO its) (J.hok.fresh (Nat.le_refl _)) rfl⟩
  exact J.laid (t' := s.toks) (fun b o e => Heap.get?_push_of_some _ e) (Nat.le_refl _) (tuO_ok hz rv)
def rSlP (K : PySem.W.Frag) : V → Option Int → Option Int → Hp → VK → Prop := fun x lo hi H Q => ∃ a xs, x = .ref a ∧ SqT K H a xs ∧
  ¬ (HT.sIx xs.length 0 lo = 0 ∧ HT.sIx xs.length xs.length hi = xs.length) ∧ ∀ p o, H p = none → o.dict = none → Q (.ref p) (upd H p (.frz o (.tup (cutV xs lo hi))))
theorem sl_tupP : SlR X (rSlP X.K) := fun pins s σ H x v vl vu lo hi sl Q I rx hs pl pu h => by
  obtain ⟨a, xs, rfl, hx, hw, q⟩ := h
  cases rx
  obtain ⟨its, r, ht, hz⟩ := I.tuple hx
  have el : its.toArray.size = xs.length := by rw [List.size_toArray]; exact r.length.symm
  refine ⟨"tuple", _, PyProof.Rows.slot_tuple_getitem.lookup, ht.typeIs, HT.getItem_tuple_cut ht hs pl pu (by rw [el]; exact hw) ?_ (by rw [el]; exact hz)⟩
  rw [el]
  have rc : Vals (cutV xs lo hi) ((its.drop (HT.sIx xs.length 0 lo)).take (HT.sIx xs.length xs.length hi - HT.sIx xs.length 0 lo)) := (r.drop _).take _
  refine ⟨.ref s.heap.objs.size, _, I.laid (t' := s.toks) (fun b ob e => Heap.get?_push_of_some _ e) (Nat.le_refl _) (tuO_ok (Nat.le_trans (cutV_length xs lo hi) hz) rc), rfl, ?_⟩
  exact q s.heap.objs.size _ (I.hok.fresh (Nat.le_refl _)) rfl
end
section
variable {G : Glo} {X : Cx} {W' : WX} {pos : Pos}
/-- known tuples are tuples -/
noncomputable def fgW (w : W) : W := match w with
  | .pt xs => .tup xs
  | _ => w
theorem fgW_rw {K : PySem.W.Frag} {ρ : List Addr} {H : Hp} {w : W} {v : V} (h : RW K ρ H w v) : RW K ρ H (fgW w) v := by
  cases w with
  | pt xs =>
    unfold fgW
    unfold RW at h ⊢
    obtain ⟨a, vs, e, h1, h2⟩ := h
    exact ⟨a, vs, e, h1.sq, h2⟩
  | k _ => exact h
  | tup _ => exact h
  | obj _ => exact h
  | mix _ => exact h
noncomputable def evFg (f : Evl) : Evl := fun l S => (f l S).bnd fun w S1 => .ok (fgW w) S1
theorem se_fg {f : Evl} {e : Expr} (h : SE G X W' f e) : SE G X W' (evFg f) e := pe_imp h fun σ H Q ⟨C, l, e, ok, r, p⟩ =>
  ⟨C, l, e, ok, r, Post.mono (fun w C1 ok1 x1 p1 v rv => (Post.now ok1 p1) v (fgW_rw rv)) (Post.bnd p)⟩
/-! at every depth -/
mutual
noncomputable def dfW : W → W
  | .k v => .k v
  | .tup xs => .tup (dfWs xs)
  | .pt xs => .tup (dfWs xs)
  | .obj i => .obj i
  | .mix xs => .mix (dfWs xs)
noncomputable def dfWs : List W → List W
  | [] => []
  | x :: xs => dfW x :: dfWs xs
end
mutual
theorem dfW_rw {K : PySem.W.Frag} {ρ : List Addr} {H : Hp} : ∀ {w : W} {v : V}, RW K ρ H w v → RW K ρ H (dfW w) v
  | .k _, v, h => by unfold dfW; exact h
  | .obj _, v, h => by unfold dfW; exact h
  | .tup xs, v, h => by
    unfold dfW
    unfold RW at h ⊢
    obtain ⟨a, vs, e, h1, h2⟩ := h
    exact ⟨a, vs, e, h1, dfWs_rw h2⟩
  | .mix xs, v, h => by
    unfold dfW
    unfold RW at h ⊢
    obtain ⟨a, vs, e, h1, h2⟩ := h
    exact ⟨a, vs, e, h1, dfWs_rw h2⟩
  | .pt xs, v, h => by
    unfold dfW
    unfold RW at h ⊢
    obtain ⟨a, vs, e, h1, h2⟩ := h
    exact ⟨a, vs, e, h1.sq, dfWs_rw h2⟩
theorem dfWs_rw {K : PySem.W.Frag} {ρ : List Addr} {H : Hp} : ∀ {ws : List W} {vs : List V}, RWs K ρ H ws vs → RWs K ρ H (dfWs ws) vs
  | [], vs, h => by unfold dfWs; exact h
  | w :: ws, vs, h => by
    unfold dfWs
    unfold RWs at h ⊢
    obtain ⟨v, r, e, h1, h2⟩ := h
    exact ⟨v, r, e, dfW_rw h1, dfWs_rw h2⟩
end
noncomputable def evDf (f : Evl) : Evl := fun l S => (f l S).bnd fun w S1 => .ok (dfW w) S1
theorem se_df {f : Evl} {e : Expr} (h : SE G X W' f e) : SE G X W' (evDf f) e := pe_imp h fun σ H Q ⟨C, l, e, ok, r, p⟩ =>
  ⟨C, l, e, ok, r, Post.mono (fun w C1 ok1 x1 p1 v rv => (Post.now ok1 p1) v (dfW_rw rv)) (Post.bnd p)⟩
/-! making them -/
theorem post_pt {C : Cf} {Q : VK} (ok : C.Ok G) {ws : List W} {vs : List V} (p : Post G W' C (.ok (.pt ws) C.S) (PhE G Q)) (r : RWs G.K C.ρ C.H ws vs) : ∀ a o, C.H a = none → o.dict = none → Q (.ref a) (upd C.H a (.frz o (.tup vs))) := fun a o ha ho => by
  obtain ⟨ok1, x1⟩ := Cf.tupd (o := .frz o (.tup vs)) ok ha
  unfold Post at p
  refine p ⟨C.ρ, upd C.H a (.frz o (.tup vs)), C.S⟩ rfl ok1 x1 (.ref a) ?_
  unfold RW
  exact ⟨a, vs, rfl, ⟨o, upd_same, ho⟩, RWs.mono ok x1 ws r⟩
noncomputable def evTupP (f : Eva) : Evl := fun l S => (f l S).bnd fun ws S1 => match short ws with
  | true => .ok (.pt ws) S1
  | false => .stuck
theorem se_tupP {f : Eva} {es : List Expr} {k} (h : SA G X W' f es) : SE G X W' (evTupP f) (.Tuple es k pos) := pe_imp (pe_tupP h) fun σ H Q ⟨C, l, e, ok, r, p⟩ => by
  subst e
  refine ⟨C, l, rfl, ok, r, Post.mono (fun ws C1 ok1 x1 p1 vs rvs => ?_) (Post.bnd p)⟩
  cases hs : short ws with
  | false => simp only [hs] at p1; exact post_stuck p1
  | true =>
    simp only [hs] at p1
    exact ⟨by rw [rvs.length]; exact short_line hs, post_pt ok1 p1 rvs⟩
noncomputable def cTupP : Opn := fun ws S => one ws fun w => match w with
  | .obj i => kobj i S fun xs => .ok (.pt xs) S
  | _ => .stuck
theorem cx_tupP (hx : Okx G X) : CallX G X (.type "tuple") cTupP := ⟨_, call_tupP, fun W' C ws vs Q ok rv p => by
  rw [hx.k]
  obtain ⟨w, v, rfl, r, p⟩ := post_one rv p
  cases w with
  | obj i =>
    obtain ⟨xs, a, us, _, h1, h2, h3, p⟩ := post_kobj ok p
    unfold RW at r
    obtain ⟨b, rfl, e⟩ := r
    rw [h1] at e; cases e
    exact ⟨a, us, rfl, SqL.of h2, post_pt ok p h3⟩
  | k u => exact post_stuck p
  | tup xs => exact post_stuck p
  | mix _ => exact post_stuck p
  | pt _ => exact post_stuck p⟩
noncomputable def evSlP (f : Evl) (a b : Evo) : Evl := fun l S => (f l S).bnd fun w S1 => (a l S1).bnd fun lo S2 => (b l S2).bnd fun hi S3 => match w with
  | .pt xs => fNat (sIxK xs.length 0 lo) fun a => fNat (sIxK xs.length xs.length hi) fun b => match Nat.beq a 0 with
    | true => match Nat.beq b xs.length with
      | true => .stuck
      | false => cutK xs a b fun zs => .ok (.pt zs) S3
    | false => cutK xs a b fun zs => .ok (.pt zs) S3
  | _ => .stuck
theorem se_slP {f : Evl} {a b : Evo} {e : Expr} {lo hi : Option Expr} {p2 : Pos} (hx : Okx G X) (he : SE G X W' f e) (ha : SO G X W' a lo) (hb : SO G X W' b hi) : SE G X W' (evSlP f a b) (.Subscript e (.Slice lo hi none p2) pos) :=
  pe_imp (pe_slice sl_tupP he ha hb) fun σ H Q ⟨C, l, e, ok, r, p⟩ => by
    subst e
    refine ⟨C, l, rfl, ok, r, Post.mono (fun w C1 ok1 x1 p1 v rv => ?_) (Post.bnd p)⟩
    refine ⟨C1, l, rfl, ok1, r.mono ok x1, Post.mono (fun lo C2 ok2 x2 p2 => ?_) (Post.bnd p1)⟩
    refine ⟨C2, l, rfl, ok2, (r.mono ok x1).mono ok1 x2, Post.mono (fun hi C3 ok3 x3 p3 => ?_) (Post.bnd p2)⟩
    have rv := (rv.mono ok1 x2).mono ok2 x3
    show rSlP X.K v lo hi C3.H Q
    rw [hx.k]
    cases w with
    | k u => exact post_stuck p3
    | tup _ => exact post_stuck p3
    | mix _ => exact post_stuck p3
    | obj _ => exact post_stuck p3
    | pt xs =>
      unfold RW at rv
      obtain ⟨c, vs, rfl, h1, h2⟩ := rv
      simp only [fNat_eq, sIxK_eq, beq_dec, cutK_eq] at p3
      have nt : ¬ (HT.sIx xs.length 0 lo = 0 ∧ HT.sIx xs.length xs.length hi = xs.length) := fun hw => by
        rw [decide_eq_true hw.1, decide_eq_true hw.2] at p3
        exact post_stuck p3
      refine ⟨c, vs, rfl, h1.sq, by rw [h2.length]; exact nt, ?_⟩
      refine post_pt (vs := cutV vs lo hi) (ws := (xs.drop (HT.sIx xs.length 0 lo)).take (HT.sIx xs.length xs.length hi - HT.sIx xs.length 0 lo)) (Q := Q) (W' := W') ok3 ?_ (rws_cut h2 lo hi)
      by_cases q1 : HT.sIx xs.length 0 lo = 0
      · rw [decide_eq_true q1] at p3
        have q2 : ¬ HT.sIx xs.length xs.length hi = xs.length := fun e => nt ⟨q1, e⟩
        rw [decide_eq_false q2] at p3
        exact p3
      · rw [decide_eq_false q1] at p3
        exact p3
end
/-! ### dict(t), t a known tuple of pairs whose keys are tuples -/
section
variable {X : Cx} {pins : List (Addr × Obj)} {σ : L2.St} {H : Hp} {s : Shared}
def rDictP (P : Program) (w : World) (K : PySem.W.Frag) : List V → Hp → (V → Hp → Prop) → Prop := fun xs H Q => ∃ a us ks, xs = [.ref a] ∧ PlT H a us ∧ DKr K H us ks ∧ KeysOk K H ks ∧ us.length ≤ 10000 ∧ ∀ d, H d = none → Q (.ref d) (upd H d (dctO P w d (putsX [] ks)))
theorem call_dictP (hc : X.calm = true) (hu : X.A.units + 64 < cLine) : CallR X (.type "dict") (rDictP X.prog X.w X.K) := by
  intro pins s σ H xs us Q I r q
  obtain ⟨a, us1, ks, ex, ⟨ob, hob, hnd⟩, dk, ko, hl, q⟩ := q
  subst ex
  obtain ⟨u, eu, rx⟩ := vals1 r
  subst eu
  cases rx
  obtain ⟨hg, hz, its, rv, ob', hg', hcl, nn, hdt⟩ := I.hok a _ hob
  rw [hg] at hg'; cases hg'
  have pl : PlainSeq "tuple" s.heap a its.toArray := ⟨ob, nn, hg, hcl, hnd, hdt⟩
  obtain ⟨ps, rel, hpl, ts, htl, hat⟩ := dk_pairs I dk rv
  obtain ⟨hp, gg, dr, tk, os⟩ := s
  let Ts : Nat → Addr := fun j => ts.getD j 0
  have hits : PairItems hp its.toArray Ts (ps.map fun q => (Value.ref q.2.1, q.2.2)) := by
    refine ⟨by simp [hpl], fun j k v e => ?_⟩
    rw [List.getElem?_map] at e
    cases e1 : ps[j]? with
    | none => rw [e1] at e; cases e
    | some q =>
      rw [e1] at e
      simp only [Option.map_some, Option.some.injEq, Prod.mk.injEq] at e
      obtain ⟨rfl, rfl⟩ := e
      obtain ⟨t, h1, h2, h3⟩ := hat j q e1
      have ht : Ts j = t := by
        show ts.getD j 0 = t
        rw [List.getD_eq_getElem?_getD, h1]
        rfl
      exact ⟨by rw [ht]; simpa using h2, by rw [ht]; exact .inl h3⟩
  have hA := I.ok.hd hc
  have hps2 : ps.length ≤ 10000 := by
    have e1 : its.length = us1.length := rv.length.symm
    omega
  have P := PairArg.tuple (prog := X.prog) (w := X.w) a its.toArray Ts (ps.map fun q => (Value.ref q.2.1, q.2.2))
  have hm : (ps.map fun q => (Value.ref q.2.1, q.2.2)).length = ps.length := List.length_map ..
  refine call_dict_pairsH (knd := nestedKind X.prog X.w) (ps := ps) (s := ⟨hp, gg, dr, tk, os⟩) P hA ?_ ⟨pl, hits⟩ ⟨hm.symm, fun i key v e => ?_⟩ ?_ (by rw [hm, sizeLine_eq]; omega) fun h2 tk2 dd kp => ?_
  · show X.A.units + 1 + 1 + 8 < cLine
    omega
  · have e : (ps.map fun q => (Value.ref q.2.1, q.2.2))[i]? = some (key, v) := e
    rw [List.getElem?_map] at e
    cases e1 : ps[i]? with
    | none => rw [e1] at e; cases e
    | some q =>
      rw [e1] at e
      simp only [Option.map_some, Option.some.injEq, Prod.mk.injEq] at e
      obtain ⟨rfl, rfl⟩ := e
      exact ⟨q.1, q.2.1, rfl, rfl⟩
  · intro h3 k3 z hz
    have old : ∀ c o, hp.get? c = some o → h3.get? c = some o := fun c o e => k3 c o (Nat.ne_of_lt (Heap.lt_size e)) (List.not_mem_nil) e
    have I3 : Inv X pins σ H { (⟨hp, gg, dr, tk, os⟩ : Shared) with heap := h3, toks := tk } := I.kept old
    exact keys_rel rel ko I3 z hz
  · have old : ∀ c o, hp.get? c = some o → h2.get? c = some o := fun c o e => kp c o (List.not_mem_nil) e
    have hn : H hp.objs.size = none := I.hok.fresh (Nat.le_refl _)
    have big : sysModules < hp.objs.size := I.big
    have hlen : (putsX [] ks).length ≤ sizeLine := by
      have h1 := putsX_len ks []
      have h2 : ks.length = ps.length := Paired.length rel
      rw [List.length_nil] at h1
      rw [sizeLine_eq]; omega
    have ob : ObjOk X.prog X.w (upd H hp.objs.size (dctO X.prog X.w hp.objs.size (putsX [] ks))) h2 hp.objs.size (dctO X.prog X.w hp.objs.size (putsX [] ks)) :=
      dctO_ok (beq_eq_false_iff_ne.mpr (Ne.symm (Nat.ne_of_lt big))) hlen (puts_rel (ys := []) rel List.nodup_nil .nil) dd
    exact ⟨.ref hp.objs.size, _, I.laid (t' := tk2) old (Nat.le_refl _) ob, rfl, q _ hn⟩
end
section
variable {G : Glo} {X : Cx} {W' : WX} {pos : Pos}
/-- the pairs of the list are forgotten to be known -/
noncomputable def cDictP : Opn := fun ws S => one ws fun w => match w with
  | .pt ys => match short ys with
    | true => pairsP (dfWs ys) fun ps => putsK ps [] fun kvs => newK S (.dct kvs) fun n S1 => .ok (.obj n) S1
    | false => .stuck
  | _ => .stuck
theorem cx_dictP (hx : Okx G X) : CallX G X (.type "dict") cDictP := ⟨rDictP G.P G.w G.K, by rw [← hx.pr, ← hx.wo, ← hx.k]; exact call_dictP hx.calm (by have := hx.un; omega), fun W' C ws vs Q ok rv p => by
  obtain ⟨w, v, rfl, r, p⟩ := post_one rv p
  cases w with
  | k u => exact post_stuck p
  | tup xs => exact post_stuck p
  | mix _ => exact post_stuck p
  | obj i => exact post_stuck p
  | pt xs =>
    unfold RW at r
    obtain ⟨a, us, rfl, h2, h3⟩ := r
    cases hs : short xs with
    | false => simp only [hs] at p; exact post_stuck p
    | true =>
      simp only [hs] at p
      obtain ⟨ps, pv, h5, hl, h6, p5⟩ := post_pairsP (dfWs_rw h3) p
      obtain ⟨ks, kvs', z1, z2, z3, z4, z5, z6⟩ := post_putsK (kvs := []) (xs := []) h5 rfl p5
      rw [newK_eq] at z6
      have hl2 : xs.length ≤ 10000 := Nat.le_of_ble_eq_true hs
      refine ⟨a, us, ks, rfl, h2, h6 ks z1, z2, by rw [h3.length]; exact hl2, fun d hd => ?_⟩
      obtain ⟨ok3, x3, h7⟩ := Cf.alloc (v := .dct kvs') (o := dctO G.P G.w d (putsX [] ks)) ok hd ⟨_, rfl, z4⟩
      unfold Post at z6
      refine z6 ⟨C.ρ ++ [d], upd C.H d (dctO G.P G.w d (putsX [] ks)), C.S.new (.dct kvs')⟩ rfl ok3 x3 (.ref d) ?_
      unfold RW
      exact ⟨d, rfl, h7⟩⟩
end
end Ev

/-! == of two dicts whose keys are tuples -/
namespace Ev
open PySem PySem.Spec PyProof.Rows L2
section
variable {prog : Program} {w : World} {κ : Type} [DecidableEq κ] {kd : HeapKind prog w κ}
/-- the walk over the first dict's entries: it stops at the first that has no like -/
inductive Walk (prog : Program) (w : World) (A : Around) (s : Shared) (ys : List (κ × Addr × Value)) : List (κ × Addr × Value) → Bool → Prop
  | fin : Walk prog w A s ys [] true
  | lack {x : κ × Addr × Value} {r : List (κ × Addr × Value)} : atKey ys x.1 = none → Walk prog w A s ys (x :: r) false
  | off {x : κ × Addr × Value} {r : List (κ × Addr × Value)} {p : Addr × Value} : atKey ys x.1 = some p → SeqAt.EqP prog w A s x.2.2 p.2 false → Walk prog w A s ys (x :: r) false
  | on {x : κ × Addr × Value} {r : List (κ × Addr × Value)} {p : Addr × Value} {b : Bool} : atKey ys x.1 = some p → SeqAt.EqP prog w A s x.2.2 p.2 true → Walk prog w A s ys r b → Walk prog w A s ys (x :: r) b
theorem samePairsN {A : Around} {s : Shared} {E : Value → Shared → Prop} {nm : String} {a b : Addr} {xs ys : List (κ × Addr × Value)} {r : Bool} {Q : Bool → Shared → Prop} (hu : kd.room A) (na : (a == sysModules) = false) (nb : (b == sysModules) = false)
    (da : s.heap.DictOfH kd a xs) (db : s.heap.DictOfH kd b ys) (wk : xs.length = ys.length → Walk prog w A s ys xs r) (q : Q (xs.length == ys.length && r) s) :
    wpAny (model prog w) A (Builtin.Dict.samePairs nm a b) Q E s := by
  obtain ⟨oa, ea, ta, ga, ca, sa, la, ka, ua⟩ := da
  obtain ⟨ob, eb, tb, gb, cb, sb, lb, kb, ub⟩ := db
  have za : ea.size = xs.length := by rw [← Array.length_toList, la, List.length_map]
  have zb : eb.size = ys.length := by rw [← Array.length_toList, lb, List.length_map]
  have eat : ∀ j : Nat, ea[j]? = (xs[j]?).map (entryOfKey kd) := fun j => by rw [← Array.getElem?_toList, la, List.getElem?_map]
  have ebt : ∀ j : Nat, eb[j]? = (ys[j]?).map (entryOfKey kd) := fun j => by rw [← Array.getElem?_toList, lb, List.getElem?_map]
  unfold Builtin.Dict.samePairs Builtin.Dict.showsAll
  rw [if_neg (by rw [na]; exact Bool.false_ne_true), if_neg (by rw [nb]; exact Bool.false_ne_true)]
  refine wpAny_bind (wpAny_pure (wpAny_bind (wpAny_pure (wpAny_bind (wpAny_dictEntries ga sa ?_)))))
  dsimp only
  refine wpAny_bind (wpAny_dictEntries gb sb ?_)
  by_cases hz : ea.size = eb.size
  case neg =>
    rw [if_pos (by simpa using hz)]
    have hf : (xs.length == ys.length) = false := by rw [← za, ← zb]; simpa using hz
    rw [hf, Bool.false_and] at q
    exact wpAny_bind (wpAny_rule (wpAny_pure q))
  case pos =>
    have hl : xs.length = ys.length := by rw [← za, ← zb]; exact hz
    have q' : Q r s := by simpa [hl] using q
    have wk' := wk hl
    rw [if_neg (by rw [hz]; simp)]
    refine wpAny_bind (wpAny_dictEpoch ga sa (wpAny_bind ?_))
    rw [Std.Legacy.Range.forIn_eq_forIn_range']
    simp only [Std.Legacy.Range.size, Nat.sub_zero, Nat.add_sub_cancel, Nat.div_one]
    refine wpAny_forIn_list _ (fun rest z s' => s' = s ∧ z = (none, ()) ∧ ∃ i, rest = List.range' i (ea.size - i) ∧ i ≤ ea.size ∧ Walk prog w A s ys (xs.drop i) r) _ ?_ ?_ _ _ ⟨rfl, rfl, 0, by simp, Nat.zero_le _, wk'⟩
    · rintro i0 rest z s' ⟨rfl, rfl, i, hr, hi, wi⟩
      have hlt : i < ea.size := by
        rcases Nat.lt_or_ge i ea.size with h | h
        · exact h
        · rw [Nat.sub_eq_zero_of_le h] at hr; simp at hr
      obtain ⟨rfl, hrest⟩ : i0 = i ∧ rest = List.range' (i + 1) (ea.size - (i + 1)) := by
        have e : ea.size - i = (ea.size - (i + 1)) + 1 := by omega
        rw [e, List.range'_succ] at hr
        injection hr with h1 h2
        exact ⟨h1, h2⟩
      have hlx : i0 < xs.length := by rw [← za]; exact hlt
      obtain ⟨x, hx⟩ : ∃ x, xs[i0]? = some x := ⟨_, List.getElem?_eq_getElem hlx⟩
      have hdr : xs.drop i0 = x :: xs.drop (i0 + 1) := by
        rw [List.getElem?_eq_getElem hlx] at hx
        exact (List.drop_eq_getElem_cons hlx).trans (by rw [Option.some.inj hx])
      have hmx : x ∈ xs := List.mem_of_getElem? hx
      refine wpAny_bind (wpAny_dictEntries ga sa ?_)
      rw [eat i0, hx]
      rw [hdr] at wi
      show wpAny _ _ (holding [Value.ref x.2.1, x.2.2] (dictFind b (.ref x.2.1) (kd.hash x.1) >>= _) >>= _) _ _ _
      refine wpAny_bind (wpAny_holding (wpAny_bind (wpAny_dictFind_heap hu (ka x hmx) gb sb lb kb ub (fun hno => ?_) fun j p hj => ?_)))
      · refine wpAny_pure ?_
        show wpAny _ _ (if (!false) = true then _ else _) _ _ _
        rw [if_pos (by decide)]
        have hn : atKey ys x.1 = none := atKey_none_of_get hno
        have er : r = false := by
          cases wi with
          | lack _ => rfl
          | off h _ => rfl
          | on h _ _ => rw [hn] at h; cases h
        rw [er] at q'
        exact wpAny_pure (wpAny_pure q')
      · have hs : atKey ys x.1 = some p := atKey_of_get ub hj
        refine wpAny_bind (wpAny_dictEntries gb sb ?_)
        rw [ebt j, hj]
        show wpAny _ _ (holding [p.2] (eqBool x.2.2 p.2)) _ _ _
        cases wi with
        | lack h => rw [hs] at h; cases h
        | off h he =>
          rw [hs] at h; cases h
          refine wpAny_holding (he _ _ ?_)
          show wpAny _ _ (if (!false) = true then _ else _) _ _ _
          rw [if_pos (by decide)]
          exact wpAny_pure (wpAny_pure q')
        | on h he hw =>
          rw [hs] at h; cases h
          refine wpAny_holding (he _ _ ?_)
          show wpAny _ _ (if (!true) = true then _ else _) _ _ _
          rw [if_neg (by decide)]
          refine wpAny_bind (wpAny_dictEpoch ga sa ?_)
          rw [if_neg (by simp)]
          exact wpAny_pure ⟨rfl, rfl, i0 + 1, hrest, hlt, hw⟩
    · rintro z s' ⟨rfl, rfl, i, hr, hi, wi⟩
      have hin : i = ea.size := by
        rcases Nat.lt_or_ge i ea.size with h | h
        · rw [show ea.size - i = (ea.size - (i + 1)) + 1 by omega, List.range'_succ] at hr; exact nomatch hr
        · exact Nat.le_antisymm hi h
      refine wpAny_pure ?_
      rw [hin, za, List.drop_length] at wi
      cases wi
      exact q'
theorem rcN_dicts {A : Around} {s : Shared} {a b : Addr} {xs ys : List (κ × Addr × Value)} {r : Bool} (hr : kd.room A.in1) (na : (a == sysModules) = false) (nb : (b == sysModules) = false)
    (da : s.heap.DictOfH kd a xs) (db : s.heap.DictOfH kd b ys) (hu : A.units < cLine) (wk : xs.length = ys.length → Walk prog w A.in1 s ys xs r) (E Q : Value → Shared → Prop) (q : Q (.bool (xs.length == ys.length && r)) s) :
    wpAny (model prog w) A (richCompare .Eq (.ref a) (.ref b)) Q E s := by
  refine wpAny_richCompare_same_room (op := .Eq) da.typeIs db.typeIs PySem.F.slot_dict_eq (wpAny_call_entry PySem.F.slot_dict_eq da.typeIs PySem.F.entry_dict_eq ?_ (PySem.F.args_dict_eq_2 _ _)) hu
  show wpAny _ _ (Builtin.Dict.dictSlotArgs "__eq__" ⟨[.ref a, .ref b], []⟩ >>= _) _ _ s
  unfold Builtin.Dict.dictSlotArgs
  refine wpAny_bind (wpAny_bind (wpAny_notOrdered_dict da.typeIs ?_))
  show wpAny _ _ (pure (Value.ref a, Value.ref b)) _ _ s
  refine wpAny_pure (wpAny_bind (wpAny_isInstance (T := "dict") db.typeIs PySem.F.sub_dict_dict ?_))
  simp only [Bool.not_true, Bool.false_eq_true, if_false]
  refine wpAny_bind (wpAny_pure (wpAny_bind (wpAny_pure (wpAny_bind (samePairsN hr na nb da db wk ?_)))))
  exact wpAny_pure ⟨_, rfl, (fun z => nomatch z), by simpa using q⟩
end
/-! ### over the hand layer -/
/-- the same walk over what the hand layer tells -/
inductive WalkV (K : PySem.W.Frag) (H : Hp) (ls : List (NestedKey × Addr × V)) : List (NestedKey × Addr × V) → Bool → Prop
  | fin : WalkV K H ls [] true
  | lack {x : NestedKey × Addr × V} {r : List (NestedKey × Addr × V)} : valX ls x.1 = none → WalkV K H ls (x :: r) false
  | off {x : NestedKey × Addr × V} {r : List (NestedKey × Addr × V)} {u : V} {d e : PyData} : valX ls x.1 = some u → Dp K H x.2.2 d → Dp K H u e → SeqAt.shaped d = true → SeqAt.shaped e = true → PyData.eqv d e = false → WalkV K H ls (x :: r) false
  | on {x : NestedKey × Addr × V} {r : List (NestedKey × Addr × V)} {u : V} {d e : PyData} {b : Bool} : valX ls x.1 = some u → Dp K H x.2.2 d → Dp K H u e → SeqAt.shaped d = true → SeqAt.shaped e = true → PyData.eqv d e = true → WalkV K H ls r b → WalkV K H ls (x :: r) b
def rEqN (P : Program) (w : World) (K : PySem.W.Frag) (n : Bool) : R2 := fun x y H Q => ∃ a b ks ls r, x = .ref a ∧ y = .ref b ∧ Rd H a (dctO P w a ks) ∧ Rd H b (dctO P w b ls) ∧ KeysOk K H ks ∧ KeysOk K H ls ∧ (ks.length = ls.length → WalkV K H ls ks r) ∧
  Q (.bl (ks.length == ls.length && r)) H
section
variable {X : Cx} {pins : List (Addr × Obj)} {σ : L2.St} {H : Hp} {s : Shared}
theorem walk_of (I : Inv X pins σ H s) {A : Around} (hu : A.in1.units + 64 < cLine) {ls : List (NestedKey × Addr × V)} {ys : List (NestedKey × Addr × Value)} (rl : Paired KxR ls ys) {ks : List (NestedKey × Addr × V)} {xs : List (NestedKey × Addr × Value)}
    (rk : Paired KxR ks xs) {r : Bool} (h : WalkV X.K H ls ks r) : Walk X.prog X.w A.in1 s ys xs r := by
  induction rk generalizing r with
  | nil => cases h; exact .fin
  | @cons p q ps qs hpq _ ih =>
    obtain ⟨e1, e2, e3⟩ := hpq
    have at1 : RelO (valX ls p.1) ((atKey ys q.1).map (·.2)) := by rw [← e1]; exact valX_rel p.1 rl
    have got : ∀ {u : V}, valX ls p.1 = some u → ∃ z, atKey ys q.1 = some z ∧ RelV u z.2 := fun {u} hv => by
      rw [hv] at at1
      obtain ⟨y, hy, ry⟩ := at1.some_of
      cases ha : atKey ys q.1 with
      | none => rw [ha] at hy; cases hy
      | some z =>
        rw [ha] at hy
        cases hy
        exact ⟨z, rfl, ry⟩
    have eqp : ∀ {u : V} {z : Value} {d e : PyData}, RelV u z → Dp X.K H p.2.2 d → Dp X.K H u e → SeqAt.shaped d = true → SeqAt.shaped e = true → SeqAt.EqP X.prog X.w A.in1 s q.2.2 z (PyData.eqv d e) := fun {u z d e} ru hd he sd se => by
      obtain ⟨as, r1⟩ := Dp.reads I d p.2.2 q.2.2 hd e3
      obtain ⟨bs, r2⟩ := Dp.reads I e u z he ru
      exact (PySem.W.keq_at r1 r2 sd se hu).eqP
    cases h with
    | lack hn =>
      rw [hn] at at1
      refine .lack ?_
      cases ha : atKey ys q.1 with
      | none => rfl
      | some z => rw [ha] at at1; exact at1.elim
    | off hv hd he sd se hq =>
      obtain ⟨z, hz, ru⟩ := got hv
      have := eqp ru hd he sd se
      rw [hq] at this
      exact .off hz this
    | on hv hd he sd se hq hw =>
      obtain ⟨z, hz, ru⟩ := got hv
      have := eqp ru hd he sd se
      rw [hq] at this
      exact .on hz this (ih hw)
theorem op_eqN (hu : X.A.units + 65 < cLine) : OpR X (compareOp .Eq) (rEqN X.prog X.w X.K false) := by
  intro pins s σ H x y v u Q I rx ry h
  obtain ⟨a, b, ks, ls, r, rfl, rfl, ra, rb, ka, kb, hw, q⟩ := h
  obtain rfl : v = Value.ref a := rx
  obtain rfl : u = Value.ref b := ry
  obtain ⟨na, _, xs, p1, d1⟩ := dct_at I ra ka
  obtain ⟨nb, _, ys, p2, d2⟩ := dct_at I rb kb
  have l1 : ks.length = xs.length := Paired.length p1
  have l2 : ls.length = ys.length := Paired.length p2
  refine rcN_dicts (kd := nestedKind X.prog X.w) (r := r) (n_room (by omega)) na nb d1 d2 (by omega) (fun e => walk_of I (by show X.A.units + 1 + 64 < cLine; omega) p2 p1 (hw (by rw [l1, l2]; exact e))) _ _ ?_
  exact ⟨.bl _, H, I, by rw [l1, l2]; rfl, q⟩
end
section
variable {G : Glo} {X : Cx} {W' : WX} {pos : Pos}
noncomputable def walkD {α : Type} (S : FH) (ls : List (W × W)) (ks : List (W × W)) (k : Bool → Res α) : Res α := List.rec (motive := fun _ => Res α) (k true) (fun p _ ih => match findD ls p.1 with
  | none => k false
  | some u => datK p.2 S fun d => datK u S fun e => fBool (eqF 50 d e) fun t => match t with
    | true => ih
    | false => k false) ks
theorem post_walkD {α : Type} {C : Cf} (ok : C.Ok G) {ls : List (W × W)} {ys : List (NestedKey × Addr × V)} (hl : KVs G.K C.ρ C.H ls ys) {k : Bool → Res α} {Φ : α → Cf → Prop} : ∀ {ks : List (W × W)} {xs : List (NestedKey × Addr × V)}, KVs G.K C.ρ C.H ks xs →
    Post G W' C (walkD C.S ls ks k) Φ → ∃ r, WalkV G.K C.H ys xs r ∧ Post G W' C (k r) Φ
  | [], xs, h, p => by
    cases (show xs = [] from h)
    exact ⟨true, .fin, p⟩
  | q :: r, xs, h, p => by
    obtain ⟨j, b, v, zs, rfl, h1, h2, h3, h4⟩ := h
    have fr := find_rel h1.1 hl
    have p' : Post G W' C (match findD ls q.1 with
      | none => k false
      | some u => datK q.2 C.S fun d => datK u C.S fun e => fBool (eqF 50 d e) fun t => match t with
        | true => walkD C.S ls r k
        | false => k false) Φ := p
    cases hf : findD ls q.1 with
    | none =>
      rw [hf] at p'
      exact ⟨false, .lack (fr.1 hf), p'⟩
    | some u =>
      rw [hf] at p'
      obtain ⟨uv, e1, e2⟩ := fr.2 u hf
      obtain ⟨d, d1, d2, _, d3, p1⟩ := post_dat ok h3 p'
      obtain ⟨e, c1, c2, _, c3, p2⟩ := post_dat ok e2 p1
      rw [fBool_eq, eqF_eq 50 d e (by omega)] at p2
      cases ht : PyData.eqv d e with
      | false =>
        rw [ht] at p2
        exact ⟨false, .off e1 d1 c1 d2 c2 ht, p2⟩
      | true =>
        rw [ht] at p2
        obtain ⟨t, w1, w2⟩ := post_walkD ok hl h4 p2
        exact ⟨t, .on e1 d1 c1 d2 c2 ht w1, w2⟩
noncomputable def gEqDc : Op2 := fun a b S => dctK a S (gEq a b S) fun ks => dctK b S .stuck fun ls => match Nat.beq ks.length ls.length with
  | true => walkD S ls ks fun r => fBool r fun r => .ok (.k (.bl r)) S
  | false => .ok (.k (.bl false)) S
theorem ox_eqDc (hx : Okx G X) : OpX G X (compareOp .Eq) gEqDc := by
  obtain ⟨r0, o0, s0⟩ := ox_eq (G := G) hx
  refine ⟨fun x y H Q => r0 x y H Q ∨ rEqN G.P G.w G.K false x y H Q, opr_or o0 (by rw [← hx.pr, ← hx.wo, ← hx.k]; exact op_eqN (by have := hx.un; omega)), fun W' C a b x y Q ok ra rb p => ?_⟩
  rcases post_dctK ok ra p with p | ⟨d, xs, ks, rfl, rd, kv, p⟩
  · exact .inl (s0 W' C a b x y Q ok ra rb p)
  · rcases post_dctK ok rb p with p | ⟨d2, ys, ls, rfl, rd2, kv2, p⟩
    · exact post_stuck p
    · have l1 := KVs.length kv
      have l2 := KVs.length kv2
      rw [beq_dec] at p
      by_cases hl : ks.length = ls.length
      · rw [decide_eq_true hl] at p
        obtain ⟨r, w1, p2⟩ := post_walkD ok kv2 kv p
        rw [fBool_eq] at p2
        refine .inr ⟨d, d2, xs, ys, r, rfl, rfl, rd, rd2, kv.keys, kv2.keys, fun _ => w1, ?_⟩
        rw [show (xs.length == ys.length) = true by rw [l1, l2, hl]; simp, Bool.true_and]
        exact Post.now ok p2 _ mk_k
      · rw [decide_eq_false hl] at p
        refine .inr ⟨d, d2, xs, ys, true, rfl, rfl, rd, rd2, kv.keys, kv2.keys, fun e => absurd (by rw [← l1, ← l2]; exact e) hl, ?_⟩
        rw [show (xs.length == ys.length) = false by rw [l1, l2]; simpa using hl, Bool.false_and]
        exact Post.now ok p _ mk_k
end
end Ev

namespace LawP
open PySem PySem.Spec PyProof.Rows L2 Ev
def top (i : Nat) : Stmt := PySem.Challenge.pw_stoppedcoins_k41_steady_by_hand_and_what.main.body.getD i (.Pass ⟨0, 0, 0, 0⟩)
def s_0 : Str := ⟨#[117, 110, 102, 105, 116]⟩
theorem s_0_eq : ("unfit" : Str) = s_0 := by decide +kernel
def s_1 : Str := ⟨#[99, 97, 110, 32, 110, 111, 116]⟩
theorem s_1_eq : ("can not" : Str) = s_1 := by decide +kernel
def s_2 : Str := ⟨#[50]⟩
theorem s_2_eq : ("2" : Str) = s_2 := by decide +kernel
theorem bb_ValueError : bootBuiltins "ValueError" = some (.type "ValueError") := by decide +kernel
theorem bb_abs : bootBuiltins "abs" = some (.builtin "abs") := by decide +kernel
theorem bb_all : bootBuiltins "all" = some (.builtin "all") := by decide +kernel
theorem bb_any : bootBuiltins "any" = some (.builtin "any") := by decide +kernel
theorem bb_bool : bootBuiltins "bool" = some (.type "bool") := by decide +kernel
theorem bb_dict : bootBuiltins "dict" = some (.type "dict") := by decide +kernel
theorem bb_enumerate : bootBuiltins "enumerate" = some (.type "enumerate") := by decide +kernel
theorem bb_int : bootBuiltins "int" = some (.type "int") := by decide +kernel
theorem bb_isinstance : bootBuiltins "isinstance" = some (.builtin "isinstance") := by decide +kernel
theorem bb_len : bootBuiltins "len" = some (.builtin "len") := by decide +kernel
theorem bb_list : bootBuiltins "list" = some (.type "list") := by decide +kernel
theorem bb_range : bootBuiltins "range" = some (.type "range") := by decide +kernel
theorem bb_reversed : bootBuiltins "reversed" = some (.type "reversed") := by decide +kernel
theorem bb_sorted : bootBuiltins "sorted" = some (.builtin "sorted") := by decide +kernel
theorem bb_str : bootBuiltins "str" = some (.type "str") := by decide +kernel
theorem bb_sum : bootBuiltins "sum" = some (.builtin "sum") := by decide +kernel
theorem bb_tuple : bootBuiltins "tuple" = some (.type "tuple") := by decide +kernel
theorem bb_zip : bootBuiltins "zip" = some (.type "zip") := by decide +kernel
def c_ZERO_forms : W := W.tup [W.k (.int 0), W.k (.int 1)]
def c_ZERO_sources : W := W.tup [W.k (.int 0), W.k (.int 1)]
def c_ZERO_steady : W := W.tup [W.k (.int 0), W.k (.int 1)]
def c_ONE : W := W.tup [W.k (.int 1), W.k (.int 1)]
def c_LESS : W := W.tup [W.k (.int (-1)), W.k (.int 1)]
abbrev st_is_number : Stmt := top 5
abbrev N_is_number : List Str := ["thing"]
theorem sc_is_number : FnScope N_is_number ["thing"] (defScope st_is_number) := ⟨rfl, rfl, rfl, by decide +kernel, rfl, by decide +kernel, by decide +kernel⟩
abbrev st_tuple_of : Stmt := top 6
abbrev N_tuple_of : List Str := ["thing", "part"]
theorem sc_tuple_of : FnScope N_tuple_of ["thing"] (defScope st_tuple_of) := ⟨rfl, rfl, rfl, by decide +kernel, rfl, by decide +kernel, by decide +kernel⟩
abbrev st_is_tuple_of : Stmt := top 7
abbrev N_is_tuple_of : List Str := ["thing", "many"]
theorem sc_is_tuple_of : FnScope N_is_tuple_of ["thing", "many"] (defScope st_is_tuple_of) := ⟨rfl, rfl, rfl, by decide +kernel, rfl, by decide +kernel, by decide +kernel⟩
abbrev st_is_fraction : Stmt := top 9
abbrev N_is_fraction : List Str := ["thing", "top", "bottom"]
theorem sc_is_fraction : FnScope N_is_fraction ["thing"] (defScope st_is_fraction) := ⟨rfl, rfl, rfl, by decide +kernel, rfl, by decide +kernel, by decide +kernel⟩
abbrev st_fraction : Stmt := top 10
abbrev N_fraction : List Str := ["top", "bottom", "common"]
theorem sc_fraction : FnScope N_fraction ["top", "bottom"] (defScope st_fraction) := ⟨rfl, rfl, rfl, by decide +kernel, rfl, by decide +kernel, by decide +kernel⟩
abbrev st_whole : Stmt := top 11
abbrev N_whole : List Str := ["number"]
theorem sc_whole : FnScope N_whole ["number"] (defScope st_whole) := ⟨rfl, rfl, rfl, by decide +kernel, rfl, by decide +kernel, by decide +kernel⟩
abbrev st_plus : Stmt := top 12
abbrev N_plus : List Str := ["x", "y"]
theorem sc_plus : FnScope N_plus ["x", "y"] (defScope st_plus) := ⟨rfl, rfl, rfl, by decide +kernel, rfl, by decide +kernel, by decide +kernel⟩
abbrev st_minus : Stmt := top 13
abbrev N_minus : List Str := ["x", "y"]
theorem sc_minus : FnScope N_minus ["x", "y"] (defScope st_minus) := ⟨rfl, rfl, rfl, by decide +kernel, rfl, by decide +kernel, by decide +kernel⟩
abbrev st_times : Stmt := top 14
abbrev N_times : List Str := ["x", "y"]
theorem sc_times : FnScope N_times ["x", "y"] (defScope st_times) := ⟨rfl, rfl, rfl, by decide +kernel, rfl, by decide +kernel, by decide +kernel⟩
abbrev st_over : Stmt := top 15
abbrev N_over : List Str := ["x", "y"]
theorem sc_over : FnScope N_over ["x", "y"] (defScope st_over) := ⟨rfl, rfl, rfl, by decide +kernel, rfl, by decide +kernel, by decide +kernel⟩
abbrev st__power : Stmt := top 16
abbrev N__power : List Str := ["number", "many", "found", "square", "left"]
theorem sc__power : FnScope N__power ["number", "many"] (defScope st__power) := ⟨rfl, rfl, rfl, by decide +kernel, rfl, by decide +kernel, by decide +kernel⟩
abbrev st_power_of : Stmt := top 17
abbrev N_power_of : List Str := ["x", "many"]
theorem sc_power_of : FnScope N_power_of ["x", "many"] (defScope st_power_of) := ⟨rfl, rfl, rfl, by decide +kernel, rfl, by decide +kernel, by decide +kernel⟩
abbrev st_sign_of : Stmt := top 18
abbrev N_sign_of : List Str := ["x"]
theorem sc_sign_of : FnScope N_sign_of ["x"] (defScope st_sign_of) := ⟨rfl, rfl, rfl, by decide +kernel, rfl, by decide +kernel, by decide +kernel⟩
abbrev st_gathered : Stmt := top 21
abbrev N_gathered : List Str := ["pairs", "sums", "powers", "x"]
theorem sc_gathered : FnScope N_gathered ["pairs"] (defScope st_gathered) := ⟨rfl, rfl, rfl, by decide +kernel, rfl, by decide +kernel, by decide +kernel⟩
abbrev st_value_at : Stmt := top 22
abbrev N_value_at : List Str := ["form", "rows", "total", "powers", "x", "own", "row", "power", "y"]
theorem sc_value_at : FnScope N_value_at ["form", "rows"] (defScope st_value_at) := ⟨rfl, rfl, rfl, by decide +kernel, rfl, by decide +kernel, by decide +kernel⟩
abbrev st_sum_of : Stmt := top 25
abbrev N_sum_of : List Str := ["fractions", "total", "x"]
theorem sc_sum_of : FnScope N_sum_of ["fractions"] (defScope st_sum_of) := ⟨rfl, rfl, rfl, by decide +kernel, rfl, by decide +kernel, by decide +kernel⟩
abbrev st__words : Stmt := top 30
abbrev N__words : List Str := ["letters", "width", "found", "_", "more", "word", "letter"]
theorem sc__words : FnScope N__words ["letters", "width"] (defScope st__words) := ⟨rfl, rfl, rfl, by decide +kernel, rfl, by decide +kernel, by decide +kernel⟩
abbrev st__is_word : Stmt := top 31
abbrev N__is_word : List Str := ["thing", "letters", "width", "letter"]
theorem sc__is_word : FnScope N__is_word ["thing", "letters", "width"] (defScope st__is_word) := ⟨rfl, rfl, rfl, by decide +kernel, rfl, by decide +kernel, by decide +kernel⟩
abbrev st__are_pairs : Stmt := top 32
abbrev N__are_pairs : List Str := ["thing", "letters", "width", "pair", "k"]
theorem sc__are_pairs : FnScope N__are_pairs ["thing", "letters", "width"] (defScope st__are_pairs) := ⟨rfl, rfl, rfl, by decide +kernel, rfl, by decide +kernel, by decide +kernel⟩
abbrev st_is_gain : Stmt := top 33
abbrev N_is_gain : List Str := ["thing", "own"]
theorem sc_is_gain : FnScope N_is_gain ["thing"] (defScope st_is_gain) := ⟨rfl, rfl, rfl, by decide +kernel, rfl, by decide +kernel, by decide +kernel⟩
abbrev st__chances_by : Stmt := top 34
abbrev N__chances_by : List Str := ["pairs", "first", "last", "sums", "word", "chance", "part"]
theorem sc__chances_by : FnScope N__chances_by ["pairs", "first", "last"] (defScope st__chances_by) := ⟨rfl, rfl, rfl, by decide +kernel, rfl, by decide +kernel, by decide +kernel⟩
abbrev st_is_stream : Stmt := top 35
abbrev N_is_stream : List Str := ["thing", "_", "chance"]
theorem sc_is_stream : FnScope N_is_stream ["thing"] (defScope st_is_stream) := ⟨rfl, rfl, rfl, by decide +kernel, rfl, by decide +kernel, by decide +kernel⟩
abbrev st__round : Stmt := top 36
abbrev N__round : List Str := ["ring", "width", "many", "k", "place"]
theorem sc__round : FnScope N__round ["ring", "width"] (defScope st__round) := ⟨rfl, rfl, rfl, by decide +kernel, rfl, by decide +kernel, by decide +kernel⟩
abbrev st__gained : Stmt := top 37
abbrev N__gained : List Str := ["values", "words", "word"]
theorem sc__gained : FnScope N__gained ["values", "words"] (defScope st__gained) := ⟨rfl, rfl, rfl, by decide +kernel, rfl, by decide +kernel, by decide +kernel⟩
abbrev st_ring_gain : Stmt := top 38
abbrev N_ring_gain : List Str := ["gain", "ring", "letters", "width", "pairs"]
theorem sc_ring_gain : FnScope N_ring_gain ["gain", "ring"] (defScope st_ring_gain) := ⟨rfl, rfl, rfl, by decide +kernel, rfl, by decide +kernel, by decide +kernel⟩
abbrev st__row_chance : Stmt := top 39
abbrev N__row_chance : List Str := ["width", "pairs", "row", "chances", "heads", "total", "place", "word"]
theorem sc__row_chance : FnScope N__row_chance ["width", "pairs", "row"] (defScope st__row_chance) := ⟨rfl, rfl, rfl, by decide +kernel, rfl, by decide +kernel, by decide +kernel⟩
abbrev st_step_gain : Stmt := top 40
abbrev N_step_gain : List Str := ["gain", "stream", "letters", "width", "pairs", "others", "wide", "chances", "word", "x"]
theorem sc_step_gain : FnScope N_step_gain ["gain", "stream"] (defScope st_step_gain) := ⟨rfl, rfl, rfl, by decide +kernel, rfl, by decide +kernel, by decide +kernel⟩
abbrev st__held_on : Stmt := top 41
abbrev N__held_on : List Str := ["values", "word", "width", "row", "place"]
theorem sc__held_on : FnScope N__held_on ["values", "word", "width"] (defScope st__held_on) := ⟨rfl, rfl, rfl, by decide +kernel, rfl, by decide +kernel, by decide +kernel⟩
abbrev st__is_held : Stmt := top 42
abbrev N__is_held : List Str := ["gain", "held", "letters", "width", "pairs", "values", "word"]
theorem sc__is_held : FnScope N__is_held ["gain", "held"] (defScope st__is_held) := ⟨rfl, rfl, rfl, by decide +kernel, rfl, by decide +kernel, by decide +kernel⟩
abbrev st_store : Stmt := top 43
abbrev N_store : List Str := ["gain", "letters", "width", "pairs", "values", "found", "word", "x"]
theorem sc_store : FnScope N_store ["gain"] (defScope st_store) := ⟨rfl, rfl, rfl, by decide +kernel, rfl, by decide +kernel, by decide +kernel⟩
abbrev st_is_store : Stmt := top 44
abbrev N_is_store : List Str := ["gain", "thing"]
theorem sc_is_store : FnScope N_is_store ["gain", "thing"] (defScope st_is_store) := ⟨rfl, rfl, rfl, by decide +kernel, rfl, by decide +kernel, by decide +kernel⟩
abbrev st_gaining_ring : Stmt := top 45
abbrev N_gaining_ring : List Str := ["gain", "letters", "width", "pairs", "values", "word", "ring"]
theorem sc_gaining_ring : FnScope N_gaining_ring ["gain"] (defScope st_gaining_ring) := ⟨rfl, rfl, rfl, by decide +kernel, rfl, by decide +kernel, by decide +kernel⟩
abbrev st__all_bottoms : Stmt := top 46
abbrev N__all_bottoms : List Str := ["fractions", "found", "_", "bottom"]
theorem sc__all_bottoms : FnScope N__all_bottoms ["fractions"] (defScope st__all_bottoms) := ⟨rfl, rfl, rfl, by decide +kernel, rfl, by decide +kernel, by decide +kernel⟩
abbrev st__weights : Stmt := top 47
abbrev N__weights : List Str := ["gain", "bound", "letters", "width", "pairs", "scale", "values", "found", "word", "top", "bottom", "_", "x"]
theorem sc__weights : FnScope N__weights ["gain", "bound"] (defScope st__weights) := ⟨rfl, rfl, rfl, by decide +kernel, rfl, by decide +kernel, by decide +kernel⟩
abbrev st__ring_back : Stmt := top 48
abbrev N__ring_back : List Str := ["came", "part", "many", "_", "ring", "last", "word"]
theorem sc__ring_back : FnScope N__ring_back ["came", "part", "many"] (defScope st__ring_back) := ⟨rfl, rfl, rfl, by decide +kernel, rfl, by decide +kernel, by decide +kernel⟩
abbrev st__chased : Stmt := top 49
abbrev N__chased : List Str := ["gain", "bound", "letters", "width", "pairs", "weights", "scale", "held", "came", "_", "moved", "word", "weight", "own", "part"]
theorem sc__chased : FnScope N__chased ["gain", "bound"] (defScope st__chased) := ⟨rfl, rfl, rfl, by decide +kernel, rfl, by decide +kernel, by decide +kernel⟩
abbrev st__step_round : Stmt := top 50
abbrev N__step_round : List Str := ["gain", "ring", "letters", "width", "pairs"]
theorem sc__step_round : FnScope N__step_round ["gain", "ring"] (defScope st__step_round) := ⟨rfl, rfl, rfl, by decide +kernel, rfl, by decide +kernel, by decide +kernel⟩
abbrev st__best_ring : Stmt := top 51
abbrev N__best_ring : List Str := ["gain", "best", "ring"]
theorem sc__best_ring : FnScope N__best_ring ["gain"] (defScope st__best_ring) := ⟨rfl, rfl, rfl, by decide +kernel, rfl, by decide +kernel, by decide +kernel⟩
abbrev st_most_step : Stmt := top 52
abbrev N_most_step : List Str := ["gain"]
theorem sc_most_step : FnScope N_most_step ["gain"] (defScope st_most_step) := ⟨rfl, rfl, rfl, by decide +kernel, rfl, by decide +kernel, by decide +kernel⟩
abbrev st_most_ring : Stmt := top 53
abbrev N_most_ring : List Str := ["gain"]
theorem sc_most_ring : FnScope N_most_ring ["gain"] (defScope st_most_ring) := ⟨rfl, rfl, rfl, by decide +kernel, rfl, by decide +kernel, by decide +kernel⟩
abbrev st_most_store : Stmt := top 54
abbrev N_most_store : List Str := ["gain", "bound", "held", "word"]
theorem sc_most_store : FnScope N_most_store ["gain", "bound"] (defScope st_most_store) := ⟨rfl, rfl, rfl, by decide +kernel, rfl, by decide +kernel, by decide +kernel⟩
abbrev st_is_most_store : Stmt := top 55
abbrev N_is_most_store : List Str := ["gain", "bound", "thing", "held", "values", "word", "high"]
theorem sc_is_most_store : FnScope N_is_most_store ["gain", "bound", "thing"] (defScope st_is_most_store) := ⟨rfl, rfl, rfl, by decide +kernel, rfl, by decide +kernel, by decide +kernel⟩
abbrev st_ring_sum : Stmt := top 56
abbrev N_ring_sum : List Str := ["form", "n", "rows", "own"]
theorem sc_ring_sum : FnScope N_ring_sum ["form", "n", "rows"] (defScope st_ring_sum) := ⟨rfl, rfl, rfl, by decide +kernel, rfl, by decide +kernel, by decide +kernel⟩
abbrev st__at_places : Stmt := top 57
abbrev N__at_places : List Str := ["form", "places", "n", "c", "found", "powers", "x", "moved", "left", "own", "place", "_", "more", "power"]
theorem sc__at_places : FnScope N__at_places ["form", "places", "n", "c"] (defScope st__at_places) := ⟨rfl, rfl, rfl, by decide +kernel, rfl, by decide +kernel, by decide +kernel⟩
abbrev st__going_on : Stmt := top 58
abbrev N__going_on : List Str := ["form", "n", "c", "found", "first", "places", "k", "powers", "x"]
theorem sc__going_on : FnScope N__going_on ["form", "n", "c"] (defScope st__going_on) := ⟨rfl, rfl, rfl, by decide +kernel, rfl, by decide +kernel, by decide +kernel⟩
abbrev st__store_of : Stmt := top 59
abbrev N__store_of : List Str := ["form", "n", "c", "held", "tails", "heads", "powers", "x"]
theorem sc__store_of : FnScope N__store_of ["form", "n", "c"] (defScope st__store_of) := ⟨rfl, rfl, rfl, by decide +kernel, rfl, by decide +kernel, by decide +kernel⟩
abbrev st_form_store : Stmt := top 60
abbrev N_form_store : List Str := ["form", "n", "c", "held"]
theorem sc_form_store : FnScope N_form_store ["form", "n", "c"] (defScope st_form_store) := ⟨rfl, rfl, rfl, by decide +kernel, rfl, by decide +kernel, by decide +kernel⟩
abbrev st__with_number : Stmt := top 61
abbrev N__with_number : List Str := ["form", "sample", "column", "number", "found", "powers", "x", "own", "rest"]
theorem sc__with_number : FnScope N__with_number ["form", "sample", "column", "number"] (defScope st__with_number) := ⟨rfl, rfl, rfl, by decide +kernel, rfl, by decide +kernel, by decide +kernel⟩
abbrev st__rows_for : Stmt := top 62
abbrev N__rows_for : List Str := ["form", "n", "c", "rows", "sample", "row", "column", "number"]
theorem sc__rows_for : FnScope N__rows_for ["form", "n", "c"] (defScope st__rows_for) := ⟨rfl, rfl, rfl, by decide +kernel, rfl, by decide +kernel, by decide +kernel⟩
abbrev st_form_ring : Stmt := top 63
abbrev N_form_ring : List Str := ["form", "n", "c", "still", "found", "many", "first", "spots", "k", "spot"]
theorem sc_form_ring : FnScope N_form_ring ["form", "n", "c"] (defScope st_form_ring) := ⟨rfl, rfl, rfl, by decide +kernel, rfl, by decide +kernel, by decide +kernel⟩
abbrev st__law_box : Stmt := top 65
abbrev N__law_box : List Str := ["script", "k", "cell"]
theorem sc__law_box : FnScope N__law_box ["script", "k"] (defScope st__law_box) := ⟨rfl, rfl, rfl, by decide +kernel, rfl, by decide +kernel, by decide +kernel⟩
abbrev st__law_take : Stmt := top 66
abbrev N__law_take : List Str := ["box", "size_so", "drawn_so", "once", "far_so", "again"]
theorem sc__law_take : FnScope N__law_take ["box", "size_so"] (defScope st__law_take) := ⟨rfl, rfl, rfl, by decide +kernel, rfl, by decide +kernel, by decide +kernel⟩
abbrev st__law_cells : Stmt := top 67
abbrev N__law_cells : List Str := ["script", "top_so", "cells_so", "k", "cell", "at_so"]
theorem sc__law_cells : FnScope N__law_cells ["script", "top_so"] (defScope st__law_cells) := ⟨rfl, rfl, rfl, by decide +kernel, rfl, by decide +kernel, by decide +kernel⟩
abbrev st__law_same : Stmt := top 68
abbrev N__law_same : List Str := ["got", "due", "a_so", "b_so"]
theorem sc__law_same : FnScope N__law_same ["got", "due"] (defScope st__law_same) := ⟨rfl, rfl, rfl, by decide +kernel, rfl, by decide +kernel, by decide +kernel⟩
abbrev st__law_lists : Stmt := top 69
abbrev N__law_lists : List Str := ["matter", "bit"]
theorem sc__law_lists : FnScope N__law_lists ["matter"] (defScope st__law_lists) := ⟨rfl, rfl, rfl, by decide +kernel, rfl, by decide +kernel, by decide +kernel⟩
abbrev st__law_gcd : Stmt := top 70
abbrev N__law_gcd : List Str := ["one_so", "two_so"]
theorem sc__law_gcd : FnScope N__law_gcd ["one_so", "two_so"] (defScope st__law_gcd) := ⟨rfl, rfl, rfl, by decide +kernel, rfl, by decide +kernel, by decide +kernel⟩
abbrev st__law_fr : Stmt := top 71
abbrev N__law_fr : List Str := ["top_so", "base_so", "deep_so"]
theorem sc__law_fr : FnScope N__law_fr ["top_so", "base_so"] (defScope st__law_fr) := ⟨rfl, rfl, rfl, by decide +kernel, rfl, by decide +kernel, by decide +kernel⟩
abbrev st__law_add : Stmt := top 72
abbrev N__law_add : List Str := ["one_so", "two_so"]
theorem sc__law_add : FnScope N__law_add ["one_so", "two_so"] (defScope st__law_add) := ⟨rfl, rfl, rfl, by decide +kernel, rfl, by decide +kernel, by decide +kernel⟩
abbrev st__law_mul : Stmt := top 73
abbrev N__law_mul : List Str := ["one_so", "two_so"]
theorem sc__law_mul : FnScope N__law_mul ["one_so", "two_so"] (defScope st__law_mul) := ⟨rfl, rfl, rfl, by decide +kernel, rfl, by decide +kernel, by decide +kernel⟩
abbrev st__law_sum : Stmt := top 74
abbrev N__law_sum : List Str := ["bits_so", "found", "bit"]
theorem sc__law_sum : FnScope N__law_sum ["bits_so"] (defScope st__law_sum) := ⟨rfl, rfl, rfl, by decide +kernel, rfl, by decide +kernel, by decide +kernel⟩
abbrev st__law_turned : Stmt := top 75
abbrev N__law_turned : List Str := ["ring_so", "wide_so", "long_so", "k"]
theorem sc__law_turned : FnScope N__law_turned ["ring_so", "wide_so"] (defScope st__law_turned) := ⟨rfl, rfl, rfl, by decide +kernel, rfl, by decide +kernel, by decide +kernel⟩
abbrev st__law_gained : Stmt := top 76
abbrev N__law_gained : List Str := ["gain_so", "ring_so", "table_so", "own"]
theorem sc__law_gained : FnScope N__law_gained ["gain_so", "ring_so"] (defScope st__law_gained) := ⟨rfl, rfl, rfl, by decide +kernel, rfl, by decide +kernel, by decide +kernel⟩
abbrev st__law_is_fr : Stmt := top 77
abbrev N__law_is_fr : List Str := ["matter", "bit"]
theorem sc__law_is_fr : FnScope N__law_is_fr ["matter"] (defScope st__law_is_fr) := ⟨rfl, rfl, rfl, by decide +kernel, rfl, by decide +kernel, by decide +kernel⟩
abbrev st__law_is_ring : Stmt := top 78
abbrev N__law_is_ring : List Str := ["matter", "letters_so", "bit"]
theorem sc__law_is_ring : FnScope N__law_is_ring ["matter", "letters_so"] (defScope st__law_is_ring) := ⟨rfl, rfl, rfl, by decide +kernel, rfl, by decide +kernel, by decide +kernel⟩
abbrev st__law_value : Stmt := top 79
abbrev N__law_value : List Str := ["form_so", "rows_so", "found", "powers_so", "part_so", "own", "row_so", "much_so", "x_so", "lap"]
theorem sc__law_value : FnScope N__law_value ["form_so", "rows_so"] (defScope st__law_value) := ⟨rfl, rfl, rfl, by decide +kernel, rfl, by decide +kernel, by decide +kernel⟩
abbrev st__law_round : Stmt := top 80
abbrev N__law_round : List Str := ["form_so", "n_so", "rows_so", "own"]
theorem sc__law_round : FnScope N__law_round ["form_so", "n_so", "rows_so"] (defScope st__law_round) := ⟨rfl, rfl, rfl, by decide +kernel, rfl, by decide +kernel, by decide +kernel⟩
abbrev st__law_are_rows : Stmt := top 81
abbrev N__law_are_rows : List Str := ["matter", "c_so", "bit", "x_so"]
theorem sc__law_are_rows : FnScope N__law_are_rows ["matter", "c_so"] (defScope st__law_are_rows) := ⟨rfl, rfl, rfl, by decide +kernel, rfl, by decide +kernel, by decide +kernel⟩
abbrev st__law_names : Stmt := top 82
abbrev N__law_names : List Str := ["rise_so", "turn_so", "deep_so", "flat_so", "three_so"]
theorem sc__law_names : FnScope N__law_names [] (defScope st__law_names) := ⟨rfl, rfl, rfl, by decide +kernel, rfl, by decide +kernel, by decide +kernel⟩
abbrev st__law_heard : Stmt := top 83
abbrev N__law_heard : List Str := ["door_so", "gain_so", "own", "caught", "told_so", "error_so"]
theorem sc__law_heard : FnScope N__law_heard ["door_so", "gain_so", "own"] (defScope st__law_heard) := ⟨rfl, rfl, rfl, by decide +kernel, rfl, by decide +kernel, by decide +kernel⟩
abbrev st__law_things_right : Stmt := top 84
abbrev N__law_things_right : List Str := ["half_so", "one_so", "good_so", "odd_so", "bad_so", "got", "due", "own"]
theorem sc__law_things_right : FnScope N__law_things_right [] (defScope st__law_things_right) := ⟨rfl, rfl, rfl, by decide +kernel, rfl, by decide +kernel, by decide +kernel⟩
abbrev st__law_rings_right : Stmt := top 85
abbrev N__law_rings_right : List Str := ["rise_so", "turn_so", "deep_so", "flat_so", "three_so", "got", "even_so", "to_so", "slow_so", "due", "far", "own"]
theorem sc__law_rings_right : FnScope N__law_rings_right [] (defScope st__law_rings_right) := ⟨rfl, rfl, rfl, by decide +kernel, rfl, by decide +kernel, by decide +kernel⟩
abbrev st__law_stores_right : Stmt := top 86
abbrev N__law_stores_right : List Str := ["rise_so", "turn_so", "deep_so", "flat_so", "three_so", "wide_so", "held_so", "got", "due", "more_so", "things_so", "wheel_so", "own", "told_so"]
theorem sc__law_stores_right : FnScope N__law_stores_right [] (defScope st__law_stores_right) := ⟨rfl, rfl, rfl, by decide +kernel, rfl, by decide +kernel, by decide +kernel⟩
abbrev st__law_most_right : Stmt := top 87
abbrev N__law_most_right : List Str := ["rise_so", "turn_so", "deep_so", "flat_so", "three_so", "low_so", "got", "due", "ring_so", "things_so", "own"]
theorem sc__law_most_right : FnScope N__law_most_right [] (defScope st__law_most_right) := ⟨rfl, rfl, rfl, by decide +kernel, rfl, by decide +kernel, by decide +kernel⟩
abbrev st__law_forms_right : Stmt := top 88
abbrev N__law_forms_right : List Str := ["less_so", "away_so", "bend_so", "both_so", "far_so", "got", "due", "rows_so", "own", "n_so", "told_so"]
theorem sc__law_forms_right : FnScope N__law_forms_right [] (defScope st__law_forms_right) := ⟨rfl, rfl, rfl, by decide +kernel, rfl, by decide +kernel, by decide +kernel⟩
abbrev st_law : Stmt := top 89
abbrev N_law : List Str := ["script", "lot_so"]
theorem sc_law : FnScope N_law ["script"] (defScope st_law) := ⟨rfl, rfl, rfl, by decide +kernel, rfl, by decide +kernel, by decide +kernel⟩
def cflD : Nat → Option Str := fun n => match n with  | _ => none
structure Facts (G : Glo) (mg : Str → Option Value) : Prop where
  d_is_number : Fd G.K mg st_is_number "is_number" ["thing"]
  d_tuple_of : Fd G.K mg st_tuple_of "tuple_of" ["thing"]
  d_is_tuple_of : Fd G.K mg st_is_tuple_of "is_tuple_of" ["thing", "many"]
  d_is_fraction : Fd G.K mg st_is_fraction "is_fraction" ["thing"]
  d_fraction : Fd G.K mg st_fraction "fraction" ["top", "bottom"]
  d_whole : Fd G.K mg st_whole "whole" ["number"]
  d_plus : Fd G.K mg st_plus "plus" ["x", "y"]
  d_minus : Fd G.K mg st_minus "minus" ["x", "y"]
  d_times : Fd G.K mg st_times "times" ["x", "y"]
  d_over : Fd G.K mg st_over "over" ["x", "y"]
  d__power : Fd G.K mg st__power "_power" ["number", "many"]
  d_power_of : Fd G.K mg st_power_of "power_of" ["x", "many"]
  d_sign_of : Fd G.K mg st_sign_of "sign_of" ["x"]
  d_gathered : Fd G.K mg st_gathered "gathered" ["pairs"]
  d_value_at : Fd G.K mg st_value_at "value_at" ["form", "rows"]
  d_sum_of : Fd G.K mg st_sum_of "sum_of" ["fractions"]
  d__words : Fd G.K mg st__words "_words" ["letters", "width"]
  d__is_word : Fd G.K mg st__is_word "_is_word" ["thing", "letters", "width"]
  d__are_pairs : Fd G.K mg st__are_pairs "_are_pairs" ["thing", "letters", "width"]
  d_is_gain : Fd G.K mg st_is_gain "is_gain" ["thing"]
  d__chances_by : Fd G.K mg st__chances_by "_chances_by" ["pairs", "first", "last"]
  d_is_stream : Fd G.K mg st_is_stream "is_stream" ["thing"]
  d__round : Fd G.K mg st__round "_round" ["ring", "width"]
  d__gained : Fd G.K mg st__gained "_gained" ["values", "words"]
  d_ring_gain : Fd G.K mg st_ring_gain "ring_gain" ["gain", "ring"]
  d__row_chance : Fd G.K mg st__row_chance "_row_chance" ["width", "pairs", "row"]
  d_step_gain : Fd G.K mg st_step_gain "step_gain" ["gain", "stream"]
  d__held_on : Fd G.K mg st__held_on "_held_on" ["values", "word", "width"]
  d__is_held : Fd G.K mg st__is_held "_is_held" ["gain", "held"]
  d_store : Fd G.K mg st_store "store" ["gain"]
  d_is_store : Fd G.K mg st_is_store "is_store" ["gain", "thing"]
  d_gaining_ring : Fd G.K mg st_gaining_ring "gaining_ring" ["gain"]
  d__all_bottoms : Fd G.K mg st__all_bottoms "_all_bottoms" ["fractions"]
  d__weights : Fd G.K mg st__weights "_weights" ["gain", "bound"]
  d__ring_back : Fd G.K mg st__ring_back "_ring_back" ["came", "part", "many"]
  d__chased : Fd G.K mg st__chased "_chased" ["gain", "bound"]
  d__step_round : Fd G.K mg st__step_round "_step_round" ["gain", "ring"]
  d__best_ring : Fd G.K mg st__best_ring "_best_ring" ["gain"]
  d_most_step : Fd G.K mg st_most_step "most_step" ["gain"]
  d_most_ring : Fd G.K mg st_most_ring "most_ring" ["gain"]
  d_most_store : Fd G.K mg st_most_store "most_store" ["gain", "bound"]
  d_is_most_store : Fd G.K mg st_is_most_store "is_most_store" ["gain", "bound", "thing"]
  d_ring_sum : Fd G.K mg st_ring_sum "ring_sum" ["form", "n", "rows"]
  d__at_places : Fd G.K mg st__at_places "_at_places" ["form", "places", "n", "c"]
  d__going_on : Fd G.K mg st__going_on "_going_on" ["form", "n", "c"]
  d__store_of : Fd G.K mg st__store_of "_store_of" ["form", "n", "c"]
  d_form_store : Fd G.K mg st_form_store "form_store" ["form", "n", "c"]
  d__with_number : Fd G.K mg st__with_number "_with_number" ["form", "sample", "column", "number"]
  d__rows_for : Fd G.K mg st__rows_for "_rows_for" ["form", "n", "c"]
  d_form_ring : Fd G.K mg st_form_ring "form_ring" ["form", "n", "c"]
  d__law_box : Fd G.K mg st__law_box "_law_box" ["script", "k"]
  d__law_take : Fd G.K mg st__law_take "_law_take" ["box", "size_so"]
  d__law_cells : Fd G.K mg st__law_cells "_law_cells" ["script", "top_so"]
  d__law_same : Fd G.K mg st__law_same "_law_same" ["got", "due"]
  d__law_lists : Fd G.K mg st__law_lists "_law_lists" ["matter"]
  d__law_gcd : Fd G.K mg st__law_gcd "_law_gcd" ["one_so", "two_so"]
  d__law_fr : Fd G.K mg st__law_fr "_law_fr" ["top_so", "base_so"]
  d__law_add : Fd G.K mg st__law_add "_law_add" ["one_so", "two_so"]
  d__law_mul : Fd G.K mg st__law_mul "_law_mul" ["one_so", "two_so"]
  d__law_sum : Fd G.K mg st__law_sum "_law_sum" ["bits_so"]
  d__law_turned : Fd G.K mg st__law_turned "_law_turned" ["ring_so", "wide_so"]
  d__law_gained : Fd G.K mg st__law_gained "_law_gained" ["gain_so", "ring_so"]
  d__law_is_fr : Fd G.K mg st__law_is_fr "_law_is_fr" ["matter"]
  d__law_is_ring : Fd G.K mg st__law_is_ring "_law_is_ring" ["matter", "letters_so"]
  d__law_value : Fd G.K mg st__law_value "_law_value" ["form_so", "rows_so"]
  d__law_round : Fd G.K mg st__law_round "_law_round" ["form_so", "n_so", "rows_so"]
  d__law_are_rows : Fd G.K mg st__law_are_rows "_law_are_rows" ["matter", "c_so"]
  d__law_names : Fd G.K mg st__law_names "_law_names" []
  d__law_heard : Fd G.K mg st__law_heard "_law_heard" ["door_so", "gain_so", "own"]
  d__law_things_right : Fd G.K mg st__law_things_right "_law_things_right" []
  d__law_rings_right : Fd G.K mg st__law_rings_right "_law_rings_right" []
  d__law_stores_right : Fd G.K mg st__law_stores_right "_law_stores_right" []
  d__law_most_right : Fd G.K mg st__law_most_right "_law_most_right" []
  d__law_forms_right : Fd G.K mg st__law_forms_right "_law_forms_right" []
  d_law : Fd G.K mg st_law "law" ["script"]
  n_ValueError : mg "ValueError" = none
  n_abs : mg "abs" = none
  n_all : mg "all" = none
  n_any : mg "any" = none
  n_bool : mg "bool" = none
  n_dict : mg "dict" = none
  n_enumerate : mg "enumerate" = none
  n_int : mg "int" = none
  n_isinstance : mg "isinstance" = none
  n_len : mg "len" = none
  n_list : mg "list" = none
  n_range : mg "range" = none
  n_reversed : mg "reversed" = none
  n_sorted : mg "sorted" = none
  n_str : mg "str" = none
  n_sum : mg "sum" = none
  n_tuple : mg "tuple" = none
  n_zip : mg "zip" = none
  m_gcd : mg "gcd" = some (.builtin "math.gcd")
  q_ZERO_forms : ∃ v u, mg "ZERO_forms" = some u ∧ RelV v u ∧ ∀ ρ H, RW G.K ρ H c_ZERO_forms v
  q_ZERO_sources : ∃ v u, mg "ZERO_sources" = some u ∧ RelV v u ∧ ∀ ρ H, RW G.K ρ H c_ZERO_sources v
  q_ZERO_steady : ∃ v u, mg "ZERO_steady" = some u ∧ RelV v u ∧ ∀ ρ H, RW G.K ρ H c_ZERO_steady v
  q_ONE : ∃ v u, mg "ONE" = some u ∧ RelV v u ∧ ∀ ρ H, RW G.K ρ H c_ONE v
  q_LESS : ∃ v u, mg "LESS" = some u ∧ RelV v u ∧ ∀ ρ H, RW G.K ρ H c_LESS v
  x_CanNot : (Exc0 G mg 0 "CanNot")
  e_CanNot : ExcC G.K (G.cad 0)
  x_Unfit : (Exc0 G mg 1 "Unfit")
  e_Unfit : ExcC G.K (G.cad 1)
  t_CanNot_CanNot : PySem.W.exmOne G.K (.ref (G.cad 0)) (.ref (G.cad 0)) = some true
  t_Unfit_CanNot : PySem.W.exmOne G.K (.ref (G.cad 1)) (.ref (G.cad 0)) = some false
  t_CanNot_Unfit : PySem.W.exmOne G.K (.ref (G.cad 0)) (.ref (G.cad 1)) = some false
  t_Unfit_Unfit : PySem.W.exmOne G.K (.ref (G.cad 1)) (.ref (G.cad 1)) = some true
  i_CanNot_ValueError : PySem.W.kitOne G.K (.ref (G.cad 0)) (.type "ValueError") = some true
  i_Unfit_ValueError : PySem.W.kitOne G.K (.ref (G.cad 1)) (.type "ValueError") = some true
noncomputable def E__law_take : Fn := fun ws S => two ws fun u b => kint b .stuck fun m => match u with
  | .obj i => match S.get i with
    | some (.urn n) => match m with
      | .ofNat b => match Nat.blt 0 b with
        | true => match Nat.blt b 1000000000 with
          | true => match Nat.blt n 1000000 with
            | true => S.setK i (.urn (n + 1)) fun S1 => .pick b fun r => .ok (.k (.int (.ofNat r))) S1
            | false => .stuck
          | false => .stuck
        | false => .stuck
      | .negSucc _ => .stuck
    | _ => .stuck
  | _ => .stuck

section
variable {G : Glo} {mg : Str → Option Value} {base : Heap}
theorem take_fin {C : Cf} (ok : C.Ok G) {i b n : Nat} {a : Addr} {y : Int} {W' : WX} {Q : VK} (hi : C.S.get i = some (.urn n)) (ha : C.ρ[i]? = some a) (hy : 0 ≤ y) (hy2 : y < 2 ^ 62)
    (p : Post G W' C (.pick b fun r => .ok (.k (.int (.ofNat r))) (C.S.set i (.urn (n + 1)))) (PhE G Q)) (r : Int) (x' z' : Int) (h0 : 0 ≤ r) (h1 : r < b) (hz : 0 ≤ z') (hz2 : z' ≤ (n : Int) + 1) :
    Q (.int r) (upd C.H a (.lst [.int x', .int y, .int z'])) := by
  unfold Post at p
  have p1 := p r.toNat (by omega)
  obtain ⟨ok', xx⟩ := Cf.put (v := .urn (n + 1)) (o := .lst [.int x', .int y, .int z']) ok hi ha ⟨x', y, z', rfl, hy, hy2, hz, by omega⟩
  unfold Post at p1
  have e : (.int r : V) = .int (.ofNat r.toNat) := by
    congr 1
    show r = ((r.toNat : Nat) : Int)
    omega
  rw [e]
  exact p1 ⟨C.ρ, upd C.H a (.lst [.int x', .int y, .int z']), C.S.set i (.urn (n + 1))⟩ rfl ok' xx _ mk_k
theorem take_in {vs : List V} {H : Hp} {Q : VK} {E : XK} (h : spF G E__law_take 2 vs H Q E) : ∃ (a : Addr) (b n : Nat) (x y z : Int), vs = [.ref a, .int (b : Int)] ∧ H a = some (.lst [.int x, .int y, .int z]) ∧ 0 < b ∧ b < 1000000000 ∧ n < 1000000 ∧ 0 ≤ y ∧ y < 2 ^ 62 ∧ 0 ≤ z ∧ z ≤ (n : Int) ∧
    ∀ r x' z' : Int, 0 ≤ r → r < b → 0 ≤ z' → z' ≤ (n : Int) + 1 → Q (.int r) (upd H a (.lst [.int x', .int y, .int z'])) := by
  obtain ⟨hl, C, ws, rfl, ok, rv, p⟩ := h
  unfold E__law_take at p
  obtain ⟨u, bw, v, z, rfl, r1, r2, p⟩ := post_two rv p
  obtain ⟨m, e, p⟩ := post_kint p
  rw [e] at r2
  cases u with
  | k _ => exact post_stuck p
  | tup _ => exact post_stuck p
  | mix _ => exact post_stuck p
  | pt _ => exact post_stuck p
  | obj i =>
    simp only at p
    split at p
    · rename_i n hn
      cases m with
      | negSucc _ => exact post_stuck p
      | ofNat b =>
        simp only at p
        cases q1 : Nat.blt 0 b with
        | false => simp only [q1] at p; exact post_stuck p
        | true =>
          cases q2 : Nat.blt b 1000000000 with
          | false => simp only [q1, q2] at p; exact post_stuck p
          | true =>
            cases q3 : Nat.blt n 1000000 with
            | false => simp only [q1, q2, q3] at p; exact post_stuck p
            | true =>
              simp only [q1, q2, q3, FH.setK_eq] at p
              obtain ⟨a, o, h1, h2, h3⟩ := ok.ob i _ hn
              unfold RW at r1
              obtain ⟨a', rfl, h4⟩ := r1
              rw [h1] at h4; cases h4
              cases o <;> try exact h3.elim
              rename_i vs
              obtain ⟨x, y, z', rfl, g1, g2, g3, g4⟩ : ∃ a b c : Int, vs = [.int a, .int b, .int c] ∧ 0 ≤ b ∧ b < 2 ^ 62 ∧ 0 ≤ c ∧ c ≤ (n : Int) := h3
              exact ⟨a, b, n, x, y, z', by rw [rw_int r2]; rfl, h2, blt_of q1, blt_of q2, blt_of q3, g1, g2, g3, g4, fun r x'' z'' a1 a2 a3 a4 => take_fin ok hn h1 g1 g2 p r x'' z'' a1 a2 a3 a4⟩
    · exact post_stuck p
theorem ok_take (Fd1 : Fd G.K mg st__law_take "_law_take" ["box", "size_so"]) (nI : mg "int" = none) : Def G G.P G.w mg base 1 "_law_take" ["box", "size_so"] 2 E__law_take := by
  obtain ⟨f, fd, F, m, b⟩ := Fd1
  refine def_mk F (F.okX sc__law_take (fun vs H Q E h => h.1) (fun cdv A outer s H vs Q E hr h => ?_)) rfl m b
  obtain ⟨a, b, n, x, y, z, rfl, hH, hb, hb2, hn, hy, hy2, hz, hz2, fin⟩ := take_in h
  refine ⟨_, pss_cons (ps_if (pt_cmpR op_gt (pe_ix ix_list (pv 0) pe_int (fun _ _ => rfl)) pe_int (nomark _))
      (pss_cons (ps_set (i := 2) sc__law_take.nd rfl (Or.inl rfl) (pe_op op_mod (pe_callTy call_int1 (by rfl) nI bb_int (pa_cons (pe_ix ix_list (pv 0) pe_int (fun _ _ => rfl)) pa_nil)) (pv 1)))
      (pss_cons (ps_asg (pe_op op_fdiv (pe_ix ix_list (pv 0) pe_int (fun _ _ => rfl)) (pv 1)) (pg_sub (pv 0) pe_int set_list))
      (pss_one (ps_ret (pv 2))))) pss_nil)
    (pss_cons (ps_asg (pe_op op_add (pe_ix ix_list (pv 0) pe_int (fun _ _ => rfl)) pe_int) (pg_sub (pv 0) pe_int set_list))
    (pss_cons (ps_set (i := 3) sc__law_take.nd rfl (Or.inl rfl) (pe_op op_mod (pe_callTy call_int1 (by rfl) nI bb_int (pa_cons (pe_op op_mul (pe_op op_add (pe_ix ix_list (pv 0) pe_int (fun _ _ => rfl)) (pe_op op_mul pe_int (pe_ix ix_list (pv 0) pe_int (fun _ _ => rfl)))) (pe_op op_add pe_int (pe_ix ix_list (pv 0) pe_int (fun _ _ => rfl)))) pa_nil)) pe_int))
    (pss_cons (ps_set (i := 4) sc__law_take.nd rfl (Or.inl rfl) (pe_op op_add (pe_op op_mod (pe_callTy call_int1 (by rfl) nI bb_int (pa_cons (pv 3) pa_nil)) pe_int) pe_int))
    (pss_cons (ps_set (i := 5) sc__law_take.nd rfl (Or.inl rfl) (pe_op op_mod (pe_callTy call_int1 (by rfl) nI bb_int (pa_cons (pe_op op_mul (pe_op op_add (pe_op op_add (pv 3) (pe_ix ix_list (pv 0) pe_int (fun _ _ => rfl))) (pe_op op_fdiv (pe_ix ix_list (pv 0) pe_int (fun _ _ => rfl)) pe_int)) (pv 4)) pa_nil)) pe_int))
    (pss_one (ps_ret (pe_op op_mod (pe_callTy call_int1 (by rfl) nI bb_int (pa_cons (pe_op op_fdiv (pe_op op_mod (pe_callTy call_int1 (by rfl) nI bb_int (pa_cons (pe_op op_add (pe_op op_mul (pv 5) pe_int) (pv 3)) pa_nil)) pe_int) pe_int) pa_nil)) (pv 1)))))))), ?_⟩
  have sq : SqL G.K H a [.int x, .int y, .int z] := SqL.of hH
  have e62 : (2 : Int) ^ 62 = 4611686018427387904 := by decide
  rw [e62] at hy2
  refine ⟨_, rfl, a, _, 0, _, rfl, rfl, sq, rfl, _, _, rfl, rfl, _, rfl, ?_⟩
  refine ite2 (fun hc => ?_) (fun hc => ?_)
  · -- the box is not empty
    refine ⟨_, rfl, a, _, 0, _, rfl, rfl, sq, rfl, .inl ⟨x, rfl, _, rfl, _, _, rfl, rfl, by omega, ?_⟩⟩
    refine ⟨_, rfl, a, _, 0, _, rfl, rfl, sq, rfl, _, rfl, _, _, rfl, rfl, ⟨by omega, by omega⟩, _, rfl, a, _, 0, 0, rfl, rfl, hH, rfl, ?_⟩
    refine ⟨_, rfl, ?_⟩
    exact fin _ _ z (Int.emod_nonneg _ (by omega)) (Int.emod_lt_of_pos _ (by omega)) hz (by omega)
  · refine ⟨_, rfl, a, _, 2, _, rfl, rfl, sq, rfl, _, _, rfl, rfl, _, rfl, a, _, 2, 2, rfl, rfl, hH, rfl, ?_⟩
    have sq1 : SqL G.K (upd H a (.lst [.int x, .int y, .int (z + 1)])) a [.int x, .int y, .int (z + 1)] := SqL.of upd_same
    refine ⟨_, rfl, a, _, 1, _, rfl, rfl, sq1, rfl, _, rfl, a, _, 2, _, rfl, rfl, sq1, rfl, _, _, rfl, rfl, .inl ⟨by decide, by decide⟩, _, _, rfl, rfl, _, rfl, a, _, 2, _, rfl, rfl, sq1, rfl, _, _, rfl, rfl, _, _, rfl, rfl, .inl ⟨?_, ?_⟩, .inl ⟨_, rfl, _, _, rfl, rfl, (by show (0 : Int) < _; decide), ?_⟩⟩
    · show (-18446744073709551616 : Int) < _
      omega
    · show _ < (18446744073709551616 : Int)
      omega
    generalize ho : ((y + 48271 * (z + 1)) * (39373 + (z + 1))) % 2147483647 = once
    have o1 : 0 ≤ once := by rw [← ho]; exact Int.emod_nonneg _ (by decide)
    have o2 : once < 2147483647 := by rw [← ho]; exact Int.emod_lt_of_pos _ (by decide)
    refine ⟨_, rfl, .inl ⟨_, rfl, _, _, rfl, rfl, (by show (0 : Int) < _; decide), _, _, rfl, rfl, ?_⟩⟩
    generalize hf : once % 40009 + 7 = far
    have f1 : 0 ≤ far := by omega
    have f2 : far < 50000 := by omega
    refine ⟨_, rfl, _, rfl, a, _, 2, _, rfl, rfl, sq1, rfl, _, _, rfl, rfl, _, rfl, a, _, 1, _, rfl, rfl, sq1, rfl, _, _, rfl, rfl, ⟨by decide, by decide⟩, _, _, rfl, rfl, _, rfl, _, _, rfl, rfl, .inl ⟨?_, ?_⟩, .inl ⟨_, rfl, _, _, rfl, rfl, (by show (0 : Int) < _; decide), ?_⟩⟩
    · show (-18446744073709551616 : Int) < _
      omega
    · show _ < (18446744073709551616 : Int)
      omega
    generalize ht : ((once + (z + 1) + y / 1000003) * far) % 2147483629 = twice
    have t1 : 0 ≤ twice := by rw [← ht]; exact Int.emod_nonneg _ (by decide)
    have t2 : twice < 2147483629 := by rw [← ht]; exact Int.emod_lt_of_pos _ (by decide)
    refine ⟨_, rfl, _, _, rfl, rfl, .inl ⟨?_, ?_⟩, _, rfl, _, _, rfl, rfl, .inl ⟨_, rfl, _, _, rfl, rfl, (by show (0 : Int) < _; decide), _, _, rfl, rfl, ⟨by decide, by decide⟩, .inl ⟨_, rfl, _, rfl, _, _, rfl, rfl, by omega, ?_⟩⟩⟩
    · show (-18446744073709551616 : Int) < _
      omega
    · show _ < (18446744073709551616 : Int)
      omega
    exact fin _ x (z + 1) (Int.emod_nonneg _ (by omega)) (Int.emod_lt_of_pos _ (by omega)) (by omega) (by omega)
/-! ### the box -/
theorem at_map {ms : List Int} {k : Int} (h0 : 0 ≤ k) (h1 : k < (ms.length : Int)) : ∃ c : Int, atI (ms.map V.int) k = some (.int c) := by
  have hl : k.toNat < ms.length := by omega
  refine ⟨ms[k.toNat], ?_⟩
  unfold atI ixN
  rw [if_pos h0, List.length_map, if_pos h1]
  show (ms.map V.int)[k.toNat]? = _
  rw [List.getElem?_map, List.getElem?_eq_getElem hl]
  rfl
theorem b01 (b : Bool) : -(2 ^ 64) < (if b = true then (1 : Int) else 0) ∧ (if b = true then (1 : Int) else 0) < 2 ^ 64 := by cases b <;> decide
theorem fn_box {f : Addr} {fd : FuncData} (F : Fun G.K "_law_box" "_law_box" st__law_box f fd) (nI : mg "int" = none) (nL : mg "len" = none) (nA : mg "abs" = none) : FnOk G.P G.w G.K mg base (L2.CX G.P G.w) 1 f fd ["script", "k"] (spBox G.K) := by
  refine F.okX sc__law_box (fun vs H Q E h => ?_) (fun cdv A outer s H vs Q E hr h => ?_)
  · obtain ⟨p, ms, k, rfl, _⟩ := h
    rfl
  obtain ⟨p, ms, k, rfl, hS, hk, hk2, fin⟩ := h
  refine ⟨_, pss_cons (ps_set (i := 2) sc__law_box.nd rfl (Or.inl rfl) (pe_ifExp (pt_cmpR op_lt (pv 1) (pe_callB call_len_seq (by rfl) nL bb_len (pa_cons (pv 0) pa_nil)) (nomark _)) (pe_ix ix_list (pv 0) (pv 1) (fun _ _ => rfl)) pe_int))
    (pss_one (ps_ret (pe_lst (pa_cons (pe_op op_mul (pe_callB call_abs (by rfl) nA bb_abs (pa_cons (pv 2) pa_nil)) (pe_callTy call_int1 (by rfl) nI bb_int (pa_cons (pe_cmpR op_ge (pe_callB call_abs (by rfl) nA bb_abs (pa_cons (pv 2) pa_nil)) (pe_op op_pow pe_int pe_int) (nomark _)) pa_nil)))
      (pa_cons (pe_op op_add (pe_op op_add (pe_op op_mod (pe_callTy call_int1 (by rfl) nI bb_int (pa_cons (pv 2) pa_nil)) pe_int) (pe_op op_mul pe_int (pv 1))) pe_int) (pa_cons pe_int pa_nil)))))), ?_⟩
  have rest : ∀ (c : Int), ∃ x y : Int, 0 ≤ y ∧ y < 2 ^ 62 ∧ x = (if c < 0 then -c else c) * (if decide ((10 : Int) ^ (18 : Int).toNat ≤ (if c < 0 then -c else c)) = true then 1 else 0) ∧ y = c % 2305843009213693951 + 39373 * k + 1315490 := fun c => by
    have e62 : (2 : Int) ^ 62 = 4611686018427387904 := by decide
    have h1 := Int.emod_nonneg c (by decide : (2305843009213693951 : Int) ≠ 0)
    have h2 := Int.emod_lt_of_pos c (by decide : (0 : Int) < 2305843009213693951)
    exact ⟨_, _, by omega, by rw [e62]; omega, rfl, rfl⟩
  refine ⟨_, rfl, _, rfl, p, _, rfl, .inl hS, _, _, rfl, rfl, _, rfl, ?_⟩
  refine ite2 (fun hc => ?_) (fun hc => ?_)
  · have hc := of_decide_eq_true hc
    rw [List.length_map] at hc
    obtain ⟨c, hcat⟩ := at_map hk hc
    obtain ⟨x, y, y0, y1, rfl, rfl⟩ := rest c
    refine ⟨_, rfl, _, rfl, p, _, k, _, rfl, rfl, hS, hcat, ?_⟩
    refine ⟨_, rfl, c, rfl, _, rfl, c, rfl, _, _, rfl, rfl, ⟨by decide, by decide, by decide⟩, _, _, rfl, rfl, .inr ⟨_, rfl, _, _, rfl, rfl, .inr (b01 _), _, rfl, .inl ⟨_, rfl, _, _, rfl, rfl, (by show (0 : Int) < _; decide), _, rfl, _, _, rfl, rfl, .inl ⟨by decide, by decide⟩, _, _, rfl, rfl, _, _, rfl, rfl, (by show 3 ≤ sizeLine; rw [sizeLine_eq]; omega), fun u hu => ?_⟩⟩⟩
    exact fin u _ _ hu y0 y1
  · obtain ⟨x, y, y0, y1, rfl, rfl⟩ := rest 0
    refine ⟨_, rfl, 0, rfl, _, rfl, 0, rfl, _, _, rfl, rfl, ⟨by decide, by decide, by decide⟩, _, _, rfl, rfl, .inr ⟨_, rfl, _, _, rfl, rfl, .inr (b01 _), _, rfl, .inl ⟨_, rfl, _, _, rfl, rfl, (by show (0 : Int) < _; decide), _, rfl, _, _, rfl, rfl, .inl ⟨by decide, by decide⟩, _, _, rfl, rfl, _, _, rfl, rfl, (by show 3 ≤ sizeLine; rw [sizeLine_eq]; omega), fun u hu => ?_⟩⟩⟩
    exact fin u _ _ hu y0 y1
/-! ### the cells -/
theorem cut_map (ns : List Int) (lo hi : Option Int) : cutV (ns.map V.int) lo hi = ((ns.drop (HT.sIx ns.length 0 lo)).take (HT.sIx ns.length ns.length hi - HT.sIx ns.length 0 lo)).map V.int := by
  unfold cutV
  rw [List.length_map, List.map_take, List.map_drop]
theorem set_map (ms : List Int) (j : Nat) (c : Int) : (ms.map V.int).set j (.int c) = (ms.set j c).map V.int := by rw [List.map_set]
theorem fn_cells {f : Addr} {fd : FuncData} (F : Fun G.K "_law_cells" "_law_cells" st__law_cells f fd) (nI : mg "int" = none) (nL : mg "list" = none) (nE : mg "enumerate" = none) : FnOk G.P G.w G.K mg base (L2.CX G.P G.w) 1 f fd ["script", "top_so"] (spCells G.K) := by
  refine F.okX sc__law_cells (fun vs H Q E h => ?_) (fun cdv A outer s H vs Q E hr h => ?_)
  · obtain ⟨a, ns, m, rfl, _⟩ := h
    rfl
  obtain ⟨a, ns, m, rfl, hS, h63, hm, hm2, fin⟩ := h
  have po := passes_of (X := cxB G.P G.w G.K mg base N__law_cells "_law_cells" (defScope st__law_cells) f cdv A outer s H E) rfl
  refine ⟨_, pss_cons (ps_set (i := 2) sc__law_cells.nd rfl (Or.inl rfl) (pe_orT (pe_callTy call_list_of (by rfl) nL bb_list (pa_cons (pe_slice sl_list (pv 0) po_none (po_some (pv 1))) pa_nil)) (pe_one (pe_lst (pa_cons pe_int pa_nil)))))
    (pss_cons (ps_for po rfl (pi_enum (by rfl) nE (pa_cons (pe_slice sl_list (pv 0) (po_some (pv 1)) (po_some pe_int)) pa_nil)) (pg_tup rfl (pgs_cons (pg_name (i := 3) sc__law_cells.nd rfl (Or.inl rfl)) (pgs_cons (pg_name (i := 4) sc__law_cells.nd rfl (Or.inl rfl)) pgs_nil)))
      (pss_cons (ps_set (i := 5) sc__law_cells.nd rfl (Or.inl rfl) (pe_op op_mod (pe_callTy call_int1 (by rfl) nI bb_int (pa_cons (pv 3) pa_nil)) (pv 1)))
      (pss_one (ps_asg (pe_op op_add (pe_ix ix_list (pv 2) (pv 5) (fun _ _ => rfl)) (pe_op op_mul (pv 4) (pe_op op_add (pv 3) pe_int))) (pg_sub (pv 2) (pv 5) set_list)))))
    (pss_one (ps_ret (pv 2)))), ?_⟩
  have e62 : (2 : Int) ^ 62 = 4611686018427387904 := by decide
  have hmn : ∃ mn : Nat, m = (mn : Int) := ⟨m.toNat, by omega⟩
  obtain ⟨mn, rfl⟩ := hmn
  refine ⟨_, rfl, _, rfl, (mn : Int), rfl, a, _, rfl, hS, fun p hp => ⟨p, _, rfl, .inl (SqL.of upd_same), fun l hl => ?_⟩⟩
  rw [cut_map] at hl ⊢
  have hcut : (ns.drop (HT.sIx ns.length 0 none)).take (HT.sIx ns.length ns.length (some (mn : Int)) - HT.sIx ns.length 0 none) = ns.take mn := by
    rw [HT.sIx_none, HT.sIx_nat, List.drop_zero]
    show ns.take (min mn ns.length - 0) = _
    rw [Nat.sub_zero]
    by_cases q : mn ≤ ns.length
    · rw [Nat.min_eq_left q]
    · rw [Nat.min_eq_right (by omega), List.take_of_length_le (Nat.le_refl _), List.take_of_length_le (by omega)]
  rw [hcut] at hl ⊢
  have npl : p ≠ l := fun z => by rw [← z, upd_same] at hl; cases hl
  have k1 : ∀ b o, H b = some o → upd (upd H p (.lst ((ns.take mn).map V.int))) l (.lst ((ns.take mn).map V.int)) b = some o := fun b o e => by
    have e1 : upd H p (.lst ((ns.take mn).map V.int)) b = some o := by rw [upd_ne (ne_of_none e hp)]; exact e
    rw [upd_ne (ne_of_none e1 hl)]; exact e1
  have hlH : H l = none := by
    rw [upd_ne (Ne.symm npl)] at hl; exact hl
  refine ⟨!(ns.take mn).isEmpty, .inl ⟨_, SqL.of upd_same, ?_⟩, ?_⟩
  · cases ns.take mn <;> rfl
  -- the loop and the end, from a fresh list c of ints ms
  have core : ∀ {α : Prop} (h : α), α := fun h => h
  have go : ∀ (c : Addr) (ms : List Int) (H1 : Hp), H c = none → H1 c = some (.lst (ms.map V.int)) → ms ≠ [] → ms.length ≤ mn → (∀ b o, H b = some o → H1 b = some o) → (mn < ns.length → ms.length = mn) →
      ∀ (D : Ends), (∀ σ H', D.nx σ H' = (∃ v, σ[2]? = some (some v) ∧ Q v H')) →
      tFor (iEnum G.K (tCons (tSl (rSlL G.K) (tVar 0) (tPart (tVar 1)) (tPart (tC (.int 63)))) tNil)) (gTup G.K 2 (gCons (gName 3) (gCons (gName 4) gNil)))
        (fun D σ H => tOp (rI (fun _ j => 0 < j) fun i j => .int (i % j)) (tCB (fun xs H Q => (∃ i, xs = [.int i] ∧ Q (.int i) H) ∨ ∃ k, xs = [.bl k] ∧ Q (.int (if k = true then 1 else 0)) H) (tCons (tVar 3) tNil)) (tVar 1) σ H fun x H1 =>
          tOp (rI0 fun i j => .int (i + j)) (tOp (rIxL G.K) (tVar 2) (tVar 5)) (tOp (rI CMul fun i j => .int (i * j)) (tVar 4) (tOp (rI0 fun i j => .int (i + j)) (tVar 3) (tC (.int 2)))) (σ.set 5 (some x)) H1 fun y H2 => gSub (tVar 2) (tVar 5) rSetL y (σ.set 5 (some x)) H2 D.nx)
        D [some (.ref a), some (.int (mn : Int)), some (.ref c), none, none, none] H1 := by
    intro c ms H1 hc hc1 hne hle hk hlen D hD
    have hS1 : SqL G.K H1 a (ns.map V.int) := by
      rcases hS with (h | ⟨o, h⟩) | h
      · exact .inl (.inl (hk _ _ h))
      · exact .inl (.inr ⟨o, hk _ _ h⟩)
      · exact .inr h
    refine ⟨_, rfl, _, rfl, (mn : Int), rfl, 63, rfl, a, _, rfl, hS1, fun e he => ?_⟩
    rw [cut_map]
    generalize hes : (ns.drop (HT.sIx ns.length 0 (some (mn : Int)))).take (HT.sIx ns.length ns.length (some 63) - HT.sIx ns.length 0 (some (mn : Int))) = es
    have hesl : 0 < es.length → mn < ns.length := fun h => by
      rw [← hes, HT.sIx_nat, List.length_take, List.length_drop] at h
      omega
    refine ⟨e, _, rfl, SqL.of upd_same, ?_⟩
    refine ⟨fun i mm σ H' => mm + i = es.length ∧ ∃ (x3 x4 x5 : Option V) (ms' : List Int), σ = [some (.ref a), some (.int (mn : Int)), some (.ref c), x3, x4, x5] ∧ H' c = some (.lst (ms'.map V.int)) ∧ ms'.length = ms.length ∧ H' e = some (.lst (es.map V.int)) ∧ (∀ b o, H b = some o → H' b = some o), ⟨es.length, rfl, none, none, none, ms, rfl, ?_, rfl, upd_same, fun b o z => ?_⟩, ?_⟩
    · rw [upd_ne (ne_of_none hc1 he)]; exact hc1
    · rw [upd_ne (ne_of_none (hk b o z) he)]; exact hk b o z
    rintro i mm σ H' ⟨hm', x3, x4, x5, ms', rfl, h1, h2, h3, h4⟩
    have sqe : SqL G.K H' e (es.map V.int) := SqL.of h3
    by_cases hi : i < es.length
    · have hat : (es.map V.int)[i]? = some (.int es[i]) := by rw [List.getElem?_map, List.getElem?_eq_getElem hi]; rfl
      refine .inr ⟨⟨_, _, sqe, hat⟩, fun σ' H'' => (mm - 1) + (i + 1) = es.length ∧ ∃ (x3 x4 x5 : Option V) (ms' : List Int), σ' = [some (.ref a), some (.int (mn : Int)), some (.ref c), x3, x4, x5] ∧ H'' c = some (.lst (ms'.map V.int)) ∧ ms'.length = ms.length ∧ H'' e = some (.lst (es.map V.int)) ∧ (∀ b o, H b = some o → H'' b = some o), fun σ' H'' z => ⟨mm - 1, by omega, z⟩, ?_⟩
      rintro x H'' ⟨T, y, rfl, hT, rfl, hy⟩
      have hy' := hy _ sqe
      rw [hat] at hy'
      cases hy'
      have g1 : upd H' T (.tup [.int (i : Nat), .int es[i]]) c = some (.lst (ms'.map V.int)) := by rw [upd_ne (ne_of_none h1 hT)]; exact h1
      have g3 : upd H' T (.tup [.int (i : Nat), .int es[i]]) e = some (.lst (es.map V.int)) := by rw [upd_ne (ne_of_none h3 hT)]; exact h3
      have nce : c ≠ e := fun z => by rw [z, he] at hc1; cases hc1
      have hml : ms'.length = mn := by rw [h2]; exact hlen (hesl (by omega))
      have hk0 : 0 ≤ ((i : Nat) : Int) % (mn : Int) := Int.emod_nonneg _ (by omega)
      have hk1 : ((i : Nat) : Int) % (mn : Int) < (mn : Int) := Int.emod_lt_of_pos _ (by omega)
      obtain ⟨cv, hcv⟩ := at_map (ms := ms') hk0 (by omega)
      have hix : ixN (ms'.map V.int).length (((i : Nat) : Int) % (mn : Int)) = some ((((i : Nat) : Int) % (mn : Int)).toNat) := by
        unfold ixN
        rw [if_pos hk0, List.length_map, if_pos (by omega)]
      refine ⟨T, _, rfl, SqT.of upd_same, rfl, _, _, rfl, _, _, rfl, rfl, ?_⟩
      refine ⟨_, rfl, .inl ⟨_, rfl, _, rfl, _, _, rfl, rfl, (by show (0 : Int) < _; omega), ?_⟩⟩
      refine ⟨_, rfl, _, rfl, c, _, _, _, rfl, rfl, SqL.of g1, hcv, _, rfl, _, rfl, _, _, rfl, rfl, _, _, rfl, rfl, .inr ⟨?_, ?_⟩, _, _, rfl, rfl, _, rfl, _, rfl, c, _, _, _, rfl, rfl, g1, hix, ?_⟩
      · show (-18446744073709551616 : Int) < _
        omega
      · show _ < (18446744073709551616 : Int)
        have : ns.length ≤ 63 := h63
        have : es.length ≤ ns.length := by rw [← hes, List.length_take, List.length_drop]; omega
        omega
      refine ⟨by omega, _, _, _, ms'.set (((i : Nat) : Int) % (mn : Int)).toNat (cv + es[i] * (((i : Nat) : Int) + 2)), rfl, ?_, ?_, ?_, fun b o z => ?_⟩
      · rw [upd_same, ← set_map]
      · rw [List.length_set]; exact h2
      · rw [upd_ne (Ne.symm nce)]; exact g3
      · have nbc : b ≠ c := ne_of_none z hc
        rw [upd_ne nbc, upd_ne (ne_of_none (h4 b o z) hT)]
        exact h4 b o z
    · refine .inl ⟨⟨_, sqe, by rw [List.length_map]; omega⟩, ?_⟩
      rw [hD]
      exact ⟨_, rfl, fin c ms' H' hc h1 (fun z => by rw [z] at h2; exact hne (List.eq_nil_of_length_eq_zero h2.symm)) (by rw [h2]; exact Int.ofNat_le.mpr hle) h4⟩
  cases hemp : (ns.take mn).isEmpty with
  | false =>
    refine iteT ?_
    refine go l (ns.take mn) _ hlH upd_same (fun z => by rw [z] at hemp; cases hemp) (by rw [List.length_take]; omega) k1 (fun h => by rw [List.length_take]; omega) _ fun _ _ => rfl
  | true =>
    refine iteF ⟨by show 1 ≤ sizeLine; rw [sizeLine_eq]; omega, fun q hq => ?_⟩
    have hqH : H q = none := by
      cases z : H q with
      | none => rfl
      | some o => rw [k1 q o z] at hq; cases hq
    refine go q [0] _ hqH upd_same (by simp) (by show 1 ≤ mn; omega) (fun b o z => by rw [upd_ne (ne_of_none (k1 b o z) hq)]; exact k1 b o z) (fun h => ?_) _ fun _ _ => rfl
    have : (ns.take mn).length = 0 := by
      cases z : ns.take mn with
      | nil => rfl
      | cons _ _ => rw [z] at hemp; cases hemp
    rw [List.length_take] at this
    omega
end

section
variable {G : Glo} {mg : Str → Option Value} {base : Heap}
theorem only_CanNot {c : Nat} (h : lookB [true, false] c = some true) : c = 0 := by
  match c, h with
  | 0, h => first | rfl | cases h
  | 1, h => first | rfl | cases h
  | n + 2, h => cases h
theorem ex_CanNot (Fx : Facts G mg) : ∀ c b, lookB [true, false] c = some b → PySem.W.exmOne G.K (.ref (G.cad c)) (.ref (G.cad 0)) = some b := fun c b h => by
  match c, h with
  | 0, h => cases h; exact Fx.t_CanNot_CanNot
  | 1, h => cases h; exact Fx.t_Unfit_CanNot
  | n + 2, h => cases h
theorem only_Unfit {c : Nat} (h : lookB [false, true] c = some true) : c = 1 := by
  match c, h with
  | 0, h => first | rfl | cases h
  | 1, h => first | rfl | cases h
  | n + 2, h => cases h
theorem ex_Unfit (Fx : Facts G mg) : ∀ c b, lookB [false, true] c = some b → PySem.W.exmOne G.K (.ref (G.cad c)) (.ref (G.cad 1)) = some b := fun c b h => by
  match c, h with
  | 0, h => cases h; exact Fx.t_CanNot_Unfit
  | 1, h => cases h; exact Fx.t_Unfit_Unfit
  | n + 2, h => cases h
theorem ok__law_take (Fx : Facts G mg) : Def G G.P G.w mg base 1 "_law_take" ["box", "size_so"] 2 E__law_take := ok_take Fx.d__law_take Fx.n_int
noncomputable def B_is_number : Evs := (esRet (evAnd (evIsi [0] (evVar 0)) (evNot (evIsi [1] (evVar 0)))))
noncomputable def E_is_number : Fn := evFun B_is_number 1
theorem ok_is_number (Fx : Facts G mg) : Def G G.P G.w mg base 1 "is_number" ["thing"] 1 E_is_number := by
  obtain ⟨f, fd, F, m, b⟩ := Fx.d_is_number
  refine def_mk F (fn_ok (k := 0) F sc_is_number B_is_number (fun cdv A outer s H E hr => ?_)) rfl m b
  have hx : Okx G (cxB G.P G.w G.K mg base N_is_number "is_number" (defScope st_is_number) f cdv A outer s H E) := ⟨rfl, rfl, un_of hr, rfl, rfl⟩
  have hd : Dfx (cxB G.P G.w G.K mg base N_is_number "is_number" (defScope st_is_number) f cdv A outer s H E) := ⟨rfl, rfl⟩
  have tk : Takes (cxB G.P G.w G.K mg base N_is_number "is_number" (defScope st_is_number) f cdv A outer s H E) (WE' E) := takes_of rfl rfl rfl rfl
  have po := passes_of (X := cxB G.P G.w G.K mg base N_is_number "is_number" (defScope st_is_number) f cdv A outer s H E) rfl
  exact (ss_one (ss_ret (se_and hx.k (se_isi (c := 0) hx (sv 0) (pe_bltn (by rfl) Fx.n_int bb_int rfl) (by decide) (by rfl) Fx.n_isinstance) (se_one (se_not hx.k (se_isi (c := 1) hx (sv 0) (pe_bltn (by rfl) Fx.n_bool bb_bool rfl) (by decide) (by rfl) Fx.n_isinstance))))))
noncomputable def B_tuple_of (r : Fn) : Evs := (esSeq (esIf (etTru (evIsi [3, 4] (evVar 0)))
  (esRet (evCB cTupP (eaCons (evLx (eiSeq2 (evVar 0)) (tgName 1) etYes (evCl true 1 r (eaCons (evVar 1) eaNil)) [1]) eaNil)))
  esNil)
  (esRet (evVar 0)))
noncomputable def E_tuple_of (d : Nat) : Fn := Nat.rec (motive := fun _ => Fn) (evFun (fun _ _ => .stuck) 2) (fun _ ih => evFun (B_tuple_of ih) 2) d
theorem okr_tuple_of (Fx : Facts G mg) : ∀ d : Nat, Def G G.P G.w mg base (1 + d) "tuple_of" ["thing"] 1 (E_tuple_of d)
  | 0 => by
    obtain ⟨f, fd, F, m, b⟩ := Fx.d_tuple_of
    exact def_mk F (fn_ok (k := 0) F sc_tuple_of _ (fun cdv A outer s H E hr => ss_stuck)) rfl m b
  | d + 1 => by
    have ih : Def G G.P G.w mg base (1 + d) "tuple_of" ["thing"] 1 (E_tuple_of d) := okr_tuple_of Fx d
    obtain ⟨f, fd, F, m, b⟩ := Fx.d_tuple_of
    refine def_mk F (fn_ok (k := 1 + d) F sc_tuple_of (B_tuple_of (E_tuple_of d)) (fun cdv A outer s H E hr => ?_)) rfl m b
    have hx : Okx G (cxB G.P G.w G.K mg base N_tuple_of "tuple_of" (defScope st_tuple_of) f cdv A outer s H E) := ⟨rfl, rfl, un_of hr, rfl, rfl⟩
    have hd : Dfx (cxB G.P G.w G.K mg base N_tuple_of "tuple_of" (defScope st_tuple_of) f cdv A outer s H E) := ⟨rfl, rfl⟩
    have tk : Takes (cxB G.P G.w G.K mg base N_tuple_of "tuple_of" (defScope st_tuple_of) f cdv A outer s H E) (WE' E) := takes_of rfl rfl rfl rfl
    have po := passes_of (X := cxB G.P G.w G.K mg base N_tuple_of "tuple_of" (defScope st_tuple_of) f cdv A outer s H E) rfl
    exact (ss_cons (ss_if (st_tru hx.k (se_isiT (cs := [3, 4]) hx (sv 0) (pa_cons (pe_bltn (by rfl) Fx.n_list bb_list rfl) (pa_cons (pe_bltn (by rfl) Fx.n_tuple bb_tuple rfl) pa_nil)) (by decide) (by decide) (by rfl) Fx.n_isinstance) (fun _ => rfl))
  (ss_one (ss_ret (se_callTy (cx_tupP hx) (by rfl) Fx.n_tuple bb_tuple (sa_cons (se_lx (own := [("part", 1)]) hd tk hx.calm sc_tuple_of.nd (si_seq2 hx (sv 0)) (blkOk_by (N := N_tuple_of) (sc := defScope st_tuple_of) (own := [("part", 1)]) (by decide +kernel)) (kk_name 1) (by decide) (fun _ _ _ _ _ _ => (pg_name (i := 1) sc_tuple_of.nd rfl (by first | exact Or.inl rfl | exact Or.inr rfl))) (fun _ _ _ _ _ _ _ tk => sts_nil) (fun _ _ _ _ _ _ _ tk => (se_cl true (hx.blk) ih (hr.mono (Nat.le_refl _)) (by rfl) tk (sa_cons (sv 1) sa_nil)))) sa_nil))))
  ss_nil)
  (ss_one (ss_ret (sv 0))))
theorem ok_tuple_of (Fx : Facts G mg) : Def G G.P G.w mg base 12 "tuple_of" ["thing"] 1 (E_tuple_of 11) := okr_tuple_of Fx 11
noncomputable def B_is_tuple_of : Evs := (esRet (evAnd (evIsi [4] (evVar 0)) (evBin gEq (evCB (cLenD cLen) (eaCons (evVar 0) eaNil)) (evVar 1))))
noncomputable def E_is_tuple_of : Fn := evFun B_is_tuple_of 2
theorem ok_is_tuple_of (Fx : Facts G mg) : Def G G.P G.w mg base 1 "is_tuple_of" ["thing", "many"] 2 E_is_tuple_of := by
  obtain ⟨f, fd, F, m, b⟩ := Fx.d_is_tuple_of
  refine def_mk F (fn_ok (k := 0) F sc_is_tuple_of B_is_tuple_of (fun cdv A outer s H E hr => ?_)) rfl m b
  have hx : Okx G (cxB G.P G.w G.K mg base N_is_tuple_of "is_tuple_of" (defScope st_is_tuple_of) f cdv A outer s H E) := ⟨rfl, rfl, un_of hr, rfl, rfl⟩
  have hd : Dfx (cxB G.P G.w G.K mg base N_is_tuple_of "is_tuple_of" (defScope st_is_tuple_of) f cdv A outer s H E) := ⟨rfl, rfl⟩
  have tk : Takes (cxB G.P G.w G.K mg base N_is_tuple_of "is_tuple_of" (defScope st_is_tuple_of) f cdv A outer s H E) (WE' E) := takes_of rfl rfl rfl rfl
  have po := passes_of (X := cxB G.P G.w G.K mg base N_is_tuple_of "is_tuple_of" (defScope st_is_tuple_of) f cdv A outer s H E) rfl
  exact (ss_one (ss_ret (se_and hx.k (se_isi (c := 4) hx (sv 0) (pe_bltn (by rfl) Fx.n_tuple bb_tuple rfl) (by decide) (by rfl) Fx.n_isinstance) (se_one (se_cop (ox_eq hx) (se_callB (cx_lenD hx (cx_len hx)) (by rfl) Fx.n_len bb_len (sa_cons (sv 0) sa_nil)) (sv 1) rfl)))))
noncomputable def B_is_fraction : Evs := (esSeq (esIf (etOr (etNot (etTru (evIsi [4] (evVar 0)))) (etBin gNe (evCB (cLenD cLen) (eaCons (evVar 0) eaNil)) (evK (.int 2))))
  (esRet (evK (.bl false)))
  esNil)
  (esSeq (esAsg (evVar 0) (tgAny 2 (tgCons (tgName 1) (tgCons (tgName 2) tgNil))))
  (esRet (evAnd (evCl true 1 E_is_number (eaCons (evVar 1) eaNil)) (evAnd (evCl true 1 E_is_number (eaCons (evVar 2) eaNil)) (evAnd (evBin gGt2 (evVar 2) (evK (.int 0))) (evBin gEq (evCB cGcd (eaCons (evVar 1) (eaCons (evVar 2) eaNil))) (evK (.int 1)))))))))
noncomputable def E_is_fraction : Fn := evFun B_is_fraction 3
theorem ok_is_fraction (Fx : Facts G mg) : Def G G.P G.w mg base 2 "is_fraction" ["thing"] 1 E_is_fraction := by
  obtain ⟨f, fd, F, m, b⟩ := Fx.d_is_fraction
  refine def_mk F (fn_ok (k := 1) F sc_is_fraction B_is_fraction (fun cdv A outer s H E hr => ?_)) rfl m b
  have hx : Okx G (cxB G.P G.w G.K mg base N_is_fraction "is_fraction" (defScope st_is_fraction) f cdv A outer s H E) := ⟨rfl, rfl, un_of hr, rfl, rfl⟩
  have hd : Dfx (cxB G.P G.w G.K mg base N_is_fraction "is_fraction" (defScope st_is_fraction) f cdv A outer s H E) := ⟨rfl, rfl⟩
  have tk : Takes (cxB G.P G.w G.K mg base N_is_fraction "is_fraction" (defScope st_is_fraction) f cdv A outer s H E) (WE' E) := takes_of rfl rfl rfl rfl
  have po := passes_of (X := cxB G.P G.w G.K mg base N_is_fraction "is_fraction" (defScope st_is_fraction) f cdv A outer s H E) rfl
  exact (ss_cons (ss_if (st_w (sw_or (st_not (st_tru hx.k (se_isi (c := 4) hx (sv 0) (pe_bltn (by rfl) Fx.n_tuple bb_tuple rfl) (by decide) (by rfl) Fx.n_isinstance) (fun _ => rfl))) (sw_or1 (st_cop (ox_ne hx) (se_callB (cx_lenD hx (cx_len hx)) (by rfl) Fx.n_len bb_len (sa_cons (sv 0) sa_nil)) si rfl))))
  (ss_one (ss_ret (se_k pe_bl)))
  ss_nil)
  (ss_cons (ss_asg (sv 0) (tg_any hx (tgs_cons (tg_name (pg_name (i := 1) sc_is_fraction.nd rfl (by first | exact Or.inl rfl | exact Or.inr rfl))) (tgs_cons (tg_name (pg_name (i := 2) sc_is_fraction.nd rfl (by first | exact Or.inl rfl | exact Or.inr rfl))) tgs_nil))))
  (ss_one (ss_ret (se_and hx.k (se_cl true hx (ok_is_number Fx) (hr.mono (by decide)) (by rfl) tk (sa_cons (sv 1) sa_nil)) (se_and hx.k (se_cl true hx (ok_is_number Fx) (hr.mono (by decide)) (by rfl) tk (sa_cons (sv 2) sa_nil)) (se_and hx.k (se_cop (ox_gt2 hx) (sv 2) si rfl) (se_one (se_cop (ox_eq hx) (se_callG (cx_gcd) (by rfl) Fx.m_gcd (sa_cons (sv 1) (sa_cons (sv 2) sa_nil))) si rfl)))))))))
noncomputable def B_fraction : Evs := (esSeq (esIf (etBin gEq (evVar 1) (evK (.int 0)))
  (esRaise0 1)
  esNil)
  (esSeq (esSet 2 (evCB cGcd (eaCons (evVar 0) (eaCons (evVar 1) eaNil))))
  (esSeq (esIf (etBin gLt (evVar 1) (evK (.int 0)))
  (esSet 2 (evNeg (evVar 2)))
  esNil)
  (esRet (evTup (eaCons (evBin gDiv (evVar 0) (evVar 2)) (eaCons (evBin gDiv (evVar 1) (evVar 2)) eaNil)))))))
noncomputable def E_fraction : Fn := evFun B_fraction 3
theorem ok_fraction (Fx : Facts G mg) : Def G G.P G.w mg base 1 "fraction" ["top", "bottom"] 2 E_fraction := by
  obtain ⟨f, fd, F, m, b⟩ := Fx.d_fraction
  refine def_mk F (fn_ok (k := 0) F sc_fraction B_fraction (fun cdv A outer s H E hr => ?_)) rfl m b
  have hx : Okx G (cxB G.P G.w G.K mg base N_fraction "fraction" (defScope st_fraction) f cdv A outer s H E) := ⟨rfl, rfl, un_of hr, rfl, rfl⟩
  have hd : Dfx (cxB G.P G.w G.K mg base N_fraction "fraction" (defScope st_fraction) f cdv A outer s H E) := ⟨rfl, rfl⟩
  have tk : Takes (cxB G.P G.w G.K mg base N_fraction "fraction" (defScope st_fraction) f cdv A outer s H E) (WE' E) := takes_of rfl rfl rfl rfl
  have po := passes_of (X := cxB G.P G.w G.K mg base N_fraction "fraction" (defScope st_fraction) f cdv A outer s H E) rfl
  exact (ss_cons (ss_if (st_cop (ox_eq hx) (sv 1) si rfl)
  (ss_one (ss_raise0 (c := 1) hx tk Fx.x_Unfit (by rfl)))
  ss_nil)
  (ss_cons (ss_set (i := 2) sc_fraction.nd rfl (by first | exact Or.inl rfl | exact Or.inr rfl) (se_callG (cx_gcd) (by rfl) Fx.m_gcd (sa_cons (sv 0) (sa_cons (sv 1) sa_nil))))
  (ss_cons (ss_if (st_cop (ox_lt) (sv 1) si rfl)
  (ss_one (ss_set (i := 2) sc_fraction.nd rfl (by first | exact Or.inl rfl | exact Or.inr rfl) (se_neg (sv 2))))
  ss_nil)
  (ss_one (ss_ret (se_tup (sa_cons (se_bop (ox_div) (sv 0) (sv 2)) (sa_cons (se_bop (ox_div) (sv 1) (sv 2)) sa_nil))))))))
abbrev T2 (a b : Int) : W := .tup [.k (.int a), .k (.int b)]
noncomputable def mulC {α : Type} (a c : Int) (k : Int → Res α) : Res α := match Nat.blt (a.natAbs.log2 + c.natAbs.log2) 1000000 with
  | true => fInt (Int.mul a c) k
  | false => .stuck
theorem gMul_int {a c : Int} {S : FH} : gMul (.k (.int a)) (.k (.int c)) S = mulC a c fun r => .ok (.k (.int r)) S := rfl
theorem gAdd_int {a c : Int} {S : FH} : gAdd (.k (.int a)) (.k (.int c)) S = fInt (Int.add a c) fun r => .ok (.k (.int r)) S := rfl
theorem gSub_int {a c : Int} {S : FH} : gSub (.k (.int a)) (.k (.int c)) S = fInt (Int.sub a c) fun r => .ok (.k (.int r)) S := rfl
theorem mulC_bnd {α β : Type} {a c : Int} {k : Int → Res α} {f : α → FH → Res β} : (mulC a c k).bnd f = mulC a c fun r => (k r).bnd f := by
  unfold mulC
  cases Nat.blt (a.natAbs.log2 + c.natAbs.log2) 1000000 with
  | true => simp only [fInt_eq]
  | false => rfl
theorem fInt_bnd {α β : Type} {a : Int} {k : Int → Res α} {f : α → FH → Res β} : (fInt a k).bnd f = fInt a fun r => (k r).bnd f := by simp only [fInt_eq]
theorem ix0 {a b : W} {S : FH} : gIx (.tup [a, b]) (.k (.int 0)) S = .ok a S := rfl
theorem ix1 {a b : W} {S : FH} : gIx (.tup [a, b]) (.k (.int 1)) S = .ok b S := rfl
noncomputable def fracG (a b : Int) (k : Int → Int → Res W) (z : Res W) : Res W := Int.rec (motive := fun _ => Res W)
  (fun m => Nat.rec (motive := fun _ => Res W) z (fun n _ => fNat (Nat.gcd a.natAbs (n + 1)) fun g => match divC (.ofNat g) with
    | true => fInt (divF a (.ofNat g)) fun p => fInt (divF (.ofNat (n + 1)) (.ofNat g)) fun q => k p q
    | false => z) m)
  (fun n => fNat (Nat.gcd a.natAbs (n + 1)) fun g => fInt (iNeg (.ofNat g)) fun c => match divC c with
    | true => fInt (divF a c) fun p => fInt (divF (.negSucc n) c) fun q => k p q
    | false => z) b
theorem fr0 {a b : Int} {S : FH} : E_fraction [.k (.int a), .k (.int b)] S = ((B_fraction [some (.k (.int a)), some (.k (.int b)), none] S).bnd fun r S1 => match r with
  | .rt w => .ok w S1
  | .nx _ => .ok (.k .non) S1
  | .bk _ => .stuck
  | .ct _ => .stuck) := rfl

abbrev kI (a : Int) : W := .k (.int a)
theorem gEqP {n : Nat} {S : FH} : gEq (kI (.ofNat (n + 1))) (kI 0) S = .ok (.k (.bl false)) S := rfl
theorem gEqN {n : Nat} {S : FH} : gEq (kI (.negSucc n)) (kI 0) S = .ok (.k (.bl false)) S := rfl
theorem gLtP {n : Nat} {S : FH} : gLt (kI (.ofNat (n + 1))) (kI 0) S = .ok (.k (.bl false)) S := rfl
theorem gLtN {n : Nat} {S : FH} : gLt (kI (.negSucc n)) (kI 0) S = .ok (.k (.bl true)) S := rfl
theorem gDivI {a c : Int} {S : FH} (h : divC c = true) : gDiv (kI a) (kI c) S = fInt (divF a c) fun r => .ok (.k (.int r)) S := by
  show (match divC c with
    | true => fInt (divF a c) fun r => Res.ok (W.k (V.int r)) S
    | false => Res.stuck) = _
  rw [h]
theorem cGcdI {a b : Int} {S : FH} : cGcd [kI a, kI b] S = fInt (.ofNat (Nat.gcd a.natAbs b.natAbs)) fun r => .ok (.k (.int r)) S := rfl
theorem short2 {a b : W} : short [a, b] = true := rfl
theorem boolW_bl {α : Type} {b : Bool} {k : Bool → Res α} : boolW (.k (.bl b)) k = k b := rfl
theorem kint_int {α : Type} {a : Int} {z : α} {k : Int → α} : kint (.k (.int a)) z k = k a := rfl
theorem setK2 {α : Type} {a b c w : Option W} {k : Lo → α} : setK [a, b, c] 2 w k = k [a, b, w] := rfl
theorem fraction_fast {a b : Int} {S : FH} : fracG a b (fun p q => .ok (T2 p q) S) (E_fraction [.k (.int a), .k (.int b)] S) = E_fraction [.k (.int a), .k (.int b)] S := by
  cases b with
  | ofNat m =>
    cases m with
    | zero => rfl
    | succ n =>
      show (fNat (Nat.gcd a.natAbs (n + 1)) fun g => match divC (.ofNat g) with
        | true => fInt (divF a (.ofNat g)) fun p => fInt (divF (.ofNat (n + 1)) (.ofNat g)) fun q => (.ok (T2 p q) S : Res W)
        | false => E_fraction [.k (.int a), .k (.int (.ofNat (n + 1)))] S) = _
      rw [fNat_eq]
      cases h : divC (.ofNat (Nat.gcd a.natAbs (n + 1))) with
      | false => rfl
      | true =>
        have h' : divC (.ofNat (Nat.gcd a.natAbs (Int.ofNat (n + 1)).natAbs)) = true := h
        simp only [fInt_eq]
        rw [fr0]
        simp only [B_fraction, esSeq, esIf, etBin, evBin, evVar, getL, evK, bnd_ok, gEqP, gLtP, boolW_bl, esNil, esSet, esAsg, ofTg, tgName, evCB, eaCons, eaNil, cGcdI, fInt_eq, setK2, esRet, evTup, gDivI h', short2]
        rfl
  | negSucc n =>
    show (fNat (Nat.gcd a.natAbs (n + 1)) fun g => fInt (iNeg (.ofNat g)) fun c => match divC c with
        | true => fInt (divF a c) fun p => fInt (divF (.negSucc n) c) fun q => (.ok (T2 p q) S : Res W)
        | false => E_fraction [.k (.int a), .k (.int (.negSucc n))] S) = _
    rw [fNat_eq, fInt_eq]
    cases h : divC (iNeg (.ofNat (Nat.gcd a.natAbs (n + 1)))) with
    | false => rfl
    | true =>
      have h' : divC (iNeg (.ofNat (Nat.gcd a.natAbs (Int.negSucc n).natAbs))) = true := h
      simp only [fInt_eq]
      rw [fr0]
      simp only [B_fraction, esSeq, esIf, etBin, evBin, evVar, getL, evK, bnd_ok, gEqN, gLtN, boolW_bl, esNil, esSet, esAsg, ofTg, tgName, evCB, eaCons, eaNil, cGcdI, fInt_eq, setK2, evNeg, kint_int, esRet, evTup, gDivI h', short2]
      rfl

theorem fracG_cases (a b : Int) : (∀ k z, fracG a b k z = z) ∨ ∃ p q, ∀ k z, fracG a b k z = k p q := by
  cases b with
  | ofNat m =>
    cases m with
    | zero => exact .inl fun _ _ => rfl
    | succ n =>
      have e : ∀ k z, fracG a (.ofNat (n + 1)) k z = (fNat (Nat.gcd a.natAbs (n + 1)) fun g => match divC (.ofNat g) with
        | true => fInt (divF a (.ofNat g)) fun p => fInt (divF (.ofNat (n + 1)) (.ofNat g)) fun q => k p q
        | false => z) := fun _ _ => rfl
      cases h : divC (.ofNat (Nat.gcd a.natAbs (n + 1))) with
      | false => exact .inl fun k z => by rw [e, fNat_eq, h]
      | true => exact .inr ⟨_, _, fun k z => by rw [e, fNat_eq, h]; simp only [fInt_eq]; rfl⟩
  | negSucc n =>
    have e : ∀ k z, fracG a (.negSucc n) k z = (fNat (Nat.gcd a.natAbs (n + 1)) fun g => fInt (iNeg (.ofNat g)) fun c => match divC c with
        | true => fInt (divF a c) fun p => fInt (divF (.negSucc n) c) fun q => k p q
        | false => z) := fun _ _ => rfl
    cases h : divC (iNeg (.ofNat (Nat.gcd a.natAbs (n + 1)))) with
    | false => exact .inl fun k z => by rw [e, fNat_eq, fInt_eq, h]
    | true => exact .inr ⟨_, _, fun k z => by rw [e, fNat_eq, fInt_eq, h]; simp only [fInt_eq]; rfl⟩
/-- fraction called of two ints -/
noncomputable def clFr (l : Lo) (p q : Int) (S : FH) : Res W := ((relo l (callM true E_fraction [kI p, kI q] S)).bnd fun w S1 => Res.ok (Fl.rt w) S1).bnd fun r S1 => match r with
  | .rt w => .ok w S1
  | .nx _ => .ok (.k .non) S1
  | .bk _ => .stuck
  | .ct _ => .stuck
theorem clFr_good {l : Lo} {p q p' q' : Int} {S : FH} (h : ∀ k z, fracG p q k z = k p' q') : clFr l p q S = .ok (T2 p' q') S := by
  have e := (fraction_fast (a := p) (b := q) (S := ⟨0, []⟩)).symm.trans (h _ _)
  show ((relo l (backP S (back (S := S) pureW (E_fraction [kI p, kI q] S.bare)) (E_fraction [kI p, kI q] ⟨0, []⟩))).bnd fun w S1 => Res.ok (Fl.rt w) S1).bnd _ = _
  rw [e]
  rfl
theorem fracG_cl {l : Lo} {p q : Int} {S : FH} {z : Res W} (hz : z = clFr l p q S) : fracG p q (fun p q => .ok (T2 p q) S) z = z := by
  rcases fracG_cases p q with h | ⟨p', q', h⟩
  · rw [h]
  · rw [h, hz, clFr_good h]
theorem mulC_congr {α : Type} {a c : Int} {k k' : Int → Res α} {z : Res α} (hz : z = mulC a c k') (h : z = k' (Int.mul a c) → k (Int.mul a c) = z) : mulC a c k = z := by
  unfold mulC at *
  cases q : Nat.blt (a.natAbs.log2 + c.natAbs.log2) 1000000 with
  | true =>
    rw [q] at hz
    simp only [fInt_eq] at hz ⊢
    exact h hz
  | false =>
    rw [q] at hz
    exact hz.symm
noncomputable def F_fraction : Fn := fun ws S => match ws with
  | [.k (.int a), .k (.int b)] => fracG a b (fun p q => .ok (T2 p q) S) (E_fraction ws S)
  | _ => E_fraction ws S
theorem F_fraction_eq : F_fraction = E_fraction := by
  funext ws S
  unfold F_fraction
  split
  · exact fraction_fast
  · rfl

theorem okF_fraction (Fx : Facts G mg) : Def G G.P G.w mg base 1 "fraction" ["top", "bottom"] 2 F_fraction := by
  rw [F_fraction_eq]
  exact ok_fraction Fx
noncomputable def B_whole : Evs := (esRet (evTup (eaCons (evVar 0) (eaCons (evK (.int 1)) eaNil))))
noncomputable def E_whole : Fn := evFun B_whole 1
theorem ok_whole (Fx : Facts G mg) : Def G G.P G.w mg base 1 "whole" ["number"] 1 E_whole := by
  obtain ⟨f, fd, F, m, b⟩ := Fx.d_whole
  refine def_mk F (fn_ok (k := 0) F sc_whole B_whole (fun cdv A outer s H E hr => ?_)) rfl m b
  have hx : Okx G (cxB G.P G.w G.K mg base N_whole "whole" (defScope st_whole) f cdv A outer s H E) := ⟨rfl, rfl, un_of hr, rfl, rfl⟩
  have hd : Dfx (cxB G.P G.w G.K mg base N_whole "whole" (defScope st_whole) f cdv A outer s H E) := ⟨rfl, rfl⟩
  have tk : Takes (cxB G.P G.w G.K mg base N_whole "whole" (defScope st_whole) f cdv A outer s H E) (WE' E) := takes_of rfl rfl rfl rfl
  have po := passes_of (X := cxB G.P G.w G.K mg base N_whole "whole" (defScope st_whole) f cdv A outer s H E) rfl
  exact (ss_one (ss_ret (se_tup (sa_cons (sv 0) (sa_cons si sa_nil)))))
noncomputable def B_plus : Evs := (esRet (evCl true 2 E_fraction (eaCons (evBin gAdd (evBin gMul (evBin gIx (evVar 0) (evK (.int 0))) (evBin gIx (evVar 1) (evK (.int 1)))) (evBin gMul (evBin gIx (evVar 1) (evK (.int 0))) (evBin gIx (evVar 0) (evK (.int 1))))) (eaCons (evBin gMul (evBin gIx (evVar 0) (evK (.int 1))) (evBin gIx (evVar 1) (evK (.int 1)))) eaNil))))
noncomputable def E_plus : Fn := evFun B_plus 2
theorem ok_plus (Fx : Facts G mg) : Def G G.P G.w mg base 2 "plus" ["x", "y"] 2 E_plus := by
  obtain ⟨f, fd, F, m, b⟩ := Fx.d_plus
  refine def_mk F (fn_ok (k := 1) F sc_plus B_plus (fun cdv A outer s H E hr => ?_)) rfl m b
  have hx : Okx G (cxB G.P G.w G.K mg base N_plus "plus" (defScope st_plus) f cdv A outer s H E) := ⟨rfl, rfl, un_of hr, rfl, rfl⟩
  have hd : Dfx (cxB G.P G.w G.K mg base N_plus "plus" (defScope st_plus) f cdv A outer s H E) := ⟨rfl, rfl⟩
  have tk : Takes (cxB G.P G.w G.K mg base N_plus "plus" (defScope st_plus) f cdv A outer s H E) (WE' E) := takes_of rfl rfl rfl rfl
  have po := passes_of (X := cxB G.P G.w G.K mg base N_plus "plus" (defScope st_plus) f cdv A outer s H E) rfl
  exact (ss_one (ss_ret (se_cl true hx (ok_fraction Fx) (hr.mono (by decide)) (by rfl) tk (sa_cons (se_bop (ox_add hx) (se_bop (ox_mul hx) (se_ix hx (sv 0) si (fun _ _ => rfl)) (se_ix hx (sv 1) si (fun _ _ => rfl))) (se_bop (ox_mul hx) (se_ix hx (sv 1) si (fun _ _ => rfl)) (se_ix hx (sv 0) si (fun _ _ => rfl)))) (sa_cons (se_bop (ox_mul hx) (se_ix hx (sv 0) si (fun _ _ => rfl)) (se_ix hx (sv 1) si (fun _ _ => rfl))) sa_nil)))))
theorem plus_fast {a b c d : Int} {S : FH} : (mulC a d fun u => mulC c b fun v => fInt (Int.add u v) fun p => mulC b d fun q => fracG p q (fun p q => .ok (T2 p q) S) (E_plus [T2 a b, T2 c d] S)) = E_plus [T2 a b, T2 c d] S := by
  have e : E_plus [T2 a b, T2 c d] S = mulC a d fun u => mulC c b fun v => fInt (Int.add u v) fun p => mulC b d fun q => clFr [some (T2 a b), some (T2 c d)] p q S := by
    show ((B_plus [some (T2 a b), some (T2 c d)] S).bnd _) = _
    simp only [B_plus, esRet, evCl, eaCons, eaNil, evBin, evVar, getL, evK, bnd_ok, ix0, ix1, gMul_int, mulC_bnd, gAdd_int, fInt_bnd]
    rfl
  generalize E_plus [T2 a b, T2 c d] S = z at e
  exact mulC_congr e fun e => mulC_congr e fun e => by
    simp only [fInt_eq] at e ⊢
    exact mulC_congr e fun e => fracG_cl e
noncomputable def F_plus : Fn := fun ws S => match ws with
  | [.tup [.k (.int a), .k (.int b)], .tup [.k (.int c), .k (.int d)]] => mulC a d fun u => mulC c b fun v => fInt (Int.add u v) fun p => mulC b d fun q => fracG p q (fun p q => .ok (T2 p q) S) (E_plus ws S)
  | _ => E_plus ws S
theorem F_plus_eq : F_plus = E_plus := by
  funext ws S
  unfold F_plus
  split
  · exact plus_fast
  · rfl

theorem okF_plus (Fx : Facts G mg) : Def G G.P G.w mg base 2 "plus" ["x", "y"] 2 F_plus := by
  rw [F_plus_eq]
  exact ok_plus Fx
noncomputable def B_minus : Evs := (esRet (evCl true 2 E_fraction (eaCons (evBin gSub (evBin gMul (evBin gIx (evVar 0) (evK (.int 0))) (evBin gIx (evVar 1) (evK (.int 1)))) (evBin gMul (evBin gIx (evVar 1) (evK (.int 0))) (evBin gIx (evVar 0) (evK (.int 1))))) (eaCons (evBin gMul (evBin gIx (evVar 0) (evK (.int 1))) (evBin gIx (evVar 1) (evK (.int 1)))) eaNil))))
noncomputable def E_minus : Fn := evFun B_minus 2
theorem ok_minus (Fx : Facts G mg) : Def G G.P G.w mg base 2 "minus" ["x", "y"] 2 E_minus := by
  obtain ⟨f, fd, F, m, b⟩ := Fx.d_minus
  refine def_mk F (fn_ok (k := 1) F sc_minus B_minus (fun cdv A outer s H E hr => ?_)) rfl m b
  have hx : Okx G (cxB G.P G.w G.K mg base N_minus "minus" (defScope st_minus) f cdv A outer s H E) := ⟨rfl, rfl, un_of hr, rfl, rfl⟩
  have hd : Dfx (cxB G.P G.w G.K mg base N_minus "minus" (defScope st_minus) f cdv A outer s H E) := ⟨rfl, rfl⟩
  have tk : Takes (cxB G.P G.w G.K mg base N_minus "minus" (defScope st_minus) f cdv A outer s H E) (WE' E) := takes_of rfl rfl rfl rfl
  have po := passes_of (X := cxB G.P G.w G.K mg base N_minus "minus" (defScope st_minus) f cdv A outer s H E) rfl
  exact (ss_one (ss_ret (se_cl true hx (ok_fraction Fx) (hr.mono (by decide)) (by rfl) tk (sa_cons (se_bop (ox_sub) (se_bop (ox_mul hx) (se_ix hx (sv 0) si (fun _ _ => rfl)) (se_ix hx (sv 1) si (fun _ _ => rfl))) (se_bop (ox_mul hx) (se_ix hx (sv 1) si (fun _ _ => rfl)) (se_ix hx (sv 0) si (fun _ _ => rfl)))) (sa_cons (se_bop (ox_mul hx) (se_ix hx (sv 0) si (fun _ _ => rfl)) (se_ix hx (sv 1) si (fun _ _ => rfl))) sa_nil)))))
theorem minus_fast {a b c d : Int} {S : FH} : (mulC a d fun u => mulC c b fun v => fInt (Int.sub u v) fun p => mulC b d fun q => fracG p q (fun p q => .ok (T2 p q) S) (E_minus [T2 a b, T2 c d] S)) = E_minus [T2 a b, T2 c d] S := by
  have e : E_minus [T2 a b, T2 c d] S = mulC a d fun u => mulC c b fun v => fInt (Int.sub u v) fun p => mulC b d fun q => clFr [some (T2 a b), some (T2 c d)] p q S := by
    show ((B_minus [some (T2 a b), some (T2 c d)] S).bnd _) = _
    simp only [B_minus, esRet, evCl, eaCons, eaNil, evBin, evVar, getL, evK, bnd_ok, ix0, ix1, gMul_int, mulC_bnd, gSub_int, fInt_bnd]
    rfl
  generalize E_minus [T2 a b, T2 c d] S = z at e
  exact mulC_congr e fun e => mulC_congr e fun e => by
    simp only [fInt_eq] at e ⊢
    exact mulC_congr e fun e => fracG_cl e
noncomputable def F_minus : Fn := fun ws S => match ws with
  | [.tup [.k (.int a), .k (.int b)], .tup [.k (.int c), .k (.int d)]] => mulC a d fun u => mulC c b fun v => fInt (Int.sub u v) fun p => mulC b d fun q => fracG p q (fun p q => .ok (T2 p q) S) (E_minus ws S)
  | _ => E_minus ws S
theorem F_minus_eq : F_minus = E_minus := by
  funext ws S
  unfold F_minus
  split
  · exact minus_fast
  · rfl

theorem okF_minus (Fx : Facts G mg) : Def G G.P G.w mg base 2 "minus" ["x", "y"] 2 F_minus := by
  rw [F_minus_eq]
  exact ok_minus Fx
noncomputable def B_times : Evs := (esRet (evCl true 2 E_fraction (eaCons (evBin gMul (evBin gIx (evVar 0) (evK (.int 0))) (evBin gIx (evVar 1) (evK (.int 0)))) (eaCons (evBin gMul (evBin gIx (evVar 0) (evK (.int 1))) (evBin gIx (evVar 1) (evK (.int 1)))) eaNil))))
noncomputable def E_times : Fn := evFun B_times 2
theorem ok_times (Fx : Facts G mg) : Def G G.P G.w mg base 2 "times" ["x", "y"] 2 E_times := by
  obtain ⟨f, fd, F, m, b⟩ := Fx.d_times
  refine def_mk F (fn_ok (k := 1) F sc_times B_times (fun cdv A outer s H E hr => ?_)) rfl m b
  have hx : Okx G (cxB G.P G.w G.K mg base N_times "times" (defScope st_times) f cdv A outer s H E) := ⟨rfl, rfl, un_of hr, rfl, rfl⟩
  have hd : Dfx (cxB G.P G.w G.K mg base N_times "times" (defScope st_times) f cdv A outer s H E) := ⟨rfl, rfl⟩
  have tk : Takes (cxB G.P G.w G.K mg base N_times "times" (defScope st_times) f cdv A outer s H E) (WE' E) := takes_of rfl rfl rfl rfl
  have po := passes_of (X := cxB G.P G.w G.K mg base N_times "times" (defScope st_times) f cdv A outer s H E) rfl
  exact (ss_one (ss_ret (se_cl true hx (ok_fraction Fx) (hr.mono (by decide)) (by rfl) tk (sa_cons (se_bop (ox_mul hx) (se_ix hx (sv 0) si (fun _ _ => rfl)) (se_ix hx (sv 1) si (fun _ _ => rfl))) (sa_cons (se_bop (ox_mul hx) (se_ix hx (sv 0) si (fun _ _ => rfl)) (se_ix hx (sv 1) si (fun _ _ => rfl))) sa_nil)))))
theorem times_fast {a b c d : Int} {S : FH} : (mulC a c fun p => mulC b d fun q => fracG p q (fun p q => .ok (T2 p q) S) (E_times [T2 a b, T2 c d] S)) = E_times [T2 a b, T2 c d] S := by
  have e : E_times [T2 a b, T2 c d] S = mulC a c fun p => mulC b d fun q => clFr [some (T2 a b), some (T2 c d)] p q S := by
    show ((B_times [some (T2 a b), some (T2 c d)] S).bnd _) = _
    simp only [B_times, esRet, evCl, eaCons, eaNil, evBin, evVar, getL, evK, bnd_ok, ix0, ix1, gMul_int, mulC_bnd]
    rfl
  generalize E_times [T2 a b, T2 c d] S = z at e
  exact mulC_congr e fun e => mulC_congr e fun e => fracG_cl e
noncomputable def F_times : Fn := fun ws S => match ws with
  | [.tup [.k (.int a), .k (.int b)], .tup [.k (.int c), .k (.int d)]] => mulC a c fun p => mulC b d fun q => fracG p q (fun p q => .ok (T2 p q) S) (E_times ws S)
  | _ => E_times ws S
theorem F_times_eq : F_times = E_times := by
  funext ws S
  unfold F_times
  split
  · exact times_fast
  · rfl

theorem okF_times (Fx : Facts G mg) : Def G G.P G.w mg base 2 "times" ["x", "y"] 2 F_times := by
  rw [F_times_eq]
  exact ok_times Fx
noncomputable def B_over : Evs := (esRet (evCl true 2 E_fraction (eaCons (evBin gMul (evBin gIx (evVar 0) (evK (.int 0))) (evBin gIx (evVar 1) (evK (.int 1)))) (eaCons (evBin gMul (evBin gIx (evVar 0) (evK (.int 1))) (evBin gIx (evVar 1) (evK (.int 0)))) eaNil))))
noncomputable def E_over : Fn := evFun B_over 2
theorem ok_over (Fx : Facts G mg) : Def G G.P G.w mg base 2 "over" ["x", "y"] 2 E_over := by
  obtain ⟨f, fd, F, m, b⟩ := Fx.d_over
  refine def_mk F (fn_ok (k := 1) F sc_over B_over (fun cdv A outer s H E hr => ?_)) rfl m b
  have hx : Okx G (cxB G.P G.w G.K mg base N_over "over" (defScope st_over) f cdv A outer s H E) := ⟨rfl, rfl, un_of hr, rfl, rfl⟩
  have hd : Dfx (cxB G.P G.w G.K mg base N_over "over" (defScope st_over) f cdv A outer s H E) := ⟨rfl, rfl⟩
  have tk : Takes (cxB G.P G.w G.K mg base N_over "over" (defScope st_over) f cdv A outer s H E) (WE' E) := takes_of rfl rfl rfl rfl
  have po := passes_of (X := cxB G.P G.w G.K mg base N_over "over" (defScope st_over) f cdv A outer s H E) rfl
  exact (ss_one (ss_ret (se_cl true hx (ok_fraction Fx) (hr.mono (by decide)) (by rfl) tk (sa_cons (se_bop (ox_mul hx) (se_ix hx (sv 0) si (fun _ _ => rfl)) (se_ix hx (sv 1) si (fun _ _ => rfl))) (sa_cons (se_bop (ox_mul hx) (se_ix hx (sv 0) si (fun _ _ => rfl)) (se_ix hx (sv 1) si (fun _ _ => rfl))) sa_nil)))))
theorem over_fast {a b c d : Int} {S : FH} : (mulC a d fun p => mulC b c fun q => fracG p q (fun p q => .ok (T2 p q) S) (E_over [T2 a b, T2 c d] S)) = E_over [T2 a b, T2 c d] S := by
  have e : E_over [T2 a b, T2 c d] S = mulC a d fun p => mulC b c fun q => clFr [some (T2 a b), some (T2 c d)] p q S := by
    show ((B_over [some (T2 a b), some (T2 c d)] S).bnd _) = _
    simp only [B_over, esRet, evCl, eaCons, eaNil, evBin, evVar, getL, evK, bnd_ok, ix0, ix1, gMul_int, mulC_bnd]
    rfl
  generalize E_over [T2 a b, T2 c d] S = z at e
  exact mulC_congr e fun e => mulC_congr e fun e => fracG_cl e
noncomputable def F_over : Fn := fun ws S => match ws with
  | [.tup [.k (.int a), .k (.int b)], .tup [.k (.int c), .k (.int d)]] => mulC a d fun p => mulC b c fun q => fracG p q (fun p q => .ok (T2 p q) S) (E_over ws S)
  | _ => E_over ws S
theorem F_over_eq : F_over = E_over := by
  funext ws S
  unfold F_over
  split
  · exact over_fast
  · rfl

theorem okF_over (Fx : Facts G mg) : Def G G.P G.w mg base 2 "over" ["x", "y"] 2 F_over := by
  rw [F_over_eq]
  exact ok_over Fx
noncomputable def B__power : Evs := (esSeq (esPar3 2 3 4 (eaCons (evK (.int 1)) (eaCons (evVar 0) (eaCons (evVar 1) eaNil))))
  (esSeq (whileL (etBin gGt2 (evVar 4) (evK (.int 0)))
  (esSeq (esIf (etBin gEq (evBin gMod (evVar 4) (evK (.int 2))) (evK (.int 1)))
  (esAug 2 (g2I (fun i j => Nat.blt (i.natAbs.log2 + j.natAbs.log2) 1000000) Int.mul) (evVar 3))
  esNil)
  (esPar 3 4 (eaCons (evBin gMul (evVar 3) (evVar 3)) (eaCons (evBin gDiv (evVar 4) (evK (.int 2))) eaNil)))) 100000)
  (esRet (evVar 2))))
noncomputable def E__power : Fn := evFun B__power 5
theorem ok__power (Fx : Facts G mg) : Def G G.P G.w mg base 1 "_power" ["number", "many"] 2 E__power := by
  obtain ⟨f, fd, F, m, b⟩ := Fx.d__power
  refine def_mk F (fn_ok (k := 0) F sc__power B__power (fun cdv A outer s H E hr => ?_)) rfl m b
  have hx : Okx G (cxB G.P G.w G.K mg base N__power "_power" (defScope st__power) f cdv A outer s H E) := ⟨rfl, rfl, un_of hr, rfl, rfl⟩
  have hd : Dfx (cxB G.P G.w G.K mg base N__power "_power" (defScope st__power) f cdv A outer s H E) := ⟨rfl, rfl⟩
  have tk : Takes (cxB G.P G.w G.K mg base N__power "_power" (defScope st__power) f cdv A outer s H E) (WE' E) := takes_of rfl rfl rfl rfl
  have po := passes_of (X := cxB G.P G.w G.K mg base N__power "_power" (defScope st__power) f cdv A outer s H E) rfl
  exact (ss_cons (ss_par3 (i := 2) (j := 3) (k := 4) hx.calm sc__power.nd rfl rfl rfl (by decide) (by decide) (by decide) rfl rfl rfl (sa_cons si (sa_cons (sv 0) (sa_cons (sv 1) sa_nil))) rfl)
  (ss_cons (ss_while po (st_cop (ox_gt2 hx) (sv 4) si rfl)
  (ss_cons (ss_if (st_cop (ox_eq hx) (se_bop (ox_mod) (sv 4) si) si rfl)
  (ss_one (ss_aug (i := 2) sc__power.nd rfl (by first | exact Or.inl rfl | exact Or.inr rfl) (sv 3) ax_mul))
  ss_nil)
  (ss_one (ss_par (i := 3) (j := 4) hx.calm sc__power.nd rfl rfl (by decide) rfl rfl (sa_cons (se_bop (ox_mul hx) (sv 3) (sv 3)) (sa_cons (se_bop (ox_div) (sv 4) si) sa_nil)) rfl))))
  (ss_one (ss_ret (sv 2)))))
noncomputable def B_power_of : Evs := (esSeq (esIf (etBin gGe2 (evVar 1) (evK (.int 0)))
  (esRet (evTup (eaCons (evCl true 2 E__power (eaCons (evBin gIx2 (evVar 0) (evK (.int 0))) (eaCons (evVar 1) eaNil))) (eaCons (evCl true 2 E__power (eaCons (evBin gIx2 (evVar 0) (evK (.int 1))) (eaCons (evVar 1) eaNil))) eaNil))))
  esNil)
  (esRet (evCl true 2 F_fraction (eaCons (evCl true 2 E__power (eaCons (evBin gIx2 (evVar 0) (evK (.int 1))) (eaCons (evNeg (evVar 1)) eaNil))) (eaCons (evCl true 2 E__power (eaCons (evBin gIx2 (evVar 0) (evK (.int 0))) (eaCons (evNeg (evVar 1)) eaNil))) eaNil)))))
noncomputable def E_power_of : Fn := evFun B_power_of 2
theorem ok_power_of (Fx : Facts G mg) : Def G G.P G.w mg base 2 "power_of" ["x", "many"] 2 E_power_of := by
  obtain ⟨f, fd, F, m, b⟩ := Fx.d_power_of
  refine def_mk F (fn_ok (k := 1) F sc_power_of B_power_of (fun cdv A outer s H E hr => ?_)) rfl m b
  have hx : Okx G (cxB G.P G.w G.K mg base N_power_of "power_of" (defScope st_power_of) f cdv A outer s H E) := ⟨rfl, rfl, un_of hr, rfl, rfl⟩
  have hd : Dfx (cxB G.P G.w G.K mg base N_power_of "power_of" (defScope st_power_of) f cdv A outer s H E) := ⟨rfl, rfl⟩
  have tk : Takes (cxB G.P G.w G.K mg base N_power_of "power_of" (defScope st_power_of) f cdv A outer s H E) (WE' E) := takes_of rfl rfl rfl rfl
  have po := passes_of (X := cxB G.P G.w G.K mg base N_power_of "power_of" (defScope st_power_of) f cdv A outer s H E) rfl
  exact (ss_cons (ss_if (st_cop (ox_ge2 hx) (sv 1) si rfl)
  (ss_one (ss_ret (se_tup (sa_cons (se_cl true hx (ok__power Fx) (hr.mono (by decide)) (by rfl) tk (sa_cons (se_ix2 hx (sv 0) si (fun _ _ => rfl)) (sa_cons (sv 1) sa_nil))) (sa_cons (se_cl true hx (ok__power Fx) (hr.mono (by decide)) (by rfl) tk (sa_cons (se_ix2 hx (sv 0) si (fun _ _ => rfl)) (sa_cons (sv 1) sa_nil))) sa_nil)))))
  ss_nil)
  (ss_one (ss_ret (se_cl true hx (okF_fraction Fx) (hr.mono (by decide)) (by rfl) tk (sa_cons (se_cl true hx (ok__power Fx) (hr.mono (by decide)) (by rfl) tk (sa_cons (se_ix2 hx (sv 0) si (fun _ _ => rfl)) (sa_cons (se_neg (sv 1)) sa_nil))) (sa_cons (se_cl true hx (ok__power Fx) (hr.mono (by decide)) (by rfl) tk (sa_cons (se_ix2 hx (sv 0) si (fun _ _ => rfl)) (sa_cons (se_neg (sv 1)) sa_nil))) sa_nil))))))
noncomputable def B_sign_of : Evs := (esRet (evBin gSub (evBin gGt2 (evBin gIx2 (evVar 0) (evK (.int 0))) (evK (.int 0))) (evBin gLt2 (evBin gIx2 (evVar 0) (evK (.int 0))) (evK (.int 0)))))
noncomputable def E_sign_of : Fn := evFun B_sign_of 1
theorem ok_sign_of (Fx : Facts G mg) : Def G G.P G.w mg base 1 "sign_of" ["x"] 1 E_sign_of := by
  obtain ⟨f, fd, F, m, b⟩ := Fx.d_sign_of
  refine def_mk F (fn_ok (k := 0) F sc_sign_of B_sign_of (fun cdv A outer s H E hr => ?_)) rfl m b
  have hx : Okx G (cxB G.P G.w G.K mg base N_sign_of "sign_of" (defScope st_sign_of) f cdv A outer s H E) := ⟨rfl, rfl, un_of hr, rfl, rfl⟩
  have hd : Dfx (cxB G.P G.w G.K mg base N_sign_of "sign_of" (defScope st_sign_of) f cdv A outer s H E) := ⟨rfl, rfl⟩
  have tk : Takes (cxB G.P G.w G.K mg base N_sign_of "sign_of" (defScope st_sign_of) f cdv A outer s H E) (WE' E) := takes_of rfl rfl rfl rfl
  have po := passes_of (X := cxB G.P G.w G.K mg base N_sign_of "sign_of" (defScope st_sign_of) f cdv A outer s H E) rfl
  exact (ss_one (ss_ret (se_bop (ox_sub) (se_cop (ox_gt2 hx) (se_ix2 hx (sv 0) si (fun _ _ => rfl)) si rfl) (se_cop (ox_lt2 hx) (se_ix2 hx (sv 0) si (fun _ _ => rfl)) si rfl))))
noncomputable def B_gathered : Evs := (esSeq (esSet 1 evDnew)
  (esSeq (esFor 100000 (eiSeq2 (evVar 0)) (tgAny 2 (tgCons (tgName 2) (tgCons (tgName 3) tgNil)))
  (esStd (evCl true 2 F_plus (eaCons (evBn mGetD (evVar 1) (eaCons (evVar 2) (eaCons (evM c_ZERO_forms) eaNil))) (eaCons (evVar 3) eaNil))) (evVar 1) (evVar 2)))
  (esRet (evCB cTup (eaCons (evLx (eiSeq2 (evCB cSorted2 (eaCons (evVar 1) eaNil))) (tgName 2) (etBin gNe (evBin gIx2 (evVar 1) (evVar 2)) (evM c_ZERO_forms)) (evTup (eaCons (evVar 2) (eaCons (evBin gIx2 (evVar 1) (evVar 2)) eaNil))) [2]) eaNil)))))
noncomputable def E_gathered : Fn := evFun B_gathered 4
theorem ok_gathered (Fx : Facts G mg) : Def G G.P G.w mg base 3 "gathered" ["pairs"] 1 E_gathered := by
  obtain ⟨f, fd, F, m, b⟩ := Fx.d_gathered
  obtain ⟨vq_ZERO_forms, aq_ZERO_forms, mq_ZERO_forms, rq_ZERO_forms, wq_ZERO_forms⟩ := Fx.q_ZERO_forms
  refine def_mk F (fn_ok (k := 2) F sc_gathered B_gathered (fun cdv A outer s H E hr => ?_)) rfl m b
  have hx : Okx G (cxB G.P G.w G.K mg base N_gathered "gathered" (defScope st_gathered) f cdv A outer s H E) := ⟨rfl, rfl, un_of hr, rfl, rfl⟩
  have hd : Dfx (cxB G.P G.w G.K mg base N_gathered "gathered" (defScope st_gathered) f cdv A outer s H E) := ⟨rfl, rfl⟩
  have tk : Takes (cxB G.P G.w G.K mg base N_gathered "gathered" (defScope st_gathered) f cdv A outer s H E) (WE' E) := takes_of rfl rfl rfl rfl
  have po := passes_of (X := cxB G.P G.w G.K mg base N_gathered "gathered" (defScope st_gathered) f cdv A outer s H E) rfl
  exact (ss_cons (ss_set (i := 1) sc_gathered.nd rfl (by first | exact Or.inl rfl | exact Or.inr rfl) (se_dnew hx))
  (ss_cons (ss_for po hx.calm (si_seq2 hx (sv 0)) (tg_any hx (tgs_cons (tg_name (pg_name (i := 2) sc_gathered.nd rfl (by first | exact Or.inl rfl | exact Or.inr rfl))) (tgs_cons (tg_name (pg_name (i := 3) sc_gathered.nd rfl (by first | exact Or.inl rfl | exact Or.inr rfl))) tgs_nil)))
  (ss_one (ss_std hx (se_cl true hx (okF_plus Fx) (hr.mono (by decide)) (by rfl) tk (sa_cons (se_bn hx PySem.F.slot_dict_get PySem.F.type_dict_get (mt_getD hx) ms_getD (sv 1) (sa_cons (sv 2) (sa_cons (se_m (pe_glob (v := vq_ZERO_forms) (by rfl) mq_ZERO_forms rq_ZERO_forms) wq_ZERO_forms) sa_nil))) (sa_cons (sv 3) sa_nil))) (sv 1) (sv 2))))
  (ss_one (ss_ret (se_callTy (cx_tup hx) (by rfl) Fx.n_tuple bb_tuple (sa_cons (se_lx (own := [("powers", 2)]) hd tk hx.calm sc_gathered.nd (si_seq2 hx (se_callB (cx_sorted2 hx) (by rfl) Fx.n_sorted bb_sorted (sa_cons (sv 1) sa_nil))) (blkOk_by (N := N_gathered) (sc := defScope st_gathered) (own := [("powers", 2)]) (by decide +kernel)) (kk_name 2) (by decide) (fun _ _ _ _ _ _ => (pg_name (i := 2) sc_gathered.nd rfl (by first | exact Or.inl rfl | exact Or.inr rfl))) (fun _ _ _ _ _ _ _ tk => (sts_one (st_cop (ox_ne (hx.blk)) (se_ix2 (hx.blk) (sv 1) (sv 2) (fun _ _ => rfl)) (se_m (pe_glob (v := vq_ZERO_forms) (by rfl) mq_ZERO_forms rq_ZERO_forms) wq_ZERO_forms) rfl))) (fun _ _ _ _ _ _ _ tk => (se_tup (sa_cons (sv 2) (sa_cons (se_ix2 (hx.blk) (sv 1) (sv 2) (fun _ _ => rfl)) sa_nil))))) sa_nil))))))
noncomputable def B_value_at : Evs := (esSeq (esSet 2 (evM c_ZERO_forms))
  (esSeq (esFor 100000 (eiSeq2 (evVar 0)) (tgAny 2 (tgCons (tgName 3) (tgCons (tgName 4) tgNil)))
  (esSeq (esFor 100000 (eiZip2 (eaCons (evVar 3) (eaCons (evVar 1) eaNil))) (tgAny 2 (tgCons (tgName 5) (tgCons (tgName 6) tgNil)))
  (esFor 100000 (eiZip2 (eaCons (evVar 5) (eaCons (evVar 6) eaNil))) (tgAny 2 (tgCons (tgName 7) (tgCons (tgName 8) tgNil)))
  (esIf (etBin gGt2 (evVar 7) (evK (.int 0)))
  (esSet 4 (evCl true 2 F_times (eaCons (evVar 4) (eaCons (evCl true 2 E_power_of (eaCons (evVar 8) (eaCons (evVar 7) eaNil))) eaNil))))
  esNil)))
  (esSet 2 (evCl true 2 F_plus (eaCons (evVar 2) (eaCons (evVar 4) eaNil))))))
  (esRet (evVar 2))))
noncomputable def E_value_at : Fn := evFun B_value_at 9
theorem ok_value_at (Fx : Facts G mg) : Def G G.P G.w mg base 3 "value_at" ["form", "rows"] 2 E_value_at := by
  obtain ⟨f, fd, F, m, b⟩ := Fx.d_value_at
  obtain ⟨vq_ZERO_forms, aq_ZERO_forms, mq_ZERO_forms, rq_ZERO_forms, wq_ZERO_forms⟩ := Fx.q_ZERO_forms
  refine def_mk F (fn_ok (k := 2) F sc_value_at B_value_at (fun cdv A outer s H E hr => ?_)) rfl m b
  have hx : Okx G (cxB G.P G.w G.K mg base N_value_at "value_at" (defScope st_value_at) f cdv A outer s H E) := ⟨rfl, rfl, un_of hr, rfl, rfl⟩
  have hd : Dfx (cxB G.P G.w G.K mg base N_value_at "value_at" (defScope st_value_at) f cdv A outer s H E) := ⟨rfl, rfl⟩
  have tk : Takes (cxB G.P G.w G.K mg base N_value_at "value_at" (defScope st_value_at) f cdv A outer s H E) (WE' E) := takes_of rfl rfl rfl rfl
  have po := passes_of (X := cxB G.P G.w G.K mg base N_value_at "value_at" (defScope st_value_at) f cdv A outer s H E) rfl
  exact (ss_cons (ss_set (i := 2) sc_value_at.nd rfl (by first | exact Or.inl rfl | exact Or.inr rfl) (se_m (pe_glob (v := vq_ZERO_forms) (by rfl) mq_ZERO_forms rq_ZERO_forms) wq_ZERO_forms))
  (ss_cons (ss_for po hx.calm (si_seq2 hx (sv 0)) (tg_any hx (tgs_cons (tg_name (pg_name (i := 3) sc_value_at.nd rfl (by first | exact Or.inl rfl | exact Or.inr rfl))) (tgs_cons (tg_name (pg_name (i := 4) sc_value_at.nd rfl (by first | exact Or.inl rfl | exact Or.inr rfl))) tgs_nil)))
  (ss_cons (ss_for po hx.calm (si_zip2 hx (by rfl) Fx.n_zip (sa_cons (sv 3) (sa_cons (sv 1) sa_nil))) (tg_any hx (tgs_cons (tg_name (pg_name (i := 5) sc_value_at.nd rfl (by first | exact Or.inl rfl | exact Or.inr rfl))) (tgs_cons (tg_name (pg_name (i := 6) sc_value_at.nd rfl (by first | exact Or.inl rfl | exact Or.inr rfl))) tgs_nil)))
  (ss_one (ss_for po hx.calm (si_zip2 hx (by rfl) Fx.n_zip (sa_cons (sv 5) (sa_cons (sv 6) sa_nil))) (tg_any hx (tgs_cons (tg_name (pg_name (i := 7) sc_value_at.nd rfl (by first | exact Or.inl rfl | exact Or.inr rfl))) (tgs_cons (tg_name (pg_name (i := 8) sc_value_at.nd rfl (by first | exact Or.inl rfl | exact Or.inr rfl))) tgs_nil)))
  (ss_one (ss_if (st_cop (ox_gt2 hx) (sv 7) si rfl)
  (ss_one (ss_set (i := 4) sc_value_at.nd rfl (by first | exact Or.inl rfl | exact Or.inr rfl) (se_cl true hx (okF_times Fx) (hr.mono (by decide)) (by rfl) tk (sa_cons (sv 4) (sa_cons (se_cl true hx (ok_power_of Fx) (hr.mono (by decide)) (by rfl) tk (sa_cons (sv 8) (sa_cons (sv 7) sa_nil))) sa_nil)))))
  ss_nil)))))
  (ss_one (ss_set (i := 2) sc_value_at.nd rfl (by first | exact Or.inl rfl | exact Or.inr rfl) (se_cl true hx (okF_plus Fx) (hr.mono (by decide)) (by rfl) tk (sa_cons (sv 2) (sa_cons (sv 4) sa_nil)))))))
  (ss_one (ss_ret (sv 2)))))
noncomputable def B_sum_of : Evs := (esSeq (esSet 1 (evM c_ZERO_sources))
  (esSeq (esFor 100000 (eiSeq2 (evVar 0)) (tgName 2)
  (esSet 1 (evCl true 2 F_plus (eaCons (evVar 1) (eaCons (evVar 2) eaNil)))))
  (esRet (evVar 1))))
noncomputable def E_sum_of : Fn := evFun B_sum_of 3
theorem ok_sum_of (Fx : Facts G mg) : Def G G.P G.w mg base 3 "sum_of" ["fractions"] 1 E_sum_of := by
  obtain ⟨f, fd, F, m, b⟩ := Fx.d_sum_of
  obtain ⟨vq_ZERO_sources, aq_ZERO_sources, mq_ZERO_sources, rq_ZERO_sources, wq_ZERO_sources⟩ := Fx.q_ZERO_sources
  refine def_mk F (fn_ok (k := 2) F sc_sum_of B_sum_of (fun cdv A outer s H E hr => ?_)) rfl m b
  have hx : Okx G (cxB G.P G.w G.K mg base N_sum_of "sum_of" (defScope st_sum_of) f cdv A outer s H E) := ⟨rfl, rfl, un_of hr, rfl, rfl⟩
  have hd : Dfx (cxB G.P G.w G.K mg base N_sum_of "sum_of" (defScope st_sum_of) f cdv A outer s H E) := ⟨rfl, rfl⟩
  have tk : Takes (cxB G.P G.w G.K mg base N_sum_of "sum_of" (defScope st_sum_of) f cdv A outer s H E) (WE' E) := takes_of rfl rfl rfl rfl
  have po := passes_of (X := cxB G.P G.w G.K mg base N_sum_of "sum_of" (defScope st_sum_of) f cdv A outer s H E) rfl
  exact (ss_cons (ss_set (i := 1) sc_sum_of.nd rfl (by first | exact Or.inl rfl | exact Or.inr rfl) (se_m (pe_glob (v := vq_ZERO_sources) (by rfl) mq_ZERO_sources rq_ZERO_sources) wq_ZERO_sources))
  (ss_cons (ss_for po hx.calm (si_seq2 hx (sv 0)) (tg_name (pg_name (i := 2) sc_sum_of.nd rfl (by first | exact Or.inl rfl | exact Or.inr rfl)))
  (ss_one (ss_set (i := 1) sc_sum_of.nd rfl (by first | exact Or.inl rfl | exact Or.inr rfl) (se_cl true hx (okF_plus Fx) (hr.mono (by decide)) (by rfl) tk (sa_cons (sv 1) (sa_cons (sv 2) sa_nil))))))
  (ss_one (ss_ret (sv 1)))))
noncomputable def B__words : Evs := (esSeq (esSet 2 (evLst (eaCons (evTup eaNil) eaNil)))
  (esSeq (esFor 100000 (eiRng1 (evVar 1)) (tgName 3)
  (esSeq (esSet 4 (evLst eaNil))
  (esSeq (esFor 100000 (eiSeq2 (evVar 2)) (tgName 5)
  (esExpr (evMt mExt2 (evVar 4) (eaCons (evLx (eiRng1 (evVar 0)) (tgName 6) etYes (evBin gAdd (evVar 5) (evTup (eaCons (evVar 6) eaNil))) [6]) eaNil))))
  (esSet 2 (evVar 4)))))
  (esRet (evVar 2))))
noncomputable def E__words : Fn := evFun B__words 7
theorem ok__words (Fx : Facts G mg) : Def G G.P G.w mg base 1 "_words" ["letters", "width"] 2 E__words := by
  obtain ⟨f, fd, F, m, b⟩ := Fx.d__words
  refine def_mk F (fn_ok (k := 0) F sc__words B__words (fun cdv A outer s H E hr => ?_)) rfl m b
  have hx : Okx G (cxB G.P G.w G.K mg base N__words "_words" (defScope st__words) f cdv A outer s H E) := ⟨rfl, rfl, un_of hr, rfl, rfl⟩
  have hd : Dfx (cxB G.P G.w G.K mg base N__words "_words" (defScope st__words) f cdv A outer s H E) := ⟨rfl, rfl⟩
  have tk : Takes (cxB G.P G.w G.K mg base N__words "_words" (defScope st__words) f cdv A outer s H E) (WE' E) := takes_of rfl rfl rfl rfl
  have po := passes_of (X := cxB G.P G.w G.K mg base N__words "_words" (defScope st__words) f cdv A outer s H E) rfl
  exact (ss_cons (ss_set (i := 2) sc__words.nd rfl (by first | exact Or.inl rfl | exact Or.inr rfl) (se_lst (sa_cons (se_tup sa_nil) sa_nil)))
  (ss_cons (ss_for po hx.calm (si_rng1 (by rfl) Fx.n_range (sv 1)) (tg_name (pg_name (i := 3) sc__words.nd rfl (by first | exact Or.inl rfl | exact Or.inr rfl)))
  (ss_cons (ss_set (i := 4) sc__words.nd rfl (by first | exact Or.inl rfl | exact Or.inr rfl) (se_lst sa_nil))
  (ss_cons (ss_for po hx.calm (si_seq2 hx (sv 2)) (tg_name (pg_name (i := 5) sc__words.nd rfl (by first | exact Or.inl rfl | exact Or.inr rfl)))
  (ss_one (ss_expr (se_mt hx PySem.F.slot_list_extend PySem.F.type_list_extend (mt_extend2G hx) ms_ext2 (sv 4) (sa_cons (se_lx (own := [("letter", 6)]) hd tk hx.calm sc__words.nd (si_rng1 (by rfl) Fx.n_range (sv 0)) (blkOk_by (N := N__words) (sc := defScope st__words) (own := [("letter", 6)]) (by decide +kernel)) (kk_name 6) (by decide) (fun _ _ _ _ _ _ => (pg_name (i := 6) sc__words.nd rfl (by first | exact Or.inl rfl | exact Or.inr rfl))) (fun _ _ _ _ _ _ _ tk => sts_nil) (fun _ _ _ _ _ _ _ tk => (se_bop (ox_add (hx.blk)) (sv 5) (se_tup (sa_cons (sv 6) sa_nil))))) sa_nil)))))
  (ss_one (ss_set (i := 2) sc__words.nd rfl (by first | exact Or.inl rfl | exact Or.inr rfl) (sv 4))))))
  (ss_one (ss_ret (sv 2)))))
noncomputable def B__is_word : Evs := (esRet (evAnd (evCl true 2 E_is_tuple_of (eaCons (evVar 0) (eaCons (evVar 2) eaNil))) (evCB cAll (eaCons (evLx (eiSeq2 (evVar 0)) (tgName 3) etYes (evAnd (evCl true 1 E_is_number (eaCons (evVar 3) eaNil)) (evChain gLe gLt (evK (.int 0)) (evVar 3) (evVar 1))) [3]) eaNil))))
noncomputable def E__is_word : Fn := evFun B__is_word 4
theorem ok__is_word (Fx : Facts G mg) : Def G G.P G.w mg base 2 "_is_word" ["thing", "letters", "width"] 3 E__is_word := by
  obtain ⟨f, fd, F, m, b⟩ := Fx.d__is_word
  refine def_mk F (fn_ok (k := 1) F sc__is_word B__is_word (fun cdv A outer s H E hr => ?_)) rfl m b
  have hx : Okx G (cxB G.P G.w G.K mg base N__is_word "_is_word" (defScope st__is_word) f cdv A outer s H E) := ⟨rfl, rfl, un_of hr, rfl, rfl⟩
  have hd : Dfx (cxB G.P G.w G.K mg base N__is_word "_is_word" (defScope st__is_word) f cdv A outer s H E) := ⟨rfl, rfl⟩
  have tk : Takes (cxB G.P G.w G.K mg base N__is_word "_is_word" (defScope st__is_word) f cdv A outer s H E) (WE' E) := takes_of rfl rfl rfl rfl
  have po := passes_of (X := cxB G.P G.w G.K mg base N__is_word "_is_word" (defScope st__is_word) f cdv A outer s H E) rfl
  exact (ss_one (ss_ret (se_and hx.k (se_cl true hx (ok_is_tuple_of Fx) (hr.mono (by decide)) (by rfl) tk (sa_cons (sv 0) (sa_cons (sv 2) sa_nil))) (se_one (se_callB (cx_all hx) (by rfl) Fx.n_all bb_all (sa_cons (se_lx (own := [("letter", 3)]) hd tk hx.calm sc__is_word.nd (si_seq2 hx (sv 0)) (blkOk_by (N := N__is_word) (sc := defScope st__is_word) (own := [("letter", 3)]) (by decide +kernel)) (kk_name 3) (by decide) (fun _ _ _ _ _ _ => (pg_name (i := 3) sc__is_word.nd rfl (by first | exact Or.inl rfl | exact Or.inr rfl))) (fun _ _ _ _ _ _ _ tk => sts_nil) (fun _ _ _ _ _ _ _ tk => (se_and (hx.blk).k (se_cl true (hx.blk) (ok_is_number Fx) (hr.mono (by decide)) (by rfl) tk (sa_cons (sv 3) sa_nil)) (se_one (se_cch (ox_le) (ox_lt) si (sv 3) (sv 1)))))) sa_nil))))))
noncomputable def B__are_pairs : Evs := (esSeq (esIf (etNot (etTru (evIsi [4] (evVar 0))))
  (esRet (evK (.bl false)))
  esNil)
  (esSeq (esFor 100000 (eiSeq2 (evVar 0)) (tgName 3)
  (esSeq (esIf (etOr (etNot (etTru (evCl true 2 E_is_tuple_of (eaCons (evVar 3) (eaCons (evK (.int 2)) eaNil))))) (etNot (etTru (evCl true 3 E__is_word (eaCons (evBin gIx2 (evVar 3) (evK (.int 0))) (eaCons (evVar 1) (eaCons (evVar 2) eaNil)))))))
  (esRet (evK (.bl false)))
  esNil)
  (esIf (etOr (etNot (etTru (evCl true 1 E_is_fraction (eaCons (evBin gIx2 (evVar 3) (evK (.int 1))) eaNil)))) (etBin gEq (evBin gIx2 (evVar 3) (evK (.int 1))) (evM c_ZERO_steady)))
  (esRet (evK (.bl false)))
  esNil)))
  (esRet (evCB cAll (eaCons (evLx (eiRng1 (evBin gSub (evCB (cLenD cLen) (eaCons (evVar 0) eaNil)) (evK (.int 1)))) (tgName 4) etYes (evBin gLt2 (evBin gIx2 (evBin gIx2 (evVar 0) (evVar 4)) (evK (.int 0))) (evBin gIx2 (evBin gIx2 (evVar 0) (evBin gAdd (evVar 4) (evK (.int 1)))) (evK (.int 0)))) [4]) eaNil)))))
noncomputable def E__are_pairs : Fn := evFun B__are_pairs 5
theorem ok__are_pairs (Fx : Facts G mg) : Def G G.P G.w mg base 3 "_are_pairs" ["thing", "letters", "width"] 3 E__are_pairs := by
  obtain ⟨f, fd, F, m, b⟩ := Fx.d__are_pairs
  obtain ⟨vq_ZERO_steady, aq_ZERO_steady, mq_ZERO_steady, rq_ZERO_steady, wq_ZERO_steady⟩ := Fx.q_ZERO_steady
  refine def_mk F (fn_ok (k := 2) F sc__are_pairs B__are_pairs (fun cdv A outer s H E hr => ?_)) rfl m b
  have hx : Okx G (cxB G.P G.w G.K mg base N__are_pairs "_are_pairs" (defScope st__are_pairs) f cdv A outer s H E) := ⟨rfl, rfl, un_of hr, rfl, rfl⟩
  have hd : Dfx (cxB G.P G.w G.K mg base N__are_pairs "_are_pairs" (defScope st__are_pairs) f cdv A outer s H E) := ⟨rfl, rfl⟩
  have tk : Takes (cxB G.P G.w G.K mg base N__are_pairs "_are_pairs" (defScope st__are_pairs) f cdv A outer s H E) (WE' E) := takes_of rfl rfl rfl rfl
  have po := passes_of (X := cxB G.P G.w G.K mg base N__are_pairs "_are_pairs" (defScope st__are_pairs) f cdv A outer s H E) rfl
  exact (ss_cons (ss_if (st_not (st_tru hx.k (se_isi (c := 4) hx (sv 0) (pe_bltn (by rfl) Fx.n_tuple bb_tuple rfl) (by decide) (by rfl) Fx.n_isinstance) (fun _ => rfl)))
  (ss_one (ss_ret (se_k pe_bl)))
  ss_nil)
  (ss_cons (ss_for po hx.calm (si_seq2 hx (sv 0)) (tg_name (pg_name (i := 3) sc__are_pairs.nd rfl (by first | exact Or.inl rfl | exact Or.inr rfl)))
  (ss_cons (ss_if (st_w (sw_or (st_not (st_tru hx.k (se_cl true hx (ok_is_tuple_of Fx) (hr.mono (by decide)) (by rfl) tk (sa_cons (sv 3) (sa_cons si sa_nil))) (fun _ => rfl))) (sw_or1 (st_not (st_tru hx.k (se_cl true hx (ok__is_word Fx) (hr.mono (by decide)) (by rfl) tk (sa_cons (se_ix2 hx (sv 3) si (fun _ _ => rfl)) (sa_cons (sv 1) (sa_cons (sv 2) sa_nil)))) (fun _ => rfl))))))
  (ss_one (ss_ret (se_k pe_bl)))
  ss_nil)
  (ss_one (ss_if (st_w (sw_or (st_not (st_tru hx.k (se_cl true hx (ok_is_fraction Fx) (hr.mono (by decide)) (by rfl) tk (sa_cons (se_ix2 hx (sv 3) si (fun _ _ => rfl)) sa_nil)) (fun _ => rfl))) (sw_or1 (st_cop (ox_eq hx) (se_ix2 hx (sv 3) si (fun _ _ => rfl)) (se_m (pe_glob (v := vq_ZERO_steady) (by rfl) mq_ZERO_steady rq_ZERO_steady) wq_ZERO_steady) rfl))))
  (ss_one (ss_ret (se_k pe_bl)))
  ss_nil))))
  (ss_one (ss_ret (se_callB (cx_all hx) (by rfl) Fx.n_all bb_all (sa_cons (se_lx (own := [("k", 4)]) hd tk hx.calm sc__are_pairs.nd (si_rng1 (by rfl) Fx.n_range (se_bop (ox_sub) (se_callB (cx_lenD hx (cx_len hx)) (by rfl) Fx.n_len bb_len (sa_cons (sv 0) sa_nil)) si)) (blkOk_by (N := N__are_pairs) (sc := defScope st__are_pairs) (own := [("k", 4)]) (by decide +kernel)) (kk_name 4) (by decide) (fun _ _ _ _ _ _ => (pg_name (i := 4) sc__are_pairs.nd rfl (by first | exact Or.inl rfl | exact Or.inr rfl))) (fun _ _ _ _ _ _ _ tk => sts_nil) (fun _ _ _ _ _ _ _ tk => (se_cop (ox_lt2 (hx.blk)) (se_ix2 (hx.blk) (se_ix2 (hx.blk) (sv 0) (sv 4) (fun _ _ => rfl)) si (fun _ _ => rfl)) (se_ix2 (hx.blk) (se_ix2 (hx.blk) (sv 0) (se_bop (ox_add (hx.blk)) (sv 4) si) (fun _ _ => rfl)) si (fun _ _ => rfl)) rfl))) sa_nil))))))
noncomputable def B_is_gain : Evs := (esSeq (esIf (etOr (etNot (etTru (evCl true 2 E_is_tuple_of (eaCons (evVar 0) (eaCons (evK (.int 3)) eaNil))))) (etNot (etTru (evCB cAll (eaCons (evLx (eiSeq2 (evSl (evVar 0) eoN (eoS (evK (.int 2))))) (tgName 1) etYes (evAnd (evCl true 1 E_is_number (eaCons (evVar 1) eaNil)) (evBin gGe2 (evVar 1) (evK (.int 1)))) [1]) eaNil)))))
  (esRet (evK (.bl false)))
  esNil)
  (esRet (evCl true 3 E__are_pairs (eaCons (evBin gIx2 (evVar 0) (evK (.int 2))) (eaCons (evBin gIx2 (evVar 0) (evK (.int 0))) (eaCons (evBin gIx2 (evVar 0) (evK (.int 1))) eaNil))))))
noncomputable def E_is_gain : Fn := evFun B_is_gain 2
theorem ok_is_gain (Fx : Facts G mg) : Def G G.P G.w mg base 4 "is_gain" ["thing"] 1 E_is_gain := by
  obtain ⟨f, fd, F, m, b⟩ := Fx.d_is_gain
  refine def_mk F (fn_ok (k := 3) F sc_is_gain B_is_gain (fun cdv A outer s H E hr => ?_)) rfl m b
  have hx : Okx G (cxB G.P G.w G.K mg base N_is_gain "is_gain" (defScope st_is_gain) f cdv A outer s H E) := ⟨rfl, rfl, un_of hr, rfl, rfl⟩
  have hd : Dfx (cxB G.P G.w G.K mg base N_is_gain "is_gain" (defScope st_is_gain) f cdv A outer s H E) := ⟨rfl, rfl⟩
  have tk : Takes (cxB G.P G.w G.K mg base N_is_gain "is_gain" (defScope st_is_gain) f cdv A outer s H E) (WE' E) := takes_of rfl rfl rfl rfl
  have po := passes_of (X := cxB G.P G.w G.K mg base N_is_gain "is_gain" (defScope st_is_gain) f cdv A outer s H E) rfl
  exact (ss_cons (ss_if (st_w (sw_or (st_not (st_tru hx.k (se_cl true hx (ok_is_tuple_of Fx) (hr.mono (by decide)) (by rfl) tk (sa_cons (sv 0) (sa_cons si sa_nil))) (fun _ => rfl))) (sw_or1 (st_not (st_tru hx.k (se_callB (cx_all hx) (by rfl) Fx.n_all bb_all (sa_cons (se_lx (own := [("own", 1)]) hd tk hx.calm sc_is_gain.nd (si_seq2 hx (se_sl hx (sv 0) so_none (so_some si))) (blkOk_by (N := N_is_gain) (sc := defScope st_is_gain) (own := [("own", 1)]) (by decide +kernel)) (kk_name 1) (by decide) (fun _ _ _ _ _ _ => (pg_name (i := 1) sc_is_gain.nd rfl (by first | exact Or.inl rfl | exact Or.inr rfl))) (fun _ _ _ _ _ _ _ tk => sts_nil) (fun _ _ _ _ _ _ _ tk => (se_and (hx.blk).k (se_cl true (hx.blk) (ok_is_number Fx) (hr.mono (by decide)) (by rfl) tk (sa_cons (sv 1) sa_nil)) (se_one (se_cop (ox_ge2 (hx.blk)) (sv 1) si rfl))))) sa_nil)) (fun _ => rfl))))))
  (ss_one (ss_ret (se_k pe_bl)))
  ss_nil)
  (ss_one (ss_ret (se_cl true hx (ok__are_pairs Fx) (hr.mono (by decide)) (by rfl) tk (sa_cons (se_ix2 hx (sv 0) si (fun _ _ => rfl)) (sa_cons (se_ix2 hx (sv 0) si (fun _ _ => rfl)) (sa_cons (se_ix2 hx (sv 0) si (fun _ _ => rfl)) sa_nil)))))))
theorem kw_0 (Fx : Facts G mg) : DefK G G.P G.w mg base 4 "is_gain" 1 E_is_gain 0 ["thing"] [0] := by
  exact dfk_of (ok_is_gain Fx) Fx.d_is_gain (fun _ _ _ _ _ _ us ws h1 h2 => match us, ws, h1, h2 with | [], [_], _, _ => rfl)
noncomputable def B__chances_by : Evs := (esSeq (esSet 3 evDnew)
  (esSeq (esFor 100000 (eiSeq2 (evVar 0)) (tgAny 2 (tgCons (tgName 4) (tgCons (tgName 5) tgNil)))
  (esSeq (esSet 6 (evSl (evVar 4) (eoS (evVar 1)) (eoS (evVar 2))))
  (esStd (evCl true 2 F_plus (eaCons (evBn mGetD (evVar 3) (eaCons (evVar 6) (eaCons (evM c_ZERO_steady) eaNil))) (eaCons (evVar 5) eaNil))) (evVar 3) (evVar 6))))
  (esRet (evVar 3))))
noncomputable def E__chances_by : Fn := evFun B__chances_by 7
theorem ok__chances_by (Fx : Facts G mg) : Def G G.P G.w mg base 3 "_chances_by" ["pairs", "first", "last"] 3 E__chances_by := by
  obtain ⟨f, fd, F, m, b⟩ := Fx.d__chances_by
  obtain ⟨vq_ZERO_steady, aq_ZERO_steady, mq_ZERO_steady, rq_ZERO_steady, wq_ZERO_steady⟩ := Fx.q_ZERO_steady
  refine def_mk F (fn_ok (k := 2) F sc__chances_by B__chances_by (fun cdv A outer s H E hr => ?_)) rfl m b
  have hx : Okx G (cxB G.P G.w G.K mg base N__chances_by "_chances_by" (defScope st__chances_by) f cdv A outer s H E) := ⟨rfl, rfl, un_of hr, rfl, rfl⟩
  have hd : Dfx (cxB G.P G.w G.K mg base N__chances_by "_chances_by" (defScope st__chances_by) f cdv A outer s H E) := ⟨rfl, rfl⟩
  have tk : Takes (cxB G.P G.w G.K mg base N__chances_by "_chances_by" (defScope st__chances_by) f cdv A outer s H E) (WE' E) := takes_of rfl rfl rfl rfl
  have po := passes_of (X := cxB G.P G.w G.K mg base N__chances_by "_chances_by" (defScope st__chances_by) f cdv A outer s H E) rfl
  exact (ss_cons (ss_set (i := 3) sc__chances_by.nd rfl (by first | exact Or.inl rfl | exact Or.inr rfl) (se_dnew hx))
  (ss_cons (ss_for po hx.calm (si_seq2 hx (sv 0)) (tg_any hx (tgs_cons (tg_name (pg_name (i := 4) sc__chances_by.nd rfl (by first | exact Or.inl rfl | exact Or.inr rfl))) (tgs_cons (tg_name (pg_name (i := 5) sc__chances_by.nd rfl (by first | exact Or.inl rfl | exact Or.inr rfl))) tgs_nil)))
  (ss_cons (ss_set (i := 6) sc__chances_by.nd rfl (by first | exact Or.inl rfl | exact Or.inr rfl) (se_sl hx (sv 4) (so_some (sv 1)) (so_some (sv 2))))
  (ss_one (ss_std hx (se_cl true hx (okF_plus Fx) (hr.mono (by decide)) (by rfl) tk (sa_cons (se_bn hx PySem.F.slot_dict_get PySem.F.type_dict_get (mt_getD hx) ms_getD (sv 3) (sa_cons (sv 6) (sa_cons (se_m (pe_glob (v := vq_ZERO_steady) (by rfl) mq_ZERO_steady rq_ZERO_steady) wq_ZERO_steady) sa_nil))) (sa_cons (sv 5) sa_nil))) (sv 3) (sv 6)))))
  (ss_one (ss_ret (sv 3)))))
noncomputable def B_is_stream : Evs := (esSeq (esIf (etOr (etNot (etTru (evCl true 1 E_is_gain (eaCons (evVar 0) eaNil)))) (etTru (evCB cAnyT (eaCons (evLx (eiSeq2 (evBin gIx2 (evVar 0) (evK (.int 2)))) (tgTup 2 (tgCons (tgName 1) (tgCons (tgName 2) tgNil))) etYes (evBin gLt2 (evCl true 1 E_sign_of (eaCons (evVar 2) eaNil)) (evK (.int 0))) [1, 2]) eaNil))))
  (esRet (evK (.bl false)))
  esNil)
  (esSeq (esIf (etBin gNe (evCl true 1 E_sum_of (eaCons (evLx (eiSeq2 (evBin gIx2 (evVar 0) (evK (.int 2)))) (tgTup 2 (tgCons (tgName 1) (tgCons (tgName 2) tgNil))) etYes (evVar 2) [1, 2]) eaNil)) (evM c_ONE))
  (esRet (evK (.bl false)))
  esNil)
  (esRet (evBin gEqDc (evCl true 3 E__chances_by (eaCons (evBin gIx2 (evVar 0) (evK (.int 2))) (eaCons (evK (.int 0)) (eaCons (evBin gSub (evBin gIx2 (evVar 0) (evK (.int 1))) (evK (.int 1))) eaNil)))) (evCl true 3 E__chances_by (eaCons (evBin gIx2 (evVar 0) (evK (.int 2))) (eaCons (evK (.int 1)) (eaCons (evBin gIx2 (evVar 0) (evK (.int 1))) eaNil))))))))
noncomputable def E_is_stream : Fn := evFun B_is_stream 3
theorem ok_is_stream (Fx : Facts G mg) : Def G G.P G.w mg base 5 "is_stream" ["thing"] 1 E_is_stream := by
  obtain ⟨f, fd, F, m, b⟩ := Fx.d_is_stream
  obtain ⟨vq_ONE, aq_ONE, mq_ONE, rq_ONE, wq_ONE⟩ := Fx.q_ONE
  refine def_mk F (fn_ok (k := 4) F sc_is_stream B_is_stream (fun cdv A outer s H E hr => ?_)) rfl m b
  have hx : Okx G (cxB G.P G.w G.K mg base N_is_stream "is_stream" (defScope st_is_stream) f cdv A outer s H E) := ⟨rfl, rfl, un_of hr, rfl, rfl⟩
  have hd : Dfx (cxB G.P G.w G.K mg base N_is_stream "is_stream" (defScope st_is_stream) f cdv A outer s H E) := ⟨rfl, rfl⟩
  have tk : Takes (cxB G.P G.w G.K mg base N_is_stream "is_stream" (defScope st_is_stream) f cdv A outer s H E) (WE' E) := takes_of rfl rfl rfl rfl
  have po := passes_of (X := cxB G.P G.w G.K mg base N_is_stream "is_stream" (defScope st_is_stream) f cdv A outer s H E) rfl
  exact (ss_cons (ss_if (st_w (sw_or (st_not (st_tru hx.k (se_cl true hx (ok_is_gain Fx) (hr.mono (by decide)) (by rfl) tk (sa_cons (sv 0) sa_nil)) (fun _ => rfl))) (sw_or1 (st_tru hx.k (se_callB (cx_anyT hx) (by rfl) Fx.n_any bb_any (sa_cons (se_lx (own := [("_", 1), ("chance", 2)]) hd tk hx.calm sc_is_stream.nd (si_seq2 hx (se_ix2 hx (sv 0) si (fun _ _ => rfl))) (blkOk_by (N := N_is_stream) (sc := defScope st_is_stream) (own := [("_", 1), ("chance", 2)]) (by decide +kernel)) (kk_tup (K := G.K) rfl (kks_cons (kk_name 1) (kks_cons (kk_name 2) kks_nil))) (by decide) (fun _ _ _ _ _ _ => (pg_tup hx.calm (pgs_cons (pg_name (i := 1) sc_is_stream.nd rfl (by first | exact Or.inl rfl | exact Or.inr rfl)) (pgs_cons (pg_name (i := 2) sc_is_stream.nd rfl (by first | exact Or.inl rfl | exact Or.inr rfl)) pgs_nil)))) (fun _ _ _ _ _ _ _ tk => sts_nil) (fun _ _ _ _ _ _ _ tk => (se_cop (ox_lt2 (hx.blk)) (se_cl true (hx.blk) (ok_sign_of Fx) (hr.mono (by decide)) (by rfl) tk (sa_cons (sv 2) sa_nil)) si rfl))) sa_nil)) (fun _ => rfl)))))
  (ss_one (ss_ret (se_k pe_bl)))
  ss_nil)
  (ss_cons (ss_if (st_cop (ox_ne hx) (se_cl true hx (ok_sum_of Fx) (hr.mono (by decide)) (by rfl) tk (sa_cons (se_lx (own := [("_", 1), ("chance", 2)]) hd tk hx.calm sc_is_stream.nd (si_seq2 hx (se_ix2 hx (sv 0) si (fun _ _ => rfl))) (blkOk_by (N := N_is_stream) (sc := defScope st_is_stream) (own := [("_", 1), ("chance", 2)]) (by decide +kernel)) (kk_tup (K := G.K) rfl (kks_cons (kk_name 1) (kks_cons (kk_name 2) kks_nil))) (by decide) (fun _ _ _ _ _ _ => (pg_tup hx.calm (pgs_cons (pg_name (i := 1) sc_is_stream.nd rfl (by first | exact Or.inl rfl | exact Or.inr rfl)) (pgs_cons (pg_name (i := 2) sc_is_stream.nd rfl (by first | exact Or.inl rfl | exact Or.inr rfl)) pgs_nil)))) (fun _ _ _ _ _ _ _ tk => sts_nil) (fun _ _ _ _ _ _ _ tk => (sv 2))) sa_nil)) (se_m (pe_glob (v := vq_ONE) (by rfl) mq_ONE rq_ONE) wq_ONE) rfl)
  (ss_one (ss_ret (se_k pe_bl)))
  ss_nil)
  (ss_one (ss_ret (se_cop (ox_eqDc hx) (se_cl true hx (ok__chances_by Fx) (hr.mono (by decide)) (by rfl) tk (sa_cons (se_ix2 hx (sv 0) si (fun _ _ => rfl)) (sa_cons si (sa_cons (se_bop (ox_sub) (se_ix2 hx (sv 0) si (fun _ _ => rfl)) si) sa_nil)))) (se_cl true hx (ok__chances_by Fx) (hr.mono (by decide)) (by rfl) tk (sa_cons (se_ix2 hx (sv 0) si (fun _ _ => rfl)) (sa_cons si (sa_cons (se_ix2 hx (sv 0) si (fun _ _ => rfl)) sa_nil)))) rfl)))))
theorem kw_1 (Fx : Facts G mg) : DefK G G.P G.w mg base 5 "is_stream" 1 E_is_stream 0 ["thing"] [0] := by
  exact dfk_of (ok_is_stream Fx) Fx.d_is_stream (fun _ _ _ _ _ _ us ws h1 h2 => match us, ws, h1, h2 with | [], [_], _, _ => rfl)
noncomputable def B__round : Evs := (esSeq (esSet 2 (evCB (cLenD cLen) (eaCons (evVar 0) eaNil)))
  (esRet (evLx (eiRng1 (evVar 2)) (tgName 4) etYes (evCB cTup (eaCons (evLc (eiRng1 (evVar 1)) (tgName 3) etYes (evBin gIx2 (evVar 0) (evBin gMod (evBin gAdd (evVar 4) (evVar 3)) (evVar 2))) [3]) eaNil)) [4])))
noncomputable def E__round : Fn := evFun B__round 5
theorem ok__round (Fx : Facts G mg) : Def G G.P G.w mg base 1 "_round" ["ring", "width"] 2 E__round := by
  obtain ⟨f, fd, F, m, b⟩ := Fx.d__round
  refine def_mk F (fn_ok (k := 0) F sc__round B__round (fun cdv A outer s H E hr => ?_)) rfl m b
  have hx : Okx G (cxB G.P G.w G.K mg base N__round "_round" (defScope st__round) f cdv A outer s H E) := ⟨rfl, rfl, un_of hr, rfl, rfl⟩
  have hd : Dfx (cxB G.P G.w G.K mg base N__round "_round" (defScope st__round) f cdv A outer s H E) := ⟨rfl, rfl⟩
  have tk : Takes (cxB G.P G.w G.K mg base N__round "_round" (defScope st__round) f cdv A outer s H E) (WE' E) := takes_of rfl rfl rfl rfl
  have po := passes_of (X := cxB G.P G.w G.K mg base N__round "_round" (defScope st__round) f cdv A outer s H E) rfl
  exact (ss_cons (ss_set (i := 2) sc__round.nd rfl (by first | exact Or.inl rfl | exact Or.inr rfl) (se_callB (cx_lenD hx (cx_len hx)) (by rfl) Fx.n_len bb_len (sa_cons (sv 0) sa_nil)))
  (ss_one (ss_ret (se_lx (own := [("place", 4)]) hd tk hx.calm sc__round.nd (si_rng1 (by rfl) Fx.n_range (sv 2)) (blkOk_by (N := N__round) (sc := defScope st__round) (own := [("place", 4)]) (by decide +kernel)) (kk_name 4) (by decide) (fun _ _ _ _ _ _ => (pg_name (i := 4) sc__round.nd rfl (by first | exact Or.inl rfl | exact Or.inr rfl))) (fun _ _ _ _ _ _ _ tk => sts_nil) (fun _ _ _ _ _ _ _ tk => (se_callTy (cx_tup (hx.blk)) (by rfl) Fx.n_tuple bb_tuple (sa_cons (se_lc (own := [("k", 3)]) (hx.blk).calm sc__round.nd (si_rng1 (by rfl) Fx.n_range (sv 1)) (blkOk_by (N := N__round) (own := [("k", 3)]) (by first | rfl | kernel_rfl)) _ (fun _ _ _ _ _ => (pg_name (i := 3) sc__round.nd rfl (by first | exact Or.inl rfl | exact Or.inr rfl))) (kk_name 3) (fun _ _ _ _ _ => sts_nil) (fun _ _ _ _ _ => (se_ix2 ((hx.blk).blk0) (sv 0) (se_bop (ox_mod) (se_bop (ox_add ((hx.blk).blk0)) (sv 4) (sv 3)) (sv 2)) (fun _ _ => rfl))) (by decide)) sa_nil)))))))
noncomputable def B__gained : Evs := (esRet (evCl true 1 E_sum_of (eaCons (evLx (eiSeq2 (evVar 1)) (tgName 2) etYes (evBn mGetD (evVar 0) (eaCons (evVar 2) (eaCons (evM c_ZERO_steady) eaNil))) [2]) eaNil)))
noncomputable def E__gained : Fn := evFun B__gained 3
theorem ok__gained (Fx : Facts G mg) : Def G G.P G.w mg base 4 "_gained" ["values", "words"] 2 E__gained := by
  obtain ⟨f, fd, F, m, b⟩ := Fx.d__gained
  obtain ⟨vq_ZERO_steady, aq_ZERO_steady, mq_ZERO_steady, rq_ZERO_steady, wq_ZERO_steady⟩ := Fx.q_ZERO_steady
  refine def_mk F (fn_ok (k := 3) F sc__gained B__gained (fun cdv A outer s H E hr => ?_)) rfl m b
  have hx : Okx G (cxB G.P G.w G.K mg base N__gained "_gained" (defScope st__gained) f cdv A outer s H E) := ⟨rfl, rfl, un_of hr, rfl, rfl⟩
  have hd : Dfx (cxB G.P G.w G.K mg base N__gained "_gained" (defScope st__gained) f cdv A outer s H E) := ⟨rfl, rfl⟩
  have tk : Takes (cxB G.P G.w G.K mg base N__gained "_gained" (defScope st__gained) f cdv A outer s H E) (WE' E) := takes_of rfl rfl rfl rfl
  have po := passes_of (X := cxB G.P G.w G.K mg base N__gained "_gained" (defScope st__gained) f cdv A outer s H E) rfl
  exact (ss_one (ss_ret (se_cl true hx (ok_sum_of Fx) (hr.mono (by decide)) (by rfl) tk (sa_cons (se_lx (own := [("word", 2)]) hd tk hx.calm sc__gained.nd (si_seq2 hx (sv 1)) (blkOk_by (N := N__gained) (sc := defScope st__gained) (own := [("word", 2)]) (by decide +kernel)) (kk_name 2) (by decide) (fun _ _ _ _ _ _ => (pg_name (i := 2) sc__gained.nd rfl (by first | exact Or.inl rfl | exact Or.inr rfl))) (fun _ _ _ _ _ _ _ tk => sts_nil) (fun _ _ _ _ _ _ _ tk => (se_bn (hx.blk) PySem.F.slot_dict_get PySem.F.type_dict_get (mt_getD (hx.blk)) ms_getD (sv 0) (sa_cons (sv 2) (sa_cons (se_m (pe_glob (v := vq_ZERO_steady) (by rfl) mq_ZERO_steady rq_ZERO_steady) wq_ZERO_steady) sa_nil))))) sa_nil))))
noncomputable def B_ring_gain : Evs := (esSeq (esAsg (evFg (evCl true 1 (E_tuple_of 11) (eaCons (evVar 0) eaNil))) (tgAny 3 (tgCons (tgName 2) (tgCons (tgName 3) (tgCons (tgName 4) tgNil)))))
  (esRet (evCl true 2 E__gained (eaCons (evCB cDictP (eaCons (evVar 4) eaNil)) (eaCons (evCl true 2 E__round (eaCons (evCB cTup (eaCons (evVar 1) eaNil)) (eaCons (evVar 3) eaNil))) eaNil)))))
noncomputable def E_ring_gain : Fn := evFun B_ring_gain 5
theorem ok_ring_gain (Fx : Facts G mg) : Def G G.P G.w mg base 14 "ring_gain" ["gain", "ring"] 2 E_ring_gain := by
  obtain ⟨f, fd, F, m, b⟩ := Fx.d_ring_gain
  refine def_mk F (fn_ok (k := 13) F sc_ring_gain B_ring_gain (fun cdv A outer s H E hr => ?_)) rfl m b
  have hx : Okx G (cxB G.P G.w G.K mg base N_ring_gain "ring_gain" (defScope st_ring_gain) f cdv A outer s H E) := ⟨rfl, rfl, un_of hr, rfl, rfl⟩
  have hd : Dfx (cxB G.P G.w G.K mg base N_ring_gain "ring_gain" (defScope st_ring_gain) f cdv A outer s H E) := ⟨rfl, rfl⟩
  have tk : Takes (cxB G.P G.w G.K mg base N_ring_gain "ring_gain" (defScope st_ring_gain) f cdv A outer s H E) (WE' E) := takes_of rfl rfl rfl rfl
  have po := passes_of (X := cxB G.P G.w G.K mg base N_ring_gain "ring_gain" (defScope st_ring_gain) f cdv A outer s H E) rfl
  exact (ss_cons (ss_asg (se_fg (se_cl true hx (ok_tuple_of Fx) (hr.mono (by decide)) (by rfl) tk (sa_cons (sv 0) sa_nil))) (tg_any hx (tgs_cons (tg_name (pg_name (i := 2) sc_ring_gain.nd rfl (by first | exact Or.inl rfl | exact Or.inr rfl))) (tgs_cons (tg_name (pg_name (i := 3) sc_ring_gain.nd rfl (by first | exact Or.inl rfl | exact Or.inr rfl))) (tgs_cons (tg_name (pg_name (i := 4) sc_ring_gain.nd rfl (by first | exact Or.inl rfl | exact Or.inr rfl))) tgs_nil)))))
  (ss_one (ss_ret (se_cl true hx (ok__gained Fx) (hr.mono (by decide)) (by rfl) tk (sa_cons (se_callTy (cx_dictP hx) (by rfl) Fx.n_dict bb_dict (sa_cons (sv 4) sa_nil)) (sa_cons (se_cl true hx (ok__round Fx) (hr.mono (by decide)) (by rfl) tk (sa_cons (se_callTy (cx_tup hx) (by rfl) Fx.n_tuple bb_tuple (sa_cons (sv 1) sa_nil)) (sa_cons (sv 3) sa_nil))) sa_nil))))))
theorem kw_2 (Fx : Facts G mg) : DefK G G.P G.w mg base 14 "ring_gain" 2 E_ring_gain 0 ["ring", "gain"] [1, 0] := by
  exact dfk_of (ok_ring_gain Fx) Fx.d_ring_gain (fun _ _ _ _ _ _ us ws h1 h2 => match us, ws, h1, h2 with | [], [_, _], _, _ => rfl)
noncomputable def B__row_chance : Evs := (esSeq (esIf (etBin gLt2 (evCB (cLenD cLen) (eaCons (evVar 2) eaNil)) (evVar 0))
  (esRet (evBn mGetD (evCl true 3 E__chances_by (eaCons (evDf (evVar 1)) (eaCons (evK (.int 0)) (eaCons (evCB (cLenD cLen) (eaCons (evVar 2) eaNil)) eaNil)))) (eaCons (evVar 2) (eaCons (evM c_ZERO_steady) eaNil))))
  esNil)
  (esSeq (esPar 3 4 (eaCons (evCB cDictP (eaCons (evVar 1) eaNil)) (eaCons (evCl true 3 E__chances_by (eaCons (evDf (evVar 1)) (eaCons (evK (.int 0)) (eaCons (evBin gSub (evVar 0) (evK (.int 1))) eaNil)))) eaNil)))
  (esSeq (esSet 5 (evBn mGetD (evVar 3) (eaCons (evSl (evVar 2) eoN (eoS (evVar 0))) (eaCons (evM c_ZERO_steady) eaNil))))
  (esSeq (esFor 100000 (eiRng2 (evK (.int 1)) (evBin gAdd (evBin gSub (evCB (cLenD cLen) (eaCons (evVar 2) eaNil)) (evVar 0)) (evK (.int 1)))) (tgName 6)
  (esIf (etBin gNe (evVar 5) (evM c_ZERO_steady))
  (esSeq (esSet 7 (evSl (evVar 2) (eoS (evVar 6)) (eoS (evBin gAdd (evVar 6) (evVar 0)))))
  (esSet 5 (evCl true 2 F_times (eaCons (evVar 5) (eaCons (evCl true 2 F_over (eaCons (evBn mGetD (evVar 3) (eaCons (evVar 7) (eaCons (evM c_ZERO_steady) eaNil))) (eaCons (evBin gIx2 (evVar 4) (evSl (evVar 7) eoN (eoS (evNeg (evK (.int 1)))))) eaNil))) eaNil)))))
  esNil))
  (esRet (evVar 5))))))
noncomputable def E__row_chance : Fn := evFun B__row_chance 8
theorem ok__row_chance (Fx : Facts G mg) : Def G G.P G.w mg base 4 "_row_chance" ["width", "pairs", "row"] 3 E__row_chance := by
  obtain ⟨f, fd, F, m, b⟩ := Fx.d__row_chance
  obtain ⟨vq_ZERO_steady, aq_ZERO_steady, mq_ZERO_steady, rq_ZERO_steady, wq_ZERO_steady⟩ := Fx.q_ZERO_steady
  refine def_mk F (fn_ok (k := 3) F sc__row_chance B__row_chance (fun cdv A outer s H E hr => ?_)) rfl m b
  have hx : Okx G (cxB G.P G.w G.K mg base N__row_chance "_row_chance" (defScope st__row_chance) f cdv A outer s H E) := ⟨rfl, rfl, un_of hr, rfl, rfl⟩
  have hd : Dfx (cxB G.P G.w G.K mg base N__row_chance "_row_chance" (defScope st__row_chance) f cdv A outer s H E) := ⟨rfl, rfl⟩
  have tk : Takes (cxB G.P G.w G.K mg base N__row_chance "_row_chance" (defScope st__row_chance) f cdv A outer s H E) (WE' E) := takes_of rfl rfl rfl rfl
  have po := passes_of (X := cxB G.P G.w G.K mg base N__row_chance "_row_chance" (defScope st__row_chance) f cdv A outer s H E) rfl
  exact (ss_cons (ss_if (st_cop (ox_lt2 hx) (se_callB (cx_lenD hx (cx_len hx)) (by rfl) Fx.n_len bb_len (sa_cons (sv 2) sa_nil)) (sv 0) rfl)
  (ss_one (ss_ret (se_bn hx PySem.F.slot_dict_get PySem.F.type_dict_get (mt_getD hx) ms_getD (se_cl true hx (ok__chances_by Fx) (hr.mono (by decide)) (by rfl) tk (sa_cons (se_df (sv 1)) (sa_cons si (sa_cons (se_callB (cx_lenD hx (cx_len hx)) (by rfl) Fx.n_len bb_len (sa_cons (sv 2) sa_nil)) sa_nil)))) (sa_cons (sv 2) (sa_cons (se_m (pe_glob (v := vq_ZERO_steady) (by rfl) mq_ZERO_steady rq_ZERO_steady) wq_ZERO_steady) sa_nil)))))
  ss_nil)
  (ss_cons (ss_par (i := 3) (j := 4) hx.calm sc__row_chance.nd rfl rfl (by decide) rfl rfl (sa_cons (se_callTy (cx_dictP hx) (by rfl) Fx.n_dict bb_dict (sa_cons (sv 1) sa_nil)) (sa_cons (se_cl true hx (ok__chances_by Fx) (hr.mono (by decide)) (by rfl) tk (sa_cons (se_df (sv 1)) (sa_cons si (sa_cons (se_bop (ox_sub) (sv 0) si) sa_nil)))) sa_nil)) rfl)
  (ss_cons (ss_set (i := 5) sc__row_chance.nd rfl (by first | exact Or.inl rfl | exact Or.inr rfl) (se_bn hx PySem.F.slot_dict_get PySem.F.type_dict_get (mt_getD hx) ms_getD (sv 3) (sa_cons (se_sl hx (sv 2) so_none (so_some (sv 0))) (sa_cons (se_m (pe_glob (v := vq_ZERO_steady) (by rfl) mq_ZERO_steady rq_ZERO_steady) wq_ZERO_steady) sa_nil))))
  (ss_cons (ss_for po hx.calm (si_rng2 (by rfl) Fx.n_range si (se_bop (ox_add hx) (se_bop (ox_sub) (se_callB (cx_lenD hx (cx_len hx)) (by rfl) Fx.n_len bb_len (sa_cons (sv 2) sa_nil)) (sv 0)) si)) (tg_name (pg_name (i := 6) sc__row_chance.nd rfl (by first | exact Or.inl rfl | exact Or.inr rfl)))
  (ss_one (ss_if (st_cop (ox_ne hx) (sv 5) (se_m (pe_glob (v := vq_ZERO_steady) (by rfl) mq_ZERO_steady rq_ZERO_steady) wq_ZERO_steady) rfl)
  (ss_cons (ss_set (i := 7) sc__row_chance.nd rfl (by first | exact Or.inl rfl | exact Or.inr rfl) (se_sl hx (sv 2) (so_some (sv 6)) (so_some (se_bop (ox_add hx) (sv 6) (sv 0)))))
  (ss_one (ss_set (i := 5) sc__row_chance.nd rfl (by first | exact Or.inl rfl | exact Or.inr rfl) (se_cl true hx (okF_times Fx) (hr.mono (by decide)) (by rfl) tk (sa_cons (sv 5) (sa_cons (se_cl true hx (okF_over Fx) (hr.mono (by decide)) (by rfl) tk (sa_cons (se_bn hx PySem.F.slot_dict_get PySem.F.type_dict_get (mt_getD hx) ms_getD (sv 3) (sa_cons (sv 7) (sa_cons (se_m (pe_glob (v := vq_ZERO_steady) (by rfl) mq_ZERO_steady rq_ZERO_steady) wq_ZERO_steady) sa_nil))) (sa_cons (se_ix2 hx (sv 4) (se_sl hx (sv 7) so_none (so_some (se_neg si))) (fun _ _ => rfl)) sa_nil))) sa_nil))))))
  ss_nil)))
  (ss_one (ss_ret (sv 5)))))))
noncomputable def B_step_gain : Evs := (esSeq (esAsg (evDf (evCl true 1 (E_tuple_of 11) (eaCons (evVar 0) eaNil))) (tgAny 3 (tgCons (tgName 2) (tgCons (tgName 3) (tgCons (tgName 4) tgNil)))))
  (esSeq (esAsg (evFg (evCl true 1 (E_tuple_of 11) (eaCons (evVar 1) eaNil))) (tgAny 3 (tgCons (tgName 5) (tgCons (tgName 6) (tgCons (tgName 7) tgNil)))))
  (esSeq (esIf (etBin gNe (evVar 2) (evVar 5))
  (esRaise0 1)
  esNil)
  (esRet (evCl true 1 E_sum_of (eaCons (evLx (eiSeq2 (evVar 4)) (tgTup 2 (tgCons (tgName 8) (tgCons (tgName 9) tgNil))) etYes (evCl true 2 F_times (eaCons (evVar 9) (eaCons (evCl true 3 E__row_chance (eaCons (evVar 6) (eaCons (evVar 7) (eaCons (evVar 8) eaNil)))) eaNil))) [8, 9]) eaNil))))))
noncomputable def E_step_gain : Fn := evFun B_step_gain 10
theorem ok_step_gain (Fx : Facts G mg) : Def G G.P G.w mg base 14 "step_gain" ["gain", "stream"] 2 E_step_gain := by
  obtain ⟨f, fd, F, m, b⟩ := Fx.d_step_gain
  refine def_mk F (fn_ok (k := 13) F sc_step_gain B_step_gain (fun cdv A outer s H E hr => ?_)) rfl m b
  have hx : Okx G (cxB G.P G.w G.K mg base N_step_gain "step_gain" (defScope st_step_gain) f cdv A outer s H E) := ⟨rfl, rfl, un_of hr, rfl, rfl⟩
  have hd : Dfx (cxB G.P G.w G.K mg base N_step_gain "step_gain" (defScope st_step_gain) f cdv A outer s H E) := ⟨rfl, rfl⟩
  have tk : Takes (cxB G.P G.w G.K mg base N_step_gain "step_gain" (defScope st_step_gain) f cdv A outer s H E) (WE' E) := takes_of rfl rfl rfl rfl
  have po := passes_of (X := cxB G.P G.w G.K mg base N_step_gain "step_gain" (defScope st_step_gain) f cdv A outer s H E) rfl
  exact (ss_cons (ss_asg (se_df (se_cl true hx (ok_tuple_of Fx) (hr.mono (by decide)) (by rfl) tk (sa_cons (sv 0) sa_nil))) (tg_any hx (tgs_cons (tg_name (pg_name (i := 2) sc_step_gain.nd rfl (by first | exact Or.inl rfl | exact Or.inr rfl))) (tgs_cons (tg_name (pg_name (i := 3) sc_step_gain.nd rfl (by first | exact Or.inl rfl | exact Or.inr rfl))) (tgs_cons (tg_name (pg_name (i := 4) sc_step_gain.nd rfl (by first | exact Or.inl rfl | exact Or.inr rfl))) tgs_nil)))))
  (ss_cons (ss_asg (se_fg (se_cl true hx (ok_tuple_of Fx) (hr.mono (by decide)) (by rfl) tk (sa_cons (sv 1) sa_nil))) (tg_any hx (tgs_cons (tg_name (pg_name (i := 5) sc_step_gain.nd rfl (by first | exact Or.inl rfl | exact Or.inr rfl))) (tgs_cons (tg_name (pg_name (i := 6) sc_step_gain.nd rfl (by first | exact Or.inl rfl | exact Or.inr rfl))) (tgs_cons (tg_name (pg_name (i := 7) sc_step_gain.nd rfl (by first | exact Or.inl rfl | exact Or.inr rfl))) tgs_nil)))))
  (ss_cons (ss_if (st_cop (ox_ne hx) (sv 2) (sv 5) rfl)
  (ss_one (ss_raise0 (c := 1) hx tk Fx.x_Unfit (by rfl)))
  ss_nil)
  (ss_one (ss_ret (se_cl true hx (ok_sum_of Fx) (hr.mono (by decide)) (by rfl) tk (sa_cons (se_lx (own := [("word", 8), ("x", 9)]) hd tk hx.calm sc_step_gain.nd (si_seq2 hx (sv 4)) (blkOk_by (N := N_step_gain) (sc := defScope st_step_gain) (own := [("word", 8), ("x", 9)]) (by decide +kernel)) (kk_tup (K := G.K) rfl (kks_cons (kk_name 8) (kks_cons (kk_name 9) kks_nil))) (by decide) (fun _ _ _ _ _ _ => (pg_tup hx.calm (pgs_cons (pg_name (i := 8) sc_step_gain.nd rfl (by first | exact Or.inl rfl | exact Or.inr rfl)) (pgs_cons (pg_name (i := 9) sc_step_gain.nd rfl (by first | exact Or.inl rfl | exact Or.inr rfl)) pgs_nil)))) (fun _ _ _ _ _ _ _ tk => sts_nil) (fun _ _ _ _ _ _ _ tk => (se_cl true (hx.blk) (okF_times Fx) (hr.mono (by decide)) (by rfl) tk (sa_cons (sv 9) (sa_cons (se_cl true (hx.blk) (ok__row_chance Fx) (hr.mono (by decide)) (by rfl) tk (sa_cons (sv 6) (sa_cons (sv 7) (sa_cons (sv 8) sa_nil)))) sa_nil))))) sa_nil)))))))
theorem kw_3 (Fx : Facts G mg) : DefK G G.P G.w mg base 14 "step_gain" 2 E_step_gain 0 ["stream", "gain"] [1, 0] := by
  exact dfk_of (ok_step_gain Fx) Fx.d_step_gain (fun _ _ _ _ _ _ us ws h1 h2 => match us, ws, h1, h2 with | [], [_, _], _, _ => rfl)
noncomputable def B__held_on : Evs := (esSeq (esSet 3 (evBin gAdd (evVar 1) (evBin gMul (evTup (eaCons (evK (.int 0)) eaNil)) (evBin gSub (evVar 2) (evK (.int 1))))))
  (esRet (evCl true 2 F_times (eaCons (evM c_LESS) (eaCons (evCl true 2 E__gained (eaCons (evVar 0) (eaCons (evLx (eiRng1 (evCB (cLenD cLen) (eaCons (evVar 1) eaNil))) (tgName 4) etYes (evSl (evVar 3) (eoS (evVar 4)) (eoS (evBin gAdd (evVar 4) (evVar 2)))) [4]) eaNil))) eaNil)))))
noncomputable def E__held_on : Fn := evFun B__held_on 5
theorem ok__held_on (Fx : Facts G mg) : Def G G.P G.w mg base 5 "_held_on" ["values", "word", "width"] 3 E__held_on := by
  obtain ⟨f, fd, F, m, b⟩ := Fx.d__held_on
  obtain ⟨vq_LESS, aq_LESS, mq_LESS, rq_LESS, wq_LESS⟩ := Fx.q_LESS
  refine def_mk F (fn_ok (k := 4) F sc__held_on B__held_on (fun cdv A outer s H E hr => ?_)) rfl m b
  have hx : Okx G (cxB G.P G.w G.K mg base N__held_on "_held_on" (defScope st__held_on) f cdv A outer s H E) := ⟨rfl, rfl, un_of hr, rfl, rfl⟩
  have hd : Dfx (cxB G.P G.w G.K mg base N__held_on "_held_on" (defScope st__held_on) f cdv A outer s H E) := ⟨rfl, rfl⟩
  have tk : Takes (cxB G.P G.w G.K mg base N__held_on "_held_on" (defScope st__held_on) f cdv A outer s H E) (WE' E) := takes_of rfl rfl rfl rfl
  have po := passes_of (X := cxB G.P G.w G.K mg base N__held_on "_held_on" (defScope st__held_on) f cdv A outer s H E) rfl
  exact (ss_cons (ss_set (i := 3) sc__held_on.nd rfl (by first | exact Or.inl rfl | exact Or.inr rfl) (se_bop (ox_add hx) (sv 1) (se_bop (ox_mul hx) (se_tup (sa_cons si sa_nil)) (se_bop (ox_sub) (sv 2) si))))
  (ss_one (ss_ret (se_cl true hx (okF_times Fx) (hr.mono (by decide)) (by rfl) tk (sa_cons (se_m (pe_glob (v := vq_LESS) (by rfl) mq_LESS rq_LESS) wq_LESS) (sa_cons (se_cl true hx (ok__gained Fx) (hr.mono (by decide)) (by rfl) tk (sa_cons (sv 0) (sa_cons (se_lx (own := [("place", 4)]) hd tk hx.calm sc__held_on.nd (si_rng1 (by rfl) Fx.n_range (se_callB (cx_lenD hx (cx_len hx)) (by rfl) Fx.n_len bb_len (sa_cons (sv 1) sa_nil))) (blkOk_by (N := N__held_on) (sc := defScope st__held_on) (own := [("place", 4)]) (by decide +kernel)) (kk_name 4) (by decide) (fun _ _ _ _ _ _ => (pg_name (i := 4) sc__held_on.nd rfl (by first | exact Or.inl rfl | exact Or.inr rfl))) (fun _ _ _ _ _ _ _ tk => sts_nil) (fun _ _ _ _ _ _ _ tk => (se_sl (hx.blk) (sv 3) (so_some (sv 4)) (so_some (se_bop (ox_add (hx.blk)) (sv 4) (sv 2)))))) sa_nil))) sa_nil))))))
noncomputable def B__is_held : Evs := (esSeq (esAsg (evFg (evVar 0)) (tgAny 3 (tgCons (tgName 2) (tgCons (tgName 3) (tgCons (tgName 4) tgNil)))))
  (esSeq (esSet 5 (evCB cDictP (eaCons (evVar 4) eaNil)))
  (esSeq (esFor 100000 (eiSeq2 (evCl true 2 E__words (eaCons (evVar 2) (eaCons (evVar 3) eaNil)))) (tgName 6)
  (esIf (etBin gNe (evCl true 2 F_minus (eaCons (evBn mGetD (evVar 1) (eaCons (evSl (evVar 6) (eoS (evK (.int 1))) eoN) (eaCons (evM c_ZERO_steady) eaNil))) (eaCons (evBn mGetD (evVar 1) (eaCons (evSl (evVar 6) eoN (eoS (evNeg (evK (.int 1))))) (eaCons (evM c_ZERO_steady) eaNil))) eaNil))) (evBn mGetD (evVar 5) (eaCons (evVar 6) (eaCons (evM c_ZERO_steady) eaNil))))
  (esRet (evK (.bl false)))
  esNil))
  (esRet (evK (.bl true))))))
noncomputable def E__is_held : Fn := evFun B__is_held 7
theorem ok__is_held (Fx : Facts G mg) : Def G G.P G.w mg base 3 "_is_held" ["gain", "held"] 2 E__is_held := by
  obtain ⟨f, fd, F, m, b⟩ := Fx.d__is_held
  obtain ⟨vq_ZERO_steady, aq_ZERO_steady, mq_ZERO_steady, rq_ZERO_steady, wq_ZERO_steady⟩ := Fx.q_ZERO_steady
  refine def_mk F (fn_ok (k := 2) F sc__is_held B__is_held (fun cdv A outer s H E hr => ?_)) rfl m b
  have hx : Okx G (cxB G.P G.w G.K mg base N__is_held "_is_held" (defScope st__is_held) f cdv A outer s H E) := ⟨rfl, rfl, un_of hr, rfl, rfl⟩
  have hd : Dfx (cxB G.P G.w G.K mg base N__is_held "_is_held" (defScope st__is_held) f cdv A outer s H E) := ⟨rfl, rfl⟩
  have tk : Takes (cxB G.P G.w G.K mg base N__is_held "_is_held" (defScope st__is_held) f cdv A outer s H E) (WE' E) := takes_of rfl rfl rfl rfl
  have po := passes_of (X := cxB G.P G.w G.K mg base N__is_held "_is_held" (defScope st__is_held) f cdv A outer s H E) rfl
  exact (ss_cons (ss_asg (se_fg (sv 0)) (tg_any hx (tgs_cons (tg_name (pg_name (i := 2) sc__is_held.nd rfl (by first | exact Or.inl rfl | exact Or.inr rfl))) (tgs_cons (tg_name (pg_name (i := 3) sc__is_held.nd rfl (by first | exact Or.inl rfl | exact Or.inr rfl))) (tgs_cons (tg_name (pg_name (i := 4) sc__is_held.nd rfl (by first | exact Or.inl rfl | exact Or.inr rfl))) tgs_nil)))))
  (ss_cons (ss_set (i := 5) sc__is_held.nd rfl (by first | exact Or.inl rfl | exact Or.inr rfl) (se_callTy (cx_dictP hx) (by rfl) Fx.n_dict bb_dict (sa_cons (sv 4) sa_nil)))
  (ss_cons (ss_for po hx.calm (si_seq2 hx (se_cl true hx (ok__words Fx) (hr.mono (by decide)) (by rfl) tk (sa_cons (sv 2) (sa_cons (sv 3) sa_nil)))) (tg_name (pg_name (i := 6) sc__is_held.nd rfl (by first | exact Or.inl rfl | exact Or.inr rfl)))
  (ss_one (ss_if (st_cop (ox_ne hx) (se_cl true hx (okF_minus Fx) (hr.mono (by decide)) (by rfl) tk (sa_cons (se_bn hx PySem.F.slot_dict_get PySem.F.type_dict_get (mt_getD hx) ms_getD (sv 1) (sa_cons (se_sl hx (sv 6) (so_some si) so_none) (sa_cons (se_m (pe_glob (v := vq_ZERO_steady) (by rfl) mq_ZERO_steady rq_ZERO_steady) wq_ZERO_steady) sa_nil))) (sa_cons (se_bn hx PySem.F.slot_dict_get PySem.F.type_dict_get (mt_getD hx) ms_getD (sv 1) (sa_cons (se_sl hx (sv 6) so_none (so_some (se_neg si))) (sa_cons (se_m (pe_glob (v := vq_ZERO_steady) (by rfl) mq_ZERO_steady rq_ZERO_steady) wq_ZERO_steady) sa_nil))) sa_nil))) (se_bn hx PySem.F.slot_dict_get PySem.F.type_dict_get (mt_getD hx) ms_getD (sv 5) (sa_cons (sv 6) (sa_cons (se_m (pe_glob (v := vq_ZERO_steady) (by rfl) mq_ZERO_steady rq_ZERO_steady) wq_ZERO_steady) sa_nil))) rfl)
  (ss_one (ss_ret (se_k pe_bl)))
  ss_nil)))
  (ss_one (ss_ret (se_k pe_bl))))))
noncomputable def B_store : Evs := (esSeq (esAsg (evFg (evCl true 1 (E_tuple_of 11) (eaCons (evVar 0) eaNil))) (tgAny 3 (tgCons (tgName 1) (tgCons (tgName 2) (tgCons (tgName 3) tgNil)))))
  (esSeq (esPar 4 5 (eaCons (evCB cDictP (eaCons (evVar 3) eaNil)) (eaCons (evLst eaNil) eaNil)))
  (esSeq (esFor 100000 (eiSeq2 (evCl true 2 E__words (eaCons (evVar 1) (eaCons (evBin gSub (evVar 2) (evK (.int 1))) eaNil)))) (tgName 6)
  (esSeq (esSet 7 (evCl true 3 E__held_on (eaCons (evVar 4) (eaCons (evVar 6) (eaCons (evVar 2) eaNil)))))
  (esIf (etBin gNe (evVar 7) (evM c_ZERO_steady))
  (esExpr (evMt mApp (evVar 5) (eaCons (evTup (eaCons (evVar 6) (eaCons (evVar 7) eaNil))) eaNil)))
  esNil)))
  (esSeq (esIf (etNot (etTru (evCl true 2 E__is_held (eaCons (evTupP (eaCons (evVar 1) (eaCons (evVar 2) (eaCons (evVar 3) eaNil)))) (eaCons (evCB cDictD (eaCons (evVar 5) eaNil)) eaNil)))))
  (esRaise0 0)
  esNil)
  (esRet (evCB cTup (eaCons (evVar 5) eaNil)))))))
noncomputable def E_store : Fn := evFun B_store 8
theorem ok_store (Fx : Facts G mg) : Def G G.P G.w mg base 14 "store" ["gain"] 1 E_store := by
  obtain ⟨f, fd, F, m, b⟩ := Fx.d_store
  obtain ⟨vq_ZERO_steady, aq_ZERO_steady, mq_ZERO_steady, rq_ZERO_steady, wq_ZERO_steady⟩ := Fx.q_ZERO_steady
  refine def_mk F (fn_ok (k := 13) F sc_store B_store (fun cdv A outer s H E hr => ?_)) rfl m b
  have hx : Okx G (cxB G.P G.w G.K mg base N_store "store" (defScope st_store) f cdv A outer s H E) := ⟨rfl, rfl, un_of hr, rfl, rfl⟩
  have hd : Dfx (cxB G.P G.w G.K mg base N_store "store" (defScope st_store) f cdv A outer s H E) := ⟨rfl, rfl⟩
  have tk : Takes (cxB G.P G.w G.K mg base N_store "store" (defScope st_store) f cdv A outer s H E) (WE' E) := takes_of rfl rfl rfl rfl
  have po := passes_of (X := cxB G.P G.w G.K mg base N_store "store" (defScope st_store) f cdv A outer s H E) rfl
  exact (ss_cons (ss_asg (se_fg (se_cl true hx (ok_tuple_of Fx) (hr.mono (by decide)) (by rfl) tk (sa_cons (sv 0) sa_nil))) (tg_any hx (tgs_cons (tg_name (pg_name (i := 1) sc_store.nd rfl (by first | exact Or.inl rfl | exact Or.inr rfl))) (tgs_cons (tg_name (pg_name (i := 2) sc_store.nd rfl (by first | exact Or.inl rfl | exact Or.inr rfl))) (tgs_cons (tg_name (pg_name (i := 3) sc_store.nd rfl (by first | exact Or.inl rfl | exact Or.inr rfl))) tgs_nil)))))
  (ss_cons (ss_par (i := 4) (j := 5) hx.calm sc_store.nd rfl rfl (by decide) rfl rfl (sa_cons (se_callTy (cx_dictP hx) (by rfl) Fx.n_dict bb_dict (sa_cons (sv 3) sa_nil)) (sa_cons (se_lst sa_nil) sa_nil)) rfl)
  (ss_cons (ss_for po hx.calm (si_seq2 hx (se_cl true hx (ok__words Fx) (hr.mono (by decide)) (by rfl) tk (sa_cons (sv 1) (sa_cons (se_bop (ox_sub) (sv 2) si) sa_nil)))) (tg_name (pg_name (i := 6) sc_store.nd rfl (by first | exact Or.inl rfl | exact Or.inr rfl)))
  (ss_cons (ss_set (i := 7) sc_store.nd rfl (by first | exact Or.inl rfl | exact Or.inr rfl) (se_cl true hx (ok__held_on Fx) (hr.mono (by decide)) (by rfl) tk (sa_cons (sv 4) (sa_cons (sv 6) (sa_cons (sv 2) sa_nil)))))
  (ss_one (ss_if (st_cop (ox_ne hx) (sv 7) (se_m (pe_glob (v := vq_ZERO_steady) (by rfl) mq_ZERO_steady rq_ZERO_steady) wq_ZERO_steady) rfl)
  (ss_one (ss_expr (se_mt hx PySem.F.slot_list_append PySem.F.type_list_append mt_append ms_app (sv 5) (sa_cons (se_tup (sa_cons (sv 6) (sa_cons (sv 7) sa_nil))) sa_nil))))
  ss_nil))))
  (ss_cons (ss_if (st_not (st_tru hx.k (se_cl true hx (ok__is_held Fx) (hr.mono (by decide)) (by rfl) tk (sa_cons (se_tupP (sa_cons (sv 1) (sa_cons (sv 2) (sa_cons (sv 3) sa_nil)))) (sa_cons (se_callTy (cx_dictD hx) (by rfl) Fx.n_dict bb_dict (sa_cons (sv 5) sa_nil)) sa_nil))) (fun _ => rfl)))
  (ss_one (ss_raise0 (c := 0) hx tk Fx.x_CanNot (by rfl)))
  ss_nil)
  (ss_one (ss_ret (se_callTy (cx_tup hx) (by rfl) Fx.n_tuple bb_tuple (sa_cons (sv 5) sa_nil))))))))
noncomputable def B_is_store : Evs := (esSeq (esSet 0 (evCl true 1 (E_tuple_of 11) (eaCons (evDf (evVar 0)) eaNil)))
  (esRet (evAnd (evCl true 3 E__are_pairs (eaCons (evDf (evVar 1)) (eaCons (evDf (evBin gIx2 (evFg (evVar 0)) (evK (.int 0)))) (eaCons (evBin gSub (evDf (evBin gIx2 (evFg (evVar 0)) (evK (.int 1)))) (evK (.int 1))) eaNil)))) (evCl true 2 E__is_held (eaCons (evVar 0) (eaCons (evCB cDictP (eaCons (evVar 1) eaNil)) eaNil))))))
noncomputable def E_is_store : Fn := evFun B_is_store 2
theorem ok_is_store (Fx : Facts G mg) : Def G G.P G.w mg base 14 "is_store" ["gain", "thing"] 2 E_is_store := by
  obtain ⟨f, fd, F, m, b⟩ := Fx.d_is_store
  refine def_mk F (fn_ok (k := 13) F sc_is_store B_is_store (fun cdv A outer s H E hr => ?_)) rfl m b
  have hx : Okx G (cxB G.P G.w G.K mg base N_is_store "is_store" (defScope st_is_store) f cdv A outer s H E) := ⟨rfl, rfl, un_of hr, rfl, rfl⟩
  have hd : Dfx (cxB G.P G.w G.K mg base N_is_store "is_store" (defScope st_is_store) f cdv A outer s H E) := ⟨rfl, rfl⟩
  have tk : Takes (cxB G.P G.w G.K mg base N_is_store "is_store" (defScope st_is_store) f cdv A outer s H E) (WE' E) := takes_of rfl rfl rfl rfl
  have po := passes_of (X := cxB G.P G.w G.K mg base N_is_store "is_store" (defScope st_is_store) f cdv A outer s H E) rfl
  exact (ss_cons (ss_set (i := 0) sc_is_store.nd rfl (by first | exact Or.inl rfl | exact Or.inr rfl) (se_cl true hx (ok_tuple_of Fx) (hr.mono (by decide)) (by rfl) tk (sa_cons (se_df (sv 0)) sa_nil)))
  (ss_one (ss_ret (se_and hx.k (se_cl true hx (ok__are_pairs Fx) (hr.mono (by decide)) (by rfl) tk (sa_cons (se_df (sv 1)) (sa_cons (se_df (se_ix2 hx (se_fg (sv 0)) si (fun _ _ => rfl))) (sa_cons (se_bop (ox_sub) (se_df (se_ix2 hx (se_fg (sv 0)) si (fun _ _ => rfl))) si) sa_nil)))) (se_one (se_cl true hx (ok__is_held Fx) (hr.mono (by decide)) (by rfl) tk (sa_cons (sv 0) (sa_cons (se_callTy (cx_dictP hx) (by rfl) Fx.n_dict bb_dict (sa_cons (sv 1) sa_nil)) sa_nil))))))))
theorem kw_4 (Fx : Facts G mg) : DefK G G.P G.w mg base 14 "is_store" 2 E_is_store 0 ["thing", "gain"] [1, 0] := by
  exact dfk_of (ok_is_store Fx) Fx.d_is_store (fun _ _ _ _ _ _ us ws h1 h2 => match us, ws, h1, h2 with | [], [_, _], _, _ => rfl)
noncomputable def B_gaining_ring : Evs := (esSeq (esAsg (evFg (evCl true 1 (E_tuple_of 11) (eaCons (evVar 0) eaNil))) (tgAny 3 (tgCons (tgName 1) (tgCons (tgName 2) (tgCons (tgName 3) tgNil)))))
  (esSeq (esSet 4 (evCB cDictP (eaCons (evVar 3) eaNil)))
  (esSeq (esFor 100000 (eiSeq2 (evCl true 2 E__words (eaCons (evVar 1) (eaCons (evVar 2) eaNil)))) (tgName 5)
  (esFor 100000 (eiSeq2 (evTup (eaCons (evTup (eaCons (evK (.int 0)) eaNil)) (eaCons (evBin gAdd (evVar 5) (evBin gMul (evTup (eaCons (evK (.int 0)) eaNil)) (evBin gSub (evVar 2) (evK (.int 1))))) eaNil)))) (tgName 6)
  (esIf (etBin gNe (evCl true 2 E__gained (eaCons (evVar 4) (eaCons (evCl true 2 E__round (eaCons (evVar 6) (eaCons (evVar 2) eaNil))) eaNil))) (evM c_ZERO_steady))
  (esRet (evVar 6))
  esNil)))
  (esRet (evK .non)))))
noncomputable def E_gaining_ring : Fn := evFun B_gaining_ring 7
theorem ok_gaining_ring (Fx : Facts G mg) : Def G G.P G.w mg base 14 "gaining_ring" ["gain"] 1 E_gaining_ring := by
  obtain ⟨f, fd, F, m, b⟩ := Fx.d_gaining_ring
  obtain ⟨vq_ZERO_steady, aq_ZERO_steady, mq_ZERO_steady, rq_ZERO_steady, wq_ZERO_steady⟩ := Fx.q_ZERO_steady
  refine def_mk F (fn_ok (k := 13) F sc_gaining_ring B_gaining_ring (fun cdv A outer s H E hr => ?_)) rfl m b
  have hx : Okx G (cxB G.P G.w G.K mg base N_gaining_ring "gaining_ring" (defScope st_gaining_ring) f cdv A outer s H E) := ⟨rfl, rfl, un_of hr, rfl, rfl⟩
  have hd : Dfx (cxB G.P G.w G.K mg base N_gaining_ring "gaining_ring" (defScope st_gaining_ring) f cdv A outer s H E) := ⟨rfl, rfl⟩
  have tk : Takes (cxB G.P G.w G.K mg base N_gaining_ring "gaining_ring" (defScope st_gaining_ring) f cdv A outer s H E) (WE' E) := takes_of rfl rfl rfl rfl
  have po := passes_of (X := cxB G.P G.w G.K mg base N_gaining_ring "gaining_ring" (defScope st_gaining_ring) f cdv A outer s H E) rfl
  exact (ss_cons (ss_asg (se_fg (se_cl true hx (ok_tuple_of Fx) (hr.mono (by decide)) (by rfl) tk (sa_cons (sv 0) sa_nil))) (tg_any hx (tgs_cons (tg_name (pg_name (i := 1) sc_gaining_ring.nd rfl (by first | exact Or.inl rfl | exact Or.inr rfl))) (tgs_cons (tg_name (pg_name (i := 2) sc_gaining_ring.nd rfl (by first | exact Or.inl rfl | exact Or.inr rfl))) (tgs_cons (tg_name (pg_name (i := 3) sc_gaining_ring.nd rfl (by first | exact Or.inl rfl | exact Or.inr rfl))) tgs_nil)))))
  (ss_cons (ss_set (i := 4) sc_gaining_ring.nd rfl (by first | exact Or.inl rfl | exact Or.inr rfl) (se_callTy (cx_dictP hx) (by rfl) Fx.n_dict bb_dict (sa_cons (sv 3) sa_nil)))
  (ss_cons (ss_for po hx.calm (si_seq2 hx (se_cl true hx (ok__words Fx) (hr.mono (by decide)) (by rfl) tk (sa_cons (sv 1) (sa_cons (sv 2) sa_nil)))) (tg_name (pg_name (i := 5) sc_gaining_ring.nd rfl (by first | exact Or.inl rfl | exact Or.inr rfl)))
  (ss_one (ss_for po hx.calm (si_seq2 hx (se_tup (sa_cons (se_tup (sa_cons si sa_nil)) (sa_cons (se_bop (ox_add hx) (sv 5) (se_bop (ox_mul hx) (se_tup (sa_cons si sa_nil)) (se_bop (ox_sub) (sv 2) si))) sa_nil)))) (tg_name (pg_name (i := 6) sc_gaining_ring.nd rfl (by first | exact Or.inl rfl | exact Or.inr rfl)))
  (ss_one (ss_if (st_cop (ox_ne hx) (se_cl true hx (ok__gained Fx) (hr.mono (by decide)) (by rfl) tk (sa_cons (sv 4) (sa_cons (se_cl true hx (ok__round Fx) (hr.mono (by decide)) (by rfl) tk (sa_cons (sv 6) (sa_cons (sv 2) sa_nil))) sa_nil))) (se_m (pe_glob (v := vq_ZERO_steady) (by rfl) mq_ZERO_steady rq_ZERO_steady) wq_ZERO_steady) rfl)
  (ss_one (ss_ret (sv 6)))
  ss_nil)))))
  (ss_one (ss_ret (se_k pe_non))))))
theorem kw_5 (Fx : Facts G mg) : DefK G G.P G.w mg base 14 "gaining_ring" 1 E_gaining_ring 0 ["gain"] [0] := by
  exact dfk_of (ok_gaining_ring Fx) Fx.d_gaining_ring (fun _ _ _ _ _ _ us ws h1 h2 => match us, ws, h1, h2 with | [], [_], _, _ => rfl)
noncomputable def B__all_bottoms : Evs := (esSeq (esSet 1 (evK (.int 1)))
  (esSeq (esFor 100000 (eiSeq2 (evVar 0)) (tgAny 2 (tgCons (tgName 2) (tgCons (tgName 3) tgNil)))
  (esSet 1 (evBin gMul (evBin gDiv (evVar 1) (evCB cGcd (eaCons (evVar 1) (eaCons (evVar 3) eaNil)))) (evVar 3))))
  (esRet (evVar 1))))
noncomputable def E__all_bottoms : Fn := evFun B__all_bottoms 4
theorem ok__all_bottoms (Fx : Facts G mg) : Def G G.P G.w mg base 1 "_all_bottoms" ["fractions"] 1 E__all_bottoms := by
  obtain ⟨f, fd, F, m, b⟩ := Fx.d__all_bottoms
  refine def_mk F (fn_ok (k := 0) F sc__all_bottoms B__all_bottoms (fun cdv A outer s H E hr => ?_)) rfl m b
  have hx : Okx G (cxB G.P G.w G.K mg base N__all_bottoms "_all_bottoms" (defScope st__all_bottoms) f cdv A outer s H E) := ⟨rfl, rfl, un_of hr, rfl, rfl⟩
  have hd : Dfx (cxB G.P G.w G.K mg base N__all_bottoms "_all_bottoms" (defScope st__all_bottoms) f cdv A outer s H E) := ⟨rfl, rfl⟩
  have tk : Takes (cxB G.P G.w G.K mg base N__all_bottoms "_all_bottoms" (defScope st__all_bottoms) f cdv A outer s H E) (WE' E) := takes_of rfl rfl rfl rfl
  have po := passes_of (X := cxB G.P G.w G.K mg base N__all_bottoms "_all_bottoms" (defScope st__all_bottoms) f cdv A outer s H E) rfl
  exact (ss_cons (ss_set (i := 1) sc__all_bottoms.nd rfl (by first | exact Or.inl rfl | exact Or.inr rfl) si)
  (ss_cons (ss_for po hx.calm (si_seq2 hx (sv 0)) (tg_any hx (tgs_cons (tg_name (pg_name (i := 2) sc__all_bottoms.nd rfl (by first | exact Or.inl rfl | exact Or.inr rfl))) (tgs_cons (tg_name (pg_name (i := 3) sc__all_bottoms.nd rfl (by first | exact Or.inl rfl | exact Or.inr rfl))) tgs_nil)))
  (ss_one (ss_set (i := 1) sc__all_bottoms.nd rfl (by first | exact Or.inl rfl | exact Or.inr rfl) (se_bop (ox_mul hx) (se_bop (ox_div) (sv 1) (se_callG (cx_gcd) (by rfl) Fx.m_gcd (sa_cons (sv 1) (sa_cons (sv 3) sa_nil)))) (sv 3)))))
  (ss_one (ss_ret (sv 1)))))
noncomputable def B__weights : Evs := (esSeq (esAsg (evFg (evVar 0)) (tgAny 3 (tgCons (tgName 2) (tgCons (tgName 3) (tgCons (tgName 4) tgNil)))))
  (esSeq (esPar3 5 6 7 (eaCons (evCl true 1 E__all_bottoms (eaCons (evBin gAdd (evLx (eiSeq2 (evDf (evVar 4))) (tgTup 2 (tgCons (tgName 11) (tgCons (tgName 12) tgNil))) etYes (evVar 12) [11, 12]) (evLst (eaCons (evVar 1) eaNil))) eaNil)) (eaCons (evCB cDictP (eaCons (evVar 4) eaNil)) (eaCons evDnew eaNil))))
  (esSeq (esFor 100000 (eiSeq2 (evCl true 2 E__words (eaCons (evVar 2) (eaCons (evVar 3) eaNil)))) (tgName 8)
  (esSeq (esAsg (evCl true 2 F_minus (eaCons (evBn mGetD (evVar 6) (eaCons (evVar 8) (eaCons (evM c_ZERO_steady) eaNil))) (eaCons (evVar 1) eaNil))) (tgAny 2 (tgCons (tgName 9) (tgCons (tgName 10) tgNil))))
  (esStd (evBin gMul (evVar 9) (evBin gDiv (evVar 5) (evVar 10))) (evVar 7) (evVar 8))))
  (esRet (evTup (eaCons (evVar 7) (eaCons (evVar 5) eaNil)))))))
noncomputable def E__weights : Fn := evFun B__weights 13
theorem ok__weights (Fx : Facts G mg) : Def G G.P G.w mg base 3 "_weights" ["gain", "bound"] 2 E__weights := by
  obtain ⟨f, fd, F, m, b⟩ := Fx.d__weights
  obtain ⟨vq_ZERO_steady, aq_ZERO_steady, mq_ZERO_steady, rq_ZERO_steady, wq_ZERO_steady⟩ := Fx.q_ZERO_steady
  refine def_mk F (fn_ok (k := 2) F sc__weights B__weights (fun cdv A outer s H E hr => ?_)) rfl m b
  have hx : Okx G (cxB G.P G.w G.K mg base N__weights "_weights" (defScope st__weights) f cdv A outer s H E) := ⟨rfl, rfl, un_of hr, rfl, rfl⟩
  have hd : Dfx (cxB G.P G.w G.K mg base N__weights "_weights" (defScope st__weights) f cdv A outer s H E) := ⟨rfl, rfl⟩
  have tk : Takes (cxB G.P G.w G.K mg base N__weights "_weights" (defScope st__weights) f cdv A outer s H E) (WE' E) := takes_of rfl rfl rfl rfl
  have po := passes_of (X := cxB G.P G.w G.K mg base N__weights "_weights" (defScope st__weights) f cdv A outer s H E) rfl
  exact (ss_cons (ss_asg (se_fg (sv 0)) (tg_any hx (tgs_cons (tg_name (pg_name (i := 2) sc__weights.nd rfl (by first | exact Or.inl rfl | exact Or.inr rfl))) (tgs_cons (tg_name (pg_name (i := 3) sc__weights.nd rfl (by first | exact Or.inl rfl | exact Or.inr rfl))) (tgs_cons (tg_name (pg_name (i := 4) sc__weights.nd rfl (by first | exact Or.inl rfl | exact Or.inr rfl))) tgs_nil)))))
  (ss_cons (ss_par3 (i := 5) (j := 6) (k := 7) hx.calm sc__weights.nd rfl rfl rfl (by decide) (by decide) (by decide) rfl rfl rfl (sa_cons (se_cl true hx (ok__all_bottoms Fx) (hr.mono (by decide)) (by rfl) tk (sa_cons (se_bop (ox_add hx) (se_lx (own := [("_", 11), ("x", 12)]) hd tk hx.calm sc__weights.nd (si_seq2 hx (se_df (sv 4))) (blkOk_by (N := N__weights) (sc := defScope st__weights) (own := [("_", 11), ("x", 12)]) (by decide +kernel)) (kk_tup (K := G.K) rfl (kks_cons (kk_name 11) (kks_cons (kk_name 12) kks_nil))) (by decide) (fun _ _ _ _ _ _ => (pg_tup hx.calm (pgs_cons (pg_name (i := 11) sc__weights.nd rfl (by first | exact Or.inl rfl | exact Or.inr rfl)) (pgs_cons (pg_name (i := 12) sc__weights.nd rfl (by first | exact Or.inl rfl | exact Or.inr rfl)) pgs_nil)))) (fun _ _ _ _ _ _ _ tk => sts_nil) (fun _ _ _ _ _ _ _ tk => (sv 12))) (se_lst (sa_cons (sv 1) sa_nil))) sa_nil)) (sa_cons (se_callTy (cx_dictP hx) (by rfl) Fx.n_dict bb_dict (sa_cons (sv 4) sa_nil)) (sa_cons (se_dnew hx) sa_nil))) rfl)
  (ss_cons (ss_for po hx.calm (si_seq2 hx (se_cl true hx (ok__words Fx) (hr.mono (by decide)) (by rfl) tk (sa_cons (sv 2) (sa_cons (sv 3) sa_nil)))) (tg_name (pg_name (i := 8) sc__weights.nd rfl (by first | exact Or.inl rfl | exact Or.inr rfl)))
  (ss_cons (ss_asg (se_cl true hx (okF_minus Fx) (hr.mono (by decide)) (by rfl) tk (sa_cons (se_bn hx PySem.F.slot_dict_get PySem.F.type_dict_get (mt_getD hx) ms_getD (sv 6) (sa_cons (sv 8) (sa_cons (se_m (pe_glob (v := vq_ZERO_steady) (by rfl) mq_ZERO_steady rq_ZERO_steady) wq_ZERO_steady) sa_nil))) (sa_cons (sv 1) sa_nil))) (tg_any hx (tgs_cons (tg_name (pg_name (i := 9) sc__weights.nd rfl (by first | exact Or.inl rfl | exact Or.inr rfl))) (tgs_cons (tg_name (pg_name (i := 10) sc__weights.nd rfl (by first | exact Or.inl rfl | exact Or.inr rfl))) tgs_nil))))
  (ss_one (ss_std hx (se_bop (ox_mul hx) (sv 9) (se_bop (ox_div) (sv 5) (sv 10))) (sv 7) (sv 8)))))
  (ss_one (ss_ret (se_tup (sa_cons (sv 7) (sa_cons (sv 5) sa_nil))))))))
noncomputable def B__ring_back : Evs := (esSeq (esFor 100000 (eiRng1 (evVar 2)) (tgName 3)
  (esSet 1 (evSl (evBin gIx2 (evVar 0) (evVar 1)) eoN (eoS (evNeg (evK (.int 1)))))))
  (esSeq (esPar 4 5 (eaCons (evLst eaNil) (eaCons (evVar 1) eaNil)))
  (esSeq (whileL (etOr (etBin gEq (evVar 4) (evLst eaNil)) (etBin gNe (evVar 1) (evVar 5)))
  (esSeq (esSet 6 (evBin gIx2 (evVar 0) (evVar 1)))
  (esSeq (esExpr (evMt mApp (evVar 4) (eaCons (evBin gIx2 (evVar 6) (evNeg (evK (.int 1)))) eaNil)))
  (esSet 1 (evSl (evVar 6) eoN (eoS (evNeg (evK (.int 1)))))))) 100000)
  (esRet (evTupRev (evVar 4))))))
noncomputable def E__ring_back : Fn := evFun B__ring_back 7
theorem ok__ring_back (Fx : Facts G mg) : Def G G.P G.w mg base 1 "_ring_back" ["came", "part", "many"] 3 E__ring_back := by
  obtain ⟨f, fd, F, m, b⟩ := Fx.d__ring_back
  refine def_mk F (fn_ok (k := 0) F sc__ring_back B__ring_back (fun cdv A outer s H E hr => ?_)) rfl m b
  have hx : Okx G (cxB G.P G.w G.K mg base N__ring_back "_ring_back" (defScope st__ring_back) f cdv A outer s H E) := ⟨rfl, rfl, un_of hr, rfl, rfl⟩
  have hd : Dfx (cxB G.P G.w G.K mg base N__ring_back "_ring_back" (defScope st__ring_back) f cdv A outer s H E) := ⟨rfl, rfl⟩
  have tk : Takes (cxB G.P G.w G.K mg base N__ring_back "_ring_back" (defScope st__ring_back) f cdv A outer s H E) (WE' E) := takes_of rfl rfl rfl rfl
  have po := passes_of (X := cxB G.P G.w G.K mg base N__ring_back "_ring_back" (defScope st__ring_back) f cdv A outer s H E) rfl
  exact (ss_cons (ss_for po hx.calm (si_rng1 (by rfl) Fx.n_range (sv 2)) (tg_name (pg_name (i := 3) sc__ring_back.nd rfl (by first | exact Or.inl rfl | exact Or.inr rfl)))
  (ss_one (ss_set (i := 1) sc__ring_back.nd rfl (by first | exact Or.inl rfl | exact Or.inr rfl) (se_sl hx (se_ix2 hx (sv 0) (sv 1) (fun _ _ => rfl)) so_none (so_some (se_neg si))))))
  (ss_cons (ss_par (i := 4) (j := 5) hx.calm sc__ring_back.nd rfl rfl (by decide) rfl rfl (sa_cons (se_lst sa_nil) (sa_cons (sv 1) sa_nil)) rfl)
  (ss_cons (ss_while po (st_w (sw_or (st_cop (ox_eq hx) (sv 4) (se_lst sa_nil) rfl) (sw_or1 (st_cop (ox_ne hx) (sv 1) (sv 5) rfl))))
  (ss_cons (ss_set (i := 6) sc__ring_back.nd rfl (by first | exact Or.inl rfl | exact Or.inr rfl) (se_ix2 hx (sv 0) (sv 1) (fun _ _ => rfl)))
  (ss_cons (ss_expr (se_mt hx PySem.F.slot_list_append PySem.F.type_list_append mt_append ms_app (sv 4) (sa_cons (se_ix2 hx (sv 6) (se_neg si) (fun _ _ => rfl)) sa_nil)))
  (ss_one (ss_set (i := 1) sc__ring_back.nd rfl (by first | exact Or.inl rfl | exact Or.inr rfl) (se_sl hx (sv 6) so_none (so_some (se_neg si))))))))
  (ss_one (ss_ret (se_tupRev hx (by rfl) Fx.n_tuple (by rfl) Fx.n_reversed (sv 4)))))))
noncomputable def B__chased : Evs := (esSeq (esAsg (evDf (evVar 0)) (tgAny 3 (tgCons (tgName 2) (tgCons (tgName 3) (tgCons (tgName 4) tgNil)))))
  (esSeq (esAsg (evCl true 2 E__weights (eaCons (evVar 0) (eaCons (evVar 1) eaNil))) (tgAny 2 (tgCons (tgName 5) (tgCons (tgName 6) tgNil))))
  (esSeq (esPar 7 8 (eaCons (evDc (eiSeq2 (evCl true 2 E__words (eaCons (evVar 2) (eaCons (evBin gSub (evVar 3) (evK (.int 1))) eaNil)))) (tgName 14) etYes (evVar 14) (evK (.int 0)) [14]) (eaCons evDnew eaNil)))
  (esSeq (esFor 100000 (eiRng1 (evBin gAdd (evCB (cLenD cLen) (eaCons (evVar 7) eaNil)) (evK (.int 1)))) (tgName 9)
  (esSeq (esSet 10 (evK .non))
  (esSeq (esFor 100000 (eiItems (evVar 5)) (tgAny 2 (tgCons (tgName 11) (tgCons (tgName 12) tgNil)))
  (esIf (etBin gGt2 (evBin gAdd (evBin gIx2 (evVar 7) (evSl (evVar 11) eoN (eoS (evNeg (evK (.int 1)))))) (evVar 12)) (evBin gIx2 (evVar 7) (evSl (evVar 11) (eoS (evK (.int 1))) eoN)))
  (esTgw 3 (evTup (eaCons (evBin gAdd (evBin gIx2 (evVar 7) (evSl (evVar 11) eoN (eoS (evNeg (evK (.int 1)))))) (evVar 12)) (eaCons (evVar 11) (eaCons (evSl (evVar 11) (eoS (evK (.int 1))) eoN) eaNil)))) (twCons (twSub (evVar 7) (evSl (evVar 11) (eoS (evK (.int 1))) eoN)) (twCons (twSub (evVar 8) (evSl (evVar 11) (eoS (evK (.int 1))) eoN)) (twCons (twName 10) twNil))))
  esNil))
  (esIf (etBin gIs (evVar 10) (evK .non))
  (esRet (evTup (eaCons (evK .non) (eaCons (evDc (eiItems (evVar 7)) (tgTup 2 (tgCons (tgName 14) (tgCons (tgName 13) tgNil))) etYes (evVar 14) (evCl true 2 F_fraction (eaCons (evVar 13) (eaCons (evVar 6) eaNil))) [14, 13]) eaNil))))
  esNil))))
  (esRet (evTup (eaCons (evCl true 3 E__ring_back (eaCons (evVar 8) (eaCons (evVar 10) (eaCons (evCB (cLenD cLen) (eaCons (evVar 7) eaNil)) eaNil)))) (eaCons (evK .non) eaNil))))))))
noncomputable def E__chased : Fn := evFun B__chased 15
theorem ok__chased (Fx : Facts G mg) : Def G G.P G.w mg base 4 "_chased" ["gain", "bound"] 2 E__chased := by
  obtain ⟨f, fd, F, m, b⟩ := Fx.d__chased
  refine def_mk F (fn_ok (k := 3) F sc__chased B__chased (fun cdv A outer s H E hr => ?_)) rfl m b
  have hx : Okx G (cxB G.P G.w G.K mg base N__chased "_chased" (defScope st__chased) f cdv A outer s H E) := ⟨rfl, rfl, un_of hr, rfl, rfl⟩
  have hd : Dfx (cxB G.P G.w G.K mg base N__chased "_chased" (defScope st__chased) f cdv A outer s H E) := ⟨rfl, rfl⟩
  have tk : Takes (cxB G.P G.w G.K mg base N__chased "_chased" (defScope st__chased) f cdv A outer s H E) (WE' E) := takes_of rfl rfl rfl rfl
  have po := passes_of (X := cxB G.P G.w G.K mg base N__chased "_chased" (defScope st__chased) f cdv A outer s H E) rfl
  exact (ss_cons (ss_asg (se_df (sv 0)) (tg_any hx (tgs_cons (tg_name (pg_name (i := 2) sc__chased.nd rfl (by first | exact Or.inl rfl | exact Or.inr rfl))) (tgs_cons (tg_name (pg_name (i := 3) sc__chased.nd rfl (by first | exact Or.inl rfl | exact Or.inr rfl))) (tgs_cons (tg_name (pg_name (i := 4) sc__chased.nd rfl (by first | exact Or.inl rfl | exact Or.inr rfl))) tgs_nil)))))
  (ss_cons (ss_asg (se_cl true hx (ok__weights Fx) (hr.mono (by decide)) (by rfl) tk (sa_cons (sv 0) (sa_cons (sv 1) sa_nil))) (tg_any hx (tgs_cons (tg_name (pg_name (i := 5) sc__chased.nd rfl (by first | exact Or.inl rfl | exact Or.inr rfl))) (tgs_cons (tg_name (pg_name (i := 6) sc__chased.nd rfl (by first | exact Or.inl rfl | exact Or.inr rfl))) tgs_nil))))
  (ss_cons (ss_par (i := 7) (j := 8) hx.calm sc__chased.nd rfl rfl (by decide) rfl rfl (sa_cons (se_dc (own := [("part", 14)]) hx sc__chased.nd (si_seq2 hx (se_cl true hx (ok__words Fx) (hr.mono (by decide)) (by rfl) tk (sa_cons (sv 2) (sa_cons (se_bop (ox_sub) (sv 3) si) sa_nil)))) (blkOk_by (N := N__chased) (sc := defScope st__chased) (own := [("part", 14)]) (by decide +kernel)) (kk_name 14) (by decide) (fun _ _ _ _ _ => (pg_name (i := 14) sc__chased.nd rfl (by first | exact Or.inl rfl | exact Or.inr rfl))) (fun _ _ _ _ _ => sts_nil) (fun _ _ _ _ _ => (sv 14)) (fun _ _ _ _ _ => si)) (sa_cons (se_dnew hx) sa_nil)) rfl)
  (ss_cons (ss_for po hx.calm (si_rng1 (by rfl) Fx.n_range (se_bop (ox_add hx) (se_callB (cx_lenD hx (cx_len hx)) (by rfl) Fx.n_len bb_len (sa_cons (sv 7) sa_nil)) si)) (tg_name (pg_name (i := 9) sc__chased.nd rfl (by first | exact Or.inl rfl | exact Or.inr rfl)))
  (ss_cons (ss_set (i := 10) sc__chased.nd rfl (by first | exact Or.inl rfl | exact Or.inr rfl) (se_k pe_non))
  (ss_cons (ss_for po hx.calm (si_items hx (sv 5)) (tg_any hx (tgs_cons (tg_name (pg_name (i := 11) sc__chased.nd rfl (by first | exact Or.inl rfl | exact Or.inr rfl))) (tgs_cons (tg_name (pg_name (i := 12) sc__chased.nd rfl (by first | exact Or.inl rfl | exact Or.inr rfl))) tgs_nil)))
  (ss_one (ss_if (st_cop (ox_gt2 hx) (se_bop (ox_add hx) (se_ix2 hx (sv 7) (se_sl hx (sv 11) so_none (so_some (se_neg si))) (fun _ _ => rfl)) (sv 12)) (se_ix2 hx (sv 7) (se_sl hx (sv 11) (so_some si) so_none) (fun _ _ => rfl)) rfl)
  (ss_one (ss_tgw hx (tws_cons (tw_sub hx (sv 7) (se_sl hx (sv 11) (so_some si) so_none)) (tws_cons (tw_sub hx (sv 8) (se_sl hx (sv 11) (so_some si) so_none)) (tws_cons (tw_name (pg_name (i := 10) sc__chased.nd rfl (by first | exact Or.inl rfl | exact Or.inr rfl))) tws_nil))) (se_tup (sa_cons (se_bop (ox_add hx) (se_ix2 hx (sv 7) (se_sl hx (sv 11) so_none (so_some (se_neg si))) (fun _ _ => rfl)) (sv 12)) (sa_cons (sv 11) (sa_cons (se_sl hx (sv 11) (so_some si) so_none) sa_nil))))))
  ss_nil)))
  (ss_one (ss_if (st_cop (ox_is) (sv 10) (se_k pe_non) rfl)
  (ss_one (ss_ret (se_tup (sa_cons (se_k pe_non) (sa_cons (se_dc (own := [("part", 14), ("own", 13)]) hx sc__chased.nd (si_items hx (sv 7)) (blkOk_by (N := N__chased) (sc := defScope st__chased) (own := [("part", 14), ("own", 13)]) (by decide +kernel)) (kk_tup (K := G.K) rfl (kks_cons (kk_name 14) (kks_cons (kk_name 13) kks_nil))) (by decide) (fun _ _ _ _ _ => (pg_tup (hx.blk0).calm (pgs_cons (pg_name (i := 14) sc__chased.nd rfl (by first | exact Or.inl rfl | exact Or.inr rfl)) (pgs_cons (pg_name (i := 13) sc__chased.nd rfl (by first | exact Or.inl rfl | exact Or.inr rfl)) pgs_nil)))) (fun _ _ _ _ _ => sts_nil) (fun _ _ _ _ _ => (sv 14)) (fun _ _ _ _ _ => (se_cl true (hx.blk0) (okF_fraction Fx) (hr.mono (by decide)) (by rfl) Ev.takes0 (sa_cons (sv 13) (sa_cons (sv 6) sa_nil))))) sa_nil)))))
  ss_nil)))))
  (ss_one (ss_ret (se_tup (sa_cons (se_cl true hx (ok__ring_back Fx) (hr.mono (by decide)) (by rfl) tk (sa_cons (sv 8) (sa_cons (sv 10) (sa_cons (se_callB (cx_lenD hx (cx_len hx)) (by rfl) Fx.n_len bb_len (sa_cons (sv 7) sa_nil)) sa_nil)))) (sa_cons (se_k pe_non) sa_nil)))))))))
noncomputable def B__step_round : Evs := (esSeq (esAsg (evFg (evVar 0)) (tgAny 3 (tgCons (tgName 2) (tgCons (tgName 3) (tgCons (tgName 4) tgNil)))))
  (esRet (evCl true 2 F_over (eaCons (evCl true 2 E__gained (eaCons (evCB cDictP (eaCons (evVar 4) eaNil)) (eaCons (evCl true 2 E__round (eaCons (evVar 1) (eaCons (evVar 3) eaNil))) eaNil))) (eaCons (evCl true 1 E_whole (eaCons (evCB (cLenD cLen) (eaCons (evVar 1) eaNil)) eaNil)) eaNil)))))
noncomputable def E__step_round : Fn := evFun B__step_round 5
theorem ok__step_round (Fx : Facts G mg) : Def G G.P G.w mg base 5 "_step_round" ["gain", "ring"] 2 E__step_round := by
  obtain ⟨f, fd, F, m, b⟩ := Fx.d__step_round
  refine def_mk F (fn_ok (k := 4) F sc__step_round B__step_round (fun cdv A outer s H E hr => ?_)) rfl m b
  have hx : Okx G (cxB G.P G.w G.K mg base N__step_round "_step_round" (defScope st__step_round) f cdv A outer s H E) := ⟨rfl, rfl, un_of hr, rfl, rfl⟩
  have hd : Dfx (cxB G.P G.w G.K mg base N__step_round "_step_round" (defScope st__step_round) f cdv A outer s H E) := ⟨rfl, rfl⟩
  have tk : Takes (cxB G.P G.w G.K mg base N__step_round "_step_round" (defScope st__step_round) f cdv A outer s H E) (WE' E) := takes_of rfl rfl rfl rfl
  have po := passes_of (X := cxB G.P G.w G.K mg base N__step_round "_step_round" (defScope st__step_round) f cdv A outer s H E) rfl
  exact (ss_cons (ss_asg (se_fg (sv 0)) (tg_any hx (tgs_cons (tg_name (pg_name (i := 2) sc__step_round.nd rfl (by first | exact Or.inl rfl | exact Or.inr rfl))) (tgs_cons (tg_name (pg_name (i := 3) sc__step_round.nd rfl (by first | exact Or.inl rfl | exact Or.inr rfl))) (tgs_cons (tg_name (pg_name (i := 4) sc__step_round.nd rfl (by first | exact Or.inl rfl | exact Or.inr rfl))) tgs_nil)))))
  (ss_one (ss_ret (se_cl true hx (okF_over Fx) (hr.mono (by decide)) (by rfl) tk (sa_cons (se_cl true hx (ok__gained Fx) (hr.mono (by decide)) (by rfl) tk (sa_cons (se_callTy (cx_dictP hx) (by rfl) Fx.n_dict bb_dict (sa_cons (sv 4) sa_nil)) (sa_cons (se_cl true hx (ok__round Fx) (hr.mono (by decide)) (by rfl) tk (sa_cons (sv 1) (sa_cons (sv 3) sa_nil))) sa_nil))) (sa_cons (se_cl true hx (ok_whole Fx) (hr.mono (by decide)) (by rfl) tk (sa_cons (se_callB (cx_lenD hx (cx_len hx)) (by rfl) Fx.n_len bb_len (sa_cons (sv 1) sa_nil)) sa_nil)) sa_nil))))))
noncomputable def B__best_ring : Evs := (esSeq (esAsg (evTup (eaCons (evK .non) (eaCons (evTup (eaCons (evK (.int 0)) eaNil)) eaNil))) (tgAny 2 (tgCons (tgName 1) (tgCons (tgName 2) tgNil))))
  (esSeq (whileL (etBin gIsN (evVar 2) (evK .non))
  (esSeq (esSet 1 (evVar 2))
  (esSet 2 (evBin gIx2 (evCl true 2 E__chased (eaCons (evVar 0) (eaCons (evCl true 2 E__step_round (eaCons (evVar 0) (eaCons (evVar 1) eaNil))) eaNil))) (evK (.int 0))))) 100000)
  (esRet (evVar 1))))
noncomputable def E__best_ring : Fn := evFun B__best_ring 3
theorem ok__best_ring (Fx : Facts G mg) : Def G G.P G.w mg base 6 "_best_ring" ["gain"] 1 E__best_ring := by
  obtain ⟨f, fd, F, m, b⟩ := Fx.d__best_ring
  refine def_mk F (fn_ok (k := 5) F sc__best_ring B__best_ring (fun cdv A outer s H E hr => ?_)) rfl m b
  have hx : Okx G (cxB G.P G.w G.K mg base N__best_ring "_best_ring" (defScope st__best_ring) f cdv A outer s H E) := ⟨rfl, rfl, un_of hr, rfl, rfl⟩
  have hd : Dfx (cxB G.P G.w G.K mg base N__best_ring "_best_ring" (defScope st__best_ring) f cdv A outer s H E) := ⟨rfl, rfl⟩
  have tk : Takes (cxB G.P G.w G.K mg base N__best_ring "_best_ring" (defScope st__best_ring) f cdv A outer s H E) (WE' E) := takes_of rfl rfl rfl rfl
  have po := passes_of (X := cxB G.P G.w G.K mg base N__best_ring "_best_ring" (defScope st__best_ring) f cdv A outer s H E) rfl
  exact (ss_cons (ss_asg (se_tup (sa_cons (se_k pe_non) (sa_cons (se_tup (sa_cons si sa_nil)) sa_nil))) (tg_any hx (tgs_cons (tg_name (pg_name (i := 1) sc__best_ring.nd rfl (by first | exact Or.inl rfl | exact Or.inr rfl))) (tgs_cons (tg_name (pg_name (i := 2) sc__best_ring.nd rfl (by first | exact Or.inl rfl | exact Or.inr rfl))) tgs_nil))))
  (ss_cons (ss_while po (st_cop (ox_isn) (sv 2) (se_k pe_non) rfl)
  (ss_cons (ss_set (i := 1) sc__best_ring.nd rfl (by first | exact Or.inl rfl | exact Or.inr rfl) (sv 2))
  (ss_one (ss_set (i := 2) sc__best_ring.nd rfl (by first | exact Or.inl rfl | exact Or.inr rfl) (se_ix2 hx (se_cl true hx (ok__chased Fx) (hr.mono (by decide)) (by rfl) tk (sa_cons (sv 0) (sa_cons (se_cl true hx (ok__step_round Fx) (hr.mono (by decide)) (by rfl) tk (sa_cons (sv 0) (sa_cons (sv 1) sa_nil))) sa_nil))) si (fun _ _ => rfl))))))
  (ss_one (ss_ret (sv 1)))))
noncomputable def B_most_step : Evs := (esSeq (esSet 0 (evCl true 1 (E_tuple_of 11) (eaCons (evDf (evVar 0)) eaNil)))
  (esRet (evCl true 2 E__step_round (eaCons (evVar 0) (eaCons (evCl true 1 E__best_ring (eaCons (evVar 0) eaNil)) eaNil)))))
noncomputable def E_most_step : Fn := evFun B_most_step 1
theorem ok_most_step (Fx : Facts G mg) : Def G G.P G.w mg base 14 "most_step" ["gain"] 1 E_most_step := by
  obtain ⟨f, fd, F, m, b⟩ := Fx.d_most_step
  refine def_mk F (fn_ok (k := 13) F sc_most_step B_most_step (fun cdv A outer s H E hr => ?_)) rfl m b
  have hx : Okx G (cxB G.P G.w G.K mg base N_most_step "most_step" (defScope st_most_step) f cdv A outer s H E) := ⟨rfl, rfl, un_of hr, rfl, rfl⟩
  have hd : Dfx (cxB G.P G.w G.K mg base N_most_step "most_step" (defScope st_most_step) f cdv A outer s H E) := ⟨rfl, rfl⟩
  have tk : Takes (cxB G.P G.w G.K mg base N_most_step "most_step" (defScope st_most_step) f cdv A outer s H E) (WE' E) := takes_of rfl rfl rfl rfl
  have po := passes_of (X := cxB G.P G.w G.K mg base N_most_step "most_step" (defScope st_most_step) f cdv A outer s H E) rfl
  exact (ss_cons (ss_set (i := 0) sc_most_step.nd rfl (by first | exact Or.inl rfl | exact Or.inr rfl) (se_cl true hx (ok_tuple_of Fx) (hr.mono (by decide)) (by rfl) tk (sa_cons (se_df (sv 0)) sa_nil)))
  (ss_one (ss_ret (se_cl true hx (ok__step_round Fx) (hr.mono (by decide)) (by rfl) tk (sa_cons (sv 0) (sa_cons (se_cl true hx (ok__best_ring Fx) (hr.mono (by decide)) (by rfl) tk (sa_cons (sv 0) sa_nil)) sa_nil))))))
theorem kw_6 (Fx : Facts G mg) : DefK G G.P G.w mg base 14 "most_step" 1 E_most_step 0 ["gain"] [0] := by
  exact dfk_of (ok_most_step Fx) Fx.d_most_step (fun _ _ _ _ _ _ us ws h1 h2 => match us, ws, h1, h2 with | [], [_], _, _ => rfl)
noncomputable def B_most_ring : Evs := (esRet (evCl true 1 E__best_ring (eaCons (evCl true 1 (E_tuple_of 11) (eaCons (evVar 0) eaNil)) eaNil)))
noncomputable def E_most_ring : Fn := evFun B_most_ring 1
theorem ok_most_ring (Fx : Facts G mg) : Def G G.P G.w mg base 14 "most_ring" ["gain"] 1 E_most_ring := by
  obtain ⟨f, fd, F, m, b⟩ := Fx.d_most_ring
  refine def_mk F (fn_ok (k := 13) F sc_most_ring B_most_ring (fun cdv A outer s H E hr => ?_)) rfl m b
  have hx : Okx G (cxB G.P G.w G.K mg base N_most_ring "most_ring" (defScope st_most_ring) f cdv A outer s H E) := ⟨rfl, rfl, un_of hr, rfl, rfl⟩
  have hd : Dfx (cxB G.P G.w G.K mg base N_most_ring "most_ring" (defScope st_most_ring) f cdv A outer s H E) := ⟨rfl, rfl⟩
  have tk : Takes (cxB G.P G.w G.K mg base N_most_ring "most_ring" (defScope st_most_ring) f cdv A outer s H E) (WE' E) := takes_of rfl rfl rfl rfl
  have po := passes_of (X := cxB G.P G.w G.K mg base N_most_ring "most_ring" (defScope st_most_ring) f cdv A outer s H E) rfl
  exact (ss_one (ss_ret (se_cl true hx (ok__best_ring Fx) (hr.mono (by decide)) (by rfl) tk (sa_cons (se_cl true hx (ok_tuple_of Fx) (hr.mono (by decide)) (by rfl) tk (sa_cons (sv 0) sa_nil)) sa_nil))))
theorem kw_7 (Fx : Facts G mg) : DefK G G.P G.w mg base 14 "most_ring" 1 E_most_ring 0 ["gain"] [0] := by
  exact dfk_of (ok_most_ring Fx) Fx.d_most_ring (fun _ _ _ _ _ _ us ws h1 h2 => match us, ws, h1, h2 with | [], [_], _, _ => rfl)
noncomputable def B_most_store : Evs := (esSeq (esSet 2 (evBin gIx2 (evCl true 2 E__chased (eaCons (evCl true 1 (E_tuple_of 11) (eaCons (evVar 0) eaNil)) (eaCons (evDf (evCl true 1 (E_tuple_of 11) (eaCons (evVar 1) eaNil))) eaNil))) (evK (.int 1))))
  (esSeq (esIf (etBin gIs (evVar 2) (evK .non))
  (esRaise0 0)
  esNil)
  (esRet (evCB cTupP (eaCons (evLx (eiSeq2 (evCB cSorted2 (eaCons (evVar 2) eaNil))) (tgName 3) (etBin gNe (evBin gIx2 (evVar 2) (evVar 3)) (evM c_ZERO_steady)) (evTup (eaCons (evVar 3) (eaCons (evBin gIx2 (evVar 2) (evVar 3)) eaNil))) [3]) eaNil)))))
noncomputable def E_most_store : Fn := evFun B_most_store 4
theorem ok_most_store (Fx : Facts G mg) : Def G G.P G.w mg base 14 "most_store" ["gain", "bound"] 2 E_most_store := by
  obtain ⟨f, fd, F, m, b⟩ := Fx.d_most_store
  obtain ⟨vq_ZERO_steady, aq_ZERO_steady, mq_ZERO_steady, rq_ZERO_steady, wq_ZERO_steady⟩ := Fx.q_ZERO_steady
  refine def_mk F (fn_ok (k := 13) F sc_most_store B_most_store (fun cdv A outer s H E hr => ?_)) rfl m b
  have hx : Okx G (cxB G.P G.w G.K mg base N_most_store "most_store" (defScope st_most_store) f cdv A outer s H E) := ⟨rfl, rfl, un_of hr, rfl, rfl⟩
  have hd : Dfx (cxB G.P G.w G.K mg base N_most_store "most_store" (defScope st_most_store) f cdv A outer s H E) := ⟨rfl, rfl⟩
  have tk : Takes (cxB G.P G.w G.K mg base N_most_store "most_store" (defScope st_most_store) f cdv A outer s H E) (WE' E) := takes_of rfl rfl rfl rfl
  have po := passes_of (X := cxB G.P G.w G.K mg base N_most_store "most_store" (defScope st_most_store) f cdv A outer s H E) rfl
  exact (ss_cons (ss_set (i := 2) sc_most_store.nd rfl (by first | exact Or.inl rfl | exact Or.inr rfl) (se_ix2 hx (se_cl true hx (ok__chased Fx) (hr.mono (by decide)) (by rfl) tk (sa_cons (se_cl true hx (ok_tuple_of Fx) (hr.mono (by decide)) (by rfl) tk (sa_cons (sv 0) sa_nil)) (sa_cons (se_df (se_cl true hx (ok_tuple_of Fx) (hr.mono (by decide)) (by rfl) tk (sa_cons (sv 1) sa_nil))) sa_nil))) si (fun _ _ => rfl)))
  (ss_cons (ss_if (st_cop (ox_is) (sv 2) (se_k pe_non) rfl)
  (ss_one (ss_raise0 (c := 0) hx tk Fx.x_CanNot (by rfl)))
  ss_nil)
  (ss_one (ss_ret (se_callTy (cx_tupP hx) (by rfl) Fx.n_tuple bb_tuple (sa_cons (se_lx (own := [("word", 3)]) hd tk hx.calm sc_most_store.nd (si_seq2 hx (se_callB (cx_sorted2 hx) (by rfl) Fx.n_sorted bb_sorted (sa_cons (sv 2) sa_nil))) (blkOk_by (N := N_most_store) (sc := defScope st_most_store) (own := [("word", 3)]) (by decide +kernel)) (kk_name 3) (by decide) (fun _ _ _ _ _ _ => (pg_name (i := 3) sc_most_store.nd rfl (by first | exact Or.inl rfl | exact Or.inr rfl))) (fun _ _ _ _ _ _ _ tk => (sts_one (st_cop (ox_ne (hx.blk)) (se_ix2 (hx.blk) (sv 2) (sv 3) (fun _ _ => rfl)) (se_m (pe_glob (v := vq_ZERO_steady) (by rfl) mq_ZERO_steady rq_ZERO_steady) wq_ZERO_steady) rfl))) (fun _ _ _ _ _ _ _ tk => (se_tup (sa_cons (sv 3) (sa_cons (se_ix2 (hx.blk) (sv 2) (sv 3) (fun _ _ => rfl)) sa_nil))))) sa_nil))))))
theorem kw_9 (Fx : Facts G mg) : DefK G G.P G.w mg base 14 "most_store" 2 E_most_store 0 ["bound", "gain"] [1, 0] := by
  exact dfk_of (ok_most_store Fx) Fx.d_most_store (fun _ _ _ _ _ _ us ws h1 h2 => match us, ws, h1, h2 with | [], [_, _], _, _ => rfl)
noncomputable def B_is_most_store : Evs := (esSeq (esSet 0 (evCl true 1 (E_tuple_of 11) (eaCons (evDf (evVar 0)) eaNil)))
  (esSeq (esIf (etNot (etTru (evCl true 3 E__are_pairs (eaCons (evDf (evVar 2)) (eaCons (evDf (evBin gIx2 (evFg (evVar 0)) (evK (.int 0)))) (eaCons (evBin gSub (evDf (evBin gIx2 (evFg (evVar 0)) (evK (.int 1)))) (evK (.int 1))) eaNil))))))
  (esRet (evK (.bl false)))
  esNil)
  (esSeq (esPar3 3 4 1 (eaCons (evCB cDictP (eaCons (evVar 2) eaNil)) (eaCons (evCB cDictP (eaCons (evBin gIx2 (evFg (evVar 0)) (evK (.int 2))) eaNil)) (eaCons (evDf (evCl true 1 (E_tuple_of 11) (eaCons (evVar 1) eaNil))) eaNil))))
  (esSeq (esFor 100000 (eiSeq2 (evCl true 2 E__words (eaCons (evDf (evBin gIx2 (evFg (evVar 0)) (evK (.int 0)))) (eaCons (evDf (evBin gIx2 (evFg (evVar 0)) (evK (.int 1)))) eaNil)))) (tgName 5)
  (esSeq (esSet 6 (evCl true 2 F_plus (eaCons (evVar 1) (eaCons (evBn mGetD (evVar 3) (eaCons (evSl (evVar 5) (eoS (evK (.int 1))) eoN) (eaCons (evM c_ZERO_steady) eaNil))) eaNil))))
  (esIf (etBin gLt2 (evCl true 1 E_sign_of (eaCons (evCl true 2 F_minus (eaCons (evVar 6) (eaCons (evCl true 2 F_plus (eaCons (evBn mGetD (evVar 4) (eaCons (evVar 5) (eaCons (evM c_ZERO_steady) eaNil))) (eaCons (evBn mGetD (evVar 3) (eaCons (evSl (evVar 5) eoN (eoS (evNeg (evK (.int 1))))) (eaCons (evM c_ZERO_steady) eaNil))) eaNil))) eaNil))) eaNil)) (evK (.int 0)))
  (esRet (evK (.bl false)))
  esNil)))
  (esRet (evK (.bl true)))))))
noncomputable def E_is_most_store : Fn := evFun B_is_most_store 7
theorem ok_is_most_store (Fx : Facts G mg) : Def G G.P G.w mg base 14 "is_most_store" ["gain", "bound", "thing"] 3 E_is_most_store := by
  obtain ⟨f, fd, F, m, b⟩ := Fx.d_is_most_store
  obtain ⟨vq_ZERO_steady, aq_ZERO_steady, mq_ZERO_steady, rq_ZERO_steady, wq_ZERO_steady⟩ := Fx.q_ZERO_steady
  refine def_mk F (fn_ok (k := 13) F sc_is_most_store B_is_most_store (fun cdv A outer s H E hr => ?_)) rfl m b
  have hx : Okx G (cxB G.P G.w G.K mg base N_is_most_store "is_most_store" (defScope st_is_most_store) f cdv A outer s H E) := ⟨rfl, rfl, un_of hr, rfl, rfl⟩
  have hd : Dfx (cxB G.P G.w G.K mg base N_is_most_store "is_most_store" (defScope st_is_most_store) f cdv A outer s H E) := ⟨rfl, rfl⟩
  have tk : Takes (cxB G.P G.w G.K mg base N_is_most_store "is_most_store" (defScope st_is_most_store) f cdv A outer s H E) (WE' E) := takes_of rfl rfl rfl rfl
  have po := passes_of (X := cxB G.P G.w G.K mg base N_is_most_store "is_most_store" (defScope st_is_most_store) f cdv A outer s H E) rfl
  exact (ss_cons (ss_set (i := 0) sc_is_most_store.nd rfl (by first | exact Or.inl rfl | exact Or.inr rfl) (se_cl true hx (ok_tuple_of Fx) (hr.mono (by decide)) (by rfl) tk (sa_cons (se_df (sv 0)) sa_nil)))
  (ss_cons (ss_if (st_not (st_tru hx.k (se_cl true hx (ok__are_pairs Fx) (hr.mono (by decide)) (by rfl) tk (sa_cons (se_df (sv 2)) (sa_cons (se_df (se_ix2 hx (se_fg (sv 0)) si (fun _ _ => rfl))) (sa_cons (se_bop (ox_sub) (se_df (se_ix2 hx (se_fg (sv 0)) si (fun _ _ => rfl))) si) sa_nil)))) (fun _ => rfl)))
  (ss_one (ss_ret (se_k pe_bl)))
  ss_nil)
  (ss_cons (ss_par3 (i := 3) (j := 4) (k := 1) hx.calm sc_is_most_store.nd rfl rfl rfl (by decide) (by decide) (by decide) rfl rfl rfl (sa_cons (se_callTy (cx_dictP hx) (by rfl) Fx.n_dict bb_dict (sa_cons (sv 2) sa_nil)) (sa_cons (se_callTy (cx_dictP hx) (by rfl) Fx.n_dict bb_dict (sa_cons (se_ix2 hx (se_fg (sv 0)) si (fun _ _ => rfl)) sa_nil)) (sa_cons (se_df (se_cl true hx (ok_tuple_of Fx) (hr.mono (by decide)) (by rfl) tk (sa_cons (sv 1) sa_nil))) sa_nil))) rfl)
  (ss_cons (ss_for po hx.calm (si_seq2 hx (se_cl true hx (ok__words Fx) (hr.mono (by decide)) (by rfl) tk (sa_cons (se_df (se_ix2 hx (se_fg (sv 0)) si (fun _ _ => rfl))) (sa_cons (se_df (se_ix2 hx (se_fg (sv 0)) si (fun _ _ => rfl))) sa_nil)))) (tg_name (pg_name (i := 5) sc_is_most_store.nd rfl (by first | exact Or.inl rfl | exact Or.inr rfl)))
  (ss_cons (ss_set (i := 6) sc_is_most_store.nd rfl (by first | exact Or.inl rfl | exact Or.inr rfl) (se_cl true hx (okF_plus Fx) (hr.mono (by decide)) (by rfl) tk (sa_cons (sv 1) (sa_cons (se_bn hx PySem.F.slot_dict_get PySem.F.type_dict_get (mt_getD hx) ms_getD (sv 3) (sa_cons (se_sl hx (sv 5) (so_some si) so_none) (sa_cons (se_m (pe_glob (v := vq_ZERO_steady) (by rfl) mq_ZERO_steady rq_ZERO_steady) wq_ZERO_steady) sa_nil))) sa_nil))))
  (ss_one (ss_if (st_cop (ox_lt2 hx) (se_cl true hx (ok_sign_of Fx) (hr.mono (by decide)) (by rfl) tk (sa_cons (se_cl true hx (okF_minus Fx) (hr.mono (by decide)) (by rfl) tk (sa_cons (sv 6) (sa_cons (se_cl true hx (okF_plus Fx) (hr.mono (by decide)) (by rfl) tk (sa_cons (se_bn hx PySem.F.slot_dict_get PySem.F.type_dict_get (mt_getD hx) ms_getD (sv 4) (sa_cons (sv 5) (sa_cons (se_m (pe_glob (v := vq_ZERO_steady) (by rfl) mq_ZERO_steady rq_ZERO_steady) wq_ZERO_steady) sa_nil))) (sa_cons (se_bn hx PySem.F.slot_dict_get PySem.F.type_dict_get (mt_getD hx) ms_getD (sv 3) (sa_cons (se_sl hx (sv 5) so_none (so_some (se_neg si))) (sa_cons (se_m (pe_glob (v := vq_ZERO_steady) (by rfl) mq_ZERO_steady rq_ZERO_steady) wq_ZERO_steady) sa_nil))) sa_nil))) sa_nil))) sa_nil)) si rfl)
  (ss_one (ss_ret (se_k pe_bl)))
  ss_nil))))
  (ss_one (ss_ret (se_k pe_bl)))))))
theorem kw_8 (Fx : Facts G mg) : DefK G G.P G.w mg base 14 "is_most_store" 3 E_is_most_store 0 ["thing", "bound", "gain"] [2, 1, 0] := by
  exact dfk_of (ok_is_most_store Fx) Fx.d_is_most_store (fun _ _ _ _ _ _ us ws h1 h2 => match us, ws, h1, h2 with | [], [_, _, _], _, _ => rfl)
noncomputable def B_ring_sum : Evs := (esSeq (esAsg (evTup (eaCons (evDf (evCl true 1 (E_tuple_of 11) (eaCons (evVar 0) eaNil))) (eaCons (evDf (evCl true 1 (E_tuple_of 11) (eaCons (evVar 2) eaNil))) eaNil))) (tgAny 2 (tgCons (tgName 0) (tgCons (tgName 2) tgNil))))
  (esRet (evCl true 1 E_sum_of (eaCons (evLx (eiSeq2 (evCl true 2 E__round (eaCons (evVar 2) (eaCons (evVar 1) eaNil)))) (tgName 3) etYes (evCl true 2 E_value_at (eaCons (evVar 0) (eaCons (evVar 3) eaNil))) [3]) eaNil))))
noncomputable def E_ring_sum : Fn := evFun B_ring_sum 4
theorem ok_ring_sum (Fx : Facts G mg) : Def G G.P G.w mg base 14 "ring_sum" ["form", "n", "rows"] 3 E_ring_sum := by
  obtain ⟨f, fd, F, m, b⟩ := Fx.d_ring_sum
  refine def_mk F (fn_ok (k := 13) F sc_ring_sum B_ring_sum (fun cdv A outer s H E hr => ?_)) rfl m b
  have hx : Okx G (cxB G.P G.w G.K mg base N_ring_sum "ring_sum" (defScope st_ring_sum) f cdv A outer s H E) := ⟨rfl, rfl, un_of hr, rfl, rfl⟩
  have hd : Dfx (cxB G.P G.w G.K mg base N_ring_sum "ring_sum" (defScope st_ring_sum) f cdv A outer s H E) := ⟨rfl, rfl⟩
  have tk : Takes (cxB G.P G.w G.K mg base N_ring_sum "ring_sum" (defScope st_ring_sum) f cdv A outer s H E) (WE' E) := takes_of rfl rfl rfl rfl
  have po := passes_of (X := cxB G.P G.w G.K mg base N_ring_sum "ring_sum" (defScope st_ring_sum) f cdv A outer s H E) rfl
  exact (ss_cons (ss_asg (se_tup (sa_cons (se_df (se_cl true hx (ok_tuple_of Fx) (hr.mono (by decide)) (by rfl) tk (sa_cons (sv 0) sa_nil))) (sa_cons (se_df (se_cl true hx (ok_tuple_of Fx) (hr.mono (by decide)) (by rfl) tk (sa_cons (sv 2) sa_nil))) sa_nil))) (tg_any hx (tgs_cons (tg_name (pg_name (i := 0) sc_ring_sum.nd rfl (by first | exact Or.inl rfl | exact Or.inr rfl))) (tgs_cons (tg_name (pg_name (i := 2) sc_ring_sum.nd rfl (by first | exact Or.inl rfl | exact Or.inr rfl))) tgs_nil))))
  (ss_one (ss_ret (se_cl true hx (ok_sum_of Fx) (hr.mono (by decide)) (by rfl) tk (sa_cons (se_lx (own := [("own", 3)]) hd tk hx.calm sc_ring_sum.nd (si_seq2 hx (se_cl true hx (ok__round Fx) (hr.mono (by decide)) (by rfl) tk (sa_cons (sv 2) (sa_cons (sv 1) sa_nil)))) (blkOk_by (N := N_ring_sum) (sc := defScope st_ring_sum) (own := [("own", 3)]) (by decide +kernel)) (kk_name 3) (by decide) (fun _ _ _ _ _ _ => (pg_name (i := 3) sc_ring_sum.nd rfl (by first | exact Or.inl rfl | exact Or.inr rfl))) (fun _ _ _ _ _ _ _ tk => sts_nil) (fun _ _ _ _ _ _ _ tk => (se_cl true (hx.blk) (ok_value_at Fx) (hr.mono (by decide)) (by rfl) tk (sa_cons (sv 0) (sa_cons (sv 3) sa_nil))))) sa_nil)))))
theorem kw_11 (Fx : Facts G mg) : DefK G G.P G.w mg base 14 "ring_sum" 3 E_ring_sum 0 ["rows", "n", "form"] [2, 1, 0] := by
  exact dfk_of (ok_ring_sum Fx) Fx.d_ring_sum (fun _ _ _ _ _ _ us ws h1 h2 => match us, ws, h1, h2 with | [], [_, _, _], _, _ => rfl)
noncomputable def B__at_places : Evs := (esSeq (esSet 4 (evLst eaNil))
  (esSeq (esFor 100000 (eiSeq2 (evVar 0)) (tgAny 2 (tgCons (tgName 5) (tgCons (tgName 6) tgNil)))
  (esSeq (esPar 7 8 (eaCons (evLx (eiRng1 (evVar 2)) (tgName 11) etYes (evBin gMul (evTup (eaCons (evK (.int 0)) eaNil)) (evVar 3)) [11]) (eaCons (evK (.bl false)) eaNil)))
  (esSeq (esFor 100000 (eiZip2 (eaCons (evVar 5) (eaCons (evVar 1) eaNil))) (tgAny 2 (tgCons (tgName 9) (tgCons (tgName 10) tgNil)))
  (esIf (etBin gIs (evVar 10) (evK .non))
  (esSet 8 (evOr (evVar 8) (evBin gGt2 (evCB cSum (eaCons (evVar 9) eaNil)) (evK (.int 0)))))
  (esStd (evCB cTup (eaCons (evLx (eiZip2 (eaCons (evBin gIx2 (evVar 7) (evVar 10)) (eaCons (evVar 9) eaNil))) (tgTup 2 (tgCons (tgName 13) (tgCons (tgName 12) tgNil))) etYes (evBin gAdd (evVar 13) (evVar 12)) [13, 12]) eaNil)) (evVar 7) (evVar 10))))
  (esIf (etNot (etTru (evVar 8)))
  (esExpr (evMt mApp (evVar 4) (eaCons (evTup (eaCons (evCB cTup (eaCons (evVar 7) eaNil)) (eaCons (evVar 6) eaNil))) eaNil)))
  esNil))))
  (esRet (evVar 4))))
noncomputable def E__at_places : Fn := evFun B__at_places 14
theorem ok__at_places (Fx : Facts G mg) : Def G G.P G.w mg base 1 "_at_places" ["form", "places", "n", "c"] 4 E__at_places := by
  obtain ⟨f, fd, F, m, b⟩ := Fx.d__at_places
  refine def_mk F (fn_ok (k := 0) F sc__at_places B__at_places (fun cdv A outer s H E hr => ?_)) rfl m b
  have hx : Okx G (cxB G.P G.w G.K mg base N__at_places "_at_places" (defScope st__at_places) f cdv A outer s H E) := ⟨rfl, rfl, un_of hr, rfl, rfl⟩
  have hd : Dfx (cxB G.P G.w G.K mg base N__at_places "_at_places" (defScope st__at_places) f cdv A outer s H E) := ⟨rfl, rfl⟩
  have tk : Takes (cxB G.P G.w G.K mg base N__at_places "_at_places" (defScope st__at_places) f cdv A outer s H E) (WE' E) := takes_of rfl rfl rfl rfl
  have po := passes_of (X := cxB G.P G.w G.K mg base N__at_places "_at_places" (defScope st__at_places) f cdv A outer s H E) rfl
  exact (ss_cons (ss_set (i := 4) sc__at_places.nd rfl (by first | exact Or.inl rfl | exact Or.inr rfl) (se_lst sa_nil))
  (ss_cons (ss_for po hx.calm (si_seq2 hx (sv 0)) (tg_any hx (tgs_cons (tg_name (pg_name (i := 5) sc__at_places.nd rfl (by first | exact Or.inl rfl | exact Or.inr rfl))) (tgs_cons (tg_name (pg_name (i := 6) sc__at_places.nd rfl (by first | exact Or.inl rfl | exact Or.inr rfl))) tgs_nil)))
  (ss_cons (ss_par (i := 7) (j := 8) hx.calm sc__at_places.nd rfl rfl (by decide) rfl rfl (sa_cons (se_lx (own := [("_", 11)]) hd tk hx.calm sc__at_places.nd (si_rng1 (by rfl) Fx.n_range (sv 2)) (blkOk_by (N := N__at_places) (sc := defScope st__at_places) (own := [("_", 11)]) (by decide +kernel)) (kk_name 11) (by decide) (fun _ _ _ _ _ _ => (pg_name (i := 11) sc__at_places.nd rfl (by first | exact Or.inl rfl | exact Or.inr rfl))) (fun _ _ _ _ _ _ _ tk => sts_nil) (fun _ _ _ _ _ _ _ tk => (se_bop (ox_mul (hx.blk)) (se_tup (sa_cons si sa_nil)) (sv 3)))) (sa_cons (se_k pe_bl) sa_nil)) rfl)
  (ss_cons (ss_for po hx.calm (si_zip2 hx (by rfl) Fx.n_zip (sa_cons (sv 5) (sa_cons (sv 1) sa_nil))) (tg_any hx (tgs_cons (tg_name (pg_name (i := 9) sc__at_places.nd rfl (by first | exact Or.inl rfl | exact Or.inr rfl))) (tgs_cons (tg_name (pg_name (i := 10) sc__at_places.nd rfl (by first | exact Or.inl rfl | exact Or.inr rfl))) tgs_nil)))
  (ss_one (ss_if (st_cop (ox_is) (sv 10) (se_k pe_non) rfl)
  (ss_one (ss_set (i := 8) sc__at_places.nd rfl (by first | exact Or.inl rfl | exact Or.inr rfl) (se_or hx.k (sv 8) (se_one (se_cop (ox_gt2 hx) (se_callB (cx_sum hx) (by rfl) Fx.n_sum bb_sum (sa_cons (sv 9) sa_nil)) si rfl)))))
  (ss_one (ss_std hx (se_callTy (cx_tup hx) (by rfl) Fx.n_tuple bb_tuple (sa_cons (se_lx (own := [("power", 13), ("more", 12)]) hd tk hx.calm sc__at_places.nd (si_zip2 hx (by rfl) Fx.n_zip (sa_cons (se_ix2 hx (sv 7) (sv 10) (fun _ _ => rfl)) (sa_cons (sv 9) sa_nil))) (blkOk_by (N := N__at_places) (sc := defScope st__at_places) (own := [("power", 13), ("more", 12)]) (by decide +kernel)) (kk_tup (K := G.K) rfl (kks_cons (kk_name 13) (kks_cons (kk_name 12) kks_nil))) (by decide) (fun _ _ _ _ _ _ => (pg_tup hx.calm (pgs_cons (pg_name (i := 13) sc__at_places.nd rfl (by first | exact Or.inl rfl | exact Or.inr rfl)) (pgs_cons (pg_name (i := 12) sc__at_places.nd rfl (by first | exact Or.inl rfl | exact Or.inr rfl)) pgs_nil)))) (fun _ _ _ _ _ _ _ tk => sts_nil) (fun _ _ _ _ _ _ _ tk => (se_bop (ox_add (hx.blk)) (sv 13) (sv 12)))) sa_nil)) (sv 7) (sv 10))))))
  (ss_one (ss_if (st_not (st_tru hx.k (sv 8) (fun _ => rfl)))
  (ss_one (ss_expr (se_mt hx PySem.F.slot_list_append PySem.F.type_list_append mt_append ms_app (sv 4) (sa_cons (se_tup (sa_cons (se_callTy (cx_tup hx) (by rfl) Fx.n_tuple bb_tuple (sa_cons (sv 7) sa_nil)) (sa_cons (sv 6) sa_nil))) sa_nil))))
  ss_nil)))))
  (ss_one (ss_ret (sv 4)))))
noncomputable def B__going_on : Evs := (esSeq (esSet 3 (evLst eaNil))
  (esSeq (esFor 100000 (eiRng1 (evBin gSub (evVar 1) (evK (.int 1)))) (tgName 4)
  (esSeq (esSet 5 (evLx (eiRng1 (evVar 1)) (tgName 6) etYes (evIf (etBin gLt2 (evBin gAdd (evVar 4) (evVar 6)) (evBin gSub (evVar 1) (evK (.int 1)))) (evBin gAdd (evVar 4) (evVar 6)) (evK .non)) [6]))
  (esExpr (evMt mExt2 (evVar 3) (eaCons (evLx (eiSeq2 (evCl true 4 E__at_places (eaCons (evVar 0) (eaCons (evVar 5) (eaCons (evBin gSub (evVar 1) (evK (.int 1))) (eaCons (evVar 2) eaNil)))))) (tgTup 2 (tgCons (tgName 7) (tgCons (tgName 8) tgNil))) etYes (evTup (eaCons (evVar 7) (eaCons (evCl true 2 F_times (eaCons (evM c_LESS) (eaCons (evVar 8) eaNil))) eaNil))) [7, 8]) eaNil)))))
  (esRet (evCl true 1 E_gathered (eaCons (evVar 3) eaNil)))))
noncomputable def E__going_on : Fn := evFun B__going_on 9
theorem ok__going_on (Fx : Facts G mg) : Def G G.P G.w mg base 4 "_going_on" ["form", "n", "c"] 3 E__going_on := by
  obtain ⟨f, fd, F, m, b⟩ := Fx.d__going_on
  obtain ⟨vq_LESS, aq_LESS, mq_LESS, rq_LESS, wq_LESS⟩ := Fx.q_LESS
  refine def_mk F (fn_ok (k := 3) F sc__going_on B__going_on (fun cdv A outer s H E hr => ?_)) rfl m b
  have hx : Okx G (cxB G.P G.w G.K mg base N__going_on "_going_on" (defScope st__going_on) f cdv A outer s H E) := ⟨rfl, rfl, un_of hr, rfl, rfl⟩
  have hd : Dfx (cxB G.P G.w G.K mg base N__going_on "_going_on" (defScope st__going_on) f cdv A outer s H E) := ⟨rfl, rfl⟩
  have tk : Takes (cxB G.P G.w G.K mg base N__going_on "_going_on" (defScope st__going_on) f cdv A outer s H E) (WE' E) := takes_of rfl rfl rfl rfl
  have po := passes_of (X := cxB G.P G.w G.K mg base N__going_on "_going_on" (defScope st__going_on) f cdv A outer s H E) rfl
  exact (ss_cons (ss_set (i := 3) sc__going_on.nd rfl (by first | exact Or.inl rfl | exact Or.inr rfl) (se_lst sa_nil))
  (ss_cons (ss_for po hx.calm (si_rng1 (by rfl) Fx.n_range (se_bop (ox_sub) (sv 1) si)) (tg_name (pg_name (i := 4) sc__going_on.nd rfl (by first | exact Or.inl rfl | exact Or.inr rfl)))
  (ss_cons (ss_setLx (i := 5) (own := [("k", 6)]) hd tk hx.calm sc__going_on.nd rfl rfl (sw_true rfl rfl rfl (by decide +kernel)) (si_rng1 (by rfl) Fx.n_range (sv 1)) (blkOk_by (N := N__going_on) (sc := defScope st__going_on) (own := [("k", 6)]) (by decide +kernel)) (kk_name 6) (by decide) (fun _ _ _ _ _ _ => (pg_name (i := 6) sc__going_on.nd rfl (by first | exact Or.inl rfl | exact Or.inr rfl))) (fun _ _ _ _ _ _ _ tk => sts_nil) (fun _ _ _ _ _ _ _ tk => (se_if (st_cop (ox_lt2 (hx.blk)) (se_bop (ox_add (hx.blk)) (sv 4) (sv 6)) (se_bop (ox_sub) (sv 1) si) rfl) (se_bop (ox_add (hx.blk)) (sv 4) (sv 6)) (se_k pe_non))))
  (ss_one (ss_expr (se_mt hx PySem.F.slot_list_extend PySem.F.type_list_extend (mt_extend2G hx) ms_ext2 (sv 3) (sa_cons (se_lx (own := [("powers", 7), ("x", 8)]) hd tk hx.calm sc__going_on.nd (si_seq2 hx (se_cl true hx (ok__at_places Fx) (hr.mono (by decide)) (by rfl) tk (sa_cons (sv 0) (sa_cons (sv 5) (sa_cons (se_bop (ox_sub) (sv 1) si) (sa_cons (sv 2) sa_nil)))))) (blkOk_by (N := N__going_on) (sc := defScope st__going_on) (own := [("powers", 7), ("x", 8)]) (by decide +kernel)) (kk_tup (K := G.K) rfl (kks_cons (kk_name 7) (kks_cons (kk_name 8) kks_nil))) (by decide) (fun _ _ _ _ _ _ => (pg_tup hx.calm (pgs_cons (pg_name (i := 7) sc__going_on.nd rfl (by first | exact Or.inl rfl | exact Or.inr rfl)) (pgs_cons (pg_name (i := 8) sc__going_on.nd rfl (by first | exact Or.inl rfl | exact Or.inr rfl)) pgs_nil)))) (fun _ _ _ _ _ _ _ tk => sts_nil) (fun _ _ _ _ _ _ _ tk => (se_tup (sa_cons (sv 7) (sa_cons (se_cl true (hx.blk) (okF_times Fx) (hr.mono (by decide)) (by rfl) tk (sa_cons (se_m (pe_glob (v := vq_LESS) (by rfl) mq_LESS rq_LESS) wq_LESS) (sa_cons (sv 8) sa_nil))) sa_nil))))) sa_nil))))))
  (ss_one (ss_ret (se_cl true hx (ok_gathered Fx) (hr.mono (by decide)) (by rfl) tk (sa_cons (sv 3) sa_nil))))))
noncomputable def B__store_of : Evs := (esSeq (esSet 3 (evCl true 3 E__going_on (eaCons (evVar 0) (eaCons (evVar 1) (eaCons (evVar 2) eaNil)))))
  (esSeq (esPar 4 5 (eaCons (evCl true 4 E__at_places (eaCons (evVar 3) (eaCons (evListRg (erTwo (evK (.int 1)) (evVar 1))) (eaCons (evVar 1) (eaCons (evVar 2) eaNil))))) (eaCons (evCl true 4 E__at_places (eaCons (evVar 3) (eaCons (evListRg (erOne (evBin gSub (evVar 1) (evK (.int 1))))) (eaCons (evVar 1) (eaCons (evVar 2) eaNil))))) eaNil)))
  (esRet (evIf (etBin gEq (evCl true 1 E_gathered (eaCons (evBin gAdd (evVar 4) (evLx (eiSeq2 (evVar 5)) (tgTup 2 (tgCons (tgName 6) (tgCons (tgName 7) tgNil))) etYes (evTup (eaCons (evVar 6) (eaCons (evCl true 2 F_times (eaCons (evM c_LESS) (eaCons (evVar 7) eaNil))) eaNil))) [6, 7])) eaNil)) (evVar 0)) (evVar 3) (evK .non)))))
noncomputable def E__store_of : Fn := evFun B__store_of 8
theorem ok__store_of (Fx : Facts G mg) : Def G G.P G.w mg base 5 "_store_of" ["form", "n", "c"] 3 E__store_of := by
  obtain ⟨f, fd, F, m, b⟩ := Fx.d__store_of
  obtain ⟨vq_LESS, aq_LESS, mq_LESS, rq_LESS, wq_LESS⟩ := Fx.q_LESS
  refine def_mk F (fn_ok (k := 4) F sc__store_of B__store_of (fun cdv A outer s H E hr => ?_)) rfl m b
  have hx : Okx G (cxB G.P G.w G.K mg base N__store_of "_store_of" (defScope st__store_of) f cdv A outer s H E) := ⟨rfl, rfl, un_of hr, rfl, rfl⟩
  have hd : Dfx (cxB G.P G.w G.K mg base N__store_of "_store_of" (defScope st__store_of) f cdv A outer s H E) := ⟨rfl, rfl⟩
  have tk : Takes (cxB G.P G.w G.K mg base N__store_of "_store_of" (defScope st__store_of) f cdv A outer s H E) (WE' E) := takes_of rfl rfl rfl rfl
  have po := passes_of (X := cxB G.P G.w G.K mg base N__store_of "_store_of" (defScope st__store_of) f cdv A outer s H E) rfl
  exact (ss_cons (ss_set (i := 3) sc__store_of.nd rfl (by first | exact Or.inl rfl | exact Or.inr rfl) (se_cl true hx (ok__going_on Fx) (hr.mono (by decide)) (by rfl) tk (sa_cons (sv 0) (sa_cons (sv 1) (sa_cons (sv 2) sa_nil)))))
  (ss_cons (ss_par (i := 4) (j := 5) hx.calm sc__store_of.nd rfl rfl (by decide) rfl rfl (sa_cons (se_cl true hx (ok__at_places Fx) (hr.mono (by decide)) (by rfl) tk (sa_cons (sv 3) (sa_cons (se_listRg hx (by rfl) Fx.n_list (sr_two (by rfl) Fx.n_range si (sv 1))) (sa_cons (sv 1) (sa_cons (sv 2) sa_nil))))) (sa_cons (se_cl true hx (ok__at_places Fx) (hr.mono (by decide)) (by rfl) tk (sa_cons (sv 3) (sa_cons (se_listRg hx (by rfl) Fx.n_list (sr_one (by rfl) Fx.n_range (se_bop (ox_sub) (sv 1) si))) (sa_cons (sv 1) (sa_cons (sv 2) sa_nil))))) sa_nil)) rfl)
  (ss_one (ss_ret (se_if (st_cop (ox_eq hx) (se_cl true hx (ok_gathered Fx) (hr.mono (by decide)) (by rfl) tk (sa_cons (se_bop (ox_add hx) (sv 4) (se_lx (own := [("powers", 6), ("x", 7)]) hd tk hx.calm sc__store_of.nd (si_seq2 hx (sv 5)) (blkOk_by (N := N__store_of) (sc := defScope st__store_of) (own := [("powers", 6), ("x", 7)]) (by decide +kernel)) (kk_tup (K := G.K) rfl (kks_cons (kk_name 6) (kks_cons (kk_name 7) kks_nil))) (by decide) (fun _ _ _ _ _ _ => (pg_tup hx.calm (pgs_cons (pg_name (i := 6) sc__store_of.nd rfl (by first | exact Or.inl rfl | exact Or.inr rfl)) (pgs_cons (pg_name (i := 7) sc__store_of.nd rfl (by first | exact Or.inl rfl | exact Or.inr rfl)) pgs_nil)))) (fun _ _ _ _ _ _ _ tk => sts_nil) (fun _ _ _ _ _ _ _ tk => (se_tup (sa_cons (sv 6) (sa_cons (se_cl true (hx.blk) (okF_times Fx) (hr.mono (by decide)) (by rfl) tk (sa_cons (se_m (pe_glob (v := vq_LESS) (by rfl) mq_LESS rq_LESS) wq_LESS) (sa_cons (sv 7) sa_nil))) sa_nil)))))) sa_nil)) (sv 0) rfl) (sv 3) (se_k pe_non))))))
noncomputable def B_form_store : Evs := (esSeq (esSet 3 (evCl true 3 E__store_of (eaCons (evDf (evCl true 1 (E_tuple_of 11) (eaCons (evVar 0) eaNil))) (eaCons (evVar 1) (eaCons (evVar 2) eaNil)))))
  (esSeq (esIf (etBin gIs (evVar 3) (evK .non))
  (esRaise0 0)
  esNil)
  (esRet (evVar 3))))
noncomputable def E_form_store : Fn := evFun B_form_store 4
theorem ok_form_store (Fx : Facts G mg) : Def G G.P G.w mg base 14 "form_store" ["form", "n", "c"] 3 E_form_store := by
  obtain ⟨f, fd, F, m, b⟩ := Fx.d_form_store
  refine def_mk F (fn_ok (k := 13) F sc_form_store B_form_store (fun cdv A outer s H E hr => ?_)) rfl m b
  have hx : Okx G (cxB G.P G.w G.K mg base N_form_store "form_store" (defScope st_form_store) f cdv A outer s H E) := ⟨rfl, rfl, un_of hr, rfl, rfl⟩
  have hd : Dfx (cxB G.P G.w G.K mg base N_form_store "form_store" (defScope st_form_store) f cdv A outer s H E) := ⟨rfl, rfl⟩
  have tk : Takes (cxB G.P G.w G.K mg base N_form_store "form_store" (defScope st_form_store) f cdv A outer s H E) (WE' E) := takes_of rfl rfl rfl rfl
  have po := passes_of (X := cxB G.P G.w G.K mg base N_form_store "form_store" (defScope st_form_store) f cdv A outer s H E) rfl
  exact (ss_cons (ss_set (i := 3) sc_form_store.nd rfl (by first | exact Or.inl rfl | exact Or.inr rfl) (se_cl true hx (ok__store_of Fx) (hr.mono (by decide)) (by rfl) tk (sa_cons (se_df (se_cl true hx (ok_tuple_of Fx) (hr.mono (by decide)) (by rfl) tk (sa_cons (sv 0) sa_nil))) (sa_cons (sv 1) (sa_cons (sv 2) sa_nil)))))
  (ss_cons (ss_if (st_cop (ox_is) (sv 3) (se_k pe_non) rfl)
  (ss_one (ss_raise0 (c := 0) hx tk Fx.x_CanNot (by rfl)))
  ss_nil)
  (ss_one (ss_ret (sv 3)))))
theorem kw_10 (Fx : Facts G mg) : DefK G G.P G.w mg base 14 "form_store" 3 E_form_store 0 ["c", "n", "form"] [2, 1, 0] := by
  exact dfk_of (ok_form_store Fx) Fx.d_form_store (fun _ _ _ _ _ _ us ws h1 h2 => match us, ws, h1, h2 with | [], [_, _, _], _, _ => rfl)
noncomputable def B__with_number : Evs := (esSeq (esSet 4 (evLst eaNil))
  (esSeq (esFor 100000 (eiSeq2 (evVar 0)) (tgAny 2 (tgCons (tgName 5) (tgCons (tgName 6) tgNil)))
  (esSeq (esSet 7 (evBin gIx2 (evVar 5) (evVar 1)))
  (esSeq (esSet 8 (evBin gAdd (evBin gAdd (evSl (evVar 7) eoN (eoS (evVar 2))) (evTup (eaCons (evK (.int 0)) eaNil))) (evSl (evVar 7) (eoS (evBin gAdd (evVar 2) (evK (.int 1)))) eoN)))
  (esExpr (evMt mApp (evVar 4) (eaCons (evTup (eaCons (evBin gAdd (evBin gAdd (evSl (evVar 5) eoN (eoS (evVar 1))) (evTup (eaCons (evVar 8) eaNil))) (evSl (evVar 5) (eoS (evBin gAdd (evVar 1) (evK (.int 1)))) eoN)) (eaCons (evCl true 2 F_times (eaCons (evVar 6) (eaCons (evCl true 2 E_power_of (eaCons (evVar 3) (eaCons (evBin gIx2 (evVar 7) (evVar 2)) eaNil))) eaNil))) eaNil))) eaNil))))))
  (esRet (evCl true 1 E_gathered (eaCons (evVar 4) eaNil)))))
noncomputable def E__with_number : Fn := evFun B__with_number 9
theorem ok__with_number (Fx : Facts G mg) : Def G G.P G.w mg base 4 "_with_number" ["form", "sample", "column", "number"] 4 E__with_number := by
  obtain ⟨f, fd, F, m, b⟩ := Fx.d__with_number
  refine def_mk F (fn_ok (k := 3) F sc__with_number B__with_number (fun cdv A outer s H E hr => ?_)) rfl m b
  have hx : Okx G (cxB G.P G.w G.K mg base N__with_number "_with_number" (defScope st__with_number) f cdv A outer s H E) := ⟨rfl, rfl, un_of hr, rfl, rfl⟩
  have hd : Dfx (cxB G.P G.w G.K mg base N__with_number "_with_number" (defScope st__with_number) f cdv A outer s H E) := ⟨rfl, rfl⟩
  have tk : Takes (cxB G.P G.w G.K mg base N__with_number "_with_number" (defScope st__with_number) f cdv A outer s H E) (WE' E) := takes_of rfl rfl rfl rfl
  have po := passes_of (X := cxB G.P G.w G.K mg base N__with_number "_with_number" (defScope st__with_number) f cdv A outer s H E) rfl
  exact (ss_cons (ss_set (i := 4) sc__with_number.nd rfl (by first | exact Or.inl rfl | exact Or.inr rfl) (se_lst sa_nil))
  (ss_cons (ss_for po hx.calm (si_seq2 hx (sv 0)) (tg_any hx (tgs_cons (tg_name (pg_name (i := 5) sc__with_number.nd rfl (by first | exact Or.inl rfl | exact Or.inr rfl))) (tgs_cons (tg_name (pg_name (i := 6) sc__with_number.nd rfl (by first | exact Or.inl rfl | exact Or.inr rfl))) tgs_nil)))
  (ss_cons (ss_set (i := 7) sc__with_number.nd rfl (by first | exact Or.inl rfl | exact Or.inr rfl) (se_ix2 hx (sv 5) (sv 1) (fun _ _ => rfl)))
  (ss_cons (ss_set (i := 8) sc__with_number.nd rfl (by first | exact Or.inl rfl | exact Or.inr rfl) (se_bop (ox_add hx) (se_bop (ox_add hx) (se_sl hx (sv 7) so_none (so_some (sv 2))) (se_tup (sa_cons si sa_nil))) (se_sl hx (sv 7) (so_some (se_bop (ox_add hx) (sv 2) si)) so_none)))
  (ss_one (ss_expr (se_mt hx PySem.F.slot_list_append PySem.F.type_list_append mt_append ms_app (sv 4) (sa_cons (se_tup (sa_cons (se_bop (ox_add hx) (se_bop (ox_add hx) (se_sl hx (sv 5) so_none (so_some (sv 1))) (se_tup (sa_cons (sv 8) sa_nil))) (se_sl hx (sv 5) (so_some (se_bop (ox_add hx) (sv 1) si)) so_none)) (sa_cons (se_cl true hx (okF_times Fx) (hr.mono (by decide)) (by rfl) tk (sa_cons (sv 6) (sa_cons (se_cl true hx (ok_power_of Fx) (hr.mono (by decide)) (by rfl) tk (sa_cons (sv 3) (sa_cons (se_ix2 hx (sv 7) (sv 2) (fun _ _ => rfl)) sa_nil))) sa_nil))) sa_nil))) sa_nil)))))))
  (ss_one (ss_ret (se_cl true hx (ok_gathered Fx) (hr.mono (by decide)) (by rfl) tk (sa_cons (sv 4) sa_nil))))))
noncomputable def B__rows_for : Evs := (esSeq (esSet 3 (evLst eaNil))
  (esSeq (esFor 100000 (eiRng1 (evVar 1)) (tgName 4)
  (esSeq (esSet 5 (evLst eaNil))
  (esSeq (esFor 100000 (eiRng1 (evVar 2)) (tgName 6)
  (esSeq (esSet 7 (evK (.int 0)))
  (esSeq (whileL (etBin gEq (evCl true 4 E__with_number (eaCons (evVar 0) (eaCons (evVar 4) (eaCons (evVar 6) (eaCons (evCl true 1 E_whole (eaCons (evVar 7) eaNil)) eaNil))))) (evTup eaNil))
  (esAug 7 (g2I (fun _ _ => true) Int.add) (evK (.int 1))) 100000)
  (esSeq (esExpr (evMt mApp (evVar 5) (eaCons (evCl true 1 E_whole (eaCons (evVar 7) eaNil)) eaNil)))
  (esSet 0 (evCl true 4 E__with_number (eaCons (evVar 0) (eaCons (evVar 4) (eaCons (evVar 6) (eaCons (evCl true 1 E_whole (eaCons (evVar 7) eaNil)) eaNil))))))))))
  (esExpr (evMt mApp (evVar 3) (eaCons (evCB cTup (eaCons (evVar 5) eaNil)) eaNil))))))
  (esRet (evCB cTup (eaCons (evVar 3) eaNil)))))
noncomputable def E__rows_for : Fn := evFun B__rows_for 8
theorem ok__rows_for (Fx : Facts G mg) : Def G G.P G.w mg base 5 "_rows_for" ["form", "n", "c"] 3 E__rows_for := by
  obtain ⟨f, fd, F, m, b⟩ := Fx.d__rows_for
  refine def_mk F (fn_ok (k := 4) F sc__rows_for B__rows_for (fun cdv A outer s H E hr => ?_)) rfl m b
  have hx : Okx G (cxB G.P G.w G.K mg base N__rows_for "_rows_for" (defScope st__rows_for) f cdv A outer s H E) := ⟨rfl, rfl, un_of hr, rfl, rfl⟩
  have hd : Dfx (cxB G.P G.w G.K mg base N__rows_for "_rows_for" (defScope st__rows_for) f cdv A outer s H E) := ⟨rfl, rfl⟩
  have tk : Takes (cxB G.P G.w G.K mg base N__rows_for "_rows_for" (defScope st__rows_for) f cdv A outer s H E) (WE' E) := takes_of rfl rfl rfl rfl
  have po := passes_of (X := cxB G.P G.w G.K mg base N__rows_for "_rows_for" (defScope st__rows_for) f cdv A outer s H E) rfl
  exact (ss_cons (ss_set (i := 3) sc__rows_for.nd rfl (by first | exact Or.inl rfl | exact Or.inr rfl) (se_lst sa_nil))
  (ss_cons (ss_for po hx.calm (si_rng1 (by rfl) Fx.n_range (sv 1)) (tg_name (pg_name (i := 4) sc__rows_for.nd rfl (by first | exact Or.inl rfl | exact Or.inr rfl)))
  (ss_cons (ss_set (i := 5) sc__rows_for.nd rfl (by first | exact Or.inl rfl | exact Or.inr rfl) (se_lst sa_nil))
  (ss_cons (ss_for po hx.calm (si_rng1 (by rfl) Fx.n_range (sv 2)) (tg_name (pg_name (i := 6) sc__rows_for.nd rfl (by first | exact Or.inl rfl | exact Or.inr rfl)))
  (ss_cons (ss_set (i := 7) sc__rows_for.nd rfl (by first | exact Or.inl rfl | exact Or.inr rfl) si)
  (ss_cons (ss_while po (st_cop (ox_eq hx) (se_cl true hx (ok__with_number Fx) (hr.mono (by decide)) (by rfl) tk (sa_cons (sv 0) (sa_cons (sv 4) (sa_cons (sv 6) (sa_cons (se_cl true hx (ok_whole Fx) (hr.mono (by decide)) (by rfl) tk (sa_cons (sv 7) sa_nil)) sa_nil))))) (se_tup sa_nil) rfl)
  (ss_one (ss_aug (i := 7) sc__rows_for.nd rfl (by first | exact Or.inl rfl | exact Or.inr rfl) si ax_add)))
  (ss_cons (ss_expr (se_mt hx PySem.F.slot_list_append PySem.F.type_list_append mt_append ms_app (sv 5) (sa_cons (se_cl true hx (ok_whole Fx) (hr.mono (by decide)) (by rfl) tk (sa_cons (sv 7) sa_nil)) sa_nil)))
  (ss_one (ss_set (i := 0) sc__rows_for.nd rfl (by first | exact Or.inl rfl | exact Or.inr rfl) (se_cl true hx (ok__with_number Fx) (hr.mono (by decide)) (by rfl) tk (sa_cons (sv 0) (sa_cons (sv 4) (sa_cons (sv 6) (sa_cons (se_cl true hx (ok_whole Fx) (hr.mono (by decide)) (by rfl) tk (sa_cons (sv 7) sa_nil)) sa_nil)))))))))))
  (ss_one (ss_expr (se_mt hx PySem.F.slot_list_append PySem.F.type_list_append mt_append ms_app (sv 3) (sa_cons (se_callTy (cx_tup hx) (by rfl) Fx.n_tuple bb_tuple (sa_cons (sv 5) sa_nil)) sa_nil)))))))
  (ss_one (ss_ret (se_callTy (cx_tup hx) (by rfl) Fx.n_tuple bb_tuple (sa_cons (sv 3) sa_nil))))))
noncomputable def B_form_ring : Evs := (esSeq (esPar 0 3 (eaCons (evDf (evCl true 1 (E_tuple_of 11) (eaCons (evVar 0) eaNil))) (eaCons (evTup (eaCons (evBin gMul (evTup (eaCons (evM c_ZERO_steady) eaNil)) (evVar 2)) eaNil)) eaNil)))
  (esSeq (esIf (etBin gIsN (evCl true 3 E__store_of (eaCons (evVar 0) (eaCons (evVar 1) (eaCons (evVar 2) eaNil)))) (evK .non))
  (esRet (evK .non))
  esNil)
  (esSeq (esIf (etBin gNe (evCl true 2 E_value_at (eaCons (evVar 0) (eaCons (evBin gMul (evVar 3) (evVar 1)) eaNil))) (evM c_ZERO_steady))
  (esRet (evVar 3))
  esNil)
  (esSeq (esAsg (evTup (eaCons (evLst eaNil) (eaCons (evBin gSub (evBin gMul (evK (.int 2)) (evVar 1)) (evK (.int 1))) eaNil))) (tgAny 2 (tgCons (tgName 4) (tgCons (tgName 5) tgNil))))
  (esSeq (esFor 100000 (eiRng1 (evVar 5)) (tgName 6)
  (esSeq (esSet 7 (evLx (eiRng1 (evVar 1)) (tgName 8) etYes (evBin gMod (evBin gAdd (evVar 6) (evVar 8)) (evVar 5)) [8]))
  (esExpr (evMt mExt2 (evVar 4) (eaCons (evCl true 4 E__at_places (eaCons (evVar 0) (eaCons (evLx (eiSeq2 (evVar 7)) (tgName 9) etYes (evIf (etBin gLt2 (evVar 9) (evVar 1)) (evVar 9) (evK .non)) [9]) (eaCons (evVar 1) (eaCons (evVar 2) eaNil))))) eaNil)))))
  (esRet (evBin gAdd (evCl true 3 E__rows_for (eaCons (evCl true 1 E_gathered (eaCons (evVar 4) eaNil)) (eaCons (evVar 1) (eaCons (evVar 2) eaNil)))) (evBin gMul (evVar 3) (evBin gSub (evVar 1) (evK (.int 1)))))))))))
noncomputable def E_form_ring : Fn := evFun B_form_ring 10
theorem ok_form_ring (Fx : Facts G mg) : Def G G.P G.w mg base 14 "form_ring" ["form", "n", "c"] 3 E_form_ring := by
  obtain ⟨f, fd, F, m, b⟩ := Fx.d_form_ring
  obtain ⟨vq_ZERO_steady, aq_ZERO_steady, mq_ZERO_steady, rq_ZERO_steady, wq_ZERO_steady⟩ := Fx.q_ZERO_steady
  refine def_mk F (fn_ok (k := 13) F sc_form_ring B_form_ring (fun cdv A outer s H E hr => ?_)) rfl m b
  have hx : Okx G (cxB G.P G.w G.K mg base N_form_ring "form_ring" (defScope st_form_ring) f cdv A outer s H E) := ⟨rfl, rfl, un_of hr, rfl, rfl⟩
  have hd : Dfx (cxB G.P G.w G.K mg base N_form_ring "form_ring" (defScope st_form_ring) f cdv A outer s H E) := ⟨rfl, rfl⟩
  have tk : Takes (cxB G.P G.w G.K mg base N_form_ring "form_ring" (defScope st_form_ring) f cdv A outer s H E) (WE' E) := takes_of rfl rfl rfl rfl
  have po := passes_of (X := cxB G.P G.w G.K mg base N_form_ring "form_ring" (defScope st_form_ring) f cdv A outer s H E) rfl
  exact (ss_cons (ss_par (i := 0) (j := 3) hx.calm sc_form_ring.nd rfl rfl (by decide) rfl rfl (sa_cons (se_df (se_cl true hx (ok_tuple_of Fx) (hr.mono (by decide)) (by rfl) tk (sa_cons (sv 0) sa_nil))) (sa_cons (se_tup (sa_cons (se_bop (ox_mul hx) (se_tup (sa_cons (se_m (pe_glob (v := vq_ZERO_steady) (by rfl) mq_ZERO_steady rq_ZERO_steady) wq_ZERO_steady) sa_nil)) (sv 2)) sa_nil)) sa_nil)) rfl)
  (ss_cons (ss_if (st_cop (ox_isn) (se_cl true hx (ok__store_of Fx) (hr.mono (by decide)) (by rfl) tk (sa_cons (sv 0) (sa_cons (sv 1) (sa_cons (sv 2) sa_nil)))) (se_k pe_non) rfl)
  (ss_one (ss_ret (se_k pe_non)))
  ss_nil)
  (ss_cons (ss_if (st_cop (ox_ne hx) (se_cl true hx (ok_value_at Fx) (hr.mono (by decide)) (by rfl) tk (sa_cons (sv 0) (sa_cons (se_bop (ox_mul hx) (sv 3) (sv 1)) sa_nil))) (se_m (pe_glob (v := vq_ZERO_steady) (by rfl) mq_ZERO_steady rq_ZERO_steady) wq_ZERO_steady) rfl)
  (ss_one (ss_ret (sv 3)))
  ss_nil)
  (ss_cons (ss_asg (se_tup (sa_cons (se_lst sa_nil) (sa_cons (se_bop (ox_sub) (se_bop (ox_mul hx) si (sv 1)) si) sa_nil))) (tg_any hx (tgs_cons (tg_name (pg_name (i := 4) sc_form_ring.nd rfl (by first | exact Or.inl rfl | exact Or.inr rfl))) (tgs_cons (tg_name (pg_name (i := 5) sc_form_ring.nd rfl (by first | exact Or.inl rfl | exact Or.inr rfl))) tgs_nil))))
  (ss_cons (ss_for po hx.calm (si_rng1 (by rfl) Fx.n_range (sv 5)) (tg_name (pg_name (i := 6) sc_form_ring.nd rfl (by first | exact Or.inl rfl | exact Or.inr rfl)))
  (ss_cons (ss_setLx (i := 7) (own := [("k", 8)]) hd tk hx.calm sc_form_ring.nd rfl rfl (sw_true rfl rfl rfl (by decide +kernel)) (si_rng1 (by rfl) Fx.n_range (sv 1)) (blkOk_by (N := N_form_ring) (sc := defScope st_form_ring) (own := [("k", 8)]) (by decide +kernel)) (kk_name 8) (by decide) (fun _ _ _ _ _ _ => (pg_name (i := 8) sc_form_ring.nd rfl (by first | exact Or.inl rfl | exact Or.inr rfl))) (fun _ _ _ _ _ _ _ tk => sts_nil) (fun _ _ _ _ _ _ _ tk => (se_bop (ox_mod) (se_bop (ox_add (hx.blk)) (sv 6) (sv 8)) (sv 5))))
  (ss_one (ss_expr (se_mt hx PySem.F.slot_list_extend PySem.F.type_list_extend (mt_extend2G hx) ms_ext2 (sv 4) (sa_cons (se_cl true hx (ok__at_places Fx) (hr.mono (by decide)) (by rfl) tk (sa_cons (sv 0) (sa_cons (se_lx (own := [("spot", 9)]) hd tk hx.calm sc_form_ring.nd (si_seq2 hx (sv 7)) (blkOk_by (N := N_form_ring) (sc := defScope st_form_ring) (own := [("spot", 9)]) (by decide +kernel)) (kk_name 9) (by decide) (fun _ _ _ _ _ _ => (pg_name (i := 9) sc_form_ring.nd rfl (by first | exact Or.inl rfl | exact Or.inr rfl))) (fun _ _ _ _ _ _ _ tk => sts_nil) (fun _ _ _ _ _ _ _ tk => (se_if (st_cop (ox_lt2 (hx.blk)) (sv 9) (sv 1) rfl) (sv 9) (se_k pe_non)))) (sa_cons (sv 1) (sa_cons (sv 2) sa_nil))))) sa_nil))))))
  (ss_one (ss_ret (se_bop (ox_add hx) (se_cl true hx (ok__rows_for Fx) (hr.mono (by decide)) (by rfl) tk (sa_cons (se_cl true hx (ok_gathered Fx) (hr.mono (by decide)) (by rfl) tk (sa_cons (sv 4) sa_nil)) (sa_cons (sv 1) (sa_cons (sv 2) sa_nil)))) (se_bop (ox_mul hx) (sv 3) (se_bop (ox_sub) (sv 1) si))))))))))
theorem kw_12 (Fx : Facts G mg) : DefK G G.P G.w mg base 14 "form_ring" 3 E_form_ring 0 ["c", "n", "form"] [2, 1, 0] := by
  exact dfk_of (ok_form_ring Fx) Fx.d_form_ring (fun _ _ _ _ _ _ us ws h1 h2 => match us, ws, h1, h2 with | [], [_, _, _], _, _ => rfl)
noncomputable def B__law_same (r : Fn) : Evs := (esSeq (esIf (etTru (evIsi [3, 4] (evVar 1)))
  (esSeq (esIf (etBin gNe (evIsi [3] (evVar 0)) (evIsi [3] (evVar 1)))
  (esRet (evK (.bl false)))
  esNil)
  (esSeq (esIf (etBin gNe (evIsi [4] (evVar 0)) (evIsi [4] (evVar 1)))
  (esRet (evK (.bl false)))
  esNil)
  (esRet (evAnd (evBin gEq (evCB (cLenD cLen) (eaCons (evVar 0) eaNil)) (evCB (cLenD cLen) (eaCons (evVar 1) eaNil))) (evCB cAll (eaCons (evLx (eiZip2 (eaCons (evVar 0) (eaCons (evVar 1) eaNil))) (tgTup 2 (tgCons (tgName 2) (tgCons (tgName 3) tgNil))) etYes (evCl true 2 r (eaCons (evVar 2) (eaCons (evVar 3) eaNil))) [2, 3]) eaNil))))))
  esNil)
  (esSeq (esIf (etOr (etBin gIs (evVar 1) (evK .non)) (etTru (evIsi [1, 2] (evVar 1))))
  (esRet (evAnd (evBin gEq (evVar 0) (evVar 1)) (evAnd (evBin gEq (evIsi [1] (evVar 0)) (evIsi [1] (evVar 1))) (evBin gEq (evBin gIs (evVar 0) (evK .non)) (evBin gIs (evVar 1) (evK .non))))))
  esNil)
  (esRet (evAnd (evIsi [0] (evVar 0)) (evAnd (evNot (evIsi [1] (evVar 0))) (evBin gEq (evVar 0) (evVar 1)))))))
noncomputable def E__law_same (d : Nat) : Fn := Nat.rec (motive := fun _ => Fn) (evFun (fun _ _ => .stuck) 4) (fun _ ih => evFun (B__law_same ih) 4) d
theorem okr__law_same (Fx : Facts G mg) : ∀ d : Nat, Def G G.P G.w mg base (1 + d) "_law_same" ["got", "due"] 2 (E__law_same d)
  | 0 => by
    obtain ⟨f, fd, F, m, b⟩ := Fx.d__law_same
    exact def_mk F (fn_ok (k := 0) F sc__law_same _ (fun cdv A outer s H E hr => ss_stuck)) rfl m b
  | d + 1 => by
    have ih : Def G G.P G.w mg base (1 + d) "_law_same" ["got", "due"] 2 (E__law_same d) := okr__law_same Fx d
    obtain ⟨f, fd, F, m, b⟩ := Fx.d__law_same
    refine def_mk F (fn_ok (k := 1 + d) F sc__law_same (B__law_same (E__law_same d)) (fun cdv A outer s H E hr => ?_)) rfl m b
    have hx : Okx G (cxB G.P G.w G.K mg base N__law_same "_law_same" (defScope st__law_same) f cdv A outer s H E) := ⟨rfl, rfl, un_of hr, rfl, rfl⟩
    have hd : Dfx (cxB G.P G.w G.K mg base N__law_same "_law_same" (defScope st__law_same) f cdv A outer s H E) := ⟨rfl, rfl⟩
    have tk : Takes (cxB G.P G.w G.K mg base N__law_same "_law_same" (defScope st__law_same) f cdv A outer s H E) (WE' E) := takes_of rfl rfl rfl rfl
    have po := passes_of (X := cxB G.P G.w G.K mg base N__law_same "_law_same" (defScope st__law_same) f cdv A outer s H E) rfl
    exact (ss_cons (ss_if (st_tru hx.k (se_isiT (cs := [3, 4]) hx (sv 1) (pa_cons (pe_bltn (by rfl) Fx.n_list bb_list rfl) (pa_cons (pe_bltn (by rfl) Fx.n_tuple bb_tuple rfl) pa_nil)) (by decide) (by decide) (by rfl) Fx.n_isinstance) (fun _ => rfl))
  (ss_cons (ss_if (st_cop (ox_ne hx) (se_isi (c := 3) hx (sv 0) (pe_bltn (by rfl) Fx.n_list bb_list rfl) (by decide) (by rfl) Fx.n_isinstance) (se_isi (c := 3) hx (sv 1) (pe_bltn (by rfl) Fx.n_list bb_list rfl) (by decide) (by rfl) Fx.n_isinstance) rfl)
  (ss_one (ss_ret (se_k pe_bl)))
  ss_nil)
  (ss_cons (ss_if (st_cop (ox_ne hx) (se_isi (c := 4) hx (sv 0) (pe_bltn (by rfl) Fx.n_tuple bb_tuple rfl) (by decide) (by rfl) Fx.n_isinstance) (se_isi (c := 4) hx (sv 1) (pe_bltn (by rfl) Fx.n_tuple bb_tuple rfl) (by decide) (by rfl) Fx.n_isinstance) rfl)
  (ss_one (ss_ret (se_k pe_bl)))
  ss_nil)
  (ss_one (ss_ret (se_and hx.k (se_cop (ox_eq hx) (se_callB (cx_lenD hx (cx_len hx)) (by rfl) Fx.n_len bb_len (sa_cons (sv 0) sa_nil)) (se_callB (cx_lenD hx (cx_len hx)) (by rfl) Fx.n_len bb_len (sa_cons (sv 1) sa_nil)) rfl) (se_one (se_callB (cx_all hx) (by rfl) Fx.n_all bb_all (sa_cons (se_lx (own := [("a_so", 2), ("b_so", 3)]) hd tk hx.calm sc__law_same.nd (si_zip2 hx (by rfl) Fx.n_zip (sa_cons (sv 0) (sa_cons (sv 1) sa_nil))) (blkOk_by (N := N__law_same) (sc := defScope st__law_same) (own := [("a_so", 2), ("b_so", 3)]) (by decide +kernel)) (kk_tup (K := G.K) rfl (kks_cons (kk_name 2) (kks_cons (kk_name 3) kks_nil))) (by decide) (fun _ _ _ _ _ _ => (pg_tup hx.calm (pgs_cons (pg_name (i := 2) sc__law_same.nd rfl (by first | exact Or.inl rfl | exact Or.inr rfl)) (pgs_cons (pg_name (i := 3) sc__law_same.nd rfl (by first | exact Or.inl rfl | exact Or.inr rfl)) pgs_nil)))) (fun _ _ _ _ _ _ _ tk => sts_nil) (fun _ _ _ _ _ _ _ tk => (se_cl true (hx.blk) ih (hr.mono (Nat.le_refl _)) (by rfl) tk (sa_cons (sv 2) (sa_cons (sv 3) sa_nil))))) sa_nil))))))))
  ss_nil)
  (ss_cons (ss_if (st_w (sw_or (st_cop (ox_is) (sv 1) (se_k pe_non) rfl) (sw_or1 (st_tru hx.k (se_isiT (cs := [1, 2]) hx (sv 1) (pa_cons (pe_bltn (by rfl) Fx.n_bool bb_bool rfl) (pa_cons (pe_bltn (by rfl) Fx.n_str bb_str rfl) pa_nil)) (by decide) (by decide) (by rfl) Fx.n_isinstance) (fun _ => rfl)))))
  (ss_one (ss_ret (se_and hx.k (se_cop (ox_eq hx) (sv 0) (sv 1) rfl) (se_and hx.k (se_cop (ox_eq hx) (se_isi (c := 1) hx (sv 0) (pe_bltn (by rfl) Fx.n_bool bb_bool rfl) (by decide) (by rfl) Fx.n_isinstance) (se_isi (c := 1) hx (sv 1) (pe_bltn (by rfl) Fx.n_bool bb_bool rfl) (by decide) (by rfl) Fx.n_isinstance) rfl) (se_one (se_cop (ox_eq hx) (se_cop (ox_is) (sv 0) (se_k pe_non) rfl) (se_cop (ox_is) (sv 1) (se_k pe_non) rfl) rfl))))))
  ss_nil)
  (ss_one (ss_ret (se_and hx.k (se_isi (c := 0) hx (sv 0) (pe_bltn (by rfl) Fx.n_int bb_int rfl) (by decide) (by rfl) Fx.n_isinstance) (se_and hx.k (se_not hx.k (se_isi (c := 1) hx (sv 0) (pe_bltn (by rfl) Fx.n_bool bb_bool rfl) (by decide) (by rfl) Fx.n_isinstance)) (se_one (se_cop (ox_eq hx) (sv 0) (sv 1) rfl))))))))
theorem ok__law_same (Fx : Facts G mg) : Def G G.P G.w mg base 12 "_law_same" ["got", "due"] 2 (E__law_same 11) := okr__law_same Fx 11
noncomputable def B__law_lists (r : Fn) : Evs := (esRet (evIf (etTru (evIsi [3, 4] (evVar 0))) (evLx (eiSeq2 (evVar 0)) (tgName 1) etYes (evCl true 1 r (eaCons (evVar 1) eaNil)) [1]) (evVar 0)))
noncomputable def E__law_lists (d : Nat) : Fn := Nat.rec (motive := fun _ => Fn) (evFun (fun _ _ => .stuck) 2) (fun _ ih => evFun (B__law_lists ih) 2) d
theorem okr__law_lists (Fx : Facts G mg) : ∀ d : Nat, Def G G.P G.w mg base (1 + d) "_law_lists" ["matter"] 1 (E__law_lists d)
  | 0 => by
    obtain ⟨f, fd, F, m, b⟩ := Fx.d__law_lists
    exact def_mk F (fn_ok (k := 0) F sc__law_lists _ (fun cdv A outer s H E hr => ss_stuck)) rfl m b
  | d + 1 => by
    have ih : Def G G.P G.w mg base (1 + d) "_law_lists" ["matter"] 1 (E__law_lists d) := okr__law_lists Fx d
    obtain ⟨f, fd, F, m, b⟩ := Fx.d__law_lists
    refine def_mk F (fn_ok (k := 1 + d) F sc__law_lists (B__law_lists (E__law_lists d)) (fun cdv A outer s H E hr => ?_)) rfl m b
    have hx : Okx G (cxB G.P G.w G.K mg base N__law_lists "_law_lists" (defScope st__law_lists) f cdv A outer s H E) := ⟨rfl, rfl, un_of hr, rfl, rfl⟩
    have hd : Dfx (cxB G.P G.w G.K mg base N__law_lists "_law_lists" (defScope st__law_lists) f cdv A outer s H E) := ⟨rfl, rfl⟩
    have tk : Takes (cxB G.P G.w G.K mg base N__law_lists "_law_lists" (defScope st__law_lists) f cdv A outer s H E) (WE' E) := takes_of rfl rfl rfl rfl
    have po := passes_of (X := cxB G.P G.w G.K mg base N__law_lists "_law_lists" (defScope st__law_lists) f cdv A outer s H E) rfl
    exact (ss_one (ss_ret (se_if (st_tru hx.k (se_isiT (cs := [3, 4]) hx (sv 0) (pa_cons (pe_bltn (by rfl) Fx.n_list bb_list rfl) (pa_cons (pe_bltn (by rfl) Fx.n_tuple bb_tuple rfl) pa_nil)) (by decide) (by decide) (by rfl) Fx.n_isinstance) (fun _ => rfl)) (se_lx (own := [("bit", 1)]) hd tk hx.calm sc__law_lists.nd (si_seq2 hx (sv 0)) (blkOk_by (N := N__law_lists) (sc := defScope st__law_lists) (own := [("bit", 1)]) (by decide +kernel)) (kk_name 1) (by decide) (fun _ _ _ _ _ _ => (pg_name (i := 1) sc__law_lists.nd rfl (by first | exact Or.inl rfl | exact Or.inr rfl))) (fun _ _ _ _ _ _ _ tk => sts_nil) (fun _ _ _ _ _ _ _ tk => (se_cl true (hx.blk) ih (hr.mono (Nat.le_refl _)) (by rfl) tk (sa_cons (sv 1) sa_nil)))) (sv 0))))
theorem ok__law_lists (Fx : Facts G mg) : Def G G.P G.w mg base 12 "_law_lists" ["matter"] 1 (E__law_lists 11) := okr__law_lists Fx 11
noncomputable def B__law_gcd : Evs := (esSeq (whileL (etBin gNe (evVar 1) (evK (.int 0)))
  (esPar 0 1 (eaCons (evVar 1) (eaCons (evBin gMod (evCB cInt (eaCons (evVar 0) eaNil)) (evVar 1)) eaNil))) 100000)
  (esRet (evCB cAbs (eaCons (evVar 0) eaNil))))
noncomputable def E__law_gcd : Fn := evFun B__law_gcd 2
theorem ok__law_gcd (Fx : Facts G mg) : Def G G.P G.w mg base 1 "_law_gcd" ["one_so", "two_so"] 2 E__law_gcd := by
  obtain ⟨f, fd, F, m, b⟩ := Fx.d__law_gcd
  refine def_mk F (fn_ok (k := 0) F sc__law_gcd B__law_gcd (fun cdv A outer s H E hr => ?_)) rfl m b
  have hx : Okx G (cxB G.P G.w G.K mg base N__law_gcd "_law_gcd" (defScope st__law_gcd) f cdv A outer s H E) := ⟨rfl, rfl, un_of hr, rfl, rfl⟩
  have hd : Dfx (cxB G.P G.w G.K mg base N__law_gcd "_law_gcd" (defScope st__law_gcd) f cdv A outer s H E) := ⟨rfl, rfl⟩
  have tk : Takes (cxB G.P G.w G.K mg base N__law_gcd "_law_gcd" (defScope st__law_gcd) f cdv A outer s H E) (WE' E) := takes_of rfl rfl rfl rfl
  have po := passes_of (X := cxB G.P G.w G.K mg base N__law_gcd "_law_gcd" (defScope st__law_gcd) f cdv A outer s H E) rfl
  exact (ss_cons (ss_while po (st_cop (ox_ne hx) (sv 1) si rfl)
  (ss_one (ss_par (i := 0) (j := 1) hx.calm sc__law_gcd.nd rfl rfl (by decide) rfl rfl (sa_cons (sv 1) (sa_cons (se_bop (ox_mod) (se_callTy (cx_int) (by rfl) Fx.n_int bb_int (sa_cons (sv 0) sa_nil)) (sv 1)) sa_nil)) rfl)))
  (ss_one (ss_ret (se_callB (cx_abs) (by rfl) Fx.n_abs bb_abs (sa_cons (sv 0) sa_nil)))))
noncomputable def B__law_fr : Evs := (esSeq (esSet 2 (evCl true 2 E__law_gcd (eaCons (evVar 0) (eaCons (evVar 1) eaNil))))
  (esRet (evTup (eaCons (evBin gDiv (evCB cInt (eaCons (evVar 0) eaNil)) (evVar 2)) (eaCons (evBin gDiv (evCB cInt (eaCons (evVar 1) eaNil)) (evVar 2)) eaNil)))))
noncomputable def E__law_fr : Fn := evFun B__law_fr 3
theorem ok__law_fr (Fx : Facts G mg) : Def G G.P G.w mg base 2 "_law_fr" ["top_so", "base_so"] 2 E__law_fr := by
  obtain ⟨f, fd, F, m, b⟩ := Fx.d__law_fr
  refine def_mk F (fn_ok (k := 1) F sc__law_fr B__law_fr (fun cdv A outer s H E hr => ?_)) rfl m b
  have hx : Okx G (cxB G.P G.w G.K mg base N__law_fr "_law_fr" (defScope st__law_fr) f cdv A outer s H E) := ⟨rfl, rfl, un_of hr, rfl, rfl⟩
  have hd : Dfx (cxB G.P G.w G.K mg base N__law_fr "_law_fr" (defScope st__law_fr) f cdv A outer s H E) := ⟨rfl, rfl⟩
  have tk : Takes (cxB G.P G.w G.K mg base N__law_fr "_law_fr" (defScope st__law_fr) f cdv A outer s H E) (WE' E) := takes_of rfl rfl rfl rfl
  have po := passes_of (X := cxB G.P G.w G.K mg base N__law_fr "_law_fr" (defScope st__law_fr) f cdv A outer s H E) rfl
  exact (ss_cons (ss_set (i := 2) sc__law_fr.nd rfl (by first | exact Or.inl rfl | exact Or.inr rfl) (se_cl true hx (ok__law_gcd Fx) (hr.mono (by decide)) (by rfl) tk (sa_cons (sv 0) (sa_cons (sv 1) sa_nil))))
  (ss_one (ss_ret (se_tup (sa_cons (se_bop (ox_div) (se_callTy (cx_int) (by rfl) Fx.n_int bb_int (sa_cons (sv 0) sa_nil)) (sv 2)) (sa_cons (se_bop (ox_div) (se_callTy (cx_int) (by rfl) Fx.n_int bb_int (sa_cons (sv 1) sa_nil)) (sv 2)) sa_nil))))))
noncomputable def B__law_add : Evs := (esRet (evCl true 2 E__law_fr (eaCons (evBin gAdd (evBin gMul (evBin gIx2 (evVar 0) (evK (.int 0))) (evBin gIx2 (evVar 1) (evK (.int 1)))) (evBin gMul (evBin gIx2 (evVar 1) (evK (.int 0))) (evBin gIx2 (evVar 0) (evK (.int 1))))) (eaCons (evBin gMul (evBin gIx2 (evVar 0) (evK (.int 1))) (evBin gIx2 (evVar 1) (evK (.int 1)))) eaNil))))
noncomputable def E__law_add : Fn := evFun B__law_add 2
theorem ok__law_add (Fx : Facts G mg) : Def G G.P G.w mg base 3 "_law_add" ["one_so", "two_so"] 2 E__law_add := by
  obtain ⟨f, fd, F, m, b⟩ := Fx.d__law_add
  refine def_mk F (fn_ok (k := 2) F sc__law_add B__law_add (fun cdv A outer s H E hr => ?_)) rfl m b
  have hx : Okx G (cxB G.P G.w G.K mg base N__law_add "_law_add" (defScope st__law_add) f cdv A outer s H E) := ⟨rfl, rfl, un_of hr, rfl, rfl⟩
  have hd : Dfx (cxB G.P G.w G.K mg base N__law_add "_law_add" (defScope st__law_add) f cdv A outer s H E) := ⟨rfl, rfl⟩
  have tk : Takes (cxB G.P G.w G.K mg base N__law_add "_law_add" (defScope st__law_add) f cdv A outer s H E) (WE' E) := takes_of rfl rfl rfl rfl
  have po := passes_of (X := cxB G.P G.w G.K mg base N__law_add "_law_add" (defScope st__law_add) f cdv A outer s H E) rfl
  exact (ss_one (ss_ret (se_cl true hx (ok__law_fr Fx) (hr.mono (by decide)) (by rfl) tk (sa_cons (se_bop (ox_add hx) (se_bop (ox_mul hx) (se_ix2 hx (sv 0) si (fun _ _ => rfl)) (se_ix2 hx (sv 1) si (fun _ _ => rfl))) (se_bop (ox_mul hx) (se_ix2 hx (sv 1) si (fun _ _ => rfl)) (se_ix2 hx (sv 0) si (fun _ _ => rfl)))) (sa_cons (se_bop (ox_mul hx) (se_ix2 hx (sv 0) si (fun _ _ => rfl)) (se_ix2 hx (sv 1) si (fun _ _ => rfl))) sa_nil)))))
noncomputable def B__law_mul : Evs := (esRet (evCl true 2 E__law_fr (eaCons (evBin gMul (evBin gIx2 (evVar 0) (evK (.int 0))) (evBin gIx2 (evVar 1) (evK (.int 0)))) (eaCons (evBin gMul (evBin gIx2 (evVar 0) (evK (.int 1))) (evBin gIx2 (evVar 1) (evK (.int 1)))) eaNil))))
noncomputable def E__law_mul : Fn := evFun B__law_mul 2
theorem ok__law_mul (Fx : Facts G mg) : Def G G.P G.w mg base 3 "_law_mul" ["one_so", "two_so"] 2 E__law_mul := by
  obtain ⟨f, fd, F, m, b⟩ := Fx.d__law_mul
  refine def_mk F (fn_ok (k := 2) F sc__law_mul B__law_mul (fun cdv A outer s H E hr => ?_)) rfl m b
  have hx : Okx G (cxB G.P G.w G.K mg base N__law_mul "_law_mul" (defScope st__law_mul) f cdv A outer s H E) := ⟨rfl, rfl, un_of hr, rfl, rfl⟩
  have hd : Dfx (cxB G.P G.w G.K mg base N__law_mul "_law_mul" (defScope st__law_mul) f cdv A outer s H E) := ⟨rfl, rfl⟩
  have tk : Takes (cxB G.P G.w G.K mg base N__law_mul "_law_mul" (defScope st__law_mul) f cdv A outer s H E) (WE' E) := takes_of rfl rfl rfl rfl
  have po := passes_of (X := cxB G.P G.w G.K mg base N__law_mul "_law_mul" (defScope st__law_mul) f cdv A outer s H E) rfl
  exact (ss_one (ss_ret (se_cl true hx (ok__law_fr Fx) (hr.mono (by decide)) (by rfl) tk (sa_cons (se_bop (ox_mul hx) (se_ix2 hx (sv 0) si (fun _ _ => rfl)) (se_ix2 hx (sv 1) si (fun _ _ => rfl))) (sa_cons (se_bop (ox_mul hx) (se_ix2 hx (sv 0) si (fun _ _ => rfl)) (se_ix2 hx (sv 1) si (fun _ _ => rfl))) sa_nil)))))
noncomputable def B__law_sum : Evs := (esSeq (esSet 1 (evTup (eaCons (evK (.int 0)) (eaCons (evK (.int 1)) eaNil))))
  (esSeq (esFor 100000 (eiSeq2 (evVar 0)) (tgName 2)
  (esSet 1 (evCl true 2 E__law_add (eaCons (evVar 1) (eaCons (evVar 2) eaNil)))))
  (esRet (evVar 1))))
noncomputable def E__law_sum : Fn := evFun B__law_sum 3
theorem ok__law_sum (Fx : Facts G mg) : Def G G.P G.w mg base 4 "_law_sum" ["bits_so"] 1 E__law_sum := by
  obtain ⟨f, fd, F, m, b⟩ := Fx.d__law_sum
  refine def_mk F (fn_ok (k := 3) F sc__law_sum B__law_sum (fun cdv A outer s H E hr => ?_)) rfl m b
  have hx : Okx G (cxB G.P G.w G.K mg base N__law_sum "_law_sum" (defScope st__law_sum) f cdv A outer s H E) := ⟨rfl, rfl, un_of hr, rfl, rfl⟩
  have hd : Dfx (cxB G.P G.w G.K mg base N__law_sum "_law_sum" (defScope st__law_sum) f cdv A outer s H E) := ⟨rfl, rfl⟩
  have tk : Takes (cxB G.P G.w G.K mg base N__law_sum "_law_sum" (defScope st__law_sum) f cdv A outer s H E) (WE' E) := takes_of rfl rfl rfl rfl
  have po := passes_of (X := cxB G.P G.w G.K mg base N__law_sum "_law_sum" (defScope st__law_sum) f cdv A outer s H E) rfl
  exact (ss_cons (ss_set (i := 1) sc__law_sum.nd rfl (by first | exact Or.inl rfl | exact Or.inr rfl) (se_tup (sa_cons si (sa_cons si sa_nil))))
  (ss_cons (ss_for po hx.calm (si_seq2 hx (sv 0)) (tg_name (pg_name (i := 2) sc__law_sum.nd rfl (by first | exact Or.inl rfl | exact Or.inr rfl)))
  (ss_one (ss_set (i := 1) sc__law_sum.nd rfl (by first | exact Or.inl rfl | exact Or.inr rfl) (se_cl true hx (ok__law_add Fx) (hr.mono (by decide)) (by rfl) tk (sa_cons (sv 1) (sa_cons (sv 2) sa_nil))))))
  (ss_one (ss_ret (sv 1)))))
noncomputable def B__law_turned : Evs := (esSeq (esSet 2 (evBin gMul (evCB cList2 (eaCons (evVar 0) eaNil)) (evBin gAdd (evVar 1) (evK (.int 1)))))
  (esRet (evLx (eiRng1 (evCB (cLenD cLen) (eaCons (evVar 0) eaNil))) (tgName 3) etYes (evCB cTup (eaCons (evSl (evVar 2) (eoS (evVar 3)) (eoS (evBin gAdd (evVar 3) (evVar 1)))) eaNil)) [3])))
noncomputable def E__law_turned : Fn := evFun B__law_turned 4
theorem ok__law_turned (Fx : Facts G mg) : Def G G.P G.w mg base 1 "_law_turned" ["ring_so", "wide_so"] 2 E__law_turned := by
  obtain ⟨f, fd, F, m, b⟩ := Fx.d__law_turned
  refine def_mk F (fn_ok (k := 0) F sc__law_turned B__law_turned (fun cdv A outer s H E hr => ?_)) rfl m b
  have hx : Okx G (cxB G.P G.w G.K mg base N__law_turned "_law_turned" (defScope st__law_turned) f cdv A outer s H E) := ⟨rfl, rfl, un_of hr, rfl, rfl⟩
  have hd : Dfx (cxB G.P G.w G.K mg base N__law_turned "_law_turned" (defScope st__law_turned) f cdv A outer s H E) := ⟨rfl, rfl⟩
  have tk : Takes (cxB G.P G.w G.K mg base N__law_turned "_law_turned" (defScope st__law_turned) f cdv A outer s H E) (WE' E) := takes_of rfl rfl rfl rfl
  have po := passes_of (X := cxB G.P G.w G.K mg base N__law_turned "_law_turned" (defScope st__law_turned) f cdv A outer s H E) rfl
  exact (ss_cons (ss_set (i := 2) sc__law_turned.nd rfl (by first | exact Or.inl rfl | exact Or.inr rfl) (se_bop (ox_mul hx) (se_callTy (cx_list2 hx) (by rfl) Fx.n_list bb_list (sa_cons (sv 0) sa_nil)) (se_bop (ox_add hx) (sv 1) si)))
  (ss_one (ss_ret (se_lx (own := [("k", 3)]) hd tk hx.calm sc__law_turned.nd (si_rng1 (by rfl) Fx.n_range (se_callB (cx_lenD hx (cx_len hx)) (by rfl) Fx.n_len bb_len (sa_cons (sv 0) sa_nil))) (blkOk_by (N := N__law_turned) (sc := defScope st__law_turned) (own := [("k", 3)]) (by decide +kernel)) (kk_name 3) (by decide) (fun _ _ _ _ _ _ => (pg_name (i := 3) sc__law_turned.nd rfl (by first | exact Or.inl rfl | exact Or.inr rfl))) (fun _ _ _ _ _ _ _ tk => sts_nil) (fun _ _ _ _ _ _ _ tk => (se_callTy (cx_tup (hx.blk)) (by rfl) Fx.n_tuple bb_tuple (sa_cons (se_sl (hx.blk) (sv 2) (so_some (sv 3)) (so_some (se_bop (ox_add (hx.blk)) (sv 3) (sv 1)))) sa_nil)))))))
noncomputable def B__law_gained : Evs := (esSeq (esSet 2 (evCB cDictP (eaCons (evBin gIx2 (evFg (evVar 0)) (evK (.int 2))) eaNil)))
  (esRet (evCl true 1 E__law_sum (eaCons (evLx (eiSeq2 (evCl true 2 E__law_turned (eaCons (evVar 1) (eaCons (evDf (evBin gIx2 (evFg (evVar 0)) (evK (.int 1)))) eaNil)))) (tgName 3) etYes (evBn mGetD (evVar 2) (eaCons (evVar 3) (eaCons (evTup (eaCons (evK (.int 0)) (eaCons (evK (.int 1)) eaNil))) eaNil))) [3]) eaNil))))
noncomputable def E__law_gained : Fn := evFun B__law_gained 4
theorem ok__law_gained (Fx : Facts G mg) : Def G G.P G.w mg base 5 "_law_gained" ["gain_so", "ring_so"] 2 E__law_gained := by
  obtain ⟨f, fd, F, m, b⟩ := Fx.d__law_gained
  refine def_mk F (fn_ok (k := 4) F sc__law_gained B__law_gained (fun cdv A outer s H E hr => ?_)) rfl m b
  have hx : Okx G (cxB G.P G.w G.K mg base N__law_gained "_law_gained" (defScope st__law_gained) f cdv A outer s H E) := ⟨rfl, rfl, un_of hr, rfl, rfl⟩
  have hd : Dfx (cxB G.P G.w G.K mg base N__law_gained "_law_gained" (defScope st__law_gained) f cdv A outer s H E) := ⟨rfl, rfl⟩
  have tk : Takes (cxB G.P G.w G.K mg base N__law_gained "_law_gained" (defScope st__law_gained) f cdv A outer s H E) (WE' E) := takes_of rfl rfl rfl rfl
  have po := passes_of (X := cxB G.P G.w G.K mg base N__law_gained "_law_gained" (defScope st__law_gained) f cdv A outer s H E) rfl
  exact (ss_cons (ss_set (i := 2) sc__law_gained.nd rfl (by first | exact Or.inl rfl | exact Or.inr rfl) (se_callTy (cx_dictP hx) (by rfl) Fx.n_dict bb_dict (sa_cons (se_ix2 hx (se_fg (sv 0)) si (fun _ _ => rfl)) sa_nil)))
  (ss_one (ss_ret (se_cl true hx (ok__law_sum Fx) (hr.mono (by decide)) (by rfl) tk (sa_cons (se_lx (own := [("own", 3)]) hd tk hx.calm sc__law_gained.nd (si_seq2 hx (se_cl true hx (ok__law_turned Fx) (hr.mono (by decide)) (by rfl) tk (sa_cons (sv 1) (sa_cons (se_df (se_ix2 hx (se_fg (sv 0)) si (fun _ _ => rfl))) sa_nil)))) (blkOk_by (N := N__law_gained) (sc := defScope st__law_gained) (own := [("own", 3)]) (by decide +kernel)) (kk_name 3) (by decide) (fun _ _ _ _ _ _ => (pg_name (i := 3) sc__law_gained.nd rfl (by first | exact Or.inl rfl | exact Or.inr rfl))) (fun _ _ _ _ _ _ _ tk => sts_nil) (fun _ _ _ _ _ _ _ tk => (se_bn (hx.blk) PySem.F.slot_dict_get PySem.F.type_dict_get (mt_getD (hx.blk)) ms_getD (sv 2) (sa_cons (sv 3) (sa_cons (se_tup (sa_cons si (sa_cons si sa_nil))) sa_nil))))) sa_nil)))))
noncomputable def B__law_is_fr : Evs := (esSeq (esIf (etOr (etNot (etTru (evIsi [4] (evVar 0)))) (etBin gNe (evCB (cLenD cLen) (eaCons (evVar 0) eaNil)) (evK (.int 2))))
  (esRet (evK (.bl false)))
  esNil)
  (esSeq (esIf (etBin gNe (evLx (eiSeq2 (evVar 0)) (tgName 1) (etOr (etTru (evIsi [1] (evVar 1))) (etNot (etTru (evIsi [0] (evVar 1))))) (evK (.int 1)) [1]) (evLst eaNil))
  (esRet (evK (.bl false)))
  esNil)
  (esRet (evAnd (evBin gGt2 (evBin gIx2 (evVar 0) (evK (.int 1))) (evK (.int 0))) (evBin gEq (evCl true 2 E__law_gcd (eaCons (evBin gIx2 (evVar 0) (evK (.int 0))) (eaCons (evBin gIx2 (evVar 0) (evK (.int 1))) eaNil))) (evK (.int 1)))))))
noncomputable def E__law_is_fr : Fn := evFun B__law_is_fr 2
theorem ok__law_is_fr (Fx : Facts G mg) : Def G G.P G.w mg base 2 "_law_is_fr" ["matter"] 1 E__law_is_fr := by
  obtain ⟨f, fd, F, m, b⟩ := Fx.d__law_is_fr
  refine def_mk F (fn_ok (k := 1) F sc__law_is_fr B__law_is_fr (fun cdv A outer s H E hr => ?_)) rfl m b
  have hx : Okx G (cxB G.P G.w G.K mg base N__law_is_fr "_law_is_fr" (defScope st__law_is_fr) f cdv A outer s H E) := ⟨rfl, rfl, un_of hr, rfl, rfl⟩
  have hd : Dfx (cxB G.P G.w G.K mg base N__law_is_fr "_law_is_fr" (defScope st__law_is_fr) f cdv A outer s H E) := ⟨rfl, rfl⟩
  have tk : Takes (cxB G.P G.w G.K mg base N__law_is_fr "_law_is_fr" (defScope st__law_is_fr) f cdv A outer s H E) (WE' E) := takes_of rfl rfl rfl rfl
  have po := passes_of (X := cxB G.P G.w G.K mg base N__law_is_fr "_law_is_fr" (defScope st__law_is_fr) f cdv A outer s H E) rfl
  exact (ss_cons (ss_if (st_w (sw_or (st_not (st_tru hx.k (se_isi (c := 4) hx (sv 0) (pe_bltn (by rfl) Fx.n_tuple bb_tuple rfl) (by decide) (by rfl) Fx.n_isinstance) (fun _ => rfl))) (sw_or1 (st_cop (ox_ne hx) (se_callB (cx_lenD hx (cx_len hx)) (by rfl) Fx.n_len bb_len (sa_cons (sv 0) sa_nil)) si rfl))))
  (ss_one (ss_ret (se_k pe_bl)))
  ss_nil)
  (ss_cons (ss_if (st_cop (ox_ne hx) (se_lx (own := [("bit", 1)]) hd tk hx.calm sc__law_is_fr.nd (si_seq2 hx (sv 0)) (blkOk_by (N := N__law_is_fr) (sc := defScope st__law_is_fr) (own := [("bit", 1)]) (by decide +kernel)) (kk_name 1) (by decide) (fun _ _ _ _ _ _ => (pg_name (i := 1) sc__law_is_fr.nd rfl (by first | exact Or.inl rfl | exact Or.inr rfl))) (fun _ _ _ _ _ _ _ tk => (sts_one (st_w (sw_or (st_tru (hx.blk).k (se_isi (c := 1) (hx.blk) (sv 1) (pe_bltn (by rfl) Fx.n_bool bb_bool rfl) (by decide) (by rfl) Fx.n_isinstance) (fun _ => rfl)) (sw_or1 (st_not (st_tru (hx.blk).k (se_isi (c := 0) (hx.blk) (sv 1) (pe_bltn (by rfl) Fx.n_int bb_int rfl) (by decide) (by rfl) Fx.n_isinstance) (fun _ => rfl)))))))) (fun _ _ _ _ _ _ _ tk => si)) (se_lst sa_nil) rfl)
  (ss_one (ss_ret (se_k pe_bl)))
  ss_nil)
  (ss_one (ss_ret (se_and hx.k (se_cop (ox_gt2 hx) (se_ix2 hx (sv 0) si (fun _ _ => rfl)) si rfl) (se_one (se_cop (ox_eq hx) (se_cl true hx (ok__law_gcd Fx) (hr.mono (by decide)) (by rfl) tk (sa_cons (se_ix2 hx (sv 0) si (fun _ _ => rfl)) (sa_cons (se_ix2 hx (sv 0) si (fun _ _ => rfl)) sa_nil))) si rfl)))))))
noncomputable def B__law_is_ring : Evs := (esSeq (esIf (etOr (etNot (etTru (evIsi [4] (evVar 0)))) (etBin gEq (evVar 0) (evTup eaNil)))
  (esRet (evK (.bl false)))
  esNil)
  (esRet (evBin gEq (evLx (eiSeq2 (evVar 0)) (tgName 2) (etOr (etTru (evIsi [1] (evVar 2))) (etOr (etNot (etTru (evIsi [0] (evVar 2)))) (etNot (etChain gLe gLt (evK (.int 0)) (evVar 2) (evVar 1))))) (evK (.int 1)) [2]) (evLst eaNil))))
noncomputable def E__law_is_ring : Fn := evFun B__law_is_ring 3
theorem ok__law_is_ring (Fx : Facts G mg) : Def G G.P G.w mg base 1 "_law_is_ring" ["matter", "letters_so"] 2 E__law_is_ring := by
  obtain ⟨f, fd, F, m, b⟩ := Fx.d__law_is_ring
  refine def_mk F (fn_ok (k := 0) F sc__law_is_ring B__law_is_ring (fun cdv A outer s H E hr => ?_)) rfl m b
  have hx : Okx G (cxB G.P G.w G.K mg base N__law_is_ring "_law_is_ring" (defScope st__law_is_ring) f cdv A outer s H E) := ⟨rfl, rfl, un_of hr, rfl, rfl⟩
  have hd : Dfx (cxB G.P G.w G.K mg base N__law_is_ring "_law_is_ring" (defScope st__law_is_ring) f cdv A outer s H E) := ⟨rfl, rfl⟩
  have tk : Takes (cxB G.P G.w G.K mg base N__law_is_ring "_law_is_ring" (defScope st__law_is_ring) f cdv A outer s H E) (WE' E) := takes_of rfl rfl rfl rfl
  have po := passes_of (X := cxB G.P G.w G.K mg base N__law_is_ring "_law_is_ring" (defScope st__law_is_ring) f cdv A outer s H E) rfl
  exact (ss_cons (ss_if (st_w (sw_or (st_not (st_tru hx.k (se_isi (c := 4) hx (sv 0) (pe_bltn (by rfl) Fx.n_tuple bb_tuple rfl) (by decide) (by rfl) Fx.n_isinstance) (fun _ => rfl))) (sw_or1 (st_cop (ox_eq hx) (sv 0) (se_tup sa_nil) rfl))))
  (ss_one (ss_ret (se_k pe_bl)))
  ss_nil)
  (ss_one (ss_ret (se_cop (ox_eq hx) (se_lx (own := [("bit", 2)]) hd tk hx.calm sc__law_is_ring.nd (si_seq2 hx (sv 0)) (blkOk_by (N := N__law_is_ring) (sc := defScope st__law_is_ring) (own := [("bit", 2)]) (by decide +kernel)) (kk_name 2) (by decide) (fun _ _ _ _ _ _ => (pg_name (i := 2) sc__law_is_ring.nd rfl (by first | exact Or.inl rfl | exact Or.inr rfl))) (fun _ _ _ _ _ _ _ tk => (sts_one (st_w (sw_or (st_tru (hx.blk).k (se_isi (c := 1) (hx.blk) (sv 2) (pe_bltn (by rfl) Fx.n_bool bb_bool rfl) (by decide) (by rfl) Fx.n_isinstance) (fun _ => rfl)) (sw_or (st_not (st_tru (hx.blk).k (se_isi (c := 0) (hx.blk) (sv 2) (pe_bltn (by rfl) Fx.n_int bb_int rfl) (by decide) (by rfl) Fx.n_isinstance) (fun _ => rfl))) (sw_or1 (st_not (st_cch (ox_le) (ox_lt) si (sv 2) (sv 1))))))))) (fun _ _ _ _ _ _ _ tk => si)) (se_lst sa_nil) rfl))))
noncomputable def B__law_value : Evs := (esSeq (esSet 2 (evTup (eaCons (evK (.int 0)) (eaCons (evK (.int 1)) eaNil))))
  (esSeq (esFor 100000 (eiSeq2 (evVar 0)) (tgAny 2 (tgCons (tgName 3) (tgCons (tgName 4) tgNil)))
  (esSeq (esFor 100000 (eiZip2 (eaCons (evVar 3) (eaCons (evVar 1) eaNil))) (tgAny 2 (tgCons (tgName 5) (tgCons (tgName 6) tgNil)))
  (esFor 100000 (eiZip2 (eaCons (evVar 5) (eaCons (evVar 6) eaNil))) (tgAny 2 (tgCons (tgName 7) (tgCons (tgName 8) tgNil)))
  (esFor 100000 (eiRng1 (evVar 7)) (tgName 9)
  (esSet 4 (evCl true 2 E__law_mul (eaCons (evVar 4) (eaCons (evVar 8) eaNil)))))))
  (esSet 2 (evCl true 2 E__law_add (eaCons (evVar 2) (eaCons (evVar 4) eaNil))))))
  (esRet (evVar 2))))
noncomputable def E__law_value : Fn := evFun B__law_value 10
theorem ok__law_value (Fx : Facts G mg) : Def G G.P G.w mg base 4 "_law_value" ["form_so", "rows_so"] 2 E__law_value := by
  obtain ⟨f, fd, F, m, b⟩ := Fx.d__law_value
  refine def_mk F (fn_ok (k := 3) F sc__law_value B__law_value (fun cdv A outer s H E hr => ?_)) rfl m b
  have hx : Okx G (cxB G.P G.w G.K mg base N__law_value "_law_value" (defScope st__law_value) f cdv A outer s H E) := ⟨rfl, rfl, un_of hr, rfl, rfl⟩
  have hd : Dfx (cxB G.P G.w G.K mg base N__law_value "_law_value" (defScope st__law_value) f cdv A outer s H E) := ⟨rfl, rfl⟩
  have tk : Takes (cxB G.P G.w G.K mg base N__law_value "_law_value" (defScope st__law_value) f cdv A outer s H E) (WE' E) := takes_of rfl rfl rfl rfl
  have po := passes_of (X := cxB G.P G.w G.K mg base N__law_value "_law_value" (defScope st__law_value) f cdv A outer s H E) rfl
  exact (ss_cons (ss_set (i := 2) sc__law_value.nd rfl (by first | exact Or.inl rfl | exact Or.inr rfl) (se_tup (sa_cons si (sa_cons si sa_nil))))
  (ss_cons (ss_for po hx.calm (si_seq2 hx (sv 0)) (tg_any hx (tgs_cons (tg_name (pg_name (i := 3) sc__law_value.nd rfl (by first | exact Or.inl rfl | exact Or.inr rfl))) (tgs_cons (tg_name (pg_name (i := 4) sc__law_value.nd rfl (by first | exact Or.inl rfl | exact Or.inr rfl))) tgs_nil)))
  (ss_cons (ss_for po hx.calm (si_zip2 hx (by rfl) Fx.n_zip (sa_cons (sv 3) (sa_cons (sv 1) sa_nil))) (tg_any hx (tgs_cons (tg_name (pg_name (i := 5) sc__law_value.nd rfl (by first | exact Or.inl rfl | exact Or.inr rfl))) (tgs_cons (tg_name (pg_name (i := 6) sc__law_value.nd rfl (by first | exact Or.inl rfl | exact Or.inr rfl))) tgs_nil)))
  (ss_one (ss_for po hx.calm (si_zip2 hx (by rfl) Fx.n_zip (sa_cons (sv 5) (sa_cons (sv 6) sa_nil))) (tg_any hx (tgs_cons (tg_name (pg_name (i := 7) sc__law_value.nd rfl (by first | exact Or.inl rfl | exact Or.inr rfl))) (tgs_cons (tg_name (pg_name (i := 8) sc__law_value.nd rfl (by first | exact Or.inl rfl | exact Or.inr rfl))) tgs_nil)))
  (ss_one (ss_for po hx.calm (si_rng1 (by rfl) Fx.n_range (sv 7)) (tg_name (pg_name (i := 9) sc__law_value.nd rfl (by first | exact Or.inl rfl | exact Or.inr rfl)))
  (ss_one (ss_set (i := 4) sc__law_value.nd rfl (by first | exact Or.inl rfl | exact Or.inr rfl) (se_cl true hx (ok__law_mul Fx) (hr.mono (by decide)) (by rfl) tk (sa_cons (sv 4) (sa_cons (sv 8) sa_nil))))))))))
  (ss_one (ss_set (i := 2) sc__law_value.nd rfl (by first | exact Or.inl rfl | exact Or.inr rfl) (se_cl true hx (ok__law_add Fx) (hr.mono (by decide)) (by rfl) tk (sa_cons (sv 2) (sa_cons (sv 4) sa_nil)))))))
  (ss_one (ss_ret (sv 2)))))
noncomputable def B__law_round : Evs := (esRet (evCl true 1 E__law_sum (eaCons (evLx (eiSeq2 (evCl true 2 E__law_turned (eaCons (evVar 2) (eaCons (evVar 1) eaNil)))) (tgName 3) etYes (evCl true 2 E__law_value (eaCons (evVar 0) (eaCons (evVar 3) eaNil))) [3]) eaNil)))
noncomputable def E__law_round : Fn := evFun B__law_round 4
theorem ok__law_round (Fx : Facts G mg) : Def G G.P G.w mg base 5 "_law_round" ["form_so", "n_so", "rows_so"] 3 E__law_round := by
  obtain ⟨f, fd, F, m, b⟩ := Fx.d__law_round
  refine def_mk F (fn_ok (k := 4) F sc__law_round B__law_round (fun cdv A outer s H E hr => ?_)) rfl m b
  have hx : Okx G (cxB G.P G.w G.K mg base N__law_round "_law_round" (defScope st__law_round) f cdv A outer s H E) := ⟨rfl, rfl, un_of hr, rfl, rfl⟩
  have hd : Dfx (cxB G.P G.w G.K mg base N__law_round "_law_round" (defScope st__law_round) f cdv A outer s H E) := ⟨rfl, rfl⟩
  have tk : Takes (cxB G.P G.w G.K mg base N__law_round "_law_round" (defScope st__law_round) f cdv A outer s H E) (WE' E) := takes_of rfl rfl rfl rfl
  have po := passes_of (X := cxB G.P G.w G.K mg base N__law_round "_law_round" (defScope st__law_round) f cdv A outer s H E) rfl
  exact (ss_one (ss_ret (se_cl true hx (ok__law_sum Fx) (hr.mono (by decide)) (by rfl) tk (sa_cons (se_lx (own := [("own", 3)]) hd tk hx.calm sc__law_round.nd (si_seq2 hx (se_cl true hx (ok__law_turned Fx) (hr.mono (by decide)) (by rfl) tk (sa_cons (sv 2) (sa_cons (sv 1) sa_nil)))) (blkOk_by (N := N__law_round) (sc := defScope st__law_round) (own := [("own", 3)]) (by decide +kernel)) (kk_name 3) (by decide) (fun _ _ _ _ _ _ => (pg_name (i := 3) sc__law_round.nd rfl (by first | exact Or.inl rfl | exact Or.inr rfl))) (fun _ _ _ _ _ _ _ tk => sts_nil) (fun _ _ _ _ _ _ _ tk => (se_cl true (hx.blk) (ok__law_value Fx) (hr.mono (by decide)) (by rfl) tk (sa_cons (sv 0) (sa_cons (sv 3) sa_nil))))) sa_nil))))
noncomputable def B__law_are_rows : Evs := (esSeq (esIf (etOr (etNot (etTru (evIsi [4] (evVar 0)))) (etBin gEq (evVar 0) (evTup eaNil)))
  (esRet (evK (.bl false)))
  esNil)
  (esSeq (esFor 100000 (eiSeq2 (evVar 0)) (tgName 2)
  (esIf (etOr (etNot (etTru (evIsi [4] (evVar 2)))) (etOr (etBin gNe (evCB (cLenD cLen) (eaCons (evVar 2) eaNil)) (evVar 1)) (etBin gNe (evLx (eiSeq2 (evVar 2)) (tgName 3) (etNot (etTru (evCl true 1 E__law_is_fr (eaCons (evVar 3) eaNil)))) (evK (.int 1)) [3]) (evLst eaNil))))
  (esRet (evK (.bl false)))
  esNil))
  (esRet (evK (.bl true)))))
noncomputable def E__law_are_rows : Fn := evFun B__law_are_rows 4
theorem ok__law_are_rows (Fx : Facts G mg) : Def G G.P G.w mg base 3 "_law_are_rows" ["matter", "c_so"] 2 E__law_are_rows := by
  obtain ⟨f, fd, F, m, b⟩ := Fx.d__law_are_rows
  refine def_mk F (fn_ok (k := 2) F sc__law_are_rows B__law_are_rows (fun cdv A outer s H E hr => ?_)) rfl m b
  have hx : Okx G (cxB G.P G.w G.K mg base N__law_are_rows "_law_are_rows" (defScope st__law_are_rows) f cdv A outer s H E) := ⟨rfl, rfl, un_of hr, rfl, rfl⟩
  have hd : Dfx (cxB G.P G.w G.K mg base N__law_are_rows "_law_are_rows" (defScope st__law_are_rows) f cdv A outer s H E) := ⟨rfl, rfl⟩
  have tk : Takes (cxB G.P G.w G.K mg base N__law_are_rows "_law_are_rows" (defScope st__law_are_rows) f cdv A outer s H E) (WE' E) := takes_of rfl rfl rfl rfl
  have po := passes_of (X := cxB G.P G.w G.K mg base N__law_are_rows "_law_are_rows" (defScope st__law_are_rows) f cdv A outer s H E) rfl
  exact (ss_cons (ss_if (st_w (sw_or (st_not (st_tru hx.k (se_isi (c := 4) hx (sv 0) (pe_bltn (by rfl) Fx.n_tuple bb_tuple rfl) (by decide) (by rfl) Fx.n_isinstance) (fun _ => rfl))) (sw_or1 (st_cop (ox_eq hx) (sv 0) (se_tup sa_nil) rfl))))
  (ss_one (ss_ret (se_k pe_bl)))
  ss_nil)
  (ss_cons (ss_for po hx.calm (si_seq2 hx (sv 0)) (tg_name (pg_name (i := 2) sc__law_are_rows.nd rfl (by first | exact Or.inl rfl | exact Or.inr rfl)))
  (ss_one (ss_if (st_w (sw_or (st_not (st_tru hx.k (se_isi (c := 4) hx (sv 2) (pe_bltn (by rfl) Fx.n_tuple bb_tuple rfl) (by decide) (by rfl) Fx.n_isinstance) (fun _ => rfl))) (sw_or (st_cop (ox_ne hx) (se_callB (cx_lenD hx (cx_len hx)) (by rfl) Fx.n_len bb_len (sa_cons (sv 2) sa_nil)) (sv 1) rfl) (sw_or1 (st_cop (ox_ne hx) (se_lx (own := [("x_so", 3)]) hd tk hx.calm sc__law_are_rows.nd (si_seq2 hx (sv 2)) (blkOk_by (N := N__law_are_rows) (sc := defScope st__law_are_rows) (own := [("x_so", 3)]) (by decide +kernel)) (kk_name 3) (by decide) (fun _ _ _ _ _ _ => (pg_name (i := 3) sc__law_are_rows.nd rfl (by first | exact Or.inl rfl | exact Or.inr rfl))) (fun _ _ _ _ _ _ _ tk => (sts_one (st_not (st_tru (hx.blk).k (se_cl true (hx.blk) (ok__law_is_fr Fx) (hr.mono (by decide)) (by rfl) tk (sa_cons (sv 3) sa_nil)) (fun _ => rfl))))) (fun _ _ _ _ _ _ _ tk => si)) (se_lst sa_nil) rfl)))))
  (ss_one (ss_ret (se_k pe_bl)))
  ss_nil)))
  (ss_one (ss_ret (se_k pe_bl)))))
noncomputable def B__law_names : Evs := (esSeq (esAsg (evFg (evTupP (eaCons (evTupP (eaCons (evK (.int 2)) (eaCons (evK (.int 2)) (eaCons (evTupP (eaCons (evTupP (eaCons (evTupP (eaCons (evK (.int 0)) (eaCons (evK (.int 1)) eaNil))) (eaCons (evTupP (eaCons (evK (.int 1)) (eaCons (evK (.int 1)) eaNil))) eaNil))) eaNil)) eaNil)))) (eaCons (evTupP (eaCons (evK (.int 2)) (eaCons (evK (.int 2)) (eaCons (evTupP (eaCons (evTupP (eaCons (evTupP (eaCons (evK (.int 0)) (eaCons (evK (.int 1)) eaNil))) (eaCons (evTupP (eaCons (evK (.int 1)) (eaCons (evK (.int 1)) eaNil))) eaNil))) (eaCons (evTupP (eaCons (evTupP (eaCons (evK (.int 1)) (eaCons (evK (.int 0)) eaNil))) (eaCons (evTupP (eaCons (evNeg (evK (.int 1))) (eaCons (evK (.int 1)) eaNil))) eaNil))) eaNil))) eaNil)))) eaNil)))) (tgAny 2 (tgCons (tgName 0) (tgCons (tgName 1) tgNil))))
  (esSeq (esAsg (evFg (evTupP (eaCons (evTupP (eaCons (evK (.int 2)) (eaCons (evK (.int 3)) (eaCons (evTupP (eaCons (evTupP (eaCons (evTupP (eaCons (evK (.int 0)) (eaCons (evK (.int 1)) (eaCons (evK (.int 0)) eaNil)))) (eaCons (evTupP (eaCons (evK (.int 1)) (eaCons (evK (.int 2)) eaNil))) eaNil))) eaNil)) eaNil)))) (eaCons (evTupP (eaCons (evK (.int 2)) (eaCons (evK (.int 1)) (eaCons (evTupP (eaCons (evTupP (eaCons (evTupP (eaCons (evK (.int 1)) eaNil)) (eaCons (evTupP (eaCons (evK (.int 3)) (eaCons (evK (.int 1)) eaNil))) eaNil))) eaNil)) eaNil)))) eaNil)))) (tgAny 2 (tgCons (tgName 2) (tgCons (tgName 3) tgNil))))
  (esSeq (esSet 4 (evTupP (eaCons (evK (.int 3)) (eaCons (evK (.int 2)) (eaCons (evTupP (eaCons (evTupP (eaCons (evTupP (eaCons (evK (.int 0)) (eaCons (evK (.int 1)) eaNil))) (eaCons (evTupP (eaCons (evK (.int 2)) (eaCons (evK (.int 1)) eaNil))) eaNil))) (eaCons (evTupP (eaCons (evTupP (eaCons (evK (.int 1)) (eaCons (evK (.int 0)) eaNil))) (eaCons (evTupP (eaCons (evNeg (evK (.int 1))) (eaCons (evK (.int 1)) eaNil))) eaNil))) (eaCons (evTupP (eaCons (evTupP (eaCons (evK (.int 1)) (eaCons (evK (.int 1)) eaNil))) (eaCons (evTupP (eaCons (evK (.int 1)) (eaCons (evK (.int 2)) eaNil))) eaNil))) (eaCons (evTupP (eaCons (evTupP (eaCons (evK (.int 1)) (eaCons (evK (.int 2)) eaNil))) (eaCons (evTupP (eaCons (evK (.int 2)) (eaCons (evK (.int 1)) eaNil))) eaNil))) (eaCons (evTupP (eaCons (evTupP (eaCons (evK (.int 2)) (eaCons (evK (.int 0)) eaNil))) (eaCons (evTupP (eaCons (evNeg (evK (.int 1))) (eaCons (evK (.int 1)) eaNil))) eaNil))) (eaCons (evTupP (eaCons (evTupP (eaCons (evK (.int 2)) (eaCons (evK (.int 1)) eaNil))) (eaCons (evTupP (eaCons (evNeg (evK (.int 1))) (eaCons (evK (.int 1)) eaNil))) eaNil))) eaNil))))))) eaNil)))))
  (esRet (evTupP (eaCons (evVar 0) (eaCons (evVar 1) (eaCons (evVar 2) (eaCons (evVar 3) (eaCons (evVar 4) eaNil))))))))))
noncomputable def E__law_names : Fn := evFun B__law_names 5
theorem ok__law_names (Fx : Facts G mg) : Def G G.P G.w mg base 1 "_law_names" [] 0 E__law_names := by
  obtain ⟨f, fd, F, m, b⟩ := Fx.d__law_names
  refine def_mk F (fn_ok (k := 0) F sc__law_names B__law_names (fun cdv A outer s H E hr => ?_)) rfl m b
  have hx : Okx G (cxB G.P G.w G.K mg base N__law_names "_law_names" (defScope st__law_names) f cdv A outer s H E) := ⟨rfl, rfl, un_of hr, rfl, rfl⟩
  have hd : Dfx (cxB G.P G.w G.K mg base N__law_names "_law_names" (defScope st__law_names) f cdv A outer s H E) := ⟨rfl, rfl⟩
  have tk : Takes (cxB G.P G.w G.K mg base N__law_names "_law_names" (defScope st__law_names) f cdv A outer s H E) (WE' E) := takes_of rfl rfl rfl rfl
  have po := passes_of (X := cxB G.P G.w G.K mg base N__law_names "_law_names" (defScope st__law_names) f cdv A outer s H E) rfl
  exact (ss_cons (ss_asg (se_fg (se_tupP (sa_cons (se_tupP (sa_cons si (sa_cons si (sa_cons (se_tupP (sa_cons (se_tupP (sa_cons (se_tupP (sa_cons si (sa_cons si sa_nil))) (sa_cons (se_tupP (sa_cons si (sa_cons si sa_nil))) sa_nil))) sa_nil)) sa_nil)))) (sa_cons (se_tupP (sa_cons si (sa_cons si (sa_cons (se_tupP (sa_cons (se_tupP (sa_cons (se_tupP (sa_cons si (sa_cons si sa_nil))) (sa_cons (se_tupP (sa_cons si (sa_cons si sa_nil))) sa_nil))) (sa_cons (se_tupP (sa_cons (se_tupP (sa_cons si (sa_cons si sa_nil))) (sa_cons (se_tupP (sa_cons (se_neg si) (sa_cons si sa_nil))) sa_nil))) sa_nil))) sa_nil)))) sa_nil)))) (tg_any hx (tgs_cons (tg_name (pg_name (i := 0) sc__law_names.nd rfl (by first | exact Or.inl rfl | exact Or.inr rfl))) (tgs_cons (tg_name (pg_name (i := 1) sc__law_names.nd rfl (by first | exact Or.inl rfl | exact Or.inr rfl))) tgs_nil))))
  (ss_cons (ss_asg (se_fg (se_tupP (sa_cons (se_tupP (sa_cons si (sa_cons si (sa_cons (se_tupP (sa_cons (se_tupP (sa_cons (se_tupP (sa_cons si (sa_cons si (sa_cons si sa_nil)))) (sa_cons (se_tupP (sa_cons si (sa_cons si sa_nil))) sa_nil))) sa_nil)) sa_nil)))) (sa_cons (se_tupP (sa_cons si (sa_cons si (sa_cons (se_tupP (sa_cons (se_tupP (sa_cons (se_tupP (sa_cons si sa_nil)) (sa_cons (se_tupP (sa_cons si (sa_cons si sa_nil))) sa_nil))) sa_nil)) sa_nil)))) sa_nil)))) (tg_any hx (tgs_cons (tg_name (pg_name (i := 2) sc__law_names.nd rfl (by first | exact Or.inl rfl | exact Or.inr rfl))) (tgs_cons (tg_name (pg_name (i := 3) sc__law_names.nd rfl (by first | exact Or.inl rfl | exact Or.inr rfl))) tgs_nil))))
  (ss_cons (ss_set (i := 4) sc__law_names.nd rfl (by first | exact Or.inl rfl | exact Or.inr rfl) (se_tupP (sa_cons si (sa_cons si (sa_cons (se_tupP (sa_cons (se_tupP (sa_cons (se_tupP (sa_cons si (sa_cons si sa_nil))) (sa_cons (se_tupP (sa_cons si (sa_cons si sa_nil))) sa_nil))) (sa_cons (se_tupP (sa_cons (se_tupP (sa_cons si (sa_cons si sa_nil))) (sa_cons (se_tupP (sa_cons (se_neg si) (sa_cons si sa_nil))) sa_nil))) (sa_cons (se_tupP (sa_cons (se_tupP (sa_cons si (sa_cons si sa_nil))) (sa_cons (se_tupP (sa_cons si (sa_cons si sa_nil))) sa_nil))) (sa_cons (se_tupP (sa_cons (se_tupP (sa_cons si (sa_cons si sa_nil))) (sa_cons (se_tupP (sa_cons si (sa_cons si sa_nil))) sa_nil))) (sa_cons (se_tupP (sa_cons (se_tupP (sa_cons si (sa_cons si sa_nil))) (sa_cons (se_tupP (sa_cons (se_neg si) (sa_cons si sa_nil))) sa_nil))) (sa_cons (se_tupP (sa_cons (se_tupP (sa_cons si (sa_cons si sa_nil))) (sa_cons (se_tupP (sa_cons (se_neg si) (sa_cons si sa_nil))) sa_nil))) sa_nil))))))) sa_nil)))))
  (ss_one (ss_ret (se_tupP (sa_cons (sv 0) (sa_cons (sv 1) (sa_cons (sv 2) (sa_cons (sv 3) (sa_cons (sv 4) sa_nil)))))))))))
noncomputable def B__law_heard : Evs := (esSeq (esAsg (evTup (eaCons (evK .non) (eaCons (evK .non) eaNil))) (tgAny 2 (tgCons (tgName 3) (tgCons (tgName 4) tgNil))))
  (esSeq (esTry (esIf (etBin gEq (evVar 0) (evK (.int 0)))
  (esSet 4 (evCl true 1 E_store (eaCons (evVar 1) eaNil)))
  (esIf (etBin gEq (evVar 0) (evK (.int 1)))
  (esSet 4 (evDf (evCl true 2 E_most_store (eaCons (evVar 1) (eaCons (evVar 2) eaNil)))))
  (esIf (etBin gEq (evVar 0) (evK (.int 2)))
  (esSet 4 (evCl true 3 E_form_store (eaCons (evVar 1) (eaCons (evVar 2) (eaCons (evK (.int 1)) eaNil)))))
  (esSet 4 (evCl true 2 E_step_gain (eaCons (evVar 1) (eaCons (evVar 2) eaNil)))))))
  (quiet [(lookB [true, false], asK (some 5) (fun x => esSet 3 ((fun x => evLst ((fun x => eaCons ((fun _ => (evK (.str s_1))) x) ((fun x => eaCons ((fun _ => (evK (.bl true))) x) ((fun _ => eaNil) x)) x)) x)) x))), (lookB [false, true], asK (some 5) (fun x => esSet 3 ((fun x => evLst ((fun x => eaCons ((fun _ => (evK (.str s_0))) x) ((fun x => eaCons ((fun _ => (evK (.bl true))) x) ((fun _ => eaNil) x)) x)) x)) x)))]))
  (esRet (evIf (etBin gIs (evVar 3) (evK .non)) (evVar 4) (evVar 3)))))
noncomputable def E__law_heard : Fn := evFun B__law_heard 6
theorem ok__law_heard (Fx : Facts G mg) : Def G G.P G.w mg base 15 "_law_heard" ["door_so", "gain_so", "own"] 3 E__law_heard := by
  obtain ⟨f, fd, F, m, b⟩ := Fx.d__law_heard
  refine def_mk F (fn_ok (k := 14) F sc__law_heard B__law_heard (fun cdv A outer s H E hr => ?_)) rfl m b
  have hx : Okx G (cxB G.P G.w G.K mg base N__law_heard "_law_heard" (defScope st__law_heard) f cdv A outer s H E) := ⟨rfl, rfl, un_of hr, rfl, rfl⟩
  have hd : Dfx (cxB G.P G.w G.K mg base N__law_heard "_law_heard" (defScope st__law_heard) f cdv A outer s H E) := ⟨rfl, rfl⟩
  have tk : Takes (cxB G.P G.w G.K mg base N__law_heard "_law_heard" (defScope st__law_heard) f cdv A outer s H E) (WE' E) := takes_of rfl rfl rfl rfl
  have po := passes_of (X := cxB G.P G.w G.K mg base N__law_heard "_law_heard" (defScope st__law_heard) f cdv A outer s H E) rfl
  exact (ss_cons (ss_asg (se_tup (sa_cons (se_k pe_non) (sa_cons (se_k pe_non) sa_nil))) (tg_any hx (tgs_cons (tg_name (pg_name (i := 3) sc__law_heard.nd rfl (by first | exact Or.inl rfl | exact Or.inr rfl))) (tgs_cons (tg_name (pg_name (i := 4) sc__law_heard.nd rfl (by first | exact Or.inl rfl | exact Or.inr rfl))) tgs_nil))))
  (ss_cons (ss_try hx hd sc__law_heard.nd tk (fun _ _ _ tk po => (ss_one (ss_if (st_cop (ox_eq (hx.tr)) (sv 0) si rfl)
  (ss_one (ss_set (i := 4) sc__law_heard.nd rfl (by first | exact Or.inl rfl | exact Or.inr rfl) (se_cl true (hx.tr) (ok_store Fx) (hr.mono (by decide)) (by rfl) tk (sa_cons (sv 1) sa_nil))))
  (ss_one (ss_if (st_cop (ox_eq (hx.tr)) (sv 0) si rfl)
  (ss_one (ss_set (i := 4) sc__law_heard.nd rfl (by first | exact Or.inl rfl | exact Or.inr rfl) (se_df (se_cl true (hx.tr) (ok_most_store Fx) (hr.mono (by decide)) (by rfl) tk (sa_cons (sv 1) (sa_cons (sv 2) sa_nil))))))
  (ss_one (ss_if (st_cop (ox_eq (hx.tr)) (sv 0) si rfl)
  (ss_one (ss_set (i := 4) sc__law_heard.nd rfl (by first | exact Or.inl rfl | exact Or.inr rfl) (se_cl true (hx.tr) (ok_form_store Fx) (hr.mono (by decide)) (by rfl) tk (sa_cons (sv 1) (sa_cons (sv 2) (sa_cons si sa_nil))))))
  (ss_one (ss_set (i := 4) sc__law_heard.nd rfl (by first | exact Or.inl rfl | exact Or.inr rfl) (se_cl true (hx.tr) (ok_step_gain Fx) (hr.mono (by decide)) (by rfl) tk (sa_cons (sv 1) (sa_cons (sv 2) sa_nil))))))))))))
  (.cons ⟨by rfl, by decide, .inl Fx.x_CanNot.mg⟩ (i := (some 5)) ⟨_, rfl, rfl, rfl⟩ (ex_CanNot Fx) (fun c hc => (by obtain rfl := only_CanNot hc; exact (sx_set (j := 3) sc__law_heard.nd rfl (by first | exact Or.inl rfl | exact Or.inr rfl) (sxe_lst (sxa_cons (sxe_of fun _ _ => (se_str s_1_eq)) (sxa_cons (sxe_isP (b := true) (cv := .ty "ValueError") hx (Fx.e_CanNot) (fun _ _ => pv 5) (fun _ _ => pe_bltn (by rfl) Fx.n_ValueError bb_ValueError rfl) (fun _ h => h) (Fx.i_CanNot_ValueError) (by rfl) Fx.n_isinstance) sxa_nil)))))) (.cons ⟨by rfl, by decide, .inl Fx.x_Unfit.mg⟩ (i := (some 5)) ⟨_, rfl, rfl, rfl⟩ (ex_Unfit Fx) (fun c hc => (by obtain rfl := only_Unfit hc; exact (sx_set (j := 3) sc__law_heard.nd rfl (by first | exact Or.inl rfl | exact Or.inr rfl) (sxe_lst (sxa_cons (sxe_of fun _ _ => (se_str s_0_eq)) (sxa_cons (sxe_isP (b := true) (cv := .ty "ValueError") hx (Fx.e_Unfit) (fun _ _ => pv 5) (fun _ _ => pe_bltn (by rfl) Fx.n_ValueError bb_ValueError rfl) (fun _ h => h) (Fx.i_Unfit_ValueError) (by rfl) Fx.n_isinstance) sxa_nil)))))) .nil)))
  (ss_one (ss_ret (se_if (st_cop (ox_is) (sv 3) (se_k pe_non) rfl) (sv 4) (sv 3))))))
noncomputable def B__law_things_right : Evs := (esSeq (esAsg (evTup (eaCons (evTup (eaCons (evK (.int 1)) (eaCons (evK (.int 2)) eaNil))) (eaCons (evTup (eaCons (evK (.int 1)) (eaCons (evK (.int 1)) eaNil))) eaNil))) (tgAny 2 (tgCons (tgName 0) (tgCons (tgName 1) tgNil))))
  (esSeq (esSet 2 (evLst (eaCons (evTup (eaCons (evK (.int 2)) (eaCons (evK (.int 2)) (eaCons (evTup eaNil) eaNil)))) (eaCons (evTup (eaCons (evK (.int 1)) (eaCons (evK (.int 1)) (eaCons (evTup (eaCons (evTup (eaCons (evTup (eaCons (evK (.int 0)) eaNil)) (eaCons (evVar 1) eaNil))) eaNil)) eaNil)))) (eaCons (evTup (eaCons (evK (.int 2)) (eaCons (evK (.int 1)) (eaCons (evTup (eaCons (evTup (eaCons (evTup (eaCons (evK (.int 0)) eaNil)) (eaCons (evVar 0) eaNil))) (eaCons (evTup (eaCons (evTup (eaCons (evK (.int 1)) eaNil)) (eaCons (evVar 0) eaNil))) eaNil))) eaNil)))) (eaCons (evTup (eaCons (evK (.int 3)) (eaCons (evK (.int 2)) (eaCons (evTup (eaCons (evTup (eaCons (evTup (eaCons (evK (.int 0)) (eaCons (evK (.int 1)) eaNil))) (eaCons (evVar 0) eaNil))) (eaCons (evTup (eaCons (evTup (eaCons (evK (.int 1)) (eaCons (evK (.int 0)) eaNil))) (eaCons (evVar 0) eaNil))) eaNil))) eaNil)))) eaNil))))))
  (esSeq (esSet 2 (evBin gAdd (evVar 2) (evLst (eaCons (evTup (eaCons (evK (.int 1)) (eaCons (evK (.int 100)) (eaCons (evTup (eaCons (evTup (eaCons (evBin gMul (evTup (eaCons (evK (.int 0)) eaNil)) (evK (.int 100))) (eaCons (evVar 1) eaNil))) eaNil)) eaNil)))) (eaCons (evTup (eaCons (evK (.int 2)) (eaCons (evK (.int 2)) (eaCons (evTup (eaCons (evTup (eaCons (evTup (eaCons (evK (.int 0)) (eaCons (evK (.int 0)) eaNil))) (eaCons (evTup (eaCons (evNeg (evK (.int 1))) (eaCons (evK (.int 2)) eaNil))) eaNil))) (eaCons (evTup (eaCons (evTup (eaCons (evK (.int 0)) (eaCons (evK (.int 1)) eaNil))) (eaCons (evTup (eaCons (evK (.int 3)) (eaCons (evK (.int 2)) eaNil))) eaNil))) eaNil))) eaNil)))) eaNil)))))
  (esSeq (esSet 3 (evLst (eaCons (evTup (eaCons (evK (.int 2)) (eaCons (evK (.int 2)) (eaCons (evTup (eaCons (evTup (eaCons (evTup (eaCons (evK (.int 0)) (eaCons (evK (.int 1)) eaNil))) (eaCons (evVar 1) eaNil))) eaNil)) eaNil)))) (eaCons (evTup (eaCons (evK (.int 2)) (eaCons (evK (.int 2)) (eaCons (evTup (eaCons (evTup (eaCons (evTup (eaCons (evK (.int 0)) (eaCons (evK (.int 1)) eaNil))) (eaCons (evVar 0) eaNil))) (eaCons (evTup (eaCons (evTup (eaCons (evK (.int 1)) (eaCons (evK (.int 1)) eaNil))) (eaCons (evVar 0) eaNil))) eaNil))) eaNil)))) (eaCons (evTup (eaCons (evK (.int 2)) (eaCons (evK (.int 1)) (eaCons (evTup (eaCons (evTup (eaCons (evTup (eaCons (evK (.int 0)) eaNil)) (eaCons (evVar 0) eaNil))) (eaCons (evTup (eaCons (evTup (eaCons (evK (.int 1)) eaNil)) (eaCons (evTup (eaCons (evK (.int 1)) (eaCons (evK (.int 3)) eaNil))) eaNil))) eaNil))) eaNil)))) eaNil)))))
  (esSeq (esSet 3 (evBin gAdd (evVar 3) (evLst (eaCons (evTup (eaCons (evK (.int 2)) (eaCons (evK (.int 1)) (eaCons (evTup (eaCons (evTup (eaCons (evTup (eaCons (evK (.int 0)) eaNil)) (eaCons (evTup (eaCons (evK (.int 3)) (eaCons (evK (.int 2)) eaNil))) eaNil))) (eaCons (evTup (eaCons (evTup (eaCons (evK (.int 1)) eaNil)) (eaCons (evTup (eaCons (evNeg (evK (.int 1))) (eaCons (evK (.int 2)) eaNil))) eaNil))) eaNil))) eaNil)))) (eaCons (evTup (eaCons (evK (.int 2)) (eaCons (evK (.int 3)) (eaCons (evTup (eaCons (evTup (eaCons (evTup (eaCons (evK (.int 0)) (eaCons (evK (.int 0)) (eaCons (evK (.int 1)) eaNil)))) (eaCons (evVar 0) eaNil))) (eaCons (evTup (eaCons (evTup (eaCons (evK (.int 0)) (eaCons (evK (.int 1)) (eaCons (evK (.int 0)) eaNil)))) (eaCons (evVar 0) eaNil))) eaNil))) eaNil)))) eaNil)))))
  (esSeq (esSet 4 (evLst (eaCons (evK .non) (eaCons (evK (.int 7)) (eaCons (evTup eaNil) (eaCons (evTup (eaCons (evK (.int 2)) (eaCons (evK (.int 2)) eaNil))) (eaCons (evTup (eaCons (evK (.int 2)) (eaCons (evK (.int 2)) (eaCons (evTup eaNil) (eaCons (evTup eaNil) eaNil))))) (eaCons (evLst (eaCons (evK (.int 2)) (eaCons (evK (.int 2)) (eaCons (evTup eaNil) eaNil)))) (eaCons (evTup (eaCons (evK (.int 2)) (eaCons (evK (.int 2)) (eaCons (evLst eaNil) eaNil)))) (eaCons (evTup (eaCons (evK (.int 0)) (eaCons (evK (.int 2)) (eaCons (evTup eaNil) eaNil)))) (eaCons (evTup (eaCons (evK (.int 2)) (eaCons (evK (.int 0)) (eaCons (evTup eaNil) eaNil)))) (eaCons (evTup (eaCons (evK (.bl true)) (eaCons (evK (.int 2)) (eaCons (evTup eaNil) eaNil)))) (eaCons (evTup (eaCons (evK (.int 2)) (eaCons (evNeg (evK (.int 1))) (eaCons (evTup eaNil) eaNil)))) (eaCons (evTup (eaCons (evK (.str s_2)) (eaCons (evK (.int 2)) (eaCons (evTup eaNil) eaNil)))) eaNil))))))))))))))
  (esSeq (esSet 4 (evBin gAdd (evVar 4) (evLst (eaCons (evTup (eaCons (evK (.int 2)) (eaCons (evK (.int 2)) (eaCons (evTup (eaCons (evTup (eaCons (evTup (eaCons (evK (.int 0)) (eaCons (evK (.int 1)) eaNil))) (eaCons (evTup (eaCons (evK (.int 0)) (eaCons (evK (.int 1)) eaNil))) eaNil))) eaNil)) eaNil)))) (eaCons (evTup (eaCons (evK (.int 2)) (eaCons (evK (.int 2)) (eaCons (evTup (eaCons (evTup (eaCons (evTup (eaCons (evK (.int 0)) (eaCons (evK (.int 2)) eaNil))) (eaCons (evVar 1) eaNil))) eaNil)) eaNil)))) (eaCons (evTup (eaCons (evK (.int 2)) (eaCons (evK (.int 2)) (eaCons (evTup (eaCons (evTup (eaCons (evTup (eaCons (evK (.int 0)) eaNil)) (eaCons (evVar 1) eaNil))) eaNil)) eaNil)))) (eaCons (evTup (eaCons (evK (.int 2)) (eaCons (evK (.int 2)) (eaCons (evTup (eaCons (evTup (eaCons (evLst (eaCons (evK (.int 0)) (eaCons (evK (.int 1)) eaNil))) (eaCons (evVar 1) eaNil))) eaNil)) eaNil)))) eaNil)))))))
  (esSeq (esSet 4 (evBin gAdd (evVar 4) (evLst (eaCons (evTup (eaCons (evK (.int 2)) (eaCons (evK (.int 2)) (eaCons (evTup (eaCons (evTup (eaCons (evTup (eaCons (evK (.int 0)) (eaCons (evK (.int 1)) eaNil))) (eaCons (evTup (eaCons (evK (.int 2)) (eaCons (evK (.int 2)) eaNil))) eaNil))) eaNil)) eaNil)))) (eaCons (evTup (eaCons (evK (.int 2)) (eaCons (evK (.int 2)) (eaCons (evTup (eaCons (evTup (eaCons (evTup (eaCons (evK (.int 1)) (eaCons (evK (.int 0)) eaNil))) (eaCons (evVar 1) eaNil))) (eaCons (evTup (eaCons (evTup (eaCons (evK (.int 0)) (eaCons (evK (.int 1)) eaNil))) (eaCons (evVar 1) eaNil))) eaNil))) eaNil)))) (eaCons (evTup (eaCons (evK (.int 2)) (eaCons (evK (.int 1)) (eaCons (evTup (eaCons (evTup (eaCons (evTup (eaCons (evK (.int 0)) eaNil)) (eaCons (evVar 0) eaNil))) (eaCons (evTup (eaCons (evTup (eaCons (evK (.int 0)) eaNil)) (eaCons (evVar 0) eaNil))) eaNil))) eaNil)))) eaNil))))))
  (esSeq (esSet 4 (evBin gAdd (evVar 4) (evLst (eaCons (evTup (eaCons (evK (.int 2)) (eaCons (evK (.int 1)) (eaCons (evTup (eaCons (evTup (eaCons (evTup (eaCons (evK (.bl false)) eaNil)) (eaCons (evVar 1) eaNil))) eaNil)) eaNil)))) (eaCons (evTup (eaCons (evK (.int 2)) (eaCons (evK (.int 1)) (eaCons (evTup (eaCons (evTup (eaCons (evTup (eaCons (evNeg (evK (.int 1))) eaNil)) (eaCons (evVar 1) eaNil))) eaNil)) eaNil)))) (eaCons (evTup (eaCons (evK (.int 2)) (eaCons (evK (.int 1)) (eaCons (evTup (eaCons (evTup (eaCons (evTup (eaCons (evK (.int 0)) eaNil)) (eaCons (evK (.int 1)) eaNil))) eaNil)) eaNil)))) (eaCons (evTup (eaCons (evK (.int 2)) (eaCons (evK (.int 1)) (eaCons (evTup (eaCons (evTup (eaCons (evTup (eaCons (evK (.int 0)) eaNil)) (eaCons (evVar 1) (eaCons (evK (.int 0)) eaNil)))) eaNil)) eaNil)))) (eaCons (evTup (eaCons (evK (.int 2)) (eaCons (evK (.int 1)) (eaCons (evK .non) eaNil)))) eaNil))))))))
  (esSeq (esSet 5 (evLst (eaCons (evLx (eiSeq2 (evBin gAdd (evVar 2) (evVar 3))) (tgName 7) etYes (evCl true 1 E_is_gain (eaCons (evVar 7) eaNil)) [7]) (eaCons (evLx (eiSeq2 (evVar 4)) (tgName 7) etYes (evKw true 1 0 1 E_is_gain [0] eaNil (eaCons (evVar 7) eaNil)) [7]) eaNil))))
  (esSeq (esSet 5 (evBin gAdd (evVar 5) (evLst (eaCons (evLx (eiSeq2 (evVar 2)) (tgName 7) etYes (evCl true 1 E_is_stream (eaCons (evVar 7) eaNil)) [7]) (eaCons (evLx (eiSeq2 (evVar 3)) (tgName 7) etYes (evCl true 1 E_is_stream (eaCons (evVar 7) eaNil)) [7]) (eaCons (evLx (eiSeq2 (evVar 4)) (tgName 7) etYes (evKw true 1 0 1 E_is_stream [0] eaNil (eaCons (evVar 7) eaNil)) [7]) eaNil))))))
  (esSeq (esSet 6 (evLst (eaCons (evBin gMul (evLst (eaCons (evK (.bl true)) eaNil)) (evK (.int 11))) (eaCons (evBin gMul (evLst (eaCons (evK (.bl false)) eaNil)) (evK (.int 24))) (eaCons (evLst (eaCons (evK (.bl false)) (eaCons (evK (.bl true)) (eaCons (evK (.bl true)) (eaCons (evK (.bl true)) (eaCons (evK (.bl true)) (eaCons (evK (.bl false)) eaNil))))))) (eaCons (evBin gMul (evLst (eaCons (evK (.bl false)) eaNil)) (evK (.int 5))) (eaCons (evBin gMul (evLst (eaCons (evK (.bl false)) eaNil)) (evK (.int 24))) eaNil)))))))
  (esRet (evCl true 2 (E__law_same 11) (eaCons (evVar 5) (eaCons (evVar 6) eaNil))))))))))))))))
noncomputable def E__law_things_right : Fn := evFun B__law_things_right 8
theorem ok__law_things_right (Fx : Facts G mg) : Def G G.P G.w mg base 14 "_law_things_right" [] 0 E__law_things_right := by
  obtain ⟨f, fd, F, m, b⟩ := Fx.d__law_things_right
  refine def_mk F (fn_ok (k := 13) F sc__law_things_right B__law_things_right (fun cdv A outer s H E hr => ?_)) rfl m b
  have hx : Okx G (cxB G.P G.w G.K mg base N__law_things_right "_law_things_right" (defScope st__law_things_right) f cdv A outer s H E) := ⟨rfl, rfl, un_of hr, rfl, rfl⟩
  have hd : Dfx (cxB G.P G.w G.K mg base N__law_things_right "_law_things_right" (defScope st__law_things_right) f cdv A outer s H E) := ⟨rfl, rfl⟩
  have tk : Takes (cxB G.P G.w G.K mg base N__law_things_right "_law_things_right" (defScope st__law_things_right) f cdv A outer s H E) (WE' E) := takes_of rfl rfl rfl rfl
  have po := passes_of (X := cxB G.P G.w G.K mg base N__law_things_right "_law_things_right" (defScope st__law_things_right) f cdv A outer s H E) rfl
  exact (ss_cons (ss_asg (se_tup (sa_cons (se_tup (sa_cons si (sa_cons si sa_nil))) (sa_cons (se_tup (sa_cons si (sa_cons si sa_nil))) sa_nil))) (tg_any hx (tgs_cons (tg_name (pg_name (i := 0) sc__law_things_right.nd rfl (by first | exact Or.inl rfl | exact Or.inr rfl))) (tgs_cons (tg_name (pg_name (i := 1) sc__law_things_right.nd rfl (by first | exact Or.inl rfl | exact Or.inr rfl))) tgs_nil))))
  (ss_cons (ss_set (i := 2) sc__law_things_right.nd rfl (by first | exact Or.inl rfl | exact Or.inr rfl) (se_lst (sa_cons (se_tup (sa_cons si (sa_cons si (sa_cons (se_tup sa_nil) sa_nil)))) (sa_cons (se_tup (sa_cons si (sa_cons si (sa_cons (se_tup (sa_cons (se_tup (sa_cons (se_tup (sa_cons si sa_nil)) (sa_cons (sv 1) sa_nil))) sa_nil)) sa_nil)))) (sa_cons (se_tup (sa_cons si (sa_cons si (sa_cons (se_tup (sa_cons (se_tup (sa_cons (se_tup (sa_cons si sa_nil)) (sa_cons (sv 0) sa_nil))) (sa_cons (se_tup (sa_cons (se_tup (sa_cons si sa_nil)) (sa_cons (sv 0) sa_nil))) sa_nil))) sa_nil)))) (sa_cons (se_tup (sa_cons si (sa_cons si (sa_cons (se_tup (sa_cons (se_tup (sa_cons (se_tup (sa_cons si (sa_cons si sa_nil))) (sa_cons (sv 0) sa_nil))) (sa_cons (se_tup (sa_cons (se_tup (sa_cons si (sa_cons si sa_nil))) (sa_cons (sv 0) sa_nil))) sa_nil))) sa_nil)))) sa_nil))))))
  (ss_cons (ss_set (i := 2) sc__law_things_right.nd rfl (by first | exact Or.inl rfl | exact Or.inr rfl) (se_bop (ox_add hx) (sv 2) (se_lst (sa_cons (se_tup (sa_cons si (sa_cons si (sa_cons (se_tup (sa_cons (se_tup (sa_cons (se_bop (ox_mul hx) (se_tup (sa_cons si sa_nil)) si) (sa_cons (sv 1) sa_nil))) sa_nil)) sa_nil)))) (sa_cons (se_tup (sa_cons si (sa_cons si (sa_cons (se_tup (sa_cons (se_tup (sa_cons (se_tup (sa_cons si (sa_cons si sa_nil))) (sa_cons (se_tup (sa_cons (se_neg si) (sa_cons si sa_nil))) sa_nil))) (sa_cons (se_tup (sa_cons (se_tup (sa_cons si (sa_cons si sa_nil))) (sa_cons (se_tup (sa_cons si (sa_cons si sa_nil))) sa_nil))) sa_nil))) sa_nil)))) sa_nil)))))
  (ss_cons (ss_set (i := 3) sc__law_things_right.nd rfl (by first | exact Or.inl rfl | exact Or.inr rfl) (se_lst (sa_cons (se_tup (sa_cons si (sa_cons si (sa_cons (se_tup (sa_cons (se_tup (sa_cons (se_tup (sa_cons si (sa_cons si sa_nil))) (sa_cons (sv 1) sa_nil))) sa_nil)) sa_nil)))) (sa_cons (se_tup (sa_cons si (sa_cons si (sa_cons (se_tup (sa_cons (se_tup (sa_cons (se_tup (sa_cons si (sa_cons si sa_nil))) (sa_cons (sv 0) sa_nil))) (sa_cons (se_tup (sa_cons (se_tup (sa_cons si (sa_cons si sa_nil))) (sa_cons (sv 0) sa_nil))) sa_nil))) sa_nil)))) (sa_cons (se_tup (sa_cons si (sa_cons si (sa_cons (se_tup (sa_cons (se_tup (sa_cons (se_tup (sa_cons si sa_nil)) (sa_cons (sv 0) sa_nil))) (sa_cons (se_tup (sa_cons (se_tup (sa_cons si sa_nil)) (sa_cons (se_tup (sa_cons si (sa_cons si sa_nil))) sa_nil))) sa_nil))) sa_nil)))) sa_nil)))))
  (ss_cons (ss_set (i := 3) sc__law_things_right.nd rfl (by first | exact Or.inl rfl | exact Or.inr rfl) (se_bop (ox_add hx) (sv 3) (se_lst (sa_cons (se_tup (sa_cons si (sa_cons si (sa_cons (se_tup (sa_cons (se_tup (sa_cons (se_tup (sa_cons si sa_nil)) (sa_cons (se_tup (sa_cons si (sa_cons si sa_nil))) sa_nil))) (sa_cons (se_tup (sa_cons (se_tup (sa_cons si sa_nil)) (sa_cons (se_tup (sa_cons (se_neg si) (sa_cons si sa_nil))) sa_nil))) sa_nil))) sa_nil)))) (sa_cons (se_tup (sa_cons si (sa_cons si (sa_cons (se_tup (sa_cons (se_tup (sa_cons (se_tup (sa_cons si (sa_cons si (sa_cons si sa_nil)))) (sa_cons (sv 0) sa_nil))) (sa_cons (se_tup (sa_cons (se_tup (sa_cons si (sa_cons si (sa_cons si sa_nil)))) (sa_cons (sv 0) sa_nil))) sa_nil))) sa_nil)))) sa_nil)))))
  (ss_cons (ss_set (i := 4) sc__law_things_right.nd rfl (by first | exact Or.inl rfl | exact Or.inr rfl) (se_lst (sa_cons (se_k pe_non) (sa_cons si (sa_cons (se_tup sa_nil) (sa_cons (se_tup (sa_cons si (sa_cons si sa_nil))) (sa_cons (se_tup (sa_cons si (sa_cons si (sa_cons (se_tup sa_nil) (sa_cons (se_tup sa_nil) sa_nil))))) (sa_cons (se_lst (sa_cons si (sa_cons si (sa_cons (se_tup sa_nil) sa_nil)))) (sa_cons (se_tup (sa_cons si (sa_cons si (sa_cons (se_lst sa_nil) sa_nil)))) (sa_cons (se_tup (sa_cons si (sa_cons si (sa_cons (se_tup sa_nil) sa_nil)))) (sa_cons (se_tup (sa_cons si (sa_cons si (sa_cons (se_tup sa_nil) sa_nil)))) (sa_cons (se_tup (sa_cons (se_k pe_bl) (sa_cons si (sa_cons (se_tup sa_nil) sa_nil)))) (sa_cons (se_tup (sa_cons si (sa_cons (se_neg si) (sa_cons (se_tup sa_nil) sa_nil)))) (sa_cons (se_tup (sa_cons (se_str s_2_eq) (sa_cons si (sa_cons (se_tup sa_nil) sa_nil)))) sa_nil))))))))))))))
  (ss_cons (ss_set (i := 4) sc__law_things_right.nd rfl (by first | exact Or.inl rfl | exact Or.inr rfl) (se_bop (ox_add hx) (sv 4) (se_lst (sa_cons (se_tup (sa_cons si (sa_cons si (sa_cons (se_tup (sa_cons (se_tup (sa_cons (se_tup (sa_cons si (sa_cons si sa_nil))) (sa_cons (se_tup (sa_cons si (sa_cons si sa_nil))) sa_nil))) sa_nil)) sa_nil)))) (sa_cons (se_tup (sa_cons si (sa_cons si (sa_cons (se_tup (sa_cons (se_tup (sa_cons (se_tup (sa_cons si (sa_cons si sa_nil))) (sa_cons (sv 1) sa_nil))) sa_nil)) sa_nil)))) (sa_cons (se_tup (sa_cons si (sa_cons si (sa_cons (se_tup (sa_cons (se_tup (sa_cons (se_tup (sa_cons si sa_nil)) (sa_cons (sv 1) sa_nil))) sa_nil)) sa_nil)))) (sa_cons (se_tup (sa_cons si (sa_cons si (sa_cons (se_tup (sa_cons (se_tup (sa_cons (se_lst (sa_cons si (sa_cons si sa_nil))) (sa_cons (sv 1) sa_nil))) sa_nil)) sa_nil)))) sa_nil)))))))
  (ss_cons (ss_set (i := 4) sc__law_things_right.nd rfl (by first | exact Or.inl rfl | exact Or.inr rfl) (se_bop (ox_add hx) (sv 4) (se_lst (sa_cons (se_tup (sa_cons si (sa_cons si (sa_cons (se_tup (sa_cons (se_tup (sa_cons (se_tup (sa_cons si (sa_cons si sa_nil))) (sa_cons (se_tup (sa_cons si (sa_cons si sa_nil))) sa_nil))) sa_nil)) sa_nil)))) (sa_cons (se_tup (sa_cons si (sa_cons si (sa_cons (se_tup (sa_cons (se_tup (sa_cons (se_tup (sa_cons si (sa_cons si sa_nil))) (sa_cons (sv 1) sa_nil))) (sa_cons (se_tup (sa_cons (se_tup (sa_cons si (sa_cons si sa_nil))) (sa_cons (sv 1) sa_nil))) sa_nil))) sa_nil)))) (sa_cons (se_tup (sa_cons si (sa_cons si (sa_cons (se_tup (sa_cons (se_tup (sa_cons (se_tup (sa_cons si sa_nil)) (sa_cons (sv 0) sa_nil))) (sa_cons (se_tup (sa_cons (se_tup (sa_cons si sa_nil)) (sa_cons (sv 0) sa_nil))) sa_nil))) sa_nil)))) sa_nil))))))
  (ss_cons (ss_set (i := 4) sc__law_things_right.nd rfl (by first | exact Or.inl rfl | exact Or.inr rfl) (se_bop (ox_add hx) (sv 4) (se_lst (sa_cons (se_tup (sa_cons si (sa_cons si (sa_cons (se_tup (sa_cons (se_tup (sa_cons (se_tup (sa_cons (se_k pe_bl) sa_nil)) (sa_cons (sv 1) sa_nil))) sa_nil)) sa_nil)))) (sa_cons (se_tup (sa_cons si (sa_cons si (sa_cons (se_tup (sa_cons (se_tup (sa_cons (se_tup (sa_cons (se_neg si) sa_nil)) (sa_cons (sv 1) sa_nil))) sa_nil)) sa_nil)))) (sa_cons (se_tup (sa_cons si (sa_cons si (sa_cons (se_tup (sa_cons (se_tup (sa_cons (se_tup (sa_cons si sa_nil)) (sa_cons si sa_nil))) sa_nil)) sa_nil)))) (sa_cons (se_tup (sa_cons si (sa_cons si (sa_cons (se_tup (sa_cons (se_tup (sa_cons (se_tup (sa_cons si sa_nil)) (sa_cons (sv 1) (sa_cons si sa_nil)))) sa_nil)) sa_nil)))) (sa_cons (se_tup (sa_cons si (sa_cons si (sa_cons (se_k pe_non) sa_nil)))) sa_nil))))))))
  (ss_cons (ss_set (i := 5) sc__law_things_right.nd rfl (by first | exact Or.inl rfl | exact Or.inr rfl) (se_lst (sa_cons (se_lx (own := [("own", 7)]) hd tk hx.calm sc__law_things_right.nd (si_seq2 hx (se_bop (ox_add hx) (sv 2) (sv 3))) (blkOk_by (N := N__law_things_right) (sc := defScope st__law_things_right) (own := [("own", 7)]) (by decide +kernel)) (kk_name 7) (by decide) (fun _ _ _ _ _ _ => (pg_name (i := 7) sc__law_things_right.nd rfl (by first | exact Or.inl rfl | exact Or.inr rfl))) (fun _ _ _ _ _ _ _ tk => sts_nil) (fun _ _ _ _ _ _ _ tk => (se_cl true (hx.blk) (ok_is_gain Fx) (hr.mono (by decide)) (by rfl) tk (sa_cons (sv 7) sa_nil)))) (sa_cons (se_lx (own := [("own", 7)]) hd tk hx.calm sc__law_things_right.nd (si_seq2 hx (sv 4)) (blkOk_by (N := N__law_things_right) (sc := defScope st__law_things_right) (own := [("own", 7)]) (by decide +kernel)) (kk_name 7) (by decide) (fun _ _ _ _ _ _ => (pg_name (i := 7) sc__law_things_right.nd rfl (by first | exact Or.inl rfl | exact Or.inr rfl))) (fun _ _ _ _ _ _ _ tk => sts_nil) (fun _ _ _ _ _ _ _ tk => (se_kw0 true (hx.blk) (kw_0 Fx) (hr.mono (by decide)) (by rfl) tk (sk_cons (sv 7) sk_nil)))) sa_nil))))
  (ss_cons (ss_set (i := 5) sc__law_things_right.nd rfl (by first | exact Or.inl rfl | exact Or.inr rfl) (se_bop (ox_add hx) (sv 5) (se_lst (sa_cons (se_lx (own := [("own", 7)]) hd tk hx.calm sc__law_things_right.nd (si_seq2 hx (sv 2)) (blkOk_by (N := N__law_things_right) (sc := defScope st__law_things_right) (own := [("own", 7)]) (by decide +kernel)) (kk_name 7) (by decide) (fun _ _ _ _ _ _ => (pg_name (i := 7) sc__law_things_right.nd rfl (by first | exact Or.inl rfl | exact Or.inr rfl))) (fun _ _ _ _ _ _ _ tk => sts_nil) (fun _ _ _ _ _ _ _ tk => (se_cl true (hx.blk) (ok_is_stream Fx) (hr.mono (by decide)) (by rfl) tk (sa_cons (sv 7) sa_nil)))) (sa_cons (se_lx (own := [("own", 7)]) hd tk hx.calm sc__law_things_right.nd (si_seq2 hx (sv 3)) (blkOk_by (N := N__law_things_right) (sc := defScope st__law_things_right) (own := [("own", 7)]) (by decide +kernel)) (kk_name 7) (by decide) (fun _ _ _ _ _ _ => (pg_name (i := 7) sc__law_things_right.nd rfl (by first | exact Or.inl rfl | exact Or.inr rfl))) (fun _ _ _ _ _ _ _ tk => sts_nil) (fun _ _ _ _ _ _ _ tk => (se_cl true (hx.blk) (ok_is_stream Fx) (hr.mono (by decide)) (by rfl) tk (sa_cons (sv 7) sa_nil)))) (sa_cons (se_lx (own := [("own", 7)]) hd tk hx.calm sc__law_things_right.nd (si_seq2 hx (sv 4)) (blkOk_by (N := N__law_things_right) (sc := defScope st__law_things_right) (own := [("own", 7)]) (by decide +kernel)) (kk_name 7) (by decide) (fun _ _ _ _ _ _ => (pg_name (i := 7) sc__law_things_right.nd rfl (by first | exact Or.inl rfl | exact Or.inr rfl))) (fun _ _ _ _ _ _ _ tk => sts_nil) (fun _ _ _ _ _ _ _ tk => (se_kw0 true (hx.blk) (kw_1 Fx) (hr.mono (by decide)) (by rfl) tk (sk_cons (sv 7) sk_nil)))) sa_nil))))))
  (ss_cons (ss_set (i := 6) sc__law_things_right.nd rfl (by first | exact Or.inl rfl | exact Or.inr rfl) (se_lst (sa_cons (se_bop (ox_mul hx) (se_lst (sa_cons (se_k pe_bl) sa_nil)) si) (sa_cons (se_bop (ox_mul hx) (se_lst (sa_cons (se_k pe_bl) sa_nil)) si) (sa_cons (se_lst (sa_cons (se_k pe_bl) (sa_cons (se_k pe_bl) (sa_cons (se_k pe_bl) (sa_cons (se_k pe_bl) (sa_cons (se_k pe_bl) (sa_cons (se_k pe_bl) sa_nil))))))) (sa_cons (se_bop (ox_mul hx) (se_lst (sa_cons (se_k pe_bl) sa_nil)) si) (sa_cons (se_bop (ox_mul hx) (se_lst (sa_cons (se_k pe_bl) sa_nil)) si) sa_nil)))))))
  (ss_one (ss_ret (se_cl true hx (ok__law_same Fx) (hr.mono (by decide)) (by rfl) tk (sa_cons (sv 5) (sa_cons (sv 6) sa_nil)))))))))))))))))
noncomputable def B__law_rings_right : Evs := (esSeq (esAsg (evFg (evCl true 0 E__law_names eaNil)) (tgAny 5 (tgCons (tgName 0) (tgCons (tgName 1) (tgCons (tgName 2) (tgCons (tgName 3) (tgCons (tgName 4) tgNil)))))))
  (esSeq (esSet 5 (evLx (eiSeq2 (evTup (eaCons (evTup (eaCons (evK (.int 1)) (eaCons (evK (.int 0)) eaNil))) (eaCons (evTup (eaCons (evK (.int 0)) eaNil)) (eaCons (evTup (eaCons (evK (.int 0)) (eaCons (evK (.int 1)) (eaCons (evK (.int 1)) eaNil)))) (eaCons (evTup (eaCons (evK (.int 0)) (eaCons (evK (.int 1)) (eaCons (evK (.int 0)) (eaCons (evK (.int 1)) eaNil))))) eaNil)))))) (tgName 11) etYes (evCl true 2 E_ring_gain (eaCons (evDf (evVar 0)) (eaCons (evDf (evVar 11)) eaNil))) [11]))
  (esSeq (esSet 5 (evBin gAdd (evVar 5) (evLst (eaCons (evCl true 2 E_ring_gain (eaCons (evDf (evVar 2)) (eaCons (evTup (eaCons (evK (.int 0)) (eaCons (evK (.int 1)) eaNil))) eaNil))) (eaCons (evCl true 2 E_ring_gain (eaCons (evDf (evVar 2)) (eaCons (evTup (eaCons (evK (.int 0)) eaNil)) eaNil))) (eaCons (evCl true 2 E_ring_gain (eaCons (evDf (evVar 3)) (eaCons (evTup (eaCons (evK (.int 1)) (eaCons (evK (.int 1)) (eaCons (evK (.int 0)) eaNil)))) eaNil))) (eaCons (evKw true 2 0 2 E_ring_gain [1, 0] eaNil (eaCons (evLst (eaCons (evK (.int 0)) (eaCons (evK (.int 1)) (eaCons (evK (.int 2)) eaNil)))) (eaCons (evCl true 1 (E__law_lists 11) (eaCons (evDf (evVar 4)) eaNil)) eaNil))) eaNil)))))))
  (esSeq (esIf (etNot (etTru (evCl true 2 (E__law_same 11) (eaCons (evVar 5) (eaCons (evLst (eaCons (evTup (eaCons (evK (.int 1)) (eaCons (evK (.int 1)) eaNil))) (eaCons (evTup (eaCons (evK (.int 0)) (eaCons (evK (.int 1)) eaNil))) (eaCons (evTup (eaCons (evK (.int 1)) (eaCons (evK (.int 1)) eaNil))) (eaCons (evTup (eaCons (evK (.int 2)) (eaCons (evK (.int 1)) eaNil))) (eaCons (evTup (eaCons (evK (.int 1)) (eaCons (evK (.int 2)) eaNil))) (eaCons (evTup (eaCons (evK (.int 0)) (eaCons (evK (.int 1)) eaNil))) (eaCons (evTup (eaCons (evK (.int 6)) (eaCons (evK (.int 1)) eaNil))) (eaCons (evTup (eaCons (evK (.int 3)) (eaCons (evK (.int 1)) eaNil))) eaNil))))))))) eaNil)))))
  (esRet (evK (.bl false)))
  esNil)
  (esSeq (esAsg (evTup (eaCons (evTup (eaCons (evK (.int 2)) (eaCons (evK (.int 1)) (eaCons (evTup (eaCons (evTup (eaCons (evTup (eaCons (evK (.int 0)) eaNil)) (eaCons (evTup (eaCons (evK (.int 1)) (eaCons (evK (.int 2)) eaNil))) eaNil))) (eaCons (evTup (eaCons (evTup (eaCons (evK (.int 1)) eaNil)) (eaCons (evTup (eaCons (evK (.int 1)) (eaCons (evK (.int 2)) eaNil))) eaNil))) eaNil))) eaNil)))) (eaCons (evTup (eaCons (evK (.int 2)) (eaCons (evK (.int 2)) (eaCons (evTup (eaCons (evTup (eaCons (evTup (eaCons (evK (.int 0)) (eaCons (evK (.int 1)) eaNil))) (eaCons (evTup (eaCons (evK (.int 1)) (eaCons (evK (.int 2)) eaNil))) eaNil))) (eaCons (evTup (eaCons (evTup (eaCons (evK (.int 1)) (eaCons (evK (.int 0)) eaNil))) (eaCons (evTup (eaCons (evK (.int 1)) (eaCons (evK (.int 2)) eaNil))) eaNil))) eaNil))) eaNil)))) eaNil))) (tgAny 2 (tgCons (tgName 6) (tgCons (tgName 7) tgNil))))
  (esSeq (esSet 8 (evTup (eaCons (evK (.int 2)) (eaCons (evK (.int 2)) (eaCons (evTup (eaCons (evTup (eaCons (evTup (eaCons (evK (.int 0)) (eaCons (evK (.int 0)) eaNil))) (eaCons (evTup (eaCons (evK (.int 3)) (eaCons (evK (.int 8)) eaNil))) eaNil))) (eaCons (evTup (eaCons (evTup (eaCons (evK (.int 0)) (eaCons (evK (.int 1)) eaNil))) (eaCons (evTup (eaCons (evK (.int 1)) (eaCons (evK (.int 8)) eaNil))) eaNil))) (eaCons (evTup (eaCons (evTup (eaCons (evK (.int 1)) (eaCons (evK (.int 0)) eaNil))) (eaCons (evTup (eaCons (evK (.int 1)) (eaCons (evK (.int 8)) eaNil))) eaNil))) (eaCons (evTup (eaCons (evTup (eaCons (evK (.int 1)) (eaCons (evK (.int 1)) eaNil))) (eaCons (evTup (eaCons (evK (.int 3)) (eaCons (evK (.int 8)) eaNil))) eaNil))) eaNil))))) eaNil)))))
  (esSeq (esSet 5 (evLx (eiSeq2 (evTup (eaCons (evVar 6) (eaCons (evVar 7) (eaCons (evVar 8) eaNil))))) (tgName 10) etYes (evLc (eiSeq2 (evFg (evTupP (eaCons (evVar 0) (eaCons (evVar 2) (eaCons (evVar 3) eaNil)))))) (tgName 11) etYes (evCl true 2 E_step_gain (eaCons (evDf (evVar 11)) (eaCons (evVar 10) eaNil))) [11]) [10]))
  (esSeq (esSet 9 (evLst (eaCons (evLst (eaCons (evTup (eaCons (evK (.int 1)) (eaCons (evK (.int 4)) eaNil))) (eaCons (evTup (eaCons (evK (.int 1)) (eaCons (evK (.int 16)) eaNil))) (eaCons (evTup (eaCons (evK (.int 3)) (eaCons (evK (.int 2)) eaNil))) eaNil)))) (eaCons (evLst (eaCons (evTup (eaCons (evK (.int 1)) (eaCons (evK (.int 2)) eaNil))) (eaCons (evTup (eaCons (evK (.int 1)) (eaCons (evK (.int 4)) eaNil))) (eaCons (evTup (eaCons (evK (.int 3)) (eaCons (evK (.int 2)) eaNil))) eaNil)))) (eaCons (evLst (eaCons (evTup (eaCons (evK (.int 1)) (eaCons (evK (.int 8)) eaNil))) (eaCons (evTup (eaCons (evK (.int 1)) (eaCons (evK (.int 64)) eaNil))) (eaCons (evTup (eaCons (evK (.int 3)) (eaCons (evK (.int 2)) eaNil))) eaNil)))) eaNil)))))
  (esSeq (esSet 5 (evBin gAdd (evVar 5) (evLst (eaCons (evCl true 3 E__law_heard (eaCons (evK (.int 3)) (eaCons (evDf (evVar 0)) (eaCons (evTup (eaCons (evK (.int 3)) (eaCons (evK (.int 1)) (eaCons (evTup (eaCons (evTup (eaCons (evTup (eaCons (evK (.int 0)) eaNil)) (eaCons (evTup (eaCons (evK (.int 1)) (eaCons (evK (.int 1)) eaNil))) eaNil))) eaNil)) eaNil)))) eaNil)))) (eaCons (evKw true 2 0 2 E_step_gain [1, 0] eaNil (eaCons (evCl true 1 (E__law_lists 11) (eaCons (evVar 8) eaNil)) (eaCons (evCl true 1 (E__law_lists 11) (eaCons (evDf (evVar 1)) eaNil)) eaNil))) (eaCons (evCl true 2 E_step_gain (eaCons (evTup (eaCons (evK (.int 2)) (eaCons (evK (.int 2)) (eaCons (evTup eaNil) eaNil)))) (eaCons (evVar 7) eaNil))) eaNil))))))
  (esRet (evCl true 2 (E__law_same 11) (eaCons (evVar 5) (eaCons (evBin gAdd (evVar 9) (evLst (eaCons (evLst (eaCons (evK (.str s_0)) (eaCons (evK (.bl true)) eaNil))) (eaCons (evTup (eaCons (evK (.int 0)) (eaCons (evK (.int 1)) eaNil))) (eaCons (evTup (eaCons (evK (.int 0)) (eaCons (evK (.int 1)) eaNil))) eaNil))))) eaNil)))))))))))))
noncomputable def E__law_rings_right : Fn := evFun B__law_rings_right 12
theorem ok__law_rings_right (Fx : Facts G mg) : Def G G.P G.w mg base 16 "_law_rings_right" [] 0 E__law_rings_right := by
  obtain ⟨f, fd, F, m, b⟩ := Fx.d__law_rings_right
  refine def_mk F (fn_ok (k := 15) F sc__law_rings_right B__law_rings_right (fun cdv A outer s H E hr => ?_)) rfl m b
  have hx : Okx G (cxB G.P G.w G.K mg base N__law_rings_right "_law_rings_right" (defScope st__law_rings_right) f cdv A outer s H E) := ⟨rfl, rfl, un_of hr, rfl, rfl⟩
  have hd : Dfx (cxB G.P G.w G.K mg base N__law_rings_right "_law_rings_right" (defScope st__law_rings_right) f cdv A outer s H E) := ⟨rfl, rfl⟩
  have tk : Takes (cxB G.P G.w G.K mg base N__law_rings_right "_law_rings_right" (defScope st__law_rings_right) f cdv A outer s H E) (WE' E) := takes_of rfl rfl rfl rfl
  have po := passes_of (X := cxB G.P G.w G.K mg base N__law_rings_right "_law_rings_right" (defScope st__law_rings_right) f cdv A outer s H E) rfl
  exact (ss_cons (ss_asg (se_fg (se_cl0 true hx (ok__law_names Fx) (hr.mono (by decide)) (by rfl) tk)) (tg_any hx (tgs_cons (tg_name (pg_name (i := 0) sc__law_rings_right.nd rfl (by first | exact Or.inl rfl | exact Or.inr rfl))) (tgs_cons (tg_name (pg_name (i := 1) sc__law_rings_right.nd rfl (by first | exact Or.inl rfl | exact Or.inr rfl))) (tgs_cons (tg_name (pg_name (i := 2) sc__law_rings_right.nd rfl (by first | exact Or.inl rfl | exact Or.inr rfl))) (tgs_cons (tg_name (pg_name (i := 3) sc__law_rings_right.nd rfl (by first | exact Or.inl rfl | exact Or.inr rfl))) (tgs_cons (tg_name (pg_name (i := 4) sc__law_rings_right.nd rfl (by first | exact Or.inl rfl | exact Or.inr rfl))) tgs_nil)))))))
  (ss_cons (ss_setLx (i := 5) (own := [("own", 11)]) hd tk hx.calm sc__law_rings_right.nd rfl rfl (sw_true rfl rfl rfl (by decide +kernel)) (si_seq2 hx (se_tup (sa_cons (se_tup (sa_cons si (sa_cons si sa_nil))) (sa_cons (se_tup (sa_cons si sa_nil)) (sa_cons (se_tup (sa_cons si (sa_cons si (sa_cons si sa_nil)))) (sa_cons (se_tup (sa_cons si (sa_cons si (sa_cons si (sa_cons si sa_nil))))) sa_nil)))))) (blkOk_by (N := N__law_rings_right) (sc := defScope st__law_rings_right) (own := [("own", 11)]) (by decide +kernel)) (kk_name 11) (by decide) (fun _ _ _ _ _ _ => (pg_name (i := 11) sc__law_rings_right.nd rfl (by first | exact Or.inl rfl | exact Or.inr rfl))) (fun _ _ _ _ _ _ _ tk => sts_nil) (fun _ _ _ _ _ _ _ tk => (se_cl true (hx.blk) (ok_ring_gain Fx) (hr.mono (by decide)) (by rfl) tk (sa_cons (se_df (sv 0)) (sa_cons (se_df (sv 11)) sa_nil)))))
  (ss_cons (ss_set (i := 5) sc__law_rings_right.nd rfl (by first | exact Or.inl rfl | exact Or.inr rfl) (se_bop (ox_add hx) (sv 5) (se_lst (sa_cons (se_cl true hx (ok_ring_gain Fx) (hr.mono (by decide)) (by rfl) tk (sa_cons (se_df (sv 2)) (sa_cons (se_tup (sa_cons si (sa_cons si sa_nil))) sa_nil))) (sa_cons (se_cl true hx (ok_ring_gain Fx) (hr.mono (by decide)) (by rfl) tk (sa_cons (se_df (sv 2)) (sa_cons (se_tup (sa_cons si sa_nil)) sa_nil))) (sa_cons (se_cl true hx (ok_ring_gain Fx) (hr.mono (by decide)) (by rfl) tk (sa_cons (se_df (sv 3)) (sa_cons (se_tup (sa_cons si (sa_cons si (sa_cons si sa_nil)))) sa_nil))) (sa_cons (se_kw0 true hx (kw_2 Fx) (hr.mono (by decide)) (by rfl) tk (sk_cons (se_lst (sa_cons si (sa_cons si (sa_cons si sa_nil)))) (sk_cons (se_cl true hx (ok__law_lists Fx) (hr.mono (by decide)) (by rfl) tk (sa_cons (se_df (sv 4)) sa_nil)) sk_nil))) sa_nil)))))))
  (ss_cons (ss_if (st_not (st_tru hx.k (se_cl true hx (ok__law_same Fx) (hr.mono (by decide)) (by rfl) tk (sa_cons (sv 5) (sa_cons (se_lst (sa_cons (se_tup (sa_cons si (sa_cons si sa_nil))) (sa_cons (se_tup (sa_cons si (sa_cons si sa_nil))) (sa_cons (se_tup (sa_cons si (sa_cons si sa_nil))) (sa_cons (se_tup (sa_cons si (sa_cons si sa_nil))) (sa_cons (se_tup (sa_cons si (sa_cons si sa_nil))) (sa_cons (se_tup (sa_cons si (sa_cons si sa_nil))) (sa_cons (se_tup (sa_cons si (sa_cons si sa_nil))) (sa_cons (se_tup (sa_cons si (sa_cons si sa_nil))) sa_nil))))))))) sa_nil))) (fun _ => rfl)))
  (ss_one (ss_ret (se_k pe_bl)))
  ss_nil)
  (ss_cons (ss_asg (se_tup (sa_cons (se_tup (sa_cons si (sa_cons si (sa_cons (se_tup (sa_cons (se_tup (sa_cons (se_tup (sa_cons si sa_nil)) (sa_cons (se_tup (sa_cons si (sa_cons si sa_nil))) sa_nil))) (sa_cons (se_tup (sa_cons (se_tup (sa_cons si sa_nil)) (sa_cons (se_tup (sa_cons si (sa_cons si sa_nil))) sa_nil))) sa_nil))) sa_nil)))) (sa_cons (se_tup (sa_cons si (sa_cons si (sa_cons (se_tup (sa_cons (se_tup (sa_cons (se_tup (sa_cons si (sa_cons si sa_nil))) (sa_cons (se_tup (sa_cons si (sa_cons si sa_nil))) sa_nil))) (sa_cons (se_tup (sa_cons (se_tup (sa_cons si (sa_cons si sa_nil))) (sa_cons (se_tup (sa_cons si (sa_cons si sa_nil))) sa_nil))) sa_nil))) sa_nil)))) sa_nil))) (tg_any hx (tgs_cons (tg_name (pg_name (i := 6) sc__law_rings_right.nd rfl (by first | exact Or.inl rfl | exact Or.inr rfl))) (tgs_cons (tg_name (pg_name (i := 7) sc__law_rings_right.nd rfl (by first | exact Or.inl rfl | exact Or.inr rfl))) tgs_nil))))
  (ss_cons (ss_set (i := 8) sc__law_rings_right.nd rfl (by first | exact Or.inl rfl | exact Or.inr rfl) (se_tup (sa_cons si (sa_cons si (sa_cons (se_tup (sa_cons (se_tup (sa_cons (se_tup (sa_cons si (sa_cons si sa_nil))) (sa_cons (se_tup (sa_cons si (sa_cons si sa_nil))) sa_nil))) (sa_cons (se_tup (sa_cons (se_tup (sa_cons si (sa_cons si sa_nil))) (sa_cons (se_tup (sa_cons si (sa_cons si sa_nil))) sa_nil))) (sa_cons (se_tup (sa_cons (se_tup (sa_cons si (sa_cons si sa_nil))) (sa_cons (se_tup (sa_cons si (sa_cons si sa_nil))) sa_nil))) (sa_cons (se_tup (sa_cons (se_tup (sa_cons si (sa_cons si sa_nil))) (sa_cons (se_tup (sa_cons si (sa_cons si sa_nil))) sa_nil))) sa_nil))))) sa_nil)))))
  (ss_cons (ss_setLx (i := 5) (own := [("far", 10)]) hd tk hx.calm sc__law_rings_right.nd rfl rfl (sw_true rfl rfl rfl (by decide +kernel)) (si_seq2 hx (se_tup (sa_cons (sv 6) (sa_cons (sv 7) (sa_cons (sv 8) sa_nil))))) (blkOk_by (N := N__law_rings_right) (sc := defScope st__law_rings_right) (own := [("far", 10)]) (by decide +kernel)) (kk_name 10) (by decide) (fun _ _ _ _ _ _ => (pg_name (i := 10) sc__law_rings_right.nd rfl (by first | exact Or.inl rfl | exact Or.inr rfl))) (fun _ _ _ _ _ _ _ tk => sts_nil) (fun _ _ _ _ _ _ _ tk => (se_lc (own := [("own", 11)]) (hx.blk).calm sc__law_rings_right.nd (si_seq2 (hx.blk) (se_fg (se_tupP (sa_cons (sv 0) (sa_cons (sv 2) (sa_cons (sv 3) sa_nil)))))) (blkOk_by (N := N__law_rings_right) (own := [("own", 11)]) (by first | rfl | kernel_rfl)) _ (fun _ _ _ _ _ => (pg_name (i := 11) sc__law_rings_right.nd rfl (by first | exact Or.inl rfl | exact Or.inr rfl))) (kk_name 11) (fun _ _ _ _ _ => sts_nil) (fun _ _ _ _ _ => (se_cl true ((hx.blk).blk0) (ok_step_gain Fx) (hr.mono (by decide)) (by rfl) Ev.takes0 (sa_cons (se_df (sv 11)) (sa_cons (sv 10) sa_nil)))) (by decide))))
  (ss_cons (ss_set (i := 9) sc__law_rings_right.nd rfl (by first | exact Or.inl rfl | exact Or.inr rfl) (se_lst (sa_cons (se_lst (sa_cons (se_tup (sa_cons si (sa_cons si sa_nil))) (sa_cons (se_tup (sa_cons si (sa_cons si sa_nil))) (sa_cons (se_tup (sa_cons si (sa_cons si sa_nil))) sa_nil)))) (sa_cons (se_lst (sa_cons (se_tup (sa_cons si (sa_cons si sa_nil))) (sa_cons (se_tup (sa_cons si (sa_cons si sa_nil))) (sa_cons (se_tup (sa_cons si (sa_cons si sa_nil))) sa_nil)))) (sa_cons (se_lst (sa_cons (se_tup (sa_cons si (sa_cons si sa_nil))) (sa_cons (se_tup (sa_cons si (sa_cons si sa_nil))) (sa_cons (se_tup (sa_cons si (sa_cons si sa_nil))) sa_nil)))) sa_nil)))))
  (ss_cons (ss_set (i := 5) sc__law_rings_right.nd rfl (by first | exact Or.inl rfl | exact Or.inr rfl) (se_bop (ox_add hx) (sv 5) (se_lst (sa_cons (se_cl true hx (ok__law_heard Fx) (hr.mono (by decide)) (by rfl) tk (sa_cons si (sa_cons (se_df (sv 0)) (sa_cons (se_tup (sa_cons si (sa_cons si (sa_cons (se_tup (sa_cons (se_tup (sa_cons (se_tup (sa_cons si sa_nil)) (sa_cons (se_tup (sa_cons si (sa_cons si sa_nil))) sa_nil))) sa_nil)) sa_nil)))) sa_nil)))) (sa_cons (se_kw0 true hx (kw_3 Fx) (hr.mono (by decide)) (by rfl) tk (sk_cons (se_cl true hx (ok__law_lists Fx) (hr.mono (by decide)) (by rfl) tk (sa_cons (sv 8) sa_nil)) (sk_cons (se_cl true hx (ok__law_lists Fx) (hr.mono (by decide)) (by rfl) tk (sa_cons (se_df (sv 1)) sa_nil)) sk_nil))) (sa_cons (se_cl true hx (ok_step_gain Fx) (hr.mono (by decide)) (by rfl) tk (sa_cons (se_tup (sa_cons si (sa_cons si (sa_cons (se_tup sa_nil) sa_nil)))) (sa_cons (sv 7) sa_nil))) sa_nil))))))
  (ss_one (ss_ret (se_cl true hx (ok__law_same Fx) (hr.mono (by decide)) (by rfl) tk (sa_cons (sv 5) (sa_cons (se_bop (ox_add hx) (sv 9) (se_lst (sa_cons (se_lst (sa_cons (se_str s_0_eq) (sa_cons (se_k pe_bl) sa_nil))) (sa_cons (se_tup (sa_cons si (sa_cons si sa_nil))) (sa_cons (se_tup (sa_cons si (sa_cons si sa_nil))) sa_nil))))) sa_nil))))))))))))))
noncomputable def B__law_stores_right : Evs := (esSeq (esAsg (evFg (evCl true 0 E__law_names eaNil)) (tgAny 5 (tgCons (tgName 0) (tgCons (tgName 1) (tgCons (tgName 2) (tgCons (tgName 3) (tgCons (tgName 4) tgNil)))))))
  (esSeq (esSet 5 (evTup (eaCons (evK (.int 2)) (eaCons (evK (.int 3)) (eaCons (evTup (eaCons (evTup (eaCons (evTup (eaCons (evK (.int 0)) (eaCons (evK (.int 0)) (eaCons (evK (.int 1)) eaNil)))) (eaCons (evTup (eaCons (evK (.int 2)) (eaCons (evK (.int 1)) eaNil))) eaNil))) (eaCons (evTup (eaCons (evTup (eaCons (evK (.int 0)) (eaCons (evK (.int 1)) (eaCons (evK (.int 0)) eaNil)))) (eaCons (evTup (eaCons (evNeg (evK (.int 2))) (eaCons (evK (.int 1)) eaNil))) eaNil))) (eaCons (evTup (eaCons (evTup (eaCons (evK (.int 0)) (eaCons (evK (.int 1)) (eaCons (evK (.int 1)) eaNil)))) (eaCons (evTup (eaCons (evNeg (evK (.int 5))) (eaCons (evK (.int 2)) eaNil))) eaNil))) (eaCons (evTup (eaCons (evTup (eaCons (evK (.int 1)) (eaCons (evK (.int 0)) (eaCons (evK (.int 1)) eaNil)))) (eaCons (evTup (eaCons (evK (.int 2)) (eaCons (evK (.int 1)) eaNil))) eaNil))) (eaCons (evTup (eaCons (evTup (eaCons (evK (.int 1)) (eaCons (evK (.int 1)) (eaCons (evK (.int 0)) eaNil)))) (eaCons (evTup (eaCons (evK (.int 1)) (eaCons (evK (.int 2)) eaNil))) eaNil))) eaNil)))))) eaNil)))))
  (esSeq (esSet 6 (evTupP (eaCons (evTupP (eaCons (evTupP (eaCons (evK (.int 0)) (eaCons (evK (.int 1)) eaNil))) (eaCons (evTupP (eaCons (evK (.int 2)) (eaCons (evK (.int 1)) eaNil))) eaNil))) (eaCons (evTupP (eaCons (evTupP (eaCons (evK (.int 1)) (eaCons (evK (.int 1)) eaNil))) (eaCons (evTupP (eaCons (evNeg (evK (.int 1))) (eaCons (evK (.int 2)) eaNil))) eaNil))) eaNil))))
  (esSeq (esSet 7 (evLx (eiSeq2 (evFg (evTupP (eaCons (evVar 1) (eaCons (evTupP (eaCons (evK (.int 2)) (eaCons (evK (.int 1)) (eaCons (evTupP eaNil) eaNil)))) (eaCons (evVar 3) (eaCons (evVar 0) (eaCons (evVar 5) (eaCons (evTupP (eaCons (evK (.int 3)) (eaCons (evK (.int 2)) (eaCons (evTupP eaNil) eaNil)))) (eaCons (evCl true 1 (E__law_lists 11) (eaCons (evVar 5) eaNil)) (eaCons (evTupP (eaCons (evK (.int 1)) (eaCons (evK (.int 2)) (eaCons (evTupP (eaCons (evTupP (eaCons (evTupP (eaCons (evK (.int 0)) (eaCons (evK (.int 0)) eaNil))) (eaCons (evTupP (eaCons (evK (.int 1)) (eaCons (evK (.int 1)) eaNil))) eaNil))) eaNil)) eaNil)))) eaNil))))))))))) (tgName 12) etYes (evCl true 3 E__law_heard (eaCons (evK (.int 0)) (eaCons (evDf (evVar 12)) (eaCons (evK .non) eaNil)))) [12]))
  (esSeq (esSet 8 (evLst (eaCons (evTup (eaCons (evTup (eaCons (evTup (eaCons (evK (.int 1)) eaNil)) (eaCons (evTup (eaCons (evK (.int 1)) (eaCons (evK (.int 1)) eaNil))) eaNil))) eaNil)) (eaCons (evTup eaNil) (eaCons (evLst (eaCons (evK (.str s_1)) (eaCons (evK (.bl true)) eaNil))) (eaCons (evLst (eaCons (evK (.str s_1)) (eaCons (evK (.bl true)) eaNil))) (eaCons (evDf (evVar 6)) (eaCons (evTup eaNil) (eaCons (evDf (evVar 6)) (eaCons (evLst (eaCons (evK (.str s_1)) (eaCons (evK (.bl true)) eaNil))) eaNil))))))))))
  (esSeq (esIf (etNot (etTru (evCl true 2 (E__law_same 11) (eaCons (evVar 7) (eaCons (evVar 8) eaNil)))))
  (esRet (evK (.bl false)))
  esNil)
  (esSeq (esSet 9 (evTupP (eaCons (evTupP (eaCons (evTupP (eaCons (evK (.int 0)) (eaCons (evK (.int 0)) eaNil))) (eaCons (evTupP (eaCons (evK (.int 1)) (eaCons (evK (.int 1)) eaNil))) eaNil))) (eaCons (evTupP (eaCons (evTupP (eaCons (evK (.int 0)) (eaCons (evK (.int 1)) eaNil))) (eaCons (evTupP (eaCons (evK (.int 3)) (eaCons (evK (.int 1)) eaNil))) eaNil))) (eaCons (evTupP (eaCons (evTupP (eaCons (evK (.int 1)) (eaCons (evK (.int 0)) eaNil))) (eaCons (evTupP (eaCons (evK (.int 1)) (eaCons (evK (.int 1)) eaNil))) eaNil))) (eaCons (evTupP (eaCons (evTupP (eaCons (evK (.int 1)) (eaCons (evK (.int 1)) eaNil))) (eaCons (evTupP (eaCons (evK (.int 1)) (eaCons (evK (.int 2)) eaNil))) eaNil))) eaNil))))))
  (esSeq (esSet 10 (evLst (eaCons (evVar 6) (eaCons (evVar 9) (eaCons (evSlP (evVar 6) eoN (eoS (evK (.int 1)))) (eaCons (evRevS (evDf (evVar 6))) (eaCons (evCB cList2 (eaCons (evDf (evVar 6)) eaNil)) (eaCons (evTupP eaNil) (eaCons (evK .non) (eaCons (evTupP (eaCons (evTupP (eaCons (evTupP (eaCons (evK (.int 0)) (eaCons (evK (.int 1)) eaNil))) (eaCons (evTupP (eaCons (evK (.int 2)) (eaCons (evK (.int 1)) eaNil))) (eaCons (evK (.int 0)) eaNil)))) eaNil)) (eaCons (evTupP (eaCons (evTupP (eaCons (evTupP (eaCons (evK (.int 0)) (eaCons (evK (.int 1)) eaNil))) (eaCons (evTupP (eaCons (evK (.int 4)) (eaCons (evK (.int 2)) eaNil))) eaNil))) (eaCons (evBin gIx2 (evFg (evVar 6)) (evK (.int 1))) eaNil))) (eaCons (evTupP (eaCons (evTupP (eaCons (evTupP (eaCons (evK (.int 0)) eaNil)) (eaCons (evTupP (eaCons (evK (.int 2)) (eaCons (evK (.int 1)) eaNil))) eaNil))) eaNil)) eaNil))))))))))))
  (esSeq (esSet 7 (evLst (eaCons (evLx (eiSeq2 (evDf (evVar 10))) (tgName 12) etYes (evCl true 2 E_is_store (eaCons (evVar 5) (eaCons (evVar 12) eaNil))) [12]) (eaCons (evCl true 2 E_is_store (eaCons (evTup (eaCons (evK (.int 2)) (eaCons (evK (.int 2)) (eaCons (evTup eaNil) eaNil)))) (eaCons (evTupP (eaCons (evTupP (eaCons (evTupP (eaCons (evK (.int 1)) eaNil)) (eaCons (evTupP (eaCons (evK (.int 1)) (eaCons (evK (.int 1)) eaNil))) eaNil))) eaNil)) eaNil))) (eaCons (evKw true 2 0 2 E_is_store [1, 0] eaNil (eaCons (evTupP (eaCons (evTupP (eaCons (evTupP (eaCons (evK (.int 0)) eaNil)) (eaCons (evTupP (eaCons (evK (.int 5)) (eaCons (evK (.int 1)) eaNil))) eaNil))) (eaCons (evTupP (eaCons (evTupP (eaCons (evK (.int 1)) eaNil)) (eaCons (evTupP (eaCons (evK (.int 5)) (eaCons (evK (.int 1)) eaNil))) eaNil))) eaNil))) (eaCons (evLst (eaCons (evK (.int 2)) (eaCons (evK (.int 2)) (eaCons (evLst eaNil) eaNil)))) eaNil))) eaNil)))))
  (esSeq (esSet 7 (evBin gAdd (evVar 7) (evLst (eaCons (evCl true 2 E_is_store (eaCons (evTup (eaCons (evK (.int 2)) (eaCons (evK (.int 1)) (eaCons (evTup eaNil) eaNil)))) (eaCons (evTupP (eaCons (evTupP (eaCons (evTupP eaNil) (eaCons (evTupP (eaCons (evK (.int 3)) (eaCons (evK (.int 1)) eaNil))) eaNil))) eaNil)) eaNil))) (eaCons (evCl true 2 E_is_store (eaCons (evTup (eaCons (evK (.int 2)) (eaCons (evK (.int 1)) (eaCons (evTup eaNil) eaNil)))) (eaCons (evTupP (eaCons (evTupP (eaCons (evTupP (eaCons (evK (.int 0)) eaNil)) (eaCons (evTupP (eaCons (evK (.int 3)) (eaCons (evK (.int 1)) eaNil))) eaNil))) eaNil)) eaNil))) (eaCons (evCl true 2 E_is_store (eaCons (evDf (evVar 0)) (eaCons (evTupP eaNil) eaNil))) eaNil))))))
  (esSeq (esSet 8 (evLst (eaCons (evBin gAdd (evLst (eaCons (evK (.bl true)) (eaCons (evK (.bl true)) eaNil))) (evBin gMul (evLst (eaCons (evK (.bl false)) eaNil)) (evK (.int 8)))) (eaCons (evK (.bl false)) (eaCons (evK (.bl true)) (eaCons (evK (.bl true)) (eaCons (evK (.bl false)) (eaCons (evK (.bl false)) eaNil))))))))
  (esSeq (esSet 11 (evTupP (eaCons (evK (.int 3)) (eaCons (evK (.int 2)) (eaCons (evTupP (eaCons (evTupP (eaCons (evTupP (eaCons (evK (.int 0)) (eaCons (evK (.int 1)) eaNil))) (eaCons (evTupP (eaCons (evK (.int 1)) (eaCons (evK (.int 1)) eaNil))) eaNil))) (eaCons (evTupP (eaCons (evTupP (eaCons (evK (.int 0)) (eaCons (evK (.int 2)) eaNil))) (eaCons (evTupP (eaCons (evNeg (evK (.int 1))) (eaCons (evK (.int 1)) eaNil))) eaNil))) (eaCons (evTupP (eaCons (evTupP (eaCons (evK (.int 1)) (eaCons (evK (.int 0)) eaNil))) (eaCons (evTupP (eaCons (evNeg (evK (.int 1))) (eaCons (evK (.int 1)) eaNil))) eaNil))) (eaCons (evTupP (eaCons (evTupP (eaCons (evK (.int 1)) (eaCons (evK (.int 2)) eaNil))) (eaCons (evTupP (eaCons (evK (.int 1)) (eaCons (evK (.int 1)) eaNil))) eaNil))) (eaCons (evTupP (eaCons (evTupP (eaCons (evK (.int 2)) (eaCons (evK (.int 0)) eaNil))) (eaCons (evTupP (eaCons (evK (.int 1)) (eaCons (evK (.int 1)) eaNil))) eaNil))) (eaCons (evTupP (eaCons (evTupP (eaCons (evK (.int 2)) (eaCons (evK (.int 1)) eaNil))) (eaCons (evTupP (eaCons (evNeg (evK (.int 1))) (eaCons (evK (.int 1)) eaNil))) eaNil))) eaNil))))))) eaNil)))))
  (esSeq (esSet 7 (evBin gAdd (evVar 7) (evLst (eaCons (evCl true 1 E_gaining_ring (eaCons (evDf (evVar 1)) eaNil)) (eaCons (evKw true 1 0 1 E_gaining_ring [0] eaNil (eaCons (evCl true 1 (E__law_lists 11) (eaCons (evVar 5) eaNil)) eaNil)) (eaCons (evCl true 1 E_gaining_ring (eaCons (evTup (eaCons (evK (.int 2)) (eaCons (evK (.int 1)) (eaCons (evTup eaNil) eaNil)))) eaNil)) (eaCons (evCl true 2 E__law_is_ring (eaCons (evCl true 1 E_gaining_ring (eaCons (evDf (evVar 11)) eaNil)) (eaCons (evK (.int 3)) eaNil))) eaNil)))))))
  (esSeq (esIf (etNot (etTru (evCl true 2 (E__law_same 11) (eaCons (evVar 7) (eaCons (evBin gAdd (evVar 8) (evLst (eaCons (evK .non) (eaCons (evK .non) (eaCons (evK .non) (eaCons (evK (.bl true)) eaNil)))))) eaNil)))))
  (esRet (evK (.bl false)))
  esNil)
  (esSeq (esFor 100000 (eiSeq2 (evFg (evTupP (eaCons (evVar 11) (eaCons (evVar 0) (eaCons (evVar 3) (eaCons (evVar 4) eaNil))))))) (tgName 12)
  (esSeq (esSet 13 (evCl true 1 E_gaining_ring (eaCons (evDf (evVar 12)) eaNil)))
  (esIf (etOr (etNot (etTru (evCl true 2 E__law_is_ring (eaCons (evVar 13) (eaCons (evDf (evBin gIx2 (evFg (evVar 12)) (evK (.int 0)))) eaNil))))) (etBin gEq (evBin gIx2 (evCl true 2 E__law_gained (eaCons (evVar 12) (eaCons (evVar 13) eaNil))) (evK (.int 0))) (evK (.int 0))))
  (esRet (evK (.bl false)))
  esNil)))
  (esRet (evK (.bl true))))))))))))))))))
noncomputable def E__law_stores_right : Fn := evFun B__law_stores_right 14
theorem ok__law_stores_right (Fx : Facts G mg) : Def G G.P G.w mg base 16 "_law_stores_right" [] 0 E__law_stores_right := by
  obtain ⟨f, fd, F, m, b⟩ := Fx.d__law_stores_right
  refine def_mk F (fn_ok (k := 15) F sc__law_stores_right B__law_stores_right (fun cdv A outer s H E hr => ?_)) rfl m b
  have hx : Okx G (cxB G.P G.w G.K mg base N__law_stores_right "_law_stores_right" (defScope st__law_stores_right) f cdv A outer s H E) := ⟨rfl, rfl, un_of hr, rfl, rfl⟩
  have hd : Dfx (cxB G.P G.w G.K mg base N__law_stores_right "_law_stores_right" (defScope st__law_stores_right) f cdv A outer s H E) := ⟨rfl, rfl⟩
  have tk : Takes (cxB G.P G.w G.K mg base N__law_stores_right "_law_stores_right" (defScope st__law_stores_right) f cdv A outer s H E) (WE' E) := takes_of rfl rfl rfl rfl
  have po := passes_of (X := cxB G.P G.w G.K mg base N__law_stores_right "_law_stores_right" (defScope st__law_stores_right) f cdv A outer s H E) rfl
  exact (ss_cons (ss_asg (se_fg (se_cl0 true hx (ok__law_names Fx) (hr.mono (by decide)) (by rfl) tk)) (tg_any hx (tgs_cons (tg_name (pg_name (i := 0) sc__law_stores_right.nd rfl (by first | exact Or.inl rfl | exact Or.inr rfl))) (tgs_cons (tg_name (pg_name (i := 1) sc__law_stores_right.nd rfl (by first | exact Or.inl rfl | exact Or.inr rfl))) (tgs_cons (tg_name (pg_name (i := 2) sc__law_stores_right.nd rfl (by first | exact Or.inl rfl | exact Or.inr rfl))) (tgs_cons (tg_name (pg_name (i := 3) sc__law_stores_right.nd rfl (by first | exact Or.inl rfl | exact Or.inr rfl))) (tgs_cons (tg_name (pg_name (i := 4) sc__law_stores_right.nd rfl (by first | exact Or.inl rfl | exact Or.inr rfl))) tgs_nil)))))))
  (ss_cons (ss_set (i := 5) sc__law_stores_right.nd rfl (by first | exact Or.inl rfl | exact Or.inr rfl) (se_tup (sa_cons si (sa_cons si (sa_cons (se_tup (sa_cons (se_tup (sa_cons (se_tup (sa_cons si (sa_cons si (sa_cons si sa_nil)))) (sa_cons (se_tup (sa_cons si (sa_cons si sa_nil))) sa_nil))) (sa_cons (se_tup (sa_cons (se_tup (sa_cons si (sa_cons si (sa_cons si sa_nil)))) (sa_cons (se_tup (sa_cons (se_neg si) (sa_cons si sa_nil))) sa_nil))) (sa_cons (se_tup (sa_cons (se_tup (sa_cons si (sa_cons si (sa_cons si sa_nil)))) (sa_cons (se_tup (sa_cons (se_neg si) (sa_cons si sa_nil))) sa_nil))) (sa_cons (se_tup (sa_cons (se_tup (sa_cons si (sa_cons si (sa_cons si sa_nil)))) (sa_cons (se_tup (sa_cons si (sa_cons si sa_nil))) sa_nil))) (sa_cons (se_tup (sa_cons (se_tup (sa_cons si (sa_cons si (sa_cons si sa_nil)))) (sa_cons (se_tup (sa_cons si (sa_cons si sa_nil))) sa_nil))) sa_nil)))))) sa_nil)))))
  (ss_cons (ss_set (i := 6) sc__law_stores_right.nd rfl (by first | exact Or.inl rfl | exact Or.inr rfl) (se_tupP (sa_cons (se_tupP (sa_cons (se_tupP (sa_cons si (sa_cons si sa_nil))) (sa_cons (se_tupP (sa_cons si (sa_cons si sa_nil))) sa_nil))) (sa_cons (se_tupP (sa_cons (se_tupP (sa_cons si (sa_cons si sa_nil))) (sa_cons (se_tupP (sa_cons (se_neg si) (sa_cons si sa_nil))) sa_nil))) sa_nil))))
  (ss_cons (ss_setLx (i := 7) (own := [("own", 12)]) hd tk hx.calm sc__law_stores_right.nd rfl rfl (sw_true rfl rfl rfl (by decide +kernel)) (si_seq2 hx (se_fg (se_tupP (sa_cons (sv 1) (sa_cons (se_tupP (sa_cons si (sa_cons si (sa_cons (se_tupP sa_nil) sa_nil)))) (sa_cons (sv 3) (sa_cons (sv 0) (sa_cons (sv 5) (sa_cons (se_tupP (sa_cons si (sa_cons si (sa_cons (se_tupP sa_nil) sa_nil)))) (sa_cons (se_cl true hx (ok__law_lists Fx) (hr.mono (by decide)) (by rfl) tk (sa_cons (sv 5) sa_nil)) (sa_cons (se_tupP (sa_cons si (sa_cons si (sa_cons (se_tupP (sa_cons (se_tupP (sa_cons (se_tupP (sa_cons si (sa_cons si sa_nil))) (sa_cons (se_tupP (sa_cons si (sa_cons si sa_nil))) sa_nil))) sa_nil)) sa_nil)))) sa_nil))))))))))) (blkOk_by (N := N__law_stores_right) (sc := defScope st__law_stores_right) (own := [("own", 12)]) (by decide +kernel)) (kk_name 12) (by decide) (fun _ _ _ _ _ _ => (pg_name (i := 12) sc__law_stores_right.nd rfl (by first | exact Or.inl rfl | exact Or.inr rfl))) (fun _ _ _ _ _ _ _ tk => sts_nil) (fun _ _ _ _ _ _ _ tk => (se_cl true (hx.blk) (ok__law_heard Fx) (hr.mono (by decide)) (by rfl) tk (sa_cons si (sa_cons (se_df (sv 12)) (sa_cons (se_k pe_non) sa_nil))))))
  (ss_cons (ss_set (i := 8) sc__law_stores_right.nd rfl (by first | exact Or.inl rfl | exact Or.inr rfl) (se_lst (sa_cons (se_tup (sa_cons (se_tup (sa_cons (se_tup (sa_cons si sa_nil)) (sa_cons (se_tup (sa_cons si (sa_cons si sa_nil))) sa_nil))) sa_nil)) (sa_cons (se_tup sa_nil) (sa_cons (se_lst (sa_cons (se_str s_1_eq) (sa_cons (se_k pe_bl) sa_nil))) (sa_cons (se_lst (sa_cons (se_str s_1_eq) (sa_cons (se_k pe_bl) sa_nil))) (sa_cons (se_df (sv 6)) (sa_cons (se_tup sa_nil) (sa_cons (se_df (sv 6)) (sa_cons (se_lst (sa_cons (se_str s_1_eq) (sa_cons (se_k pe_bl) sa_nil))) sa_nil))))))))))
  (ss_cons (ss_if (st_not (st_tru hx.k (se_cl true hx (ok__law_same Fx) (hr.mono (by decide)) (by rfl) tk (sa_cons (sv 7) (sa_cons (sv 8) sa_nil))) (fun _ => rfl)))
  (ss_one (ss_ret (se_k pe_bl)))
  ss_nil)
  (ss_cons (ss_set (i := 9) sc__law_stores_right.nd rfl (by first | exact Or.inl rfl | exact Or.inr rfl) (se_tupP (sa_cons (se_tupP (sa_cons (se_tupP (sa_cons si (sa_cons si sa_nil))) (sa_cons (se_tupP (sa_cons si (sa_cons si sa_nil))) sa_nil))) (sa_cons (se_tupP (sa_cons (se_tupP (sa_cons si (sa_cons si sa_nil))) (sa_cons (se_tupP (sa_cons si (sa_cons si sa_nil))) sa_nil))) (sa_cons (se_tupP (sa_cons (se_tupP (sa_cons si (sa_cons si sa_nil))) (sa_cons (se_tupP (sa_cons si (sa_cons si sa_nil))) sa_nil))) (sa_cons (se_tupP (sa_cons (se_tupP (sa_cons si (sa_cons si sa_nil))) (sa_cons (se_tupP (sa_cons si (sa_cons si sa_nil))) sa_nil))) sa_nil))))))
  (ss_cons (ss_set (i := 10) sc__law_stores_right.nd rfl (by first | exact Or.inl rfl | exact Or.inr rfl) (se_lst (sa_cons (sv 6) (sa_cons (sv 9) (sa_cons (se_slP hx (sv 6) so_none (so_some si)) (sa_cons (se_revS hx (se_df (sv 6)) pe_neg1) (sa_cons (se_callTy (cx_list2 hx) (by rfl) Fx.n_list bb_list (sa_cons (se_df (sv 6)) sa_nil)) (sa_cons (se_tupP sa_nil) (sa_cons (se_k pe_non) (sa_cons (se_tupP (sa_cons (se_tupP (sa_cons (se_tupP (sa_cons si (sa_cons si sa_nil))) (sa_cons (se_tupP (sa_cons si (sa_cons si sa_nil))) (sa_cons si sa_nil)))) sa_nil)) (sa_cons (se_tupP (sa_cons (se_tupP (sa_cons (se_tupP (sa_cons si (sa_cons si sa_nil))) (sa_cons (se_tupP (sa_cons si (sa_cons si sa_nil))) sa_nil))) (sa_cons (se_ix2 hx (se_fg (sv 6)) si (fun _ _ => rfl)) sa_nil))) (sa_cons (se_tupP (sa_cons (se_tupP (sa_cons (se_tupP (sa_cons si sa_nil)) (sa_cons (se_tupP (sa_cons si (sa_cons si sa_nil))) sa_nil))) sa_nil)) sa_nil))))))))))))
  (ss_cons (ss_set (i := 7) sc__law_stores_right.nd rfl (by first | exact Or.inl rfl | exact Or.inr rfl) (se_lst (sa_cons (se_lx (own := [("own", 12)]) hd tk hx.calm sc__law_stores_right.nd (si_seq2 hx (se_df (sv 10))) (blkOk_by (N := N__law_stores_right) (sc := defScope st__law_stores_right) (own := [("own", 12)]) (by decide +kernel)) (kk_name 12) (by decide) (fun _ _ _ _ _ _ => (pg_name (i := 12) sc__law_stores_right.nd rfl (by first | exact Or.inl rfl | exact Or.inr rfl))) (fun _ _ _ _ _ _ _ tk => sts_nil) (fun _ _ _ _ _ _ _ tk => (se_cl true (hx.blk) (ok_is_store Fx) (hr.mono (by decide)) (by rfl) tk (sa_cons (sv 5) (sa_cons (sv 12) sa_nil))))) (sa_cons (se_cl true hx (ok_is_store Fx) (hr.mono (by decide)) (by rfl) tk (sa_cons (se_tup (sa_cons si (sa_cons si (sa_cons (se_tup sa_nil) sa_nil)))) (sa_cons (se_tupP (sa_cons (se_tupP (sa_cons (se_tupP (sa_cons si sa_nil)) (sa_cons (se_tupP (sa_cons si (sa_cons si sa_nil))) sa_nil))) sa_nil)) sa_nil))) (sa_cons (se_kw0 true hx (kw_4 Fx) (hr.mono (by decide)) (by rfl) tk (sk_cons (se_tupP (sa_cons (se_tupP (sa_cons (se_tupP (sa_cons si sa_nil)) (sa_cons (se_tupP (sa_cons si (sa_cons si sa_nil))) sa_nil))) (sa_cons (se_tupP (sa_cons (se_tupP (sa_cons si sa_nil)) (sa_cons (se_tupP (sa_cons si (sa_cons si sa_nil))) sa_nil))) sa_nil))) (sk_cons (se_lst (sa_cons si (sa_cons si (sa_cons (se_lst sa_nil) sa_nil)))) sk_nil))) sa_nil)))))
  (ss_cons (ss_set (i := 7) sc__law_stores_right.nd rfl (by first | exact Or.inl rfl | exact Or.inr rfl) (se_bop (ox_add hx) (sv 7) (se_lst (sa_cons (se_cl true hx (ok_is_store Fx) (hr.mono (by decide)) (by rfl) tk (sa_cons (se_tup (sa_cons si (sa_cons si (sa_cons (se_tup sa_nil) sa_nil)))) (sa_cons (se_tupP (sa_cons (se_tupP (sa_cons (se_tupP sa_nil) (sa_cons (se_tupP (sa_cons si (sa_cons si sa_nil))) sa_nil))) sa_nil)) sa_nil))) (sa_cons (se_cl true hx (ok_is_store Fx) (hr.mono (by decide)) (by rfl) tk (sa_cons (se_tup (sa_cons si (sa_cons si (sa_cons (se_tup sa_nil) sa_nil)))) (sa_cons (se_tupP (sa_cons (se_tupP (sa_cons (se_tupP (sa_cons si sa_nil)) (sa_cons (se_tupP (sa_cons si (sa_cons si sa_nil))) sa_nil))) sa_nil)) sa_nil))) (sa_cons (se_cl true hx (ok_is_store Fx) (hr.mono (by decide)) (by rfl) tk (sa_cons (se_df (sv 0)) (sa_cons (se_tupP sa_nil) sa_nil))) sa_nil))))))
  (ss_cons (ss_set (i := 8) sc__law_stores_right.nd rfl (by first | exact Or.inl rfl | exact Or.inr rfl) (se_lst (sa_cons (se_bop (ox_add hx) (se_lst (sa_cons (se_k pe_bl) (sa_cons (se_k pe_bl) sa_nil))) (se_bop (ox_mul hx) (se_lst (sa_cons (se_k pe_bl) sa_nil)) si)) (sa_cons (se_k pe_bl) (sa_cons (se_k pe_bl) (sa_cons (se_k pe_bl) (sa_cons (se_k pe_bl) (sa_cons (se_k pe_bl) sa_nil))))))))
  (ss_cons (ss_set (i := 11) sc__law_stores_right.nd rfl (by first | exact Or.inl rfl | exact Or.inr rfl) (se_tupP (sa_cons si (sa_cons si (sa_cons (se_tupP (sa_cons (se_tupP (sa_cons (se_tupP (sa_cons si (sa_cons si sa_nil))) (sa_cons (se_tupP (sa_cons si (sa_cons si sa_nil))) sa_nil))) (sa_cons (se_tupP (sa_cons (se_tupP (sa_cons si (sa_cons si sa_nil))) (sa_cons (se_tupP (sa_cons (se_neg si) (sa_cons si sa_nil))) sa_nil))) (sa_cons (se_tupP (sa_cons (se_tupP (sa_cons si (sa_cons si sa_nil))) (sa_cons (se_tupP (sa_cons (se_neg si) (sa_cons si sa_nil))) sa_nil))) (sa_cons (se_tupP (sa_cons (se_tupP (sa_cons si (sa_cons si sa_nil))) (sa_cons (se_tupP (sa_cons si (sa_cons si sa_nil))) sa_nil))) (sa_cons (se_tupP (sa_cons (se_tupP (sa_cons si (sa_cons si sa_nil))) (sa_cons (se_tupP (sa_cons si (sa_cons si sa_nil))) sa_nil))) (sa_cons (se_tupP (sa_cons (se_tupP (sa_cons si (sa_cons si sa_nil))) (sa_cons (se_tupP (sa_cons (se_neg si) (sa_cons si sa_nil))) sa_nil))) sa_nil))))))) sa_nil)))))
  (ss_cons (ss_set (i := 7) sc__law_stores_right.nd rfl (by first | exact Or.inl rfl | exact Or.inr rfl) (se_bop (ox_add hx) (sv 7) (se_lst (sa_cons (se_cl true hx (ok_gaining_ring Fx) (hr.mono (by decide)) (by rfl) tk (sa_cons (se_df (sv 1)) sa_nil)) (sa_cons (se_kw0 true hx (kw_5 Fx) (hr.mono (by decide)) (by rfl) tk (sk_cons (se_cl true hx (ok__law_lists Fx) (hr.mono (by decide)) (by rfl) tk (sa_cons (sv 5) sa_nil)) sk_nil)) (sa_cons (se_cl true hx (ok_gaining_ring Fx) (hr.mono (by decide)) (by rfl) tk (sa_cons (se_tup (sa_cons si (sa_cons si (sa_cons (se_tup sa_nil) sa_nil)))) sa_nil)) (sa_cons (se_cl true hx (ok__law_is_ring Fx) (hr.mono (by decide)) (by rfl) tk (sa_cons (se_cl true hx (ok_gaining_ring Fx) (hr.mono (by decide)) (by rfl) tk (sa_cons (se_df (sv 11)) sa_nil)) (sa_cons si sa_nil))) sa_nil)))))))
  (ss_cons (ss_if (st_not (st_tru hx.k (se_cl true hx (ok__law_same Fx) (hr.mono (by decide)) (by rfl) tk (sa_cons (sv 7) (sa_cons (se_bop (ox_add hx) (sv 8) (se_lst (sa_cons (se_k pe_non) (sa_cons (se_k pe_non) (sa_cons (se_k pe_non) (sa_cons (se_k pe_bl) sa_nil)))))) sa_nil))) (fun _ => rfl)))
  (ss_one (ss_ret (se_k pe_bl)))
  ss_nil)
  (ss_cons (ss_for po hx.calm (si_seq2 hx (se_fg (se_tupP (sa_cons (sv 11) (sa_cons (sv 0) (sa_cons (sv 3) (sa_cons (sv 4) sa_nil))))))) (tg_name (pg_name (i := 12) sc__law_stores_right.nd rfl (by first | exact Or.inl rfl | exact Or.inr rfl)))
  (ss_cons (ss_set (i := 13) sc__law_stores_right.nd rfl (by first | exact Or.inl rfl | exact Or.inr rfl) (se_cl true hx (ok_gaining_ring Fx) (hr.mono (by decide)) (by rfl) tk (sa_cons (se_df (sv 12)) sa_nil)))
  (ss_one (ss_if (st_w (sw_or (st_not (st_tru hx.k (se_cl true hx (ok__law_is_ring Fx) (hr.mono (by decide)) (by rfl) tk (sa_cons (sv 13) (sa_cons (se_df (se_ix2 hx (se_fg (sv 12)) si (fun _ _ => rfl))) sa_nil))) (fun _ => rfl))) (sw_or1 (st_cop (ox_eq hx) (se_ix2 hx (se_cl true hx (ok__law_gained Fx) (hr.mono (by decide)) (by rfl) tk (sa_cons (sv 12) (sa_cons (sv 13) sa_nil))) si (fun _ _ => rfl)) si rfl))))
  (ss_one (ss_ret (se_k pe_bl)))
  ss_nil))))
  (ss_one (ss_ret (se_k pe_bl))))))))))))))))))
noncomputable def B__law_most_right : Evs := (esSeq (esAsg (evFg (evCl true 0 E__law_names eaNil)) (tgAny 5 (tgCons (tgName 0) (tgCons (tgName 1) (tgCons (tgName 2) (tgCons (tgName 3) (tgCons (tgName 4) tgNil)))))))
  (esSeq (esSet 5 (evTup (eaCons (evK (.int 1)) (eaCons (evK (.int 2)) (eaCons (evTup (eaCons (evTup (eaCons (evTup (eaCons (evK (.int 0)) (eaCons (evK (.int 0)) eaNil))) (eaCons (evTup (eaCons (evNeg (evK (.int 3))) (eaCons (evK (.int 2)) eaNil))) eaNil))) eaNil)) eaNil)))))
  (esSeq (esSet 6 (evBin gAdd (evLx (eiSeq2 (evFg (evTupP (eaCons (evVar 4) (eaCons (evVar 0) (eaCons (evVar 1) (eaCons (evVar 3) (eaCons (evVar 5) (eaCons (evTupP (eaCons (evK (.int 2)) (eaCons (evK (.int 2)) (eaCons (evTupP eaNil) eaNil)))) (eaCons (evVar 2) eaNil)))))))))) (tgName 10) etYes (evCl true 1 E_most_step (eaCons (evDf (evVar 10)) eaNil)) [10]) (evLst (eaCons (evKw true 1 0 1 E_most_step [0] eaNil (eaCons (evCl true 1 (E__law_lists 11) (eaCons (evDf (evVar 4)) eaNil)) eaNil)) eaNil))))
  (esSeq (esSet 7 (evLst (eaCons (evTup (eaCons (evK (.int 1)) (eaCons (evK (.int 1)) eaNil))) (eaCons (evTup (eaCons (evK (.int 1)) (eaCons (evK (.int 2)) eaNil))) (eaCons (evTup (eaCons (evK (.int 0)) (eaCons (evK (.int 1)) eaNil))) (eaCons (evTup (eaCons (evK (.int 3)) (eaCons (evK (.int 1)) eaNil))) (eaCons (evTup (eaCons (evNeg (evK (.int 3))) (eaCons (evK (.int 2)) eaNil))) (eaCons (evTup (eaCons (evK (.int 0)) (eaCons (evK (.int 1)) eaNil))) (eaCons (evTup (eaCons (evK (.int 1)) (eaCons (evK (.int 4)) eaNil))) (eaCons (evTup (eaCons (evK (.int 1)) (eaCons (evK (.int 1)) eaNil))) eaNil))))))))))
  (esSeq (esIf (etNot (etTru (evCl true 2 (E__law_same 11) (eaCons (evVar 6) (eaCons (evVar 7) eaNil)))))
  (esRet (evK (.bl false)))
  esNil)
  (esSeq (esSet 8 (evKw true 1 0 1 E_most_ring [0] eaNil (eaCons (evCl true 1 (E__law_lists 11) (eaCons (evDf (evVar 4)) eaNil)) eaNil)))
  (esSeq (esIf (etOr (etNot (etTru (evCl true 2 E__law_is_ring (eaCons (evVar 8) (eaCons (evK (.int 3)) eaNil))))) (etBin gNe (evCl true 2 E__law_gained (eaCons (evVar 4) (eaCons (evVar 8) eaNil))) (evTup (eaCons (evCB (cLenD cLen) (eaCons (evVar 8) eaNil)) (eaCons (evK (.int 1)) eaNil)))))
  (esRet (evK (.bl false)))
  esNil)
  (esSeq (esSet 9 (evLst (eaCons (evTupP (eaCons (evTupP (eaCons (evTupP (eaCons (evK (.int 1)) eaNil)) (eaCons (evTupP (eaCons (evK (.int 1)) (eaCons (evK (.int 1)) eaNil))) eaNil))) (eaCons (evTupP (eaCons (evTupP (eaCons (evK (.int 2)) eaNil)) (eaCons (evTupP (eaCons (evK (.int 2)) (eaCons (evK (.int 1)) eaNil))) eaNil))) eaNil))) (eaCons (evTupP (eaCons (evTupP (eaCons (evTupP (eaCons (evK (.int 0)) eaNil)) (eaCons (evTupP (eaCons (evNeg (evK (.int 1))) (eaCons (evK (.int 1)) eaNil))) eaNil))) (eaCons (evTupP (eaCons (evTupP (eaCons (evK (.int 2)) eaNil)) (eaCons (evTupP (eaCons (evK (.int 1)) (eaCons (evK (.int 1)) eaNil))) eaNil))) eaNil))) (eaCons (evTupP (eaCons (evTupP (eaCons (evTupP (eaCons (evK (.int 1)) eaNil)) (eaCons (evTupP (eaCons (evK (.int 1)) (eaCons (evK (.int 1)) eaNil))) eaNil))) eaNil)) eaNil)))))
  (esSeq (esSet 9 (evBin gAdd (evVar 9) (evLst (eaCons (evCB cList2 (eaCons (evDf (evBin gIx2 (evFg (evVar 9)) (evK (.int 0)))) eaNil)) (eaCons (evK .non) (eaCons (evRevS (evDf (evBin gIx2 (evFg (evVar 9)) (evK (.int 0))))) eaNil))))))
  (esSeq (esSet 6 (evLst (eaCons (evLx (eiSeq2 (evDf (evVar 9))) (tgName 10) etYes (evCl true 3 E_is_most_store (eaCons (evDf (evVar 4)) (eaCons (evTup (eaCons (evK (.int 1)) (eaCons (evK (.int 1)) eaNil))) (eaCons (evVar 10) eaNil)))) [10]) (eaCons (evCl true 3 E_is_most_store (eaCons (evDf (evVar 4)) (eaCons (evTup (eaCons (evK (.int 99)) (eaCons (evK (.int 100)) eaNil))) (eaCons (evBin gIx2 (evFg (evVar 9)) (evK (.int 0))) eaNil)))) eaNil))))
  (esSeq (esExpr (evMt mApp (evVar 6) (eaCons (evKw true 3 0 3 E_is_most_store [2, 1, 0] eaNil (eaCons (evBin gIx2 (evFg (evVar 9)) (evK (.int 0))) (eaCons (evLst (eaCons (evK (.int 2)) (eaCons (evK (.int 1)) eaNil))) (eaCons (evCl true 1 (E__law_lists 11) (eaCons (evDf (evVar 4)) eaNil)) eaNil)))) eaNil)))
  (esSeq (esSet 6 (evBin gAdd (evVar 6) (evLst (eaCons (evCl true 3 E_is_most_store (eaCons (evDf (evVar 0)) (eaCons (evTup (eaCons (evK (.int 1)) (eaCons (evK (.int 2)) eaNil))) (eaCons (evTupP (eaCons (evTupP (eaCons (evTupP (eaCons (evK (.int 1)) eaNil)) (eaCons (evTupP (eaCons (evK (.int 1)) (eaCons (evK (.int 2)) eaNil))) eaNil))) eaNil)) eaNil)))) (eaCons (evCl true 3 E_is_most_store (eaCons (evDf (evVar 0)) (eaCons (evTup (eaCons (evK (.int 1)) (eaCons (evK (.int 2)) eaNil))) (eaCons (evTupP eaNil) eaNil)))) (eaCons (evCl true 3 E_is_most_store (eaCons (evDf (evVar 0)) (eaCons (evTup (eaCons (evK (.int 1)) (eaCons (evK (.int 1)) eaNil))) (eaCons (evTupP eaNil) eaNil)))) (eaCons (evCl true 3 E_is_most_store (eaCons (evVar 5) (eaCons (evTup (eaCons (evNeg (evK (.int 3))) (eaCons (evK (.int 2)) eaNil))) (eaCons (evTupP eaNil) eaNil)))) eaNil)))))))
  (esSeq (esSet 7 (evLst (eaCons (evBin gAdd (evLst (eaCons (evK (.bl true)) (eaCons (evK (.bl true)) eaNil))) (evBin gMul (evLst (eaCons (evK (.bl false)) eaNil)) (evK (.int 4)))) (eaCons (evK (.bl false)) (eaCons (evK (.bl true)) (eaCons (evK (.bl true)) (eaCons (evK (.bl false)) (eaCons (evK (.bl true)) (eaCons (evK (.bl true)) eaNil)))))))))
  (esSeq (esSet 6 (evBin gAdd (evVar 6) (evLst (eaCons (evCl true 3 E__law_heard (eaCons (evK (.int 1)) (eaCons (evDf (evVar 4)) (eaCons (evTup (eaCons (evK (.int 99)) (eaCons (evK (.int 100)) eaNil))) eaNil)))) (eaCons (evCl true 3 E__law_heard (eaCons (evK (.int 1)) (eaCons (evDf (evVar 0)) (eaCons (evTup (eaCons (evK (.int 0)) (eaCons (evK (.int 1)) eaNil))) eaNil)))) (eaCons (evCl true 3 E__law_heard (eaCons (evK (.int 1)) (eaCons (evVar 5) (eaCons (evTup (eaCons (evNeg (evK (.int 2))) (eaCons (evK (.int 1)) eaNil))) eaNil)))) eaNil))))))
  (esSeq (esExpr (evMt mApp (evVar 6) (eaCons (evCl true 3 E_is_most_store (eaCons (evDf (evVar 4)) (eaCons (evTup (eaCons (evK (.int 1)) (eaCons (evK (.int 1)) eaNil))) (eaCons (evKw true 2 0 2 E_most_store [1, 0] eaNil (eaCons (evLst (eaCons (evK (.int 1)) (eaCons (evK (.int 1)) eaNil))) (eaCons (evCl true 1 (E__law_lists 11) (eaCons (evDf (evVar 4)) eaNil)) eaNil))) eaNil)))) eaNil)))
  (esRet (evCl true 2 (E__law_same 11) (eaCons (evVar 6) (eaCons (evBin gAdd (evBin gAdd (evVar 7) (evBin gMul (evLst (eaCons (evLst (eaCons (evK (.str s_1)) (eaCons (evK (.bl true)) eaNil))) eaNil)) (evK (.int 3)))) (evLst (eaCons (evK (.bl true)) eaNil))) eaNil)))))))))))))))))))
noncomputable def E__law_most_right : Fn := evFun B__law_most_right 11
theorem ok__law_most_right (Fx : Facts G mg) : Def G G.P G.w mg base 16 "_law_most_right" [] 0 E__law_most_right := by
  obtain ⟨f, fd, F, m, b⟩ := Fx.d__law_most_right
  refine def_mk F (fn_ok (k := 15) F sc__law_most_right B__law_most_right (fun cdv A outer s H E hr => ?_)) rfl m b
  have hx : Okx G (cxB G.P G.w G.K mg base N__law_most_right "_law_most_right" (defScope st__law_most_right) f cdv A outer s H E) := ⟨rfl, rfl, un_of hr, rfl, rfl⟩
  have hd : Dfx (cxB G.P G.w G.K mg base N__law_most_right "_law_most_right" (defScope st__law_most_right) f cdv A outer s H E) := ⟨rfl, rfl⟩
  have tk : Takes (cxB G.P G.w G.K mg base N__law_most_right "_law_most_right" (defScope st__law_most_right) f cdv A outer s H E) (WE' E) := takes_of rfl rfl rfl rfl
  have po := passes_of (X := cxB G.P G.w G.K mg base N__law_most_right "_law_most_right" (defScope st__law_most_right) f cdv A outer s H E) rfl
  exact (ss_cons (ss_asg (se_fg (se_cl0 true hx (ok__law_names Fx) (hr.mono (by decide)) (by rfl) tk)) (tg_any hx (tgs_cons (tg_name (pg_name (i := 0) sc__law_most_right.nd rfl (by first | exact Or.inl rfl | exact Or.inr rfl))) (tgs_cons (tg_name (pg_name (i := 1) sc__law_most_right.nd rfl (by first | exact Or.inl rfl | exact Or.inr rfl))) (tgs_cons (tg_name (pg_name (i := 2) sc__law_most_right.nd rfl (by first | exact Or.inl rfl | exact Or.inr rfl))) (tgs_cons (tg_name (pg_name (i := 3) sc__law_most_right.nd rfl (by first | exact Or.inl rfl | exact Or.inr rfl))) (tgs_cons (tg_name (pg_name (i := 4) sc__law_most_right.nd rfl (by first | exact Or.inl rfl | exact Or.inr rfl))) tgs_nil)))))))
  (ss_cons (ss_set (i := 5) sc__law_most_right.nd rfl (by first | exact Or.inl rfl | exact Or.inr rfl) (se_tup (sa_cons si (sa_cons si (sa_cons (se_tup (sa_cons (se_tup (sa_cons (se_tup (sa_cons si (sa_cons si sa_nil))) (sa_cons (se_tup (sa_cons (se_neg si) (sa_cons si sa_nil))) sa_nil))) sa_nil)) sa_nil)))))
  (ss_cons (ss_set (i := 6) sc__law_most_right.nd rfl (by first | exact Or.inl rfl | exact Or.inr rfl) (se_bop (ox_add hx) (se_lx (own := [("own", 10)]) hd tk hx.calm sc__law_most_right.nd (si_seq2 hx (se_fg (se_tupP (sa_cons (sv 4) (sa_cons (sv 0) (sa_cons (sv 1) (sa_cons (sv 3) (sa_cons (sv 5) (sa_cons (se_tupP (sa_cons si (sa_cons si (sa_cons (se_tupP sa_nil) sa_nil)))) (sa_cons (sv 2) sa_nil)))))))))) (blkOk_by (N := N__law_most_right) (sc := defScope st__law_most_right) (own := [("own", 10)]) (by decide +kernel)) (kk_name 10) (by decide) (fun _ _ _ _ _ _ => (pg_name (i := 10) sc__law_most_right.nd rfl (by first | exact Or.inl rfl | exact Or.inr rfl))) (fun _ _ _ _ _ _ _ tk => sts_nil) (fun _ _ _ _ _ _ _ tk => (se_cl true (hx.blk) (ok_most_step Fx) (hr.mono (by decide)) (by rfl) tk (sa_cons (se_df (sv 10)) sa_nil)))) (se_lst (sa_cons (se_kw0 true hx (kw_6 Fx) (hr.mono (by decide)) (by rfl) tk (sk_cons (se_cl true hx (ok__law_lists Fx) (hr.mono (by decide)) (by rfl) tk (sa_cons (se_df (sv 4)) sa_nil)) sk_nil)) sa_nil))))
  (ss_cons (ss_set (i := 7) sc__law_most_right.nd rfl (by first | exact Or.inl rfl | exact Or.inr rfl) (se_lst (sa_cons (se_tup (sa_cons si (sa_cons si sa_nil))) (sa_cons (se_tup (sa_cons si (sa_cons si sa_nil))) (sa_cons (se_tup (sa_cons si (sa_cons si sa_nil))) (sa_cons (se_tup (sa_cons si (sa_cons si sa_nil))) (sa_cons (se_tup (sa_cons (se_neg si) (sa_cons si sa_nil))) (sa_cons (se_tup (sa_cons si (sa_cons si sa_nil))) (sa_cons (se_tup (sa_cons si (sa_cons si sa_nil))) (sa_cons (se_tup (sa_cons si (sa_cons si sa_nil))) sa_nil))))))))))
  (ss_cons (ss_if (st_not (st_tru hx.k (se_cl true hx (ok__law_same Fx) (hr.mono (by decide)) (by rfl) tk (sa_cons (sv 6) (sa_cons (sv 7) sa_nil))) (fun _ => rfl)))
  (ss_one (ss_ret (se_k pe_bl)))
  ss_nil)
  (ss_cons (ss_set (i := 8) sc__law_most_right.nd rfl (by first | exact Or.inl rfl | exact Or.inr rfl) (se_kw0 true hx (kw_7 Fx) (hr.mono (by decide)) (by rfl) tk (sk_cons (se_cl true hx (ok__law_lists Fx) (hr.mono (by decide)) (by rfl) tk (sa_cons (se_df (sv 4)) sa_nil)) sk_nil)))
  (ss_cons (ss_if (st_w (sw_or (st_not (st_tru hx.k (se_cl true hx (ok__law_is_ring Fx) (hr.mono (by decide)) (by rfl) tk (sa_cons (sv 8) (sa_cons si sa_nil))) (fun _ => rfl))) (sw_or1 (st_cop (ox_ne hx) (se_cl true hx (ok__law_gained Fx) (hr.mono (by decide)) (by rfl) tk (sa_cons (sv 4) (sa_cons (sv 8) sa_nil))) (se_tup (sa_cons (se_callB (cx_lenD hx (cx_len hx)) (by rfl) Fx.n_len bb_len (sa_cons (sv 8) sa_nil)) (sa_cons si sa_nil))) rfl))))
  (ss_one (ss_ret (se_k pe_bl)))
  ss_nil)
  (ss_cons (ss_set (i := 9) sc__law_most_right.nd rfl (by first | exact Or.inl rfl | exact Or.inr rfl) (se_lst (sa_cons (se_tupP (sa_cons (se_tupP (sa_cons (se_tupP (sa_cons si sa_nil)) (sa_cons (se_tupP (sa_cons si (sa_cons si sa_nil))) sa_nil))) (sa_cons (se_tupP (sa_cons (se_tupP (sa_cons si sa_nil)) (sa_cons (se_tupP (sa_cons si (sa_cons si sa_nil))) sa_nil))) sa_nil))) (sa_cons (se_tupP (sa_cons (se_tupP (sa_cons (se_tupP (sa_cons si sa_nil)) (sa_cons (se_tupP (sa_cons (se_neg si) (sa_cons si sa_nil))) sa_nil))) (sa_cons (se_tupP (sa_cons (se_tupP (sa_cons si sa_nil)) (sa_cons (se_tupP (sa_cons si (sa_cons si sa_nil))) sa_nil))) sa_nil))) (sa_cons (se_tupP (sa_cons (se_tupP (sa_cons (se_tupP (sa_cons si sa_nil)) (sa_cons (se_tupP (sa_cons si (sa_cons si sa_nil))) sa_nil))) sa_nil)) sa_nil)))))
  (ss_cons (ss_set (i := 9) sc__law_most_right.nd rfl (by first | exact Or.inl rfl | exact Or.inr rfl) (se_bop (ox_add hx) (sv 9) (se_lst (sa_cons (se_callTy (cx_list2 hx) (by rfl) Fx.n_list bb_list (sa_cons (se_df (se_ix2 hx (se_fg (sv 9)) si (fun _ _ => rfl))) sa_nil)) (sa_cons (se_k pe_non) (sa_cons (se_revS hx (se_df (se_ix2 hx (se_fg (sv 9)) si (fun _ _ => rfl))) pe_neg1) sa_nil))))))
  (ss_cons (ss_set (i := 6) sc__law_most_right.nd rfl (by first | exact Or.inl rfl | exact Or.inr rfl) (se_lst (sa_cons (se_lx (own := [("own", 10)]) hd tk hx.calm sc__law_most_right.nd (si_seq2 hx (se_df (sv 9))) (blkOk_by (N := N__law_most_right) (sc := defScope st__law_most_right) (own := [("own", 10)]) (by decide +kernel)) (kk_name 10) (by decide) (fun _ _ _ _ _ _ => (pg_name (i := 10) sc__law_most_right.nd rfl (by first | exact Or.inl rfl | exact Or.inr rfl))) (fun _ _ _ _ _ _ _ tk => sts_nil) (fun _ _ _ _ _ _ _ tk => (se_cl true (hx.blk) (ok_is_most_store Fx) (hr.mono (by decide)) (by rfl) tk (sa_cons (se_df (sv 4)) (sa_cons (se_tup (sa_cons si (sa_cons si sa_nil))) (sa_cons (sv 10) sa_nil)))))) (sa_cons (se_cl true hx (ok_is_most_store Fx) (hr.mono (by decide)) (by rfl) tk (sa_cons (se_df (sv 4)) (sa_cons (se_tup (sa_cons si (sa_cons si sa_nil))) (sa_cons (se_ix2 hx (se_fg (sv 9)) si (fun _ _ => rfl)) sa_nil)))) sa_nil))))
  (ss_cons (ss_expr (se_mt hx PySem.F.slot_list_append PySem.F.type_list_append mt_append ms_app (sv 6) (sa_cons (se_kw0 true hx (kw_8 Fx) (hr.mono (by decide)) (by rfl) tk (sk_cons (se_ix2 hx (se_fg (sv 9)) si (fun _ _ => rfl)) (sk_cons (se_lst (sa_cons si (sa_cons si sa_nil))) (sk_cons (se_cl true hx (ok__law_lists Fx) (hr.mono (by decide)) (by rfl) tk (sa_cons (se_df (sv 4)) sa_nil)) sk_nil)))) sa_nil)))
  (ss_cons (ss_set (i := 6) sc__law_most_right.nd rfl (by first | exact Or.inl rfl | exact Or.inr rfl) (se_bop (ox_add hx) (sv 6) (se_lst (sa_cons (se_cl true hx (ok_is_most_store Fx) (hr.mono (by decide)) (by rfl) tk (sa_cons (se_df (sv 0)) (sa_cons (se_tup (sa_cons si (sa_cons si sa_nil))) (sa_cons (se_tupP (sa_cons (se_tupP (sa_cons (se_tupP (sa_cons si sa_nil)) (sa_cons (se_tupP (sa_cons si (sa_cons si sa_nil))) sa_nil))) sa_nil)) sa_nil)))) (sa_cons (se_cl true hx (ok_is_most_store Fx) (hr.mono (by decide)) (by rfl) tk (sa_cons (se_df (sv 0)) (sa_cons (se_tup (sa_cons si (sa_cons si sa_nil))) (sa_cons (se_tupP sa_nil) sa_nil)))) (sa_cons (se_cl true hx (ok_is_most_store Fx) (hr.mono (by decide)) (by rfl) tk (sa_cons (se_df (sv 0)) (sa_cons (se_tup (sa_cons si (sa_cons si sa_nil))) (sa_cons (se_tupP sa_nil) sa_nil)))) (sa_cons (se_cl true hx (ok_is_most_store Fx) (hr.mono (by decide)) (by rfl) tk (sa_cons (sv 5) (sa_cons (se_tup (sa_cons (se_neg si) (sa_cons si sa_nil))) (sa_cons (se_tupP sa_nil) sa_nil)))) sa_nil)))))))
  (ss_cons (ss_set (i := 7) sc__law_most_right.nd rfl (by first | exact Or.inl rfl | exact Or.inr rfl) (se_lst (sa_cons (se_bop (ox_add hx) (se_lst (sa_cons (se_k pe_bl) (sa_cons (se_k pe_bl) sa_nil))) (se_bop (ox_mul hx) (se_lst (sa_cons (se_k pe_bl) sa_nil)) si)) (sa_cons (se_k pe_bl) (sa_cons (se_k pe_bl) (sa_cons (se_k pe_bl) (sa_cons (se_k pe_bl) (sa_cons (se_k pe_bl) (sa_cons (se_k pe_bl) sa_nil)))))))))
  (ss_cons (ss_set (i := 6) sc__law_most_right.nd rfl (by first | exact Or.inl rfl | exact Or.inr rfl) (se_bop (ox_add hx) (sv 6) (se_lst (sa_cons (se_cl true hx (ok__law_heard Fx) (hr.mono (by decide)) (by rfl) tk (sa_cons si (sa_cons (se_df (sv 4)) (sa_cons (se_tup (sa_cons si (sa_cons si sa_nil))) sa_nil)))) (sa_cons (se_cl true hx (ok__law_heard Fx) (hr.mono (by decide)) (by rfl) tk (sa_cons si (sa_cons (se_df (sv 0)) (sa_cons (se_tup (sa_cons si (sa_cons si sa_nil))) sa_nil)))) (sa_cons (se_cl true hx (ok__law_heard Fx) (hr.mono (by decide)) (by rfl) tk (sa_cons si (sa_cons (sv 5) (sa_cons (se_tup (sa_cons (se_neg si) (sa_cons si sa_nil))) sa_nil)))) sa_nil))))))
  (ss_cons (ss_expr (se_mt hx PySem.F.slot_list_append PySem.F.type_list_append mt_append ms_app (sv 6) (sa_cons (se_cl true hx (ok_is_most_store Fx) (hr.mono (by decide)) (by rfl) tk (sa_cons (se_df (sv 4)) (sa_cons (se_tup (sa_cons si (sa_cons si sa_nil))) (sa_cons (se_kw0 true hx (kw_9 Fx) (hr.mono (by decide)) (by rfl) tk (sk_cons (se_lst (sa_cons si (sa_cons si sa_nil))) (sk_cons (se_cl true hx (ok__law_lists Fx) (hr.mono (by decide)) (by rfl) tk (sa_cons (se_df (sv 4)) sa_nil)) sk_nil))) sa_nil)))) sa_nil)))
  (ss_one (ss_ret (se_cl true hx (ok__law_same Fx) (hr.mono (by decide)) (by rfl) tk (sa_cons (sv 6) (sa_cons (se_bop (ox_add hx) (se_bop (ox_add hx) (sv 7) (se_bop (ox_mul hx) (se_lst (sa_cons (se_lst (sa_cons (se_str s_1_eq) (sa_cons (se_k pe_bl) sa_nil))) sa_nil)) si)) (se_lst (sa_cons (se_k pe_bl) sa_nil))) sa_nil))))))))))))))))))))
noncomputable def B__law_forms_right : Evs := (esSeq (esAsg (evTup (eaCons (evTup (eaCons (evTup (eaCons (evTup (eaCons (evTup (eaCons (evK (.int 0)) eaNil)) (eaCons (evTup (eaCons (evK (.int 1)) eaNil)) eaNil))) (eaCons (evTup (eaCons (evK (.int 1)) (eaCons (evK (.int 1)) eaNil))) eaNil))) (eaCons (evTup (eaCons (evTup (eaCons (evTup (eaCons (evK (.int 1)) eaNil)) (eaCons (evTup (eaCons (evK (.int 0)) eaNil)) eaNil))) (eaCons (evTup (eaCons (evNeg (evK (.int 1))) (eaCons (evK (.int 1)) eaNil))) eaNil))) eaNil))) (eaCons (evTup (eaCons (evTup (eaCons (evTup (eaCons (evTup (eaCons (evK (.int 1)) eaNil)) (eaCons (evTup (eaCons (evK (.int 1)) eaNil)) eaNil))) (eaCons (evTup (eaCons (evK (.int 1)) (eaCons (evK (.int 1)) eaNil))) eaNil))) (eaCons (evTup (eaCons (evTup (eaCons (evTup (eaCons (evK (.int 2)) eaNil)) (eaCons (evTup (eaCons (evK (.int 0)) eaNil)) eaNil))) (eaCons (evTup (eaCons (evNeg (evK (.int 1))) (eaCons (evK (.int 1)) eaNil))) eaNil))) eaNil))) eaNil))) (tgAny 2 (tgCons (tgName 0) (tgCons (tgName 1) tgNil))))
  (esSeq (esSet 2 (evTup (eaCons (evTup (eaCons (evTup (eaCons (evTup (eaCons (evK (.int 0)) eaNil)) (eaCons (evTup (eaCons (evK (.int 0)) eaNil)) (eaCons (evTup (eaCons (evK (.int 1)) eaNil)) eaNil)))) (eaCons (evTup (eaCons (evK (.int 1)) (eaCons (evK (.int 1)) eaNil))) eaNil))) (eaCons (evTup (eaCons (evTup (eaCons (evTup (eaCons (evK (.int 0)) eaNil)) (eaCons (evTup (eaCons (evK (.int 1)) eaNil)) (eaCons (evTup (eaCons (evK (.int 0)) eaNil)) eaNil)))) (eaCons (evTup (eaCons (evNeg (evK (.int 2))) (eaCons (evK (.int 1)) eaNil))) eaNil))) (eaCons (evTup (eaCons (evTup (eaCons (evTup (eaCons (evK (.int 1)) eaNil)) (eaCons (evTup (eaCons (evK (.int 0)) eaNil)) (eaCons (evTup (eaCons (evK (.int 0)) eaNil)) eaNil)))) (eaCons (evTup (eaCons (evK (.int 1)) (eaCons (evK (.int 1)) eaNil))) eaNil))) eaNil)))))
  (esSeq (esSet 3 (evTup (eaCons (evTup (eaCons (evTup (eaCons (evTup (eaCons (evK (.int 0)) (eaCons (evK (.int 0)) eaNil))) (eaCons (evTup (eaCons (evK (.int 1)) (eaCons (evK (.int 1)) eaNil))) eaNil))) (eaCons (evTup (eaCons (evK (.int 1)) (eaCons (evK (.int 1)) eaNil))) eaNil))) (eaCons (evTup (eaCons (evTup (eaCons (evTup (eaCons (evK (.int 1)) (eaCons (evK (.int 1)) eaNil))) (eaCons (evTup (eaCons (evK (.int 0)) (eaCons (evK (.int 0)) eaNil))) eaNil))) (eaCons (evTup (eaCons (evNeg (evK (.int 1))) (eaCons (evK (.int 1)) eaNil))) eaNil))) eaNil))))
  (esSeq (esSet 4 (evTup (eaCons (evTup (eaCons (evTup (eaCons (evTup (eaCons (evK (.int 1)) eaNil)) (eaCons (evTup (eaCons (evK (.int 0)) eaNil)) (eaCons (evTup (eaCons (evK (.int 1)) eaNil)) eaNil)))) (eaCons (evTup (eaCons (evK (.int 1)) (eaCons (evK (.int 1)) eaNil))) eaNil))) (eaCons (evTup (eaCons (evTup (eaCons (evTup (eaCons (evK (.int 1)) eaNil)) (eaCons (evTup (eaCons (evK (.int 1)) eaNil)) (eaCons (evTup (eaCons (evK (.int 0)) eaNil)) eaNil)))) (eaCons (evTup (eaCons (evNeg (evK (.int 1))) (eaCons (evK (.int 1)) eaNil))) eaNil))) eaNil))))
  (esSeq (esSet 5 (evLx (eiSeq2 (evTup (eaCons (evTup (eaCons (evVar 0) (eaCons (evK (.int 2)) eaNil))) (eaCons (evTup (eaCons (evVar 1) (eaCons (evK (.int 2)) eaNil))) (eaCons (evTup (eaCons (evVar 2) (eaCons (evK (.int 3)) eaNil))) (eaCons (evTup (eaCons (evVar 4) (eaCons (evK (.int 3)) eaNil))) (eaCons (evTup (eaCons (evTup eaNil) (eaCons (evK (.int 2)) eaNil))) (eaCons (evTup (eaCons (evTup eaNil) (eaCons (evK (.int 1)) eaNil))) (eaCons (evTup (eaCons (evTup (eaCons (evTup (eaCons (evTup (eaCons (evTup (eaCons (evK (.int 1)) eaNil)) eaNil)) (eaCons (evTup (eaCons (evK (.int 1)) (eaCons (evK (.int 1)) eaNil))) eaNil))) eaNil)) (eaCons (evK (.int 1)) eaNil))) eaNil))))))))) (tgTup 2 (tgCons (tgName 8) (tgCons (tgName 9) tgNil))) etYes (evCl true 3 E__law_heard (eaCons (evK (.int 2)) (eaCons (evVar 8) (eaCons (evVar 9) eaNil)))) [8, 9]))
  (esSeq (esSet 6 (evLst (eaCons (evTup (eaCons (evTup (eaCons (evTup (eaCons (evTup (eaCons (evK (.int 1)) eaNil)) eaNil)) (eaCons (evTup (eaCons (evK (.int 1)) (eaCons (evK (.int 1)) eaNil))) eaNil))) eaNil)) (eaCons (evLst (eaCons (evK (.str s_1)) (eaCons (evK (.bl true)) eaNil))) (eaCons (evVar 0) (eaCons (evLst (eaCons (evK (.str s_1)) (eaCons (evK (.bl true)) eaNil))) (eaCons (evTup eaNil) (eaCons (evTup eaNil) (eaCons (evLst (eaCons (evK (.str s_1)) (eaCons (evK (.bl true)) eaNil))) eaNil)))))))))
  (esSeq (esSet 5 (evBin gAdd (evVar 5) (evLst (eaCons (evCl true 3 E__law_heard (eaCons (evK (.int 2)) (eaCons (evTup (eaCons (evTup (eaCons (evTup (eaCons (evTup (eaCons (evK (.int 0)) eaNil)) (eaCons (evTup (eaCons (evK (.int 0)) eaNil)) eaNil))) (eaCons (evTup (eaCons (evK (.int 1)) (eaCons (evK (.int 1)) eaNil))) eaNil))) eaNil)) (eaCons (evK (.int 2)) eaNil)))) (eaCons (evCl true 3 E_form_store (eaCons (evVar 3) (eaCons (evK (.int 2)) (eaCons (evK (.int 2)) eaNil)))) (eaCons (evKw true 3 0 3 E_form_store [2, 1, 0] eaNil (eaCons (evK (.int 1)) (eaCons (evK (.int 3)) (eaCons (evCl true 1 (E__law_lists 11) (eaCons (evVar 2) eaNil)) eaNil)))) eaNil))))))
  (esSeq (esSet 6 (evBin gAdd (evVar 6) (evLst (eaCons (evLst (eaCons (evK (.str s_1)) (eaCons (evK (.bl true)) eaNil))) (eaCons (evTup (eaCons (evTup (eaCons (evTup (eaCons (evTup (eaCons (evK (.int 1)) (eaCons (evK (.int 1)) eaNil))) eaNil)) (eaCons (evTup (eaCons (evK (.int 1)) (eaCons (evK (.int 1)) eaNil))) eaNil))) eaNil)) (eaCons (evVar 0) eaNil))))))
  (esSeq (esSet 7 (evTup (eaCons (evTup (eaCons (evTup (eaCons (evK (.int 1)) (eaCons (evK (.int 1)) eaNil))) eaNil)) (eaCons (evTup (eaCons (evTup (eaCons (evK (.int 2)) (eaCons (evK (.int 1)) eaNil))) eaNil)) eaNil))))
  (esSeq (esSet 5 (evBin gAdd (evVar 5) (evLst (eaCons (evCl true 3 E_ring_sum (eaCons (evVar 1) (eaCons (evK (.int 2)) (eaCons (evVar 7) eaNil)))) (eaCons (evCl true 3 E_ring_sum (eaCons (evVar 1) (eaCons (evK (.int 2)) (eaCons (evSl (evVar 7) eoN (eoS (evK (.int 1)))) eaNil)))) (eaCons (evKw true 3 0 3 E_ring_sum [2, 1, 0] eaNil (eaCons (evCl true 1 (E__law_lists 11) (eaCons (evVar 7) eaNil)) (eaCons (evK (.int 3)) (eaCons (evCl true 1 (E__law_lists 11) (eaCons (evVar 4) eaNil)) eaNil)))) (eaCons (evCl true 3 E_ring_sum (eaCons (evVar 2) (eaCons (evK (.int 3)) (eaCons (evVar 7) eaNil)))) eaNil)))))))
  (esSeq (esSet 6 (evBin gAdd (evVar 6) (evLst (eaCons (evTup (eaCons (evNeg (evK (.int 1))) (eaCons (evK (.int 1)) eaNil))) (eaCons (evTup (eaCons (evK (.int 0)) (eaCons (evK (.int 1)) eaNil))) (eaCons (evTup (eaCons (evK (.int 1)) (eaCons (evK (.int 1)) eaNil))) (eaCons (evTup (eaCons (evK (.int 0)) (eaCons (evK (.int 1)) eaNil))) eaNil)))))))
  (esSeq (esSet 5 (evBin gAdd (evVar 5) (evLst (eaCons (evCl true 3 E_form_ring (eaCons (evVar 0) (eaCons (evK (.int 2)) (eaCons (evK (.int 1)) eaNil)))) (eaCons (evKw true 3 0 3 E_form_ring [2, 1, 0] eaNil (eaCons (evK (.int 1)) (eaCons (evK (.int 3)) (eaCons (evCl true 1 (E__law_lists 11) (eaCons (evVar 2) eaNil)) eaNil)))) (eaCons (evCl true 3 E_form_ring (eaCons (evTup eaNil) (eaCons (evK (.int 1)) (eaCons (evK (.int 2)) eaNil)))) eaNil))))))
  (esSeq (esIf (etNot (etTru (evCl true 2 (E__law_same 11) (eaCons (evVar 5) (eaCons (evBin gAdd (evVar 6) (evLst (eaCons (evK .non) (eaCons (evK .non) (eaCons (evK .non) eaNil))))) eaNil)))))
  (esRet (evK (.bl false)))
  esNil)
  (esSeq (esFor 100000 (eiSeq2 (evTup (eaCons (evTup (eaCons (evVar 1) (eaCons (evK (.int 2)) eaNil))) (eaCons (evTup (eaCons (evVar 4) (eaCons (evK (.int 3)) eaNil))) (eaCons (evTup (eaCons (evTup (eaCons (evTup (eaCons (evTup (eaCons (evTup (eaCons (evK (.int 0)) eaNil)) (eaCons (evTup (eaCons (evK (.int 0)) eaNil)) eaNil))) (eaCons (evTup (eaCons (evK (.int 1)) (eaCons (evK (.int 1)) eaNil))) eaNil))) eaNil)) (eaCons (evK (.int 2)) eaNil))) (eaCons (evTup (eaCons (evTup (eaCons (evTup (eaCons (evTup (eaCons (evTup (eaCons (evK (.int 1)) eaNil)) eaNil)) (eaCons (evTup (eaCons (evK (.int 1)) (eaCons (evK (.int 1)) eaNil))) eaNil))) eaNil)) (eaCons (evK (.int 1)) eaNil))) eaNil)))))) (tgAny 2 (tgCons (tgName 8) (tgCons (tgName 9) tgNil)))
  (esSeq (esSet 10 (evCl true 3 E_form_ring (eaCons (evVar 8) (eaCons (evVar 9) (eaCons (evK (.int 1)) eaNil)))))
  (esIf (etOr (etNot (etTru (evCl true 2 E__law_are_rows (eaCons (evVar 10) (eaCons (evK (.int 1)) eaNil))))) (etBin gEq (evBin gIx2 (evCl true 3 E__law_round (eaCons (evVar 8) (eaCons (evVar 9) (eaCons (evVar 10) eaNil)))) (evK (.int 0))) (evK (.int 0))))
  (esRet (evK (.bl false)))
  esNil)))
  (esRet (evK (.bl true)))))))))))))))))
noncomputable def E__law_forms_right : Fn := evFun B__law_forms_right 11
theorem ok__law_forms_right (Fx : Facts G mg) : Def G G.P G.w mg base 16 "_law_forms_right" [] 0 E__law_forms_right := by
  obtain ⟨f, fd, F, m, b⟩ := Fx.d__law_forms_right
  refine def_mk F (fn_ok (k := 15) F sc__law_forms_right B__law_forms_right (fun cdv A outer s H E hr => ?_)) rfl m b
  have hx : Okx G (cxB G.P G.w G.K mg base N__law_forms_right "_law_forms_right" (defScope st__law_forms_right) f cdv A outer s H E) := ⟨rfl, rfl, un_of hr, rfl, rfl⟩
  have hd : Dfx (cxB G.P G.w G.K mg base N__law_forms_right "_law_forms_right" (defScope st__law_forms_right) f cdv A outer s H E) := ⟨rfl, rfl⟩
  have tk : Takes (cxB G.P G.w G.K mg base N__law_forms_right "_law_forms_right" (defScope st__law_forms_right) f cdv A outer s H E) (WE' E) := takes_of rfl rfl rfl rfl
  have po := passes_of (X := cxB G.P G.w G.K mg base N__law_forms_right "_law_forms_right" (defScope st__law_forms_right) f cdv A outer s H E) rfl
  exact (ss_cons (ss_asg (se_tup (sa_cons (se_tup (sa_cons (se_tup (sa_cons (se_tup (sa_cons (se_tup (sa_cons si sa_nil)) (sa_cons (se_tup (sa_cons si sa_nil)) sa_nil))) (sa_cons (se_tup (sa_cons si (sa_cons si sa_nil))) sa_nil))) (sa_cons (se_tup (sa_cons (se_tup (sa_cons (se_tup (sa_cons si sa_nil)) (sa_cons (se_tup (sa_cons si sa_nil)) sa_nil))) (sa_cons (se_tup (sa_cons (se_neg si) (sa_cons si sa_nil))) sa_nil))) sa_nil))) (sa_cons (se_tup (sa_cons (se_tup (sa_cons (se_tup (sa_cons (se_tup (sa_cons si sa_nil)) (sa_cons (se_tup (sa_cons si sa_nil)) sa_nil))) (sa_cons (se_tup (sa_cons si (sa_cons si sa_nil))) sa_nil))) (sa_cons (se_tup (sa_cons (se_tup (sa_cons (se_tup (sa_cons si sa_nil)) (sa_cons (se_tup (sa_cons si sa_nil)) sa_nil))) (sa_cons (se_tup (sa_cons (se_neg si) (sa_cons si sa_nil))) sa_nil))) sa_nil))) sa_nil))) (tg_any hx (tgs_cons (tg_name (pg_name (i := 0) sc__law_forms_right.nd rfl (by first | exact Or.inl rfl | exact Or.inr rfl))) (tgs_cons (tg_name (pg_name (i := 1) sc__law_forms_right.nd rfl (by first | exact Or.inl rfl | exact Or.inr rfl))) tgs_nil))))
  (ss_cons (ss_set (i := 2) sc__law_forms_right.nd rfl (by first | exact Or.inl rfl | exact Or.inr rfl) (se_tup (sa_cons (se_tup (sa_cons (se_tup (sa_cons (se_tup (sa_cons si sa_nil)) (sa_cons (se_tup (sa_cons si sa_nil)) (sa_cons (se_tup (sa_cons si sa_nil)) sa_nil)))) (sa_cons (se_tup (sa_cons si (sa_cons si sa_nil))) sa_nil))) (sa_cons (se_tup (sa_cons (se_tup (sa_cons (se_tup (sa_cons si sa_nil)) (sa_cons (se_tup (sa_cons si sa_nil)) (sa_cons (se_tup (sa_cons si sa_nil)) sa_nil)))) (sa_cons (se_tup (sa_cons (se_neg si) (sa_cons si sa_nil))) sa_nil))) (sa_cons (se_tup (sa_cons (se_tup (sa_cons (se_tup (sa_cons si sa_nil)) (sa_cons (se_tup (sa_cons si sa_nil)) (sa_cons (se_tup (sa_cons si sa_nil)) sa_nil)))) (sa_cons (se_tup (sa_cons si (sa_cons si sa_nil))) sa_nil))) sa_nil)))))
  (ss_cons (ss_set (i := 3) sc__law_forms_right.nd rfl (by first | exact Or.inl rfl | exact Or.inr rfl) (se_tup (sa_cons (se_tup (sa_cons (se_tup (sa_cons (se_tup (sa_cons si (sa_cons si sa_nil))) (sa_cons (se_tup (sa_cons si (sa_cons si sa_nil))) sa_nil))) (sa_cons (se_tup (sa_cons si (sa_cons si sa_nil))) sa_nil))) (sa_cons (se_tup (sa_cons (se_tup (sa_cons (se_tup (sa_cons si (sa_cons si sa_nil))) (sa_cons (se_tup (sa_cons si (sa_cons si sa_nil))) sa_nil))) (sa_cons (se_tup (sa_cons (se_neg si) (sa_cons si sa_nil))) sa_nil))) sa_nil))))
  (ss_cons (ss_set (i := 4) sc__law_forms_right.nd rfl (by first | exact Or.inl rfl | exact Or.inr rfl) (se_tup (sa_cons (se_tup (sa_cons (se_tup (sa_cons (se_tup (sa_cons si sa_nil)) (sa_cons (se_tup (sa_cons si sa_nil)) (sa_cons (se_tup (sa_cons si sa_nil)) sa_nil)))) (sa_cons (se_tup (sa_cons si (sa_cons si sa_nil))) sa_nil))) (sa_cons (se_tup (sa_cons (se_tup (sa_cons (se_tup (sa_cons si sa_nil)) (sa_cons (se_tup (sa_cons si sa_nil)) (sa_cons (se_tup (sa_cons si sa_nil)) sa_nil)))) (sa_cons (se_tup (sa_cons (se_neg si) (sa_cons si sa_nil))) sa_nil))) sa_nil))))
  (ss_cons (ss_setLx (i := 5) (own := [("own", 8), ("n_so", 9)]) hd tk hx.calm sc__law_forms_right.nd rfl rfl (sw_true rfl rfl rfl (by decide +kernel)) (si_seq2 hx (se_tup (sa_cons (se_tup (sa_cons (sv 0) (sa_cons si sa_nil))) (sa_cons (se_tup (sa_cons (sv 1) (sa_cons si sa_nil))) (sa_cons (se_tup (sa_cons (sv 2) (sa_cons si sa_nil))) (sa_cons (se_tup (sa_cons (sv 4) (sa_cons si sa_nil))) (sa_cons (se_tup (sa_cons (se_tup sa_nil) (sa_cons si sa_nil))) (sa_cons (se_tup (sa_cons (se_tup sa_nil) (sa_cons si sa_nil))) (sa_cons (se_tup (sa_cons (se_tup (sa_cons (se_tup (sa_cons (se_tup (sa_cons (se_tup (sa_cons si sa_nil)) sa_nil)) (sa_cons (se_tup (sa_cons si (sa_cons si sa_nil))) sa_nil))) sa_nil)) (sa_cons si sa_nil))) sa_nil))))))))) (blkOk_by (N := N__law_forms_right) (sc := defScope st__law_forms_right) (own := [("own", 8), ("n_so", 9)]) (by decide +kernel)) (kk_tup (K := G.K) rfl (kks_cons (kk_name 8) (kks_cons (kk_name 9) kks_nil))) (by decide) (fun _ _ _ _ _ _ => (pg_tup hx.calm (pgs_cons (pg_name (i := 8) sc__law_forms_right.nd rfl (by first | exact Or.inl rfl | exact Or.inr rfl)) (pgs_cons (pg_name (i := 9) sc__law_forms_right.nd rfl (by first | exact Or.inl rfl | exact Or.inr rfl)) pgs_nil)))) (fun _ _ _ _ _ _ _ tk => sts_nil) (fun _ _ _ _ _ _ _ tk => (se_cl true (hx.blk) (ok__law_heard Fx) (hr.mono (by decide)) (by rfl) tk (sa_cons si (sa_cons (sv 8) (sa_cons (sv 9) sa_nil))))))
  (ss_cons (ss_set (i := 6) sc__law_forms_right.nd rfl (by first | exact Or.inl rfl | exact Or.inr rfl) (se_lst (sa_cons (se_tup (sa_cons (se_tup (sa_cons (se_tup (sa_cons (se_tup (sa_cons si sa_nil)) sa_nil)) (sa_cons (se_tup (sa_cons si (sa_cons si sa_nil))) sa_nil))) sa_nil)) (sa_cons (se_lst (sa_cons (se_str s_1_eq) (sa_cons (se_k pe_bl) sa_nil))) (sa_cons (sv 0) (sa_cons (se_lst (sa_cons (se_str s_1_eq) (sa_cons (se_k pe_bl) sa_nil))) (sa_cons (se_tup sa_nil) (sa_cons (se_tup sa_nil) (sa_cons (se_lst (sa_cons (se_str s_1_eq) (sa_cons (se_k pe_bl) sa_nil))) sa_nil)))))))))
  (ss_cons (ss_set (i := 5) sc__law_forms_right.nd rfl (by first | exact Or.inl rfl | exact Or.inr rfl) (se_bop (ox_add hx) (sv 5) (se_lst (sa_cons (se_cl true hx (ok__law_heard Fx) (hr.mono (by decide)) (by rfl) tk (sa_cons si (sa_cons (se_tup (sa_cons (se_tup (sa_cons (se_tup (sa_cons (se_tup (sa_cons si sa_nil)) (sa_cons (se_tup (sa_cons si sa_nil)) sa_nil))) (sa_cons (se_tup (sa_cons si (sa_cons si sa_nil))) sa_nil))) sa_nil)) (sa_cons si sa_nil)))) (sa_cons (se_cl true hx (ok_form_store Fx) (hr.mono (by decide)) (by rfl) tk (sa_cons (sv 3) (sa_cons si (sa_cons si sa_nil)))) (sa_cons (se_kw0 true hx (kw_10 Fx) (hr.mono (by decide)) (by rfl) tk (sk_cons si (sk_cons si (sk_cons (se_cl true hx (ok__law_lists Fx) (hr.mono (by decide)) (by rfl) tk (sa_cons (sv 2) sa_nil)) sk_nil)))) sa_nil))))))
  (ss_cons (ss_set (i := 6) sc__law_forms_right.nd rfl (by first | exact Or.inl rfl | exact Or.inr rfl) (se_bop (ox_add hx) (sv 6) (se_lst (sa_cons (se_lst (sa_cons (se_str s_1_eq) (sa_cons (se_k pe_bl) sa_nil))) (sa_cons (se_tup (sa_cons (se_tup (sa_cons (se_tup (sa_cons (se_tup (sa_cons si (sa_cons si sa_nil))) sa_nil)) (sa_cons (se_tup (sa_cons si (sa_cons si sa_nil))) sa_nil))) sa_nil)) (sa_cons (sv 0) sa_nil))))))
  (ss_cons (ss_set (i := 7) sc__law_forms_right.nd rfl (by first | exact Or.inl rfl | exact Or.inr rfl) (se_tup (sa_cons (se_tup (sa_cons (se_tup (sa_cons si (sa_cons si sa_nil))) sa_nil)) (sa_cons (se_tup (sa_cons (se_tup (sa_cons si (sa_cons si sa_nil))) sa_nil)) sa_nil))))
  (ss_cons (ss_set (i := 5) sc__law_forms_right.nd rfl (by first | exact Or.inl rfl | exact Or.inr rfl) (se_bop (ox_add hx) (sv 5) (se_lst (sa_cons (se_cl true hx (ok_ring_sum Fx) (hr.mono (by decide)) (by rfl) tk (sa_cons (sv 1) (sa_cons si (sa_cons (sv 7) sa_nil)))) (sa_cons (se_cl true hx (ok_ring_sum Fx) (hr.mono (by decide)) (by rfl) tk (sa_cons (sv 1) (sa_cons si (sa_cons (se_sl hx (sv 7) so_none (so_some si)) sa_nil)))) (sa_cons (se_kw0 true hx (kw_11 Fx) (hr.mono (by decide)) (by rfl) tk (sk_cons (se_cl true hx (ok__law_lists Fx) (hr.mono (by decide)) (by rfl) tk (sa_cons (sv 7) sa_nil)) (sk_cons si (sk_cons (se_cl true hx (ok__law_lists Fx) (hr.mono (by decide)) (by rfl) tk (sa_cons (sv 4) sa_nil)) sk_nil)))) (sa_cons (se_cl true hx (ok_ring_sum Fx) (hr.mono (by decide)) (by rfl) tk (sa_cons (sv 2) (sa_cons si (sa_cons (sv 7) sa_nil)))) sa_nil)))))))
  (ss_cons (ss_set (i := 6) sc__law_forms_right.nd rfl (by first | exact Or.inl rfl | exact Or.inr rfl) (se_bop (ox_add hx) (sv 6) (se_lst (sa_cons (se_tup (sa_cons (se_neg si) (sa_cons si sa_nil))) (sa_cons (se_tup (sa_cons si (sa_cons si sa_nil))) (sa_cons (se_tup (sa_cons si (sa_cons si sa_nil))) (sa_cons (se_tup (sa_cons si (sa_cons si sa_nil))) sa_nil)))))))
  (ss_cons (ss_set (i := 5) sc__law_forms_right.nd rfl (by first | exact Or.inl rfl | exact Or.inr rfl) (se_bop (ox_add hx) (sv 5) (se_lst (sa_cons (se_cl true hx (ok_form_ring Fx) (hr.mono (by decide)) (by rfl) tk (sa_cons (sv 0) (sa_cons si (sa_cons si sa_nil)))) (sa_cons (se_kw0 true hx (kw_12 Fx) (hr.mono (by decide)) (by rfl) tk (sk_cons si (sk_cons si (sk_cons (se_cl true hx (ok__law_lists Fx) (hr.mono (by decide)) (by rfl) tk (sa_cons (sv 2) sa_nil)) sk_nil)))) (sa_cons (se_cl true hx (ok_form_ring Fx) (hr.mono (by decide)) (by rfl) tk (sa_cons (se_tup sa_nil) (sa_cons si (sa_cons si sa_nil)))) sa_nil))))))
  (ss_cons (ss_if (st_not (st_tru hx.k (se_cl true hx (ok__law_same Fx) (hr.mono (by decide)) (by rfl) tk (sa_cons (sv 5) (sa_cons (se_bop (ox_add hx) (sv 6) (se_lst (sa_cons (se_k pe_non) (sa_cons (se_k pe_non) (sa_cons (se_k pe_non) sa_nil))))) sa_nil))) (fun _ => rfl)))
  (ss_one (ss_ret (se_k pe_bl)))
  ss_nil)
  (ss_cons (ss_for po hx.calm (si_seq2 hx (se_tup (sa_cons (se_tup (sa_cons (sv 1) (sa_cons si sa_nil))) (sa_cons (se_tup (sa_cons (sv 4) (sa_cons si sa_nil))) (sa_cons (se_tup (sa_cons (se_tup (sa_cons (se_tup (sa_cons (se_tup (sa_cons (se_tup (sa_cons si sa_nil)) (sa_cons (se_tup (sa_cons si sa_nil)) sa_nil))) (sa_cons (se_tup (sa_cons si (sa_cons si sa_nil))) sa_nil))) sa_nil)) (sa_cons si sa_nil))) (sa_cons (se_tup (sa_cons (se_tup (sa_cons (se_tup (sa_cons (se_tup (sa_cons (se_tup (sa_cons si sa_nil)) sa_nil)) (sa_cons (se_tup (sa_cons si (sa_cons si sa_nil))) sa_nil))) sa_nil)) (sa_cons si sa_nil))) sa_nil)))))) (tg_any hx (tgs_cons (tg_name (pg_name (i := 8) sc__law_forms_right.nd rfl (by first | exact Or.inl rfl | exact Or.inr rfl))) (tgs_cons (tg_name (pg_name (i := 9) sc__law_forms_right.nd rfl (by first | exact Or.inl rfl | exact Or.inr rfl))) tgs_nil)))
  (ss_cons (ss_set (i := 10) sc__law_forms_right.nd rfl (by first | exact Or.inl rfl | exact Or.inr rfl) (se_cl true hx (ok_form_ring Fx) (hr.mono (by decide)) (by rfl) tk (sa_cons (sv 8) (sa_cons (sv 9) (sa_cons si sa_nil)))))
  (ss_one (ss_if (st_w (sw_or (st_not (st_tru hx.k (se_cl true hx (ok__law_are_rows Fx) (hr.mono (by decide)) (by rfl) tk (sa_cons (sv 10) (sa_cons si sa_nil))) (fun _ => rfl))) (sw_or1 (st_cop (ox_eq hx) (se_ix2 hx (se_cl true hx (ok__law_round Fx) (hr.mono (by decide)) (by rfl) tk (sa_cons (sv 8) (sa_cons (sv 9) (sa_cons (sv 10) sa_nil)))) si (fun _ _ => rfl)) si rfl))))
  (ss_one (ss_ret (se_k pe_bl)))
  ss_nil))))
  (ss_one (ss_ret (se_k pe_bl)))))))))))))))))
noncomputable def B_pre : Evs := (esIf (etOr (etNot (etTru (evCl true 0 E__law_rings_right eaNil))) (etNot (etTru (evCl true 0 E__law_stores_right eaNil))))
  (esRet (evK (.bl false)))
  esNil)
theorem ev_pre (a : Addr) : B_pre [some (.k (.ref a)), none] ⟨0, []⟩ = .ok (.nx [some (.k (.ref a)), none]) ⟨0, []⟩ := by kernel_rfl
noncomputable def B_law : Evs := (esSeq (esIf (etBin gEq (evVar 1) (evK (.int 0)))
  (esRet (evCl true 0 E__law_things_right eaNil))
  esNil)
  (esRet (evIf (etBin gEq (evVar 1) (evK (.int 1))) (evCl true 0 E__law_most_right eaNil) (evCl true 0 E__law_forms_right eaNil))))
noncomputable def allB (f : Nat → Bool) (n : Nat) : Bool := Nat.rec (motive := fun _ => Bool) true (fun m ih => match f m with
  | true => ih
  | false => false) n
noncomputable def okW (w : W) : Bool := match w with
  | .k v => match v with
    | .bl b => b
    | _ => false
  | _ => false
noncomputable def allT (m : Res W) : Bool := Res.rec (motive := fun _ => Bool) (fun a _ => okW a) (fun _ _ _ _ => false) (fun n _ ih => allB ih n) false m

noncomputable def kLaw : Fl → FH → Res W := fun r S => match r with
  | .rt w => .ok w S
  | _ => .stuck
noncomputable def kRest : W → FH → Res W := fun w S => (B_law [none, some w] S).bnd kLaw
noncomputable def runLaw : Res W := (E__law_take [.obj 0, .k (.int 3)] ⟨1, [(0, .urn 0)]⟩).bnd kRest
noncomputable def nthP (m : Res W) (r : Nat) : Res W := Res.rec (motive := fun _ => Res W) (fun _ _ => .stuck) (fun _ _ _ _ => .stuck) (fun _ f _ => f r) .stuck m
noncomputable def isP (n : Nat) (m : Res W) : Bool := Res.rec (motive := fun _ => Bool) (fun _ _ => false) (fun _ _ _ _ => false) (fun k _ _ => Nat.beq k n) false m
theorem allB_to {f : Nat → Bool} : ∀ {n : Nat}, (∀ r, r < n → f r = true) → allB f n = true
  | 0, _ => rfl
  | m + 1, h => by
    show (match f m with | true => allB f m | false => false) = true
    rw [h m (Nat.lt_succ_self m)]
    exact allB_to fun r hr => h r (Nat.lt_succ_of_lt hr)
theorem allT_nth {m : Res W} {n : Nat} (h : isP n m = true) (k : ∀ r, r < n → allT (nthP m r) = true) : allT m = true := by
  cases m with
  | pick q f =>
    have e : q = n := Nat.eq_of_beq_eq_true h
    subst e
    exact allB_to k
  | ok a S => cases (show false = true from h)
  | exc c x l S => cases (show false = true from h)
  | stuck => cases (show false = true from h)
theorem ev_law_0 : allT (nthP runLaw 0) = true := by decide +kernel
theorem ev_law_1 : allT (nthP runLaw 1) = true := by decide +kernel
theorem ev_law_2 : allT (nthP runLaw 2) = true := by decide +kernel
theorem ep_law : isP 3 runLaw = true := by decide +kernel
theorem ev_law : allT runLaw = true := allT_nth ep_law fun r hr => match r, hr with
  | 0, _ => ev_law_0
  | 1, _ => ev_law_1
  | 2, _ => ev_law_2
  | k + 3, h => absurd h (Nat.not_lt.mpr (Nat.le_add_left 3 k))
theorem allB_of {f : Nat → Bool} : ∀ {n : Nat}, allB f n = true → ∀ r, r < n → f r = true
  | 0, _, r, h => absurd h (Nat.not_lt_zero _)
  | m + 1, e, r, h => by
    have e' : (match f m with | true => allB f m | false => false) = true := e
    cases q : f m with
    | false => rw [q] at e'; cases e'
    | true =>
      rw [q] at e'
      by_cases z : r = m
      · rw [z]; exact q
      · exact allB_of e' r (by omega)
theorem post_allT {C : Cf} {W' : WX} : ∀ {m : Res W}, allT m = true → Post G W' C m fun w C' => w = W.k (.bl true)
  | .ok a S, h => by
    unfold Post
    intro C' _ _ _
    have h' : okW a = true := h
    unfold okW at h'
    split at h'
    · split at h'
      · rw [h']
      · cases h'
    · cases h'
  | .exc c x l S, h => by cases (show false = true from h)
  | .pick n f, h => by
    have h' : allB (fun r => allT (f r)) n = true := h
    unfold Post
    exact fun r hr => post_allT (allB_of h' r hr)
  | .stuck, h => by cases (show false = true from h)
theorem post_allB {α : Type} {C : Cf} {W' : WX} {k : α → FH → Res W} : ∀ {m : Res α}, allT (m.bnd k) = true → Post G W' C m fun a C1 => allT (k a C1.S) = true
  | .ok a S, h => by
    unfold Post
    intro C' e _ _
    rw [e]
    exact h
  | .exc c x l S, h => by cases (show false = true from h)
  | .pick n f, h => by
    have h' : allB (fun r => allT ((f r).bnd k)) n = true := h
    unfold Post
    exact fun r hr => post_allB (allB_of h' r hr)
  | .stuck, h => by cases (show false = true from h)
def spLaw (K : PySem.W.Frag) : Sp := fun vs H Q _ => ∃ (a : Addr) (ns : List Int), vs = [.ref a] ∧ SqL K H a (ns.map V.int) ∧ ns.length ≤ 63 ∧ ∀ H', Q (.bl true) H'
theorem rl_none {C : Cf} {σ : L2.St} {n : Nat} (h : σ.length = n) : RL G C (List.replicate n none) σ := ⟨by simp [h], fun i w e => by
  rw [List.getElem?_replicate] at e
  split at e <;> cases e⟩
theorem fn_law (Fx : Facts G mg) {f : Addr} {fd : FuncData} (F : Fun G.K "law" "law" st_law f fd) : FnOk G.P G.w G.K mg base (L2.CX G.P G.w) 17 f fd ["script"] (spLaw G.K) := by
  obtain ⟨fB, fdB, FB, mB, bB⟩ := Fx.d__law_box
  obtain ⟨fC, fdC, FC, mC, bC⟩ := Fx.d__law_cells
  have GB : FnOk G.P G.w G.K mg base (L2.CX G.P G.w) 1 fB fdB ["script", "k"] (spBox G.K) := fn_box FB Fx.n_int Fx.n_len Fx.n_abs
  have GC : FnOk G.P G.w G.K mg base (L2.CX G.P G.w) 1 fC fdC ["script", "top_so"] (spCells G.K) := fn_cells FC Fx.n_int Fx.n_list Fx.n_enumerate
  refine F.okX sc_law (fun vs H Q E h => ?_) (fun cdv A outer s H vs Q E hr h => ?_)
  · obtain ⟨a, ns, rfl, _⟩ := h
    rfl
  obtain ⟨a, ns, rfl, hS, h63, fin⟩ := h
  have hx : Okx G (cxB G.P G.w G.K mg base N_law "law" (defScope st_law) f cdv A outer s H E) := ⟨rfl, rfl, un_of hr, rfl, rfl⟩
  have hd : Dfx (cxB G.P G.w G.K mg base N_law "law" (defScope st_law) f cdv A outer s H E) := ⟨rfl, rfl⟩
  have tk : Takes (cxB G.P G.w G.K mg base N_law "law" (defScope st_law) f cdv A outer s H E) (WE' E) := takes_of rfl rfl rfl rfl
  have po := passes_of (X := (cxB G.P G.w G.K mg base N_law "law" (defScope st_law) f cdv A outer s H E)) rfl
  have der : SSs G (cxB G.P G.w G.K mg base N_law "law" (defScope st_law) f cdv A outer s H E) (WE' E) B_law (defBody st_law).tail.tail := (ss_cons (ss_if (st_cop (ox_eq hx) (sv 1) si rfl)
  (ss_one (ss_ret (se_cl0 true hx (ok__law_things_right Fx) (hr.mono (by decide)) (by rfl) tk)))
  ss_nil)
  (ss_one (ss_ret (se_if (st_cop (ox_eq hx) (sv 1) si rfl) (se_cl0 true hx (ok__law_most_right Fx) (hr.mono (by decide)) (by rfl) tk) (se_cl0 true hx (ok__law_forms_right Fx) (hr.mono (by decide)) (by rfl) tk)))))
  have der0 : SS G (cxB G.P G.w G.K mg base N_law "law" (defScope st_law) f cdv A outer s H E) (WE' E) B_pre ((defBody st_law).headD (.Pass ⟨0, 0, 0, 0⟩)) := (ss_if (st_w (sw_or (st_not (st_tru hx.k (se_cl0 true hx (ok__law_rings_right Fx) (hr.mono (by decide)) (by rfl) tk) (fun _ => rfl))) (sw_or1 (st_not (st_tru hx.k (se_cl0 true hx (ok__law_stores_right Fx) (hr.mono (by decide)) (by rfl) tk) (fun _ => rfl))))))
  (ss_one (ss_ret (se_k pe_bl)))
  ss_nil)
  obtain ⟨fT, fdT, GT, hlT, mT, kT, bT, _⟩ := (ok__law_take Fx).ex
  refine ⟨_, pss_cons der0 (pss_cons (ps_set (i := 1) sc_law.nd rfl (by first | exact Or.inl rfl | exact Or.inr rfl) (pe_callSD (dvs := []) (ds := []) (E := fun σ => L2.WE (WE' E) σ) GT (hr.mono (by decide)) (by rfl) mT kT bT .nil (fun σ => L2.passAt tk σ) (pa_cons (pe_callSD (dvs := []) (ds := []) (E := fun σ => L2.WE (WE' E) σ) GB (hr.mono (by decide)) (by rfl) mB FB.kp bB .nil (fun σ => L2.passAt tk σ) (pa_cons (pe_callSD (dvs := []) (ds := []) (E := fun σ => L2.WE (WE' E) σ) GC (hr.mono (by decide)) (by rfl) mC FC.kp bC .nil (fun σ => L2.passAt tk σ) (pa_cons (pv 0) (pa_cons pe_int pa_nil))) (pa_cons pe_int pa_nil))) (pa_cons pe_int pa_nil)))) der), ?_⟩
  have r0 : RL G ⟨[], H, ⟨0, []⟩⟩ [some (.k (.ref a)), none] (L2.start N_law [.ref a]) := RL.set (i := 0) (rl_none (n := 2) (σ := L2.start N_law [.ref a]) rfl) (w := .k (.ref a)) (v := .ref a) mk_k
  refine ⟨⟨[], H, ⟨0, []⟩⟩, [some (.k (.ref a)), none], rfl, Cf.zero_ok, r0, ?_⟩
  rw [ev_pre a]
  refine Post.ok_.mpr fun C0 _ ok0 x0 σ1 rl1 => ?_
  obtain ⟨va, ea, eb⟩ := rl1.at_ 0 (.k (.ref a)) rfl
  obtain rfl := rw_k eb
  have hS1 : SqL G.K C0.H a (ns.map V.int) := by
    rcases hS with (h | ⟨o, h⟩) | h
    · exact .inl (.inl (x0.keep a _ h fun i v q => nomatch q))
    · exact .inl (.inr ⟨o, x0.frz a o _ h⟩)
    · exact .inr h
  refine ⟨_, ea, a, ns, 1, rfl, hS1, h63, by decide, by decide, fun p ms H' hp hp1 hne hle hk => ⟨p, ms, 0, rfl, SqL.of hp1, by decide, by decide, fun u x y hu hy0 hy1 => ?_⟩⟩
  obtain ⟨ok1, x1, h1⟩ := Cf.alloc (C := ⟨[], H', ⟨0, []⟩⟩) (v := .urn 0) (o := .lst [.int x, .int y, .int 0]) Cf.zero_ok hu ⟨x, y, 0, rfl, hy0, hy1, by decide, by decide⟩
  refine ⟨rfl, ⟨[] ++ [u], upd H' u (.lst [.int x, .int y, .int 0]), (FH.mk 0 []).new (.urn 0)⟩, [.obj 0, .k (.int 3)], rfl, ok1, .cons (by unfold RW; exact ⟨u, rfl, h1⟩) (.cons mk_k .nil), ?_⟩
  have z : allT (((E__law_take [.obj 0, .k (.int 3)] ⟨1, [(0, .urn 0)]⟩).bnd kRest)) = true := ev_law
  refine Post.mono (fun w C2 ok2 x2 h2 v rv => ?_) (post_allB z)
  have r2 : RL G C2 [none, some w] _ := RL.set (i := 1) (rl_none (n := 2) (σ := σ1) (by rw [← rl1.len]; rfl)) (w := w) (v := v) rv
  refine ⟨C2, [none, some w], rfl, ok2, r2, ?_⟩
  have ev := post_allT (G := G) (C := C2) (W' := WE' E) h2
  unfold kRest at ev
  have ev2 := Post.bnd (m := B_law [none, some w] C2.S) (k := kLaw) ev
  refine Post.mono (fun r C1 okC xC pC => ?_) ev2
  cases r with
  | rt w =>
    have e := Post.now (W' := WE' E) okC pC
    intro v rv
    rw [e] at rv
    rw [rw_k rv]
    exact fin _
  | nx l => exact post_stuck pC
  | bk l => exact post_stuck pC
  | ct l => exact post_stuck pC
end
theorem fd_mk {K : PySem.W.Frag} {h : Heap} {mg : Str → Option Value} (X : K.In h) (Gn : h.Ns mainGlobals mg) {x : Str} {st : Stmt} {ps : List Str} {f : Addr} {oc : Value} {od an : Option Addr} {osl : Array (Option Value)} {kV doc pm cdv ct : Value}
    (a : PySem.W.nsIn K mainGlobals x = some (some (.ref f))) (l : K.lookup f = some ⟨oc, od, .func (PySem.W.fnOf x x (defArgs st) (defBody st) (defScope st) .none kV doc pm an cdv ct), osl⟩) (c : PySem.W.codeIn K cdv x = true) (k : PySem.W.keepIn K (.ref f) = true)
    (hb : ∀ (kV doc pm : Value) (an : Option Addr) (cdv ct : Value) (us : List Value), us.length = ps.length → bindArgs (PySem.W.fnOf x x (defArgs st) (defBody st) (defScope st) .none kV doc pm an cdv ct) ⟨us, []⟩ = pure (ps.zip us)) : Fd K mg st x ps :=
  ⟨f, _, fun_mk l c k, PySem.W.mg_of X Gn a, (fun_mk l c k).binds hb⟩
theorem fd_mkA {K : PySem.W.Frag} {h : Heap} {mg : Str → Option Value} (X : K.In h) (Gn : h.Ns mainGlobals mg) {nm x : Str} {st : Stmt} {ps : List Str} {f : Addr} {oc : Value} {od an : Option Addr} {osl : Array (Option Value)} {kV doc pm cdv ct : Value}
    (a : PySem.W.nsIn K mainGlobals x = some (some (.ref f))) (l : K.lookup f = some ⟨oc, od, .func (PySem.W.fnOf nm nm (defArgs st) (defBody st) (defScope st) .none kV doc pm an cdv ct), osl⟩) (c : PySem.W.codeIn K cdv nm = true) (k : PySem.W.keepIn K (.ref f) = true)
    (hb : ∀ (kV doc pm : Value) (an : Option Addr) (cdv ct : Value) (us : List Value), us.length = ps.length → bindArgs (PySem.W.fnOf nm nm (defArgs st) (defBody st) (defScope st) .none kV doc pm an cdv ct) ⟨us, []⟩ = pure (ps.zip us)) : FdA K mg st nm x ps :=
  ⟨f, _, fun_mk l c k, PySem.W.mg_of X Gn a, (fun_mk l c k).binds hb⟩
theorem q_mk2 {K : PySem.W.Frag} {h : Heap} {mg : Str → Option Value} (X : K.In h) (Gn : h.Ns mainGlobals mg) {x : Str} {A : Addr} {i j : Int} {t u : Tok} {dd : Option Addr} {n : Nat} {sl : Array (Option Value)}
    (a : PySem.W.nsIn K mainGlobals x = some (some (.ref A))) (l : K.lookup A = some ⟨.type "tuple", dd, .seq #[.int i t, .int j u] n, sl⟩) : ∃ v u, mg x = some u ∧ RelV v u ∧ ∀ ρ H, RW K ρ H (W.tup [W.k (.int i), W.k (.int j)]) v := by
  refine ⟨.ref A, .ref A, PySem.W.mg_of X Gn a, rfl, fun ρ H => ?_⟩
  unfold RW
  refine ⟨A, [.int i, .int j], rfl, .inr ⟨_, _, _, l, rfl, rfl, (by show 2 ≤ sizeLine; rw [sizeLine_eq]; omega), .cons ⟨t, rfl⟩ (.cons ⟨u, rfl⟩ .nil)⟩, .cons mk_k (.cons mk_k .nil)⟩
theorem q_mkP2 {K : PySem.W.Frag} {h : Heap} {mg : Str → Option Value} (X : K.In h) (Gn : h.Ns mainGlobals mg) {x : Str} {A B C : Addr} {i j k l : Int} {t1 t2 t3 t4 : Tok} {d1 d2 d3 : Option Addr} {n1 n2 n3 : Nat} {s1 s2 s3 : Array (Option Value)}
    (a : PySem.W.nsIn K mainGlobals x = some (some (.ref A))) (l1 : K.lookup A = some ⟨.type "tuple", d1, .seq #[.ref B, .ref C] n1, s1⟩) (l2 : K.lookup B = some ⟨.type "tuple", d2, .seq #[.int i t1, .int j t2] n2, s2⟩)
    (l3 : K.lookup C = some ⟨.type "tuple", d3, .seq #[.int k t3, .int l t4] n3, s3⟩) : ∃ v u, mg x = some u ∧ RelV v u ∧ ∀ ρ H, RW K ρ H (W.tup [W.tup [W.k (.int i), W.k (.int j)], W.tup [W.k (.int k), W.k (.int l)]]) v := by
  refine ⟨.ref A, .ref A, PySem.W.mg_of X Gn a, rfl, fun ρ H => ?_⟩
  unfold RW
  refine ⟨A, [.ref B, .ref C], rfl, .inr ⟨_, _, _, l1, rfl, rfl, (by show 2 ≤ sizeLine; rw [sizeLine_eq]; omega), .cons rfl (.cons rfl .nil)⟩, .cons ?_ (.cons ?_ .nil)⟩
  · unfold RW
    exact ⟨B, [.int i, .int j], rfl, .inr ⟨_, _, _, l2, rfl, rfl, (by show 2 ≤ sizeLine; rw [sizeLine_eq]; omega), .cons ⟨t1, rfl⟩ (.cons ⟨t2, rfl⟩ .nil)⟩, .cons mk_k (.cons mk_k .nil)⟩
  · unfold RW
    exact ⟨C, [.int k, .int l], rfl, .inr ⟨_, _, _, l3, rfl, rfl, (by show 2 ≤ sizeLine; rw [sizeLine_eq]; omega), .cons ⟨t3, rfl⟩ (.cons ⟨t4, rfl⟩ .nil)⟩, .cons mk_k (.cons mk_k .nil)⟩
theorem kdr_some {K : PySem.W.Frag} {w : World} {p : Addr} {z : Str} {i : Int} {t : Tok} {es : Array DictEntry} {n : Nat} (l : K.lookup p = some ⟨.type "dict", none, .dict es n, #[]⟩) (k : PySem.W.KeysLit w.params es.toList) (o : (p == sysModules) = false) (e : PySem.W.nsIn K p z = some (some (.int i t))) : KDr K w p z (some i) := ⟨es, n, l, k, o, _, e, t, rfl⟩
theorem kdr_none {K : PySem.W.Frag} {w : World} {p : Addr} {z : Str} {es : Array DictEntry} {n : Nat} (l : K.lookup p = some ⟨.type "dict", none, .dict es n, #[]⟩) (k : PySem.W.KeysLit w.params es.toList) (o : (p == sysModules) = false) (e : PySem.W.nsIn K p z = some none) : KDr K w p z none := ⟨es, n, l, k, o, _, e, rfl⟩
theorem kdt_nil {K : PySem.W.Frag} {w : World} {p : Addr} : KDt K w p [] := fun _ h => nomatch h
theorem kdt_cons {K : PySem.W.Frag} {w : World} {p : Addr} {e : Str × Option Int} {r : List (Str × Option Int)} (h : KDr K w p e.1 e.2) (t : KDt K w p r) : KDt K w p (e :: r) := fun x hx => by
  rcases List.mem_cons.mp hx with rfl | hx
  · exact h
  · exact t x hx
theorem q_mkI {K : PySem.W.Frag} {h : Heap} {mg : Str → Option Value} (X : K.In h) (Gn : h.Ns mainGlobals mg) {x : Str} {i : Int} {t : Tok}
    (a : PySem.W.nsIn K mainGlobals x = some (some (.int i t))) : ∃ v u, mg x = some u ∧ RelV v u ∧ ∀ ρ H, RW K ρ H (W.k (.int i)) v := ⟨.int i, _, PySem.W.mg_of X Gn a, ⟨t, rfl⟩, fun _ _ => mk_k⟩
theorem q_mkS {K : PySem.W.Frag} {h : Heap} {mg : Str → Option Value} {s : Str} (X : K.In h) (Gn : h.Ns mainGlobals mg) {x : Str} {t : Tok}
    (a : PySem.W.nsIn K mainGlobals x = some (some (.str s t))) : ∃ v u, mg x = some u ∧ RelV v u ∧ ∀ ρ H, RW K ρ H (W.k (.str s)) v := ⟨.str s, _, PySem.W.mg_of X Gn a, ⟨t, rfl⟩, fun _ _ => mk_k⟩

structure Clf (G : Glo) (mg : Str → Option Value) : Prop where
  x_CanNot : (Exc0 G mg 0 "CanNot")
  e_CanNot : ExcC G.K (G.cad 0)
  x_Unfit : (Exc0 G mg 1 "Unfit")
  e_Unfit : ExcC G.K (G.cad 1)
  t_CanNot_CanNot : PySem.W.exmOne G.K (.ref (G.cad 0)) (.ref (G.cad 0)) = some true
  t_Unfit_CanNot : PySem.W.exmOne G.K (.ref (G.cad 1)) (.ref (G.cad 0)) = some false
  t_CanNot_Unfit : PySem.W.exmOne G.K (.ref (G.cad 0)) (.ref (G.cad 1)) = some false
  t_Unfit_Unfit : PySem.W.exmOne G.K (.ref (G.cad 1)) (.ref (G.cad 1)) = some true
  i_CanNot_ValueError : PySem.W.kitOne G.K (.ref (G.cad 0)) (.type "ValueError") = some true
  i_Unfit_ValueError : PySem.W.kitOne G.K (.ref (G.cad 1)) (.type "ValueError") = some true
theorem cls_mk {K : PySem.W.Frag} {h : Heap} {mg : Str → Option Value} (P : Program) (w : World) (X : K.In h) (Gn : h.Ns mainGlobals mg) {C0 C1 : Addr} 
    (a0 : PySem.W.nsIn K mainGlobals "CanNot" = some (some (.ref C0)))
    (b0 : PySem.W.excIn K C0 [.type "ValueError", .type "Exception", .type "BaseException", .type "object"] "ValueError.__new__" = true)
    (c0 : PySem.W.keepIn K (.ref C0) = true)
    (d0 : PySem.W.subIn K (.ref C0) (.type "BaseException") = some true)
    (e0 : PySem.W.typeIn K (.ref C0) = some (.type "type"))
    (f0 : PySem.W.findIn K (.ref C0) "__getattribute__" = some (some (.builtin "BaseException.__getattribute__")))
    (g0 : PySem.W.findIn K (.ref C0) "__getattr__" = some none)
    (h0 : PySem.W.hasDictIn K C0 = true)
    (j0 : PySem.W.findIn K (.ref C0) "__class__" = some (some (.builtin "object.__class__")))
    (m0 : PySem.W.mroIn K C0 (.type "object") = some true)
    (a1 : PySem.W.nsIn K mainGlobals "Unfit" = some (some (.ref C1)))
    (b1 : PySem.W.excIn K C1 [.type "ValueError", .type "Exception", .type "BaseException", .type "object"] "ValueError.__new__" = true)
    (c1 : PySem.W.keepIn K (.ref C1) = true)
    (d1 : PySem.W.subIn K (.ref C1) (.type "BaseException") = some true)
    (e1 : PySem.W.typeIn K (.ref C1) = some (.type "type"))
    (f1 : PySem.W.findIn K (.ref C1) "__getattribute__" = some (some (.builtin "BaseException.__getattribute__")))
    (g1 : PySem.W.findIn K (.ref C1) "__getattr__" = some none)
    (h1 : PySem.W.hasDictIn K C1 = true)
    (j1 : PySem.W.findIn K (.ref C1) "__class__" = some (some (.builtin "object.__class__")))
    (m1 : PySem.W.mroIn K C1 (.type "object") = some true)
    (n1 : PySem.W.specialIn K (.builtin "object.__class__") "__get__" = some (some (.builtin "getset_descriptor.__get__"))) (n2 : PySem.W.takesIn K (.builtin "object.__class__") = some true)
    (s0_0 : PySem.W.subIn K (.ref C0) (.ref C0) = some true)
    (s1_0 : PySem.W.subIn K (.ref C1) (.ref C0) = some false)
    (s0_1 : PySem.W.subIn K (.ref C0) (.ref C1) = some false)
    (s1_1 : PySem.W.subIn K (.ref C1) (.ref C1) = some true)
    (k0_ValueError : PySem.W.kitOne K (.ref C0) (.type "ValueError") = some true)
    (k1_ValueError : PySem.W.kitOne K (.ref C1) (.type "ValueError") = some true)
    : ∃ cad : Nat → Addr, Clf ⟨K, cad, cflD, P, w⟩ mg :=
  ⟨fun n => match n with | 0 => C0 | _ => C1, {
    x_CanNot := ⟨rfl, PySem.W.mg_of X Gn a0, ⟨_, "ValueError", _, _, PySem.F.excBase_ValueError, b0⟩, c0, d0, e0⟩
    e_CanNot := ⟨f0, g0, d0, h0, j0, n1, n2, m0⟩
    x_Unfit := ⟨rfl, PySem.W.mg_of X Gn a1, ⟨_, "ValueError", _, _, PySem.F.excBase_ValueError, b1⟩, c1, d1, e1⟩
    e_Unfit := ⟨f1, g1, d1, h1, j1, n1, n2, m1⟩
    t_CanNot_CanNot := PySem.W.exm_ref d0 h0 e0 s0_0
    t_Unfit_CanNot := PySem.W.exm_ref d0 h0 e0 s1_0
    t_CanNot_Unfit := PySem.W.exm_ref d1 h1 e1 s0_1
    t_Unfit_Unfit := PySem.W.exm_ref d1 h1 e1 s1_1
    i_CanNot_ValueError := k0_ValueError
    i_Unfit_ValueError := k1_ValueError
  }⟩
theorem law_walk {l : PySem.W.OpenLaw} {q : Program} {loose : List Str} {XP : (Str → Option Value) → Heap → Prop} {YP : World → Heap → Prop} {d : DefRec} {K : Params → PySem.W.Frag} (hn : l.most = some 63) (hdf : d.params.defaults = [])
    (hY : ∀ (w : World) (h : Heap), YP w h → (K w.params).In h)
    (F : ∀ (w : World) (mg : Str → Option Value) (fa : Addr) (h : Heap), (K w.params).In h → h.Ns mainGlobals mg → mg d.name = some (.ref fa) →
      ∃ fd : FuncData, (∀ (s : Shared) (u : Value), BindsTo s fd ⟨[u], []⟩ [("script", u)]) ∧ ∀ base : Heap, (K w.params).In base → base.Ns mainGlobals mg → FnOk l.prog w (K w.params) mg base (L2.CX l.prog w) 17 fa fd ["script"] (spLaw (K w.params))) :
    PySem.W.WalkO q loose XP YP l.row.toRowW d [] (fun f vs => PySem.call f vs) :=
  L2.walk_of (n := 63) (k := 17) (x := "script") (CX := fun w => L2.CX l.prog w) (sp := fun w => spLaw (K w.params)) hn (by decide) hdf ⟨rfl, by decide, by decide⟩ hY F (fun _ _ a ns hl _ hS => ⟨a, ns, rfl, hS, hl, fun _ => rfl⟩) fun _ _ _ _ _ ⟨_, _, _, _, _, _, _, _, _, _, _, _, z⟩ => z
end LawP
open PySem PySem.W PyProof.Rows
set_option maxRecDepth 100000 in
set_option maxHeartbeats 0 in
theorem PySem.Challenge.cw_stoppedcoins_k41_steady_by_hand_and_what_holds : PySem.Challenge.rw_stoppedcoins_k41_steady_by_hand_and_what.Holds := by
  refine hd_law ?_
  k_fill
  refine LawP.law_walk (l := PySem.Challenge.rw_stoppedcoins_k41_steady_by_hand_and_what) rfl rfl (fun w h Y => PySem.W.kIn_of Y) ?F
  case F =>
    intro w mg fa h KX Gn hmg
    have d_is_number : Ev.Fd (L2.KOf KX) mg LawP.st_is_number "is_number" ["thing"] := by
      refine' LawP.fd_mk KX Gn ?a ?l ?c ?k (fun _ _ _ _ _ _ us hl => match us, hl with | [_], _ => rfl)
      (case a => k_is); (case l => k_is); (case c => k_is); (case k => k_is)
    have d_tuple_of : Ev.Fd (L2.KOf KX) mg LawP.st_tuple_of "tuple_of" ["thing"] := by
      refine' LawP.fd_mk KX Gn ?a ?l ?c ?k (fun _ _ _ _ _ _ us hl => match us, hl with | [_], _ => rfl)
      (case a => k_is); (case l => k_is); (case c => k_is); (case k => k_is)
    have d_is_tuple_of : Ev.Fd (L2.KOf KX) mg LawP.st_is_tuple_of "is_tuple_of" ["thing", "many"] := by
      refine' LawP.fd_mk KX Gn ?a ?l ?c ?k (fun _ _ _ _ _ _ us hl => match us, hl with | [_, _], _ => rfl)
      (case a => k_is); (case l => k_is); (case c => k_is); (case k => k_is)
    have d_is_fraction : Ev.Fd (L2.KOf KX) mg LawP.st_is_fraction "is_fraction" ["thing"] := by
      refine' LawP.fd_mk KX Gn ?a ?l ?c ?k (fun _ _ _ _ _ _ us hl => match us, hl with | [_], _ => rfl)
      (case a => k_is); (case l => k_is); (case c => k_is); (case k => k_is)
    have d_fraction : Ev.Fd (L2.KOf KX) mg LawP.st_fraction "fraction" ["top", "bottom"] := by
      refine' LawP.fd_mk KX Gn ?a ?l ?c ?k (fun _ _ _ _ _ _ us hl => match us, hl with | [_, _], _ => rfl)
      (case a => k_is); (case l => k_is); (case c => k_is); (case k => k_is)
    have d_whole : Ev.Fd (L2.KOf KX) mg LawP.st_whole "whole" ["number"] := by
      refine' LawP.fd_mk KX Gn ?a ?l ?c ?k (fun _ _ _ _ _ _ us hl => match us, hl with | [_], _ => rfl)
      (case a => k_is); (case l => k_is); (case c => k_is); (case k => k_is)
    have d_plus : Ev.Fd (L2.KOf KX) mg LawP.st_plus "plus" ["x", "y"] := by
      refine' LawP.fd_mk KX Gn ?a ?l ?c ?k (fun _ _ _ _ _ _ us hl => match us, hl with | [_, _], _ => rfl)
      (case a => k_is); (case l => k_is); (case c => k_is); (case k => k_is)
    have d_minus : Ev.Fd (L2.KOf KX) mg LawP.st_minus "minus" ["x", "y"] := by
      refine' LawP.fd_mk KX Gn ?a ?l ?c ?k (fun _ _ _ _ _ _ us hl => match us, hl with | [_, _], _ => rfl)
      (case a => k_is); (case l => k_is); (case c => k_is); (case k => k_is)
    have d_times : Ev.Fd (L2.KOf KX) mg LawP.st_times "times" ["x", "y"] := by
      refine' LawP.fd_mk KX Gn ?a ?l ?c ?k (fun _ _ _ _ _ _ us hl => match us, hl with | [_, _], _ => rfl)
      (case a => k_is); (case l => k_is); (case c => k_is); (case k => k_is)
    have d_over : Ev.Fd (L2.KOf KX) mg LawP.st_over "over" ["x", "y"] := by
      refine' LawP.fd_mk KX Gn ?a ?l ?c ?k (fun _ _ _ _ _ _ us hl => match us, hl with | [_, _], _ => rfl)
      (case a => k_is); (case l => k_is); (case c => k_is); (case k => k_is)
    have d__power : Ev.Fd (L2.KOf KX) mg LawP.st__power "_power" ["number", "many"] := by
      refine' LawP.fd_mk KX Gn ?a ?l ?c ?k (fun _ _ _ _ _ _ us hl => match us, hl with | [_, _], _ => rfl)
      (case a => k_is); (case l => k_is); (case c => k_is); (case k => k_is)
    have d_power_of : Ev.Fd (L2.KOf KX) mg LawP.st_power_of "power_of" ["x", "many"] := by
      refine' LawP.fd_mk KX Gn ?a ?l ?c ?k (fun _ _ _ _ _ _ us hl => match us, hl with | [_, _], _ => rfl)
      (case a => k_is); (case l => k_is); (case c => k_is); (case k => k_is)
    have d_sign_of : Ev.Fd (L2.KOf KX) mg LawP.st_sign_of "sign_of" ["x"] := by
      refine' LawP.fd_mk KX Gn ?a ?l ?c ?k (fun _ _ _ _ _ _ us hl => match us, hl with | [_], _ => rfl)
      (case a => k_is); (case l => k_is); (case c => k_is); (case k => k_is)
    have d_gathered : Ev.Fd (L2.KOf KX) mg LawP.st_gathered "gathered" ["pairs"] := by
      refine' LawP.fd_mk KX Gn ?a ?l ?c ?k (fun _ _ _ _ _ _ us hl => match us, hl with | [_], _ => rfl)
      (case a => k_is); (case l => k_is); (case c => k_is); (case k => k_is)
    have d_value_at : Ev.Fd (L2.KOf KX) mg LawP.st_value_at "value_at" ["form", "rows"] := by
      refine' LawP.fd_mk KX Gn ?a ?l ?c ?k (fun _ _ _ _ _ _ us hl => match us, hl with | [_, _], _ => rfl)
      (case a => k_is); (case l => k_is); (case c => k_is); (case k => k_is)
    have d_sum_of : Ev.Fd (L2.KOf KX) mg LawP.st_sum_of "sum_of" ["fractions"] := by
      refine' LawP.fd_mk KX Gn ?a ?l ?c ?k (fun _ _ _ _ _ _ us hl => match us, hl with | [_], _ => rfl)
      (case a => k_is); (case l => k_is); (case c => k_is); (case k => k_is)
    have d__words : Ev.Fd (L2.KOf KX) mg LawP.st__words "_words" ["letters", "width"] := by
      refine' LawP.fd_mk KX Gn ?a ?l ?c ?k (fun _ _ _ _ _ _ us hl => match us, hl with | [_, _], _ => rfl)
      (case a => k_is); (case l => k_is); (case c => k_is); (case k => k_is)
    have d__is_word : Ev.Fd (L2.KOf KX) mg LawP.st__is_word "_is_word" ["thing", "letters", "width"] := by
      refine' LawP.fd_mk KX Gn ?a ?l ?c ?k (fun _ _ _ _ _ _ us hl => match us, hl with | [_, _, _], _ => rfl)
      (case a => k_is); (case l => k_is); (case c => k_is); (case k => k_is)
    have d__are_pairs : Ev.Fd (L2.KOf KX) mg LawP.st__are_pairs "_are_pairs" ["thing", "letters", "width"] := by
      refine' LawP.fd_mk KX Gn ?a ?l ?c ?k (fun _ _ _ _ _ _ us hl => match us, hl with | [_, _, _], _ => rfl)
      (case a => k_is); (case l => k_is); (case c => k_is); (case k => k_is)
    have d_is_gain : Ev.Fd (L2.KOf KX) mg LawP.st_is_gain "is_gain" ["thing"] := by
      refine' LawP.fd_mk KX Gn ?a ?l ?c ?k (fun _ _ _ _ _ _ us hl => match us, hl with | [_], _ => rfl)
      (case a => k_is); (case l => k_is); (case c => k_is); (case k => k_is)
    have d__chances_by : Ev.Fd (L2.KOf KX) mg LawP.st__chances_by "_chances_by" ["pairs", "first", "last"] := by
      refine' LawP.fd_mk KX Gn ?a ?l ?c ?k (fun _ _ _ _ _ _ us hl => match us, hl with | [_, _, _], _ => rfl)
      (case a => k_is); (case l => k_is); (case c => k_is); (case k => k_is)
    have d_is_stream : Ev.Fd (L2.KOf KX) mg LawP.st_is_stream "is_stream" ["thing"] := by
      refine' LawP.fd_mk KX Gn ?a ?l ?c ?k (fun _ _ _ _ _ _ us hl => match us, hl with | [_], _ => rfl)
      (case a => k_is); (case l => k_is); (case c => k_is); (case k => k_is)
    have d__round : Ev.Fd (L2.KOf KX) mg LawP.st__round "_round" ["ring", "width"] := by
      refine' LawP.fd_mk KX Gn ?a ?l ?c ?k (fun _ _ _ _ _ _ us hl => match us, hl with | [_, _], _ => rfl)
      (case a => k_is); (case l => k_is); (case c => k_is); (case k => k_is)
    have d__gained : Ev.Fd (L2.KOf KX) mg LawP.st__gained "_gained" ["values", "words"] := by
      refine' LawP.fd_mk KX Gn ?a ?l ?c ?k (fun _ _ _ _ _ _ us hl => match us, hl with | [_, _], _ => rfl)
      (case a => k_is); (case l => k_is); (case c => k_is); (case k => k_is)
    have d_ring_gain : Ev.Fd (L2.KOf KX) mg LawP.st_ring_gain "ring_gain" ["gain", "ring"] := by
      refine' LawP.fd_mk KX Gn ?a ?l ?c ?k (fun _ _ _ _ _ _ us hl => match us, hl with | [_, _], _ => rfl)
      (case a => k_is); (case l => k_is); (case c => k_is); (case k => k_is)
    have d__row_chance : Ev.Fd (L2.KOf KX) mg LawP.st__row_chance "_row_chance" ["width", "pairs", "row"] := by
      refine' LawP.fd_mk KX Gn ?a ?l ?c ?k (fun _ _ _ _ _ _ us hl => match us, hl with | [_, _, _], _ => rfl)
      (case a => k_is); (case l => k_is); (case c => k_is); (case k => k_is)
    have d_step_gain : Ev.Fd (L2.KOf KX) mg LawP.st_step_gain "step_gain" ["gain", "stream"] := by
      refine' LawP.fd_mk KX Gn ?a ?l ?c ?k (fun _ _ _ _ _ _ us hl => match us, hl with | [_, _], _ => rfl)
      (case a => k_is); (case l => k_is); (case c => k_is); (case k => k_is)
    have d__held_on : Ev.Fd (L2.KOf KX) mg LawP.st__held_on "_held_on" ["values", "word", "width"] := by
      refine' LawP.fd_mk KX Gn ?a ?l ?c ?k (fun _ _ _ _ _ _ us hl => match us, hl with | [_, _, _], _ => rfl)
      (case a => k_is); (case l => k_is); (case c => k_is); (case k => k_is)
    have d__is_held : Ev.Fd (L2.KOf KX) mg LawP.st__is_held "_is_held" ["gain", "held"] := by
      refine' LawP.fd_mk KX Gn ?a ?l ?c ?k (fun _ _ _ _ _ _ us hl => match us, hl with | [_, _], _ => rfl)
      (case a => k_is); (case l => k_is); (case c => k_is); (case k => k_is)
    have d_store : Ev.Fd (L2.KOf KX) mg LawP.st_store "store" ["gain"] := by
      refine' LawP.fd_mk KX Gn ?a ?l ?c ?k (fun _ _ _ _ _ _ us hl => match us, hl with | [_], _ => rfl)
      (case a => k_is); (case l => k_is); (case c => k_is); (case k => k_is)
    have d_is_store : Ev.Fd (L2.KOf KX) mg LawP.st_is_store "is_store" ["gain", "thing"] := by
      refine' LawP.fd_mk KX Gn ?a ?l ?c ?k (fun _ _ _ _ _ _ us hl => match us, hl with | [_, _], _ => rfl)
      (case a => k_is); (case l => k_is); (case c => k_is); (case k => k_is)
    have d_gaining_ring : Ev.Fd (L2.KOf KX) mg LawP.st_gaining_ring "gaining_ring" ["gain"] := by
      refine' LawP.fd_mk KX Gn ?a ?l ?c ?k (fun _ _ _ _ _ _ us hl => match us, hl with | [_], _ => rfl)
      (case a => k_is); (case l => k_is); (case c => k_is); (case k => k_is)
    have d__all_bottoms : Ev.Fd (L2.KOf KX) mg LawP.st__all_bottoms "_all_bottoms" ["fractions"] := by
      refine' LawP.fd_mk KX Gn ?a ?l ?c ?k (fun _ _ _ _ _ _ us hl => match us, hl with | [_], _ => rfl)
      (case a => k_is); (case l => k_is); (case c => k_is); (case k => k_is)
    have d__weights : Ev.Fd (L2.KOf KX) mg LawP.st__weights "_weights" ["gain", "bound"] := by
      refine' LawP.fd_mk KX Gn ?a ?l ?c ?k (fun _ _ _ _ _ _ us hl => match us, hl with | [_, _], _ => rfl)
      (case a => k_is); (case l => k_is); (case c => k_is); (case k => k_is)
    have d__ring_back : Ev.Fd (L2.KOf KX) mg LawP.st__ring_back "_ring_back" ["came", "part", "many"] := by
      refine' LawP.fd_mk KX Gn ?a ?l ?c ?k (fun _ _ _ _ _ _ us hl => match us, hl with | [_, _, _], _ => rfl)
      (case a => k_is); (case l => k_is); (case c => k_is); (case k => k_is)
    have d__chased : Ev.Fd (L2.KOf KX) mg LawP.st__chased "_chased" ["gain", "bound"] := by
      refine' LawP.fd_mk KX Gn ?a ?l ?c ?k (fun _ _ _ _ _ _ us hl => match us, hl with | [_, _], _ => rfl)
      (case a => k_is); (case l => k_is); (case c => k_is); (case k => k_is)
    have d__step_round : Ev.Fd (L2.KOf KX) mg LawP.st__step_round "_step_round" ["gain", "ring"] := by
      refine' LawP.fd_mk KX Gn ?a ?l ?c ?k (fun _ _ _ _ _ _ us hl => match us, hl with | [_, _], _ => rfl)
      (case a => k_is); (case l => k_is); (case c => k_is); (case k => k_is)
    have d__best_ring : Ev.Fd (L2.KOf KX) mg LawP.st__best_ring "_best_ring" ["gain"] := by
      refine' LawP.fd_mk KX Gn ?a ?l ?c ?k (fun _ _ _ _ _ _ us hl => match us, hl with | [_], _ => rfl)
      (case a => k_is); (case l => k_is); (case c => k_is); (case k => k_is)
    have d_most_step : Ev.Fd (L2.KOf KX) mg LawP.st_most_step "most_step" ["gain"] := by
      refine' LawP.fd_mk KX Gn ?a ?l ?c ?k (fun _ _ _ _ _ _ us hl => match us, hl with | [_], _ => rfl)
      (case a => k_is); (case l => k_is); (case c => k_is); (case k => k_is)
    have d_most_ring : Ev.Fd (L2.KOf KX) mg LawP.st_most_ring "most_ring" ["gain"] := by
      refine' LawP.fd_mk KX Gn ?a ?l ?c ?k (fun _ _ _ _ _ _ us hl => match us, hl with | [_], _ => rfl)
      (case a => k_is); (case l => k_is); (case c => k_is); (case k => k_is)
    have d_most_store : Ev.Fd (L2.KOf KX) mg LawP.st_most_store "most_store" ["gain", "bound"] := by
      refine' LawP.fd_mk KX Gn ?a ?l ?c ?k (fun _ _ _ _ _ _ us hl => match us, hl with | [_, _], _ => rfl)
      (case a => k_is); (case l => k_is); (case c => k_is); (case k => k_is)
    have d_is_most_store : Ev.Fd (L2.KOf KX) mg LawP.st_is_most_store "is_most_store" ["gain", "bound", "thing"] := by
      refine' LawP.fd_mk KX Gn ?a ?l ?c ?k (fun _ _ _ _ _ _ us hl => match us, hl with | [_, _, _], _ => rfl)
      (case a => k_is); (case l => k_is); (case c => k_is); (case k => k_is)
    have d_ring_sum : Ev.Fd (L2.KOf KX) mg LawP.st_ring_sum "ring_sum" ["form", "n", "rows"] := by
      refine' LawP.fd_mk KX Gn ?a ?l ?c ?k (fun _ _ _ _ _ _ us hl => match us, hl with | [_, _, _], _ => rfl)
      (case a => k_is); (case l => k_is); (case c => k_is); (case k => k_is)
    have d__at_places : Ev.Fd (L2.KOf KX) mg LawP.st__at_places "_at_places" ["form", "places", "n", "c"] := by
      refine' LawP.fd_mk KX Gn ?a ?l ?c ?k (fun _ _ _ _ _ _ us hl => match us, hl with | [_, _, _, _], _ => rfl)
      (case a => k_is); (case l => k_is); (case c => k_is); (case k => k_is)
    have d__going_on : Ev.Fd (L2.KOf KX) mg LawP.st__going_on "_going_on" ["form", "n", "c"] := by
      refine' LawP.fd_mk KX Gn ?a ?l ?c ?k (fun _ _ _ _ _ _ us hl => match us, hl with | [_, _, _], _ => rfl)
      (case a => k_is); (case l => k_is); (case c => k_is); (case k => k_is)
    have d__store_of : Ev.Fd (L2.KOf KX) mg LawP.st__store_of "_store_of" ["form", "n", "c"] := by
      refine' LawP.fd_mk KX Gn ?a ?l ?c ?k (fun _ _ _ _ _ _ us hl => match us, hl with | [_, _, _], _ => rfl)
      (case a => k_is); (case l => k_is); (case c => k_is); (case k => k_is)
    have d_form_store : Ev.Fd (L2.KOf KX) mg LawP.st_form_store "form_store" ["form", "n", "c"] := by
      refine' LawP.fd_mk KX Gn ?a ?l ?c ?k (fun _ _ _ _ _ _ us hl => match us, hl with | [_, _, _], _ => rfl)
      (case a => k_is); (case l => k_is); (case c => k_is); (case k => k_is)
    have d__with_number : Ev.Fd (L2.KOf KX) mg LawP.st__with_number "_with_number" ["form", "sample", "column", "number"] := by
      refine' LawP.fd_mk KX Gn ?a ?l ?c ?k (fun _ _ _ _ _ _ us hl => match us, hl with | [_, _, _, _], _ => rfl)
      (case a => k_is); (case l => k_is); (case c => k_is); (case k => k_is)
    have d__rows_for : Ev.Fd (L2.KOf KX) mg LawP.st__rows_for "_rows_for" ["form", "n", "c"] := by
      refine' LawP.fd_mk KX Gn ?a ?l ?c ?k (fun _ _ _ _ _ _ us hl => match us, hl with | [_, _, _], _ => rfl)
      (case a => k_is); (case l => k_is); (case c => k_is); (case k => k_is)
    have d_form_ring : Ev.Fd (L2.KOf KX) mg LawP.st_form_ring "form_ring" ["form", "n", "c"] := by
      refine' LawP.fd_mk KX Gn ?a ?l ?c ?k (fun _ _ _ _ _ _ us hl => match us, hl with | [_, _, _], _ => rfl)
      (case a => k_is); (case l => k_is); (case c => k_is); (case k => k_is)
    have d__law_box : Ev.Fd (L2.KOf KX) mg LawP.st__law_box "_law_box" ["script", "k"] := by
      refine' LawP.fd_mk KX Gn ?a ?l ?c ?k (fun _ _ _ _ _ _ us hl => match us, hl with | [_, _], _ => rfl)
      (case a => k_is); (case l => k_is); (case c => k_is); (case k => k_is)
    have d__law_take : Ev.Fd (L2.KOf KX) mg LawP.st__law_take "_law_take" ["box", "size_so"] := by
      refine' LawP.fd_mk KX Gn ?a ?l ?c ?k (fun _ _ _ _ _ _ us hl => match us, hl with | [_, _], _ => rfl)
      (case a => k_is); (case l => k_is); (case c => k_is); (case k => k_is)
    have d__law_cells : Ev.Fd (L2.KOf KX) mg LawP.st__law_cells "_law_cells" ["script", "top_so"] := by
      refine' LawP.fd_mk KX Gn ?a ?l ?c ?k (fun _ _ _ _ _ _ us hl => match us, hl with | [_, _], _ => rfl)
      (case a => k_is); (case l => k_is); (case c => k_is); (case k => k_is)
    have d__law_same : Ev.Fd (L2.KOf KX) mg LawP.st__law_same "_law_same" ["got", "due"] := by
      refine' LawP.fd_mk KX Gn ?a ?l ?c ?k (fun _ _ _ _ _ _ us hl => match us, hl with | [_, _], _ => rfl)
      (case a => k_is); (case l => k_is); (case c => k_is); (case k => k_is)
    have d__law_lists : Ev.Fd (L2.KOf KX) mg LawP.st__law_lists "_law_lists" ["matter"] := by
      refine' LawP.fd_mk KX Gn ?a ?l ?c ?k (fun _ _ _ _ _ _ us hl => match us, hl with | [_], _ => rfl)
      (case a => k_is); (case l => k_is); (case c => k_is); (case k => k_is)
    have d__law_gcd : Ev.Fd (L2.KOf KX) mg LawP.st__law_gcd "_law_gcd" ["one_so", "two_so"] := by
      refine' LawP.fd_mk KX Gn ?a ?l ?c ?k (fun _ _ _ _ _ _ us hl => match us, hl with | [_, _], _ => rfl)
      (case a => k_is); (case l => k_is); (case c => k_is); (case k => k_is)
    have d__law_fr : Ev.Fd (L2.KOf KX) mg LawP.st__law_fr "_law_fr" ["top_so", "base_so"] := by
      refine' LawP.fd_mk KX Gn ?a ?l ?c ?k (fun _ _ _ _ _ _ us hl => match us, hl with | [_, _], _ => rfl)
      (case a => k_is); (case l => k_is); (case c => k_is); (case k => k_is)
    have d__law_add : Ev.Fd (L2.KOf KX) mg LawP.st__law_add "_law_add" ["one_so", "two_so"] := by
      refine' LawP.fd_mk KX Gn ?a ?l ?c ?k (fun _ _ _ _ _ _ us hl => match us, hl with | [_, _], _ => rfl)
      (case a => k_is); (case l => k_is); (case c => k_is); (case k => k_is)
    have d__law_mul : Ev.Fd (L2.KOf KX) mg LawP.st__law_mul "_law_mul" ["one_so", "two_so"] := by
      refine' LawP.fd_mk KX Gn ?a ?l ?c ?k (fun _ _ _ _ _ _ us hl => match us, hl with | [_, _], _ => rfl)
      (case a => k_is); (case l => k_is); (case c => k_is); (case k => k_is)
    have d__law_sum : Ev.Fd (L2.KOf KX) mg LawP.st__law_sum "_law_sum" ["bits_so"] := by
      refine' LawP.fd_mk KX Gn ?a ?l ?c ?k (fun _ _ _ _ _ _ us hl => match us, hl with | [_], _ => rfl)
      (case a => k_is); (case l => k_is); (case c => k_is); (case k => k_is)
    have d__law_turned : Ev.Fd (L2.KOf KX) mg LawP.st__law_turned "_law_turned" ["ring_so", "wide_so"] := by
      refine' LawP.fd_mk KX Gn ?a ?l ?c ?k (fun _ _ _ _ _ _ us hl => match us, hl with | [_, _], _ => rfl)
      (case a => k_is); (case l => k_is); (case c => k_is); (case k => k_is)
    have d__law_gained : Ev.Fd (L2.KOf KX) mg LawP.st__law_gained "_law_gained" ["gain_so", "ring_so"] := by
      refine' LawP.fd_mk KX Gn ?a ?l ?c ?k (fun _ _ _ _ _ _ us hl => match us, hl with | [_, _], _ => rfl)
      (case a => k_is); (case l => k_is); (case c => k_is); (case k => k_is)
    have d__law_is_fr : Ev.Fd (L2.KOf KX) mg LawP.st__law_is_fr "_law_is_fr" ["matter"] := by
      refine' LawP.fd_mk KX Gn ?a ?l ?c ?k (fun _ _ _ _ _ _ us hl => match us, hl with | [_], _ => rfl)
      (case a => k_is); (case l => k_is); (case c => k_is); (case k => k_is)
    have d__law_is_ring : Ev.Fd (L2.KOf KX) mg LawP.st__law_is_ring "_law_is_ring" ["matter", "letters_so"] := by
      refine' LawP.fd_mk KX Gn ?a ?l ?c ?k (fun _ _ _ _ _ _ us hl => match us, hl with | [_, _], _ => rfl)
      (case a => k_is); (case l => k_is); (case c => k_is); (case k => k_is)
    have d__law_value : Ev.Fd (L2.KOf KX) mg LawP.st__law_value "_law_value" ["form_so", "rows_so"] := by
      refine' LawP.fd_mk KX Gn ?a ?l ?c ?k (fun _ _ _ _ _ _ us hl => match us, hl with | [_, _], _ => rfl)
      (case a => k_is); (case l => k_is); (case c => k_is); (case k => k_is)
    have d__law_round : Ev.Fd (L2.KOf KX) mg LawP.st__law_round "_law_round" ["form_so", "n_so", "rows_so"] := by
      refine' LawP.fd_mk KX Gn ?a ?l ?c ?k (fun _ _ _ _ _ _ us hl => match us, hl with | [_, _, _], _ => rfl)
      (case a => k_is); (case l => k_is); (case c => k_is); (case k => k_is)
    have d__law_are_rows : Ev.Fd (L2.KOf KX) mg LawP.st__law_are_rows "_law_are_rows" ["matter", "c_so"] := by
      refine' LawP.fd_mk KX Gn ?a ?l ?c ?k (fun _ _ _ _ _ _ us hl => match us, hl with | [_, _], _ => rfl)
      (case a => k_is); (case l => k_is); (case c => k_is); (case k => k_is)
    have d__law_names : Ev.Fd (L2.KOf KX) mg LawP.st__law_names "_law_names" [] := by
      refine' LawP.fd_mk KX Gn ?a ?l ?c ?k (fun _ _ _ _ _ _ us hl => match us, hl with | [], _ => rfl)
      (case a => k_is); (case l => k_is); (case c => k_is); (case k => k_is)
    have d__law_heard : Ev.Fd (L2.KOf KX) mg LawP.st__law_heard "_law_heard" ["door_so", "gain_so", "own"] := by
      refine' LawP.fd_mk KX Gn ?a ?l ?c ?k (fun _ _ _ _ _ _ us hl => match us, hl with | [_, _, _], _ => rfl)
      (case a => k_is); (case l => k_is); (case c => k_is); (case k => k_is)
    have d__law_things_right : Ev.Fd (L2.KOf KX) mg LawP.st__law_things_right "_law_things_right" [] := by
      refine' LawP.fd_mk KX Gn ?a ?l ?c ?k (fun _ _ _ _ _ _ us hl => match us, hl with | [], _ => rfl)
      (case a => k_is); (case l => k_is); (case c => k_is); (case k => k_is)
    have d__law_rings_right : Ev.Fd (L2.KOf KX) mg LawP.st__law_rings_right "_law_rings_right" [] := by
      refine' LawP.fd_mk KX Gn ?a ?l ?c ?k (fun _ _ _ _ _ _ us hl => match us, hl with | [], _ => rfl)
      (case a => k_is); (case l => k_is); (case c => k_is); (case k => k_is)
    have d__law_stores_right : Ev.Fd (L2.KOf KX) mg LawP.st__law_stores_right "_law_stores_right" [] := by
      refine' LawP.fd_mk KX Gn ?a ?l ?c ?k (fun _ _ _ _ _ _ us hl => match us, hl with | [], _ => rfl)
      (case a => k_is); (case l => k_is); (case c => k_is); (case k => k_is)
    have d__law_most_right : Ev.Fd (L2.KOf KX) mg LawP.st__law_most_right "_law_most_right" [] := by
      refine' LawP.fd_mk KX Gn ?a ?l ?c ?k (fun _ _ _ _ _ _ us hl => match us, hl with | [], _ => rfl)
      (case a => k_is); (case l => k_is); (case c => k_is); (case k => k_is)
    have d__law_forms_right : Ev.Fd (L2.KOf KX) mg LawP.st__law_forms_right "_law_forms_right" [] := by
      refine' LawP.fd_mk KX Gn ?a ?l ?c ?k (fun _ _ _ _ _ _ us hl => match us, hl with | [], _ => rfl)
      (case a => k_is); (case l => k_is); (case c => k_is); (case k => k_is)
    have d_law : Ev.Fd (L2.KOf KX) mg LawP.st_law "law" ["script"] := by
      refine' LawP.fd_mk KX Gn ?a ?l ?c ?k (fun _ _ _ _ _ _ us hl => match us, hl with | [_], _ => rfl)
      (case a => k_is); (case l => k_is); (case c => k_is); (case k => k_is)
    have n_ValueError : mg "ValueError" = none := PySem.W.mg_none_of KX Gn (by k_is)
    have n_abs : mg "abs" = none := PySem.W.mg_none_of KX Gn (by k_is)
    have n_all : mg "all" = none := PySem.W.mg_none_of KX Gn (by k_is)
    have n_any : mg "any" = none := PySem.W.mg_none_of KX Gn (by k_is)
    have n_bool : mg "bool" = none := PySem.W.mg_none_of KX Gn (by k_is)
    have n_dict : mg "dict" = none := PySem.W.mg_none_of KX Gn (by k_is)
    have n_enumerate : mg "enumerate" = none := PySem.W.mg_none_of KX Gn (by k_is)
    have n_int : mg "int" = none := PySem.W.mg_none_of KX Gn (by k_is)
    have n_isinstance : mg "isinstance" = none := PySem.W.mg_none_of KX Gn (by k_is)
    have n_len : mg "len" = none := PySem.W.mg_none_of KX Gn (by k_is)
    have n_list : mg "list" = none := PySem.W.mg_none_of KX Gn (by k_is)
    have n_range : mg "range" = none := PySem.W.mg_none_of KX Gn (by k_is)
    have n_reversed : mg "reversed" = none := PySem.W.mg_none_of KX Gn (by k_is)
    have n_sorted : mg "sorted" = none := PySem.W.mg_none_of KX Gn (by k_is)
    have n_str : mg "str" = none := PySem.W.mg_none_of KX Gn (by k_is)
    have n_sum : mg "sum" = none := PySem.W.mg_none_of KX Gn (by k_is)
    have n_tuple : mg "tuple" = none := PySem.W.mg_none_of KX Gn (by k_is)
    have n_zip : mg "zip" = none := PySem.W.mg_none_of KX Gn (by k_is)
    have m_gcd : mg "gcd" = some (.builtin "math.gcd") := PySem.W.mg_of KX Gn (by k_is)
    have q_ZERO_forms : ∃ v u, mg "ZERO_forms" = some u ∧ L2.RelV v u ∧ ∀ ρ H, Ev.RW (L2.KOf KX) ρ H LawP.c_ZERO_forms v := by
      refine' LawP.q_mk2 KX Gn ?a ?l
      (case a => k_is); (case l => k_is)
    have q_ZERO_sources : ∃ v u, mg "ZERO_sources" = some u ∧ L2.RelV v u ∧ ∀ ρ H, Ev.RW (L2.KOf KX) ρ H LawP.c_ZERO_sources v := by
      refine' LawP.q_mk2 KX Gn ?a ?l
      (case a => k_is); (case l => k_is)
    have q_ZERO_steady : ∃ v u, mg "ZERO_steady" = some u ∧ L2.RelV v u ∧ ∀ ρ H, Ev.RW (L2.KOf KX) ρ H LawP.c_ZERO_steady v := by
      refine' LawP.q_mk2 KX Gn ?a ?l
      (case a => k_is); (case l => k_is)
    have q_ONE : ∃ v u, mg "ONE" = some u ∧ L2.RelV v u ∧ ∀ ρ H, Ev.RW (L2.KOf KX) ρ H LawP.c_ONE v := by
      refine' LawP.q_mk2 KX Gn ?a ?l
      (case a => k_is); (case l => k_is)
    have q_LESS : ∃ v u, mg "LESS" = some u ∧ L2.RelV v u ∧ ∀ ρ H, Ev.RW (L2.KOf KX) ρ H LawP.c_LESS v := by
      refine' LawP.q_mk2 KX Gn ?a ?l
      (case a => k_is); (case l => k_is)
    have cl : ∃ cad : Nat → Addr, LawP.Clf ⟨L2.KOf KX, cad, LawP.cflD, PySem.Challenge.rw_stoppedcoins_k41_steady_by_hand_and_what.prog, w⟩ mg := by
      dsimp only [L2.KOf]
      refine' LawP.cls_mk _ _ KX Gn ?cq_a0 ?cq_b0 ?cq_c0 ?cq_d0 ?cq_e0 ?cq_f0 ?cq_g0 ?cq_h0 ?cq_j0 ?cq_m0 ?cq_a1 ?cq_b1 ?cq_c1 ?cq_d1 ?cq_e1 ?cq_f1 ?cq_g1 ?cq_h1 ?cq_j1 ?cq_m1 ?cq_n1 ?cq_n2 ?cq_s0_0 ?cq_s1_0 ?cq_s0_1 ?cq_s1_1 ?cq_k0_ValueError ?cq_k1_ValueError
      (case cq_a0 => first | k_is | k_exc | kit_is | kts_exm | (dsimp only [L2.KOf]; first | k_is | k_exc | kit_is | kts_exm) | rfl)
      (case cq_b0 => first | k_is | k_exc | kit_is | kts_exm | (dsimp only [L2.KOf]; first | k_is | k_exc | kit_is | kts_exm) | rfl)
      (case cq_c0 => first | k_is | k_exc | kit_is | kts_exm | (dsimp only [L2.KOf]; first | k_is | k_exc | kit_is | kts_exm) | rfl)
      (case cq_d0 => first | k_is | k_exc | kit_is | kts_exm | (dsimp only [L2.KOf]; first | k_is | k_exc | kit_is | kts_exm) | rfl)
      (case cq_e0 => first | k_is | k_exc | kit_is | kts_exm | (dsimp only [L2.KOf]; first | k_is | k_exc | kit_is | kts_exm) | rfl)
      (case cq_f0 => first | k_is | k_exc | kit_is | kts_exm | (dsimp only [L2.KOf]; first | k_is | k_exc | kit_is | kts_exm) | rfl)
      (case cq_g0 => first | k_is | k_exc | kit_is | kts_exm | (dsimp only [L2.KOf]; first | k_is | k_exc | kit_is | kts_exm) | rfl)
      (case cq_h0 => first | k_is | k_exc | kit_is | kts_exm | (dsimp only [L2.KOf]; first | k_is | k_exc | kit_is | kts_exm) | rfl)
      (case cq_j0 => first | k_is | k_exc | kit_is | kts_exm | (dsimp only [L2.KOf]; first | k_is | k_exc | kit_is | kts_exm) | rfl)
      (case cq_m0 => first | k_is | k_exc | kit_is | kts_exm | (dsimp only [L2.KOf]; first | k_is | k_exc | kit_is | kts_exm) | rfl)
      (case cq_a1 => first | k_is | k_exc | kit_is | kts_exm | (dsimp only [L2.KOf]; first | k_is | k_exc | kit_is | kts_exm) | rfl)
      (case cq_b1 => first | k_is | k_exc | kit_is | kts_exm | (dsimp only [L2.KOf]; first | k_is | k_exc | kit_is | kts_exm) | rfl)
      (case cq_c1 => first | k_is | k_exc | kit_is | kts_exm | (dsimp only [L2.KOf]; first | k_is | k_exc | kit_is | kts_exm) | rfl)
      (case cq_d1 => first | k_is | k_exc | kit_is | kts_exm | (dsimp only [L2.KOf]; first | k_is | k_exc | kit_is | kts_exm) | rfl)
      (case cq_e1 => first | k_is | k_exc | kit_is | kts_exm | (dsimp only [L2.KOf]; first | k_is | k_exc | kit_is | kts_exm) | rfl)
      (case cq_f1 => first | k_is | k_exc | kit_is | kts_exm | (dsimp only [L2.KOf]; first | k_is | k_exc | kit_is | kts_exm) | rfl)
      (case cq_g1 => first | k_is | k_exc | kit_is | kts_exm | (dsimp only [L2.KOf]; first | k_is | k_exc | kit_is | kts_exm) | rfl)
      (case cq_h1 => first | k_is | k_exc | kit_is | kts_exm | (dsimp only [L2.KOf]; first | k_is | k_exc | kit_is | kts_exm) | rfl)
      (case cq_j1 => first | k_is | k_exc | kit_is | kts_exm | (dsimp only [L2.KOf]; first | k_is | k_exc | kit_is | kts_exm) | rfl)
      (case cq_m1 => first | k_is | k_exc | kit_is | kts_exm | (dsimp only [L2.KOf]; first | k_is | k_exc | kit_is | kts_exm) | rfl)
      (case cq_n1 => first | k_is | k_exc | kit_is | kts_exm | (dsimp only [L2.KOf]; first | k_is | k_exc | kit_is | kts_exm) | rfl)
      (case cq_n2 => first | k_is | k_exc | kit_is | kts_exm | (dsimp only [L2.KOf]; first | k_is | k_exc | kit_is | kts_exm) | rfl)
      (case cq_s0_0 => first | k_is | k_exc | kit_is | kts_exm | (dsimp only [L2.KOf]; first | k_is | k_exc | kit_is | kts_exm) | rfl)
      (case cq_s1_0 => first | k_is | k_exc | kit_is | kts_exm | (dsimp only [L2.KOf]; first | k_is | k_exc | kit_is | kts_exm) | rfl)
      (case cq_s0_1 => first | k_is | k_exc | kit_is | kts_exm | (dsimp only [L2.KOf]; first | k_is | k_exc | kit_is | kts_exm) | rfl)
      (case cq_s1_1 => first | k_is | k_exc | kit_is | kts_exm | (dsimp only [L2.KOf]; first | k_is | k_exc | kit_is | kts_exm) | rfl)
      (case cq_k0_ValueError => first | k_is | k_exc | kit_is | kts_exm | (dsimp only [L2.KOf]; first | k_is | k_exc | kit_is | kts_exm) | rfl)
      (case cq_k1_ValueError => first | k_is | k_exc | kit_is | kts_exm | (dsimp only [L2.KOf]; first | k_is | k_exc | kit_is | kts_exm) | rfl)
    obtain ⟨cad, cl⟩ := cl
    have Fx : LawP.Facts ⟨L2.KOf KX, cad, LawP.cflD, PySem.Challenge.rw_stoppedcoins_k41_steady_by_hand_and_what.prog, w⟩ mg := {
      d_is_number := d_is_number
      d_tuple_of := d_tuple_of
      d_is_tuple_of := d_is_tuple_of
      d_is_fraction := d_is_fraction
      d_fraction := d_fraction
      d_whole := d_whole
      d_plus := d_plus
      d_minus := d_minus
      d_times := d_times
      d_over := d_over
      d__power := d__power
      d_power_of := d_power_of
      d_sign_of := d_sign_of
      d_gathered := d_gathered
      d_value_at := d_value_at
      d_sum_of := d_sum_of
      d__words := d__words
      d__is_word := d__is_word
      d__are_pairs := d__are_pairs
      d_is_gain := d_is_gain
      d__chances_by := d__chances_by
      d_is_stream := d_is_stream
      d__round := d__round
      d__gained := d__gained
      d_ring_gain := d_ring_gain
      d__row_chance := d__row_chance
      d_step_gain := d_step_gain
      d__held_on := d__held_on
      d__is_held := d__is_held
      d_store := d_store
      d_is_store := d_is_store
      d_gaining_ring := d_gaining_ring
      d__all_bottoms := d__all_bottoms
      d__weights := d__weights
      d__ring_back := d__ring_back
      d__chased := d__chased
      d__step_round := d__step_round
      d__best_ring := d__best_ring
      d_most_step := d_most_step
      d_most_ring := d_most_ring
      d_most_store := d_most_store
      d_is_most_store := d_is_most_store
      d_ring_sum := d_ring_sum
      d__at_places := d__at_places
      d__going_on := d__going_on
      d__store_of := d__store_of
      d_form_store := d_form_store
      d__with_number := d__with_number
      d__rows_for := d__rows_for
      d_form_ring := d_form_ring
      d__law_box := d__law_box
      d__law_take := d__law_take
      d__law_cells := d__law_cells
      d__law_same := d__law_same
      d__law_lists := d__law_lists
      d__law_gcd := d__law_gcd
      d__law_fr := d__law_fr
      d__law_add := d__law_add
      d__law_mul := d__law_mul
      d__law_sum := d__law_sum
      d__law_turned := d__law_turned
      d__law_gained := d__law_gained
      d__law_is_fr := d__law_is_fr
      d__law_is_ring := d__law_is_ring
      d__law_value := d__law_value
      d__law_round := d__law_round
      d__law_are_rows := d__law_are_rows
      d__law_names := d__law_names
      d__law_heard := d__law_heard
      d__law_things_right := d__law_things_right
      d__law_rings_right := d__law_rings_right
      d__law_stores_right := d__law_stores_right
      d__law_most_right := d__law_most_right
      d__law_forms_right := d__law_forms_right
      d_law := d_law
      n_ValueError := n_ValueError
      n_abs := n_abs
      n_all := n_all
      n_any := n_any
      n_bool := n_bool
      n_dict := n_dict
      n_enumerate := n_enumerate
      n_int := n_int
      n_isinstance := n_isinstance
      n_len := n_len
      n_list := n_list
      n_range := n_range
      n_reversed := n_reversed
      n_sorted := n_sorted
      n_str := n_str
      n_sum := n_sum
      n_tuple := n_tuple
      n_zip := n_zip
      m_gcd := m_gcd
      q_ZERO_forms := q_ZERO_forms
      q_ZERO_sources := q_ZERO_sources
      q_ZERO_steady := q_ZERO_steady
      q_ONE := q_ONE
      q_LESS := q_LESS
      x_CanNot := cl.x_CanNot
      e_CanNot := cl.e_CanNot
      x_Unfit := cl.x_Unfit
      e_Unfit := cl.e_Unfit
      t_CanNot_CanNot := cl.t_CanNot_CanNot
      t_Unfit_CanNot := cl.t_Unfit_CanNot
      t_CanNot_Unfit := cl.t_CanNot_Unfit
      t_Unfit_Unfit := cl.t_Unfit_Unfit
      i_CanNot_ValueError := cl.i_CanNot_ValueError
      i_Unfit_ValueError := cl.i_Unfit_ValueError
    }
    obtain ⟨f, fd, Fu, m, b⟩ := Fx.d_law
    have e : fa = f := by
      have z := hmg.symm.trans m
      cases z
      rfl
    subst e
    obtain ⟨oc, od, kV, doc, pm, an, cdv, ct, osl, ef, lk, hcd⟩ := id Fu.ex
    exact ⟨fd, fun s u => by rw [ef]; exact .of_eq rfl, fun base _ _ => LawP.fn_law Fx Fu⟩
