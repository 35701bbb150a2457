import PyProof.Rows.All
import Wide.All
import OpenK.AllK
import Wide.FinOn
import HandS.ForDict
import KE.OsRunLaw
import HandS.ForMost
import HandS.Strs
import HandS.ForExc
import HandS.TryMany
import HandS.CallSlots
import KE.KDictCopyH
import KE.KDictKeyed
import HandS.Flow
import HandS.Iter
import HandS.Zip
import HandS.Rev
import HandS.Comp
import HandS.TupAny
import HandS.TupMul
import HandS.Wide
import HandS.List
import HandS.Deep
import HandS.IsInst
import HandS.Gcd
import HandS.Struct
import KE.GoesMore
import KE.GoesEnum
import HandS.NoneIn
import HandS.Style
import HandS.Exc
import HandS.ExcIs
import HandS.ExcOwn
import HandS.Small
import KE.KMathGC
import KE.DatumOrd
import HandS.DictComp
import KE.KDictDisplayH
import KE.KDictWalk
import KE.SortData
import HandS.DictTup
import KE.KDictSum
import KE.DataCmp
import KE.KTupSum
import KE.KExcInit
import HandS.TupSets
import KE.KDictZip
import KE.GoesZip
import HandS.Star
import HandS.Text
import HandS.FStr
import HandS.MapJoin
import HandS.RevTup
import PyProof.JoinWalk
import PyProof.Draws
import PyProof.EnumMake
import PyProof.EnumFor
import PyProof.StrBlock2
import KE.KDictItemsList
import HandS.Conv
import HandS.TupLen
import HandS.SortKw
import KE.KeyNested
import HandS.Keys
import HandS.AnyAll
import HandS.RevRange
import HandS.Slots
import KE.SortKeyed
import KE.KDictOf
import KE.KDictPairs
import HandS.CallLocal
import HandS.SetFor
import KE.DataMinMax
import HandS.ExcValue
import PySem.Challenge.RW_stoppedcoins_k00_errors
set_option Elab.async false
set_option linter.all false
set_option maxRecDepth 100000
set_option maxHeartbeats 4000000
section
open PySem PySem.W PyProof.Rows
set_option maxHeartbeats 0
open_top hd_law for PySem.Challenge.rw_stoppedcoins_k00_errors
end
namespace Ev
open PySem PySem.Spec PyProof.Rows L2

/-- what the reckoner's values are: a plain value or a known thing; a tuple; an object of its own heap -/
inductive W where
  | k (v : V)
  | tup (xs : List W)
  | obj (i : Nat)
  /-- a list or a tuple (nobody knows which), never written again -/
  | mix (xs : List W)

inductive HV where
  | lst (xs : List W)
  | cel
  | urn (n : Nat)
  /-- a dict whose keys are tuples; one that is walked (never written again) -/
  | dct (kvs : List (W × W))
  | fdc (kvs : List (W × W))
  /-- an instance of an own class -/
  | ins (c : Nat) (fs : List (Str × W))
  /-- a dict whose keys are whole numbers -/
  | dki (kvs : List (Int × W))
  /-- a set of whole numbers, in the order in which they were added -/
  | sti (ks : List Int)
  /-- an exception object of an own class, held as a value -/
  | exv (c : Nat)

def lookA : List (Nat × HV) → Nat → Option HV
  | [], _ => none
  | p :: r, i => match Nat.beq p.1 i with
    | true => some p.2
    | false => lookA r i
def setA : List (Nat × HV) → Nat → HV → List (Nat × HV)
  | [], _, _ => []
  | p :: r, i, v => match Nat.beq p.1 i with
    | true => (p.1, v) :: r
    | false => p :: setA r i v
structure FH where
  n : Nat
  l : List (Nat × HV)
def FH.get (S : FH) (i : Nat) : Option HV := lookA S.l i
def FH.set (S : FH) (i : Nat) (v : HV) : FH := ⟨S.n, setA S.l i v⟩
def FH.new (S : FH) (v : HV) : FH := ⟨S.n + 1, (S.n, v) :: S.l⟩
def FH.bare (S : FH) : FH := ⟨S.n, []⟩

theorem beq_dec (a b : Nat) : Nat.beq a b = decide (a = b) := by
  cases h : Nat.beq a b with
  | true => rw [decide_eq_true (Nat.eq_of_beq_eq_true h)]
  | false => rw [decide_eq_false (Nat.ne_of_beq_eq_false h)]
theorem get_new {S : FH} {v : HV} (j : Nat) : (S.new v).get j = if S.n = j then some v else S.get j := by
  show lookA ((S.n, v) :: S.l) j = _
  simp only [lookA, beq_dec]
  by_cases q : S.n = j <;> simp [q] <;> rfl

def SqM (K : PySem.W.Frag) (H : Hp) (a : Addr) (vs : List V) : Prop := SqT K H a vs ∨ ∃ o, H a = some (.frz o (.lst vs))
section
variable (K : PySem.W.Frag) (ρ : List Addr) (H : Hp)
mutual
def RW : W → V → Prop
  | .k v, u => u = v
  | .tup xs, u => ∃ a vs, u = .ref a ∧ SqT K H a vs ∧ RWs xs vs
  | .obj i, u => ∃ a, u = .ref a ∧ ρ[i]? = some a
  | .mix xs, u => ∃ a vs, u = .ref a ∧ SqM K H a vs ∧ RWs xs vs
def RWs : List W → List V → Prop
  | [], vs => vs = []
  | w :: ws, vs => ∃ v r, vs = v :: r ∧ RW w v ∧ RWs ws r
end
end
def FRs (K : PySem.W.Frag) (ρ : List Addr) (H : Hp) : List (Str × W) → List (Str × V) → Prop
  | [], vs => vs = []
  | p :: r, vs => ∃ v ys, vs = (p.1, v) :: ys ∧ RW K ρ H p.2 v ∧ FRs K ρ H r ys
/-! a key of a dict -/
mutual
def nkey : W → Option NestedKey
  | .k (.int i) => some (.num i)
  | .k (.str x) => some (.text x)
  | .k _ => none
  | .tup xs => match nkeys xs with
    | some ks => some (.tup ks)
    | none => none
  | .obj _ => none
  | .mix _ => none
def nkeys : List W → Option (List NestedKey)
  | [] => some []
  | w :: ws => match nkey w with
    | some k => match nkeys ws with
      | some ks => some (k :: ks)
      | none => none
    | none => none
end
def KVs (K : PySem.W.Frag) (ρ : List Addr) (H : Hp) : List (W × W) → List (NestedKey × Addr × V) → Prop
  | [], ys => ys = []
  | p :: r, ys => ∃ k b v ys', ys = (k, b, v) :: ys' ∧ (nkey p.1 = some k ∧ k.depth ≤ 8) ∧ RW K ρ H p.1 (.ref b) ∧ RW K ρ H p.2 v ∧ KVs K ρ H r ys'
def KxR (p : NestedKey × Addr × V) (q : NestedKey × Addr × Value) : Prop := p.1 = q.1 ∧ p.2.1 = q.2.1 ∧ RelV p.2.2 q.2.2
/-- a dict whose keys are tuples: keys, the keys' addresses, values -/
def dctO (P : Program) (w : World) (d : Addr) (xs : List (NestedKey × Addr × V)) : HO := .ext fun h =>
  (d == sysModules) = false ∧ xs.length ≤ sizeLine ∧ ∃ ys : List (NestedKey × Addr × Value), Paired KxR xs ys ∧ (ys.map (·.1)).Nodup ∧ ∃ o es ep, h.get? d = some o ∧ o.ExactDict ∧ o.data = .dict es ep ∧ es.toList = ys.map (entryOfKey (nestedKind P w))
/-- what the module has written, with the exception classes by number -/
structure Glo where
  K : PySem.W.Frag
  cad : Nat → Addr
  cfl : Nat → Option Str
  P : Program
  w : World
def KIs (K : PySem.W.Frag) (ρ : List Addr) (H : Hp) : List (Int × W) → List (Key × V) → Prop
  | [], ys => ys = []
  | p :: r, ys => ∃ v ys', ys = (Sum.inl p.1, v) :: ys' ∧ RW K ρ H p.2 v ∧ KIs K ρ H r ys'
/-- an exception object at a, of the class cls, its dict d -/
def ExV (cls : Value) (d : Option Addr) (a : Addr) : HO := .ext fun h => ∃ (oe : Obj) (vs : Array Value), h.get? a = some oe ∧ Zc cls d oe ∧ oe.data = .fields vs
def RO (G : Glo) (ρ : List Addr) (H : Hp) (a : Addr) : HV → HO → Prop
  | .lst xs, .lst vs => RWs G.K ρ H xs vs
  | .cel, .lst vs => ∃ ns : List Int, ns ≠ [] ∧ vs = ns.map V.int
  | .urn n, .lst vs => ∃ a b c : Int, vs = [.int a, .int b, .int c] ∧ 0 ≤ b ∧ b < 2 ^ 62 ∧ 0 ≤ c ∧ c ≤ (n : Int)
  | .dct kvs, .ext φ => ∃ xs, HO.ext φ = dctO G.P G.w a xs ∧ KVs G.K ρ H kvs xs
  | .fdc kvs, .frz od u => ∃ xs, u = dctO G.P G.w a xs ∧ KVs G.K ρ H kvs xs
  | .ins c fs, .ins C _ vs => C = G.cad c ∧ FRs G.K ρ H fs vs
  | .dki kvs, .dK xs => KIs G.K ρ H kvs xs
  | .sti ks, .ext φ => ks.Nodup ∧ HO.ext φ = SetO G.w a (fun k => ks.any fun z => decide (k = z)) ks.length
  | .exv c, .ext φ => ∃ d, HO.ext φ = ExV (.ref (G.cad c)) d a ∧ ∀ dd : Addr, d = some dd → ∃ f v, H dd = some (.xd [(f, v)])
  | _, _ => False

/-- a configuration: which address each object of the reckoner has, the abstract heap, the reckoner's heap -/
structure Cf where
  ρ : List Addr
  H : Hp
  S : FH
structure Cf.Ok (G : Glo) (C : Cf) : Prop where
  len : C.ρ.length = C.S.n
  nd : ∀ (i j : Nat) (a : Addr), C.ρ[i]? = some a → C.ρ[j]? = some a → i = j
  lv : ∀ (i : Nat) (a : Addr), C.ρ[i]? = some a → C.H a ≠ none
  ob : ∀ (i : Nat) (v : HV), C.S.get i = some v → ∃ a o, C.ρ[i]? = some a ∧ C.H a = some o ∧ RO G C.ρ C.H a v o
structure Ext (C C' : Cf) : Prop where
  pre : ∀ (i : Nat) (a : Addr), C.ρ[i]? = some a → C'.ρ[i]? = some a
  keep : ∀ (a : Addr) (o : HO), C.H a = some o → (∀ (i : Nat) (v : HV), C.S.get i = some v → C.ρ[i]? ≠ some a) → C'.H a = some o
  live : ∀ a : Addr, C.H a ≠ none → C'.H a ≠ none
  frz : ∀ (a : Addr) (o : Obj) (u : HO), C.H a = some (.frz o u) → C'.H a = some (.frz o u)
  new1 : ∀ (i : Nat) (v : HV), C'.S.get i = some v → i < C.ρ.length → ∃ v0, C.S.get i = some v0
  new2 : ∀ (i : Nat) (a : Addr), C'.ρ[i]? = some a → C.ρ.length ≤ i → C.H a = none
theorem Ext.refl (C : Cf) : Ext C C := ⟨fun _ _ h => h, fun _ _ h _ => h, fun _ h => h, fun _ _ _ h => h, fun i v h1 _ => ⟨v, h1⟩, fun i a h1 h2 => by
  rw [List.getElem?_eq_none h2] at h1; cases h1⟩
theorem lt_of_get? {l : List Addr} {i : Nat} {a : Addr} (h : l[i]? = some a) : i < l.length := (List.getElem?_eq_some_iff.mp h).1
theorem Ext.le {A B : Cf} (x : Ext A B) : A.ρ.length ≤ B.ρ.length := by
  cases h : A.ρ.length with
  | zero => exact Nat.zero_le _
  | succ n =>
    have hn : n < A.ρ.length := by omega
    have := x.pre n A.ρ[n] (by simp [hn])
    have := lt_of_get? this
    omega
theorem Ext.trans {A B C : Cf} (x : Ext A B) (y : Ext B C) : Ext A C where
  pre := fun i a h => y.pre i a (x.pre i a h)
  keep := fun a o h n => y.keep a o (x.keep a o h n) fun i v h1 h2 => by
    by_cases hi : i < A.ρ.length
    · obtain ⟨v0, h3⟩ := x.new1 i v h1 hi
      have h4 : A.ρ[i]? = some A.ρ[i] := by simp [hi]
      have h5 := x.pre i _ h4
      rw [h2] at h5
      have e : a = A.ρ[i] := Option.some.inj h5
      exact n i v0 h3 (by rw [h4, e])
    · have := x.new2 i a h2 (by omega)
      rw [h] at this; cases this
  live := fun a h => y.live a (x.live a h)
  frz := fun a o u h => y.frz a o u (x.frz a o u h)
  new1 := fun i v h1 h2 => by
    obtain ⟨v0, h3⟩ := y.new1 i v h1 (Nat.lt_of_lt_of_le h2 x.le)
    exact x.new1 i v0 h3 h2
  new2 := fun i a h1 h2 => by
    by_cases hi : i < B.ρ.length
    · have h4 : B.ρ[i]? = some B.ρ[i] := by simp [hi]
      have h5 := y.pre i _ h4
      rw [h1] at h5
      have e : a = B.ρ[i] := Option.some.inj h5
      exact x.new2 i a (by rw [h4, e]) h2
    · have h3 := y.new2 i a h1 (by omega)
      cases q : A.H a with
      | none => rfl
      | some o => exact absurd h3 (x.live a (by rw [q]; simp))

section
variable {K : PySem.W.Frag} {G : Glo}
theorem RO.kind {ρ : List Addr} {H : Hp} {a : Addr} {v : HV} {o : HO} (h : RO G ρ H a v o) : (∀ ys, o ≠ .tup ys) ∧ (∀ ob ys, o ≠ .frz ob (.tup ys)) ∧ ∀ fs, o ≠ .xd fs := by
  cases v <;> cases o <;> first
    | exact h.elim
    | exact ⟨fun ys z => HO.noConfusion z, fun ob ys z => HO.noConfusion z, fun fs z => HO.noConfusion z⟩
    | (obtain ⟨xs, e, _⟩ := h
       refine ⟨fun ys z => HO.noConfusion z, fun ob ys z => ?_, fun fs z => HO.noConfusion z⟩
       injection z with z1 z2
       rw [z2] at e
       exact HO.noConfusion e)
theorem Ext.tup {C C' : Cf} (ok : C.Ok G) (x : Ext C C') {a : Addr} {vs : List V} (h : SqT G.K C.H a vs) : SqT G.K C'.H a vs := by
  have key : ∀ o, C.H a = some o → ((∃ ys, o = .tup ys) ∨ ∃ ob ys, o = .frz ob (.tup ys)) → C'.H a = some o := fun o e ne => x.keep a o e fun i v h1 h2 => by
    obtain ⟨b, u, h3, h4, h5⟩ := ok.ob i v h1
    rw [h2] at h3; cases h3
    rw [e] at h4; cases h4
    rcases ne with ⟨ys, z⟩ | ⟨ob, ys, z⟩
    · exact h5.kind.1 ys z
    · exact h5.kind.2.1 ob ys z
  rcases h with (h | ⟨o, h⟩) | h
  · exact .inl (.inl (key _ h (.inl ⟨_, rfl⟩)))
  · exact .inl (.inr ⟨o, key _ h (.inr ⟨_, _, rfl⟩)⟩)
  · exact .inr h
mutual
theorem RW.mono {C C' : Cf} (ok : C.Ok G) (x : Ext C C') : ∀ (w : W) {v : V}, RW G.K C.ρ C.H w v → RW G.K C'.ρ C'.H w v
  | .k _, v, h => by unfold RW at h ⊢; exact h
  | .tup xs, v, h => by
    unfold RW at h ⊢
    obtain ⟨a, vs, e, h1, h2⟩ := h
    exact ⟨a, vs, e, x.tup ok h1, RWs.mono ok x xs h2⟩
  | .obj i, v, h => by
    unfold RW at h ⊢
    obtain ⟨a, e, h1⟩ := h
    exact ⟨a, e, x.pre i a h1⟩
  | .mix xs, v, h => by
    unfold RW at h ⊢
    obtain ⟨a, vs, e, h1, h2⟩ := h
    exact ⟨a, vs, e, h1.imp (x.tup ok) fun ⟨o, z⟩ => ⟨o, x.frz a o _ z⟩, RWs.mono ok x xs h2⟩
theorem RWs.mono {C C' : Cf} (ok : C.Ok G) (x : Ext C C') : ∀ (ws : List W) {vs : List V}, RWs G.K C.ρ C.H ws vs → RWs G.K C'.ρ C'.H ws vs
  | [], vs, h => by unfold RWs at h ⊢; exact h
  | w :: ws, vs, h => by
    unfold RWs at h ⊢
    obtain ⟨v, r, e, h1, h2⟩ := h
    exact ⟨v, r, e, RW.mono ok x w h1, RWs.mono ok x ws h2⟩
end
theorem KVs.mono {C C' : Cf} (ok : C.Ok G) (x : Ext C C') : ∀ {kvs : List (W × W)} {ys : List (NestedKey × Addr × V)}, KVs G.K C.ρ C.H kvs ys → KVs G.K C'.ρ C'.H kvs ys
  | [], ys, h => h
  | p :: r, ys, h => by
    obtain ⟨k, b, v, ys', e, h1, h2, h3, h4⟩ := h
    exact ⟨k, b, v, ys', e, h1, RW.mono ok x _ h2, RW.mono ok x _ h3, KVs.mono ok x h4⟩
theorem KVs.map_ {K : PySem.W.Frag} {ρ ρ' : List Addr} {H H' : Hp} (f : ∀ w v, RW K ρ H w v → RW K ρ' H' w v) : ∀ {kvs : List (W × W)} {ys : List (NestedKey × Addr × V)}, KVs K ρ H kvs ys → KVs K ρ' H' kvs ys
  | [], ys, h => h
  | p :: r, ys, h => by
    obtain ⟨k, b, v, ys', e, h1, h2, h3, h4⟩ := h
    exact ⟨k, b, v, ys', e, h1, f _ _ h2, f _ _ h3, KVs.map_ f h4⟩
theorem FRs.mono {C C' : Cf} (ok : C.Ok G) (x : Ext C C') : ∀ {fs : List (Str × W)} {vs : List (Str × V)}, FRs G.K C.ρ C.H fs vs → FRs G.K C'.ρ C'.H fs vs
  | [], vs, h => h
  | p :: r, vs, h => by
    obtain ⟨v, ys, e, h1, h2⟩ := h
    exact ⟨v, ys, e, RW.mono ok x _ h1, FRs.mono ok x h2⟩
theorem FRs.map_ {K : PySem.W.Frag} {ρ ρ' : List Addr} {H H' : Hp} (f : ∀ w v, RW K ρ H w v → RW K ρ' H' w v) : ∀ {fs : List (Str × W)} {vs : List (Str × V)}, FRs K ρ H fs vs → FRs K ρ' H' fs vs
  | [], vs, h => h
  | p :: r, vs, h => by
    obtain ⟨v, ys, e, h1, h2⟩ := h
    exact ⟨v, ys, e, f _ _ h1, FRs.map_ f h2⟩
theorem KIs.mono {C C' : Cf} (ok : C.Ok G) (x : Ext C C') : ∀ {fs : List (Int × W)} {vs : List (Key × V)}, KIs G.K C.ρ C.H fs vs → KIs G.K C'.ρ C'.H fs vs
  | [], vs, h => h
  | p :: r, vs, h => by
    obtain ⟨v, ys, e, h1, h2⟩ := h
    exact ⟨v, ys, e, RW.mono ok x _ h1, KIs.mono ok x h2⟩
theorem Ext.xd {C C' : Cf} (ok : C.Ok G) (x : Ext C C') {dd : Addr} {fs : List (Str × V)} (h : C.H dd = some (.xd fs)) : C'.H dd = some (.xd fs) := x.keep dd _ h fun i v h1 h2 => by
  obtain ⟨b, u, h3, h4, h5⟩ := ok.ob i v h1
  rw [h2] at h3; cases h3
  rw [h] at h4; cases h4
  exact h5.kind.2.2 _ rfl
theorem RO.mono {C C' : Cf} (ok : C.Ok G) (x : Ext C C') {a : Addr} {v : HV} {o : HO} (h : RO G C.ρ C.H a v o) : RO G C'.ρ C'.H a v o := by
  cases v <;> cases o <;> first
    | exact RWs.mono ok x _ h
    | (obtain ⟨xs, e, q⟩ := h; exact ⟨xs, e, KVs.mono ok x q⟩)
    | (obtain ⟨e, q⟩ := h; exact ⟨e, FRs.mono ok x q⟩)
    | exact KIs.mono ok x h
    | (obtain ⟨d, e, q⟩ := h; exact ⟨d, e, fun dd hd => by obtain ⟨f, v, z⟩ := q dd hd; exact ⟨f, v, Ext.xd ok x z⟩⟩)
    | exact h
theorem RWs.length {ρ : List Addr} {H : Hp} : ∀ {ws : List W} {vs : List V}, RWs K ρ H ws vs → vs.length = ws.length
  | [], vs, h => by unfold RWs at h; subst h; rfl
  | w :: ws, vs, h => by
    unfold RWs at h
    obtain ⟨v, r, e, h1, h2⟩ := h
    subst e
    simp [h2.length]
theorem RWs.get {ρ : List Addr} {H : Hp} : ∀ {ws : List W} {vs : List V} {i : Nat} {w : W}, RWs K ρ H ws vs → ws[i]? = some w → ∃ v, vs[i]? = some v ∧ RW K ρ H w v
  | [], vs, i, w, h, e => by simp at e
  | w' :: ws, vs, 0, w, h, e => by
    unfold RWs at h
    obtain ⟨v, r, e1, h1, h2⟩ := h
    subst e1
    simp at e; subst e
    exact ⟨v, rfl, h1⟩
  | w' :: ws, vs, i + 1, w, h, e => by
    unfold RWs at h
    obtain ⟨v, r, e1, h1, h2⟩ := h
    subst e1
    obtain ⟨u, q1, q2⟩ := RWs.get (i := i) h2 (by simpa using e)
    exact ⟨u, by simpa using q1, q2⟩
theorem RWs.nil {ρ : List Addr} {H : Hp} : RWs K ρ H [] [] := by unfold RWs; rfl
theorem RWs.cons {ρ : List Addr} {H : Hp} {w : W} {v : V} {ws : List W} {vs : List V} (h1 : RW K ρ H w v) (h2 : RWs K ρ H ws vs) : RWs K ρ H (w :: ws) (v :: vs) := by
  unfold RWs; exact ⟨v, vs, rfl, h1, h2⟩
theorem RWs.append {ρ : List Addr} {H : Hp} : ∀ {ws ws' : List W} {vs vs' : List V}, RWs K ρ H ws vs → RWs K ρ H ws' vs' → RWs K ρ H (ws ++ ws') (vs ++ vs')
  | [], _, vs, _, h, h' => by unfold RWs at h; subst h; exact h'
  | w :: ws, _, vs, _, h, h' => by
    unfold RWs at h
    obtain ⟨v, r, e, h1, h2⟩ := h
    subst e
    exact .cons h1 (RWs.append h2 h')
theorem RWs.take {ρ : List Addr} {H : Hp} : ∀ {ws : List W} {vs : List V} (n : Nat), RWs K ρ H ws vs → RWs K ρ H (ws.take n) (vs.take n)
  | _, _, 0, _ => .nil
  | [], vs, n + 1, h => by unfold RWs at h; subst h; exact .nil
  | w :: ws, vs, n + 1, h => by
    unfold RWs at h
    obtain ⟨v, r, e, h1, h2⟩ := h
    subst e
    exact .cons h1 (RWs.take n h2)
theorem RWs.drop {ρ : List Addr} {H : Hp} : ∀ {ws : List W} {vs : List V} (n : Nat), RWs K ρ H ws vs → RWs K ρ H (ws.drop n) (vs.drop n)
  | _, _, 0, h => h
  | [], vs, n + 1, h => by unfold RWs at h; subst h; exact .nil
  | w :: ws, vs, n + 1, h => by
    unfold RWs at h
    obtain ⟨v, r, e, h1, h2⟩ := h
    subst e
    exact RWs.drop n h2
theorem RWs.set {ρ : List Addr} {H : Hp} {w : W} {v : V} (r : RW K ρ H w v) : ∀ {ws : List W} {vs : List V} (i : Nat), RWs K ρ H ws vs → RWs K ρ H (ws.set i w) (vs.set i v)
  | [], vs, _, h => by unfold RWs at h; subst h; exact .nil
  | w' :: ws, vs, 0, h => by
    unfold RWs at h
    obtain ⟨u, q, e, h1, h2⟩ := h
    subst e
    exact .cons r h2
  | w' :: ws, vs, i + 1, h => by
    unfold RWs at h
    obtain ⟨u, q, e, h1, h2⟩ := h
    subst e
    exact .cons h1 (RWs.set r i h2)

/-- a new object -/
theorem Cf.alloc {C : Cf} (ok : C.Ok G) {v : HV} {o : HO} {p : Addr} (hp : C.H p = none) (r : RO G C.ρ C.H p v o) :
    (Cf.mk (C.ρ ++ [p]) (upd C.H p o) (C.S.new v)).Ok G ∧ Ext C ⟨C.ρ ++ [p], upd C.H p o, C.S.new v⟩ ∧ (C.ρ ++ [p])[C.S.n]? = some p := by
  have hat : (C.ρ ++ [p])[C.S.n]? = some p := by rw [← ok.len]; simp
  have x : Ext C ⟨C.ρ ++ [p], upd C.H p o, C.S.new v⟩ := {
    pre := fun i a h => by
      show (C.ρ ++ [p])[i]? = some a
      rw [List.getElem?_append_left (lt_of_get? h)]; exact h
    keep := fun a u h _ => by
      show upd C.H p o a = some u
      rw [upd_ne (ne_of_none h hp)]; exact h
    live := fun a h => by
      show upd C.H p o a ≠ none
      by_cases q : a = p
      · rw [q, upd_same]; simp
      · rw [upd_ne q]; exact h
    frz := fun a ob u h => by
      show upd C.H p o a = some (.frz ob u)
      rw [upd_ne (ne_of_none h hp)]; exact h
    new1 := fun i w h1 h2 => by
      have h1' : (C.S.new v).get i = some w := h1
      rw [get_new] at h1'
      rw [if_neg (by rw [← ok.len]; omega)] at h1'
      exact ⟨w, h1'⟩
    new2 := fun i a h1 h2 => by
      have h1' : (C.ρ ++ [p])[i]? = some a := h1
      rw [List.getElem?_append_right h2] at h1'
      have : a = p := by
        cases q : i - C.ρ.length with
        | zero => rw [q] at h1'; simpa using h1'.symm
        | succ n => rw [q] at h1'; simp at h1'
      rw [this]; exact hp }
  refine ⟨⟨?_, ?_, ?_, ?_⟩, x, hat⟩
  · show (C.ρ ++ [p]).length = C.S.n + 1
    simp [ok.len]
  · intro i j a h1 h2
    have np : ∀ (i : Nat), C.ρ[i]? ≠ some p := fun i h => ok.lv i p h hp
    have cases_ : ∀ (i : Nat) (a : Addr), (C.ρ ++ [p])[i]? = some a → (C.ρ[i]? = some a) ∨ (i = C.ρ.length ∧ a = p) := fun i a h => by
      by_cases hi : i < C.ρ.length
      · rw [List.getElem?_append_left hi] at h; exact .inl h
      · rw [List.getElem?_append_right (by omega)] at h
        cases q : i - C.ρ.length with
        | zero => rw [q] at h; exact .inr ⟨by omega, by simpa using h.symm⟩
        | succ n => rw [q] at h; simp at h
    rcases cases_ i a h1 with g1 | ⟨g1, e1⟩ <;> rcases cases_ j a h2 with g2 | ⟨g2, e2⟩
    · exact ok.nd i j a g1 g2
    · subst e2; exact absurd g1 (np i)
    · subst e1; exact absurd g2 (np j)
    · omega
  · intro i a h
    by_cases q : a = p
    · show upd C.H p o a ≠ none
      rw [q, upd_same]; simp
    · by_cases hi : i < C.ρ.length
      · have h' : (C.ρ ++ [p])[i]? = some a := h
        rw [List.getElem?_append_left hi] at h'
        exact x.live a (ok.lv i a h')
      · have := x.new2 i a h (by omega)
        have h' : (C.ρ ++ [p])[i]? = some a := h
        rw [List.getElem?_append_right (by omega)] at h'
        cases z : i - C.ρ.length with
        | zero => rw [z] at h'; exact absurd (by simpa using h'.symm) q
        | succ n => rw [z] at h'; simp at h'
  · intro i w h
    have h' : (C.S.new v).get i = some w := h
    rw [get_new] at h'
    by_cases q : C.S.n = i
    · rw [if_pos q] at h'
      cases h'
      subst q
      exact ⟨p, o, hat, upd_same, RO.mono ok x r⟩
    · rw [if_neg q] at h'
      obtain ⟨a, u, h1, h2, h3⟩ := ok.ob i w h'
      exact ⟨a, u, x.pre i a h1, by show upd C.H p o a = some u; rw [upd_ne (ne_of_none h2 hp)]; exact h2, RO.mono ok x h3⟩
/-- a heap that grew beside: only untracked places were taken -/
theorem Cf.beside {C : Cf} (ok : C.Ok G) {H' : Hp} (k : ∀ a o, C.H a = some o → H' a = some o) : (Cf.mk C.ρ H' C.S).Ok G ∧ Ext C ⟨C.ρ, H', C.S⟩ := by
  have x : Ext C ⟨C.ρ, H', C.S⟩ := ⟨fun _ _ h => h, fun a o h _ => k a o h, fun a h => by
    cases q : C.H a with
    | none => exact absurd q h
    | some o => show H' a ≠ none; rw [k a o q]; simp, fun a o u h => k a _ h, fun j w h _ => ⟨w, h⟩, fun j b h1 h2 => by
      have h1' : C.ρ[j]? = some b := h1
      rw [List.getElem?_eq_none h2] at h1'; cases h1'⟩
  exact ⟨⟨ok.len, ok.nd, fun j b h => x.live b (ok.lv j b h), fun j w h => by
    obtain ⟨b, u, h1, h2, h3⟩ := ok.ob j w h
    exact ⟨b, u, h1, k b u h2, RO.mono ok x h3⟩⟩, x⟩
/-- a new tuple -/
theorem Cf.tupd {C : Cf} (ok : C.Ok G) {p : Addr} {o : HO} (hp : C.H p = none) : (Cf.mk C.ρ (upd C.H p o) C.S).Ok G ∧ Ext C ⟨C.ρ, upd C.H p o, C.S⟩ :=
  Cf.beside ok fun a u h => by rw [upd_ne (ne_of_none h hp)]; exact h
end
end Ev

namespace Ev
open PySem PySem.Spec PyProof.Rows L2

/-! ### what a reckoning gives -/
abbrev Lo := List (Option W)
inductive Res (α : Type) where
  | ok (a : α) (S : FH)
  | exc (c : Nat) (x : W) (l : Lo) (S : FH)
  | pick (n : Nat) (f : Nat → Res α)
  | stuck
noncomputable def Res.bnd {α β : Type} (m : Res α) (k : α → FH → Res β) : Res β := Res.rec (motive := fun _ => Res β) (fun a S => k a S) (fun c x l S => .exc c x l S) (fun n _ ih => .pick n ih) .stuck m
theorem bnd_ok {α β : Type} {a : α} {S : FH} {k : α → FH → Res β} : (Res.ok a S).bnd k = k a S := rfl
theorem bnd_exc {α β : Type} {c x l} {S : FH} {k : α → FH → Res β} : (Res.exc c x l S).bnd k = .exc c x l S := rfl
theorem bnd_pick {α β : Type} {n f} {k : α → FH → Res β} : (Res.pick n f).bnd k = .pick n fun r => (f r).bnd k := rfl
theorem bnd_stuck {α β : Type} {k : α → FH → Res β} : (Res.stuck : Res α).bnd k = .stuck := rfl
noncomputable def getL (l : Lo) (i : Nat) : Option W := List.rec (motive := fun _ => Nat → Option W) (fun _ => none) (fun x _ ih i => Nat.rec (motive := fun _ => Option W) x (fun j _ => ih j) i) l i
def setL : Lo → Nat → Option W → Lo
  | [], _, _ => []
  | _ :: r, 0, w => w :: r
  | x :: r, i + 1, w => x :: setL r i w
theorem getL_eq : ∀ (l : Lo) (i : Nat), getL l i = (l[i]?).getD none
  | [], i => by simp [getL]
  | x :: r, 0 => by
    show x = _
    simp
  | x :: r, i + 1 => by
    have ih := getL_eq r i
    show getL r i = _
    simp [ih]
/-! the same by hand-overs: what is handed over is a value -/
noncomputable def setK {α : Type} (l : Lo) (i : Nat) (w : Option W) (k : Lo → α) : α := List.rec (motive := fun _ => Nat → (Lo → α) → α) (fun _ k => k []) (fun x r ih i k => Nat.rec (motive := fun _ => α) (k (w :: r)) (fun j _ => ih j fun r' => k (x :: r')) i) l i k
theorem setK_eq {α : Type} {w : Option W} : ∀ (l : Lo) (i : Nat) (k : Lo → α), setK l i w k = k (setL l i w)
  | [], i, k => rfl
  | x :: r, 0, k => rfl
  | x :: r, i + 1, k => setK_eq r i fun r' => k (x :: r')
noncomputable def fNat {α : Type} (n : Nat) (k : Nat → α) : α := Nat.rec (motive := fun _ => α) (k 0) (fun m _ => k (Nat.succ m)) n
theorem fNat_eq {α : Type} (n : Nat) (k : Nat → α) : fNat n k = k n := by cases n <;> rfl
noncomputable def fInt {α : Type} (i : Int) (k : Int → α) : α := Int.rec (motive := fun _ => α) (fun n => fNat n fun n => k (.ofNat n)) (fun n => fNat n fun n => k (.negSucc n)) i
theorem fInt_eq {α : Type} (i : Int) (k : Int → α) : fInt i k = k i := by
  cases i with
  | ofNat n => exact fNat_eq n fun n => k (.ofNat n)
  | negSucc n => exact fNat_eq n fun n => k (.negSucc n)
noncomputable def fBool {α : Type} (b : Bool) (k : Bool → α) : α := Bool.rec (motive := fun _ => α) (k false) (k true) b
theorem fBool_eq {α : Type} (b : Bool) (k : Bool → α) : fBool b k = k b := by cases b <;> rfl
noncomputable def newK {α : Type} (S : FH) (v : HV) (k : Nat → FH → α) : α := FH.rec (motive := fun _ => α) (fun n l => fNat n fun n => fNat (n + 1) fun m => k n ⟨m, (n, v) :: l⟩) S
theorem newK_eq {α : Type} (S : FH) (v : HV) (k : Nat → FH → α) : newK S v k = k S.n (S.new v) := by
  cases S with
  | mk n l =>
    show fNat n (fun n => fNat (n + 1) fun m => k n ⟨m, (n, v) :: l⟩) = _
    rw [fNat_eq, fNat_eq]; rfl
noncomputable def setAK {α : Type} (l : List (Nat × HV)) (i : Nat) (v : HV) (k : List (Nat × HV) → α) : α := List.rec (motive := fun _ => (List (Nat × HV) → α) → α) (fun k => k []) (fun p r ih k => Prod.rec (motive := fun _ => α) (fun j u => Bool.rec (motive := fun _ => α) (ih fun r' => k ((j, u) :: r')) (k ((j, v) :: r)) (Nat.beq j i)) p) l k
theorem setAK_eq {α : Type} {i : Nat} {v : HV} : ∀ (l : List (Nat × HV)) (k : List (Nat × HV) → α), setAK l i v k = k (setA l i v)
  | [], k => rfl
  | (j, u) :: r, k => by
    show Bool.rec (motive := fun _ => α) (setAK r i v fun r' => k ((j, u) :: r')) (k ((j, v) :: r)) (Nat.beq j i) = k (setA ((j, u) :: r) i v)
    have e : setA ((j, u) :: r) i v = match Nat.beq j i with | true => (j, v) :: r | false => (j, u) :: setA r i v := rfl
    rw [e]
    cases Nat.beq j i with
    | true => rfl
    | false => exact setAK_eq r _
noncomputable def FH.setK {α : Type} (S : FH) (i : Nat) (v : HV) (k : FH → α) : α := FH.rec (motive := fun _ => α) (fun n l => setAK l i v fun l' => k ⟨n, l'⟩) S
theorem FH.setK_eq {α : Type} (S : FH) (i : Nat) (v : HV) (k : FH → α) : S.setK i v k = k (S.set i v) := by
  cases S
  exact setAK_eq _ _
noncomputable def appK {α : Type} (l m : List W) (k : List W → α) : α := List.rec (motive := fun _ => (List W → α) → α) (fun k => k m) (fun x _ ih k => ih fun r => k (x :: r)) l k
theorem appK_eq {α : Type} {m : List W} : ∀ (l : List W) (k : List W → α), appK l m k = k (l ++ m)
  | [], k => rfl
  | x :: r, k => appK_eq r fun r => k (x :: r)
noncomputable def revK {α : Type} (l acc : List W) (k : List W → α) : α := List.rec (motive := fun _ => List W → α) (fun acc => k acc) (fun x _ ih acc => ih (x :: acc)) l acc
theorem revK_eq {α : Type} {k : List W → α} : ∀ (l acc : List W), revK l acc k = k (l.reverse ++ acc)
  | [], acc => rfl
  | x :: r, acc => by
    have := revK_eq (k := k) r (x :: acc)
    show revK r (x :: acc) k = _
    rw [this]; simp
theorem setL_eq : ∀ (l : Lo) (i : Nat) (w : Option W), setL l i w = l.set i w
  | [], i, w => by simp [setL]
  | x :: r, 0, w => by simp [setL]
  | x :: r, i + 1, w => by simp [setL, setL_eq r i w]

structure RL (G : Glo) (C : Cf) (l : Lo) (σ : L2.St) : Prop where
  len : l.length = σ.length
  at_ : ∀ (i : Nat) (w : W), l[i]? = some (some w) → ∃ v, σ[i]? = some (some v) ∧ RW G.K C.ρ C.H w v
def RX (G : Glo) (C : Cf) (c : Nat) (x : W) (cls : Value) (d : Option Addr) : Prop :=
  cls = .ref (G.cad c) ∧ match G.cfl c with
    | none => d = none
    | some f => ∃ dd v, d = some dd ∧ C.H dd = some (.xd [(f, v)]) ∧ RW G.K C.ρ C.H x v
theorem RL.mono {G : Glo} {C C' : Cf} {l : Lo} {σ : L2.St} (ok : C.Ok G) (x : Ext C C') (r : RL G C l σ) : RL G C' l σ :=
  ⟨r.len, fun i w h => by obtain ⟨v, h1, h2⟩ := r.at_ i w h; exact ⟨v, h1, h2.mono ok x⟩⟩
theorem RL.get {G : Glo} {C : Cf} {l : Lo} {σ : L2.St} (r : RL G C l σ) {i : Nat} {w : W} (h : getL l i = some w) : ∃ v, σ[i]? = some (some v) ∧ RW G.K C.ρ C.H w v := by
  rw [getL_eq] at h
  cases e : l[i]? with
  | none => rw [e] at h; cases h
  | some y => rw [e] at h; exact r.at_ i w (by rw [e]; exact congrArg some h)
theorem RL.set {G : Glo} {C : Cf} {l : Lo} {σ : L2.St} (r : RL G C l σ) {i : Nat} {w : W} {v : V} (h : RW G.K C.ρ C.H w v) : RL G C (setL l i (some w)) (σ.set i (some v)) := by
  refine ⟨by rw [setL_eq]; simp [r.len], fun j u e => ?_⟩
  rw [setL_eq] at e
  by_cases q : i = j
  · subst q
    by_cases hi : i < l.length
    · rw [List.getElem?_set_self hi] at e
      cases e
      exact ⟨v, by rw [List.getElem?_set_self (by rw [← r.len]; exact hi)], h⟩
    · rw [List.getElem?_eq_none (by simp; omega)] at e; cases e
  · rw [List.getElem?_set_ne q] at e
    rw [List.getElem?_set_ne q]
    exact r.at_ j u e

section
variable (G : Glo) (W' : WX)
def Post {α : Type} (C : Cf) (m : Res α) (Φ : α → Cf → Prop) : Prop := match m with
  | .ok a S => ∀ C' : Cf, C'.S = S → C'.Ok G → Ext C C' → Φ a C'
  | .exc c x l S => ∀ (C' : Cf) (cls : Value) (d : Option Addr) (σ' : L2.St), C'.S = S → C'.Ok G → Ext C C' → RX G C' c x cls d → RL G C' l σ' → W' cls d σ' C'.H
  | .pick n f => ∀ r : Nat, r < n → Post C (f r) Φ
  | .stuck => False
end
section
variable {G : Glo} {W' : WX} {α β : Type}
theorem Post.now {C : Cf} (ok : C.Ok G) {a : α} {Φ : α → Cf → Prop} (h : Post G W' C (.ok a C.S) Φ) : Φ a C := by
  unfold Post at h
  exact h C rfl ok (Ext.refl C)
theorem Post.base {C C' : Cf} (x : Ext C C') : ∀ {m : Res α} {Φ : α → Cf → Prop}, Post G W' C m Φ → Post G W' C' m Φ
  | .ok a S, Φ, h => by
    unfold Post at h ⊢
    exact fun D e ok y => h D e ok (x.trans y)
  | .exc c w l S, Φ, h => by
    unfold Post at h ⊢
    exact fun D cls d σ' e ok y => h D cls d σ' e ok (x.trans y)
  | .pick n f, Φ, h => by
    unfold Post at h ⊢
    exact fun r hr => Post.base x (h r hr)
  | .stuck, Φ, h => by
    unfold Post at h
    exact h.elim
theorem Post.mono {C : Cf} {Φ Ψ : α → Cf → Prop} (k : ∀ a (C' : Cf), C'.Ok G → Ext C C' → Φ a C' → Ψ a C') : ∀ {m : Res α}, Post G W' C m Φ → Post G W' C m Ψ
  | .ok a S, h => by
    unfold Post at h ⊢
    exact fun D e ok y => k a D ok y (h D e ok y)
  | .exc c w l S, h => by
    unfold Post at h ⊢
    exact h
  | .pick n f, h => by
    unfold Post at h ⊢
    exact fun r hr => Post.mono k (h r hr)
  | .stuck, h => by
    unfold Post at h
    exact h.elim
theorem Post.bnd {C : Cf} {k : α → FH → Res β} {Φ : β → Cf → Prop} : ∀ {m : Res α}, Post G W' C (m.bnd k) Φ → Post G W' C m fun a C1 => Post G W' C1 (k a C1.S) Φ
  | .ok a S, h => by
    rw [bnd_ok] at h
    unfold Post
    exact fun D e ok y => by rw [e]; exact Post.base y h
  | .exc c w l S, h => by
    rw [bnd_exc] at h
    unfold Post at h ⊢
    exact h
  | .pick n f, h => by
    rw [bnd_pick] at h
    unfold Post at h ⊢
    exact fun r hr => Post.bnd (h r hr)
  | .stuck, h => by
    rw [bnd_stuck] at h
    unfold Post at h
    exact h.elim
end

/-! ### readings -/
abbrev Evl := Lo → FH → Res W
abbrev Eva := Lo → FH → Res (List W)
abbrev Evt := Lo → FH → Res Bool
section
variable (G : Glo) (W' : WX)
def PhE (Q : VK) : W → Cf → Prop := fun w C' => ∀ v, RW G.K C'.ρ C'.H w v → Q v C'.H
def PhA (Q : List V → Hp → Prop) : List W → Cf → Prop := fun ws C' => ∀ vs, RWs G.K C'.ρ C'.H ws vs → Q vs C'.H
def PhT (Q : Bool → Hp → Prop) : Bool → Cf → Prop := fun b C' => Q b C'.H
def rdE (f : Evl) : TE := fun σ H Q => ∃ (C : Cf) (l : Lo), C.H = H ∧ C.Ok G ∧ RL G C l σ ∧ Post G W' C (f l C.S) (PhE G Q)
def rdA (f : Eva) : TA := fun σ H Q => ∃ (C : Cf) (l : Lo), C.H = H ∧ C.Ok G ∧ RL G C l σ ∧ Post G W' C (f l C.S) (PhA G Q)
def rdT (f : Evt) : TT := fun σ H Q => ∃ (C : Cf) (l : Lo), C.H = H ∧ C.Ok G ∧ RL G C l σ ∧ Post G W' C (f l C.S) (PhT Q)
end
theorem pe_imp {X : Cx} {e : Expr} {t t' : TE} (h : PE X e t) (k : ∀ σ H Q, t' σ H Q → t σ H Q) : PE X e t' := ⟨fun pins s σ H Q I q => h.run pins s σ H Q I (k σ H Q q)⟩
theorem pt_imp {X : Cx} {e : Expr} {t t' : TT} (h : PT X e t) (k : ∀ σ H Q, t' σ H Q → t σ H Q) : PT X e t' := ⟨fun pins s σ H Q I q => h.run pins s σ H Q I (k σ H Q q)⟩
theorem pw_imp {X : Cx} {e : Expr} {t t' : TT} (h : PW X e t) (k : ∀ σ H Q, t' σ H Q → t σ H Q) : PW X e t' := ⟨fun wh pins s σ H Q I q => h.run wh pins s σ H Q I (k σ H Q q)⟩
theorem pa_imp {X : Cx} {es : List Expr} {t t' : TA} (h : PA X es t) (k : ∀ σ H Q, t' σ H Q → t σ H Q) : PA X es t' := ⟨fun pos pins s σ H Q I q => h.run pos pins s σ H Q I (k σ H Q q)⟩
theorem ps_imp {X : Cx} {e : Stmt} {t t' : TS} (h : PS X e t) (k : ∀ D σ H, t' D σ H → t D σ H) : PS X e t' := ⟨fun pins s σ H D I q => h.run pins s σ H D I (k D σ H q)⟩
theorem pss_imp {X : Cx} {e : List Stmt} {t t' : TS} (h : PSs X e t) (k : ∀ D σ H, t' D σ H → t D σ H) : PSs X e t' := ⟨fun pins s σ H D I q => h.run pins s σ H D I (k D σ H q)⟩

/-- the context: what is fixed through a def's body -/
structure At (G : Glo) (X : Cx) (W' : WX) : Prop where
  k : X.K = G.K
  tk : Takes X W'
  calm : X.calm = true
section
variable (G : Glo) (X : Cx) (W' : WX)
def SE (f : Evl) (e : Expr) : Prop := PE X e (rdE G W' f)
def SA (f : Eva) (es : List Expr) : Prop := PA X es (rdA G W' f)
def ST (f : Evt) (e : Expr) : Prop := PT X e (rdT G W' f)
end

section
variable {G : Glo} {X : Cx} {W' : WX} {pos : Pos}
/-! ### names, constants -/
noncomputable def evVar (i : Nat) : Evl := fun l S => match getL l i with
  | some w => .ok w S
  | none => .stuck
theorem se_var {i : Nat} {e : Expr} (h : PE X e (tVar i)) : SE G X W' (evVar i) e := pe_imp h fun σ H Q ⟨C, l, e, ok, r, p⟩ => by
  subst e
  unfold evVar at p
  cases q : getL l i with
  | none => simp only [q] at p; unfold Post at p; exact p.elim
  | some w =>
    simp only [q] at p
    obtain ⟨v, h1, h2⟩ := r.get q
    exact ⟨v, h1, (Post.now ok p) v h2⟩
noncomputable def evK (v : V) : Evl := fun _ S => .ok (.k v) S
theorem se_k {v : V} {e : Expr} (h : PE X e (tC v)) : SE G X W' (evK v) e := pe_imp h fun σ H Q ⟨C, l, e, ok, r, p⟩ => by
  subst e
  exact (Post.now ok p) v (by unfold RW; rfl)
/-! ### argument lists, displays -/
noncomputable def eaNil : Eva := fun _ S => .ok [] S
noncomputable def eaCons (f : Evl) (g : Eva) : Eva := fun l S => (f l S).bnd fun w S1 => (g l S1).bnd fun ws S2 => .ok (w :: ws) S2
theorem sa_nil : SA G X W' eaNil [] := pa_imp pa_nil fun σ H Q ⟨C, l, e, ok, r, p⟩ => by
  subst e
  exact (Post.now ok p) [] .nil
theorem sa_cons {f : Evl} {g : Eva} {e : Expr} {es : List Expr} (h1 : SE G X W' f e) (h2 : SA G X W' g es) (hs : starEach (e :: es) X.env = (false, eval e X.env) :: starEach es X.env := by rfl) : SA G X W' (eaCons f g) (e :: es) :=
  pa_imp (pa_cons h1 h2 hs) fun σ H Q ⟨C, l, e, ok, r, p⟩ => by
    subst e
    refine ⟨C, l, rfl, ok, r, Post.mono (fun w C1 ok1 x1 p1 v rv => ?_) (Post.bnd p)⟩
    refine ⟨C1, l, rfl, ok1, r.mono ok x1, Post.mono (fun ws C2 ok2 x2 p2 vs rvs => ?_) (Post.bnd p1)⟩
    exact (Post.now ok2 p2) (v :: vs) (.cons (rv.mono ok1 x2) rvs)
def short (ws : List W) : Bool := Nat.ble ws.length 10000
theorem short_line {ws : List W} (h : short ws = true) : ws.length ≤ sizeLine := by
  have h1 : ws.length ≤ 10000 := Nat.le_of_ble_eq_true h
  rw [sizeLine_eq]; omega
noncomputable def evLst (f : Eva) : Evl := fun l S => (f l S).bnd fun ws S1 => match short ws with
  | true => newK S1 (.lst ws) fun n S2 => .ok (.obj n) S2
  | false => .stuck
theorem post_new {C : Cf} {Q : VK} (ok : C.Ok G) {v : HV} {o : HO} (p : Post G W' C (.ok (.obj C.S.n) (C.S.new v)) (PhE G Q)) (r : ∀ a, RO G C.ρ C.H a v o) : ∀ a, C.H a = none → Q (.ref a) (upd C.H a o) := fun a ha => by
  obtain ⟨ok1, x1, h1⟩ := Cf.alloc ok ha (r a)
  unfold Post at p
  refine p ⟨C.ρ ++ [a], upd C.H a o, C.S.new v⟩ rfl ok1 x1 (.ref a) ?_
  unfold RW
  exact ⟨a, rfl, h1⟩
theorem post_newL {C : Cf} {Q : VK} (ok : C.Ok G) {ws : List W} {vs : List V} (p : Post G W' C (.ok (.obj C.S.n) (C.S.new (.lst ws))) (PhE G Q)) (r : RWs G.K C.ρ C.H ws vs) : ∀ a, C.H a = none → Q (.ref a) (upd C.H a (.lst vs)) := post_new (o := .lst vs) ok p fun _ => r
theorem post_tup {C : Cf} {Q : VK} (ok : C.Ok G) {ws : List W} {vs : List V} (p : Post G W' C (.ok (.tup ws) C.S) (PhE G Q)) (r : RWs G.K C.ρ C.H ws vs) : ∀ a, C.H a = none → Q (.ref a) (upd C.H a (.tup vs)) := fun a ha => by
  obtain ⟨ok1, x1⟩ := Cf.tupd (o := .tup vs) ok ha
  unfold Post at p
  refine p ⟨C.ρ, upd C.H a (.tup vs), C.S⟩ rfl ok1 x1 (.ref a) ?_
  unfold RW
  exact ⟨a, vs, rfl, SqT.of upd_same, RWs.mono ok x1 ws r⟩
theorem se_lst {f : Eva} {es : List Expr} (h : SA G X W' f es) : SE G X W' (evLst f) (.List es pos) := pe_imp (pe_lst h) fun σ H Q ⟨C, l, e, ok, r, p⟩ => by
  subst e
  refine ⟨C, l, rfl, ok, r, Post.mono (fun ws C1 ok1 x1 p1 vs rvs => ?_) (Post.bnd p)⟩
  cases hs : short ws with
  | false => simp only [hs] at p1; unfold Post at p1; exact p1.elim
  | true =>
    simp only [hs, newK_eq] at p1
    exact ⟨by rw [rvs.length]; exact short_line hs, post_newL (vs := vs) ok1 p1 rvs⟩

/-! ### operators -/
abbrev Op2 := W → W → FH → Res W
def OpS (G : Glo) (r : R2) (g : Op2) : Prop := ∀ (W' : WX) (C : Cf) (a b : W) (x y : V) (Q : VK), C.Ok G → RW G.K C.ρ C.H a x → RW G.K C.ρ C.H b y → Post G W' C (g a b C.S) (PhE G Q) → r x y C.H Q
noncomputable def evBin (g : Op2) (fa fb : Evl) : Evl := fun l S => (fa l S).bnd fun a S1 => (fb l S1).bnd fun b S2 => g a b S2
theorem rd_bin {g : Op2} {r : R2} (hg : OpS G r g) {fa fb : Evl} {σ : L2.St} {H : Hp} {Q : VK} (h : rdE G W' (evBin g fa fb) σ H Q) : tOp r (rdE G W' fa) (rdE G W' fb) σ H Q := by
  obtain ⟨C, l, e, ok, rl, p⟩ := h
  subst e
  refine ⟨C, l, rfl, ok, rl, Post.mono (fun a C1 ok1 x1 p1 v rv => ?_) (Post.bnd p)⟩
  refine ⟨C1, l, rfl, ok1, rl.mono ok x1, Post.mono (fun b C2 ok2 x2 p2 u ru => ?_) (Post.bnd p1)⟩
  exact hg W' C2 a b v u Q ok2 (rv.mono ok1 x2) ru p2
theorem se_bin {op : Operator} {r : R2} {g : Op2} {fa fb : Evl} {a b : Expr} (ho : OpR X (binaryOp op) r) (hg : OpS G r g) (ha : SE G X W' fa a) (hb : SE G X W' fb b) : SE G X W' (evBin g fa fb) (.BinOp a op b pos) :=
  pe_imp (pe_op ho ha hb) fun σ H Q h => rd_bin hg h
theorem se_cmp {op : CmpOp} {r : R2} {g : Op2} {fa fb : Evl} {a b : Expr} (ho : OpR X (compareOp op) r) (hg : OpS G r g) (ha : SE G X W' fa a) (hb : SE G X W' fb b) (hm : behindInMarks op b = false) : SE G X W' (evBin g fa fb) (.Compare a [op] [b] pos) :=
  pe_imp (pe_cmpR ho ha hb hm) fun σ H Q h => rd_bin hg h
end
end Ev

namespace Ev
open PySem PySem.Spec PyProof.Rows L2

/-! ### truth, tests -/
def truW (w : W) (S : FH) : Option Bool := match w with
  | .k .non => some false
  | .k (.bl b) => some b
  | .k (.int i) => some (match i with | .ofNat n => !(Nat.beq n 0) | .negSucc _ => true)
  | .tup xs => some (match xs with | [] => false | _ :: _ => true)
  | .obj i => match S.get i with
    | some (.lst xs) => some (match xs with | [] => false | _ :: _ => true)
    | some .cel => some true
    | _ => none
  | _ => none
section
variable {G : Glo}
theorem tru_of {C : Cf} (ok : C.Ok G) {w : W} {v : V} {b : Bool} (r : RW G.K C.ρ C.H w v) (h : truW w C.S = some b) : TruV G.K v C.H b := by
  unfold truW at h
  split at h
  · cases h; unfold RW at r; subst r; rfl
  · cases h; unfold RW at r; subst r; rfl
  · rename_i i
    unfold RW at r; subst r
    cases h
    show _ = (i != 0)
    cases i with
    | ofNat n =>
      show (!(Nat.beq n 0)) = _
      cases n with
      | zero => rfl
      | succ n => rfl
    | negSucc n => rfl
  · rename_i xs
    unfold RW at r
    obtain ⟨a, vs, rfl, h1, h2⟩ := r
    cases h
    refine .inr (.inl ⟨vs, h1, ?_⟩)
    have := h2.length
    cases xs <;> cases vs <;> simp_all
  · rename_i i
    unfold RW at r
    obtain ⟨a, rfl, h1⟩ := r
    split at h
    · rename_i xs hx
      obtain ⟨b', o, h2, h3, h4⟩ := ok.ob i _ hx
      rw [h1] at h2; cases h2
      cases o <;> try exact h4.elim
      rename_i vs
      have h5 : RWs G.K C.ρ C.H xs vs := h4
      cases h
      refine .inl ⟨vs, SqL.of h3, ?_⟩
      have := h5.length
      cases xs <;> cases vs <;> simp_all
    · rename_i hx
      obtain ⟨b', o, h2, h3, h4⟩ := ok.ob i _ hx
      rw [h1] at h2; cases h2
      cases o <;> try exact h4.elim
      rename_i vs
      obtain ⟨ns, n1, n2⟩ : ∃ ns : List Int, ns ≠ [] ∧ vs = ns.map V.int := h4
      cases h
      refine .inl ⟨vs, SqL.of h3, ?_⟩
      subst n2
      cases ns <;> simp_all
    · cases h
  · cases h
end
def ifTru {α : Type} (w : W) (S : FH) (k : Bool → Res α) : Res α := match truW w S with
  | some b => k b
  | none => .stuck
section
variable {G : Glo} {X : Cx} {W' : WX} {pos : Pos} {α : Type}
theorem post_tru {C : Cf} (ok : C.Ok G) {w : W} {v : V} {k : Bool → Res α} {Φ : α → Cf → Prop} (r : RW G.K C.ρ C.H w v) (p : Post G W' C (ifTru w C.S k) Φ) : ∃ b, TruV G.K v C.H b ∧ Post G W' C (k b) Φ := by
  unfold ifTru at p
  cases h : truW w C.S with
  | none => simp only [h] at p; unfold Post at p; exact p.elim
  | some b => simp only [h] at p; exact ⟨b, tru_of ok r h, p⟩
noncomputable def etTru (f : Evl) : Evt := fun l S => (f l S).bnd fun w S1 => ifTru w S1 fun b => .ok b S1
theorem st_tru {f : Evl} {e : Expr} (hk : X.K = G.K) (h : SE G X W' f e) (he : ∀ whole, isTrue e X.env whole = (do let v ← whole; standAt e.pos; holding [v] (truthy v))) : ST G X W' (etTru f) e :=
  pt_imp (pt_truth h he) fun σ H Q ⟨C, l, e, ok, r, p⟩ => by
    subst e
    refine ⟨C, l, rfl, ok, r, Post.mono (fun w C1 ok1 x1 p1 v rv => ?_) (Post.bnd p)⟩
    obtain ⟨b, h1, h2⟩ := post_tru ok1 rv p1
    exact ⟨b, by rw [hk]; exact h1, Post.now ok1 h2⟩
def boolW {α : Type} (w : W) (k : Bool → Res α) : Res α := match w with
  | .k (.bl b) => k b
  | _ => .stuck
theorem post_bool {C : Cf} {w : W} {v : V} {k : Bool → Res α} {Φ : α → Cf → Prop} (r : RW G.K C.ρ C.H w v) (p : Post G W' C (boolW w k) Φ) : ∃ b, v = .bl b ∧ Post G W' C (k b) Φ := by
  unfold boolW at p
  split at p
  · unfold RW at r; exact ⟨_, r, p⟩
  · unfold Post at p; exact p.elim
noncomputable def etBin (g : Op2) (fa fb : Evl) : Evt := fun l S => (evBin g fa fb l S).bnd fun w S1 => boolW w fun b => .ok b S1
theorem rd_tbin {g : Op2} {r : R2} (hg : OpS G r g) {fa fb : Evl} {σ : L2.St} {H : Hp} {Q : Bool → Hp → Prop} (h : rdT G W' (etBin g fa fb) σ H Q) : tTest (tOp r (rdE G W' fa) (rdE G W' fb)) σ H Q := by
  obtain ⟨C, l, e, ok, rl, p⟩ := h
  refine rd_bin hg (fa := fa) (fb := fb) ⟨C, l, e, ok, rl, Post.mono (fun w C1 ok1 x1 p1 v rv => ?_) (Post.bnd p)⟩
  obtain ⟨b, h1, h2⟩ := post_bool rv p1
  exact ⟨b, h1, Post.now ok1 h2⟩
theorem st_cmp {op : CmpOp} {r : R2} {g : Op2} {fa fb : Evl} {a b : Expr} (ho : OpR X (compareOp op) r) (hg : OpS G r g) (ha : SE G X W' fa a) (hb : SE G X W' fb b) (hm : behindInMarks op b = false) : ST G X W' (etBin g fa fb) (.Compare a [op] [b] pos) :=
  pt_imp (pt_cmpR ho ha hb hm) fun σ H Q h => rd_tbin hg h
noncomputable def etNot (f : Evt) : Evt := fun l S => (f l S).bnd fun b S1 => .ok (!b) S1
theorem st_not {f : Evt} {e : Expr} (h : ST G X W' f e) : ST G X W' (etNot f) (.UnaryOp .Not e pos) := pt_imp (pt_not h) fun σ H Q ⟨C, l, e, ok, r, p⟩ => by
  subst e
  refine ⟨C, l, rfl, ok, r, Post.mono (fun b C1 ok1 x1 p1 => ?_) (Post.bnd p)⟩
  have q : PhT Q (!b) C1 := Post.now ok1 p1
  exact q
def SW (G : Glo) (X : Cx) (W' : WX) (f : Evt) (e : Expr) : Prop := PW X e (rdT G W' f)
theorem sw_or1 {f : Evt} {a : Expr} (h : ST G X W' f a) : SW G X W' f (.BoolOp .Or [a] pos) := pw_or1 h
noncomputable def etOr (f g : Evt) : Evt := fun l S => (f l S).bnd fun b S1 => match b with
  | true => .ok true S1
  | false => g l S1
theorem sw_or {f g : Evt} {a b : Expr} {rest : List Expr} (h : ST G X W' f a) (h2 : SW G X W' g (.BoolOp .Or (b :: rest) pos)) : SW G X W' (etOr f g) (.BoolOp .Or (a :: b :: rest) pos) := pw_imp (pw_or h h2) fun σ H Q ⟨C, l, e, ok, r, p⟩ => by
  subst e
  refine ⟨C, l, rfl, ok, r, Post.mono (fun b C1 ok1 x1 p1 => ?_) (Post.bnd p)⟩
  unfold PhT
  cases b with
  | true => exact iteT (Post.now ok1 p1)
  | false => exact iteF ⟨C1, l, rfl, ok1, r.mono ok x1, p1⟩
theorem st_w {f : Evt} {e : Expr} (h : SW G X W' f e) : ST G X W' f e := PW.pt h
/-! .. as values -/
noncomputable def evAnd (f g : Evl) : Evl := fun l S => (f l S).bnd fun w S1 => ifTru w S1 fun b => match b with
  | true => g l S1
  | false => .ok w S1
theorem se_one {op} {f : Evl} {a : Expr} (h : SE G X W' f a) : SE G X W' f (.BoolOp op [a] pos) := pe_one h
theorem se_and {f g : Evl} {a b : Expr} {rest : List Expr} (hk : X.K = G.K) (h : SE G X W' f a) (h2 : SE G X W' g (.BoolOp .And (b :: rest) pos)) : SE G X W' (evAnd f g) (.BoolOp .And (a :: b :: rest) pos) := pe_imp (pe_andT h h2) fun σ H Q ⟨C, l, e, ok, r, p⟩ => by
  subst e
  refine ⟨C, l, rfl, ok, r, Post.mono (fun w C1 ok1 x1 p1 v rv => ?_) (Post.bnd p)⟩
  obtain ⟨b, h1, h2⟩ := post_tru ok1 rv p1
  refine ⟨b, by rw [hk]; exact h1, ?_⟩
  cases b with
  | true => exact iteT ⟨C1, l, rfl, ok1, r.mono ok x1, h2⟩
  | false => exact iteF ((Post.now ok1 h2) v rv)
noncomputable def evNot (f : Evl) : Evl := fun l S => (f l S).bnd fun w S1 => ifTru w S1 fun b => .ok (.k (.bl (!b))) S1
theorem se_not {f : Evl} {e : Expr} (hk : X.K = G.K) (h : SE G X W' f e) : SE G X W' (evNot f) (.UnaryOp .Not e pos) := pe_imp (pe_notT h) fun σ H Q ⟨C, l, e, ok, r, p⟩ => by
  subst e
  refine ⟨C, l, rfl, ok, r, Post.mono (fun w C1 ok1 x1 p1 v rv => ?_) (Post.bnd p)⟩
  obtain ⟨b, h1, h2⟩ := post_tru ok1 rv p1
  exact ⟨b, by rw [hk]; exact h1, (Post.now ok1 h2) (.bl (!b)) (by unfold RW; rfl)⟩
end

/-! ### statements -/
inductive Fl where
  | nx (l : Lo)
  | rt (w : W)
  | bk (l : Lo)
  | ct (l : Lo)
abbrev Evs := Lo → FH → Res Fl
section
variable (G : Glo) (W' : WX)
def PhS (D : Ends) : Fl → Cf → Prop := fun f C' => match f with
  | .nx l => ∀ σ, RL G C' l σ → D.nx σ C'.H
  | .rt w => ∀ v, RW G.K C'.ρ C'.H w v → D.rt v C'.H
  | .bk l => ∀ σ, RL G C' l σ → D.bk σ C'.H
  | .ct l => ∀ σ, RL G C' l σ → D.ct σ C'.H
def rdS (f : Evs) : TS := fun D σ H => ∃ (C : Cf) (l : Lo), C.H = H ∧ C.Ok G ∧ RL G C l σ ∧ Post G W' C (f l C.S) (PhS G D)
end
section
variable (G : Glo) (X : Cx) (W' : WX)
def SS (f : Evs) (e : Stmt) : Prop := PS X e (rdS G W' f)
def SSs (f : Evs) (e : List Stmt) : Prop := PSs X e (rdS G W' f)
end
section
variable {G : Glo} {X : Cx} {W' : WX} {pos : Pos}
noncomputable def esNil : Evs := fun l S => .ok (.nx l) S
noncomputable def esSeq (f g : Evs) : Evs := fun l S => (f l S).bnd fun r S1 => match r with
  | .nx l1 => g l1 S1
  | .rt w => .ok (.rt w) S1
  | .bk l1 => .ok (.bk l1) S1
  | .ct l1 => .ok (.ct l1) S1
theorem ss_nil : SSs G X W' esNil [] := pss_imp pss_nil fun D σ H ⟨C, l, e, ok, r, p⟩ => by
  subst e
  exact (Post.now ok p) σ r
theorem ss_cons {f g : Evs} {st : Stmt} {rest : List Stmt} (h1 : SS G X W' f st) (h2 : SSs G X W' g rest) : SSs G X W' (esSeq f g) (st :: rest) := pss_imp (pss_cons h1 h2) fun D σ H ⟨C, l, e, ok, r, p⟩ => by
  subst e
  refine ⟨C, l, rfl, ok, r, Post.mono (fun fl C1 ok1 x1 p1 => ?_) (Post.bnd p)⟩
  cases fl with
  | nx l1 => exact fun σ1 r1 => ⟨C1, l1, rfl, ok1, r1, p1⟩
  | rt w => exact Post.now (W' := W') ok1 p1
  | bk l1 => exact Post.now (W' := W') ok1 p1
  | ct l1 => exact Post.now (W' := W') ok1 p1
theorem ss_one {f : Evs} {st : Stmt} (h1 : SS G X W' f st) : SSs G X W' f [st] := pss_one h1
noncomputable def esRet (f : Evl) : Evs := fun l S => (f l S).bnd fun w S1 => .ok (.rt w) S1
theorem ss_ret {f : Evl} {e : Expr} (h : SE G X W' f e) : SS G X W' (esRet f) (.Return (some e) pos) := ps_imp (ps_ret h) fun D σ H ⟨C, l, e, ok, r, p⟩ => by
  subst e
  exact ⟨C, l, rfl, ok, r, Post.mono (fun w C1 ok1 x1 p1 v rv => (Post.now (W' := W') ok1 p1) v rv) (Post.bnd p)⟩
noncomputable def esIf (c : Evt) (f g : Evs) : Evs := fun l S => (c l S).bnd fun b S1 => match b with
  | true => f l S1
  | false => g l S1
theorem ss_if {c : Evt} {f g : Evs} {ec : Expr} {a b : List Stmt} (hc : ST G X W' c ec) (ha : SSs G X W' f a) (hb : SSs G X W' g b) : SS G X W' (esIf c f g) (.If ec a b pos) := ps_imp (ps_if hc ha hb) fun D σ H ⟨C, l, e, ok, r, p⟩ => by
  subst e
  refine ⟨C, l, rfl, ok, r, Post.mono (fun b C1 ok1 x1 p1 => ?_) (Post.bnd p)⟩
  unfold PhT
  cases b with
  | true => exact iteT ⟨C1, l, rfl, ok1, r.mono ok x1, p1⟩
  | false => exact iteF ⟨C1, l, rfl, ok1, r.mono ok x1, p1⟩
/-! ### targets -/
abbrev Tg := W → Lo → FH → Option Lo
/-- only the slots of ks were turned -/
def Turned (ks : List Nat) (σ σ1 : L2.St) : Prop := σ1.length = σ.length ∧ ∀ j : Nat, j ∉ ks → σ1[j]? = σ[j]?
noncomputable def tgName (i : Nat) : Tg := fun w l _ => setK l i (some w) some
theorem tgName_eq {i : Nat} {w : W} {l : Lo} {S : FH} : tgName i w l S = some (setL l i (some w)) := setK_eq _ _ _
abbrev Tgs := List W → Lo → FH → Option Lo
def tgNil : Tgs := fun ws l _ => match ws with
  | [] => some l
  | _ :: _ => none
def tgCons (t : Tg) (r : Tgs) : Tgs := fun ws l S => match ws with
  | [] => none
  | w :: ws => match t w l S with
    | some l1 => r ws l1 S
    | none => none
/-- (a, b, ..) = a tuple -/
def tgTup (n : Nat) (r : Tgs) : Tg := fun w l S => match w with
  | .tup ws => match Nat.beq ws.length n with
    | true => r ws l S
    | false => none
  | _ => none
/-! ### assignments -/
def ofTg (o : Option Lo) (S : FH) : Res Fl := match o with
  | some l => .ok (.nx l) S
  | none => .stuck
noncomputable def esAsg (f : Evl) (t : Tg) : Evs := fun l S => (f l S).bnd fun w S1 => ofTg (t w l S1) S1
noncomputable def esSet (i : Nat) (f : Evl) : Evs := esAsg f (tgName i)
theorem ss_set {i : Nat} {x : Str} {f : Evl} {e : Expr} {pos' : Pos} (hN : X.N.Nodup) (hi : X.N[i]? = some x) (hx : Loc X.env.scope x) (he : SE G X W' f e) (hs : swapsWith e (some (.Name x pos')) pos.line X.env = pure false := by rfl)
    (hf : X.fn x = true ∨ X.env.scope.names.lookup x = some .local := by first | exact .inl rfl | exact .inr rfl | assumption) : SS G X W' (esSet i f) (.Assign [.Name x pos'] e pos) :=
  ps_imp (ps_set hN hi hx he hs hf) fun D σ H ⟨C, l, e, ok, r, p⟩ => by
    subst e
    refine ⟨C, l, rfl, ok, r, Post.mono (fun w C1 ok1 x1 p1 v rv => ?_) (Post.bnd p)⟩
    rw [tgName_eq] at p1
    exact (Post.now (W' := W') ok1 p1) _ ((r.mono ok x1).set rv)
end
end Ev

namespace Ev
open PySem PySem.Spec PyProof.Rows L2

/-! ### what a for walks: at turn i it stops, or yields -/
abbrev Src := Nat → FH → Option (Option W)
abbrev Evi := Lo → FH → Res Src
def SrcOk (G : Glo) (nx : Src) (J : It) (C0 : Cf) : Prop := ∀ C : Cf, C.Ok G → Ext C0 C → ∀ i : Nat, (nx i C.S = some none → J.stop i C.H) ∧
  ∀ w, nx i C.S = some (some w) → J.go i C.H ∧ ∀ x H', J.yld i C.H x H' → ∃ C' : Cf, C'.H = H' ∧ C'.S = C.S ∧ C'.Ok G ∧ Ext C C' ∧ RW G.K C'.ρ C'.H w x
theorem SrcOk.mono {G : Glo} {nx : Src} {J : It} {C C' : Cf} (h : SrcOk G nx J C) (x : Ext C C') : SrcOk G nx J C' := fun D ok y => h D ok (x.trans y)
def PhI (G : Glo) (R : It → Hp → Prop) : Src → Cf → Prop := fun nx C' => ∀ J, SrcOk G nx J C' → R J C'.H
def rdI (G : Glo) (W' : WX) (f : Evi) : TI := fun σ H R => ∃ (C : Cf) (l : Lo), C.H = H ∧ C.Ok G ∧ RL G C l σ ∧ Post G W' C (f l C.S) (PhI G R)
def SI (G : Glo) (X : Cx) (W' : WX) (f : Evi) (tg e : Expr) : Prop := PI X tg e (rdI G W' f)
theorem pi_imp {X : Cx} {tg e : Expr} {t t' : TI} (h : PI X tg e t) (k : ∀ σ H R, t' σ H R → t σ H R) : PI X tg e t' := ⟨fun pins s σ H R I q => h.run pins s σ H R I (k σ H R q)⟩
noncomputable def nth (l : List W) (i : Nat) : Option W := List.rec (motive := fun _ => Nat → Option W) (fun _ => none) (fun x _ ih i => Nat.rec (motive := fun _ => Option W) (some x) (fun j _ => ih j) i) l i
theorem nth_eq : ∀ (l : List W) (i : Nat), nth l i = l[i]?
  | [], i => by simp [nth]
  | w :: r, 0 => by
    show some w = _
    simp
  | w :: r, i + 1 => by
    have ih := nth_eq r i
    show nth r i = _
    simp [ih]
noncomputable def srcT (ws : List W) : Src := fun i _ => some (nth ws i)
noncomputable def srcO (j : Nat) : Src := fun i S => match S.get j with
  | some (.lst xs) => some (nth xs i)
  | _ => none
section
variable {G : Glo} {X : Cx} {W' : WX} {pos : Pos}
theorem RWs.get' {K : PySem.W.Frag} {ρ : List Addr} {H : Hp} {ws : List W} {vs : List V} (h : RWs K ρ H ws vs) (i : Nat) : (nth ws i = none → vs.length ≤ i) ∧ ∀ w, nth ws i = some w → ∃ v, vs[i]? = some v ∧ RW K ρ H w v := by
  rw [nth_eq]
  refine ⟨fun e => ?_, fun w e => h.get e⟩
  have := List.getElem?_eq_none_iff.mp e
  rw [h.length]; exact this
theorem Cf.lstAt {C : Cf} (ok : C.Ok G) {j : Nat} {xs : List W} (h : C.S.get j = some (.lst xs)) : ∃ a vs, C.ρ[j]? = some a ∧ C.H a = some (.lst vs) ∧ RWs G.K C.ρ C.H xs vs := by
  obtain ⟨a, o, h1, h2, h3⟩ := ok.ob j _ h
  cases o <;> try exact h3.elim
  rename_i vs
  exact ⟨a, vs, h1, h2, h3⟩
theorem srcO_ok {C0 : Cf} {j : Nat} {a : Addr} (ha : C0.ρ[j]? = some a) : SrcOk G (srcO j) (Itl G.K a) C0 := fun C ok x i => by
  have ha' := x.pre j a ha
  unfold srcO
  cases q : C.S.get j with
  | none => simp
  | some v =>
    cases v with
    | lst xs =>
      obtain ⟨a', vs, h1, h2, h3⟩ := Cf.lstAt ok q
      rw [ha'] at h1; cases h1
      refine ⟨fun e => ?_, fun w e => ?_⟩
      · exact ⟨vs, SqL.of h2, (h3.get' i).1 (Option.some.inj e)⟩
      · obtain ⟨v, e1, e2⟩ := (h3.get' i).2 w (Option.some.inj e)
        refine ⟨⟨vs, v, SqL.of h2, e1⟩, fun y H' ⟨hH, hy⟩ => ⟨C, hH.symm, rfl, ok, Ext.refl C, ?_⟩⟩
        have := hy vs (SqL.of h2)
        rw [e1] at this
        cases this
        exact e2
    | cel => simp
    | urn => simp
    | ins => simp
    | dki => simp
    | sti => simp
    | exv => simp
    | dct => simp
    | fdc => simp
theorem srcT_ok {C0 : Cf} (ok0 : C0.Ok G) {ws : List W} {a : Addr} {vs : List V} (ht : SqT G.K C0.H a vs) (r : RWs G.K C0.ρ C0.H ws vs) : SrcOk G (srcT ws) (Itt G.K a) C0 := fun C ok x i => by
  have ht' := x.tup ok0 ht
  have r' := RWs.mono ok0 x ws r
  unfold srcT
  refine ⟨fun e => ⟨vs, ht', (r'.get' i).1 (Option.some.inj e)⟩, fun w e => ?_⟩
  obtain ⟨v, e1, e2⟩ := (r'.get' i).2 w (Option.some.inj e)
  refine ⟨⟨vs, v, ht', e1⟩, fun y H' ⟨hH, hy⟩ => ⟨C, hH.symm, rfl, ok, Ext.refl C, ?_⟩⟩
  have := hy vs ht'
  rw [e1] at this
  cases this
  exact e2
/-- a list or a tuple -/
def iSeq (K : PySem.W.Frag) (tl : TE) : TI := fun σ H R => tl σ H fun x H1 => ∃ a, x = .ref a ∧ (((∃ xs, SqL K H1 a xs) ∧ R (Itl K a) H1) ∨ ((∃ xs, SqT K H1 a xs) ∧ R (Itt K a) H1))
theorem pi_seq {tg l : Expr} {tl : TE} (hl : PE X l tl) : PI X tg l (iSeq X.K tl) := by
  refine ⟨fun pins s σ H R I h => ?_⟩
  refine thn (hl.run pins s σ H _ I h) fun v s1 ⟨x, H1, I1, r1, q1⟩ => ?_
  obtain ⟨a, e, q1⟩ := q1
  subst e
  cases r1
  rcases q1 with ⟨⟨xs, hq⟩, q⟩ | ⟨⟨xs, hq⟩, q⟩
  · obtain ⟨its, rv, p, hz⟩ := I1.list hq
    refine wpAny_pyIter_list p.isList ?_
    refine ⟨s1.heap.objs.size, [s1.heap.objs.size], _, _, H1, rfl, I1.kept (t' := s1.toks) fun b o e => Heap.get?_push_of_some _ e, turn_list a _, ⟨_, Heap.get?_push_size _ rfl, rfl, rfl⟩, fun b hb => ?_, q⟩
    have e : b = s1.heap.objs.size := by simpa using hb
    subst e
    exact I1.fpOk (Nat.le_refl _) (I1.hok.fresh (Nat.le_refl _))
  · obtain ⟨its, rv, p, hz⟩ := I1.tuple hq
    refine wpAny_pyIter_tuple (show s1.heap.IsTuple a its.toArray from p) ?_
    refine ⟨s1.heap.objs.size, [s1.heap.objs.size], _, _, H1, rfl, I1.kept (t' := s1.toks) fun b o e => Heap.get?_push_of_some _ e, turn_tuple a _, ⟨_, Heap.get?_push_size _ rfl, rfl, rfl⟩, fun b hb => ?_, q⟩
    have e : b = s1.heap.objs.size := by simpa using hb
    subst e
    exact I1.fpOk (Nat.le_refl _) (I1.hok.fresh (Nat.le_refl _))
noncomputable def ofSeq (w : W) (S : FH) : Res Src := match w with
  | .tup ws => .ok (srcT ws) S
  | .mix ws => .ok (srcT ws) S
  | .obj j => match S.get j with
    | some (.lst _) => .ok (srcO j) S
    | _ => .stuck
  | _ => .stuck
noncomputable def eiSeq (f : Evl) : Evi := fun l S => (f l S).bnd fun w S1 => ofSeq w S1
theorem srcM_ok {C0 : Cf} (ok0 : C0.Ok G) {ws : List W} {a : Addr} {o : Obj} {vs : List V} (ht : C0.H a = some (.frz o (.lst vs))) (r : RWs G.K C0.ρ C0.H ws vs) : SrcOk G (srcT ws) (Itl G.K a) C0 := fun C ok x i => by
  have ht' : SqL G.K C.H a vs := .inl (.inr ⟨o, x.frz a o _ ht⟩)
  have r' := RWs.mono ok0 x ws r
  unfold srcT
  refine ⟨fun e => ⟨vs, ht', (r'.get' i).1 (Option.some.inj e)⟩, fun w e => ?_⟩
  obtain ⟨v, e1, e2⟩ := (r'.get' i).2 w (Option.some.inj e)
  refine ⟨⟨vs, v, ht', e1⟩, fun y H' ⟨hH, hy⟩ => ⟨C, hH.symm, rfl, ok, Ext.refl C, ?_⟩⟩
  have := hy vs ht'
  rw [e1] at this
  cases this
  exact e2
theorem post_seq {C : Cf} (ok : C.Ok G) {w : W} {v : V} {R : It → Hp → Prop} (rv : RW G.K C.ρ C.H w v) (p : Post G W' C (ofSeq w C.S) (PhI G R)) :
    ∃ a, v = .ref a ∧ (((∃ xs, SqL G.K C.H a xs) ∧ R (Itl G.K a) C.H) ∨ ((∃ xs, SqT G.K C.H a xs) ∧ R (Itt G.K a) C.H)) := by
  unfold ofSeq at p
  split at p
  · unfold RW at rv
    obtain ⟨a, vs, rfl, h1, h2⟩ := rv
    exact ⟨a, rfl, .inr ⟨⟨vs, h1⟩, (Post.now ok p) _ (srcT_ok ok h1 h2)⟩⟩
  · unfold RW at rv
    obtain ⟨a, vs, rfl, h1, h2⟩ := rv
    rcases h1 with h1 | ⟨o, h1⟩
    · exact ⟨a, rfl, .inr ⟨⟨vs, h1⟩, (Post.now ok p) _ (srcT_ok ok h1 h2)⟩⟩
    · exact ⟨a, rfl, .inl ⟨⟨vs, .inl (.inr ⟨o, h1⟩)⟩, (Post.now ok p) _ (srcM_ok ok h1 h2)⟩⟩
  · unfold RW at rv
    obtain ⟨a, rfl, h1⟩ := rv
    split at p
    · rename_i hx
      obtain ⟨a', vs, h2, h3, h4⟩ := Cf.lstAt ok hx
      rw [h1] at h2; cases h2
      exact ⟨a, rfl, .inl ⟨⟨vs, SqL.of h3⟩, (Post.now ok p) _ (srcO_ok h1)⟩⟩
    · unfold Post at p; exact p.elim
  · unfold Post at p; exact p.elim
theorem si_seq {f : Evl} {tg e : Expr} (hk : X.K = G.K) (h : SE G X W' f e) : SI G X W' (eiSeq f) tg e := pi_imp (pi_seq h) fun σ H R ⟨C, l, e, ok, r, p⟩ => by
  subst e
  rw [hk]
  exact ⟨C, l, rfl, ok, r, Post.mono (fun w C1 ok1 x1 p1 v rv => post_seq ok1 rv p1) (Post.bnd (k := fun w S1 => ofSeq w S1) p)⟩
/-- range(n), range(a, b) -/
noncomputable def srcR (lo : Int) (n : Nat) : Src := fun i _ => match Nat.blt i n with
  | true => fInt (lo + i) fun j => some (some (.k (.int j)))
  | false => some none
theorem srcR_ok {C0 : Cf} {lo : Int} {n : Nat} : SrcOk G (srcR lo n) (Itr lo n) C0 := fun C ok x i => by
  unfold srcR
  cases q : Nat.blt i n with
  | true =>
    have : i < n := Nat.le_of_ble_eq_true q
    simp only [fInt_eq]
    refine ⟨fun e => (nomatch e), fun w e => ⟨this, fun y H' ⟨hH, hy⟩ => ⟨C, hH.symm, rfl, ok, Ext.refl C, ?_⟩⟩⟩
    cases e
    unfold RW
    exact hy
  | false =>
    refine ⟨fun _ => ?_, fun w e => (nomatch e)⟩
    show n ≤ i
    apply Nat.le_of_not_lt
    intro h
    have : Nat.blt i n = true := Nat.ble_eq_true_of_le h
    rw [this] at q; cases q
def intW {α : Type} (w : W) (k : Int → Res α) : Res α := match w with
  | .k (.int i) => k i
  | _ => .stuck
theorem post_int {α : Type} {C : Cf} {w : W} {v : V} {k : Int → Res α} {Φ : α → Cf → Prop} (r : RW G.K C.ρ C.H w v) (p : Post G W' C (intW w k) Φ) : ∃ i, v = .int i ∧ Post G W' C (k i) Φ := by
  unfold intW at p
  split at p
  · unfold RW at r; exact ⟨_, r, p⟩
  · unfold Post at p; exact p.elim
def small (i : Int) : Bool := match i with
  | .ofNat n => Nat.blt n 1000000000
  | .negSucc n => Nat.blt n 1000000000
theorem small_in {i : Int} (h : small i = true) : -(2 ^ 62) ≤ i ∧ i < 2 ^ 62 ∧ -1000000000 ≤ i ∧ i < 1000000000 := by
  unfold small at h
  cases i with
  | ofNat n =>
    have h : n < 1000000000 := Nat.le_of_ble_eq_true h
    have : (n : Int) < 1000000000 := by omega
    show -(2 ^ 62) ≤ (n : Int) ∧ (n : Int) < 2 ^ 62 ∧ -1000000000 ≤ (n : Int) ∧ (n : Int) < 1000000000
    omega
  | negSucc n =>
    have h : n < 1000000000 := Nat.le_of_ble_eq_true h
    omega
noncomputable def eiRng1 (f : Evl) : Evi := fun l S => (f l S).bnd fun w S1 => intW w fun j => match small j with
  | true => fNat j.toNat fun n => .ok (srcR 0 n) S1
  | false => .stuck
theorem rws1 {K : PySem.W.Frag} {ρ : List Addr} {H : Hp} {vs : List V} {w : W} (h : RWs K ρ H [w] vs) : ∃ v, vs = [v] ∧ RW K ρ H w v := by
  unfold RWs RWs at h
  obtain ⟨v, r, rfl, h1, rfl⟩ := h
  exact ⟨v, rfl, h1⟩
theorem si_rng1 {f : Evl} {tg e : Expr} {p : Pos} (hg : Gl X "range") (hm : X.mg "range" = none) (h : SE G X W' f e) (hs : starEach [e] X.env = [(false, eval e X.env)] := by rfl) : SI G X W' (eiRng1 f) tg (.Call (.Name "range" p) [e] [] pos) :=
  pi_imp (pi_range1 hg hm (pa_cons h pa_nil hs) hs) fun σ H R ⟨C, l, e, ok, r, p⟩ => by
    subst e
    refine ⟨C, l, rfl, ok, r, Post.mono (fun w C1 ok1 x1 p1 v rv => ?_) (Post.bnd p)⟩
    obtain ⟨j, rfl, p2⟩ := post_int rv p1
    cases q : small j with
    | false => simp only [q] at p2; unfold Post at p2; exact p2.elim
    | true =>
      simp only [q, fNat_eq] at p2
      have := small_in q
      exact ⟨j, rfl, this.1, this.2.1, (Post.now ok1 p2) _ srcR_ok⟩
/-! ### for -/
/-! ### while -/
end
end Ev

namespace Ev
theorem KIs.map_ {K : PySem.W.Frag} {ρ ρ' : List PySem.Addr} {H H' : L2.Hp} (f : ∀ w v, RW K ρ H w v → RW K ρ' H' w v) : ∀ {kvs : List (Int × W)} {ys : List (L2.Key × L2.V)}, KIs K ρ H kvs ys → KIs K ρ' H' kvs ys
  | [], _, h => h
  | p :: r, _, h => by
    obtain ⟨v, ys', e, h2, h3⟩ := h
    exact ⟨v, ys', e, f _ _ h2, KIs.map_ f h3⟩
open PySem PySem.Spec PyProof.Rows L2

/-! ### list comprehensions -/
def wipeL : Lo → List Nat → Lo
  | l, [] => l
  | l, v :: vs => setL (wipeL l vs) v none
section
variable {G : Glo} {X : Cx} {W' : WX} {pos : Pos}
theorem rws1' {K : PySem.W.Frag} {ρ : List Addr} {H : Hp} {vs : List V} {w : W} (h : RWs K ρ H [w] vs) : ∃ v, vs = [v] ∧ RW K ρ H w v := by
  unfold RWs RWs at h
  obtain ⟨v, r, rfl, h1, rfl⟩ := h
  exact ⟨v, rfl, h1⟩
theorem RL.forget {C : Cf} {l : Lo} {σ : L2.St} (r : RL G C l σ) (i : Nat) : RL G C (setL l i none) (σ.set i none) := by
  refine ⟨by rw [setL_eq]; simp [r.len], fun j u e => ?_⟩
  rw [setL_eq] at e
  by_cases q : i = j
  · subst q
    by_cases hi : i < l.length
    · rw [List.getElem?_set_self hi] at e; cases e
    · rw [List.getElem?_eq_none (by simp; omega)] at e; cases e
  · rw [List.getElem?_set_ne q] at e
    rw [List.getElem?_set_ne q]
    exact r.at_ j u e
theorem RL.wipe {C : Cf} {l : Lo} {σ : L2.St} (r : RL G C l σ) : ∀ vs : List Nat, RL G C (wipeL l vs) (L2.wipe σ vs)
  | [] => r
  | v :: vs => by
    unfold wipeL L2.wipe
    exact (RL.wipe r vs).forget v
theorem wipe_get (σ : L2.St) (j : Nat) : ∀ vs : List Nat, (wipe σ vs)[j]? = if j ∈ vs ∧ j < σ.length then some none else σ[j]?
  | [] => by simp [wipe]
  | v :: vs => by
    unfold wipe
    have ih := wipe_get σ j vs
    by_cases q : v = j
    · subst q
      by_cases hv : v < σ.length
      · rw [List.getElem?_set_self (by rw [wipe_length]; exact hv)]
        simp [hv]
      · rw [List.getElem?_eq_none (by rw [List.length_set, wipe_length]; omega)]
        simp [hv]
    · rw [List.getElem?_set_ne q, ih]
      have : (j ∈ v :: vs) ↔ j ∈ vs := by simp [List.mem_cons, Ne.symm q, show ¬ j = v from fun e => q e.symm]
      simp only [this]
theorem turned_wipe {σ σ1 : L2.St} {ks vs : List Nat} (t : Turned ks σ σ1) (h : ∀ k ∈ ks, k ∈ vs) : wipe σ1 vs = wipe σ vs := by
  refine List.ext_getElem? fun j => ?_
  rw [wipe_get, wipe_get, t.1]
  by_cases q : j ∈ vs
  · by_cases hj : j < σ.length
    · simp [q, hj]
    · have h1 : σ[j]? = none := List.getElem?_eq_none (by omega)
      have h2 : σ1[j]? = none := List.getElem?_eq_none (by rw [t.1]; omega)
      simp [hj, h1, h2]
  · have : j ∉ ks := fun z => q (h j z)
    simp [q, t.2 j this]
theorem wipe_wipe (σ : L2.St) (vs : List Nat) : wipe (wipe σ vs) vs = wipe σ vs := by
  refine List.ext_getElem? fun j => ?_
  rw [wipe_get, wipe_get, wipe_length]
  by_cases q : j ∈ vs ∧ j < σ.length <;> simp [q]

/-- as Post.bnd, the base stays -/
theorem Post.bnd0 {α β : Type} {C : Cf} {k : α → FH → Res β} {Φ : β → Cf → Prop} : ∀ {m : Res α}, Post G W' C (m.bnd k) Φ → Post G W' C m fun a C1 => Post G W' C (k a C1.S) Φ
  | .ok a S, h => by
    dsimp only [Res.bnd] at h
    unfold Post
    exact fun D e ok y => by rw [e]; exact h
  | .exc c w l S, h => by
    dsimp only [Res.bnd] at h
    unfold Post at h ⊢
    exact h
  | .pick n f, h => by
    dsimp only [Res.bnd] at h
    unfold Post at h ⊢
    exact fun r hr => Post.bnd0 (h r hr)
  | .stuck, h => by
    dsimp only [Res.bnd] at h
    unfold Post at h
    exact h.elim
/-- what is raised is not followed here -/
noncomputable def noX {α : Type} (m : Res α) : Res α := Res.rec (motive := fun _ => Res α) (fun a S => .ok a S) (fun _ _ _ _ => .stuck) (fun n _ ih => .pick n ih) .stuck m
abbrev W0 : WX := fun _ _ _ _ => False
theorem Post.unX {α : Type} {C : Cf} {Φ : α → Cf → Prop} : ∀ {m : Res α}, Post G W' C (noX m) Φ → Post G W0 C m Φ
  | .ok a S, h => by
    dsimp only [Ev.noX] at h
    unfold Post at h ⊢
    exact h
  | .exc c w l S, h => by
    dsimp only [Ev.noX] at h
    unfold Post at h
    exact h.elim
  | .pick n f, h => by
    dsimp only [Ev.noX] at h
    unfold Post at h ⊢
    exact fun r hr => Post.unX (h r hr)
  | .stuck, h => by
    dsimp only [Ev.noX] at h
    unfold Post at h
    exact h.elim
/-- the loop: acc the items so far, the last first -/
noncomputable def lcL (nx : Src) (tg : Tg) (tt : Evt) (te : Evl) (l : Lo) (m : Nat) : Nat → List W → FH → Res W := Nat.rec (motive := fun _ => Nat → List W → FH → Res W) (fun _ _ _ => .stuck) (fun _ ih i acc S => match nx i S with
    | none => .stuck
    | some none => revK acc [] fun ws => newK S (.lst ws) fun n S1 => .ok (.obj n) S1
    | some (some w) => match tg w l S with
      | none => .stuck
      | some l1 => (noX (tt l1 S)).bnd fun b S1 => match b with
        | false => fNat (i + 1) fun i1 => ih i1 acc S1
        | true => (noX (te l1 S1)).bnd fun y S2 => fNat (i + 1) fun i1 => ih i1 (y :: acc) S2) m
theorem lcL_zero {nx : Src} {tg : Tg} {tt : Evt} {te : Evl} {l : Lo} {i : Nat} {acc : List W} {S : FH} : lcL nx tg tt te l 0 i acc S = .stuck := rfl
theorem lcL_succ {nx : Src} {tg : Tg} {tt : Evt} {te : Evl} {l : Lo} {m i : Nat} {acc : List W} {S : FH} : lcL nx tg tt te l (m + 1) i acc S = match nx i S with
    | none => .stuck
    | some none => .ok (.obj S.n) (S.new (.lst acc.reverse))
    | some (some w) => match tg w l S with
      | none => .stuck
      | some l1 => (noX (tt l1 S)).bnd fun b S1 => match b with
        | false => lcL nx tg tt te l m (i + 1) acc S1
        | true => (noX (te l1 S1)).bnd fun y S2 => lcL nx tg tt te l m (i + 1) (y :: acc) S2 := by
  have e : ∀ x, lcL nx tg tt te l (m + 1) i acc S = x ↔ (match nx i S with
    | none => .stuck
    | some none => revK acc [] fun ws => newK S (.lst ws) fun n S1 => .ok (.obj n) S1
    | some (some w) => match tg w l S with
      | none => .stuck
      | some l1 => (noX (tt l1 S)).bnd fun b S1 => match b with
        | false => fNat (i + 1) fun i1 => lcL nx tg tt te l m i1 acc S1
        | true => (noX (te l1 S1)).bnd fun y S2 => fNat (i + 1) fun i1 => lcL nx tg tt te l m i1 (y :: acc) S2) = x := fun x => Iff.rfl
  rw [e]
  simp only [revK_eq, newK_eq, fNat_eq, List.append_nil]
noncomputable def wipeK (l : Lo) (vs : List Nat) (k : Lo → Res W) : Res W := List.rec (motive := fun _ => (Lo → Res W) → Res W) (fun k => k l) (fun v _ ih k => ih fun l1 => setK l1 v none k) vs k
theorem wipeK_eq {l : Lo} : ∀ (vs : List Nat) (k : Lo → Res W), wipeK l vs k = k (wipeL l vs)
  | [], k => rfl
  | v :: vs, k => by
    show wipeK l vs (fun l1 => setK l1 v none k) = _
    rw [wipeK_eq, setK_eq]; rfl
noncomputable def evLc (f : Evi) (tg : Tg) (tt : Evt) (te : Evl) (vs : List Nat) : Evl := fun l S => (f l S).bnd fun nx S1 => wipeK l vs fun l1 => lcL nx tg tt te l1 10000 0 [] S1
theorem RWs.reverse {K : PySem.W.Frag} {ρ : List Addr} {H : Hp} {ws : List W} {w : W} {vs : List V} {v : V} (h : RWs K ρ H ws.reverse vs) (r : RW K ρ H w v) : RWs K ρ H (w :: ws).reverse (vs ++ [v]) := by
  rw [List.reverse_cons]
  exact h.append (.cons r .nil)
/-- a heap whose place D, tracked but not ours, holds another list -/
theorem Cf.side {C0 C : Cf} (ok : C.Ok G) (x : Ext C0 C) {D : Addr} {vs us : List V} (hD : C.H D = some (.lst vs)) (nD : ∀ i : Nat, C.ρ[i]? ≠ some D) (h0 : C0.H D = none) :
    (Cf.mk C.ρ (upd C.H D (.lst us)) C.S).Ok G ∧ Ext C0 ⟨C.ρ, upd C.H D (.lst us), C.S⟩ ∧ (∀ w v, RW G.K C.ρ C.H w v → RW G.K C.ρ (upd C.H D (.lst us)) w v) ∧ (∀ ws vs, RWs G.K C.ρ C.H ws vs → RWs G.K C.ρ (upd C.H D (.lst us)) ws vs) := by
  have tup : ∀ {a : Addr} {ys : List V}, SqT G.K C.H a ys → SqT G.K (upd C.H D (.lst us)) a ys := fun {a ys} h => by
    rcases h with (h | ⟨o, h⟩) | h
    · exact .inl (.inl (by rw [upd_ne (ne_of h hD (fun z => nomatch z))]; exact h))
    · exact .inl (.inr ⟨o, by rw [upd_ne (ne_of h hD (fun z => nomatch z))]; exact h⟩)
    · exact .inr h
  have fr : ∀ {a : Addr} {o : Obj} {u : HO}, C.H a = some (.frz o u) → upd C.H D (.lst us) a = some (.frz o u) := fun {a o u} h => by
    rw [upd_ne (ne_of h hD (fun z => nomatch z))]; exact h
  have kw : ∀ w v, RW G.K C.ρ C.H w v → RW G.K C.ρ (upd C.H D (.lst us)) w v := by
    -- by a detour: the two heaps as configurations without objects
    have okb : (Cf.mk C.ρ C.H C.S.bare).Ok G := ⟨ok.len, ok.nd, ok.lv, fun i v h => nomatch h⟩
    intro w
    exact (go tup fr w)
  have kws : ∀ ws vs, RWs G.K C.ρ C.H ws vs → RWs G.K C.ρ (upd C.H D (.lst us)) ws vs := fun ws => gos tup fr ws
  have x' : Ext C0 ⟨C.ρ, upd C.H D (.lst us), C.S⟩ := {
    pre := x.pre
    keep := fun a o h n => by
      show upd C.H D (.lst us) a = some o
      rw [upd_ne (ne_of_none h h0)]
      exact x.keep a o h n
    live := fun a h => by
      show upd C.H D (.lst us) a ≠ none
      by_cases q : a = D
      · rw [q, upd_same]; simp
      · rw [upd_ne q]; exact x.live a h
    frz := fun a o u h => by
      show upd C.H D (.lst us) a = some (.frz o u)
      rw [upd_ne (ne_of_none h h0)]
      exact x.frz a o u h
    new1 := x.new1
    new2 := x.new2 }
  refine ⟨⟨ok.len, ok.nd, fun i a h => ?_, fun i v h => ?_⟩, x', kw, kws⟩
  · show upd C.H D (.lst us) a ≠ none
    by_cases q : a = D
    · rw [q, upd_same]; simp
    · rw [upd_ne q]; exact ok.lv i a h
  · obtain ⟨a, o, h1, h2, h3⟩ := ok.ob i v h
    have ne : a ≠ D := fun e => nD i (by rw [h1, e])
    refine ⟨a, o, h1, by show upd C.H D (.lst us) a = some o; rw [upd_ne ne]; exact h2, ?_⟩
    cases v <;> cases o <;> first | exact kws _ _ h3 | (obtain ⟨xs, e, q⟩ := h3; exact ⟨xs, e, q.map_ kw⟩) | (obtain ⟨e, q⟩ := h3; exact ⟨e, FRs.map_ kw q⟩) | exact KIs.map_ kw h3 | (obtain ⟨d, e, q⟩ := h3; exact ⟨d, e, fun dd hd => by obtain ⟨f, y, z⟩ := q dd hd; exact ⟨f, y, by show upd C.H D (.lst us) dd = _; rw [upd_ne (ne_of z hD (fun z => nomatch z))]; exact z⟩⟩) | exact h3
where
  go {us : List V} {C : Cf} {D : Addr} (tup : ∀ {a : Addr} {ys : List V}, SqT G.K C.H a ys → SqT G.K (upd C.H D (.lst us)) a ys) (fr : ∀ {a : Addr} {o : Obj} {u : HO}, C.H a = some (.frz o u) → upd C.H D (.lst us) a = some (.frz o u)) : ∀ (w : W) (v : V), RW G.K C.ρ C.H w v → RW G.K C.ρ (upd C.H D (.lst us)) w v
    | .k _, v, h => by unfold RW at h ⊢; exact h
    | .tup xs, v, h => by
      unfold RW at h ⊢
      obtain ⟨a, vs, e, h1, h2⟩ := h
      exact ⟨a, vs, e, tup h1, gos tup fr xs vs h2⟩
    | .obj i, v, h => by unfold RW at h ⊢; exact h
    | .mix xs, v, h => by
      unfold RW at h ⊢
      obtain ⟨a, vs, e, h1, h2⟩ := h
      exact ⟨a, vs, e, h1.imp tup fun ⟨o, z⟩ => ⟨o, fr z⟩, gos tup fr xs vs h2⟩
  gos {us : List V} {C : Cf} {D : Addr} (tup : ∀ {a : Addr} {ys : List V}, SqT G.K C.H a ys → SqT G.K (upd C.H D (.lst us)) a ys) (fr : ∀ {a : Addr} {o : Obj} {u : HO}, C.H a = some (.frz o u) → upd C.H D (.lst us) a = some (.frz o u)) : ∀ (ws : List W) (vs : List V), RWs G.K C.ρ C.H ws vs → RWs G.K C.ρ (upd C.H D (.lst us)) ws vs
    | [], vs, h => by unfold RWs at h ⊢; exact h
    | w :: ws, vs, h => by
      unfold RWs at h ⊢
      obtain ⟨v, r, e, h1, h2⟩ := h
      exact ⟨v, r, e, go tup fr w v h1, gos tup fr ws r h2⟩
/-- a tracked list becomes ours -/
theorem Cf.adopt {C0 C : Cf} (ok : C.Ok G) (x : Ext C0 C) {D : Addr} {vs : List V} {ws : List W} (hD : C.H D = some (.lst vs)) (nD : ∀ i : Nat, C.ρ[i]? ≠ some D) (h0 : C0.H D = none) (r : RWs G.K C.ρ C.H ws vs) :
    (Cf.mk (C.ρ ++ [D]) C.H (C.S.new (.lst ws))).Ok G ∧ Ext C0 ⟨C.ρ ++ [D], C.H, C.S.new (.lst ws)⟩ ∧ (C.ρ ++ [D])[C.S.n]? = some D := by
  have hat : (C.ρ ++ [D])[C.S.n]? = some D := by rw [← ok.len]; simp
  have old : ∀ (i : Nat) (a : Addr), C.ρ[i]? = some a → (C.ρ ++ [D])[i]? = some a := fun i a h => by rw [List.getElem?_append_left (lt_of_get? h)]; exact h
  have cases_ : ∀ (i : Nat) (a : Addr), (C.ρ ++ [D])[i]? = some a → (C.ρ[i]? = some a) ∨ (i = C.ρ.length ∧ a = D) := fun i a h => by
    by_cases hi : i < C.ρ.length
    · rw [List.getElem?_append_left hi] at h; exact .inl h
    · rw [List.getElem?_append_right (by omega)] at h
      cases q : i - C.ρ.length with
      | zero => rw [q] at h; exact .inr ⟨by omega, by simpa using h.symm⟩
      | succ n => rw [q] at h; simp at h
  have rmono : ∀ ws vs, RWs G.K C.ρ C.H ws vs → RWs G.K (C.ρ ++ [D]) C.H ws vs := fun ws vs h => by
    have okb : (Cf.mk C.ρ C.H C.S.bare).Ok G := ⟨ok.len, ok.nd, ok.lv, fun i v h => nomatch h⟩
    have xb : Ext (Cf.mk C.ρ C.H C.S.bare) (Cf.mk (C.ρ ++ [D]) C.H C.S.bare) → RWs G.K (C.ρ ++ [D]) C.H ws vs := fun xb => RWs.mono okb xb ws h
    by_cases hh : True
    · exact goA ws vs h
    · exact absurd trivial hh
  refine ⟨⟨?_, ?_, ?_, ?_⟩, ?_, hat⟩
  · show (C.ρ ++ [D]).length = C.S.n + 1
    simp [ok.len]
  · intro i j a h1 h2
    rcases cases_ i a h1 with g1 | ⟨g1, e1⟩ <;> rcases cases_ j a h2 with g2 | ⟨g2, e2⟩
    · exact ok.nd i j a g1 g2
    · subst e2; exact absurd g1 (nD i)
    · subst e1; exact absurd g2 (nD j)
    · omega
  · intro i a h
    rcases cases_ i a h with g | ⟨_, e⟩
    · exact ok.lv i a g
    · subst e; show C.H a ≠ none; rw [hD]; simp
  · intro i v h
    have h' : (C.S.new (.lst ws)).get i = some v := h
    rw [get_new] at h'
    by_cases q : C.S.n = i
    · rw [if_pos q] at h'
      cases h'
      subst q
      exact ⟨D, _, hat, hD, rmono _ _ r⟩
    · rw [if_neg q] at h'
      obtain ⟨a, o, h1, h2, h3⟩ := ok.ob i v h'
      refine ⟨a, o, old i a h1, h2, ?_⟩
      have rm1 : ∀ w v, RW G.K C.ρ C.H w v → RW G.K (C.ρ ++ [D]) C.H w v := fun w v h => by
        obtain ⟨u, e, z⟩ := rws1' (rmono [w] [v] (.cons h .nil))
        cases e
        exact z
      cases v <;> cases o <;> first | exact rmono _ _ h3 | (obtain ⟨xs, e, q⟩ := h3; exact ⟨xs, e, q.map_ rm1⟩) | (obtain ⟨e, q⟩ := h3; exact ⟨e, FRs.map_ rm1 q⟩) | exact KIs.map_ rm1 h3 | exact h3
  · exact {
      pre := fun i a h => old i a (x.pre i a h)
      keep := x.keep
      live := x.live
      frz := x.frz
      new1 := fun i v h1 h2 => by
        have h1' : (C.S.new (.lst ws)).get i = some v := h1
        rw [get_new, if_neg (by have := x.le; have := ok.len; omega)] at h1'
        exact x.new1 i v h1' h2
      new2 := fun i a h1 h2 => by
        rcases cases_ i a h1 with g | ⟨_, e⟩
        · exact x.new2 i a g h2
        · subst e; exact h0 }
where
  goA1 {C : Cf} {D : Addr} : ∀ (w : W) (v : V), RW G.K C.ρ C.H w v → RW G.K (C.ρ ++ [D]) C.H w v
    | .k _, v, h => by unfold RW at h ⊢; exact h
    | .tup xs, v, h => by
      unfold RW at h ⊢
      obtain ⟨a, vs, e, h1, h2⟩ := h
      exact ⟨a, vs, e, h1, goA xs vs h2⟩
    | .obj i, v, h => by
      unfold RW at h ⊢
      obtain ⟨a, e, h1⟩ := h
      exact ⟨a, e, by rw [List.getElem?_append_left (lt_of_get? h1)]; exact h1⟩
    | .mix xs, v, h => by
      unfold RW at h ⊢
      obtain ⟨a, vs, e, h1, h2⟩ := h
      exact ⟨a, vs, e, h1, goA xs vs h2⟩
  goA {C : Cf} {D : Addr} : ∀ (ws : List W) (vs : List V), RWs G.K C.ρ C.H ws vs → RWs G.K (C.ρ ++ [D]) C.H ws vs
    | [], vs, h => by unfold RWs at h ⊢; exact h
    | w :: ws, vs, h => by
      unfold RWs at h ⊢
      obtain ⟨v, r, e, h1, h2⟩ := h
      exact ⟨v, r, e, goA1 w v h1, goA ws r h2⟩
end
end Ev

namespace Ev
open PySem PySem.Spec PyProof.Rows L2
section
variable {G : Glo} {X : Cx} {W' : WX} {pos : Pos}
def STs (G : Glo) (X : Cx) (W' : WX) (f : Evt) (ifs : List Expr) : Prop := PTs X ifs (rdT G W' f)
theorem pts_imp {X : Cx} {e : List Expr} {t t' : TT} (h : PTs X e t) (k : ∀ σ H Q, t' σ H Q → t σ H Q) : PTs X e t' := ⟨fun pins s σ H Q I q => h.run pins s σ H Q I (k σ H Q q)⟩
noncomputable def etYes : Evt := fun _ S => .ok true S
theorem sts_nil : STs G X W' etYes [] := pts_imp pts_nil fun σ H Q ⟨C, l, e, ok, r, p⟩ => by
  subst e
  have q : PhT Q true C := Post.now (W' := W') ok p
  exact q
theorem Ext.side {C0 C1 : Cf} {D : Addr} (x : Ext C0 C1) {o : HO} (hD : C0.H D = some o) (nD : ∀ i : Nat, C0.ρ[i]? ≠ some D) : C1.H D = some o ∧ ∀ i : Nat, C1.ρ[i]? ≠ some D := by
  refine ⟨x.keep D o hD fun i v _ => nD i, fun i h => ?_⟩
  by_cases hi : i < C0.ρ.length
  · have h4 : C0.ρ[i]? = some C0.ρ[i] := by simp [hi]
    have h5 := x.pre i _ h4
    rw [h] at h5
    exact nD i (by rw [h4]; exact h5.symm)
  · have := x.new2 i D h (by omega)
    rw [hD] at this; cases this
/-- the reading of the reckoner's comprehension -/
theorem rd_lc {ks vs : List Nat} {f : Evi} {t : Tg} {tt : Evt} {te : Evl} {g : TG} {σ : L2.St} {H : Hp} {Q : VK}
    (kk : ∀ (C : Cf) (l l1 : Lo) (σ : L2.St) (w : W) (v : V) (Q : L2.St → Hp → Prop), C.Ok G → RL G C l σ → RW G.K C.ρ C.H w v → t w l C.S = some l1 → (∀ σ1, RL G C l1 σ1 → Turned ks σ σ1 → Q σ1 C.H) → g v σ C.H Q)
    (hks : ∀ k ∈ ks, k ∈ vs) (h : rdE G W' (evLc f t tt te vs) σ H Q) : tLc (rdI G W' f) g (rdT G W0 tt) (rdE G W0 te) vs σ H Q := by
  obtain ⟨C, l, e, ok, r, p⟩ := h
  subst e
  unfold evLc at p
  simp only [wipeK_eq] at p
  refine ⟨C, l, rfl, ok, r, Post.mono (fun nx C1 ok1 x1 p1 J hJ D hD => ?_) (Post.bnd (k := fun nx S1 => lcL nx t tt te (wipeL l vs) 10000 0 [] S1) p)⟩
  have r1 := (r.mono ok x1).wipe vs
  refine ⟨fun i m H => ∃ (C2 : Cf) (acc : List W) (av : List V), C2.H = H ∧ C2.Ok G ∧ Ext C1 C2 ∧ H D = some (.lst av) ∧ (∀ j : Nat, C2.ρ[j]? ≠ some D) ∧ RWs G.K C2.ρ C2.H acc.reverse av ∧ acc.length ≤ i ∧ i + m ≤ 10000 ∧ Post G W' C1 (lcL nx t tt te (wipeL l vs) m i acc C2.S) (PhE G Q), ⟨10000, ?_⟩, ?_⟩
  · obtain ⟨ok2, x2⟩ := Cf.tupd (o := .lst []) ok1 hD
    exact ⟨⟨C1.ρ, upd C1.H D (.lst []), C1.S⟩, [], [], rfl, ok2, x2, upd_same, fun j h => ok1.lv j D h hD, .nil, Nat.le_refl _, Nat.le_refl _, p1⟩
  rintro i m H2 ⟨C2, acc, av, rfl, ok2, x2, hD2, nD2, ra, hl, him, p2⟩
  have hs2 := hJ C2 ok2 x2 i
  cases m with
  | zero => rw [lcL_zero] at p2; unfold Post at p2; exact p2.elim
  | succ m =>
    rw [lcL_succ] at p2
    cases q : nx i C2.S with
    | none => simp only [q] at p2; unfold Post at p2; exact p2.elim
    | some o =>
      cases o with
      | none =>
        simp only [q] at p2
        refine .inl ⟨hs2.1 q, ?_⟩
        obtain ⟨ok3, x3, h3⟩ := Cf.adopt ok2 x2 hD2 nD2 hD ra
        unfold Post at p2
        exact p2 _ rfl ok3 x3 (.ref D) (by unfold RW; exact ⟨D, rfl, h3⟩)
      | some w =>
        simp only [q] at p2
        obtain ⟨h1, h2⟩ := hs2.2 w q
        refine .inr ⟨h1, fun H' => ∃ (C2 : Cf) (acc : List W) (av : List V), C2.H = H' ∧ C2.Ok G ∧ Ext C1 C2 ∧ H' D = some (.lst av) ∧ (∀ j : Nat, C2.ρ[j]? ≠ some D) ∧ RWs G.K C2.ρ C2.H acc.reverse av ∧ acc.length ≤ i + 1 ∧ i + 1 + m ≤ 10000 ∧ Post G W' C1 (lcL nx t tt te (wipeL l vs) m (i + 1) acc C2.S) (PhE G Q), fun H' h => ⟨m, Nat.lt_succ_self m, h⟩, fun x H' y => ?_⟩
        obtain ⟨C3, rfl, hS, ok3, x3, rv⟩ := h2 x H' y
        cases q2 : t w (wipeL l vs) C2.S with
        | none => simp only [q2] at p2; unfold Post at p2; exact p2.elim
        | some l3 =>
          simp only [q2] at p2
          have rC3 := (r1.mono ok1 x2).mono ok2 x3
          refine kk C3 (wipeL l vs) l3 (wipe σ vs) w x _ ok3 rC3 rv (by rw [hS]; exact q2) fun σ3 r3 tu => ?_
          refine ⟨by rw [turned_wipe tu hks, wipe_wipe], C3, l3, rfl, ok3, r3, ?_⟩
          have pb := Post.base (x2.trans x3) (Post.bnd0 p2)
          rw [hS]
          refine Post.mono (fun b C4 ok4 x4 p4 => ?_) (Post.unX pb)
          have s3 := x3.side hD2 nD2
          have s4 := x4.side s3.1 s3.2
          have ra4 := RWs.mono ok3 x4 _ (RWs.mono ok2 x3 _ ra)
          unfold PhT
          cases b with
          | false =>
            refine iteF ⟨C4, acc, av, rfl, ok4, (x2.trans x3).trans x4, s4.1, s4.2, ra4, by omega, by omega, p4⟩
          | true =>
            refine iteT ⟨C4, l3, rfl, ok4, r3.mono ok3 x4, ?_⟩
            have pb2 := Post.base ((x2.trans x3).trans x4) (Post.bnd0 p4)
            refine Post.mono (fun yw C5 ok5 x5 p5 yv ry => ?_) (Post.unX pb2)
            have s5 := x5.side s4.1 s4.2
            have ra5 := RWs.mono ok4 x5 _ ra4
            have x05 : Ext C1 C5 := ((x2.trans x3).trans x4).trans x5
            obtain ⟨ok6, x6, kw, kws⟩ := Cf.side (us := av ++ [yv]) ok5 x05 s5.1 s5.2 hD
            refine ⟨av, s5.1, ?_, ⟨C5.ρ, upd C5.H D (.lst (av ++ [yv])), C5.S⟩, yw :: acc, av ++ [yv], rfl, ok6, x6, upd_same, s5.2, ?_, by simp; omega, by omega, p5⟩
            · have := ra.length
              rw [List.length_reverse] at this
              rw [this, sizeLine_eq]; omega
            · exact RWs.reverse (kws _ _ ra5) (kw _ _ ry)
theorem se_lc {elt tg iter : Expr} {ifs : List Expr} {scope : Scope} {own : List (Str × Nat)} {ks : List Nat} {f : Evi} {t : Tg} {tt : Evt} {te : Evl} (hc : X.calm = true) (hN : X.N.Nodup) (hi : SI G X W' f tg iter) (ok : BlkOk X.N X.env.scope scope own)
    (g : TG) (hg : ∀ (s : Shared) (H : Hp) (C : Addr) (cl : List (Str × Addr)) (fp : List Addr), PG (X.blk s H scope (compEnvC scope cl C X.env) fp) tg g)
    (kk : ∀ (C : Cf) (l l1 : Lo) (σ : L2.St) (w : W) (v : V) (Q : L2.St → Hp → Prop), C.Ok G → RL G C l σ → RW G.K C.ρ C.H w v → t w l C.S = some l1 → (∀ σ1, RL G C l1 σ1 → Turned ks σ σ1 → Q σ1 C.H) → g v σ C.H Q)
    (ht : ∀ (s : Shared) (H : Hp) (C : Addr) (cl : List (Str × Addr)) (fp : List Addr), STs G (X.blk s H scope (compEnvC scope cl C X.env) fp) W0 tt ifs)
    (he : ∀ (s : Shared) (H : Hp) (C : Addr) (cl : List (Str × Addr)) (fp : List Addr), SE G (X.blk s H scope (compEnvC scope cl C X.env) fp) W0 te elt)
    (hks : ∀ k ∈ ks, k ∈ own.map (·.2)) (hs : ∀ x, foldedSetIterable iter X.env x = pure x := by intro _; rfl) : SE G X W' (evLc f t tt te (own.map (·.2))) (.ListComp elt [⟨tg, iter, ifs, 0⟩] scope pos) :=
  pe_imp (pe_lc hc hN hi ok hg ht he hs) fun σ H Q h => rd_lc kk hks h
/-- a target for a comprehension's block: its reading apart from the block -/
theorem kk_name (i : Nat) : ∀ (C : Cf) (l l1 : Lo) (σ : L2.St) (w : W) (v : V) (Q : L2.St → Hp → Prop), C.Ok G → RL G C l σ → RW G.K C.ρ C.H w v → tgName i w l C.S = some l1 → (∀ σ1, RL G C l1 σ1 → Turned [i] σ σ1 → Q σ1 C.H) → gName i v σ C.H Q := fun C l l1 σ w v Q ok r rv e k => by
  rw [tgName_eq] at e
  cases e
  refine k _ (r.set rv) ⟨by simp, fun j hj => ?_⟩
  rw [List.getElem?_set_ne (by intro z; subst z; simp at hj)]
end
end Ev

namespace Ev
open PySem PySem.Spec PyProof.Rows L2

/-! ### targets apart from the context -/
def KK (G : Glo) (ks : List Nat) (t : Tg) (g : TG) : Prop := ∀ (C : Cf) (l l1 : Lo) (σ : L2.St) (w : W) (v : V) (Q : L2.St → Hp → Prop), C.Ok G → RL G C l σ → RW G.K C.ρ C.H w v → t w l C.S = some l1 → (∀ σ1, RL G C l1 σ1 → Turned ks σ σ1 → Q σ1 C.H) → g v σ C.H Q
def KKs (G : Glo) (ks : List Nat) (t : Tgs) (g : TGs) : Prop := ∀ (C : Cf) (l l1 : Lo) (σ : L2.St) (ws : List W) (vs : List V) (Q : L2.St → Hp → Prop), C.Ok G → RL G C l σ → RWs G.K C.ρ C.H ws vs → t ws l C.S = some l1 → (∀ σ1, RL G C l1 σ1 → Turned ks σ σ1 → Q σ1 C.H) → g vs σ C.H Q
section
variable {G : Glo}
theorem kks_nil : KKs G [] tgNil gNil := fun C l l1 σ ws vs Q ok r rv e k => by
  cases ws with
  | nil =>
    cases e
    unfold RWs at rv
    subst rv
    exact ⟨rfl, k σ r ⟨rfl, fun _ _ => rfl⟩⟩
  | cons w ws => cases e
theorem kks_cons {ks ks' : List Nat} {t : Tg} {r : Tgs} {g1 : TG} {g2 : TGs} (k1 : KK G ks t g1) (k2 : KKs G ks' r g2) : KKs G (ks ++ ks') (tgCons t r) (gCons g1 g2) := fun C l l1 σ ws vs Q ok rl rv e k => by
  cases ws with
  | nil => cases e
  | cons w ws =>
    unfold RWs at rv
    obtain ⟨v, vr, rfl, rv1, rv2⟩ := rv
    cases q : t w l C.S with
    | none => simp only [tgCons, q] at e; cases e
    | some l0 =>
      simp only [tgCons, q] at e
      refine ⟨v, vr, rfl, k1 C l l0 σ w v _ ok rl rv1 q fun σ1 rl1 tu1 => ?_⟩
      refine k2 C l0 l1 σ1 ws vr Q ok rl1 rv2 e fun σ2 rl2 tu2 => k σ2 rl2 ⟨by rw [tu2.1, tu1.1], fun j hj => ?_⟩
      simp only [List.mem_append, not_or] at hj
      rw [tu2.2 j hj.2, tu1.2 j hj.1]
theorem kk_tup {ks : List Nat} {r : Tgs} {g : TGs} {n : Nat} {K : PySem.W.Frag} (hk : K = G.K) (k1 : KKs G ks r g) : KK G ks (tgTup n r) (gTup K n g) := fun C l l1 σ w v Q ok rl rv e kk => by
  subst hk
  unfold tgTup at e
  split at e
  · rename_i ws
    unfold RW at rv
    obtain ⟨a, vs, rfl, h1, h2⟩ := rv
    cases q : Nat.beq ws.length n with
    | false => simp only [q] at e; cases e
    | true =>
      simp only [q] at e
      exact ⟨a, vs, rfl, h1, by rw [h2.length]; exact Nat.eq_of_beq_eq_true q, k1 C l l1 σ ws vs Q ok rl h2 e kk⟩
  · cases e
end

/-! ### calls of the program's own defs -/
noncomputable def relo {α : Type} (l : Lo) (m : Res α) : Res α := Res.rec (motive := fun _ => Res α) (fun a S => .ok a S) (fun c x _ S => .exc c x l S) (fun n _ ih => .pick n ih) .stuck m
mutual
def pureW : W → Bool
  | .k _ => true
  | .tup xs => pureWs xs
  | .obj _ => false
  | .mix _ => false
def pureWs : List W → Bool
  | [] => true
  | w :: ws => match pureW w with
    | true => pureWs ws
    | false => false
end
/-- behind a call that began with a bare heap: what stood before stands again -/
noncomputable def hapK (S : FH) (m : List (Nat × HV)) {α : Type} (k : FH → α) : α := FH.rec (motive := fun _ => α) (fun n l => List.rec (motive := fun _ => (List (Nat × HV) → α) → α) (fun k => k m) (fun x _ ih k => ih fun r => k (x :: r)) l fun l' => k ⟨n, l'⟩) S
theorem hapK_eq (S : FH) (m : List (Nat × HV)) {α : Type} (k : FH → α) : hapK S m k = k ⟨S.n, S.l ++ m⟩ := by
  cases S with
  | mk n l =>
    have : ∀ (l : List (Nat × HV)) (k : List (Nat × HV) → α), (List.rec (motive := fun _ => (List (Nat × HV) → α) → α) (fun k => k m) (fun x _ ih k => ih fun r => k (x :: r)) l k : α) = k (l ++ m) := by
      intro l
      induction l with
      | nil => intro k; rfl
      | cons x r ih => intro k; exact ih fun r => k (x :: r)
    exact this l fun l' => k ⟨n, l'⟩
noncomputable def back {S : FH} {α : Type} (pr : α → Bool) (m : Res α) : Res α := Res.rec (motive := fun _ => Res α)
  (fun a S' => match pr a with
    | true => .ok a S
    | false => hapK S' S.l fun S1 => .ok a S1)
  (fun c x _ S' => match pureW x with
    | true => .exc c x [] S
    | false => hapK S' S.l fun S1 => .exc c x [] S1)
  (fun n _ ih => .pick n ih) .stuck m
abbrev Fn := List W → FH → Res W
noncomputable def callF (F : Fn) (ws : List W) (S : FH) : Res W := match pureWs ws with
  | true => back (S := S) pureW (F ws S.bare)
  | false => F ws S
section
variable {G : Glo} {W' : WX} {α : Type}
mutual
theorem pure_mono {K : PySem.W.Frag} {ρ ρ' : List Addr} {H H' : Hp} (t : ∀ {a : Addr} {vs : List V}, SqT K H a vs → SqT K H' a vs) : ∀ (w : W) {v : V}, pureW w = true → RW K ρ H w v → RW K ρ' H' w v
  | .k _, v, _, h => by unfold RW at h ⊢; exact h
  | .tup xs, v, p, h => by
    unfold RW at h ⊢
    unfold pureW at p
    obtain ⟨a, vs, e, h1, h2⟩ := h
    exact ⟨a, vs, e, t h1, pures_mono t xs p h2⟩
  | .obj i, v, p, h => by unfold pureW at p; cases p
  | .mix i, v, p, h => by unfold pureW at p; cases p
theorem pures_mono {K : PySem.W.Frag} {ρ ρ' : List Addr} {H H' : Hp} (t : ∀ {a : Addr} {vs : List V}, SqT K H a vs → SqT K H' a vs) : ∀ (ws : List W) {vs : List V}, pureWs ws = true → RWs K ρ H ws vs → RWs K ρ' H' ws vs
  | [], vs, _, h => by unfold RWs at h ⊢; exact h
  | w :: ws, vs, p, h => by
    unfold RWs at h ⊢
    unfold pureWs at p
    obtain ⟨v, r, e, h1, h2⟩ := h
    cases q : pureW w with
    | false => simp only [q] at p; cases p
    | true =>
      simp only [q] at p
      exact ⟨v, r, e, pure_mono t w q h1, pures_mono t ws p h2⟩
end
/-- the configuration with nothing of ours in it -/
theorem Cf.bare_ok {C : Cf} (ok : C.Ok G) : (Cf.mk C.ρ C.H C.S.bare).Ok G := ⟨ok.len, ok.nd, ok.lv, fun i v h => nomatch h⟩
theorem lookA_app : ∀ (l l' : List (Nat × HV)) (i : Nat), lookA (l ++ l') i = match lookA l i with | some v => some v | none => lookA l' i
  | [], l', i => rfl
  | p :: r, l', i => by
    have ih := lookA_app r l' i
    show lookA (p :: (r ++ l')) i = match lookA (p :: r) i with | some v => some v | none => lookA l' i
    have e1 : ∀ t, lookA (p :: t) i = match Nat.beq p.1 i with | true => some p.2 | false => lookA t i := fun _ => rfl
    rw [e1, e1]
    cases h : Nat.beq p.1 i with
    | true => rfl
    | false => exact ih
/-- behind the call: D, reached from the bare configuration; the old one again -/
theorem Cf.again {C D : Cf} (ok : C.Ok G) (okD : D.Ok G) (x : Ext ⟨C.ρ, C.H, C.S.bare⟩ D) : (Cf.mk C.ρ D.H C.S).Ok G ∧ Ext C ⟨C.ρ, D.H, C.S⟩ :=
  Cf.beside ok fun a o h => x.keep a o h fun i v q => nomatch q
theorem Cf.both {C D : Cf} (ok : C.Ok G) (okD : D.Ok G) (x : Ext ⟨C.ρ, C.H, C.S.bare⟩ D) : (Cf.mk D.ρ D.H ⟨D.S.n, D.S.l ++ C.S.l⟩).Ok G ∧ Ext C ⟨D.ρ, D.H, ⟨D.S.n, D.S.l ++ C.S.l⟩⟩ := by
  have keepAll : ∀ a o, C.H a = some o → D.H a = some o := fun a o h => x.keep a o h fun i v q => nomatch q
  have gett : ∀ (i : Nat) (v : HV), (FH.mk D.S.n (D.S.l ++ C.S.l)).get i = some v → D.S.get i = some v ∨ C.S.get i = some v := fun i v h => by
    have h' : lookA (D.S.l ++ C.S.l) i = some v := h
    rw [lookA_app] at h'
    cases q : lookA D.S.l i with
    | none => rw [q] at h'; exact .inr h'
    | some u => rw [q] at h'; exact .inl (by show lookA D.S.l i = some v; rw [q]; exact h')
  have x' : Ext C ⟨D.ρ, D.H, ⟨D.S.n, D.S.l ++ C.S.l⟩⟩ := {
    pre := x.pre
    keep := fun a o h _ => keepAll a o h
    live := x.live
    frz := x.frz
    new1 := fun i v h1 h2 => by
      rcases gett i v h1 with h | h
      · obtain ⟨v0, q⟩ := x.new1 i v h h2
        exact nomatch q
      · exact ⟨v, h⟩
    new2 := x.new2 }
  refine ⟨⟨okD.len, okD.nd, okD.lv, fun i v h => ?_⟩, x'⟩
  rcases gett i v h with h | h
  · exact okD.ob i v h
  · obtain ⟨a, o, h1, h2, h3⟩ := ok.ob i v h
    exact ⟨a, o, x.pre i a h1, keepAll a o h2, RO.mono ok x' h3⟩
theorem rx_of {C D : Cf} {c : Nat} {x : W} {cls : Value} {d : Option Addr} (h : RX G C c x cls d) (e : D.H = C.H) (k : ∀ v, RW G.K C.ρ C.H x v → RW G.K D.ρ D.H x v) : RX G D c x cls d := by
  refine ⟨h.1, ?_⟩
  have h2 := h.2
  cases q : G.cfl c with
  | none => simp only [q] at h2 ⊢; exact h2
  | some f =>
    simp only [q] at h2 ⊢
    obtain ⟨dd, v, h3, h4, h5⟩ := h2
    exact ⟨dd, v, h3, by rw [e]; exact h4, k v h5⟩
theorem rl_nil {C : Cf} : RL G C [] [] := ⟨rfl, fun i w h => by simp at h⟩
abbrev WE' (E : XK) : WX := fun cls d _ H => E cls d H
theorem post_back {C : Cf} (ok : C.Ok G) {E : XK} {Q : VK} : ∀ {m : Res W}, Post G (WE' E) C (back (S := C.S) pureW m) (PhE G Q) → Post G (WE' E) ⟨C.ρ, C.H, C.S.bare⟩ m (PhE G Q)
  | .ok a S', h => by
    dsimp only [back] at h
    unfold Post
    intro D hD okD x v rv
    have tup : ∀ {a : Addr} {vs : List V}, SqT G.K D.H a vs → SqT G.K D.H a vs := fun h => h
    cases q : pureW a with
    | true =>
      simp only [q] at h
      unfold Post at h
      obtain ⟨ok', x'⟩ := Cf.again ok okD x
      exact h ⟨C.ρ, D.H, C.S⟩ rfl ok' x' v (pure_mono tup a q rv)
    | false =>
      simp only [q, hapK_eq] at h
      unfold Post at h
      obtain ⟨ok', x'⟩ := Cf.both ok okD x
      exact h ⟨D.ρ, D.H, ⟨D.S.n, D.S.l ++ C.S.l⟩⟩ (by rw [hD]) ok' x' v rv
  | .exc c w l S', h => by
    dsimp only [back] at h
    unfold Post
    intro D cls d σ' hD okD x hx hl
    have tup : ∀ {a : Addr} {vs : List V}, SqT G.K D.H a vs → SqT G.K D.H a vs := fun h => h
    cases q : pureW w with
    | true =>
      simp only [q] at h
      unfold Post at h
      obtain ⟨ok', x'⟩ := Cf.again ok okD x
      exact h ⟨C.ρ, D.H, C.S⟩ cls d [] rfl ok' x' (rx_of hx rfl fun v r => pure_mono tup w q r) rl_nil
    | false =>
      simp only [q, hapK_eq] at h
      unfold Post at h
      obtain ⟨ok', x'⟩ := Cf.both ok okD x
      exact h ⟨D.ρ, D.H, ⟨D.S.n, D.S.l ++ C.S.l⟩⟩ cls d [] (by rw [hD]) ok' x' (rx_of hx rfl fun v r => r) rl_nil
  | .pick n f, h => by
    dsimp only [back] at h
    unfold Post at h ⊢
    exact fun r hr => post_back ok (h r hr)
  | .stuck, h => by
    dsimp only [back] at h
    unfold Post at h
    exact h.elim
theorem post_relo {C : Cf} (ok : C.Ok G) {l : Lo} {σ : L2.St} (r : RL G C l σ) {Φ : α → Cf → Prop} : ∀ {m : Res α}, Post G W' C (relo l m) Φ → Post G (WE' fun cls d H => W' cls d σ H) C m Φ
  | .ok a S, h => by
    dsimp only [relo] at h
    unfold Post at h ⊢
    exact h
  | .exc c w l' S, h => by
    dsimp only [relo] at h
    unfold Post at h ⊢
    exact fun D cls d σ' hD okD x hx _ => h D cls d σ hD okD x hx (r.mono ok x)
  | .pick n f, h => by
    dsimp only [relo] at h
    unfold Post at h ⊢
    exact fun i hi => post_relo ok r (h i hi)
  | .stuck, h => by
    dsimp only [relo] at h
    unfold Post at h
    exact h.elim
/-- what a def promises: what the reckoner gives -/
def spF (G : Glo) (F : Fn) (n : Nat) : Sp := fun vs H Q E => vs.length = n ∧ ∃ (C : Cf) (ws : List W), C.H = H ∧ C.Ok G ∧ RWs G.K C.ρ C.H ws vs ∧ Post G (WE' E) C (F ws C.S) (PhE G Q)
theorem sp_of {C : Cf} (ok : C.Ok G) {F : Fn} {l : Lo} {σ : L2.St} {ws : List W} {vs : List V} {n : Nat} {Q : VK} (r : RL G C l σ) (rv : RWs G.K C.ρ C.H ws vs) (hn : vs.length = n) (p : Post G W' C (relo l (callF F ws C.S)) (PhE G Q)) :
    spF G F n vs C.H Q fun cls d H => W' cls d σ H := by
  refine ⟨hn, ?_⟩
  have p1 := post_relo ok r p
  unfold callF at p1
  cases q : pureWs ws with
  | true =>
    simp only [q] at p1
    refine ⟨⟨C.ρ, C.H, C.S.bare⟩, ws, rfl, Cf.bare_ok ok, rv, post_back ok p1⟩
  | false =>
    simp only [q] at p1
    exact ⟨C, ws, rfl, ok, rv, p1⟩
end
/-- a def's body, reckoned -/
noncomputable def nonesK {α : Type} (n : Nat) (k : Lo → α) : α := Nat.rec (motive := fun _ => (Lo → α) → α) (fun k => k []) (fun _ ih k => ih fun r => k (none :: r)) n k
theorem nonesK_eq {α : Type} : ∀ (n : Nat) (k : Lo → α), nonesK n k = k (List.replicate n none)
  | 0, k => rfl
  | n + 1, k => nonesK_eq n fun r => k (none :: r)
noncomputable def someK {α : Type} (ws : List W) (m : Lo) (k : Lo → α) : α := List.rec (motive := fun _ => (Lo → α) → α) (fun k => k m) (fun w _ ih k => ih fun r => k (some w :: r)) ws k
theorem someK_eq {α : Type} {m : Lo} : ∀ (ws : List W) (k : Lo → α), someK ws m k = k (ws.map some ++ m)
  | [], k => rfl
  | w :: ws, k => someK_eq ws fun r => k (some w :: r)
noncomputable def startK {α : Type} (ws : List W) (n : Nat) (k : Lo → α) : α := nonesK (n - ws.length) fun m => someK ws m k
theorem startK_eq {α : Type} (ws : List W) (n : Nat) (k : Lo → α) : startK ws n k = k (ws.map some ++ List.replicate (n - ws.length) none) := by
  unfold startK
  rw [nonesK_eq, someK_eq]
noncomputable def evFun (body : Evs) (n : Nat) : Fn := fun ws S => startK ws n fun l => (body l S).bnd fun r S1 => match r with
  | .rt w => .ok w S1
  | .nx _ => .ok (.k .non) S1
  | .bk _ => .stuck
  | .ct _ => .stuck
theorem rl_start {G : Glo} {C : Cf} {N : List Str} {ws : List W} {vs : List V} (r : RWs G.K C.ρ C.H ws vs) : RL G C (ws.map some ++ List.replicate (N.length - ws.length) none) (L2.start N vs) := by
  have hl := r.length
  refine ⟨by unfold L2.start; simp [hl], fun i w h => ?_⟩
  by_cases hi : i < ws.length
  · rw [List.getElem?_append_left (by simpa using hi), List.getElem?_map] at h
    cases q : ws[i]? with
    | none => rw [q] at h; cases h
    | some u =>
      rw [q] at h
      cases h
      obtain ⟨v, h1, h2⟩ := r.get q
      refine ⟨v, ?_, h2⟩
      unfold L2.start
      rw [List.getElem?_append_left (by rw [List.length_map, hl]; exact hi), List.getElem?_map, h1]
      rfl
  · rw [List.getElem?_append_right (by simpa using hi), List.getElem?_replicate] at h
    split at h <;> cases h
section
variable {P : Program} {w : World} {mg : Str → Option Value} {base : Heap} {G : Glo}
abbrev cxB (P : Program) (w : World) (K : PySem.W.Frag) (mg : Str → Option Value) (base : Heap) (N : List Str) (qual : Str) (scope : Scope) (f : Addr) (cd : Value) (A : Around) (outer : List Env) (s : Shared) (H : Hp) (E : XK) : Cx := cxOf (L2.CX P w) P w K mg base N qual scope f cd A outer s H E
theorem fn_ok {x qual : Str} {st : Stmt} {f : Addr} {fd : FuncData} {N ps : List Str} {k : Nat} (F : Fun G.K x qual st f fd) (Sc : FnScope N ps (defScope st)) (body : Evs)
    (hb : ∀ (cdv : Value) (A : Around) (outer : List Env) (s : Shared) (H : Hp) (E : XK), Room k (A.deeper (envOfC qual (defScope st) s.heap.objs.size f cdv)) → SSs G (cxB P w G.K mg base N qual (defScope st) f cdv A outer s H E) (WE' E) body (defBody st)) :
    FnOk P w G.K mg base (L2.CX P w) (k + 1) f fd ps (spF G (evFun body N.length) ps.length) := by
  refine F.okX Sc (fun vs H Q E h => h.1) (fun cdv A outer s H vs Q E hr h => ?_)
  obtain ⟨hn, C, ws, rfl, ok, rv, p⟩ := h
  unfold evFun at p
  rw [startK_eq] at p
  refine ⟨_, hb cdv A outer s C.H E hr, C, _, rfl, ok, rl_start rv, Post.mono (fun fl C1 ok1 x1 p1 => ?_) (Post.bnd (k := fun r S1 => match r with
    | .rt w => .ok w S1
    | .nx _ => .ok (.k .non) S1
    | .bk _ => .stuck
    | .ct _ => .stuck) p)⟩
  cases fl with
  | nx l => exact fun σ _ => (Post.now ok1 p1) .non (by unfold RW; rfl)
  | rt w => exact fun v rv => (Post.now ok1 p1) v rv
  | bk l => unfold Post at p1; exact p1.elim
  | ct l => unfold Post at p1; exact p1.elim
end
section
variable {G : Glo} {X : Cx} {W' : WX} {k : Nat} {f : Addr} {fd : FuncData} {ps : List Str} {x : Str} {p pos : Pos} {e : Expr} {es : List Expr} {F : Fn} {fa : Eva}
/-- f() -/
theorem pe_callS0 {CX : CXT} {sp : Sp} {E : L2.St → XK} (Fk : FnOk X.prog X.w X.K X.mg X.base CX k f fd ps sp) (hr : Room k X.A) (hg : Gl X x) (hm : X.mg x = some (.ref f)) (hk : PySem.W.keepIn X.K (.ref f) = true) (hb : Binds X.K fd ps []) (hx : ∀ σ, PassesAt CX X σ (E σ))
    (hdb : (x == ("__debug__" : Str)) = false := by decide) : PE X (.Call (.Name x p) [] [] pos) (fun σ H Q => sp [] H Q (E σ)) := by
  refine ⟨fun pins s σ H Q I h => ?_⟩
  refine wpAny_Call_Name_kw (ld_glob I hg hm ?_ hdb)
  exact PySem.W.callWith_K0 I.kIn hk (run_fnSD (us := []) (dvs := []) (ds := []) Fk hr hb .nil (hx σ) I .nil h)
end
end Ev

namespace Ev
open PySem PySem.Spec PyProof.Rows L2

structure Okx (G : Glo) (X : Cx) : Prop where
  k : X.K = G.K
  calm : X.calm = true
  un : X.A.units + 65 < cLine
  pr : X.prog = G.P := by first | rfl | assumption
  wo : X.w = G.w := by first | rfl | assumption
/-- an operation, reckoned by g -/
def OpX (G : Glo) (X : Cx) (f : Value → Value → Sem Value) (g : Op2) : Prop := ∃ r, OpR X f r ∧ OpS G r g
section
variable {G : Glo} {X : Cx} {W' : WX} {pos : Pos}
theorem se_bop {op : Operator} {g : Op2} {fa fb : Evl} {a b : Expr} (h : OpX G X (binaryOp op) g) (ha : SE G X W' fa a) (hb : SE G X W' fb b) : SE G X W' (evBin g fa fb) (.BinOp a op b pos) := by
  obtain ⟨r, h1, h2⟩ := h
  exact se_bin h1 h2 ha hb
theorem se_cop {op : CmpOp} {g : Op2} {fa fb : Evl} {a b : Expr} (h : OpX G X (compareOp op) g) (ha : SE G X W' fa a) (hb : SE G X W' fb b) (hm : behindInMarks op b = false) : SE G X W' (evBin g fa fb) (.Compare a [op] [b] pos) := by
  obtain ⟨r, h1, h2⟩ := h
  exact se_cmp h1 h2 ha hb hm
theorem st_cop {op : CmpOp} {g : Op2} {fa fb : Evl} {a b : Expr} (h : OpX G X (compareOp op) g) (ha : SE G X W' fa a) (hb : SE G X W' fb b) (hm : behindInMarks op b = false) : ST G X W' (etBin g fa fb) (.Compare a [op] [b] pos) := by
  obtain ⟨r, h1, h2⟩ := h
  exact st_cmp h1 h2 ha hb hm
theorem opr_or {f : Value → Value → Sem Value} {r1 r2 : R2} (h1 : OpR X f r1) (h2 : OpR X f r2) : OpR X f (fun x y H Q => r1 x y H Q ∨ r2 x y H Q) := fun pins s σ H x y v u Q I rx ry h => by
  rcases h with h | h
  · exact h1 pins s σ H x y v u Q I rx ry h
  · exact h2 pins s σ H x y v u Q I rx ry h
theorem post_stuck {α : Type} {C : Cf} {Φ : α → Cf → Prop} {P : Prop} (p : Post G W' C .stuck Φ) : P := by
  unfold Post at p
  exact p.elim
end

/-! ### ints -/
noncomputable def kint {α : Type} (w : W) (z : α) (k : Int → α) : α := W.casesOn (motive_1 := fun _ => α) w (fun v => V.rec (motive := fun _ => α) z (fun _ => z) k (fun _ => z) (fun _ => z) (fun _ => z) (fun _ => z) (fun _ => z) v) (fun _ => z) (fun _ => z) (fun _ => z)
theorem post_kint {G : Glo} {W' : WX} {β : Type} {C : Cf} {w : W} {k : Int → Res β} {Φ : β → Cf → Prop} (p : Post G W' C (kint w .stuck k) Φ) : ∃ i, w = W.k (.int i) ∧ Post G W' C (k i) Φ := by
  cases w with
  | k v => cases v <;> first | exact ⟨_, rfl, p⟩ | exact post_stuck p
  | tup xs => exact post_stuck p
  | mix _ => (first | exact post_stuck (by assumption) | exact .inl (by assumption) | (exfalso; contradiction) | (unfold nkey at *; contradiction) | (unfold RW at *; simp_all; done) | (simp_all; done))
  | obj i => exact post_stuck p
theorem blt_dec (m n : Nat) : Nat.blt m n = decide (m < n) := by
  cases h : Nat.blt m n with
  | true =>
    have : m < n := Nat.le_of_ble_eq_true h
    rw [decide_eq_true this]
  | false =>
    have : ¬ m < n := fun z => by
      have : Nat.blt m n = true := Nat.ble_eq_true_of_le z
      rw [this] at h; cases h
    rw [decide_eq_false this]
def iEq (a b : Int) : Bool := match a with
  | .ofNat m => match b with
    | .ofNat n => Nat.beq m n
    | .negSucc _ => false
  | .negSucc m => match b with
    | .ofNat _ => false
    | .negSucc n => Nat.beq m n
theorem iEq_eq (a b : Int) : iEq a b = decide (a = b) := by
  cases a <;> cases b <;> unfold iEq <;> simp [beq_dec] <;> omega
section
variable {G : Glo} {X : Cx}
theorem rw_int {K : PySem.W.Frag} {ρ : List Addr} {H : Hp} {i : Int} {v : V} (h : RW K ρ H (.k (.int i)) v) : v = .int i := by unfold RW at h; exact h
theorem rw_k {K : PySem.W.Frag} {ρ : List Addr} {H : Hp} {x v : V} (h : RW K ρ H (.k x) v) : v = x := by unfold RW at h; exact h
theorem mk_k {K : PySem.W.Frag} {ρ : List Addr} {H : Hp} {x : V} : RW K ρ H (.k x) x := by unfold RW; rfl
/-- ints to ints, under a check -/
noncomputable def g2I (c : Int → Int → Bool) (f : Int → Int → Int) : Op2 := fun a b S => kint a .stuck fun x => kint b .stuck fun y => match c x y with
  | true => fInt (f x y) fun r => .ok (.k (.int r)) S
  | false => .stuck
theorem ops_2I {c : Int → Int → Bool} {f : Int → Int → Int} {Cd : Int → Int → Prop} {h : Int → Int → V} (hc : ∀ i j, c i j = true → Cd i j) (hf : ∀ i j, c i j = true → h i j = .int (f i j)) : OpS G (rI Cd h) (g2I c f) := fun W' C a b x y Q ok ra rb p => by
  obtain ⟨i, ea, p1⟩ := post_kint (k := fun x => kint b .stuck fun y => match c x y with
    | true => fInt (f x y) fun r => Res.ok (W.k (V.int r)) C.S
    | false => .stuck) p
  obtain ⟨j, eb, p2⟩ := post_kint p1
  rw [ea] at ra
  rw [eb] at rb
  cases q : c i j with
  | false => simp only [q] at p2; exact post_stuck p2
  | true =>
    simp only [q, fInt_eq] at p2
    exact ⟨i, j, rw_int ra, rw_int rb, hc i j q, by rw [hf i j q]; exact Post.now ok p2 _ mk_k⟩
theorem ops_2I0 {f : Int → Int → Int} {h : Int → Int → V} (hf : ∀ i j, h i j = .int (f i j)) : OpS G (rI0 h) (g2I (fun _ _ => true) f) := fun W' C a b x y Q ok ra rb p => by
  obtain ⟨i, j, h1, h2, _, h3⟩ := ops_2I (Cd := fun _ _ => True) (h := h) (fun _ _ _ => trivial) (fun i j _ => hf i j) W' C a b x y Q ok ra rb p
  exact ⟨i, j, h1, h2, h3⟩
/-! − of ints and of bools -/
end

/-! ### + - * of all kinds -/
noncomputable def kobj {α : Type} (i : Nat) (S : FH) (k : List W → Res α) : Res α := match S.get i with
  | some (.lst xs) => k xs
  | _ => .stuck
section
variable {G : Glo} {X : Cx}
theorem post_kobj {W' : WX} {α : Type} {C : Cf} (ok : C.Ok G) {i : Nat} {k : List W → Res α} {Φ : α → Cf → Prop} (p : Post G W' C (kobj i C.S k) Φ) :
    ∃ xs a vs, C.S.get i = some (.lst xs) ∧ C.ρ[i]? = some a ∧ C.H a = some (.lst vs) ∧ RWs G.K C.ρ C.H xs vs ∧ Post G W' C (k xs) Φ := by
  unfold kobj at p
  split at p
  · rename_i xs h
    obtain ⟨a, vs, h1, h2, h3⟩ := Cf.lstAt ok h
    exact ⟨xs, a, vs, h, h1, h2, h3, p⟩
  · exact post_stuck p
noncomputable def gAdd : Op2 := fun a b S => match a with
  | .tup xs => match b with
    | .tup ys => match xs with
      | [] => match short ys with
        | true => .ok b S
        | false => .stuck
      | _ :: _ => match ys with
        | [] => match short xs with
          | true => .ok a S
          | false => .stuck
        | _ :: _ => appK xs ys fun zs => match short zs with
          | true => .ok (.tup zs) S
          | false => .stuck
    | _ => .stuck
  | .obj i => match b with
    | .obj j => kobj i S fun xs => kobj j S fun ys => appK xs ys fun zs => match short zs with
      | true => newK S (.lst zs) fun n S1 => .ok (.obj n) S1
      | false => .stuck
    | _ => .stuck
  | .k _ => g2I (fun _ _ => true) Int.add a b S
  | .mix _ => .stuck
def rAddA (K : PySem.W.Frag) : R2 := fun x y H Q => (rI0 (fun i j => .int (i + j)) x y H Q ∨ rCatA K x y H Q) ∨ rCat x y H Q
theorem ox_add (hx : Okx G X) : OpX G X (binaryOp .Add) gAdd := ⟨rAddA G.K, by rw [← hx.k]; exact opr_or (opr_or op_add op_catA) op_cat, fun W' C a b x y Q ok ra rb p => by
  unfold gAdd at p
  cases a with
  | k v => exact .inl (.inl (ops_2I0 (fun _ _ => rfl) W' C (.k v) b x y Q ok ra rb p))
  | tup xs =>
    refine .inl (.inr ?_)
    cases b with
    | k v => exact post_stuck p
    | mix _ => (first | exact post_stuck (by assumption) | exact .inl (by assumption) | (exfalso; contradiction) | (unfold nkey at *; contradiction) | (unfold RW at *; simp_all; done) | (simp_all; done))
    | obj j => exact post_stuck p
    | tup ys =>
      have ra' := ra
      have rb' := rb
      unfold RW at ra rb
      obtain ⟨a, vs, rfl, h1, h2⟩ := ra
      obtain ⟨b, us, rfl, h3, h4⟩ := rb
      have l1 := h2.length
      have l2 := h4.length
      cases xs with
      | nil =>
        have e : vs = [] := List.eq_nil_of_length_eq_zero l1
        subst e
        cases q : short ys with
        | false => simp only [q] at p; exact post_stuck p
        | true =>
          simp only [q] at p
          have l3 := short_line q
          exact ⟨a, b, [], us, rfl, rfl, h1, h3, by rw [l2]; simpa using l3, fun _ => Post.now ok p _ rb', fun h => absurd rfl h, fun h => absurd rfl h⟩
      | cons x0 xr =>
        have ne : vs ≠ [] := fun e => by rw [e] at l1; cases l1
        cases ys with
        | nil =>
          have e : us = [] := List.eq_nil_of_length_eq_zero l2
          subst e
          cases q : short (x0 :: xr) with
          | false => simp only [q] at p; exact post_stuck p
          | true =>
            simp only [q] at p
            have l3 := short_line q
            exact ⟨a, b, vs, [], rfl, rfl, h1, h3, by rw [l1]; simpa using l3, fun h => absurd h ne, fun _ _ => Post.now ok p _ ra', fun _ h => absurd rfl h⟩
        | cons y0 yr =>
          simp only [appK_eq] at p
          cases q : short (x0 :: xr ++ y0 :: yr) with
          | false => simp only [q] at p; exact post_stuck p
          | true =>
            simp only [q] at p
            have l3 := short_line q
            refine ⟨a, b, vs, us, rfl, rfl, h1, h3, by rw [List.length_append] at l3; rw [l1, l2]; exact l3, fun h => absurd h ne, fun _ h => ?_, fun _ _ => post_tup ok p (h2.append h4)⟩
            rw [h] at l2; cases l2
  | mix _ => (first | exact post_stuck (by assumption) | exact .inl (by assumption) | (exfalso; contradiction) | (unfold nkey at *; contradiction) | (unfold RW at *; simp_all; done) | (simp_all; done))
  | obj i =>
    refine .inr ?_
    cases b with
    | k v => exact post_stuck p
    | tup xs => exact post_stuck p
    | mix _ => (first | exact post_stuck (by assumption) | exact .inl (by assumption) | (exfalso; contradiction) | (unfold nkey at *; contradiction) | (unfold RW at *; simp_all; done) | (simp_all; done))
    | obj j =>
      obtain ⟨xs, a, vs, _, h2, h3, h4, p⟩ := post_kobj ok p
      obtain ⟨ys, b, us, _, h5, h6, h7, p⟩ := post_kobj ok p
      unfold RW at ra rb
      obtain ⟨a', rfl, e⟩ := ra
      obtain ⟨b', rfl, e'⟩ := rb
      rw [h2] at e; cases e
      rw [h5] at e'; cases e'
      simp only [appK_eq] at p
      cases q : short (xs ++ ys) with
      | false => simp only [q] at p; exact post_stuck p
      | true =>
        simp only [q, newK_eq] at p
        have l3 := short_line q
        exact ⟨a, b, vs, us, rfl, rfl, h3, h6, by rw [List.length_append] at l3; rw [h4.length, h7.length]; exact l3, post_newL (vs := (vs ++ us)) ok p (h4.append h7)⟩⟩
end
end Ev

namespace Ev
open PySem PySem.Spec PyProof.Rows L2
theorem tuple_mulS (l : Addr) (items : Array Value) (n : Nat) (dd : Option Addr) (sl : Array (Option Value)) (x : Int) (u : Tok) (c0 : (decide (x < -(2 ^ 63)) || decide (x ≥ 2 ^ 63)) = false) (c1 : (items.isEmpty || x == 1) = true) :
    Meets (Builtin.«tuple.__mul__» ⟨[.ref l, .int x u], []⟩) (fun _ R s => s.heap.get? l = some { cls := .type "tuple", dict := dd, data := .seq items n, slots := sl } ∧
      R (.ok (.ret (Value.ref l))) s) :=
  .of_wp fun prog w A R s h => by
    obtain ⟨hp, g, d, tk, os⟩ := s
    obtain ⟨hl, h⟩ := h
    have f1 := AutoSeq1.idx_int
    wp_walk using wpAny_loadPart' hl
    repeat (first
      | (refine wpAny_ite_false (decide_eq_false (by rw [c0]; exact Bool.false_ne_true)) ?_; wp_walk using wpAny_loadPart' hl)
      | (refine wpAny_ite_true (decide_eq_true c1) ?_; wp_walk using wpAny_loadPart' hl))
    exact ⟨_, rfl, h⟩
theorem tuple_mulZ (l : Addr) (items : Array Value) (n : Nat) (dd : Option Addr) (sl : Array (Option Value)) (x : Int) (u : Tok) (c0 : (decide (x < -(2 ^ 63)) || decide (x ≥ 2 ^ 63)) = false) (c1 : (items.isEmpty || x == 1) = false) (c2 : (decide (x ≤ 0) || items.isEmpty) = true) :
    Meets (Builtin.«tuple.__mul__» ⟨[.ref l, .int x u], []⟩) (fun _ R s => s.heap.get? l = some { cls := .type "tuple", dict := dd, data := .seq items n, slots := sl } ∧
      R (.ok (.ret (Value.ref s.heap.objs.size))) { s with heap := s.heap.push { cls := Value.type "tuple", data := Data.seq #[] }, toks := s.toks }) :=
  .of_wp fun prog w A R s h => by
    obtain ⟨hp, g, d, tk, os⟩ := s
    obtain ⟨hl, h⟩ := h
    have f1 := AutoSeq1.idx_int
    wp_walk using wpAny_loadPart' hl
    repeat (first
      | (refine wpAny_ite_false (decide_eq_false (by rw [c0]; exact Bool.false_ne_true)) ?_; wp_walk using wpAny_loadPart' hl)
      | (refine wpAny_ite_false (decide_eq_false (by rw [c1]; exact Bool.false_ne_true)) ?_; wp_walk using wpAny_loadPart' hl)
      | (refine wpAny_ite_true (decide_eq_true c2) ?_; wp_walk using wpAny_loadPart' hl))
    exact ⟨_, rfl, h⟩
section
variable {X : Cx}
def rRepA (K : PySem.W.Frag) : R2 := fun x y H Q => ∃ l k xs, x = .ref l ∧ y = .int k ∧ SqT K H l xs ∧ k ≤ 1000 ∧ -1000 ≤ k ∧ xs.length ≤ 1000 ∧
  ((xs = [] ∨ k = 1) → Q (.ref l) H) ∧ (xs ≠ [] → k ≤ 0 → ∀ p, H p = none → Q (.ref p) (upd H p (.tup []))) ∧ (xs ≠ [] → 2 ≤ k → ∀ p, H p = none → Q (.ref p) (upd H p (.tup (List.replicate k.toNat xs).flatten)))
theorem op_repA : OpR X (binaryOp .Mult) (rRepA X.K) := by
  intro pins s σ H x y v u Q I rx ry h
  obtain ⟨l, k, xs, rfl, rfl, hT, h1, h0, hz, q0, q1, q2⟩ := h
  by_cases hb : xs ≠ [] ∧ 2 ≤ k
  · exact op_repT pins s σ H _ _ v u Q I rx ry ⟨l, k, xs, rfl, rfl, hT, hb.1, hb.2, h1, hz, q2 hb.1 hb.2⟩
  cases rx
  obtain ⟨t, rfl⟩ := ry
  obtain ⟨its, r, ⟨⟨cls, dd, data, sl⟩, ho, hc, n, hd⟩, hs⟩ := I.tuple hT
  simp only at hc hd
  subst hc hd
  have hle : its.length = xs.length := r.length.symm
  have c0 : (decide (k < -(2 ^ 63)) || decide (k ≥ 2 ^ 63)) = false := by
    rw [decide_eq_false (by omega), decide_eq_false (by omega)] <;> rfl
  by_cases hs1 : xs = [] ∨ k = 1
  · have c1 : (its.toArray.isEmpty || k == 1) = true := by
      rcases hs1 with e | e
      · subst e
        have : its = [] := List.eq_nil_of_length_eq_zero hle
        subst this
        rfl
      · subst e
        simp
    exact wpAny_binaryOp_repeat_ref (T := "tuple") (U := "int") (by decide) ⟨_, ho, rfl⟩ (fun s' => typeIs_int s' k t) noFill_tuple_mul F.fills_int_mul F.slot_int_rmul repeat_tuple F.slot_int_index.lookup
      (call_meets F.slot_int_rmul (typeIs_int s k t) F.entry_int_rmul (F.args_int_rmul_2 _ _) (int_rmul_tuple k t l its.toArray n dd sl)
        ⟨ho, rfl, ⟨_, ho, rfl⟩, call_meets F.slot_tuple_mul ⟨_, ho, rfl⟩ F.entry_tuple_mul (F.args_tuple_mul_2 _ _) (tuple_mulS l its.toArray n dd sl k t c0 c1) ⟨ho, .ref l, H, I, rfl, q0 hs1⟩⟩)
  · have hn : its ≠ [] := fun e => hs1 (.inl (List.eq_nil_of_length_eq_zero (by rw [← hle, e]; rfl)))
    have hi : its.toArray.isEmpty = false := by
      cases its with
      | nil => exact absurd rfl hn
      | cons a b => rfl
    have hx : xs ≠ [] := fun e => hs1 (.inl e)
    have hk : k ≤ 0 := by
      have : k ≠ 1 := fun e => hs1 (.inr e)
      have : ¬ 2 ≤ k := fun e => hb ⟨hx, e⟩
      omega
    have c1 : (its.toArray.isEmpty || k == 1) = false := by
      rw [hi, Bool.false_or]
      exact beq_eq_false_iff_ne.mpr (by omega)
    have c2 : (decide (k ≤ 0) || its.toArray.isEmpty) = true := by
      rw [decide_eq_true hk]; rfl
    exact wpAny_binaryOp_repeat_ref (T := "tuple") (U := "int") (by decide) ⟨_, ho, rfl⟩ (fun s' => typeIs_int s' k t) noFill_tuple_mul F.fills_int_mul F.slot_int_rmul repeat_tuple F.slot_int_index.lookup
      (call_meets F.slot_int_rmul (typeIs_int s k t) F.entry_int_rmul (F.args_int_rmul_2 _ _) (int_rmul_tuple k t l its.toArray n dd sl)
        ⟨ho, rfl, ⟨_, ho, rfl⟩, call_meets F.slot_tuple_mul ⟨_, ho, rfl⟩ F.entry_tuple_mul (F.args_tuple_mul_2 _ _) (tuple_mulZ l its.toArray n dd sl k t c0 c1 c2) ⟨ho,
          .ref s.heap.objs.size, _, I.laid (t' := s.toks) (o := .tup []) (fun b ob q => Heap.get?_push_of_some _ q) (Nat.le_refl _) ⟨Nat.zero_le _, _, .nil, IsTup.new _ _⟩, rfl, q1 hx hk _ (I.hok.fresh (Nat.le_refl _))⟩⟩)
end
end Ev

namespace Ev
open PySem PySem.Spec PyProof.Rows L2

/-! ### data -/
noncomputable def eqNs (a : List Nat) : List Nat → Bool := List.rec (motive := fun _ => List Nat → Bool) (fun b => match b with | [] => true | _ :: _ => false) (fun x _ ih b => match b with
  | [] => false
  | y :: r => match Nat.beq x y with
    | true => ih r
    | false => false) a
theorem eqNs_eq : ∀ a b : List Nat, eqNs a b = decide (a = b)
  | [], [] => rfl
  | [], y :: r => by
    show false = _
    rw [decide_eq_false (by intro h; cases h)]
  | x :: a, [] => by
    show false = _
    rw [decide_eq_false (by intro h; cases h)]
  | x :: a, y :: r => by
    have ih := eqNs_eq a r
    show (match Nat.beq x y with | true => eqNs a r | false => false) = _
    rw [beq_dec, ih]
    by_cases h : x = y
    · subst h
      simp
    · simp [h]
noncomputable def eqS (a b : Str) : Bool := eqNs a.cps.toList b.cps.toList
theorem eqS_eq (a b : Str) : eqS a b = decide (a = b) := by
  unfold eqS
  rw [eqNs_eq, decide_eq_decide]
  constructor
  · intro h
    cases a; cases b
    simp only at h
    exact congrArg Str.mk (Array.toList_inj.mp h)
  · intro h; rw [h]
theorem eqS_beq (a b : Str) : eqS a b = (a == b) := by
  rw [eqS_eq]
  rw [Bool.eq_iff_iff]; simp
noncomputable def sOkL (l : List Nat) : Bool := List.rec (motive := fun _ => Bool) true (fun c _ ih => match Nat.blt c 1114112 with
  | true => ih
  | false => false) l
theorem sOkL_of : ∀ {l : List Nat}, sOkL l = true → ∀ c ∈ l, c < 1114112
  | [], _, _, hc => nomatch hc
  | c :: l, h, c', hc => by
    have h' : (match Nat.blt c 1114112 with | true => sOkL l | false => false) = true := h
    rw [blt_dec] at h'
    by_cases q : c < 1114112
    · rw [decide_eq_true q] at h'
      rcases List.mem_cons.mp hc with e | e
      · subst e; exact q
      · exact sOkL_of h' c' e
    · rw [decide_eq_false q] at h'; cases h'
noncomputable def sOk (x : Str) : Bool := sOkL x.cps.toList
theorem sOk_of {x : Str} (h : sOk x = true) : PyData.strOk x = true := by
  unfold PyData.strOk
  rw [Array.all_eq_true]
  intro i hi
  have := sOkL_of h x.cps[i] (by simp)
  exact decide_eq_true this
noncomputable def toV (v : V) : Option PyData := match v with
  | .non => some .none
  | .bl b => some (.bool b)
  | .int i => some (.int i)
  | .str x => match sOk x with
    | true => some (.str x)
    | false => none
  | _ => none
noncomputable def allD (f : W → Option PyData) (ws : List W) : Option (List PyData) := List.rec (motive := fun _ => Option (List PyData)) (some []) (fun w _ ih => match f w with
  | some d => match ih with
    | some ds => some (d :: ds)
    | none => none
  | none => none) ws
noncomputable def toD (S : FH) (n : Nat) : W → Option PyData := Nat.rec (motive := fun _ => W → Option PyData) (fun w => match w with
  | .k v => toV v
  | _ => none) (fun _ ih w => match w with
  | .k v => toV v
  | .tup xs => match allD ih xs with
    | some ds => some (.tuple ds)
    | none => none
  | .obj i => match S.get i with
    | some (.lst xs) => match allD ih xs with
      | some ds => some (.list ds)
      | none => none
    | _ => none
  | .mix _ => none) n
theorem allD_cons {f : W → Option PyData} {w : W} {ws : List W} {ds : List PyData} (h : allD f (w :: ws) = some ds) : ∃ d r, ds = d :: r ∧ f w = some d ∧ allD f ws = some r := by
  have h' : (match f w with
    | some d => match allD f ws with
      | some ds => some (d :: ds)
      | none => none
    | none => none) = some ds := h
  cases e : f w with
  | none => rw [e] at h'; cases h'
  | some d =>
    rw [e] at h'
    cases e2 : allD f ws with
    | none => rw [e2] at h'; cases h'
    | some r => rw [e2] at h'; cases h'; exact ⟨d, r, rfl, rfl, rfl⟩
section
variable {K : PySem.W.Frag} {H : Hp}
theorem toV_of {v u : V} {d : PyData} (h : toV v = some d) (e : u = v) : Dp K H u d ∧ d.canLay0 = true ∧ d.depth = 0 := by
  subst e
  unfold toV at h
  split at h
  · cases h; exact ⟨.non, rfl, rfl⟩
  · cases h; exact ⟨.bl _, rfl, rfl⟩
  · cases h; exact ⟨.int _, rfl, rfl⟩
  · rename_i x
    cases q : sOk x with
    | false => simp only [q] at h; cases h
    | true =>
      simp only [q] at h
      cases h
      refine ⟨.str _, ?_, ?_⟩
      · unfold PyData.canLay0; exact sOk_of q
      · unfold PyData.depth; rfl
  · cases h
end
section
variable {G : Glo}
def DOk (C : Cf) (n : Nat) (w : W) (d : PyData) : Prop := (∀ v, RW G.K C.ρ C.H w v → Dp G.K C.H v d) ∧ d.canLay0 = true ∧ d.depth ≤ n
theorem allD_of {C : Cf} {n : Nat} {f : W → Option PyData} (hf : ∀ w d, f w = some d → DOk (G := G) C n w d) : ∀ {ws : List W} {ds : List PyData}, allD f ws = some ds → (∀ vs, RWs G.K C.ρ C.H ws vs → DpAll G.K C.H vs ds) ∧ PyData.canLayAll0 ds = true ∧ PyData.depthAll ds ≤ n
  | [], ds, h => by
    cases h
    refine ⟨fun vs h => ?_, rfl, Nat.zero_le _⟩
    unfold RWs at h
    subst h
    exact .nil
  | w :: ws, ds, h => by
    obtain ⟨d, r, rfl, h1, h2⟩ := allD_cons h
    obtain ⟨a1, a2, a3⟩ := hf w d h1
    obtain ⟨b1, b2, b3⟩ := allD_of hf h2
    refine ⟨fun vs h => ?_, ?_, ?_⟩
    · unfold RWs at h
      obtain ⟨v, vr, rfl, c1, c2⟩ := h
      exact .cons (a1 v c1) (b1 vr c2)
    · unfold PyData.canLayAll0
      rw [a2, b2]; rfl
    · unfold PyData.depthAll
      exact Nat.max_le.mpr ⟨a3, b3⟩
theorem toD_of {C : Cf} (ok : C.Ok G) : ∀ (n : Nat) (w : W) (d : PyData), toD C.S n w = some d → DOk (G := G) C n w d
  | 0, .k v, d, h => by
    have h' : toV v = some d := h
    exact ⟨fun u hu => (toV_of (K := G.K) (H := C.H) h' (rw_k hu)).1, (toV_of (K := G.K) (H := C.H) h' rfl).2.1, Nat.le_of_eq (toV_of (K := G.K) (H := C.H) h' rfl).2.2⟩
  | n + 1, .k v, d, h => by
    have h' : toV v = some d := h
    exact ⟨fun u hu => (toV_of (K := G.K) (H := C.H) h' (rw_k hu)).1, (toV_of (K := G.K) (H := C.H) h' rfl).2.1, by rw [(toV_of (K := G.K) (H := C.H) h' rfl).2.2]; exact Nat.zero_le _⟩
  | 0, .tup xs, d, h => by cases h
  | 0, .obj i, d, h => by cases h
  | 0, .mix i, d, h => by cases h
  | n + 1, .mix i, d, h => by cases h
  | n + 1, .tup xs, d, h => by
    have h' : (match allD (toD C.S n) xs with
      | some ds => some (.tuple ds)
      | none => none) = some d := h
    cases e : allD (toD C.S n) xs with
    | none => rw [e] at h'; cases h'
    | some ds =>
      rw [e] at h'
      cases h'
      obtain ⟨a1, a2, a3⟩ := allD_of (toD_of ok n) e
      refine ⟨fun u hu => ?_, ?_, ?_⟩
      · unfold RW at hu
        obtain ⟨a, vs, rfl, h1, h2⟩ := hu
        exact .tup h1 (a1 vs h2)
      · unfold PyData.canLay0; exact a2
      · unfold PyData.depth; omega
  | n + 1, .obj i, d, h => by
    have h' : (match C.S.get i with
      | some (.lst xs) => match allD (toD C.S n) xs with
        | some ds => some (.list ds)
        | none => none
      | _ => none) = some d := h
    split at h'
    · rename_i xs hx
      cases e : allD (toD C.S n) xs with
      | none => rw [e] at h'; cases h'
      | some ds =>
        rw [e] at h'
        cases h'
        obtain ⟨a1, a2, a3⟩ := allD_of (toD_of ok n) e
        obtain ⟨a, vs, h1, h2, h3⟩ := Cf.lstAt ok hx
        refine ⟨fun u hu => ?_, ?_, ?_⟩
        · unfold RW at hu
          obtain ⟨a', rfl, h4⟩ := hu
          rw [h1] at h4; cases h4
          exact .lst (SqL.of h2) (a1 vs h3)
        · unfold PyData.canLay0; exact a2
        · unfold PyData.depth; omega
    · cases h'
end
noncomputable def eqAllF (f : PyData → PyData → Bool) (a : List PyData) : List PyData → Bool := List.rec (motive := fun _ => List PyData → Bool) (fun b => match b with | [] => true | _ :: _ => false) (fun x _ ih b => match b with
  | [] => false
  | y :: r => match f x y with
    | true => ih r
    | false => false) a
def bI (b : Bool) : Int := match b with
  | true => 1
  | false => 0
def eqB (a b : Bool) : Bool := match a with
  | true => b
  | false => !b
noncomputable def eqF (n : Nat) : PyData → PyData → Bool := Nat.rec (motive := fun _ => PyData → PyData → Bool) (fun _ _ => false) (fun _ ih d e => match d with
  | .tuple xs => match e with
    | .tuple ys => eqAllF ih xs ys
    | _ => false
  | .list xs => match e with
    | .list ys => eqAllF ih xs ys
    | _ => false
  | .int i => match e with
    | .int j => iEq i j
    | .bool b => iEq i (bI b)
    | _ => false
  | .bool a => match e with
    | .bool b => eqB a b
    | .int j => iEq (bI a) j
    | _ => false
  | .str x => match e with
    | .str y => eqS x y
    | _ => false
  | .none => match e with
    | .none => true
    | _ => false
  | .dict _ => false) n
theorem iEq_beq (i j : Int) : iEq i j = (i == j) := by rw [iEq_eq]; rfl
theorem bI_eq (b : Bool) : bI b = if b = true then 1 else 0 := by cases b <;> rfl
theorem eqAllF_eq {n : Nat} (ih : ∀ d e, PyData.depth d < n → eqF n d e = PyData.eqv d e) : ∀ (xs ys : List PyData), PyData.depthAll xs < n → eqAllF (eqF n) xs ys = PyData.eqvAll xs ys
  | [], [], _ => by unfold PyData.eqvAll; rfl
  | [], y :: ys, _ => by unfold PyData.eqvAll; rfl
  | x :: xs, [], _ => by unfold PyData.eqvAll; rfl
  | x :: xs, y :: ys, h => by
    unfold PyData.depthAll at h
    have h1 : PyData.depth x < n := by omega
    have h2 : PyData.depthAll xs < n := by omega
    have e : eqAllF (eqF n) (x :: xs) (y :: ys) = match eqF n x y with
      | true => eqAllF (eqF n) xs ys
      | false => false := rfl
    rw [e, ih x y h1, eqAllF_eq ih xs ys h2]
    conv => rhs; unfold PyData.eqvAll
    cases PyData.eqv x y <;> rfl
theorem eqF_eq : ∀ (n : Nat) (d e : PyData), PyData.depth d < n → eqF n d e = PyData.eqv d e
  | 0, _, _, h => absurd h (Nat.not_lt_zero _)
  | n + 1, d, e, h => by
    cases d <;> cases e <;> first
      | (unfold PyData.eqv; rfl)
      | (unfold PyData.eqv; exact iEq_beq _ _)
      | (unfold PyData.eqv; rw [← bI_eq]; exact iEq_beq _ _)
      | (unfold PyData.eqv; exact eqS_beq _ _)
      | (rename_i a b; unfold PyData.eqv; cases a <;> cases b <;> rfl)
      | (rename_i xs ys
         unfold PyData.depth at h
         unfold PyData.eqv
         exact eqAllF_eq (eqF_eq n) xs ys (by omega))
noncomputable def datK {α : Type} (w : W) (S : FH) (k : PyData → Res α) : Res α := match toD S 40 w with
  | some d => k d
  | none => .stuck
section
variable {G : Glo} {X : Cx}
theorem post_dat {W' : WX} {α : Type} {C : Cf} (ok : C.Ok G) {w : W} {v : V} (rv : RW G.K C.ρ C.H w v) {k : PyData → Res α} {Φ : α → Cf → Prop} (p : Post G W' C (datK w C.S k) Φ) :
    ∃ d, Dp G.K C.H v d ∧ SeqAt.shaped d = true ∧ d.canLay0 = true ∧ d.depth ≤ 40 ∧ Post G W' C (k d) Φ := by
  unfold datK at p
  cases q : toD C.S 40 w with
  | none => simp only [q] at p; exact post_stuck p
  | some d =>
    simp only [q] at p
    obtain ⟨h1, h2, h3⟩ := toD_of ok 40 w d q
    refine ⟨d, h1 v rv, ?_, h2, h3, p⟩
    unfold SeqAt.shaped
    rw [h2, decide_eq_true (by omega)]; rfl
noncomputable def gEq : Op2 := fun a b S => datK a S fun d => datK b S fun e => fBool (eqF 50 d e) fun r => .ok (.k (.bl r)) S
noncomputable def gNe : Op2 := fun a b S => datK a S fun d => datK b S fun e => fBool (!(eqF 50 d e)) fun r => .ok (.k (.bl r)) S
theorem ox_eq (hx : Okx G X) : OpX G X (compareOp .Eq) gEq := ⟨rEqD G.K, by rw [← hx.k]; exact op_eqD (by have := hx.un; omega), fun W' C a b x y Q ok ra rb p => by
  obtain ⟨d, h1, h2, _, h3, p⟩ := post_dat ok ra p
  obtain ⟨e, h4, h5, _, h6, p⟩ := post_dat ok rb p
  rw [fBool_eq, eqF_eq 50 d e (by omega)] at p
  exact ⟨d, e, h1, h4, h2, h5, Post.now ok p _ mk_k⟩⟩
theorem ox_ne (hx : Okx G X) : OpX G X (compareOp .NotEq) gNe := ⟨rNeD G.K, by rw [← hx.k]; exact op_neD (by have := hx.un; omega), fun W' C a b x y Q ok ra rb p => by
  obtain ⟨d, h1, h2, _, h3, p⟩ := post_dat ok ra p
  obtain ⟨e, h4, h5, _, h6, p⟩ := post_dat ok rb p
  rw [fBool_eq, eqF_eq 50 d e (by omega)] at p
  exact ⟨d, e, h1, h4, h2, h5, Post.now ok p _ mk_k⟩⟩
/-! is None -/
noncomputable def isNon (w : W) : Bool := match w with
  | .k .non => true
  | _ => false
noncomputable def noneK {α : Type} (w : W) (k : Res α) : Res α := match w with
  | .k .non => k
  | _ => .stuck
noncomputable def gIs : Op2 := fun a b S => noneK b (fBool (isNon a) fun r => .ok (.k (.bl r)) S)
theorem isNon_of {ρ : List Addr} {H : Hp} {w : W} {v : V} (r : RW G.K ρ H w v) : isNon w = decide (v = V.non) := by
  cases w with
  | k u =>
    rw [rw_k r]
    cases u <;> rfl
  | tup xs =>
    unfold RW at r
    obtain ⟨a, vs, rfl, _⟩ := r
    rfl
  | mix ys =>
    unfold RW at r
    obtain ⟨a, vs, rfl, _⟩ := r
    rfl
  | obj i =>
    unfold RW at r
    obtain ⟨a, rfl, _⟩ := r
    rfl
theorem post_none {W' : WX} {α : Type} {C : Cf} {w : W} {v : V} (r : RW G.K C.ρ C.H w v) {k : Res α} {Φ : α → Cf → Prop} (p : Post G W' C (noneK w k) Φ) : v = .non ∧ Post G W' C k Φ := by
  unfold noneK at p
  split at p
  · exact ⟨rw_k r, p⟩
  · exact post_stuck p
theorem ox_is : OpX G X (compareOp .Is) gIs := ⟨_, op_isN, fun W' C a b x y Q ok ra rb p => by
  obtain ⟨e, p⟩ := post_none rb p
  rw [fBool_eq, isNon_of ra] at p
  exact ⟨e, Post.now ok p _ mk_k⟩⟩
/-! - and * -/
noncomputable def repK {α : Type} (xs : List W) (n : Nat) (k : List W → α) : α := Nat.rec (motive := fun _ => (List W → α) → α) (fun k => k []) (fun _ ih k => ih fun r => appK xs r k) n k
theorem repK_eq {α : Type} {xs : List W} : ∀ (n : Nat) (k : List W → α), repK xs n k = k (List.replicate n xs).flatten
  | 0, k => rfl
  | n + 1, k => by
    show repK xs n (fun r => appK xs r k) = _
    rw [repK_eq n, appK_eq]
    simp [List.replicate_succ]
theorem RWs.rep {K : PySem.W.Frag} {ρ : List Addr} {H : Hp} {ws : List W} {vs : List V} (h : RWs K ρ H ws vs) : ∀ n : Nat, RWs K ρ H (List.replicate n ws).flatten (List.replicate n vs).flatten
  | 0 => .nil
  | n + 1 => by
    simp only [List.replicate_succ, List.flatten_cons]
    exact h.append (h.rep n)
noncomputable def fewW (ws : List W) : Bool := Nat.ble ws.length 1000
noncomputable def gMul : Op2 := fun a b S => match a with
  | .k _ => g2I (fun i j => Nat.blt (i.natAbs.log2 + j.natAbs.log2) 1000000) Int.mul a b S
  | .mix _ => .stuck
  | .tup xs => kint b .stuck fun n => match n with
    | .ofNat n => match Nat.ble n 1000 with
      | true => match fewW xs with
        | true => match xs with
          | [] => .ok a S
          | _ :: _ => match Nat.beq n 1 with
            | true => .ok a S
            | false => repK xs n fun zs => .ok (.tup zs) S
        | false => .stuck
      | false => .stuck
    | .negSucc _ => .stuck
  | .obj i => kobj i S fun xs => kint b .stuck fun n => match n with
    | .ofNat n => match Nat.ble (xs.length * n) 10000 with
      | true => match Nat.ble n 10000 with
        | true => repK xs n fun zs => newK S (.lst zs) fun m S1 => .ok (.obj m) S1
        | false => .stuck
      | false => .stuck
    | .negSucc _ => .stuck
theorem ox_mul (hx : Okx G X) : OpX G X (binaryOp .Mult) gMul := ⟨fun x y H Q => (rI CMulW (fun i j => .int (i * j)) x y H Q ∨ rRepA G.K x y H Q) ∨ rRep x y H Q, by rw [← hx.k]; exact opr_or (opr_or op_mulW op_repA) op_rep, fun W' C a b x y Q ok ra rb p => by
  unfold gMul at p
  cases a with
  | k v =>
    refine .inl (.inl (ops_2I (c := fun i j => Nat.blt (i.natAbs.log2 + j.natAbs.log2) 1000000) (fun i j h => ?_) (fun _ _ _ => rfl) W' C (.k v) b x y Q ok ra rb p))
    exact Nat.le_of_ble_eq_true h
  | tup xs =>
    obtain ⟨n, eb, p⟩ := post_kint p
    rw [eb] at rb
    cases n with
    | negSucc n => exact post_stuck p
    | ofNat n =>
      simp only at p
      cases q1 : Nat.ble n 1000 with
      | false => simp only [q1] at p; exact post_stuck p
      | true =>
        simp only [q1] at p
        cases q2 : fewW xs with
        | false => simp only [q2] at p; exact post_stuck p
        | true =>
          simp only [q2] at p
          have h1 : n ≤ 1000 := Nat.le_of_ble_eq_true q1
          have h2 : xs.length ≤ 1000 := Nat.le_of_ble_eq_true q2
          have ra' := ra
          unfold RW at ra
          obtain ⟨a, vs, rfl, r1, r2⟩ := ra
          have l1 := r2.length
          refine .inl (.inr ⟨a, (n : Int), vs, rfl, rw_int rb, r1, by omega, by omega, by omega, ?_, ?_, ?_⟩)
          · intro hc
            cases xs with
            | nil => exact Post.now ok p _ ra'
            | cons x0 xr =>
              rcases hc with e | e
              · rw [e] at l1; cases l1
              · have : n = 1 := by omega
                subst this
                exact Post.now ok p _ ra'
          · intro ne hk
            have : n = 0 := by omega
            subst this
            cases xs with
            | nil => exact absurd (List.eq_nil_of_length_eq_zero l1) ne
            | cons x0 xr => exact post_tup ok p .nil
          · intro ne hk
            cases xs with
            | nil => exact absurd (List.eq_nil_of_length_eq_zero l1) ne
            | cons x0 xr =>
              simp only at p
              have e1 : Nat.beq n 1 = false := by rw [beq_dec, decide_eq_false]; omega
              rw [e1] at p
              simp only [repK_eq] at p
              exact post_tup ok p (r2.rep n)
  | mix _ => (first | exact post_stuck (by assumption) | exact .inl (by assumption) | (exfalso; contradiction) | (unfold nkey at *; contradiction) | (unfold RW at *; simp_all; done) | (simp_all; done))
  | obj i =>
    obtain ⟨xs, a, vs, _, h2, h3, h4, p⟩ := post_kobj ok p
    obtain ⟨n, eb, p⟩ := post_kint p
    rw [eb] at rb
    cases n with
    | negSucc n => exact post_stuck p
    | ofNat n =>
      simp only at p
      cases q1 : Nat.ble (xs.length * n) 10000 with
      | false => simp only [q1] at p; exact post_stuck p
      | true =>
        simp only [q1] at p
        cases q2 : Nat.ble n 10000 with
        | false => simp only [q2] at p; exact post_stuck p
        | true =>
          simp only [q2, repK_eq, newK_eq] at p
          have l1 : xs.length * n ≤ 10000 := Nat.le_of_ble_eq_true q1
          have l2 : n ≤ 10000 := Nat.le_of_ble_eq_true q2
          unfold RW at ra
          obtain ⟨a', rfl, e⟩ := ra
          rw [h2] at e; cases e
          refine .inr ⟨a, (n : Int), vs, rfl, rw_int rb, h3, by omega, by omega, ?_, post_newL (vs := (List.replicate n vs).flatten) ok p (h4.rep n)⟩
          rw [h4.length, sizeLine_eq]
          show xs.length * n ≤ _
          omega⟩
end
end Ev

namespace Ev
open PySem PySem.Spec PyProof.Rows L2

section
variable {G : Glo} {X : Cx} {W' : WX} {pos : Pos}
/-! ### unary - -/
/-! ### in -/
/-! ### subscripts -/
/-! ### slices: the parts -/
end
end Ev

namespace Ev
open PySem PySem.Spec PyProof.Rows L2

/-! ### built-in functions and types -/
abbrev Opn := List W → FH → Res W
def CsS (G : Glo) (r : List V → Hp → VK → Prop) (g : Opn) : Prop := ∀ (W' : WX) (C : Cf) (ws : List W) (vs : List V) (Q : VK), C.Ok G → RWs G.K C.ρ C.H ws vs → Post G W' C (g ws C.S) (PhE G Q) → r vs C.H Q
def CallX (G : Glo) (X : Cx) (f : Value) (g : Opn) : Prop := ∃ r, CallR X f r ∧ CsS G r g
noncomputable def evCB (g : Opn) (f : Eva) : Evl := fun l S => (f l S).bnd fun ws S1 => g ws S1
section
variable {G : Glo} {X : Cx} {W' : WX} {pos : Pos}
theorem rd_cb {g : Opn} {r : List V → Hp → VK → Prop} (hg : CsS G r g) {f : Eva} {σ : L2.St} {H : Hp} {Q : VK} (h : rdE G W' (evCB g f) σ H Q) : tCB r (rdA G W' f) σ H Q := by
  obtain ⟨C, l, e, ok, rl, p⟩ := h
  exact ⟨C, l, e, ok, rl, Post.mono (fun ws C1 ok1 x1 p1 vs rv => hg W' C1 ws vs Q ok1 rv p1) (Post.bnd p)⟩
theorem se_callB {x : Str} {id : String} {p : Pos} {e : Expr} {es : List Expr} {g : Opn} {f : Eva} (hc : CallX G X (.builtin id) g) (hg : Gl X x) (hm : X.mg x = none) (hv : bootBuiltins x = some (.builtin id)) (ha : SA G X W' f (e :: es)) (hn : x ≠ "__name__" := by decide) (hdb : (x == ("__debug__" : Str)) = false := by decide)
    (he : starEach (e :: es) X.env = (false, eval e X.env) :: starEach es X.env := by rfl) (hpl : (backTo pos (starEach es X.env)).any (·.1) = false := by rfl) : SE G X W' (evCB g f) (.Call (.Name x p) (e :: es) [] pos) := by
  obtain ⟨r, h1, h2⟩ := hc
  exact pe_imp (pe_callB h1 hg hm hv ha hn hdb he hpl) fun σ H Q h => rd_cb h2 h
theorem rws2 {K : PySem.W.Frag} {ρ : List Addr} {H : Hp} {vs : List V} {w u : W} (h : RWs K ρ H [w, u] vs) : ∃ v z, vs = [v, z] ∧ RW K ρ H w v ∧ RW K ρ H u z := by
  unfold RWs at h
  obtain ⟨v, r, rfl, h1, h2⟩ := h
  obtain ⟨z, rfl, h3⟩ := rws1 h2
  exact ⟨v, z, rfl, h1, h3⟩
noncomputable def one {α : Type} (ws : List W) (k : W → Res α) : Res α := match ws with
  | [] => .stuck
  | w :: r => match r with
    | [] => k w
    | _ :: _ => .stuck
noncomputable def two {α : Type} (ws : List W) (k : W → W → Res α) : Res α := match ws with
  | [] => .stuck
  | w :: r => one r fun u => k w u
theorem post_one {α : Type} {C : Cf} {ws : List W} {vs : List V} (rv : RWs G.K C.ρ C.H ws vs) {k : W → Res α} {Φ : α → Cf → Prop} (p : Post G W' C (one ws k) Φ) : ∃ w v, vs = [v] ∧ RW G.K C.ρ C.H w v ∧ Post G W' C (k w) Φ := by
  cases ws with
  | nil => exact post_stuck p
  | cons w r =>
    cases r with
    | nil =>
      obtain ⟨v, rfl, h⟩ := rws1 rv
      exact ⟨w, v, rfl, h, p⟩
    | cons u r => exact post_stuck p
theorem post_two {α : Type} {C : Cf} {ws : List W} {vs : List V} (rv : RWs G.K C.ρ C.H ws vs) {k : W → W → Res α} {Φ : α → Cf → Prop} (p : Post G W' C (two ws k) Φ) : ∃ w u v z, vs = [v, z] ∧ RW G.K C.ρ C.H w v ∧ RW G.K C.ρ C.H u z ∧ Post G W' C (k w u) Φ := by
  cases ws with
  | nil => exact post_stuck p
  | cons w r =>
    cases r with
    | nil => exact post_stuck p
    | cons u r =>
      cases r with
      | nil =>
        obtain ⟨v, z, rfl, h1, h2⟩ := rws2 rv
        exact ⟨w, u, v, z, rfl, h1, h2, p⟩
      | cons _ _ => exact post_stuck p
noncomputable def okI (i : Int) (S : FH) : Res W := fInt i fun r => .ok (.k (.int r)) S
noncomputable def okB (b : Bool) (S : FH) : Res W := fBool b fun r => .ok (.k (.bl r)) S
theorem post_okI {C : Cf} (ok : C.Ok G) {i : Int} {Q : VK} (p : Post G W' C (okI i C.S) (PhE G Q)) : Q (.int i) C.H := by
  unfold okI at p
  rw [fInt_eq] at p
  exact Post.now ok p _ mk_k
theorem post_okB {C : Cf} (ok : C.Ok G) {i : Bool} {Q : VK} (p : Post G W' C (okB i C.S) (PhE G Q)) : Q (.bl i) C.H := by
  unfold okB at p
  rw [fBool_eq] at p
  exact Post.now ok p _ mk_k
/-! len -/
noncomputable def cLen : Opn := fun ws S => one ws fun w => match w with
  | .tup xs => okI (.ofNat xs.length) S
  | .obj i => kobj i S fun xs => okI (.ofNat xs.length) S
  | _ => .stuck
theorem cx_len (hx : Okx G X) : CallX G X (.builtin "len") cLen := ⟨_, call_len_seq, fun W' C ws vs Q ok rv p => by
  rw [hx.k]
  obtain ⟨w, v, rfl, r, p⟩ := post_one rv p
  cases w with
  | k u => exact post_stuck p
  | tup xs =>
    unfold RW at r
    obtain ⟨a, us, rfl, h1, h2⟩ := r
    exact ⟨a, us, rfl, .inr h1, by rw [h2.length]; exact post_okI ok p⟩
  | mix _ => (first | exact post_stuck (by assumption) | exact .inl (by assumption) | (exfalso; contradiction) | (unfold nkey at *; contradiction) | (unfold RW at *; simp_all; done) | (simp_all; done))
  | obj i =>
    obtain ⟨xs, a, us, _, h1, h2, h3, p⟩ := post_kobj ok p
    unfold RW at r
    obtain ⟨a', rfl, e⟩ := r
    rw [h1] at e; cases e
    exact ⟨a, us, rfl, .inl (SqL.of h2), by rw [h3.length]; exact post_okI ok p⟩⟩
/-! abs, int, max, min, gcd -/
/-! list, tuple -/
/-! all, any of a list of bools -/
noncomputable def blsK {α : Type} (ws : List W) (k : List Bool → Res α) : Res α := List.rec (motive := fun _ => (List Bool → Res α) → Res α) (fun k => k []) (fun w _ ih k => match w with
  | .k (.bl b) => ih fun bs => k (b :: bs)
  | _ => .stuck) ws k
theorem post_bls {α : Type} {C : Cf} {Φ : α → Cf → Prop} : ∀ {ws : List W} {vs : List V} (_ : RWs G.K C.ρ C.H ws vs) {k : List Bool → Res α} (_ : Post G W' C (blsK ws k) Φ), ∃ bs : List Bool, vs = bs.map V.bl ∧ Post G W' C (k bs) Φ
  | [], vs, rv, k, p => by
    unfold RWs at rv
    exact ⟨[], rv, p⟩
  | w :: ws, vs, rv, k, p => by
    unfold RWs at rv
    obtain ⟨v, r, rfl, h1, h2⟩ := rv
    have p' : Post G W' C (match w with
      | .k (.bl b) => blsK ws fun bs => k (b :: bs)
      | _ => .stuck) Φ := p
    split at p'
    · rename_i b
      obtain ⟨bs, e, p2⟩ := post_bls h2 p'
      exact ⟨b :: bs, by rw [rw_k h1, e]; rfl, p2⟩
    · exact post_stuck p'
noncomputable def andL (bs : List Bool) : Bool := List.rec (motive := fun _ => Bool) true (fun b _ ih => match b with
  | true => ih
  | false => false) bs
theorem andL_eq : ∀ bs : List Bool, andL bs = bs.all id
  | [] => rfl
  | b :: bs => by
    have ih := andL_eq bs
    show (match b with | true => andL bs | false => false) = _
    rw [ih, List.all_cons]
    cases b <;> rfl
noncomputable def cAll : Opn := fun ws S => one ws fun w => match w with
  | .obj i => kobj i S fun xs => blsK xs fun bs => okB (andL bs) S
  | _ => .stuck
theorem cx_all (hx : Okx G X) : CallX G X (.builtin "all") cAll := ⟨_, cr_all hx.calm, fun W' C ws vs Q ok rv p => by
  rw [hx.k]
  obtain ⟨w, v, rfl, r, p⟩ := post_one rv p
  cases w with
  | k u => exact post_stuck p
  | tup xs => exact post_stuck p
  | mix _ => (first | exact post_stuck (by assumption) | exact .inl (by assumption) | (exfalso; contradiction) | (unfold nkey at *; contradiction) | (unfold RW at *; simp_all; done) | (simp_all; done))
  | obj i =>
    obtain ⟨xs, a, us, _, h1, h2, h3, p⟩ := post_kobj ok p
    unfold RW at r
    obtain ⟨a', rfl, e⟩ := r
    rw [h1] at e; cases e
    obtain ⟨bs, e, p⟩ := post_bls h3 p
    subst e
    exact ⟨a, bs, rfl, SqL.of h2, by rw [← andL_eq]; exact post_okB ok p⟩⟩
end
end Ev

namespace Ev
open PySem PySem.Spec PyProof.Rows L2
section
variable {G : Glo} {X : Cx} {W' : WX} {pos : Pos}
/-! ### isinstance with built-in types: 0 int, 1 bool, 2 str, 3 list, 4 tuple, 9 NoneType -/
def tyN (n : Nat) : String := match n with
  | 0 => "int"
  | 1 => "bool"
  | 2 => "str"
  | 3 => "list"
  | 4 => "tuple"
  | _ => "NoneType"
noncomputable def tyc {α : Type} (w : W) (S : FH) (k : Nat → Res α) : Res α := match w with
  | .k v => match v with
    | .non => k 9
    | .bl _ => k 1
    | .int _ => k 0
    | .str _ => k 2
    | _ => .stuck
  | .tup _ => k 4
  | .mix _ => .stuck
  | .obj i => match S.get i with
    | some v => match v with
      | .dct _ => .stuck
      | .fdc _ => .stuck
      | .ins _ _ => .stuck
      | .dki _ => .stuck
      | .sti _ => .stuck
      | .exv _ => .stuck
      | _ => k 3
    | none => .stuck
theorem post_tyc {α : Type} {C : Cf} (ok : C.Ok G) {w : W} {v : V} (r : RW G.K C.ρ C.H w v) {k : Nat → Res α} {Φ : α → Cf → Prop} (p : Post G W' C (tyc w C.S k) Φ) :
    ∃ t, (t = 0 ∨ t = 1 ∨ t = 2 ∨ t = 3 ∨ t = 4 ∨ t = 9) ∧ TyX G.K C.H v (.type (tyN t)) ∧ Post G W' C (k t) Φ := by
  unfold tyc at p
  cases w with
  | k u =>
    rw [rw_k r]
    cases u with
    | non => exact ⟨9, by decide, .base .non, p⟩
    | bl b => exact ⟨1, by decide, .base (.bl b), p⟩
    | int i => exact ⟨0, by decide, .base (.int i), p⟩
    | str x => exact ⟨2, by decide, .base (.str x), p⟩
    | _ => exact post_stuck p
  | tup xs =>
    unfold RW at r
    obtain ⟨a, vs, rfl, h1, _⟩ := r
    refine ⟨4, by decide, ?_, p⟩
    rcases h1 with (h | ⟨o, h⟩) | ⟨o, its, n, h, c, _⟩
    · exact .base (.tup h)
    · exact .fTuple h
    · exact .kTuple h c
  | mix _ => exact post_stuck p
  | obj i =>
    unfold RW at r
    obtain ⟨a, rfl, h1⟩ := r
    simp only at p
    split at p
    · rename_i hv hx
      obtain ⟨a', o, h2, h3, h4⟩ := ok.ob i _ hx
      rw [h1] at h2; cases h2
      cases hv with
      | dct kvs => exact post_stuck p
      | fdc kvs => exact post_stuck p
      | ins c fs => exact post_stuck p
      | dki _ => exact post_stuck p
      | sti _ => exact post_stuck p
      | exv _ => exact post_stuck p
      | lst xs =>
        cases o <;> try exact h4.elim
        exact ⟨3, by decide, .base (.lst h3), p⟩
      | cel =>
        cases o <;> try exact h4.elim
        exact ⟨3, by decide, .base (.lst h3), p⟩
      | urn n =>
        cases o <;> try exact h4.elim
        exact ⟨3, by decide, .base (.lst h3), p⟩
    · exact post_stuck p
def kit1 (t c : Nat) : Bool := match Nat.beq t c with
  | true => true
  | false => match Nat.beq t 1 with
    | true => Nat.beq c 0
    | false => false
noncomputable def kitN (t : Nat) (cs : List Nat) : Bool := List.rec (motive := fun _ => Bool) false (fun c _ ih => match kit1 t c with
  | true => true
  | false => ih) cs
theorem kit1_of (K : PySem.W.Frag) {t c : Nat} (ht : t = 0 ∨ t = 1 ∨ t = 2 ∨ t = 3 ∨ t = 4 ∨ t = 9) (hc : c = 0 ∨ c = 1 ∨ c = 2 ∨ c = 3 ∨ c = 4) : PySem.W.kitOne K (.type (tyN t)) (.type (tyN c)) = some (kit1 t c) := by
  rcases ht with rfl | rfl | rfl | rfl | rfl | rfl <;> rcases hc with rfl | rfl | rfl | rfl | rfl <;> kernel_rfl
abbrev low5 (cs : List Nat) : Prop := ∀ c ∈ cs, c = 0 ∨ c = 1 ∨ c = 2 ∨ c = 3 ∨ c = 4
theorem kitN_of (K : PySem.W.Frag) {t : Nat} (ht : t = 0 ∨ t = 1 ∨ t = 2 ∨ t = 3 ∨ t = 4 ∨ t = 9) : ∀ {cs : List Nat}, low5 cs → PySem.W.kitAny K (.type (tyN t)) (cs.map fun c => .type (tyN c)) = some (kitN t cs)
  | [], _ => rfl
  | c :: cs, h => by
    have ih := kitN_of K ht (cs := cs) fun c hc => h c (List.mem_cons_of_mem _ hc)
    have e : kitN t (c :: cs) = match kit1 t c with
      | true => true
      | false => kitN t cs := rfl
    rw [List.map_cons]
    unfold PySem.W.kitAny
    rw [kit1_of K ht (h c (List.mem_cons_self ..)), e]
    cases kit1 t c with
    | true => rfl
    | false => exact ih
noncomputable def tycB (w : W) (S : FH) (cs : List Nat) : Res W := match w with
  | .mix _ => match kitN 3 cs with
    | true => match kitN 4 cs with
      | true => okB true S
      | false => .stuck
    | false => match kitN 4 cs with
      | true => .stuck
      | false => okB false S
  | _ => tyc w S fun t => okB (kitN t cs) S
theorem post_tycB {C : Cf} (ok : C.Ok G) {w : W} {v : V} (r : RW G.K C.ρ C.H w v) {cs : List Nat} {Φ : W → Cf → Prop} (p : Post G W' C (tycB w C.S cs) Φ) :
    ∃ t, (t = 0 ∨ t = 1 ∨ t = 2 ∨ t = 3 ∨ t = 4 ∨ t = 9) ∧ TyX G.K C.H v (.type (tyN t)) ∧ Post G W' C (okB (kitN t cs) C.S) Φ := by
  unfold tycB at p
  cases w with
  | mix xs =>
    have p3 : Post G W' C (okB (kitN 3 cs) C.S) Φ ∧ Post G W' C (okB (kitN 4 cs) C.S) Φ := by
      simp only at p
      cases q3 : kitN 3 cs <;> cases q4 : kitN 4 cs <;> simp only [q3, q4] at p <;> first | exact ⟨p, p⟩ | exact post_stuck p
    unfold RW at r
    obtain ⟨a, vs, rfl, h1, _⟩ := r
    rcases h1 with h1 | ⟨o, h1⟩
    · refine ⟨4, by decide, ?_, p3.2⟩
      rcases h1 with (h | ⟨o, h⟩) | ⟨o, its, n, h, c, _⟩
      · exact .base (.tup h)
      · exact .fTuple h
      · exact .kTuple h c
    · exact ⟨3, by decide, .base (.frz h1), p3.1⟩
  | k u => exact post_tyc ok r p
  | tup xs => exact post_tyc ok r p
  | obj i => exact post_tyc ok r p
noncomputable def evIsi (cs : List Nat) (f : Evl) : Evl := fun l S => (f l S).bnd fun w S1 => tycB w S1 cs
theorem se_isi {c : Nat} {f : Evl} {e ce : Expr} {p : Pos} (hx : Okx G X) (h : SE G X W' f e) (hce : PE X ce (tC (.ty (tyN c)))) (hc : c = 0 ∨ c = 1 ∨ c = 2 ∨ c = 3 ∨ c = 4) (hg : Gl X "isinstance") (hm : X.mg "isinstance" = none)
    (he1 : starEach [e, ce] X.env = (false, eval e X.env) :: starEach [ce] X.env := by rfl) (he2 : starEach [ce] X.env = (false, eval ce X.env) :: starEach [] X.env := by rfl) (hpl : (backTo pos (starEach [ce] X.env)).any (·.1) = false := by rfl) :
    SE G X W' (evIsi [c] f) (.Call (.Name "isinstance" p) [e, ce] [] pos) :=
  pe_imp (pe_callB call_isi hg hm PyProof.Rows.boot_isinstance (pa_cons h (pa_cons hce pa_nil he2) he1) (by decide) (by decide) he1 hpl) fun σ H Q ⟨C, l, e, ok, r, p⟩ => by
    subst e
    refine ⟨C, l, rfl, ok, r, Post.mono (fun w C1 ok1 x1 p1 v rv => ?_) (Post.bnd p)⟩
    obtain ⟨t, ht, ty, p2⟩ := post_tycB ok1 rv p1
    refine ⟨v, .ty (tyN c), _, _, kit1 t c, rfl, .ty _, by rw [hx.k]; exact ty, by rw [hx.k]; exact kit1_of G.K ht hc, ?_⟩
    have := post_okB ok1 p2
    have e : kitN t [c] = kit1 t c := by
      show (match kit1 t c with | true => true | false => false) = _
      cases kit1 t c <;> rfl
    rw [e] at this
    exact this
theorem vals_ty : ∀ cs : List Nat, Paired ClsV (cs.map fun c => V.ty (tyN c)) (cs.map fun c => Value.type (tyN c))
  | [] => .nil
  | c :: cs => .cons (.ty _) (vals_ty cs)
/-- the list of type names of a tuple -/
def tTys : List Nat → TA
  | [] => tNil
  | c :: cs => tCons (tC (.ty (tyN c))) (tTys cs)
theorem tTys_at {σ : L2.St} {H : Hp} : ∀ {cs : List Nat} {Q : List V → Hp → Prop}, Q (cs.map fun c => V.ty (tyN c)) H → tTys cs σ H Q
  | [], _, h => h
  | c :: cs, Q, h => tTys_at (cs := cs) (Q := fun vs H1 => Q (V.ty (tyN c) :: vs) H1) h
theorem se_isiT {cs : List Nat} {f : Evl} {e : Expr} {es : List Expr} {k : Nat} {p tp : Pos} (hx : Okx G X) (h : SE G X W' f e) (hce : PA X es (tTys cs)) (hc : low5 cs) (hl : cs.length ≤ 100) (hg : Gl X "isinstance") (hm : X.mg "isinstance" = none)
    (he1 : starEach [e, .Tuple es k tp] X.env = (false, eval e X.env) :: starEach [.Tuple es k tp] X.env := by rfl) (he2 : starEach [.Tuple es k tp] X.env = (false, eval (.Tuple es k tp) X.env) :: starEach [] X.env := by rfl) (hpl : (backTo pos (starEach [.Tuple es k tp] X.env)).any (·.1) = false := by rfl) :
    SE G X W' (evIsi cs f) (.Call (.Name "isinstance" p) [e, .Tuple es k tp] [] pos) :=
  pe_imp (pe_callB call_isiT hg hm PyProof.Rows.boot_isinstance (pa_cons h (pa_cons (pe_tup hce) pa_nil he2) he1) (by decide) (by decide) he1 hpl) fun σ H Q ⟨C, l, e, ok, r, p⟩ => by
    subst e
    refine ⟨C, l, rfl, ok, r, Post.mono (fun w C1 ok1 x1 p1 v rv => ?_) (Post.bnd p)⟩
    refine tTys_at ?_
    refine ⟨by rw [List.length_map, sizeLine_eq]; omega, fun q hq => ?_⟩
    obtain ⟨ok2, x2⟩ := Cf.tupd (o := .tup (cs.map fun c => V.ty (tyN c))) ok1 hq
    obtain ⟨t, ht, ty, p2⟩ := post_tycB ok2 (rv.mono ok1 x2) (Post.base x2 p1)
    refine ⟨v, q, _, _, _, kitN t cs, rfl, upd_same, vals_ty cs, by rw [hx.k]; exact ty, by rw [hx.k]; exact kitN_of G.K ht hc, ?_⟩
    exact post_okB ok2 p2
/-! ### o[i] = e -/
/-! ### methods of lists -/
/-! ### x op= e at a name -/
end
end Ev

namespace Ev
open PySem PySem.Spec PyProof.Rows L2
/-! enumerate of a tuple -/
section
variable {prog : Program} {w : World} {A : Around} {E : Value → Shared → Prop} {s : Shared}
end
end Ev

namespace Ev
open PySem PySem.Spec PyProof.Rows L2 RZ RT
section
variable {G : Glo} {X : Cx} {W' : WX} {pos : Pos}
theorem Cf.newTup {C : Cf} (ok : C.Ok G) {T : Addr} (hT : C.H T = none) {ws : List W} {vs : List V} (r : RWs G.K C.ρ C.H ws vs) :
    ∃ C' : Cf, C'.H = upd C.H T (.tup vs) ∧ C'.S = C.S ∧ C'.Ok G ∧ Ext C C' ∧ RW G.K C'.ρ C'.H (.tup ws) (.ref T) := by
  obtain ⟨ok1, x1⟩ := Cf.tupd (o := .tup vs) ok hT
  refine ⟨⟨C.ρ, upd C.H T (.tup vs), C.S⟩, rfl, rfl, ok1, x1, ?_⟩
  unfold RW
  exact ⟨T, vs, rfl, SqT.of upd_same, RWs.mono ok x1 ws r⟩
/-! ### enumerate -/
/-! ### zip -/
noncomputable def zipW (a b : Option W) : Option W := match a with
  | some x => match b with
    | some y => some (.tup [x, y])
    | none => none
  | none => none
noncomputable def srcZT (ws us : List W) : Src := fun i _ => some (zipW (nth ws i) (nth us i))
noncomputable def srcZO (j k : Nat) : Src := fun i S => match S.get j with
  | some (.lst xs) => match S.get k with
    | some (.lst ys) => some (zipW (nth xs i) (nth ys i))
    | _ => none
  | _ => none
theorem zip_none {K : PySem.W.Frag} {ρ : List Addr} {H : Hp} {ws us : List W} {vs zs : List V} {i : Nat} (h1 : RWs K ρ H ws vs) (h2 : RWs K ρ H us zs) (q : zipW (nth ws i) (nth us i) = none) : vs.length ≤ i ∨ zs.length ≤ i := by
  cases e1 : nth ws i with
  | none => exact .inl ((h1.get' i).1 e1)
  | some x =>
    cases e2 : nth us i with
    | none => exact .inr ((h2.get' i).1 e2)
    | some y => rw [e1, e2] at q; cases q
theorem zip_some {K : PySem.W.Frag} {ρ : List Addr} {H : Hp} {ws us : List W} {vs zs : List V} {i : Nat} {w : W} (h1 : RWs K ρ H ws vs) (h2 : RWs K ρ H us zs) (q : zipW (nth ws i) (nth us i) = some w) :
    ∃ x y v z, w = .tup [x, y] ∧ vs[i]? = some v ∧ zs[i]? = some z ∧ RW K ρ H x v ∧ RW K ρ H y z := by
  cases e1 : nth ws i with
  | none => rw [e1] at q; cases q
  | some x =>
    cases e2 : nth us i with
    | none => rw [e1, e2] at q; cases q
    | some y =>
      rw [e1, e2] at q
      cases q
      obtain ⟨v, a1, a2⟩ := (h1.get' i).2 x e1
      obtain ⟨z, b1, b2⟩ := (h2.get' i).2 y e2
      exact ⟨x, y, v, z, rfl, a1, b1, a2, b2⟩
theorem srcZT_ok {C0 : Cf} (ok0 : C0.Ok G) {ws us : List W} {a b : Addr} {vs zs : List V} (ht : SqT G.K C0.H a vs) (r : RWs G.K C0.ρ C0.H ws vs) (ht2 : SqT G.K C0.H b zs) (r2 : RWs G.K C0.ρ C0.H us zs) : SrcOk G (srcZT ws us) (ItzT G.K a b) C0 := fun C ok x i => by
  have ht' := x.tup ok0 ht
  have r' := RWs.mono ok0 x ws r
  have ht2' := x.tup ok0 ht2
  have r2' := RWs.mono ok0 x us r2
  unfold srcZT
  refine ⟨fun e => ⟨vs, zs, ht', ht2', zip_none r' r2' (Option.some.inj e)⟩, fun w e => ?_⟩
  obtain ⟨x, y, v, z, rfl, a1, b1, a2, b2⟩ := zip_some r' r2' (Option.some.inj e)
  refine ⟨⟨vs, zs, v, z, ht', ht2', a1, b1⟩, fun y H' ⟨T, v', z', ey, hT, hH, hv, hz⟩ => ?_⟩
  have e1 := hv vs ht'
  have e2 := hz zs ht2'
  rw [a1] at e1; cases e1
  rw [b1] at e2; cases e2
  obtain ⟨C', g1, g2, g3, g4, g5⟩ := Cf.newTup ok hT (.cons a2 (.cons b2 .nil))
  exact ⟨C', by rw [g1, hH], g2, g3, g4, by rw [ey]; exact g5⟩
theorem srcZO_ok {C0 : Cf} {j k : Nat} {a b : Addr} (ha : C0.ρ[j]? = some a) (hb : C0.ρ[k]? = some b) : SrcOk G (srcZO j k) (Itz G.K a b) C0 := fun C ok x i => by
  have ha' := x.pre j a ha
  have hb' := x.pre k b hb
  unfold srcZO
  split
  · rename_i xs q
    obtain ⟨a', vs, h1, h2, h3⟩ := Cf.lstAt ok q
    rw [ha'] at h1; cases h1
    split
    · rename_i ys q2
      obtain ⟨b', zs, g1, g2, g3⟩ := Cf.lstAt ok q2
      rw [hb'] at g1; cases g1
      refine ⟨fun e => ⟨vs, zs, SqL.of h2, SqL.of g2, zip_none h3 g3 (Option.some.inj e)⟩, fun w e => ?_⟩
      obtain ⟨x, y, v, z, rfl, a1, b1, a2, b2⟩ := zip_some h3 g3 (Option.some.inj e)
      refine ⟨⟨vs, zs, v, z, SqL.of h2, SqL.of g2, a1, b1⟩, fun y H' ⟨T, v', z', ey, hT, hH, hv, hz⟩ => ?_⟩
      have e1 := hv vs (SqL.of h2)
      have e2 := hz zs (SqL.of g2)
      rw [a1] at e1; cases e1
      rw [b1] at e2; cases e2
      obtain ⟨C', g1, g2, g3, g4, g5⟩ := Cf.newTup ok hT (.cons a2 (.cons b2 .nil))
      exact ⟨C', by rw [g1, hH], g2, g3, g4, by rw [ey]; exact g5⟩
    · simp
  · simp
noncomputable def ofZip (ws : List W) (S : FH) : Res Src := two ws fun a b => match a with
  | .tup xs => match b with
    | .tup ys => .ok (srcZT xs ys) S
    | _ => .stuck
  | .obj j => match b with
    | .obj k => kobj j S fun _ => kobj k S fun _ => .ok (srcZO j k) S
    | _ => .stuck
  | _ => .stuck
noncomputable def eiZip (f : Eva) : Evi := fun l S => (f l S).bnd fun w S1 => ofZip w S1
theorem si_zip {f : Eva} {e e2 : Expr} {p tpos : Pos} {elts : List Expr} {kk : Nat} (hx : Okx G X) (hg : Gl X "zip") (hm : X.mg "zip" = none) (h : SA G X W' f [e, e2])
    (hs : starEach [e, e2] X.env = (false, eval e X.env) :: starEach [e2] X.env := by rfl) (hpl : (backTo pos (starEach [e2] X.env)).any (·.1) = false := by rfl) :
    SI G X W' (eiZip f) (.Tuple elts kk tpos) (.Call (.Name "zip" p) [e, e2] [] pos) := pi_imp (pi_zipA hg hm h hs hpl) fun σ H R ⟨C, l, e, ok, r, p⟩ => by
  subst e
  rw [hx.k]
  refine ⟨C, l, rfl, ok, r, Post.mono (fun ws C1 ok1 x1 p1 vs rv => ?_) (Post.bnd (k := fun w S1 => ofZip w S1) p)⟩
  obtain ⟨a, b, v, z, rfl, r1, r2, p2⟩ := post_two rv p1
  cases a with
  | k u => exact post_stuck p2
  | tup xs =>
    cases b with
    | k u => exact post_stuck p2
    | mix _ => (first | exact post_stuck (by assumption) | exact .inl (by assumption) | (exfalso; contradiction) | (unfold nkey at *; contradiction) | (unfold RW at *; simp_all; done) | (simp_all; done))
    | obj j => exact post_stuck p2
    | tup ys =>
      unfold RW at r1 r2
      obtain ⟨c, vs, rfl, h1, h2⟩ := r1
      obtain ⟨d, zs, rfl, h3, h4⟩ := r2
      exact ⟨c, d, vs, zs, rfl, .inr ⟨h1, h3, (Post.now ok1 p2) _ (srcZT_ok ok1 h1 h2 h3 h4)⟩⟩
  | mix _ => (first | exact post_stuck (by assumption) | exact .inl (by assumption) | (exfalso; contradiction) | (unfold nkey at *; contradiction) | (unfold RW at *; simp_all; done) | (simp_all; done))
  | obj j =>
    cases b with
    | k u => exact post_stuck p2
    | tup ys => exact post_stuck p2
    | mix _ => (first | exact post_stuck (by assumption) | exact .inl (by assumption) | (exfalso; contradiction) | (unfold nkey at *; contradiction) | (unfold RW at *; simp_all; done) | (simp_all; done))
    | obj k =>
      obtain ⟨xs, c, vs, _, h1, h2, h3, p3⟩ := post_kobj ok1 p2
      obtain ⟨ys, d, zs, _, g1, g2, g3, p4⟩ := post_kobj ok1 p3
      unfold RW at r1 r2
      obtain ⟨c', rfl, e⟩ := r1
      obtain ⟨d', rfl, e'⟩ := r2
      rw [h1] at e; cases e
      rw [g1] at e'; cases e'
      exact ⟨c, d, vs, zs, rfl, .inl ⟨SqL.of h2, SqL.of g2, (Post.now ok1 p4) _ (srcZO_ok h1 g1)⟩⟩
/-! ### reversed -/
theorem blt_of {i n : Nat} (h : Nat.blt i n = true) : i < n := Nat.le_of_ble_eq_true h
/-! ### range(a, b, -1) -/
/-! ### targets: (a, b, ..) = a list -/
/-! ### three names at once -/
end
end Ev

namespace Ev
open PySem PySem.Spec PyProof.Rows L2
/-! comprehensions that an exception leaves -/
section
variable {M : Model} {A : Around} {E : Value → Shared → Prop} {s : Shared} {env : Env}
def compPostF (M : Model) (A : Around) (E : Value → Shared → Prop) (use : Option (Value → Sem Unit)) (Q : Value → Shared → Prop) (acc : Value) (cenv : Env) (r : Result) (s' : Shared) : Prop :=
  match r, use with
  | .ok _, none => ∃ m, s'.heap.Ns cenv.locals m ∧ ∀ h', Heap.SameBut cenv.locals s'.heap h' → Q acc { s' with heap := h' }
  | .ok _, some u => wpAny M A (u acc) (fun _ s'' => ∃ m, s''.heap.Ns cenv.locals m ∧ ∀ h', Heap.SameBut cenv.locals s''.heap h' → Q .none { s'' with heap := h' }) E s'
  | .error x, _ => ∃ m, s'.heap.Ns cenv.locals m ∧ ∀ h', Heap.SameBut cenv.locals s'.heap h' → wpAny M A (passOn "comprehension.variables-let-go" x cenv : Sem Value) (fun _ _ => False) E { s' with heap := h' }
theorem comp_freeF {e : Expr} {scope : Scope} {pos : Pos} {newAcc first : Sem Value} {g : Comprehension} {gs : List Comprehension} {cl : List (Str × Addr)} {use : Option (Value → Sem Unit)}
    {Q : Value → Shared → Prop}
    (hcl : clausesOf e = g :: gs) (hs : ∀ x, foldedSetIterable g.iter env x = pure x) (hclos : closureFor scope env = pure cl)
    (hkind : scope.kind = .function) (hnames : ∀ x ∈ scope.names, x.2 = .local → scope.names.lookup x.1 = some .local)
    (h : wpAny M A first (fun x s₁ => wpAny M A (pyIter x) (fun it s₂ => wpAny M A newAcc (fun acc s₃ =>
      wpAny M A (newFunctionEnv scope env.globals cl [] env.qual none .none (some env)) (fun cenv s₄ =>
        codeAny M A (.compStart e 0 it acc { cenv with scope := relabel scope env }) (compPostF M A E use Q acc { cenv with scope := relabel scope env }) s₄) E s₃) E s₂) E s₁) E s) :
    wpAny M A (comprehension e scope env pos newAcc false first use) Q E s := by
  unfold comprehension
  rw [hclos, hcl]
  refine wpAny_bind (wpAny_mono h (fun x s₁ h₁ => wpAny_bind (wpAny_standAt (wpAny_bind (wpAny_of_eq (hs x) (wpAny_bind (wpAny_holding (wpAny_mono h₁ (fun it s₂ h₂ =>
    wpAny_standIf (wpAny_bind (wpAny_mono h₂ (fun acc s₃ h₃ => wpAny_bind (wpAny_pure (wpAny_bind (wpAny_mono h₃ (fun cenv s₄ h₄ => ?_) fun _ _ h' => h')))) fun _ _ h' => h')))
      fun _ _ h' => h'))))))) fun _ _ h' => h')
  dsimp only
  have hv : ∀ x ∈ (scope.names.filter fun x => (x.2 == .local || x.2 == .cell) && x.1 != (".0" : Str)).reverse, x.2 = .local →
      Env.kindOf { cenv with scope := relabel scope env } x.1 = some .local := fun x hx hl => lookup_relabel_local (hnames x (List.mem_filter.mp (List.mem_reverse.mp hx)).1 hl)
  have hv' : ∀ x ∈ (scope.names.filter fun x => (x.2 == .local || x.2 == .cell) && x.1 != (".0" : Str)).reverse.drop 1 ++ (scope.names.filter fun x => (x.2 == .local || x.2 == .cell) && x.1 != (".0" : Str)).reverse.take 1,
      x.2 = .local → Env.kindOf { cenv with scope := relabel scope env } x.1 = some .local := fun x hx hl => by
    rcases List.mem_append.mp hx with h1 | h1
    · exact hv x (List.mem_of_mem_drop h1) hl
    · exact hv x (List.mem_of_mem_take h1) hl
  refine wpAny_holding (wpAny_bind (wpAny_attempt (wpAny_holding (wpAny_run (codeAny_mono h₄ fun r s' hr => ?_)))))
  cases r with
  | ok f =>
    cases use with
    | none =>
      obtain ⟨m, hn, hr⟩ := hr
      exact wpAny_bind (wpAny_holding (wpAny_comp_letGo (cenv := { cenv with scope := relabel scope env }) hkind _ s' m hv hn fun h' m' _ hs' => wpAny_pure (hr h' hs')))
    | some u =>
      refine wpAny_bind (wpAny_rule (wpAny_bind (wpAny_holding (wpAny_mono hr (fun _ s'' hr' => ?_) fun _ _ h' => h'))))
      obtain ⟨m, hn, hr'⟩ := hr'
      exact wpAny_bind (wpAny_comp_letGo (cenv := { cenv with scope := relabel scope env }) hkind _ s'' m hv' hn fun h' m' _ hs' => wpAny_pure (hr' h' hs'))
  | error x =>
    have hr' : ∃ m, s'.heap.Ns cenv.locals m ∧ ∀ h', Heap.SameBut cenv.locals s'.heap h' → wpAny M A (passOn "comprehension.variables-let-go" x { cenv with scope := relabel scope env } : Sem Value) (fun _ _ => False) E { s' with heap := h' } := by cases use <;> exact hr
    obtain ⟨m, hn, hr⟩ := hr'
    exact wpAny_bind (wpAny_holding (wpAny_comp_letGo (cenv := { cenv with scope := relabel scope env }) hkind _ s' m hv hn fun h' m' _ hs' => wpAny_mono (hr h' hs') (fun _ _ f => f.elim) fun _ _ y => y))
end
/-! the frame notes the exception -/
section
variable {M : Model} {A : Around} {E : Value → Shared → Prop} {s : Shared} {env : Env} {outer : List Env} {base : Heap} {e L : Addr} {Z : Obj → Prop}
open HandSPX
theorem looks_far {fl : Value} {Q : Unit → Shared → Prop} (hZ : Steady Z) (hfr : A.frames = some (env :: outer)) (hf : env.frame = some L) (hne : (fl == rawInt L) = false)
    (hkb : base.StaysIn s.heap) (hen : base.get? e = none) (hl : s.heap.FunFrames base (env :: outer)) (ht : TracedZ s.heap base e Z fl)
    (hQ : ∀ h', HeldZ base (env :: outer) e Z L h' → s.heap.UpToSlots h' → Q () { s with heap := h' }) : wpAny M A (noteFrame (.ref e) env) Q E s := by
  obtain ⟨oe, vs, T, oT, ts, he, hz, hd, h1, hnT, hTe, hT, hdT, h3⟩ := ht
  unfold noteFrame
  simp only [hf]
  refine wpAny_bind (wpAny_field he hd h1 ?_)
  rw [if_pos (show (Value.ref T != Value.none) = true from by simp)]
  refine wpAny_bind (wpAny_field hT hdT h3 ?_)
  rw [if_neg (by rw [hne]; exact Bool.false_ne_true)]
  refine wpAny_bind (wpAny_setField hT hdT (Array.getElem?_eq_some_iff.mp h3).1 ?_)
  have other : ∀ b, b ≠ T → (s.heap.update T (Obj.mapFields (·.setIfInBounds 3 Value.none))).get? b = s.heap.get? b := fun b hb => Heap.get?_update_other _ _ (Ne.symm hb)
  have noRecord : ∀ b o, s.heap.get? b = some o → (∀ vs, o.data ≠ .fields vs) → b ≠ T := fun b o hb hnf q => by
    rw [q, hT] at hb; injection hb with hb; subst hb; exact hnf ts hdT
  refine wpAny_entryZ hZ hfr (hl.of_keeps fun b o hb hnf => ⟨o, (other b (noRecord b o hb hnf)).trans hb, rfl⟩) hf ((other e (Ne.symm hTe)).trans he)
    (fun b o hbo => (other b fun q => by rw [q, hnT] at hbo; cases hbo).trans (hkb b o hbo)) hen hd (Array.getElem?_eq_some_iff.mp h1).1 hz fun h' hN => ?_
  obtain ⟨x1, x2, x3, x4⟩ := hN
  exact hQ h' ⟨x1, hen, x2, x3⟩ (Heap.UpToSlots.trans (fun b o hb hnf => ⟨o.slots, (other b (noRecord b o hb hnf)).trans hb⟩) x4)
end
section
open HandSPX
theorem funFrames_erase {h h' B B' : Heap} {C : Addr} (k : ∀ b, b ≠ C → h'.get? b = h.get? b) (kB : ∀ b, B.get? b = none → B'.get? b = none) (hC : ∃ o, B.get? C = some o) : ∀ {l : List Env}, h.FunFrames B l → h'.FunFrames B' l
  | [], _ => trivial
  | env :: l, x => by
    obtain ⟨hk, ⟨L, o, hf, hn, ho, hd⟩, hr⟩ := x
    have ne : L ≠ C := fun e => by
      obtain ⟨oc, hc⟩ := hC
      rw [e, hc] at hn; cases hn
    exact ⟨hk, ⟨L, o, hf, kB L hn, by rw [k L ne]; exact ho, hd⟩, funFrames_erase k kB hC hr⟩
variable {X : Cx} {pins : List (Addr × Obj)} {σ : L2.St} {H3 : Hp} {s3 : Shared} {W : WX} {scope : Scope} {cl : List (Str × Addr)} {fp : List Addr} {xe : Value → Shared → Prop} {use : Option (Value → Sem Unit)} {Qf : Value → Shared → Prop} {acc : Value}
abbrev blkX (X : Cx) (s : Shared) (H : Hp) (scope : Scope) (cenv : Env) (fp : List Addr) (xe : Value → Shared → Prop) : Cx := { X.blk s H scope cenv fp with xe := xe }
theorem comp_note (hs : X.stack = X.env :: X.outer) (hf : X.env.frame = some X.env.locals) (I3 : Inv X pins σ H3 s3) (hfp : ∀ b ∈ fp, FpOk X pins H3 b ∧ b < s3.heap.objs.size) (tk : Takes X W) {u : Value} {s' : Shared}
    (x : XE (blkX X s3 H3 scope (compEnvC scope cl s3.heap.objs.size X.env) fp xe) (fun cls d _ H => W cls d σ H) u s') :
    notedBy (model X.prog X.w) X.A (compEnvC scope cl s3.heap.objs.size X.env) (fun e s' => compPostF (model X.prog X.w) X.A X.xe use Qf acc (compEnvC scope cl s3.heap.objs.size X.env) (.error e) s') u s' := by
  obtain ⟨a, B, sI, pins', σ', H', cls, d, rfl, I6, nb, up, sky, na, os, ag, w⟩ := x
  have hfr : X.A.frames = some (X.env :: X.outer) := by rw [← hs]; exact I3.ok.frames
  obtain ⟨m, hn, _⟩ := I6.loc
  have hn : sI.heap.Ns s3.heap.objs.size m := hn
  -- the block's dict stands on the ground
  have nCf : s3.heap.objs.size ∉ frs X.stack := fun hm => by
    have st3 := I3.stack
    obtain ⟨_, o, ho, _⟩ := st3.mem hm
    exact absurd (Heap.lt_size ho) (Nat.lt_irrefl _)
  have hCL : s3.heap.objs.size ≠ X.env.locals := fun e => nCf (by rw [hs]; exact List.mem_filterMap.mpr ⟨X.env, List.mem_cons_self, by rw [e]; exact hf⟩)
  have hC : ∃ o, B.get? s3.heap.objs.size = some o := by
    obtain ⟨o, es, ep, ho, _⟩ := id hn
    exact ⟨o, nb _ o ho nCf⟩
  have nC : H' s3.heap.objs.size = none := I6.free
  -- the rest, once it is noted
  have rest : ∀ h1, HeldZ B (X.env :: X.outer) a (Zc cls d) X.env.locals h1 → s'.heap.UpToSlots h1 → compPostF (model X.prog X.w) X.A X.xe use Qf acc (compEnvC scope cl s3.heap.objs.size X.env) (.error (.ref a)) { s' with heap := h1 } := fun h1 hh up1 => by
    have up2 := up.trans up1
    have go : ∃ m, h1.Ns s3.heap.objs.size m ∧ ∀ h', Heap.SameBut s3.heap.objs.size h1 h' → wpAny (model X.prog X.w) X.A (passOn "comprehension.variables-let-go" (.ref a) (compEnvC scope cl s3.heap.objs.size X.env) : Sem Value) (fun _ _ => False) X.xe { s' with heap := h' } := by
      refine ⟨m, up2.ns hn, fun h2 sb => ?_⟩
      obtain ⟨GB, b1, b2⟩ := restrict B fun b => decide (b ≠ s3.heap.objs.size)
      obtain ⟨GI, i1, i2⟩ := restrict sI.heap fun b => decide (b ≠ s3.heap.objs.size)
      have b1' : ∀ b, b ≠ s3.heap.objs.size → GB.get? b = B.get? b := fun b hb => b1 b (by simp [hb])
      have i1' : ∀ b, b ≠ s3.heap.objs.size → GI.get? b = sI.heap.get? b := fun b hb => i1 b (by simp [hb])
      have b2' : GB.get? s3.heap.objs.size = none := b2 _ (by simp)
      have i2' : GI.get? s3.heap.objs.size = none := i2 _ (by simp)
      obtain ⟨hst, hen, hl, ht⟩ := hh
      have kB : ∀ b, B.get? b = none → GB.get? b = none := fun b e => by
        by_cases q : b = s3.heap.objs.size
        · rw [q]; exact b2'
        · rw [b1' b q]; exact e
      have k2 : ∀ b, b ≠ s3.heap.objs.size → h2.get? b = h1.get? b := fun b hb => sb.2 b hb
      have hst2 : GB.StaysIn h2 := fun b o e => by
        by_cases q : b = s3.heap.objs.size
        · rw [q, b2'] at e; cases e
        · rw [b1' b q] at e; rw [k2 b q]; exact hst b o e
      have hl2 : h2.FunFrames GB (X.env :: X.outer) := funFrames_erase k2 kB hC hl
      have neB : ∀ b, B.get? b = none → b ≠ s3.heap.objs.size := fun b e q => by
        obtain ⟨o, ho⟩ := hC
        rw [q, ho] at e; cases e
      have ht2 : TracedZ h2 GB a (Zc cls d) (rawInt X.env.locals) := by
        obtain ⟨oe, vs, T, oT, ts, he, hz, hd, h1', hnT, hTe, hT, hdT, h3⟩ := ht
        exact ⟨oe, vs, T, oT, ts, by rw [k2 a (neB a hen)]; exact he, hz, hd, h1', kB T hnT, hTe, by rw [k2 T (neB T hnT)]; exact hT, hdT, h3⟩
      have I7 : Inv X pins σ H' sI := I3.call' (ch := fp) I6.os I6.base I6.hok I6.bare fun b hb => ⟨(hfp b hb).1.2.2.2.1, (hfp b hb).1.2.1, (hfp b hb).1.2.2.2.2.1, (hfp b hb).1.2.2.2.2.2⟩
      obtain ⟨f0, f1, f2, f3, f4, f5⟩ := I3.fpOk (Nat.le_refl _) nC
      have I8 : Inv X pins σ H' { sI with heap := GI } := I7.turned (t' := sI.toks) (fun b o hb e => by rw [i1' b hb]; exact e) f0 f1 f3 f4 f5
      unfold PySem.passOn
      obtain ⟨oe, vs, T, oT, ts, he, hz, hd, h1', hnT, hTe, hT, hdT, h3⟩ := id ht2
      refine wpAny_bind (wpAny_field he hd h1' ?_)
      rw [if_neg (show ¬ ((Value.ref T == Value.none) = true) from by simp)]
      refine wpAny_bind ?_
      refine setFlight_anyZ (fr := X.env.frame) hst2 hl2 ht2 fun h4 st4 fr4 tr4 up4 => ?_
      refine wpAny_throw (tk _ _ ⟨a, GB, { sI with heap := GI }, pins, σ, H', cls, d, rfl, I8, fun b o e hb => ?_, fun b o e hnf => ?_, .inr (.inr ?_), na, os, ag, w⟩)
      · by_cases q : b = s3.heap.objs.size
        · have e' : GI.get? b = some o := e
          rw [q, i2'] at e'; cases e'
        · have e' : GI.get? b = some o := e
          rw [i1' b q] at e'
          rw [b1' b q]
          exact nb b o e' hb
      · by_cases q : b = s3.heap.objs.size
        · have e' : GI.get? b = some o := e
          rw [q, i2'] at e'; cases e'
        · have e' : GI.get? b = some o := e
          rw [i1' b q] at e'
          obtain ⟨sl, e2⟩ := up2 b o e' hnf
          rw [← k2 b q] at e2
          obtain ⟨sl2, e3⟩ := up4 b _ e2 hnf
          exact ⟨sl2, e3⟩
      · rw [hs]
        refine ⟨st4, kB a hen, fr4, ?_⟩
        rw [hf] at tr4
        exact tr4
    cases use <;> exact go
  show wpAny (model X.prog X.w) X.A (noteFrame (.ref a) X.env) _ _ s'
  have sky : Sky B X.stack a (Zc cls d) s3.heap.objs.size s'.heap := sky
  rw [hs] at sky
  rcases sky with ⟨hB, hn', hl, oe, vs, he, hz, hd, h1⟩ | fl | hh
  · exact look_newZ Zc.steady hfr hl hf he hB hn' hd h1 hz rest
  · exact looks_onZ Zc.steady hfr hf fl rest
  · obtain ⟨q1, q2, q3, q4⟩ := hh
    refine looks_far Zc.steady hfr hf ?_ q1 q2 q3 q4 rest
    simp [rawInt]
    omega
theorem lc_coreX {pins : List (Addr × Obj)} {s : Shared} {σ : L2.St} {H : Hp} {Q : VK} {elt tg iter : Expr} {ifs : List Expr} {scope : Scope} {own : List (Str × Nat)} {pos pos' : Pos} {wi : TI} {g : TG} {tt : TT} {te : TE} {use : Option (Value → Sem Unit)} {Qf : Value → Shared → Prop} {Wx : WX}
    (hss : X.stack = X.env :: X.outer) (hf : X.env.frame = some X.env.locals) (tk : Takes X Wx)
    (hc : X.calm = true) (hN : X.N.Nodup) (I : Inv X pins σ H s) (hi : PI X tg iter wi) (ok : BlkOk X.N X.env.scope scope own)
    (hg : ∀ (s : Shared) (H : Hp) (C : Addr) (cl : List (Str × Addr)) (fp : List Addr) (xe : Value → Shared → Prop), PG (blkX X s H scope (compEnvC scope cl C X.env) fp xe) tg g)
    (ht : ∀ (s : Shared) (H : Hp) (C : Addr) (cl : List (Str × Addr)) (fp : List Addr) (xe : Value → Shared → Prop), Takes (blkX X s H scope (compEnvC scope cl C X.env) fp xe) (fun cls d _ H => Wx cls d σ H) → PTs (blkX X s H scope (compEnvC scope cl C X.env) fp xe) ifs tt)
    (he : ∀ (s : Shared) (H : Hp) (C : Addr) (cl : List (Str × Addr)) (fp : List Addr) (xe : Value → Shared → Prop), Takes (blkX X s H scope (compEnvC scope cl C X.env) fp xe) (fun cls d _ H => Wx cls d σ H) → PE (blkX X s H scope (compEnvC scope cl C X.env) fp xe) elt te) (hs : ∀ x, foldedSetIterable iter X.env x = pure x)
    (h : tLc wi g tt te (own.map (·.2)) σ H Q)
    (hRR : ∀ D C s' m H', Inv X pins σ H' s' → Q (.ref D) H' → s'.heap.Ns C m → FpOk X pins H' C → ∀ ce : Env, ce.locals = C → compPostF (model X.prog X.w) X.A X.xe use Qf (.ref D) ce (.ok .next) s') :
    wpAny (model X.prog X.w) X.A (comprehension (.ListComp elt [⟨tg, iter, ifs, 0⟩] scope pos) scope X.env pos' (newList []) false (eval iter X.env) use) Qf X.xe s := by
  have hfree : ∀ y ∈ scope.names, y.2 = .free → ∃ c, X.env.cells.lookup y.1 = some c := fun y hy e => by
    rcases ok.free y hy e with k | k
    · exact I.ok.has _ (.inl k)
    · exact I.ok.has _ (.inr k)
  refine comp_freeF (use := use) rfl hs (closure_ok hfree) ok.kind (fun y hy e => by rw [ok.uniq y hy, e])
    (thn (hi.run pins s σ H _ I h) fun xv s1 hx => thn hx fun itv s2 h2 => ?_)
  obtain ⟨it, fp, tn, J, H2, e, I2, T, st2, f2, q⟩ := h2
  subst e
  refine wpAny_newObj_type (newEnv_comp ?_) (by show 0 ≤ sizeLine; decide)
  generalize hD : s2.heap.objs.size = D
  have hDn : H2 D = none := I2.hok.fresh (Nat.le_of_eq hD)
  obtain ⟨W, ⟨m0, w0⟩, turn⟩ := q D hDn
  -- the new list
  generalize hs3 : ({ s2 with heap := s2.heap.push { cls := .type "list", data := .seq ([] : List Value).toArray } } : Shared) = s3
  have I3 : Inv X pins σ (upd H2 D (.lst [])) s3 := by
    rw [← hs3]
    refine I2.laid (t' := s2.toks) (fun b o e => Heap.get?_push_of_some _ e) (Nat.le_of_eq hD) ⟨Nat.zero_le _, [], 0, .nil, ?_⟩
    rw [← hD]
    exact Heap.get?_push_size _ rfl
  have h3 : s3.heap = s2.heap.push { cls := .type "list", data := .seq ([] : List Value).toArray } := by rw [← hs3]
  have sz : ∀ b ∈ fp, b < s2.heap.objs.size := fun b hb => by
    obtain ⟨o, e, _⟩ := T.obj _ _ st2 b hb
    exact Heap.lt_size e
  have f3 : ∀ b ∈ fp, FpOk X pins (upd H2 D (.lst [])) b ∧ b < s3.heap.objs.size := fun b hb => by
    have hlt := sz b hb
    refine ⟨⟨?_, (f2 b hb).2⟩, by rw [h3, Heap.size_push]; exact Nat.lt_succ_of_lt hlt⟩
    rw [upd_ne (by rw [← hD]; exact Nat.ne_of_lt hlt)]
    exact (f2 b hb).1
  have st3 : tn 0 s3.heap := T.keep _ _ _ st2 fun b _ o e => by rw [h3]; exact Heap.get?_push_of_some _ e
  have I4 := block_start I3 ok hN f3
  obtain ⟨xe, hxe⟩ : ∃ xe : Value → Shared → Prop, xe = fun u s' => XE (X.blk s3 (upd H2 D (.lst [])) scope (compEnvC scope (cellsFrom (s3.heap.objs.size + 1) scope.names (cloFrom X.env.cells scope.names [])) s3.heap.objs.size X.env) fp) (fun cls d _ H => Wx cls d σ H) u s' := ⟨_, rfl⟩
  have tkB : Takes (blkX X s3 (upd H2 D (.lst [])) scope (compEnvC scope (cellsFrom (s3.heap.objs.size + 1) scope.names (cloFrom X.env.cells scope.names [])) s3.heap.objs.size X.env) fp xe) (fun cls d _ H => Wx cls d σ H) := fun u s' x => by
    show xe u s'
    rw [hxe]
    obtain ⟨a, B, sI, pins', σ', H', cls, d, e, I6, rest⟩ := x
    exact ⟨a, B, sI, pins', σ', H', cls, d, e, ⟨⟨I6.ok.mod, I6.ok.kind, I6.ok.glob, I6.ok.blt, I6.ok.above, I6.ok.inj, I6.ok.has, I6.ok.cab, I6.ok.hd, I6.ok.frames, I6.ok.stk, I6.ok.exf, I6.ok.bs, I6.ok.bsz, I6.ok.noex, I6.ok.exfs, I6.ok.funs, I6.ok.frf⟩, I6.os, I6.bare, I6.base, I6.loc, I6.cell, I6.free, I6.freeC, I6.pin, I6.hok, I6.len⟩, rest⟩
  have I4 : Inv (blkX X s3 (upd H2 D (.lst [])) scope (compEnvC scope (cellsFrom (s3.heap.objs.size + 1) scope.names (cloFrom X.env.cells scope.names [])) s3.heap.objs.size X.env) fp xe) [] (wipe σ (own.map (·.2))) (upd H2 D (.lst [])) { s3 with heap := pushCells (s3.heap.push { cls := .type "dict", data := .dict #[] }) scope.names } :=
    ⟨⟨I4.ok.mod, I4.ok.kind, I4.ok.glob, I4.ok.blt, I4.ok.above, I4.ok.inj, I4.ok.has, I4.ok.cab, I4.ok.hd, I4.ok.frames, I4.ok.stk, I4.ok.exf, I4.ok.bs, I4.ok.bsz, I4.ok.noex, I4.ok.exfs, I4.ok.funs, I4.ok.frf⟩, I4.os, I4.bare, I4.base, I4.loc, I4.cell, I4.free, I4.freeC, I4.pin, I4.hok, I4.len⟩
  have noted : ∀ (e : Value) (s' : Shared), xe e s' → notedBy (model X.prog X.w) X.A (compEnvC scope (cellsFrom (s3.heap.objs.size + 1) scope.names (cloFrom X.env.cells scope.names [])) s3.heap.objs.size X.env) (fun e s' => compPostF (model X.prog X.w) X.A X.xe use Qf (.ref D) (compEnvC scope (cellsFrom (s3.heap.objs.size + 1) scope.names (cloFrom X.env.cells scope.names [])) s3.heap.objs.size X.env) (.error e) s') e s' := fun e s' x => by
    rw [hxe] at x
    obtain ⟨a, B, sI, pins', σ', H', cls, d, e, I6, rest⟩ := x
    exact comp_note (xe := fun _ _ => False) hss hf I3 f3 tk ⟨a, B, sI, pins', σ', H', cls, d, e, I6, rest⟩
  have pg := hg s3 (upd H2 D (.lst [])) s3.heap.objs.size (cellsFrom (s3.heap.objs.size + 1) scope.names (cloFrom X.env.cells scope.names [])) fp xe
  have pt := ht s3 (upd H2 D (.lst [])) s3.heap.objs.size (cellsFrom (s3.heap.objs.size + 1) scope.names (cloFrom X.env.cells scope.names [])) fp xe tkB
  have pe := he s3 (upd H2 D (.lst [])) s3.heap.objs.size (cellsFrom (s3.heap.objs.size + 1) scope.names (cloFrom X.env.cells scope.names [])) fp xe tkB
  show codeAny _ _ (.compStart (.ListComp elt [⟨tg, iter, ifs, 0⟩] scope pos) 0 (.ref it) (.ref D) (compEnvC scope (cellsFrom (s3.heap.objs.size + 1) scope.names (cloFrom X.env.cells scope.names [])) s3.heap.objs.size X.env)) (compPostF (model X.prog X.w) X.A X.xe use Qf (.ref D) (compEnvC scope (cellsFrom (s3.heap.objs.size + 1) scope.names (cloFrom X.env.cells scope.names [])) s3.heap.objs.size X.env)) { s3 with heap := pushCells (s3.heap.push { cls := .type "dict", data := .dict #[] }) scope.names }
  have nfp : ∀ b ∈ fp, (upd H2 D (.lst [])) b = none := fun b hb => (f3 b hb).1.1
  generalize hce : compEnvC scope (cellsFrom (s3.heap.objs.size + 1) scope.names (cloFrom X.env.cells scope.names [])) s3.heap.objs.size X.env = ce at I4 pg pt pe noted hxe tkB ⊢
  have cL : ce.locals = s3.heap.objs.size := by subst hce; rfl
  generalize hH3 : upd H2 D (.lst []) = H3 at I3 I4 pg pt pe w0 nfp f3 hxe tkB
  generalize hs4 : ({ s3 with heap := pushCells (s3.heap.push { cls := .type "dict", data := .dict #[] }) scope.names } : Shared) = s4 at I4 ⊢
  have st4 : tn 0 s4.heap := T.keep _ _ _ st3 fun b _ o e => by rw [← hs4]; exact pushCells_keeps _ _ _ _ (Heap.get?_push_of_some _ e)
  have stat : ∀ {σ' : L2.St} {H' : Hp} {s' : Shared}, Inv (blkX X s3 H3 scope ce fp xe) [] σ' H' s' → (∀ b ∈ fp, H' b = none) → ∀ b ∈ fp, FpOk (blkX X s3 H3 scope ce fp xe) [] H' b := fun {σ' H' s'} I' hn b hb =>
    ⟨hn b hb, (I'.ok.exf b hb).1, I'.ok.exfs b hb, .inl hb, fun x c e => (I'.ok.exf b hb).2 x c e, fun p hp => absurd (show p ∈ ([] : List (Addr × Obj)) ++ [] from hp) (by simp)⟩
  have thnX : ∀ {α : Type} {t : Sem α} {Q1 Q2 : α → Shared → Prop} {s : Shared}, wpAny (model X.prog X.w) X.A t Q1 xe s → (∀ a s, Q1 a s → Q2 a s) → wpAny (model X.prog X.w) X.A t Q2 (notedBy (model X.prog X.w) X.A ce (fun e s' => compPostF (model X.prog X.w) X.A X.xe use Qf (.ref D) ce (.error e) s')) s := fun h hQ => wpAny_mono h hQ fun e s' x => noted e s' x
  have loop : codeAny (model X.prog X.w) X.A (.compLoop (.ListComp elt [⟨tg, iter, ifs, 0⟩] scope pos) 0 (.ref it) (.ref D) ce) (compPostF (model X.prog X.w) X.A X.xe use Qf (.ref D) ce) s4 := by
    refine compLoop_any (fun n s' => ∃ i H', Inv (blkX X s3 H3 scope ce fp xe) [] (wipe σ (own.map (·.2))) H' s' ∧ tn i s'.heap ∧ (∀ b ∈ fp, H' b = none) ∧ W i n H') ?_ m0 ⟨0, H3, I4, st4, nfp, w0⟩
    rintro n s5 ⟨i, H5, I5, st5, n5, w5⟩
    rcases turn i n H5 w5 with ⟨stop, qq⟩ | ⟨go, Nx, hNx, step⟩
    · have td := T.done (blkX X s3 H3 scope ce fp xe) rfl rfl rfl hc i [] s5 _ H5 (fun _ _ => False) I5 (stat I5 n5) st5 stop
      refine thnF td fun r s6 ⟨hr, I6⟩ => ?_
      subst hr
      -- back in the def's context
      have I7 : Inv X pins σ H5 s6 := I3.call' (ch := fp) I6.os I6.base I6.hok I6.bare fun b hb => ⟨(f3 b hb).1.2.2.2.1, (f3 b hb).1.2.1, (f3 b hb).1.2.2.2.2.1, (f3 b hb).1.2.2.2.2.2⟩
      have nC : H5 s3.heap.objs.size = none := by
        have z : H5 ce.locals = none := I6.free
        rw [cL] at z
        exact z
      obtain ⟨m, hn, _⟩ := I6.loc
      have hn : s6.heap.Ns ce.locals m := hn
      rw [cL] at hn
      exact hRR D s3.heap.objs.size s6 m H5 I7 qq hn (I3.fpOk (Nat.le_refl _) nC) ce cL
    · have ti := T.item (blkX X s3 H3 scope ce fp xe) rfl rfl rfl hc i [] s5 _ H5 (fun _ _ => False) I5 (stat I5 n5) st5 go
      refine thnF ti fun r s6 ⟨u, hr, h6⟩ => ?_
      subst hr
      refine thnF h6 fun _ s7 ⟨x, H7, I7, r7, y7, st7, n7⟩ => ?_
      have I7' := I7.pinned (stat I7 n7) (T.obj _ _ st7)
      refine thnX (pg.run _ s7 _ H7 x u _ I7' r7 (step x H7 y7)) fun _ s8 ⟨σ8, H8, I8, hw8, q8⟩ => ?_
      refine thnX (pt.run _ s8 σ8 H8 _ I8 q8) fun b s9 ⟨H9, I9, q9⟩ => ?_
      -- the turn's end
      have fin : ∀ {s' : Shared} {H' : Hp}, Inv (blkX X s3 H3 scope ce fp xe) ([] ++ pinsAt fp s7.heap) σ8 H' s' → Nx H' → ∃ m, m < n ∧ ∃ i H', Inv (blkX X s3 H3 scope ce fp xe) [] (wipe σ (own.map (·.2))) H' s' ∧ tn i s'.heap ∧ (∀ b ∈ fp, H' b = none) ∧ W i m H' := fun {s' H'} I' nx => by
        obtain ⟨m', hm, w'⟩ := hNx H' nx
        have pin' : ∀ b ∈ fp, ∀ o, s7.heap.get? b = some o → s'.heap.get? b = some o ∧ H' b = none := fun b hb o e =>
          let z := I'.pin (b, o) (List.mem_append_right _ (List.mem_append_right _ (mem_pinsAt hb e)))
          ⟨z.1, z.2.1⟩
        have hl : (wipe σ (own.map (·.2))).length = σ8.length := by rw [← hw8, wipe_length]
        refine ⟨m', hm, i + 1, H', (I'.unpinned (pins := [])).weak hl (fun j v e => ?_), T.keep _ _ _ st7 fun b hb o e => (pin' b hb o e).1, fun b hb => ?_, w'⟩
        · rw [← hw8] at e
          exact (wipe_some e).1
        · obtain ⟨o, e, _⟩ := T.obj _ _ st7 b hb
          exact (pin' b hb o e).2
      cases b with
      | false =>
        simp only [Bool.false_eq_true, if_false] at q9 ⊢
        exact fin I9 q9
      | true =>
        simp only [if_true] at q9 ⊢
        refine thnX (pe.run _ s9 σ8 H9 _ I9 q9) fun z s10 ⟨yv, H10, I10, r10, acc, hD10, hz10, nx⟩ => ?_
        exact app_ok (X := blkX X s3 H3 scope ce fp xe) I10 hD10 hz10 r10 fun s11 I11 => fin I11 nx
  exact codeAny_compStart_list loop (T.self X.A 0 _ _ _ st4 loop)
end
end Ev

namespace Ev
open PySem PySem.Spec PyProof.Rows L2
section
variable {X : Cx} {W : WX}
theorem pe_lcX {elt tg iter : Expr} {ifs : List Expr} {scope : Scope} {own : List (Str × Nat)} {pos : Pos} {wi : TI} {g : TG} {tt : L2.St → TT} {te : L2.St → TE} (hss : X.stack = X.env :: X.outer) (hf : X.env.frame = some X.env.locals) (tk : Takes X W) (hc : X.calm = true) (hN : X.N.Nodup) (hi : PI X tg iter wi) (ok : BlkOk X.N X.env.scope scope own)
    (hg : ∀ (s : Shared) (H : Hp) (C : Addr) (cl : List (Str × Addr)) (fp : List Addr) (xe : Value → Shared → Prop), PG (blkX X s H scope (compEnvC scope cl C X.env) fp xe) tg g)
    (ht : ∀ (σ : L2.St) (s : Shared) (H : Hp) (C : Addr) (cl : List (Str × Addr)) (fp : List Addr) (xe : Value → Shared → Prop), Takes (blkX X s H scope (compEnvC scope cl C X.env) fp xe) (fun cls d _ H => W cls d σ H) → PTs (blkX X s H scope (compEnvC scope cl C X.env) fp xe) ifs (tt σ))
    (he : ∀ (σ : L2.St) (s : Shared) (H : Hp) (C : Addr) (cl : List (Str × Addr)) (fp : List Addr) (xe : Value → Shared → Prop), Takes (blkX X s H scope (compEnvC scope cl C X.env) fp xe) (fun cls d _ H => W cls d σ H) → PE (blkX X s H scope (compEnvC scope cl C X.env) fp xe) elt (te σ)) (hs : ∀ x, foldedSetIterable iter X.env x = pure x := by intro _; rfl) :
    PE X (.ListComp elt [⟨tg, iter, ifs, 0⟩] scope pos) (fun σ H Q => tLc wi g (tt σ) (te σ) (own.map (·.2)) σ H Q) := by
  refine ⟨fun pins s σ H Q I h => ?_⟩
  rw [eval_ListComp]
  refine lc_coreX hss hf tk hc hN I hi ok hg (ht σ) (he σ) hs h fun D C s' m H' I' q hn f ce hce => ⟨m, by rw [hce]; exact hn, fun h'' sb => ?_⟩
  obtain ⟨f0, f1, f2, f3, f4, f5⟩ := f
  rw [hce] at sb
  exact ⟨.ref D, H', I'.turned (t' := s'.toks) (fun b o hb e => (sb.2 b hb).trans e) f0 f1 f3 f4 f5, rfl, q⟩
theorem ps_setLcX {i : Nat} {y : Str} {py : Pos} {elt tg iter : Expr} {ifs : List Expr} {scope : Scope} {own : List (Str × Nat)} {pos spos : Pos} {wi : TI} {g : TG} {tt : L2.St → TT} {te : L2.St → TE} (hss : X.stack = X.env :: X.outer) (hf : X.env.frame = some X.env.locals) (tk : Takes X W) (hc : X.calm = true) (hN : X.N.Nodup) (hy : X.N[i]? = some y) (hyl : X.env.scope.names.lookup y = some .local)
    (hsw : swapsWith (.ListComp elt [⟨tg, iter, ifs, 0⟩] scope pos) (some (.Name y py)) spos.line X.env = pure true) (hi : PI X tg iter wi) (ok : BlkOk X.N X.env.scope scope own)
    (hg : ∀ (s : Shared) (H : Hp) (C : Addr) (cl : List (Str × Addr)) (fp : List Addr) (xe : Value → Shared → Prop), PG (blkX X s H scope (compEnvC scope cl C X.env) fp xe) tg g)
    (ht : ∀ (σ : L2.St) (s : Shared) (H : Hp) (C : Addr) (cl : List (Str × Addr)) (fp : List Addr) (xe : Value → Shared → Prop), Takes (blkX X s H scope (compEnvC scope cl C X.env) fp xe) (fun cls d _ H => W cls d σ H) → PTs (blkX X s H scope (compEnvC scope cl C X.env) fp xe) ifs (tt σ))
    (he : ∀ (σ : L2.St) (s : Shared) (H : Hp) (C : Addr) (cl : List (Str × Addr)) (fp : List Addr) (xe : Value → Shared → Prop), Takes (blkX X s H scope (compEnvC scope cl C X.env) fp xe) (fun cls d _ H => W cls d σ H) → PE (blkX X s H scope (compEnvC scope cl C X.env) fp xe) elt (te σ)) (hs : ∀ x, foldedSetIterable iter X.env x = pure x := by intro _; rfl) :
    PS X (.Assign [.Name y py] (.ListComp elt [⟨tg, iter, ifs, 0⟩] scope pos) spos) (tAsg (fun σ H Q => tLc wi g (tt σ) (te σ) (own.map (·.2)) σ H Q) (gName i)) := by
  refine ⟨fun pins s σ H D I h => ?_⟩
  rw [exec_Assign_Name_used _ _ _ _ hsw]
  refine wpAny_bind (wpAny_standAt (wpAny_bind ?_))
  show wpAny _ X.A (do let _ ← comprehension (.ListComp elt [⟨tg, iter, ifs, 0⟩] scope pos) scope X.env (firstIterPos [⟨tg, iter, ifs, 0⟩] pos) (newList []) false (eval iter X.env) (some (assign (.Name y py) X.env))) _ _ s
  have h : tLc wi g (tt σ) (te σ) (own.map (·.2)) σ H (fun x H1 => gName i x σ H1 D.nx) := h
  refine wpAny_bind (thn (lc_coreX (Qf := fun _ s' => SP X pins D .next s') hss hf tk hc hN I hi ok hg (ht σ) (he σ) hs h fun L C s' m H' I' q hn f ce hce => ?_) fun _ s' hq => wpAny_pure (wpAny_pure hq))
  show wpAny _ _ (assign (.Name y py) X.env (.ref L)) _ _ _
  refine wpAny_assign_Name (store_ok2 (v := V.ref L) I' hN hy (.inl hyl) rfl (fun s2 I2 ⟨a, sb, ha⟩ => ?_) (.inr hyl))
  obtain ⟨f0, f1, f2, f3, f4, f5⟩ := f
  have haC : C ≠ a := by
    rcases ha with z | z
    · rw [z]; exact f1
    · exact fun e => f4 y a z e.symm
  rw [hce]
  refine ⟨m, hn.sameBut sb haC, fun h3 sb3 => ?_⟩
  exact ⟨_, H', I2.turned (t' := s2.toks) (fun b o hb e => (sb3.2 b hb).trans e) f0 f1 f3 f4 f5, q⟩
end
/-! the reckoner's comprehension that an exception may leave -/
noncomputable def lcX (nx : Src) (tg : Tg) (tt : Evt) (te : Evl) (l0 l : Lo) (m : Nat) : Nat → List W → FH → Res W := Nat.rec (motive := fun _ => Nat → List W → FH → Res W) (fun _ _ _ => .stuck) (fun _ ih i acc S => match nx i S with
    | none => .stuck
    | some none => revK acc [] fun ws => newK S (.lst ws) fun n S1 => .ok (.obj n) S1
    | some (some w) => match tg w l S with
      | none => .stuck
      | some l1 => (relo l0 (tt l1 S)).bnd fun b S1 => match b with
        | false => fNat (i + 1) fun i1 => ih i1 acc S1
        | true => (relo l0 (te l1 S1)).bnd fun y S2 => fNat (i + 1) fun i1 => ih i1 (y :: acc) S2) m
theorem lcX_zero {nx : Src} {tg : Tg} {tt : Evt} {te : Evl} {l0 l : Lo} {i : Nat} {acc : List W} {S : FH} : lcX nx tg tt te l0 l 0 i acc S = .stuck := rfl
theorem lcX_succ {nx : Src} {tg : Tg} {tt : Evt} {te : Evl} {l0 l : Lo} {m i : Nat} {acc : List W} {S : FH} : lcX nx tg tt te l0 l (m + 1) i acc S = match nx i S with
    | none => .stuck
    | some none => .ok (.obj S.n) (S.new (.lst acc.reverse))
    | some (some w) => match tg w l S with
      | none => .stuck
      | some l1 => (relo l0 (tt l1 S)).bnd fun b S1 => match b with
        | false => lcX nx tg tt te l0 l m (i + 1) acc S1
        | true => (relo l0 (te l1 S1)).bnd fun y S2 => lcX nx tg tt te l0 l m (i + 1) (y :: acc) S2 := by
  have e : ∀ x, lcX nx tg tt te l0 l (m + 1) i acc S = x ↔ (match nx i S with
    | none => .stuck
    | some none => revK acc [] fun ws => newK S (.lst ws) fun n S1 => .ok (.obj n) S1
    | some (some w) => match tg w l S with
      | none => .stuck
      | some l1 => (relo l0 (tt l1 S)).bnd fun b S1 => match b with
        | false => fNat (i + 1) fun i1 => lcX nx tg tt te l0 l m i1 acc S1
        | true => (relo l0 (te l1 S1)).bnd fun y S2 => fNat (i + 1) fun i1 => lcX nx tg tt te l0 l m i1 (y :: acc) S2) = x := fun x => Iff.rfl
  rw [e]
  simp only [revK_eq, newK_eq, fNat_eq, List.append_nil]
noncomputable def evLx (f : Evi) (tg : Tg) (tt : Evt) (te : Evl) (vs : List Nat) : Evl := fun l S => (f l S).bnd fun nx S1 => wipeK l vs fun l1 => lcX nx tg tt te l l1 10000 0 [] S1
section
variable {G : Glo} {X : Cx} {W' : WX} {pos : Pos}
theorem rd_lx {ks vs : List Nat} {f : Evi} {t : Tg} {tt : Evt} {te : Evl} {g : TG} {σ : L2.St} {H : Hp} {Q : VK}
    (kk : KK G ks t g) (hks : ∀ k ∈ ks, k ∈ vs) (h : rdE G W' (evLx f t tt te vs) σ H Q) : tLc (rdI G W' f) g (rdT G (fun cls d _ H => W' cls d σ H) tt) (rdE G (fun cls d _ H => W' cls d σ H) te) vs σ H Q := by
  obtain ⟨C, l, e, ok, r, p⟩ := h
  subst e
  unfold evLx at p
  simp only [wipeK_eq] at p
  refine ⟨C, l, rfl, ok, r, Post.mono (fun nx C1 ok1 x1 p1 J hJ D hD => ?_) (Post.bnd (k := fun nx S1 => lcX nx t tt te l (wipeL l vs) 10000 0 [] S1) p)⟩
  have r0 := r.mono ok x1
  have r1 := (r.mono ok x1).wipe vs
  refine ⟨fun i m H => ∃ (C2 : Cf) (acc : List W) (av : List V), C2.H = H ∧ C2.Ok G ∧ Ext C1 C2 ∧ H D = some (.lst av) ∧ (∀ j : Nat, C2.ρ[j]? ≠ some D) ∧ RWs G.K C2.ρ C2.H acc.reverse av ∧ acc.length ≤ i ∧ i + m ≤ 10000 ∧ Post G W' C1 (lcX nx t tt te l (wipeL l vs) m i acc C2.S) (PhE G Q), ⟨10000, ?_⟩, ?_⟩
  · obtain ⟨ok2, x2⟩ := Cf.tupd (o := .lst []) ok1 hD
    exact ⟨⟨C1.ρ, upd C1.H D (.lst []), C1.S⟩, [], [], rfl, ok2, x2, upd_same, fun j h => ok1.lv j D h hD, .nil, Nat.le_refl _, Nat.le_refl _, p1⟩
  rintro i m H2 ⟨C2, acc, av, rfl, ok2, x2, hD2, nD2, ra, hl, him, p2⟩
  have hs2 := hJ C2 ok2 x2 i
  cases m with
  | zero => rw [lcX_zero] at p2; exact post_stuck p2
  | succ m =>
    rw [lcX_succ] at p2
    cases q : nx i C2.S with
    | none => simp only [q] at p2; exact post_stuck p2
    | some o =>
      cases o with
      | none =>
        simp only [q] at p2
        refine .inl ⟨hs2.1 q, ?_⟩
        obtain ⟨ok3, x3, h3⟩ := Cf.adopt ok2 x2 hD2 nD2 hD ra
        unfold Post at p2
        exact p2 _ rfl ok3 x3 (.ref D) (by unfold RW; exact ⟨D, rfl, h3⟩)
      | some w =>
        simp only [q] at p2
        obtain ⟨h1, h2⟩ := hs2.2 w q
        refine .inr ⟨h1, fun H' => ∃ (C2 : Cf) (acc : List W) (av : List V), C2.H = H' ∧ C2.Ok G ∧ Ext C1 C2 ∧ H' D = some (.lst av) ∧ (∀ j : Nat, C2.ρ[j]? ≠ some D) ∧ RWs G.K C2.ρ C2.H acc.reverse av ∧ acc.length ≤ i + 1 ∧ i + 1 + m ≤ 10000 ∧ Post G W' C1 (lcX nx t tt te l (wipeL l vs) m (i + 1) acc C2.S) (PhE G Q), fun H' h => ⟨m, Nat.lt_succ_self m, h⟩, fun x H' y => ?_⟩
        obtain ⟨C3, rfl, hS, ok3, x3, rv⟩ := h2 x H' y
        cases q2 : t w (wipeL l vs) C2.S with
        | none => simp only [q2] at p2; exact post_stuck p2
        | some l3 =>
          simp only [q2] at p2
          have rC3 := (r1.mono ok1 x2).mono ok2 x3
          refine kk C3 (wipeL l vs) l3 (wipe σ vs) w x _ ok3 rC3 rv (by rw [hS]; exact q2) fun σ3 r3 tu => ?_
          refine ⟨by rw [turned_wipe tu hks, wipe_wipe], C3, l3, rfl, ok3, r3, ?_⟩
          have pb := Post.base (x2.trans x3) (Post.bnd0 p2)
          rw [hS]
          refine Post.mono (fun b C4 ok4 x4 p4 => ?_) (post_relo ok3 ((r0.mono ok1 x2).mono ok2 x3) pb)
          have s3 := x3.side hD2 nD2
          have s4 := x4.side s3.1 s3.2
          have ra4 := RWs.mono ok3 x4 _ (RWs.mono ok2 x3 _ ra)
          unfold PhT
          cases b with
          | false =>
            refine iteF ⟨C4, acc, av, rfl, ok4, (x2.trans x3).trans x4, s4.1, s4.2, ra4, by omega, by omega, p4⟩
          | true =>
            refine iteT ⟨C4, l3, rfl, ok4, r3.mono ok3 x4, ?_⟩
            have pb2 := Post.base ((x2.trans x3).trans x4) (Post.bnd0 p4)
            refine Post.mono (fun yw C5 ok5 x5 p5 yv ry => ?_) (post_relo ok4 (((r0.mono ok1 x2).mono ok2 x3).mono ok3 x4) pb2)
            have s5 := x5.side s4.1 s4.2
            have ra5 := RWs.mono ok4 x5 _ ra4
            have x05 : Ext C1 C5 := ((x2.trans x3).trans x4).trans x5
            obtain ⟨ok6, x6, kw, kws⟩ := Cf.side (us := av ++ [yv]) ok5 x05 s5.1 s5.2 hD
            refine ⟨av, s5.1, ?_, ⟨C5.ρ, upd C5.H D (.lst (av ++ [yv])), C5.S⟩, yw :: acc, av ++ [yv], rfl, ok6, x6, upd_same, s5.2, ?_, by simp; omega, by omega, p5⟩
            · have := ra.length
              rw [List.length_reverse] at this
              rw [this, sizeLine_eq]; omega
            · exact RWs.reverse (kws _ _ ra5) (kw _ _ ry)
/-- what a def's context tells beside -/
structure Dfx (X : Cx) : Prop where
  stk : X.stack = X.env :: X.outer
  frm : X.env.frame = some X.env.locals
theorem se_lx {elt tg iter : Expr} {ifs : List Expr} {scope : Scope} {own : List (Str × Nat)} {ks : List Nat} {f : Evi} {t : Tg} {tt : Evt} {te : Evl} {g : TG} (hd : Dfx X) (tk : Takes X W') (hc : X.calm = true) (hN : X.N.Nodup) (hi : SI G X W' f tg iter) (ok : BlkOk X.N X.env.scope scope own)
    (kk : KK G ks t g) (hks : ∀ k ∈ ks, k ∈ own.map (·.2))
    (hg : ∀ (s : Shared) (H : Hp) (C : Addr) (cl : List (Str × Addr)) (fp : List Addr) (xe : Value → Shared → Prop), PG (blkX X s H scope (compEnvC scope cl C X.env) fp xe) tg g)
    (ht : ∀ (s : Shared) (H : Hp) (C : Addr) (cl : List (Str × Addr)) (fp : List Addr) (xe : Value → Shared → Prop) (W1 : WX), Takes (blkX X s H scope (compEnvC scope cl C X.env) fp xe) W1 → STs G (blkX X s H scope (compEnvC scope cl C X.env) fp xe) W1 tt ifs)
    (he : ∀ (s : Shared) (H : Hp) (C : Addr) (cl : List (Str × Addr)) (fp : List Addr) (xe : Value → Shared → Prop) (W1 : WX), Takes (blkX X s H scope (compEnvC scope cl C X.env) fp xe) W1 → SE G (blkX X s H scope (compEnvC scope cl C X.env) fp xe) W1 te elt)
    (hs : ∀ x, foldedSetIterable iter X.env x = pure x := by intro _; rfl) : SE G X W' (evLx f t tt te (own.map (·.2))) (.ListComp elt [⟨tg, iter, ifs, 0⟩] scope pos) :=
  pe_imp (pe_lcX hd.stk hd.frm tk hc hN hi ok hg (fun σ s H C cl fp xe tk => ht s H C cl fp xe _ tk) (fun σ s H C cl fp xe tk => he s H C cl fp xe _ tk) hs) fun σ H Q h => rd_lx kk hks h
theorem ss_setLx {i : Nat} {y : Str} {py : Pos} {elt tg iter : Expr} {ifs : List Expr} {scope : Scope} {own : List (Str × Nat)} {ks : List Nat} {spos : Pos} {f : Evi} {t : Tg} {tt : Evt} {te : Evl} {g : TG} (hd : Dfx X) (tk : Takes X W') (hc : X.calm = true) (hN : X.N.Nodup) (hy : X.N[i]? = some y) (hyl : X.env.scope.names.lookup y = some .local)
    (hsw : swapsWith (.ListComp elt [⟨tg, iter, ifs, 0⟩] scope pos) (some (.Name y py)) spos.line X.env = pure true) (hi : SI G X W' f tg iter) (ok : BlkOk X.N X.env.scope scope own)
    (kk : KK G ks t g) (hks : ∀ k ∈ ks, k ∈ own.map (·.2))
    (hg : ∀ (s : Shared) (H : Hp) (C : Addr) (cl : List (Str × Addr)) (fp : List Addr) (xe : Value → Shared → Prop), PG (blkX X s H scope (compEnvC scope cl C X.env) fp xe) tg g)
    (ht : ∀ (s : Shared) (H : Hp) (C : Addr) (cl : List (Str × Addr)) (fp : List Addr) (xe : Value → Shared → Prop) (W1 : WX), Takes (blkX X s H scope (compEnvC scope cl C X.env) fp xe) W1 → STs G (blkX X s H scope (compEnvC scope cl C X.env) fp xe) W1 tt ifs)
    (he : ∀ (s : Shared) (H : Hp) (C : Addr) (cl : List (Str × Addr)) (fp : List Addr) (xe : Value → Shared → Prop) (W1 : WX), Takes (blkX X s H scope (compEnvC scope cl C X.env) fp xe) W1 → SE G (blkX X s H scope (compEnvC scope cl C X.env) fp xe) W1 te elt)
    (hs : ∀ x, foldedSetIterable iter X.env x = pure x := by intro _; rfl) : SS G X W' (esSet i (evLx f t tt te (own.map (·.2)))) (.Assign [.Name y py] (.ListComp elt [⟨tg, iter, ifs, 0⟩] scope pos) spos) :=
  ps_imp (ps_setLcX hd.stk hd.frm tk hc hN hy hyl hsw hi ok hg (fun σ s H C cl fp xe tk => ht s H C cl fp xe _ tk) (fun σ s H C cl fp xe tk => he s H C cl fp xe _ tk) hs) fun D σ H ⟨C, l, e, okC, r, p⟩ => by
    refine rd_lx (W' := W') (σ := σ) (H := H) (Q := fun x H1 => gName i x σ H1 D.nx) kk hks ⟨C, l, e, okC, r, ?_⟩
    refine Post.mono (fun w C1 ok1 x1 p1 v rv => ?_) (Post.bnd p)
    rw [tgName_eq] at p1
    exact (Post.now (W' := W') ok1 p1) _ ((r.mono okC x1).set rv)
end
end Ev

namespace Ev
open PySem PySem.Spec PyProof.Rows L2
/-! ### calls: with a heap of its own where only plain values go in and come out -/
noncomputable def backP (S : FH) (z m : Res W) : Res W := Res.rec (motive := fun _ => Res W)
  (fun a _ => match pureW a with
    | true => .ok a S
    | false => z)
  (fun c x _ _ => match pureW x with
    | true => .exc c x [] S
    | false => z)
  (fun _ _ _ => z) .stuck m
noncomputable def callM (pm : Bool) (F : Fn) (ws : List W) (S : FH) : Res W := match pm with
  | true => match pureWs ws with
    | true => backP S (back (S := S) pureW (F ws S.bare)) (F ws ⟨0, []⟩)
    | false => F ws S
  | false => callF F ws S
section
variable {G : Glo} {W' : WX}
theorem Cf.zero_ok {H : Hp} : (Cf.mk [] H ⟨0, []⟩).Ok G := ⟨rfl, fun i j a h => by simp at h, fun i a h => by simp at h, fun i v h => nomatch h⟩
theorem post_backP {C : Cf} (ok : C.Ok G) {E : XK} {Q : VK} {z : Res W} {P : Prop} (hz : Post G (WE' E) C z (PhE G Q) → P) : ∀ {m : Res W}, Post G (WE' E) C (backP C.S z m) (PhE G Q) → Post G (WE' E) ⟨[], C.H, ⟨0, []⟩⟩ m (PhE G Q) ∨ P
  | .ok a S', h => by
    dsimp only [backP] at h
    cases q : pureW a with
    | true =>
      simp only [q] at h
      refine .inl ?_
      unfold Post
      intro D hD okD x v rv
      unfold Post at h
      obtain ⟨ok', x'⟩ := Cf.beside (H' := D.H) ok fun b o e => x.keep b o e fun i v q => nomatch q
      exact h ⟨C.ρ, D.H, C.S⟩ rfl ok' x' v (pure_mono (fun h => h) a q rv)
    | false => simp only [q] at h; exact .inr (hz h)
  | .exc c w l S', h => by
    dsimp only [backP] at h
    cases q : pureW w with
    | true =>
      simp only [q] at h
      refine .inl ?_
      unfold Post
      intro D cls d σ' hD okD x hx hl
      unfold Post at h
      obtain ⟨ok', x'⟩ := Cf.beside (H' := D.H) ok fun b o e => x.keep b o e fun i v q => nomatch q
      exact h ⟨C.ρ, D.H, C.S⟩ cls d [] rfl ok' x' (rx_of hx rfl fun v r => pure_mono (fun h => h) w q r) rl_nil
    | false => simp only [q] at h; exact .inr (hz h)
  | .pick n f, h => .inr (hz h)
  | .stuck, h => by
    dsimp only [backP] at h
    exact post_stuck h
theorem sp_ofM {C : Cf} (ok : C.Ok G) {pm : Bool} {F : Fn} {l : Lo} {σ : L2.St} {ws : List W} {vs : List V} {n : Nat} {Q : VK} (r : RL G C l σ) (rv : RWs G.K C.ρ C.H ws vs) (hn : vs.length = n) (p : Post G W' C (relo l (callM pm F ws C.S)) (PhE G Q)) :
    spF G F n vs C.H Q fun cls d H => W' cls d σ H := by
  cases pm with
  | false => exact sp_of ok r rv hn p
  | true =>
    refine ⟨hn, ?_⟩
    have p1 := post_relo ok r p
    unfold callM at p1
    cases q : pureWs ws with
    | false =>
      simp only [q] at p1
      exact ⟨C, ws, rfl, ok, rv, p1⟩
    | true =>
      simp only [q] at p1
      rcases post_backP (P := ∃ (C' : Cf) (ws : List W), C'.H = C.H ∧ C'.Ok G ∧ RWs G.K C'.ρ C'.H ws vs ∧ Post G (WE' fun cls d H => W' cls d σ H) C' (F ws C'.S) (PhE G Q)) ok (fun hz => ⟨⟨C.ρ, C.H, C.S.bare⟩, ws, rfl, Cf.bare_ok ok, rv, post_back ok hz⟩) p1 with p2 | ⟨C', ws', e1, h⟩
      · exact ⟨⟨[], C.H, ⟨0, []⟩⟩, ws, rfl, Cf.zero_ok, pures_mono (fun h => h) ws q rv, p2⟩
      · exact ⟨C', ws', e1, h⟩
end
section
variable {G : Glo} {X : Cx} {W' : WX} {k : Nat} {f : Addr} {fd : FuncData} {ps : List Str} {x : Str} {p pos : Pos} {e : Expr} {es : List Expr} {F : Fn} {fa : Eva}
noncomputable def evCl (pm : Bool) (n : Nat) (F : Fn) (f : Eva) : Evl := fun l S => (f l S).bnd fun ws S1 => match Nat.beq ws.length n with
  | true => relo l (callM pm F ws S1)
  | false => .stuck
/-- a def of the module, as a caller sees it -/
structure Def (G : Glo) (P : Program) (w : World) (mg : Str → Option Value) (base : Heap) (k : Nat) (x : Str) (ps : List Str) (n : Nat) (F : Fn) : Prop where
  ex : ∃ (f : Addr) (fd : FuncData), FnOk P w G.K mg base (L2.CX P w) k f fd ps (spF G F n) ∧ ps.length = n ∧ mg x = some (.ref f) ∧ PySem.W.keepIn G.K (.ref f) = true ∧ Binds G.K fd ps [] ∧ ∃ (oc : Value) (od : Option Addr) (osl : Array (Option Value)), G.K.lookup f = some ⟨oc, od, .func fd, osl⟩
theorem se_cl {n : Nat} (pm : Bool) (hx : Okx G X) (D : Def G X.prog X.w X.mg X.base k x ps n F) (hr : Room k X.A) (hg : Gl X x) (tk : Takes X W')
    (ha : SA G X W' fa (e :: es)) (hdb : (x == ("__debug__" : Str)) = false := by decide) (he : starEach (e :: es) X.env = (false, eval e X.env) :: starEach es X.env := by rfl) (hpl : (backTo pos (starEach es X.env)).any (·.1) = false := by rfl) :
    SE G X W' (evCl pm n F fa) (.Call (.Name x p) (e :: es) [] pos) := by
  obtain ⟨f, fd, Fk, hl, hm, hk, hb, _⟩ := D.ex
  rw [← hx.k] at Fk hk hb
  refine pe_imp (pe_callSD (dvs := []) (ds := []) (E := fun σ => L2.WE W' σ) Fk hr hg hm hk hb .nil (fun σ => L2.passAt tk σ) ha hdb he hpl) fun σ H Q ⟨C, l, e, ok, r, p⟩ => ?_
  subst e
  refine ⟨C, l, rfl, ok, r, Post.mono (fun ws C1 ok1 x1 p1 vs rvs => ?_) (Post.bnd p)⟩
  show spF G F n (vs ++ []) C1.H Q _
  rw [List.append_nil]
  cases q : Nat.beq ws.length n with
  | false => simp only [q] at p1; exact post_stuck p1
  | true =>
    simp only [q] at p1
    exact sp_ofM ok1 (r.mono ok x1) rvs (by rw [rvs.length]; exact Nat.eq_of_beq_eq_true q) p1
theorem se_cl0 (pm : Bool) (hx : Okx G X) (D : Def G X.prog X.w X.mg X.base k x ps 0 F) (hr : Room k X.A) (hg : Gl X x) (tk : Takes X W')
    (hdb : (x == ("__debug__" : Str)) = false := by decide) : SE G X W' (evCl pm 0 F eaNil) (.Call (.Name x p) [] [] pos) := by
  obtain ⟨f, fd, Fk, hl, hm, hk, hb, _⟩ := D.ex
  rw [← hx.k] at Fk hk hb
  refine pe_imp (pe_callS0 (E := fun σ => L2.WE W' σ) Fk hr hg hm hk hb (fun σ => L2.passAt tk σ) hdb) fun σ H Q ⟨C, l, e, ok, r, p⟩ => ?_
  subst e
  exact sp_ofM ok r .nil rfl p
/-! ### calls with keywords: the values in the call's order, then put in the parameters' order -/
def permL {α : Type} (ws : List α) (is : List Nat) (d : α) : List α := is.map fun i => (ws[i]?).getD d
/-- how a call with m values and the keywords ks binds -/
def KwB (K : PySem.W.Frag) (fd : FuncData) (ps : List Str) (m : Nat) (ks : List Str) (is : List Nat) : Prop := ∀ (s : Shared) (us ws : List Value), us.length = m → ws.length = ks.length → BindsTo s fd ⟨us, ks.zip ws⟩ (ps.zip (permL (us ++ ws) is .none))
/-- keywords of a def -/
structure DefK (G : Glo) (P : Program) (w : World) (mg : Str → Option Value) (base : Heap) (k : Nat) (x : Str) (n : Nat) (F : Fn) (m : Nat) (ks : List Str) (is : List Nat) : Prop where
  ex : ∃ (f : Addr) (fd : FuncData) (ps : List Str), FnOk P w G.K mg base (L2.CX P w) k f fd ps (spF G F n) ∧ ps.length = n ∧ mg x = some (.ref f) ∧ PySem.W.keepIn G.K (.ref f) = true ∧ KwB G.K fd ps m ks is
end
end Ev

namespace Ev
open PySem PySem.Spec PyProof.Rows L2
/-! ### raise C() -/
section
variable {G : Glo} {X : Cx} {W' : WX} {pos : Pos}
theorem pmk_own0A {C : Addr} {bmB : List Value} {B newId initId : String} {x : Str} {p : Pos} (F : ExcBaseFacts B newId initId bmB) (q : PySem.W.excIn X.K C bmB newId = true) (gC : X.mg x = some (.ref C))
    (kC : PySem.W.keepIn X.K (.ref C) = true) (r : Raises X (.ref C)) (hg : Gl X x) (hdb : (x == ("__debug__" : Str)) = false := by decide) :
    PMk X (.Call (.Name x p) [] [] pos) (fun σ H Q => Q (.ref C) none H) := by
  intro pins s σ H Q I h
  refine wpAny_Call_Name_kw (ld_glob I hg gC ?_ hdb)
  refine PySem.W.callWith_K0 I.kIn kC ?_
  show wpAny _ _ (call (.ref C) []) _ _ _
  obtain ⟨bm, N, nm, qn, bs, hdct, sn, sub, ab, col, dd, k0, k1, k2, k3, k5, mN, hC, hN, hni, T⟩ := exc_obj I.kIn q
  refine wpAny_call_exc_subT F T hC hN hni (fun h' e hm => ?_) (by show 0 ≤ sizeLine; exact Nat.zero_le _)
  exact mk_of I hm r h (I.hok.gone hm.new)
/-- an own error's class without __init__, by its number -/
structure Exc0 (G : Glo) (mg : Str → Option Value) (c : Nat) (x : Str) : Prop where
  fl : G.cfl c = none
  mg : mg x = some (.ref (G.cad c))
  q : ∃ bmB B newId initId, ExcBaseFacts B newId initId bmB ∧ PySem.W.excIn G.K (G.cad c) bmB newId = true
  kp : PySem.W.keepIn G.K (.ref (G.cad c)) = true
  s1 : PySem.W.subIn G.K (.ref (G.cad c)) (.type "BaseException") = some true
  s2 : PySem.W.typeIn G.K (.ref (G.cad c)) = some (.type "type")
end
/-! ### try: body, except x as n: suite, .. -/
def hdEnds (i : Option Nat) (D : Ends) : Ends := match i with
  | none => D
  | some i => { nx := fun σ' H' => D.nx (σ'.set i none) H', rt := D.rt, bk := fun σ' H' => D.bk (σ'.set i none) H', ct := fun σ' H' => D.ct (σ'.set i none) H' }
def hdSt (i : Option Nat) (a : Addr) (σ : L2.St) : L2.St := match i with
  | none => σ
  | some i => σ.set i (some (.ref a))
/-- what the clauses wish of an exception of the body -/
def wHds (K : PySem.W.Frag) (Wout : WX) (D : Ends) : List (Value × Option Nat × (Addr → Value → Option Addr → TS)) → WX
  | [] => Wout
  | (c, i, ts) :: r => fun cls d σ H => ∃ b, PySem.W.exmOne K cls c = some b ∧ (b = true → ∀ a, H a = none → ts a cls d (hdEnds i D) (hdSt i a σ) H) ∧ (b = false → wHds K Wout D r cls d σ H)
def NmOk (X : Cx) (i : Option Nat) (n : Option Str) : Prop := match i with
  | none => n = none
  | some i => ∃ m, n = some m ∧ X.N[i]? = some m ∧ X.env.kindOf m = some .local
inductive HdsOkA (X : Cx) : List ExceptHandler → List (Value × Option Nat × (Addr → Value → Option Addr → TS)) → Prop
  | nil : HdsOkA X [] []
  | cons {x : Str} {c : Value} {i : Option Nat} {n : Option Str} {ts : Addr → Value → Option Addr → TS} {b₀ : Stmt} {suite : List Stmt} {np pos' : Pos} {hds : List ExceptHandler} {l : List (Value × Option Nat × (Addr → Value → Option Addr → TS))} (hc : Names X x c) (hn : NmOk X i n)
      (hsu : ∀ (a : Addr) (oe : Obj) (cls : Value) (d : Option Addr) (pn : List (Addr × Obj)), Zc cls d oe → (∃ vs, oe.data = .fields vs) → PSs (X.suite a ((a, oe) :: pn)) (b₀ :: suite) (ts a cls d)) (r : HdsOkA X hds l) :
      HdsOkA X (.ExceptHandler (some (.Name x np)) n (b₀ :: suite) pos' :: hds) ((c, i, ts) :: l)
section
variable {X : Cx} {body : List Stmt} {h₀ : ExceptHandler} {hds : List ExceptHandler} {l : List (Value × Option Nat × (Addr → Value → Option Addr → TS))} {pos : Pos} {tb : WX → TS} {Wout : WX}
theorem ps_try_hds (hs : X.stack = X.env :: X.outer) (hf : X.env.frame = some X.env.locals) (hN : X.N.Nodup) (tk : Takes X Wout)
    (hb : ∀ (W : WX) (pn : List (Addr × Obj)) (xe : Value → Shared → Prop), Takes (X.tr pn xe) W → PassesOwn (model X.prog X.w) X.A X.env xe → PSs (X.tr pn xe) body (tb W))
    (hh : HdsOkA X (h₀ :: hds) l) : PS X (.Try body (h₀ :: hds) [] [] pos) (fun D σ H => tb (wHds X.K Wout D l) D σ H) := by
  refine ⟨fun pins s σ H D I h => ?_⟩
  have ok := I.ok
  have hfr : X.A.frames = some (X.env :: X.outer) := by rw [ok.frames, hs]
  refine wpAny_Try_except ?_
  refine wpAny_mono ((hb (wHds X.K Wout D l) (X.pn ++ pins) (fun e s₁ => wpAny (model X.prog X.w) X.A (noteFrame e X.env) (fun _ s₂ => wpAny (model X.prog X.w) X.A (setFlight e none) (fun _ s₃ =>
    wpAny (model X.prog X.w) X.A (handleBy e X.env (h₀ :: hds)) (SP X pins D) X.xe s₃) X.xe s₂) X.xe s₁) (fun u s' xx => ?_) PassesOwn.looking).run [] s σ H D (I.toTry _) h) (fun f s1 hsp => ?_) (fun e s1 he => he)
  · obtain ⟨a, B, sI, pins', σ', H', cls, d, rfl, J', nb, up, sky, na, os, ag, w⟩ := xx
    have J : Inv X pins σ' H' sI := J'.ofTry ok
    have sky' : Sky B (X.env :: X.outer) a (Zc cls d) X.env.locals s'.heap := by rw [← hs]; exact sky
    show wpAny (model X.prog X.w) X.A (noteFrame (.ref a) X.env) _ _ _
    refine Sky.land Zc.steady hfr hf sky' fun h3 fl3 up3 => ?_
    have J3 : Inv X pins σ' H' { s' with heap := h3 } := J.landed nb fl3.1 (up.trans up3) os ag
    obtain ⟨oe3, vs3, he3, hz3, hd3⟩ := fl3.there
    have notFr : ∀ {h : Heap} {o : Obj} {vs : Array Value}, h.FunFrames B (X.env :: X.outer) → h.get? a = some o → o.data = .fields vs → a ∉ frs (X.env :: X.outer) := fun {h o vs} ff e dd hm => by
      obtain ⟨_, o', e', hnf⟩ := ff.mem hm
      rw [e] at e'; cases e'
      exact hnf _ dd
    have nfr := notFr fl3.2.2.1 he3 hd3
    have nL : a ≠ X.env.locals := fun z => nfr (List.mem_filterMap.mpr ⟨X.env, List.mem_cons_self, by rw [hf, z]⟩)
    have nF : a ∉ X.fs := fun hm => by
      obtain ⟨e, he, q⟩ := List.mem_filterMap.mp hm
      exact nfr (List.mem_filterMap.mpr ⟨e, List.mem_cons_of_mem _ he, q⟩)
    have S3 := J3.suite he3 hd3 na nL nF
    have go : ∀ {hds' : List ExceptHandler} {l' : List (Value × Option Nat × (Addr → Value → Option Addr → TS))}, HdsOkA X hds' l' → wHds X.K Wout D l' cls d σ' H' →
        wpAny (model X.prog X.w) X.A (handleBy (.ref a) X.env hds') (SP X pins D) X.xe { s' with heap := h3 } := by
      intro hds' l' hk
      induction hk with
      | nil =>
        intro w
        refine wpAny_handleBy_nil ?_
        obtain ⟨k1, k2, k3, oe, vs, T, oT, ts', he, hz, hd, h1, hr⟩ := id fl3
        unfold PySem.passOn
        refine wpAny_bind (wpAny_field he hd h1 ?_)
        rw [if_neg (show ¬ ((Value.ref T == Value.none) = true) from by simp)]
        have fin : wpAny (model X.prog X.w) X.A (setFlight (.ref a) X.env.frame) (fun _ s4 => wpAny (model X.prog X.w) X.A (throw (.ref a) : Sem Flow) (SP X pins D) X.xe s4) X.xe { s' with heap := h3 } := by
          rw [hf]
          refine HandSPX.setFlight_upZ fl3 fun h4 hh4 up4 => wpAny_throw (tk _ _ ?_)
          exact ⟨a, B, sI, pins, σ', H', cls, d, rfl, J, nb, (up.trans up3).trans up4, .inr (.inr (by rw [hs]; exact hh4)), na, os, ag, w⟩
        first
          | exact wpAny_bind (wpAny_pure (wpAny_bind fin))
          | exact wpAny_bind fin
      | @cons x c i n ts b₀ suite np pos' hds2 l2 hc hn hsu r ih =>
        intro w
        obtain ⟨b, hb1, hyes, hno⟩ := w
        refine wpAny_handleBy_cons (codeAny_handlers_test ?_) (by intro q; cases q)
        have LT : PySem.W.Looks (model X.prog X.w) h3 (typeOf (.ref a)) cls := fun A Q E s k q => wpAny_typeOf_ref (k _ _ he3) (by rw [hz3.1]; exact q)
        have LM := PySem.W.exm_one (M := model X.prog X.w) (J3.kIn) LT hb1
        have test : ∀ {Q : Value → Shared → Prop} {E : Value → Shared → Prop}, Q c { s' with heap := h3 } → wpAny (model X.prog X.w) (X.A.mark (some (.ref a))) (eval (.Name x np) X.env) Q E { s' with heap := h3 } := fun {Q E} q => by
          obtain ⟨hg, hdbg, hm | ⟨hm, hv, hnn⟩⟩ := hc
          · exact ld_glob (X := X.suite a ((a, oe3) :: (X.pn ++ pins))) S3 hg hm q hdbg
          · exact ld_blt (X := X.suite a ((a, oe3) :: (X.pn ++ pins))) S3 hg hm hv q hnn hdbg
        refine test (LM.here ?_)
        cases b with
        | true =>
          cases i with
          | none =>
            cases (show n = none from hn)
            refine codeAny_handlers_suite ?_
            refine HandSPX.lands_againZ fl3 fun h4 fl4 up4 => ?_
            have J4 : Inv X pins σ' H' { s' with heap := h4 } := J.landed nb fl4.1 ((up.trans up3).trans up4) os ag
            obtain ⟨oe4, vs4, he4, hz4, hd4⟩ := fl4.there
            have S4 := J4.suite he4 hd4 na nL nF
            refine wpAny_mono ((hsu a oe4 cls d (X.pn ++ pins) hz4 ⟨_, hd4⟩).run [] _ _ H' _ S4 (hyes rfl a na)) (fun f s6 hsp => ?_) (fun _ _ z => False.elim z)
            cases f with
            | next =>
              obtain ⟨σ6, H6, S6, q6⟩ := hsp
              exact ⟨_, _, S6.unsuite ok, q6⟩
            | brk =>
              obtain ⟨σ6, H6, S6, q6⟩ := hsp
              exact ⟨_, _, S6.unsuite ok, q6⟩
            | cont =>
              obtain ⟨σ6, H6, S6, q6⟩ := hsp
              exact ⟨_, _, S6.unsuite ok, q6⟩
            | ret u =>
              obtain ⟨v6, σ6, H6, S6, r6, q6⟩ := hsp
              exact ⟨_, _, _, S6.unsuite ok, r6, q6⟩
          | some i =>
            obtain ⟨m, rfl, hi, hln⟩ := hn
            have hloc : Loc X.env.scope m := .inl hln
            refine codeAny_handlers_suite_as ?_
            refine HandSPX.lands_againZ fl3 fun h4 fl4 up4 => ?_
            have J4 : Inv X pins σ' H' { s' with heap := h4 } := J.landed nb fl4.1 ((up.trans up3).trans up4) os ag
            obtain ⟨oe4, vs4, he4, hz4, hd4⟩ := fl4.there
            have S4 := J4.suite he4 hd4 na nL nF
            refine store_ok (X := X.suite a ((a, oe4) :: (X.pn ++ pins))) (v := .ref a) S4 hN hi hloc rfl (fun s5 S5 => ?_) (.inr hln)
            refine wpAny_mono ((hsu a oe4 cls d (X.pn ++ pins) hz4 ⟨_, hd4⟩).run [] s5 _ H' _ S5 (hyes rfl a na)) (fun f s6 hsp => ?_) (fun _ _ z => False.elim z)
            have end_ : ∀ {σ6 : L2.St} {H6 : Hp} {Q : Shared → Prop}, Inv (X.suite a ((a, oe4) :: (X.pn ++ pins))) [] σ6 H6 s6 → (∀ s7, Inv X pins (σ6.set i none) H6 s7 → Q s7) →
                wpAny (model X.prog X.w) X.A (do bindName X.env m .none; unbindBehindTheSuite X.env m pos') (fun _ s7 => Q s7) X.xe s6 := fun {σ6 H6 Q} S6 hq => gone_ok (S6.unsuite ok) hN hi hln hq
            cases f with
            | next =>
              obtain ⟨σ6, H6, S6, q6⟩ := hsp
              exact end_ S6 fun s7 J7 => ⟨_, _, J7, q6⟩
            | brk =>
              obtain ⟨σ6, H6, S6, q6⟩ := hsp
              exact end_ S6 fun s7 J7 => ⟨_, _, J7, q6⟩
            | cont =>
              obtain ⟨σ6, H6, S6, q6⟩ := hsp
              exact end_ S6 fun s7 J7 => ⟨_, _, J7, q6⟩
            | ret u =>
              obtain ⟨v6, σ6, H6, S6, r6, q6⟩ := hsp
              exact end_ S6 fun s7 J7 => ⟨_, _, _, J7, r6, q6⟩
        | false =>
          show wpAny _ X.A (handleBy (.ref a) X.env hds2) _ _ _
          exact ih (hno rfl)
    exact go hh w
  · cases f with
    | next =>
      obtain ⟨σ', H', J', q⟩ := hsp
      exact wpAny_execs_nil ⟨σ', H', J'.ofTry ok, q⟩
    | brk =>
      obtain ⟨σ', H', J', q⟩ := hsp
      exact ⟨σ', H', J'.ofTry ok, q⟩
    | cont =>
      obtain ⟨σ', H', J', q⟩ := hsp
      exact ⟨σ', H', J'.ofTry ok, q⟩
    | ret u =>
      obtain ⟨v, σ', H', J', r, q⟩ := hsp
      exact ⟨v, σ', H', J'.ofTry ok, r, q⟩
end
end Ev

namespace Ev
open PySem PySem.Spec PyProof.Rows L2
abbrev Hdl := (Nat → Option Bool) × (W → Evs)
noncomputable def pickH (hs : List Hdl) (c : Nat) (x : W) (l : Lo) (S : FH) : Res Fl := List.rec (motive := fun _ => Res Fl) (.exc c x l S) (fun h _ ih => Prod.rec (motive := fun _ => Res Fl) (fun t sv => match t c with
  | none => .stuck
  | some b => match b with
    | true => sv x l S
    | false => ih) h) hs
noncomputable def tryK (hs : List Hdl) (m : Res Fl) : Res Fl := Res.rec (motive := fun _ => Res Fl) (fun a S => .ok a S) (fun c x l S => pickH hs c x l S) (fun n _ ih => .pick n ih) .stuck m
noncomputable def esTry (b : Evs) (hs : List Hdl) : Evs := fun l S => tryK hs (b l S)
noncomputable def clrFl (i : Nat) (r : Fl) (S : FH) : Res Fl := match r with
  | .nx l2 => setK l2 i none fun l3 => .ok (.nx l3) S
  | .rt w => .ok (.rt w) S
  | .bk l2 => setK l2 i none fun l3 => .ok (.bk l3) S
  | .ct l2 => setK l2 i none fun l3 => .ok (.ct l3) S
noncomputable def asK (i : Option Nat) (sv : W → Evs) : W → Evs := fun x l S => match i with
  | none => sv x l S
  | some i => match Nat.blt i l.length with
    | true => setK l i none fun l1 => (sv x l1 S).bnd fun r S1 => clrFl i r S1
    | false => .stuck
def lookB (l : List Bool) (c : Nat) : Option Bool := match l with
  | [] => none
  | b :: r => match c with
    | 0 => some b
    | m + 1 => lookB r m
section
variable (G : Glo)
def rdX (i : Option Nat) (a : Addr) (c : Nat) (d : Option Addr) (sv : W → Evs) : TS := fun D σ H => (∀ j, i = some j → σ[j]? = some (some (.ref a))) ∧ ∃ (C : Cf) (l : Lo) (x : W), C.H = H ∧ C.Ok G ∧ RL G C l σ ∧ RX G C c x (.ref (G.cad c)) d ∧ Post G W0 C (sv x l C.S) (PhS G D)
/-- the suite of a clause -/
def SX (X : Cx) (i : Option Nat) (c : Nat) (sv : W → Evs) (st : List Stmt) : Prop := ∀ (a : Addr) (oe : Obj) (d : Option Addr) (pn : List (Addr × Obj)), Zc (.ref (G.cad c)) d oe → (∃ vs, oe.data = .fields vs) → PSs (X.suite a ((a, oe) :: pn)) st (rdX G i a c d sv)
inductive HdsG (X : Cx) : List ExceptHandler → List Hdl → Prop
  | nil : HdsG X [] []
  | cons {x : Str} {cv : Value} {i : Option Nat} {n : Option Str} {t : Nat → Option Bool} {sv : W → Evs} {b₀ : Stmt} {suite : List Stmt} {np pos' : Pos} {hds : List ExceptHandler} {l : List Hdl} (hc : Names X x cv) (hn : NmOk X i n) (ht : ∀ c b, t c = some b → PySem.W.exmOne G.K (.ref (G.cad c)) cv = some b)
      (hsu : ∀ c, t c = some true → SX G X i c sv (b₀ :: suite)) (r : HdsG X hds l) : HdsG X (.ExceptHandler (some (.Name x np)) n (b₀ :: suite) pos' :: hds) ((t, asK i sv) :: l)
end
section
variable {G : Glo} {X : Cx} {W' : WX}
theorem RX.mono {C C' : Cf} (ok : C.Ok G) (x : Ext C C') {c : Nat} {w : W} {cls : Value} {d : Option Addr} (h : RX G C c w cls d) : RX G C' c w cls d := by
  obtain ⟨h1, h2⟩ := h
  refine ⟨h1, ?_⟩
  cases q : G.cfl c with
  | none => rw [q] at h2; exact h2
  | some f =>
    rw [q] at h2
    obtain ⟨dd, v, e1, e2, e3⟩ := h2
    refine ⟨dd, v, e1, x.keep dd _ e2 fun i hv g1 g2 => ?_, e3.mono ok x⟩
    obtain ⟨a, o, k1, k2, k3⟩ := ok.ob i hv g1
    rw [g2] at k1; cases k1
    rw [e2] at k2; cases k2
    exact k3.kind.2.2 _ rfl
theorem RL.hd {C : Cf} {l : Lo} {σ : L2.St} (r : RL G C l σ) (i : Nat) (v : Option V) : RL G C (setL l i none) (σ.set i v) := by
  refine ⟨by rw [setL_eq]; simp [r.len], fun j u e => ?_⟩
  rw [setL_eq] at e
  by_cases q : i = j
  · subst q
    by_cases hi : i < l.length
    · rw [List.getElem?_set_self hi] at e; cases e
    · rw [List.getElem?_eq_none (by simp; omega)] at e; cases e
  · rw [List.getElem?_set_ne q] at e
    rw [List.getElem?_set_ne q]
    exact r.at_ j u e
theorem rdX_as {C : Cf} (ok : C.Ok G) {i : Option Nat} {a : Addr} {c : Nat} {d : Option Addr} {sv : W → Evs} {D : Ends} {σ : L2.St} {l : Lo} {x : W} (r : RL G C l σ) (hx : RX G C c x (.ref (G.cad c)) d) (p : Post G W0 C (asK i sv x l C.S) (PhS G D)) : rdX G i a c d sv (hdEnds i D) (hdSt i a σ) C.H := by
  cases i with
  | none => exact ⟨fun j e => (nomatch e), C, l, x, rfl, ok, r, hx, p⟩
  | some i =>
    unfold asK at p
    simp only at p
    cases q : Nat.blt i l.length with
    | false => rw [q] at p; exact post_stuck p
    | true =>
      rw [q] at p
      simp only [setK_eq] at p
      have hi : i < σ.length := by rw [← r.len]; exact blt_of q
      refine ⟨fun j e => by cases e; exact List.getElem?_set_self hi, C, setL l i none, x, rfl, ok, r.hd i _, hx, Post.mono (fun f C1 ok1 x1 p1 => ?_) (Post.bnd p)⟩
      unfold clrFl at p1
      cases f with
      | nx l2 =>
        simp only [setK_eq] at p1
        exact fun σ2 r2 => (Post.now (W' := W0) ok1 p1) _ (r2.hd i none)
      | rt w => exact fun v rv => (Post.now (W' := W0) ok1 p1) v rv
      | bk l2 =>
        simp only [setK_eq] at p1
        exact fun σ2 r2 => (Post.now (W' := W0) ok1 p1) _ (r2.hd i none)
      | ct l2 =>
        simp only [setK_eq] at p1
        exact fun σ2 r2 => (Post.now (W' := W0) ok1 p1) _ (r2.hd i none)
theorem post_hds {D : Ends} : ∀ {hds : List ExceptHandler} {hs : List Hdl}, HdsG G X hds hs → ∃ lst, HdsOkA X hds lst ∧ ∀ (C : Cf) (c : Nat) (x : W) (l : Lo) (S : FH), Post G W' C (pickH (hs.map fun h => (h.1, fun x l S => noX (h.2 x l S))) c x l S) (PhS G D) →
      ∀ (C' : Cf) (cls : Value) (d : Option Addr) (σ' : L2.St), C'.S = S → C'.Ok G → Ext C C' → RX G C' c x cls d → RL G C' l σ' → wHds G.K W' D lst cls d σ' C'.H
  | _, _, .nil => ⟨[], .nil, fun C c x l S h => by
    have h' : Post G W' C (.exc c x l S : Res Fl) (PhS G D) := h
    unfold Post at h'
    exact h'⟩
  | _, _, @HdsG.cons _ _ x cv i n t sv b₀ suite np pos' hds l hc hn ht hsu r => by
    obtain ⟨lst, h1, h2⟩ := post_hds (D := D) r
    refine ⟨(cv, i, fun a cls d D σ H => ∃ c, cls = .ref (G.cad c) ∧ t c = some true ∧ rdX G i a c d sv D σ H) :: lst, .cons hc hn (fun a oe cls d pn hz hf => ⟨fun pins s σ H D I ⟨c, e, ht', q⟩ => ?_⟩) h1, fun C c x l S h C' cls d σ' eS ok' xx hx hl => ?_⟩
    · subst e
      exact (hsu c ht' a oe d pn hz hf).run pins s σ H D I q
    · have h' : Post G W' C (match t c with
        | none => .stuck
        | some b => match b with
          | true => noX (asK i sv x l S)
          | false => pickH (_ : List Hdl) c x l S) (PhS G D) := h
      cases q : t c with
      | none => rw [q] at h'; exact post_stuck h'
      | some b =>
        rw [q] at h'
        have ecls : cls = .ref (G.cad c) := hx.1
        cases b with
        | true =>
          refine ⟨true, by rw [ecls]; exact ht c true q, fun _ a ha => ⟨c, ecls, q, ?_⟩, fun z => (nomatch z)⟩
          refine rdX_as ok' hl (by rw [← ecls]; exact hx) ?_
          have h3 := Post.unX (Post.base xx h')
          rw [eS]; exact h3
        | false =>
          refine ⟨false, by rw [ecls]; exact ht c false q, fun z => (nomatch z), fun _ => h2 C c x l S h' C' cls d σ' eS ok' xx hx hl⟩
noncomputable def quiet (hs : List Hdl) : List Hdl := List.rec (motive := fun _ => List Hdl) [] (fun h _ ih => Prod.rec (motive := fun _ => List Hdl) (fun t sv => (t, fun x l S => noX (sv x l S)) :: ih) h) hs
theorem quiet_eq : ∀ hs : List Hdl, quiet hs = hs.map fun h => (h.1, fun x l S => noX (h.2 x l S))
  | [] => rfl
  | (t, sv) :: hs => by
    rw [List.map_cons, ← quiet_eq hs]; rfl
theorem post_try {D : Ends} {hs : List Hdl} {lst : List (Value × Option Nat × (Addr → Value → Option Addr → TS))}
    (k : ∀ (C : Cf) (c : Nat) (x : W) (l : Lo) (S : FH), Post G W' C (pickH hs c x l S) (PhS G D) → ∀ (C' : Cf) (cls : Value) (d : Option Addr) (σ' : L2.St), C'.S = S → C'.Ok G → Ext C C' → RX G C' c x cls d → RL G C' l σ' → wHds G.K W' D lst cls d σ' C'.H) {C : Cf} :
    ∀ {m : Res Fl}, Post G W' C (tryK hs m) (PhS G D) → Post G (wHds G.K W' D lst) C m (PhS G D)
  | .ok a S, h => by
    have h' : Post G W' C (.ok a S) (PhS G D) := h
    unfold Post at h' ⊢
    exact h'
  | .exc c x l S, h => by
    unfold Post
    exact k C c x l S h
  | .pick n f, h => by
    have h' : Post G W' C (.pick n fun r => tryK hs (f r)) (PhS G D) := h
    unfold Post at h' ⊢
    exact fun r hr => post_try k (h' r hr)
  | .stuck, h => post_stuck h
theorem ss_try {b : Evs} {hs : List Hdl} {body : List Stmt} {h₀ : ExceptHandler} {hds : List ExceptHandler} {pos : Pos} (hx : Okx G X) (hd : Dfx X) (hN : X.N.Nodup) (tk : Takes X W')
    (hb : ∀ (W1 : WX) (pn : List (Addr × Obj)) (xe : Value → Shared → Prop), Takes (X.tr pn xe) W1 → PassesOwn (model X.prog X.w) X.A X.env xe → SSs G (X.tr pn xe) W1 b body)
    (hh : HdsG G X (h₀ :: hds) hs) : SS G X W' (esTry b (quiet hs)) (.Try body (h₀ :: hds) [] [] pos) := by
  refine ⟨fun pins s σ H D I ⟨C, l, e, ok, r, p⟩ => ?_⟩
  subst e
  obtain ⟨lst, h1, h2⟩ := post_hds (W' := W') (D := D) hh
  refine (ps_try_hds (pos := pos) hd.stk hd.frm hN tk (tb := fun W1 => rdS G W1 b) hb h1).run pins s σ C.H D I ⟨C, l, rfl, ok, r, ?_⟩
  rw [hx.k]
  unfold esTry at p
  rw [quiet_eq] at p
  exact post_try h2 p
/-! ### suites -/
def SXE (G : Glo) (X : Cx) (i : Option Nat) (c : Nat) (f : W → Evl) (e : Expr) : Prop := ∀ (a : Addr) (oe : Obj) (d : Option Addr) (pn : List (Addr × Obj)), Zc (.ref (G.cad c)) d oe → (∃ vs, oe.data = .fields vs) → PE (X.suite a ((a, oe) :: pn)) e
  (fun σ H Q => (∀ j, i = some j → σ[j]? = some (some (.ref a))) ∧ ∃ (C : Cf) (l : Lo) (x : W), C.H = H ∧ C.Ok G ∧ RL G C l σ ∧ RX G C c x (.ref (G.cad c)) d ∧ Post G W0 C (f x l C.S) (PhE G Q))
variable {pos : Pos}
theorem sxe_of {i : Option Nat} {c : Nat} {f : Evl} {e : Expr} (h : ∀ (a : Addr) (pn : List (Addr × Obj)), SE G (X.suite a pn) W0 f e) : SXE G X i c (fun _ => f) e := fun a oe d pn _ _ => pe_imp (h a ((a, oe) :: pn)) fun σ H Q ⟨_, C, l, x, e, ok, r, _, p⟩ => ⟨C, l, e, ok, r, p⟩
theorem sx_ret {i : Option Nat} {c : Nat} {f : W → Evl} {e : Expr} (he : SXE G X i c f e) : SX G X i c (fun x => esRet (f x)) [.Return (some e) pos] := fun a oe d pn hz hff => by
  refine ⟨fun pins s σ H D I ⟨h0, C, l, x, e, ok, r, rx, q⟩ => ?_⟩
  subst e
  refine (pss_one (ps_ret (pos := pos) (he a oe d pn hz hff))).run pins s σ C.H D I ?_
  exact ⟨h0, C, l, x, rfl, ok, r, rx, Post.mono (fun w C1 ok1 x1 p1 v rv => (Post.now (W' := W0) ok1 p1) v rv) (Post.bnd q)⟩
end
end Ev

namespace Ev
open PySem PySem.Spec PyProof.Rows L2
/-! comb, by naturals -/
section
variable {G : Glo} {X : Cx} {W' : WX} {pos : Pos}
/-! comb -/
/-! texts -/
theorem se_str {m m' : Str} {j : Nat} (h : m = m') : SE G X W' (evK (.str m')) (.Constant (.str m) j pos) := by
  subst h
  exact se_k pe_str
/-! short names -/
theorem sv (i : Nat) {x : Str} (hN : X.N[i]? = some x := by rfl) (hv : Vis X.env.scope x := by first | exact Or.inl rfl | exact Or.inr (Or.inl rfl) | exact Or.inr (Or.inr rfl)) (hd : (x == ("__debug__" : Str)) = false := by decide)
    (hcd : (x == ("__classdict__" : Str)) = false := by decide) : SE G X W' (evVar i) (.Name x pos) := se_var (pe_var hN hv hd hcd)
theorem si {i : Int} {j : Nat} : SE G X W' (evK (.int i)) (.Constant (.int i) j pos) := se_k pe_int
theorem Okx.blk (h : Okx G X) {s : Shared} {H : Hp} {sc : Scope} {e : Env} {fp : List Addr} {xe : Value → Shared → Prop} : Okx G (blkX X s H sc e fp xe) := ⟨h.k, h.calm, h.un, h.pr, h.wo⟩
theorem Okx.blk0 (h : Okx G X) {s : Shared} {H : Hp} {sc : Scope} {e : Env} {fp : List Addr} : Okx G (X.blk s H sc e fp) := ⟨h.k, h.calm, h.un, h.pr, h.wo⟩
theorem Okx.tr (h : Okx G X) {pn : List (Addr × Obj)} {xe : Value → Shared → Prop} : Okx G (X.tr pn xe) := ⟨h.k, h.calm, h.un, h.pr, h.wo⟩
theorem Dfx.tr (h : Dfx X) {pn : List (Addr × Obj)} {xe : Value → Shared → Prop} : Dfx (X.tr pn xe) := ⟨h.stk, h.frm⟩
theorem ss_stuck {st : List Stmt} : SSs G X W' (fun _ _ => .stuck) st := ⟨fun pins s σ H D I ⟨C, l, e, ok, r, p⟩ => post_stuck p⟩
end
section
variable {P : Program} {w : World} {G : Glo} {mg : Str → Option Value} {base : Heap} {x : Str} {st : Stmt} {f : Addr} {fd : FuncData} {ps : List Str} {n k : Nat} {F : Fn}
/-- a def that stands in the module -/
def Fd (K : PySem.W.Frag) (mg : Str → Option Value) (st : Stmt) (x : Str) (ps : List Str) : Prop := ∃ (f : Addr) (fd : FuncData), Fun K x x st f fd ∧ mg x = some (.ref f) ∧ Binds K fd ps []
theorem def_mk (Fu : Fun G.K x x st f fd) (ok : FnOk P w G.K mg base (L2.CX P w) k f fd ps (spF G F ps.length)) (hl : ps.length = n) (m : mg x = some (.ref f)) (b : Binds G.K fd ps []) : Def G P w mg base k x ps n F := by
  subst hl
  obtain ⟨oc, od, kV, doc, pm, an, cdv, ct, osl, e, lk, hcd⟩ := Fu.ex
  exact ⟨f, fd, ok, rfl, m, Fu.kp, b, oc, od, osl, by rw [lk, e]⟩
end
theorem un_of {k : Nat} {A : Around} (hr : Room k A) : A.units + 65 < cLine := by have := hr.un; omega
end Ev

namespace Ev
open PySem PySem.Spec PyProof.Rows L2
section
variable {G : Glo} {X : Cx} {W' : WX} {pos : Pos}
/-! o[i], q[j] = a pair -/
end
end Ev

namespace Ev
open PySem PySem.Spec PyProof.Rows L2 PySem.W
section
variable {G : Glo} {X : Cx} {W' : WX} {pos : Pos}
/-! min of one tuple or list of ints -/
end
end Ev

namespace Ev
open PySem PySem.Spec PyProof.Rows L2
section
variable {G : Glo} {X : Cx}
/-! is True, is False -/
end
end Ev

namespace Ev
open PySem PySem.Spec PyProof.Rows L2
/-! a call that is reckoned once, in a theorem of its own -/
mutual
def beqW : W → W → Bool
  | .k (.int a), .k (.int b) => iEq a b
  | .tup xs, .tup ys => beqWs xs ys
  | _, _ => false
def beqWs : List W → List W → Bool
  | [], [] => true
  | x :: xs, y :: ys => match beqW x y with
    | true => beqWs xs ys
    | false => false
  | _, _ => false
end
mutual
theorem beqW_eq : ∀ a b : W, beqW a b = true → a = b
  | .k (.int a), .k (.int b), h => by
    unfold beqW at h
    rw [iEq_eq] at h
    rw [of_decide_eq_true h]
  | .tup xs, .tup ys, h => by
    unfold beqW at h
    rw [beqWs_eq xs ys h]
  | .obj _, _, h => by unfold beqW at h; cases h
  | .mix _, _, h => by unfold beqW at h; cases h
  | .k v, .mix _, h => by cases v <;> (unfold beqW at h; cases h)
  | .tup _, .mix _, h => by unfold beqW at h; cases h
  | .k v, .obj _, h => by cases v <;> (unfold beqW at h; cases h)
  | .tup _, .obj _, h => by unfold beqW at h; cases h
  | .k v, .tup _, h => by cases v <;> (unfold beqW at h; cases h)
  | .tup _, .k _, h => by unfold beqW at h; cases h
  | .k u, .k v, h => by cases u <;> cases v <;> first | (unfold beqW at h; rw [iEq_eq] at h; rw [of_decide_eq_true h]) | (unfold beqW at h; cases h)
theorem beqWs_eq : ∀ a b : List W, beqWs a b = true → a = b
  | [], [], _ => rfl
  | x :: xs, y :: ys, h => by
    unfold beqWs at h
    cases q : beqW x y with
    | false => rw [q] at h; cases h
    | true =>
      rw [q] at h
      rw [beqW_eq x y q, beqWs_eq xs ys h]
  | [], _ :: _, h => by unfold beqWs at h; cases h
  | _ :: _, [], h => by unfold beqWs at h; cases h
end
end Ev

namespace Ev
open PySem PySem.Spec PyProof.Rows L2
/-! ## dicts whose keys are tuples, by their objects -/
section
variable {X : Cx} {pins : List (Addr × Obj)} {σ : L2.St} {H : Hp} {s : Shared}
mutual
theorem nested_of (I : Inv X pins σ H s) {ρ : List Addr} : ∀ (w : W) {v : V} {u : Value} {k : NestedKey}, nkey w = some k → RW X.K ρ H w v → RelV v u → NestedIs s.heap k u
  | .k (.int i), v, u, k, e, r, q => by
    unfold nkey at e
    cases e
    rw [rw_k r] at q
    obtain ⟨t, rfl⟩ := (show ∃ t, u = Value.int i t from q)
    exact .int i t
  | .k (.str x), v, u, k, e, r, q => by
    unfold nkey at e
    cases e
    rw [rw_k r] at q
    obtain ⟨t, rfl⟩ := (show ∃ t, u = Value.str x t from q)
    exact .text x t
  | .k .non, v, u, k, e, r, q => by unfold nkey at e; cases e
  | .k (.bl b), v, u, k, e, r, q => by unfold nkey at e; cases e
  | .k (.byt b), v, u, k, e, r, q => by unfold nkey at e; cases e
  | .k (.flt b), v, u, k, e, r, q => by unfold nkey at e; cases e
  | .k (.ref b), v, u, k, e, r, q => by unfold nkey at e; cases e
  | .k (.ty b), v, u, k, e, r, q => by unfold nkey at e; cases e
  | .obj i, v, u, k, e, r, q => by unfold nkey at e; cases e
  | .mix i, v, u, k, e, r, q => by unfold nkey at e; cases e
  | .tup xs, v, u, k, e, r, q => by
    unfold nkey at e
    cases h : nkeys xs with
    | none => rw [h] at e; cases e
    | some ks =>
      rw [h] at e
      cases e
      unfold RW at r
      obtain ⟨a, vs, rfl, h1, h2⟩ := r
      cases (show u = Value.ref a from q)
      obtain ⟨its, rv, p, hz⟩ := I.tuple h1
      obtain ⟨o, p1, p2, n, p3⟩ := p
      exact .tup p1 p2 p3 (by simpa using nesteds_of I xs h h2 rv)
theorem nesteds_of (I : Inv X pins σ H s) {ρ : List Addr} : ∀ (ws : List W) {vs : List V} {us : List Value} {ks : List NestedKey}, nkeys ws = some ks → RWs X.K ρ H ws vs → Vals vs us → NestedAll s.heap ks us
  | [], vs, us, ks, e, r, q => by
    unfold nkeys at e
    cases e
    unfold RWs at r
    subst r
    cases q
    exact .nil
  | w :: ws, vs, us, ks, e, r, q => by
    unfold nkeys at e
    cases h : nkey w with
    | none => rw [h] at e; cases e
    | some k =>
      rw [h] at e
      cases h2 : nkeys ws with
      | none => simp only [h2] at e; cases e
      | some ks' =>
        simp only [h2] at e
        cases e
        unfold RWs at r
        obtain ⟨v, r', rfl, h3, h4⟩ := r
        cases q with
        | cons q1 q2 => exact .cons (nested_of I w h h3 q1) (nesteds_of I ws h2 h4 q2)
end
/-- b is the address of a tuple that is the key k -/
def NKey (K : PySem.W.Frag) (H : Hp) (b : Addr) (k : NestedKey) : Prop := ∃ (ρ : List Addr) (kw : W), RW K ρ H kw (.ref b) ∧ nkey kw = some k ∧ k.depth ≤ 8
theorem NKey.is (I : Inv X pins σ H s) {b : Addr} {k : NestedKey} (h : NKey X.K H b k) : (nestedKind X.prog X.w).is s.heap k b := by
  obtain ⟨ρ, kw, h1, h2, h3⟩ := h
  exact ⟨nested_of I kw h2 h1 rfl, h3⟩
abbrev KeysOk (K : PySem.W.Frag) (H : Hp) (xs : List (NestedKey × Addr × V)) : Prop := ∀ x ∈ xs, NKey K H x.2.1 x.1
theorem KVs.keys {K : PySem.W.Frag} {ρ : List Addr} {H : Hp} : ∀ {kvs : List (W × W)} {ys : List (NestedKey × Addr × V)}, KVs K ρ H kvs ys → KeysOk K H ys
  | [], ys, h => by cases (show ys = [] from h); intro x hx; cases hx
  | p :: r, ys, h => by
    obtain ⟨k, b, v, ys', rfl, h1, h2, h3, h4⟩ := h
    intro x hx
    rcases List.mem_cons.mp hx with rfl | hx
    · exact ⟨ρ, p.1, h2, h1.1, h1.2⟩
    · exact KVs.keys h4 x hx
end
section
variable {X : Cx} {pins : List (Addr × Obj)} {σ : L2.St} {H : Hp} {s : Shared} {a : Addr} {y v d : V} {u r : Value} {o : Option V} {A : Around} {E : Value → Shared → Prop}
end
end Ev

namespace Ev
open PySem PySem.Spec PyProof.Rows L2
/-! ## dicts in the reckoner -/
section
variable {G : Glo} {X : Cx} {W' : WX} {pos : Pos}
theorem KVs.length {K : PySem.W.Frag} {ρ : List Addr} {H : Hp} : ∀ {kvs : List (W × W)} {xs : List (NestedKey × Addr × V)}, KVs K ρ H kvs xs → xs.length = kvs.length
  | [], xs, h => by cases (show xs = [] from h); rfl
  | p :: r, xs, h => by
    obtain ⟨k, b, v, ys', rfl, _, _, _, h4⟩ := h
    simp [KVs.length h4]
/-! ### d[k] -/
/-! ### k in d -/
end
end Ev

namespace Ev
open PySem PySem.Spec PyProof.Rows L2
/-! ## dicts: {}, {k: v, ..}, d[k] = v, d.get, d.update -/
/-! ### entries put in one by one -/
section
variable {X : Cx} {pos : Pos}
/-! ### {} -/
/-! ### {k: v, ..} -/
/-! ### o[i] = v -/
theorem PSet.or {t t' : V → V → V → Hp → (Hp → Prop) → Prop} (h : PSet X t) (h' : PSet X t') : PSet X (fun o i v H Q => t o i v H Q ∨ t' o i v H Q) := by
  intro pins s σ H o i v ov iv u Q I ro ri rv q
  rcases q with q | q
  · exact h pins s σ H o i v ov iv u Q I ro ri rv q
  · exact h' pins s σ H o i v ov iv u Q I ro ri rv q
/-! ### methods of a dict -/
variable {o e : Expr} {es : List Expr} {to : TE} {t : TA} {name : Str} {apos cpos : Pos} {id : String} {r : V → List V → Hp → VK → Prop}
end
end Ev

namespace Ev
open PySem PySem.Spec PyProof.Rows L2
section
variable {G : Glo} {X : Cx} {W' : WX} {pos : Pos}
/-! ### {} -/
/-! ### {k: v, ..} -/
abbrev Evp := Lo → FH → Res (List (W × W))
def RPs (K : PySem.W.Frag) (ρ : List Addr) (H : Hp) : List (W × W) → List (V × V) → Prop
  | [], vs => vs = []
  | p :: r, vs => ∃ k v vs', vs = (k, v) :: vs' ∧ RW K ρ H p.1 k ∧ RW K ρ H p.2 v ∧ RPs K ρ H r vs'
def PhP (G : Glo) (Q : List (V × V) → Hp → Prop) : List (W × W) → Cf → Prop := fun ps C' => ∀ vs, RPs G.K C'.ρ C'.H ps vs → Q vs C'.H
def rdP (G : Glo) (W' : WX) (f : Evp) (σ : L2.St) (H : Hp) (Q : List (V × V) → Hp → Prop) : Prop := ∃ (C : Cf) (l : Lo), C.H = H ∧ C.Ok G ∧ RL G C l σ ∧ Post G W' C (f l C.S) (PhP G Q)
def SP (G : Glo) (X : Cx) (W' : WX) (f : Evp) (pos : Pos) (keys : List (Option Expr)) (values : List Expr) : Prop := ∃ trs, PPs X pos keys values trs ∧ ∀ σ H Q, rdP G W' f σ H Q → tPairs trs σ H Q
/-! ### o[i] = v -/
/-! ### methods of a dict -/
end
end Ev

namespace Ev
open PySem PySem.Spec PyProof.Rows L2
/-! ## for k in d, for k, v in d.items(): the dict is never written again -/
section
variable {X : Cx} {pins : List (Addr × Obj)} {σ : L2.St} {H : Hp} {s : Shared} {d : Addr} {o : Obj}
end
section
variable {P : Program} {w : World} {K : PySem.W.Frag} {tg : Expr} {d : Addr} {o : Obj} {es : Array DictEntry} {ep : Nat}
end
section
variable {X : Cx} {tg e : Expr} {td : TE} {apos cpos : Pos}
end
/-! ### in the reckoner -/
section
variable {G : Glo} {X : Cx} {W' : WX} {pos : Pos}
end
end Ev

namespace Ev
open PySem PySem.Spec PyProof.Rows L2
/-! ## {k: v for target in iter if ..}, the keys tuples -/
section
variable {X : Cx}
end
/-! ### in the reckoner -/
section
variable {G : Glo} {X : Cx} {W' : WX} {pos : Pos}
end
end Ev

namespace Ev
open PySem PySem.Spec PyProof.Rows L2
open PySem.W (alike alikeAll dataLt AllAlike Sortable EachIs TotalLe sameRank dataLe)
/-! ## sorting -/
section
variable {β : Type} {le : β → β → Bool}
end
/-! the order of data, quickly -/
end Ev

namespace Ev
open PySem PySem.Spec PyProof.Rows L2
open PySem.W (alike alikeAll dataLt AllAlike Sortable EachIs TotalLe sameRank dataLe)
/-! ## sorted(..) -/
section
variable {X : Cx} {pins : List (Addr × Obj)} {σ : L2.St} {H : Hp} {s : Shared} {E : Value → Shared → Prop}
end
end Ev

namespace Ev
open PySem PySem.Spec PyProof.Rows L2
open PySem.W (alike alikeAll dataLt AllAlike Sortable EachIs TotalLe sameRank dataLe)
/-! ## sorted(..), in the reckoner -/
section
variable {G : Glo} {X : Cx} {W' : WX} {pos : Pos}
end
end Ev

namespace Ev
open PySem PySem.Spec PyProof.Rows L2
open PySem.W (alike alikeAll dataLt AllAlike Sortable EachIs TotalLe sameRank dataLe)
/-! ## sorted(d.items()) -/
section
variable {X : Cx}
end
/-! ### in the reckoner -/
section
variable {G : Glo} {X : Cx} {W' : WX} {pos : Pos}
end
end Ev

namespace Ev
open PySem PySem.Spec PyProof.Rows L2
/-! ## [e for x in a for y in b] -/
section
variable {G : Glo} {X : Cx} {W' : WX} {pos : Pos}
end
end Ev

namespace Ev
open PySem PySem.Spec PyProof.Rows L2
open PySem.W (alike alikeAll dataLt)
/-! ## sum, max of one, < of tuples -/
section
variable {G : Glo} {X : Cx} {W' : WX} {pos : Pos}
/-! max of one list or tuple of ints -/
/-! < -/
end
end Ev

/-! an own error's class with __init__(self, f): self.f = f -/
namespace PySem
namespace OwnX
open PySem.W PySem.Calls PyProof.Rows PySem.HandSPX
def iA (p1 p2 : Pos) (f : Str) : Arguments := { posonlyargs := [], args := [{ arg := "self", annotation := none, pos := p1 }, { arg := f, annotation := none, pos := p2 }], vararg := none, kwonlyargs := [], kw_defaults := [], kwarg := none, defaults := [] }
def iB (q1 q2 q3 q4 : Pos) (f : Str) : List Stmt := [.Assign [.Attribute (.Name "self" q1) f q2] (.Name f q3) q4]
def iS (f : Str) : Scope := { kind := .function, names := [(PySem.Str.ofString "self", .local), (f, .local)], isGenerator := false, isCoroutine := false, more := [] }
/-- what the written part says of the class at C and of its __init__, at fI -/
structure OwnTxt (K : Frag) (C fI : Addr) (qn f : Str) (B newId initId : String) (bmB : List Value) : Prop where
  nm : f = "place" ∨ f = "line"
  fb : ExcBaseFacts B newId initId bmB
  sf : StoreFacts B bmB "object.__setattr__" "object"
  cls : ∃ nm q N bs bm sn sub ab col dd k0 k1 k2 k3 k5, K.lookup C = some (excClassObj nm q C N bs bm true sn sub ab col dd k0 k1 k2 k3 k5 newId) ∧ PySem.W.excTail bmB bm = true
  sa : findIn K (.ref C) "__setattr__" = some (some (.builtin "object.__setattr__"))
  ga : findIn K (.ref C) "__getattribute__" = some (some (.builtin "BaseException.__getattribute__"))
  gg : findIn K (.ref C) "__getattr__" = some none
  noN : findIn K (.ref C) f = some none
  iC : findIn K (.ref C) "__init__" = some (some (.ref fI))
  tC : typeIn K (.ref fI) = some (.type "function")
  exC : subIn K (.ref C) (.type "BaseException") = some true
  tyC : typeIn K (.ref C) = some (.type "type")
  hdC : hasDictIn K C = true
  fn : ∃ (oc : Value) (od : Option Addr) (doc pm : Value) (an : Option Addr) (cdv ct : Value) (osl : Array (Option Value)) (p1 p2 q1 q2 q3 q4 : Pos),
    K.lookup fI = some ⟨oc, od, .func (fnOf "__init__" qn (iA p1 p2 f) (iB q1 q2 q3 q4 f) (iS f) .none .none doc pm an cdv ct), osl⟩ ∧ codeIn K cdv qn = true
theorem one_size (v : Value) : [v].length ≤ sizeLine := by
  rw [sizeLine_eq]
  exact (by decide : 1 ≤ 16777216)
theorem ldC {M : Model} {s : Shared} {name : Str} {scope : Scope} {L a : Addr} {cd : Value} {m : Str → Option Value} {x : Str} {pos : Pos} {v : Value} {Q : Value → Shared → Prop} {A : Around} {E : Value → Shared → Prop} (hn : s.heap.Ns L m) (hv : m x = some v) (h : Q v s)
    (hk : scope.kind = .function := by rfl) (hl : (envOfC name scope L a cd).kindOf x = some .local := by rfl) (hd : (x == ("__debug__" : Str)) = false := by decide) :
    wpAny M A (eval (.Name x pos) (envOfC name scope L a cd)) Q E s := wpAny_Name (wpAny_loadName_local hk hl hn hv h) hd
structure InitEnd (h h' : Heap) (x C dx t1 : Addr) (f : Str) (v : Value) : Prop where
  keep : ∀ b o, b ≠ x → h.get? b = some o → h'.get? b = some o
  obj : h'.get? x = some { cls := .ref C, dict := some dx, data := .fields #[.ref t1, .none, .none, .none, .bool false, .none] }
  dbig : h.objs.size ≤ dx
  dne : dx ≠ x
  ns : h'.Ns1 dx (fun y => if y = f then some v else none)
structure OwnMade (h h' : Heap) (e C d : Addr) (f : Str) (v : Value) : Prop where
  keep : ∀ b o, h.get? b = some o → h'.get? b = some o
  new : h.objs.size ≤ e
  obj : ∃ oe vs, h'.get? e = some oe ∧ oe.cls = .ref C ∧ oe.dict = some d ∧ oe.data = .fields vs ∧ vs[1]? = some .none
  dbig : h.objs.size ≤ d
  dne : d ≠ e
  ns : h'.Ns1 d (fun y => if y = f then some v else none)
section
variable {prog : Program} {w : World} {A : Around} {E : Value → Shared → Prop} {R : Result → Shared → Prop} {hp : Heap} {g : Array GenState} {d : Drawn} {t : Nat} {os : OsState} {K : Frag} {B : String} {bmB : List Value}
/-- the first store on an exception: its dict is made -/
theorem exc_osaX {name : Str} {tk : Tok} {v : Value} {x C t1 : Addr} (SF : StoreFacts B bmB "object.__setattr__" "object") (ov : PySem.W.excOver K C bmB = true) (hh : hasDictIn K C = true) (ha : findIn K (.ref C) name = some none)
    (X : K.In hp) (hx : hp.get? x = some (PySem.W.excObj C t1 none .none))
    (hq : ∀ h' tk' dx, (∀ b o, b ≠ x → hp.get? b = some o → h'.get? b = some o) → hp.objs.size ≤ dx → dx ≠ x → h'.get? x = some (PySem.W.excObj C t1 (some dx) .none) →
      h'.Ns1 dx (fun y => if y = name then some v else none) → R (.ok (.ret .none)) ⟨h', g, d, tk', os⟩) :
    codeAny (model prog w) A (.call (.builtin "object.__setattr__") ⟨[.ref x, .str name tk, v], []⟩) R ⟨hp, g, d, t, os⟩ := by
  have tkI : PySem.W.takerIn K C name = some none := by unfold PySem.W.takerIn; rw [ha]; rfl
  have hxs : x ≠ hp.objs.size := Nat.ne_of_lt (Heap.lt_size hx)
  refine PySem.W.osa_openX (od := none) (s := ⟨hp, g, d, t, os⟩) SF X ⟨hx, rfl, rfl, trivial⟩ ov tkI fun b => ?_
  obtain ⟨cd, hc, hd'⟩ := PySem.W.any_some hh
  refine wpAny_bind (wpAny_pure (wpAny_bind (PySem.W.instanceDict_exc (s := ⟨hp, g, d, t, os⟩) hx (PySem.W.looks_clsIn X hc) hd' ?_)))
  show wpAny _ _ (Builtin.ObjectAttr.storeInDict hp.objs.size (.str name tk) name v) _ _ _
  refine store_in_new (dx := hp.objs.size) ⟨_, #[], _, (Heap.get?_update_ne _ _ _ _ hxs.symm).trans (Heap.get?_push_at rfl rfl), rfl, fun e he => absurd he (by simp), fun _ => rfl⟩ fun h' tk' hn' hs => ?_
  have hx₁ : (hp.push (PySem.W.dictOf [] 0)).get? x = some (PySem.W.excObj C t1 none .none) := Heap.get?_push_of_some _ hx
  refine hq h' tk' hp.objs.size (fun b o hb ho => ?_) (Nat.le_refl _) hxs.symm ?_ hn'
  · exact (hs.2 b (Nat.ne_of_lt (Heap.lt_size ho))).trans ((Heap.get?_update_ne _ _ _ _ hb).trans (Heap.get?_push_of_some _ ho))
  · exact (hs.2 x hxs).trans (Heap.get?_update_self _ hx₁ rfl)
end
section
variable {prog : Program} {w : World} {A : Around} {E : Value → Shared → Prop} {R : Result → Shared → Prop} {s : Shared} {K : Frag} {C fI : Addr} {qn f : Str} {B newId initId : String} {bmB : List Value}
theorem OwnTxt.over (T : OwnTxt K C fI qn f B newId initId bmB) : PySem.W.excOver K C bmB = true := by
  obtain ⟨nm, q, N, bs, bm, sn, sub, ab, col, dd, k0, k1, k2, k3, k5, hC, hbm⟩ := T.cls
  have hcl : clsIn K C = some { name := nm, bases := bs, mro := .ref C :: bm, ns := N, qualname := q, hasDict := true, slotNames := sn, subclasses := sub, abstract := ab, collection := col, hasDel := false } := by unfold clsIn; rw [hC] <;> rfl
  unfold PySem.W.excOver
  rw [hcl]
  show (C == C && PySem.W.excTail bmB bm) = true
  rw [hbm]; simp
theorem own_init (T : OwnTxt K C fI qn f B newId initId bmB) {x t0 : Addr} {v : Value} (X : K.In s.heap) (hlim : s.heap.NoLimit) (hx : s.heap.get? x = some (excO C t0)) (hroom : A.depth < recursionLimit)
    (hq : ∀ h' tk dx, InitEnd s.heap h' x C dx t0 f v → R (.ok (.ret .none)) { s with heap := h', toks := tk }) :
    codeAny (model prog w) A (.call (.ref fI) ⟨[.ref x, v], []⟩) R s := by
  obtain ⟨oc, od, doc, pm, an, cdv, ct, osl, p1, p2, q1, q2, q3, q4, ho, hcd⟩ := T.fn
  have ov := T.over
  have noN := T.noN
  rcases T.nm with rfl | rfl
  all_goals
    refine Att.call_fn (binds := [("self", .ref x), (_, v)]) X hlim ho hcd hroom (BindsTo.of_eq (by first | rfl | with_unfolding_all rfl)) (by first | rfl | decide | with_unfolding_all rfl) (fun s₁ IC => ?_) rfl rfl rfl
    obtain ⟨h₁, tk₁, rfl⟩ := IC.toInCall.same
    have k : ∀ b o, s.heap.get? b = some o → h₁.get? b = some o := IC.toInCall.keep
    have hn := IC.toInCall.ns
    have hxL : s.heap.objs.size ≠ x := Nat.ne_of_gt (Heap.lt_size hx)
    have X₁ : K.In h₁ := X.keeps k
    have hx₁ := k _ _ hx
    show wpAny _ _ (execs _ _) _ _ _
    refine wpAny_execs_cons (plainObj_wpAny_Assign_Attribute ?_)
    refine ldC (v := v) hn (by first | rfl | with_unfolding_all rfl | kernel_rfl) (ldC (v := .ref x) hn (by first | rfl | with_unfolding_all rfl | kernel_rfl) ?_)
    refine set_plain X₁ (ox := excO C t0) (od := none) ⟨hx₁, rfl, rfl, trivial⟩ T.sa ?_
    refine exc_osaX T.sf ov T.hdC noN X₁ hx₁ (fun h₃ tk₃ dx k₃ dn dne hx₃ hn₃ => ?_)
    show wpAny _ _ (execs _ _) _ _ _
    have z : s.heap.objs.size < h₁.objs.size := hn.lt
    exact wpAny_execs_nil (hq h₃ tk₃ dx ⟨fun b o hb e => k₃ b o hb (k b o e), hx₃, Nat.le_of_lt (Nat.lt_of_lt_of_le z dn), dne, hn₃⟩)
theorem own_made (T : OwnTxt K C fI qn f B newId initId bmB) {v : Value} (X : K.In s.heap) (hlim : s.heap.NoLimit) (hroom : A.depth + 1 < recursionLimit)
    (hq : ∀ h' tk e d, OwnMade s.heap h' e C d f v → R (.ok (.ret (.ref e))) { s with heap := h', toks := tk }) :
    codeAny (model prog w) A (.call (.ref C) ⟨[v], []⟩) R s := by
  obtain ⟨nm, q, N, bs, bm, sn, sub, ab, col, dd, k0, k1, k2, k3, k5, hC, hbm⟩ := T.cls
  obtain ⟨hp, g, dr, tk, os⟩ := s
  have k : ∀ b o, hp.get? b = some o → ((hp.push (kdv_tup [v])).push (excO C hp.objs.size)).get? b = some o := fun b o e => Heap.get?_push_of_some _ (Heap.get?_push_of_some _ e)
  have hget : ((hp.push (kdv_tup [v])).push (excO C hp.objs.size)).get? (hp.objs.size + 1) = some (excO C hp.objs.size) := by heap_get
  refine call_own T.fb (fun X => PySem.W.excTail_contains X bm hbm) (X _ _ hC) (looks_findIn X T.iC) (fun self => bind_fn X self T.tC) (one_size v) ?_
  refine own_init (s := ⟨(hp.push (kdv_tup [v])).push (excO C hp.objs.size), g, dr, tk, os⟩) T (X.keeps k) (hlim.keeps k) hget ?_ fun h' tk' dx ⟨k', hx, dn, dne, hns⟩ => ?_
  · show A.depth + 1 < recursionLimit
    exact hroom
  · have old : ∀ b o, hp.get? b = some o → h'.get? b = some o := fun b o e => k' b o (Nat.ne_of_lt (Nat.lt_succ_of_lt (Heap.lt_size e))) (k b o e)
    have z : hp.objs.size + 1 + 1 ≤ dx := by
      first
        | (simpa only [Heap.size_push] using dn)
        | exact dn
        | (have q := dn; rw [Heap.size_push, Heap.size_push] at q; exact q)
    exact ⟨rfl, hq h' tk' (hp.objs.size + 1) dx ⟨old, Nat.le_succ _, ⟨_, _, hx, rfl, rfl, rfl, rfl⟩, Nat.le_trans (Nat.le_trans (Nat.le_succ _) (Nat.le_succ _)) z, dne, hns⟩⟩
end
end OwnX
end PySem
namespace L2
open PySem PySem.Spec PyProof.Rows
theorem relO_own {v : V} {v' : Value} (r : RelV v v') (n f : Str) : RelO (List.lookup f [(n, v)]) (if f = n then some v' else none) := by
  by_cases hw : f = n
  · subst hw
    rw [if_pos rfl]
    have q : List.lookup f [(f, v)] = some v := by simp [List.lookup]
    rw [q]
    exact r
  · rw [if_neg hw]
    have qw : (f == n) = false := by simpa using hw
    have q2 : List.lookup f [(n, v)] = none := by simp [List.lookup, qw]
    rw [q2]
    trivial
section
variable {X : Cx} {C fI : Addr} {qn f : Str} {B newId initId : String} {bmB : List Value}
def tMkOwn (C : Addr) (f : Str) (ta : TA) : St → Hp → XK → Prop := fun σ H Q => ta σ H fun vs H1 => ∃ v, vs = [v] ∧ ∀ d, H1 d = none → Q (.ref C) (some d) (upd H1 d (.xd [(f, v)]))
theorem pmk_ownP {x : Str} {a : Expr} {ta : TA} {p pos : Pos} (T : PySem.OwnX.OwnTxt X.K C fI qn f B newId initId bmB) (gC : X.mg x = some (.ref C)) (kC : PySem.W.keepIn X.K (.ref C) = true) (hr : X.A.depth + 1 < recursionLimit) (ha : PA X [a] ta) (hg : Gl X x) (hdb : (x == ("__debug__" : Str)) = false := by decide)
    (he : starEach (a :: []) X.env = (false, eval a X.env) :: starEach [] X.env := by rfl) (hpl : (backTo pos (starEach [] X.env)).any (·.1) = false := by rfl) :
    PMk X (.Call (.Name x p) [a] [] pos) (tMkOwn C f ta) := by
  intro pins s σ H Q I h
  refine wpAny_Call_Name_kw (ld_glob I hg gC ?_ hdb)
  refine PySem.W.callWith_K (h₀ := X.base) I.ok.mod.kin kC (thn (ha.run pos pins s σ H _ I h) fun us s1 hh => ?_) he hpl
  obtain ⟨vs, H1, I1, r1, v, ev, q1⟩ := hh
  subst ev
  refine ⟨I1.kIn, ?_⟩
  cases r1 with
  | cons rv rn =>
    rename_i v' us'
    cases rn
    show wpAny _ _ (call (.ref C) [v']) _ _ _
    have hlim := I1.nolimit
    obtain ⟨hp, g, dr, tk, os⟩ := s1
    refine wpAny_call (PySem.OwnX.own_made T I1.kIn hlim hr fun h' tk' e d M => ?_)
    show MkP X pins σ Q (.ref e) ⟨h', g, dr, tk', os⟩
    obtain ⟨oe, fv, hoe, hc, hd, hdat, h1⟩ := M.obj
    have hns := M.ns
    obtain ⟨G', g1, g2⟩ := restrict h' fun b => decide (b ≠ e)
    have gk : ∀ b, b ≠ e → G'.get? b = h'.get? b := fun b hb => g1 b (decide_eq_true hb)
    have ge : G'.get? e = none := g2 e (by simp)
    have old : ∀ b o, hp.get? b = some o → G'.get? b = some o := fun b o q => (gk b (Nat.ne_of_lt (Nat.lt_of_lt_of_le (Heap.lt_size q) M.new))).trans (M.keep b o q)
    have ob : ObjOk X.prog X.w (upd H1 d (.xd [(f, v)])) G' d (.xd [(f, v)]) :=
      ⟨_, hns.at (fun o q => (gk d M.dne).trans q), fun n => relO_own rv f n⟩
    have J : Inv X pins σ (upd H1 d (.xd [(f, v)])) ⟨G', g, dr, tk', os⟩ := I1.laid (t' := tk') old M.dbig ob
    refine ⟨e, oe, fv, ⟨G', g, dr, tk', os⟩, _, .ref C, some d, rfl, J, fun b o q => ?_, ge, hoe, ⟨hc, hd⟩, hdat, h1, ?_, rfl, I1.bare, raises_own T.exC T.tyC, q1 d (I1.hok.fresh M.dbig)⟩
    · by_cases hb : b = e
      · have q' : G'.get? b = some o := q
        rw [hb, ge] at q'; cases q'
      · exact (gk b hb).symm.trans q
    · rw [upd_ne (Ne.symm M.dne)]
      exact I1.hok.fresh M.new
/-- error.f, the exception that the suite holds (at a; its class cls, its dict d) -/
def tByOwn (C : Addr) (f : Str) (a : Addr) (cls : Value) (d : Option Addr) (te : TE) : TE := fun σ H Q => te σ H fun x H1 => x = .ref a ∧ cls = .ref C ∧ ∃ (dd : Addr) (v : V), d = some dd ∧ H1 dd = some (.xd [(f, v)]) ∧ Q v H1
theorem pe_byOwn {a : Addr} {oe : Obj} {cls : Value} {d : Option Addr} {pn : List (Addr × Obj)} {e : Expr} {te : TE} {pos : Pos} (T : PySem.OwnX.OwnTxt X.K C fI qn f B newId initId bmB) (hz : Zc cls d oe) (hf : ∃ vs, oe.data = .fields vs) (he : PE (X.suite a ((a, oe) :: pn)) e te)
    (hb : attributeBase e f X.env (eval e X.env) = eval e X.env) :
    PE (X.suite a ((a, oe) :: pn)) (.Attribute e f pos) (tByOwn C f a cls d te) := by
  refine ⟨fun pins s σ H Q I h => ?_⟩
  refine attr_of hb (thn (he.run pins s σ H _ I h) fun u s1 hh => ?_)
  obtain ⟨x, H1, I1, rx, ex, ec, dd, v, ed, ea, q⟩ := hh
  subst ex
  obtain rfl : u = Value.ref a := rx
  subst ec
  subst ed
  obtain ⟨ha, _⟩ := I1.pin (a, oe) (List.mem_append_left _ List.mem_cons_self)
  obtain ⟨vs, hd⟩ := hf
  have hx : ObjOk X.prog X.w H1 s1.heap dd (.xd [(f, v)]) := I1.hok dd _ ea
  obtain ⟨mA, hns, hr⟩ := hx
  obtain ⟨od, ho, hl⟩ := lookIn_ns hns
  have l : List.lookup f [(f, v)] = some v := by simp [List.lookup]
  obtain ⟨u, hu, ru⟩ := RelO.some_of (v := v) (o := mA f) (by rw [← l]; exact hr f)
  have J : PySem.W.InstAt s1.heap a oe C (some od) := ⟨ha, hz.1, by unfold PySem.W.notCls; rw [hd] <;> rfl, by rw [hz.2]; exact ho⟩
  have fo : PySem.W.findObj X.K C (some od) f = some (.value u) := by
    rcases T.nm with rfl | rfl <;> exact PySem.W.findObj_own T.hdC T.noN rfl (by rw [hl, hu])
  exact HandSPX.exc_get I1.kIn J T.ga T.gg T.exC fo (handed_of ru) ⟨v, H1, I1.tok _, ru, q⟩
end
end L2
namespace PySem.W
open PySem PySem.Spec PySem.Calls PyProof.Rows
section
variable {prog : Program} {w : World} {A : Around} {E : Value → Shared → Prop} {s : Shared} {K : Frag} {x D : Addr} {ox : Obj} {od : Option Obj}
theorem findObj_dataP {C : Addr} {name : Str} {a g : Value} (hc : (clsIn K C).isSome = true) (ha : findIn K (.ref C) name = some (some a)) (hg : specialIn K a "__get__" = some (some g)) (ht : takesIn K a = some true) : findObj K C od name = some (.bind g a) := by
  obtain ⟨cd, hc⟩ := Option.isSome_iff_exists.mp hc
  unfold findObj
  rw [hc, Option.bind_some, ha, Option.bind_some]
  simp [hg, ht]
theorem kin_classP {Q : Option Value → Shared → Prop} (hga : findIn K (.ref D) "__getattribute__" = some (some (.builtin "BaseException.__getattribute__"))) (hgt : findIn K (.ref D) "__getattr__" = some none) (hsub : subIn K (.ref D) (.type "BaseException") = some true)
    (hdct : hasDictIn K D = true) (ha : findIn K (.ref D) "__class__" = some (some (.builtin "object.__class__")))
    (hn : specialIn K (.builtin "object.__class__") "__get__" = some (some (.builtin "getset_descriptor.__get__"))) (htk : takesIn K (.builtin "object.__class__") = some true) (hm : mroIn K D (.type "object") = some true)
    (X : K.In s.heap) (I : InstAt s.heap x ox D od) (h : Q (some (.ref D)) { s with toks := s.toks + 1 }) : wpAny (model prog w) A (getAttr? (.ref x) "__class__") Q E s := by
  have hf : findObj K D od "__class__" = some (.bind (.builtin "getset_descriptor.__get__") (.builtin "object.__class__")) := findObj_dataP (by obtain ⟨cd, hc, _⟩ := any_some hdct; rw [hc]; rfl) ha hn htk
  obtain ⟨hp, g, d, t, os⟩ := s
  have L0 := I.type (M := model prog w)
  have L1 := looks_findIn (M := model prog w) X hga
  have L2 := looks_findIn (M := model prog w) X hgt
  have L3 := looks_find (M := model prog w) X I hf
  have sub : Looks (model prog w) hp (isInstance (.ref x) (.type "BaseException")) true := L0.andThen (looks_subIn X hsub)
  have hx0 : (false && onTheHeap (Value.builtin "BaseException.__getattribute__")) = false := rfl
  have hx2 : (Value.builtin "BaseException.__getattribute__" == Value.builtin "object.__getattribute__") = false := by decide +kernel
  have hx1 : (onTheHeap (Value.ref D) && Value.builtin "BaseException.__getattribute__" == Value.builtin "object.__getattribute__") = false := by rw [hx2]; rfl
  unfold getAttr? getAttrBy? getAttrBy
  refine wpAny_bind (wpAny_mkText (wpAny_bind (wpAny_attempt (wpAny_holding (wpAny_bind (L0.at (wpAny_bind (L1.at ?_))))))))
  show wpAny _ _ (if (onTheHeap (Value.ref D) && Value.builtin "BaseException.__getattribute__" == Value.builtin "object.__getattribute__") = true then _ else _) _ _ _
  rw [hx1, if_neg Bool.false_ne_true]
  unfold getAttrByItsOwn hookBefore
  refine wpAny_bind ?_
  rw [if_pos (show onTheHeap (Value.ref D) = true from rfl)]
  refine L2.at ?_
  refine wpAny_bind (wpAny_attempt (wpAny_holding ?_))
  unfold callGetattribute
  rw [hx0, if_neg Bool.false_ne_true]
  unfold boundAndCalled
  rw [PySem.F.excAttr_ValueError.ga.bind (.ref x)]
  refine wpAny_bind (wpAny_pure ?_)
  show wpAny _ _ (call (.builtin "BaseException.__getattribute__") [.ref x, .str "__class__" t]) _ _ _
  refine wpAny_call (codeAny_call_builtin PySem.F.excAttr_ValueError.ga.plain PySem.F.entry_bexc_ga ?_)
  refine @check_slot (model prog w) _ _ ⟨hp, g, d, t + 1, os⟩ "BaseException.__getattribute__" "BaseException" "__getattribute__" (.ref x) [.str "__class__" t] [] _ (by decide +kernel) (by decide +kernel) sub (PySem.F.args_bexc_ga (.ref x) (.str "__class__" t)) ?_
  unfold Builtin.«object.__getattribute__»
  refine wpAny_bind (wpAny_of_eq (a := ((Value.ref x : Value), [Value.str "__class__" t])) (by first | rfl | (simp only [slotArgs]; rfl)) ?_)
  refine wpAny_bind (wpAny_pure (wpAny_bind (L0.at (wpAny_bind (L3.at ?_)))))
  show wpAny _ _ (holding [Value.builtin "object.__class__"] (call (.builtin "getset_descriptor.__get__") [.builtin "object.__class__", .ref x, .ref D]) >>= ret) _ _ _
  refine wpAny_bind (wpAny_holding (wpAny_call (class_get (s := ⟨hp, g, d, t + 1, os⟩) (ox := ox) (od := od) X I hm ?_)))
  refine wpAny_pure ?_
  show wpAny _ _ (handedOut (.ref D)) _ _ _
  rw [handedOut_of (v := .ref D) rfl]
  first
    | exact wpAny_pure (wpAny_pure h)
    | exact wpAny_pure h
    | exact wpAny_pure (wpAny_bind (wpAny_pure (wpAny_pure h)))
theorem handS_kitx_excP (hga : findIn K (.ref D) "__getattribute__" = some (some (.builtin "BaseException.__getattribute__"))) (hgt : findIn K (.ref D) "__getattr__" = some none) (hsub : subIn K (.ref D) (.type "BaseException") = some true) (hdct : hasDictIn K D = true) (ha : findIn K (.ref D) "__class__" = some (some (.builtin "object.__class__")))
    (hn : specialIn K (.builtin "object.__class__") "__get__" = some (some (.builtin "getset_descriptor.__get__"))) (htk : takesIn K (.builtin "object.__class__") = some true) (hm : mroIn K D (.type "object") = some true) :
    KitX K (.ref x) (.ref D) (fun h => InstAt h x ox D od) where
  ty := fun _ _ _ I => I.type
  it := fun _ _ X _ => by
    obtain ⟨cdD, hcD, _⟩ := any_some hdct
    unfold clsIn at hcD
    split at hcD
    · rename_i c' d' cd' sl' ho
      intro A' Q' E' s' k q
      unfold isType loadHead
      exact wpAny_bind (wpAny_loadPart (k _ _ (X _ _ ho)) (wpAny_pure q))
    · cases hcD
  ne := fun h tp dd its n sl X htp => by
    obtain ⟨cdD, hcD, _⟩ := any_some hdct
    refine Bool.eq_false_iff.mpr fun q => ?_
    have e : D = tp := Value.ref.inj (beq_iff_eq.mp q)
    subst e
    unfold clsIn at hcD
    split at hcD
    · rename_i c' d' cd' sl' ho
      have z := (X _ _ ho).symm.trans htp
      cases z
    · cases hcD
  ca := fun X I k => kin_classP hga hgt hsub hdct ha hn htk hm X I k
end
end PySem.W

namespace L2
open PySem PySem.Spec PyProof.Rows
end L2
namespace Ev
open PySem PySem.Spec PyProof.Rows L2
/-- an own error's class with a payload, by its number -/
structure ExcP (G : Glo) (mg : Str → Option Value) (c : Nat) (x f : Str) : Prop where
  fl : G.cfl c = some f
  mg : mg x = some (.ref (G.cad c))
  q : ∃ fI qn B newId initId bmB, PySem.OwnX.OwnTxt G.K (G.cad c) fI qn f B newId initId bmB
  kp : PySem.W.keepIn G.K (.ref (G.cad c)) = true
section
variable {G : Glo} {X : Cx} {W' : WX} {pos : Pos}
noncomputable def esRaiseP (c : Nat) (f : Evl) : Evs := fun l S => (f l S).bnd fun w S1 => .exc c w l S1
theorem ss_raiseP {c k : Nat} {x n : Str} {f : Evl} {e : Expr} {p pos' : Pos} (hx : Okx G X) (hr : Room k X.A) (tk : Takes X W') (E : ExcP G X.mg c x n) (he : SE G X W' f e) (hg : Gl X x) (hdb : (x == ("__debug__" : Str)) = false := by decide)
    (hs : starEach (e :: []) X.env = (false, eval e X.env) :: starEach [] X.env := by rfl) (hpl : (backTo pos (starEach [] X.env)).any (·.1) = false := by rfl) : SS G X W' (esRaiseP c f) (.Raise (some (.Call (.Name x p) [e] [] pos)) none pos') := by
  obtain ⟨fI, qn, B, newId, initId, bmB, T⟩ := E.q
  rw [← hx.k] at T
  refine ps_imp (ps_raise hx.calm tk (pmk_ownP T E.mg (by rw [hx.k]; exact E.kp) (by have := hr.dp; omega) (pa_cons he pa_nil hs) hg hdb hs hpl)) fun D σ H ⟨C, l, e, ok, r, p⟩ => ?_
  subst e
  refine ⟨C, l, rfl, ok, r, Post.mono (fun w C1 ok1 x1 p1 v rv => ⟨v, rfl, fun d hd => ?_⟩) (Post.bnd p)⟩
  obtain ⟨ok2, x2⟩ := Cf.tupd (o := .xd [(n, v)]) ok1 hd
  unfold Post at p1
  refine p1 ⟨C1.ρ, upd C1.H d (.xd [(n, v)]), C1.S⟩ _ (some d) σ rfl ok2 x2 ⟨rfl, ?_⟩ ((r.mono ok x1).mono ok1 x2)
  rw [E.fl]
  exact ⟨d, v, rfl, upd_same, rv.mono ok1 x2⟩
/-! ### readings in a suite -/
theorem sxe_attr {i c : Nat} {x f : Str} {n : Str} {np : Pos} {mg : Str → Option Value} (hx : Okx G X) (E : ExcP G mg c x f) (hn : ∀ (a : Addr) (pn : List (Addr × Obj)), PE (X.suite a pn) (.Name n np) (tVar i)) (hb : attributeBase (.Name n np) f X.env (eval (.Name n np) X.env) = eval (.Name n np) X.env := by rfl) :
    SXE G X (some i) c (fun x _ S => .ok x S) (.Attribute (.Name n np) f pos) := fun a oe d pn hz hf => by
  obtain ⟨fI, qn, B, newId, initId, bmB, T⟩ := E.q
  rw [← hx.k] at T
  refine ⟨fun pins s σ H Q I ⟨h0, C, l, x, e, ok, r, rx, q⟩ => ?_⟩
  subst e
  refine (pe_byOwn (pos := pos) T hz hf (hn a _) hb).run pins s σ C.H Q I ?_
  have z := rx.2
  rw [E.fl] at z
  obtain ⟨dd, v, e1, e2, e3⟩ := z
  exact ⟨.ref a, h0 i rfl, rfl, rfl, dd, v, e1, e2, Post.now ok q v e3⟩
def SXA (G : Glo) (X : Cx) (i : Option Nat) (c : Nat) (f : W → Eva) (es : List Expr) : Prop := ∀ (a : Addr) (oe : Obj) (d : Option Addr) (pn : List (Addr × Obj)), Zc (.ref (G.cad c)) d oe → (∃ vs, oe.data = .fields vs) → PA (X.suite a ((a, oe) :: pn)) es
  (fun σ H Q => (∀ j, i = some j → σ[j]? = some (some (.ref a))) ∧ ∃ (C : Cf) (l : Lo) (x : W), C.H = H ∧ C.Ok G ∧ RL G C l σ ∧ RX G C c x (.ref (G.cad c)) d ∧ Post G W0 C (f x l C.S) (PhA G Q))
theorem sxa_nil {i : Option Nat} {c : Nat} : SXA G X i c (fun _ => eaNil) [] := fun a oe d pn hz hf => pa_imp pa_nil fun σ H Q ⟨_, C, l, x, e, ok, r, _, p⟩ => by
  subst e
  exact (Post.now ok p) [] .nil
theorem sxa_cons {i : Option Nat} {c : Nat} {f : W → Evl} {g : W → Eva} {e : Expr} {es : List Expr} (h1 : SXE G X i c f e) (h2 : SXA G X i c g es) (hs : starEach (e :: es) X.env = (false, eval e X.env) :: starEach es X.env := by rfl) : SXA G X i c (fun x => eaCons (f x) (g x)) (e :: es) := fun a oe d pn hz hf =>
  pa_imp (pa_cons (h1 a oe d pn hz hf) (h2 a oe d pn hz hf) hs) fun σ H Q ⟨h0, C, l, x, e, ok, r, rx, p⟩ => by
    subst e
    refine ⟨h0, C, l, x, rfl, ok, r, rx, Post.mono (fun w C1 ok1 x1 p1 v rv => ?_) (Post.bnd p)⟩
    refine ⟨h0, C1, l, x, rfl, ok1, r.mono ok x1, rx.mono ok x1, Post.mono (fun ws C2 ok2 x2 p2 vs rvs => ?_) (Post.bnd p1)⟩
    exact (Post.now ok2 p2) (v :: vs) (.cons (rv.mono ok1 x2) rvs)
theorem sxe_lst {i : Option Nat} {c : Nat} {f : W → Eva} {es : List Expr} (h : SXA G X i c f es) : SXE G X i c (fun x => evLst (f x)) (.List es pos) := fun a oe d pn hz hf => pe_imp (pe_lst (h a oe d pn hz hf)) fun σ H Q ⟨h0, C, l, x, e, ok, r, rx, p⟩ => by
  subst e
  refine ⟨h0, C, l, x, rfl, ok, r, rx, Post.mono (fun ws C1 ok1 x1 p1 vs rvs => ?_) (Post.bnd p)⟩
  cases hs : short ws with
  | false => simp only [hs] at p1; unfold Post at p1; exact p1.elim
  | true =>
    simp only [hs, newK_eq] at p1
    exact ⟨by rw [rvs.length]; exact short_line hs, post_newL (vs := vs) ok1 p1 rvs⟩
end
end Ev

namespace PySem
open PySem.W
section
variable {prog : Program} {w : World} {A : Around} {E : Value → Shared → Prop} {s : Shared}
end
end PySem
namespace Ev
open PySem PySem.Spec PyProof.Rows L2
open PySem.W (alike alikeAll dataLt)
section
variable {G : Glo} {X : Cx} {W' : WX} {pos : Pos}
end
end Ev

namespace Ev
open PySem PySem.Spec PyProof.Rows L2
/-! ## len(set(a)), a a list of tuples of ints -/
section
variable {X : Cx}
end
section
variable {G : Glo} {X : Cx} {W' : WX} {pos : Pos}
end
end Ev

namespace PySem
section
variable {prog : Program} {w : World} {A : Around} {E : Value → Shared → Prop} {s : Shared} {z TI TO T i1 i2 : Addr} {fp1 fp2 : List Addr} {n1 n2 i : Nat} {P1 P2 : Nat → Value → Prop} {St1 St2 : Nat → Heap → Prop} {f : Bool} {oT : Obj}
end
section
variable {prog : Program} {w : World}
end
end PySem
namespace Ev
open PySem PySem.Spec PyProof.Rows L2
section
variable {X : Cx} {pins : List (Addr × Obj)} {σ : L2.St} {H : Hp} {s : Shared}
end
section
variable {X : Cx} {pos : Pos}
end
open PySem PySem.Spec PyProof.Rows L2
section
variable {G : Glo} {X : Cx} {W' : WX} {pos : Pos}
end
end Ev

namespace L2
open PySem PySem.Spec PyProof.Rows
end L2
namespace Ev
open PySem PySem.Spec PyProof.Rows L2
section
variable {G : Glo} {X : Cx} {W' : WX} {pos : Pos}
/-! ### (*a, b) -/
/-! ### texts -/
/-! ### f'..' -/
inductive SJ (G : Glo) (X : Cx) (W' : WX) : List Evl → List Expr → Prop
  | nil : SJ G X W' [] []
  | cons {f : Evl} {fs : List Evl} {e : Expr} {es : List Expr} (h : SE G X W' f e) (r : SJ G X W' fs es) : SJ G X W' (f :: fs) (e :: es)
/-! ### suites: not, and, isinstance of several -/
/-! ### a call whose value is reckoned once -/
mutual
def beqX : W → W → Bool
  | .k (.int a), .k (.int b) => iEq a b
  | .k (.bl a), .k (.bl b) => match a with
    | true => b
    | false => !b
  | .k .non, .k .non => true
  | .tup xs, .tup ys => beqXs xs ys
  | _, _ => false
def beqXs : List W → List W → Bool
  | [], [] => true
  | x :: xs, y :: ys => match beqX x y with
    | true => beqXs xs ys
    | false => false
  | _, _ => false
end
mutual
theorem beqX_eq : ∀ a b : W, beqX a b = true → a = b
  | .k (.int a), .k (.int b), h => by
    unfold beqX at h
    rw [iEq_eq] at h
    rw [of_decide_eq_true h]
  | .tup xs, .tup ys, h => by
    unfold beqX at h
    rw [beqXs_eq xs ys h]
  | .obj _, _, h => by unfold beqX at h; cases h
  | .mix _, _, h => by unfold beqX at h; cases h
  | .k v, .mix _, h => by cases v <;> (unfold beqX at h; cases h)
  | .tup _, .mix _, h => by unfold beqX at h; cases h
  | .k v, .obj _, h => by cases v <;> (unfold beqX at h; cases h)
  | .tup _, .obj _, h => by unfold beqX at h; cases h
  | .k v, .tup _, h => by cases v <;> (unfold beqX at h; cases h)
  | .tup _, .k _, h => by unfold beqX at h; cases h
  | .k u, .k v, h => by
    cases u <;> cases v <;> first
      | (unfold beqX at h; rw [iEq_eq] at h; rw [of_decide_eq_true h])
      | rfl
      | (rename_i a b; cases a <;> cases b <;> first | rfl | (unfold beqX at h; cases h))
      | (unfold beqX at h; cases h)
theorem beqXs_eq : ∀ a b : List W, beqXs a b = true → a = b
  | [], [], _ => rfl
  | x :: xs, y :: ys, h => by
    unfold beqXs at h
    cases q : beqX x y with
    | false => rw [q] at h; cases h
    | true =>
      rw [q] at h
      rw [beqX_eq x y q, beqXs_eq xs ys h]
  | [], _ :: _, h => by unfold beqXs at h; cases h
  | _ :: _, [], h => by unfold beqXs at h; cases h
end
end
open PySem PySem.Spec PyProof.Rows L2
open PySem PySem.Spec PyProof.Rows L2
section
variable {G : Glo} {X : Cx} {W' : WX} {pos : Pos}
/-! ### xs.pop(i) -/
end
end Ev

namespace Ev
open PySem PySem.Spec PyProof.Rows L2
/-! ## zip of a list and a tuple in any mix -/
def ItB (k : Bool) (h : Heap) (it a : Addr) (i : Nat) : Prop := match k with
  | true => h.IsListIter it a i
  | false => h.IsTupleIter it a i
theorem ItB.at {k : Bool} {h h' : Heap} {it a : Addr} {i : Nat} (x : ItB k h it a i) (e : ∀ o, h.get? it = some o → h'.get? it = some o) : ItB k h' it a i := by
  cases k with
  | true => exact Heap.IsListIter.at x e
  | false => exact Heap.IsTupleIter.at x e
theorem ItB.there {k : Bool} {h : Heap} {it a : Addr} {i : Nat} (x : ItB k h it a i) : ∃ o, h.get? it = some o ∧ ∀ v, o.data ≠ .cell v := by
  cases k with
  | true =>
    obtain ⟨o, e, _, d⟩ := x
    exact ⟨o, e, fun v q => by rw [d] at q; cases q⟩
  | false =>
    obtain ⟨o, e, _, d⟩ := x
    exact ⟨o, e, fun v q => by rw [d] at q; cases q⟩
section
variable {X : Cx} {pins : List (Addr × Obj)} {σ : L2.St} {H : Hp} {s : Shared}
end
section
variable {G : Glo} {X : Cx} {W' : WX} {pos : Pos}
end
end Ev

namespace Ev
open PySem PySem.Spec PyProof.Rows L2
/-! ## zip of three, lists and tuples in any mix -/
section
variable {G : Glo} {X : Cx} {W' : WX} {pos : Pos}
end
end Ev

namespace PySem
namespace SC
open Builtin Builtin.Str Builtin.Int
section
variable {prog : Program} {w : World} {A : Around} {E : Value → Shared → Prop} {s : Shared} {x : Str} {t : Tok} {Q : Value → Shared → Prop}
end
end SC
end PySem
namespace Ev
open PySem PySem.Spec PyProof.Rows L2
section
variable {X : Cx}
end
section
variable {G : Glo} {X : Cx} {W' : WX} {pos : Pos}
/-! ### x *= e, x //= e -/
end
end Ev

namespace Ev
open PySem PySem.Spec PyProof.Rows L2
/-! ## texts in operators, subscripts, walks -/
section
variable {G : Glo} {X : Cx} {W' : WX} {pos : Pos}
/-! + -/
/-! * -/
/-! in -/
/-! len -/
/-! s[i] -/
/-! s[a:b] -/
/-! walks -/
/-! enumerate of a text -/
end
end Ev

namespace Ev
open PySem PySem.Spec PyProof.Rows L2
/-! ## a comprehension of two clauses that a plain name takes -/
section
variable {G : Glo} {X : Cx} {W' : WX} {pos : Pos}
end
end Ev

namespace Ev
open PySem PySem.Spec PyProof.Rows L2
/-! ## dict(xs), xs a list of pairs whose keys are tuples -/
section
variable {X : Cx} {pins : List (Addr × Obj)} {σ : L2.St} {H : Hp} {s : Shared}
end
section
variable {G : Glo} {X : Cx} {W' : WX} {pos : Pos}
end
end Ev

namespace Ev
open PySem PySem.Spec PyProof.Rows L2
/-! ## dict(list(..)), list(d.items()) -/
section
variable {G : Glo} {X : Cx} {W' : WX} {pos : Pos}
end
/-! ### list(d.items()) -/
section
variable {X : Cx}
end
section
variable {G : Glo} {X : Cx} {W' : WX} {pos : Pos}
end
end Ev

namespace PySem
/-! ## list(zip(a, b)) -/
/-- the pairs laid so far, at rising places above lo -/
structure EzlG (P1 P2 : Nat → Value → Prop) (lo : Addr) (h : Heap) (as : List Addr) : Prop where
  rise : as.Pairwise (· < ·)
  above : ∀ a ∈ as, lo < a
  pairs : ∀ (j : Nat) (a : Addr), as[j]? = some a → ∃ x y, P1 j x ∧ P2 j y ∧ IsTupOf2 h a x y
theorem EzlG.there {P1 P2 : Nat → Value → Prop} {lo : Addr} {h : Heap} {as : List Addr} (g : EzlG P1 P2 lo h as) {a : Addr} (ha : a ∈ as) : a < h.objs.size := by
  obtain ⟨j, hj⟩ := List.mem_iff_getElem?.mp ha
  obtain ⟨_, _, _, _, e⟩ := g.pairs j a hj
  exact Heap.lt_size e
section
variable {prog : Program} {w : World} {A : Around} {E : Value → Shared → Prop} {s : Shared} {z TI TO i1 i2 d : Addr} {fp1 fp2 : List Addr} {n1 n2 i : Nat} {P1 P2 : Nat → Value → Prop} {St1 St2 : Nat → Heap → Prop}
end
section
variable {prog : Program} {w : World} {A : Around} {s : Shared} {R : Result → Shared → Prop} {z TI TO i1 i2 : Addr} {fp1 fp2 : List Addr} {n1 n2 : Nat} {P1 P2 : Nat → Value → Prop} {St1 St2 : Nat → Heap → Prop}
end
section
variable {prog : Program} {w : World} {A : Around} {E : Value → Shared → Prop} {s : Shared} {z TI TO i1 i2 : Addr} {fp1 fp2 : List Addr} {n1 n2 : Nat} {P1 P2 : Nat → Value → Prop} {St1 St2 : Nat → Heap → Prop}
end
end PySem
namespace Ev
open PySem PySem.Spec PyProof.Rows L2
section
variable {X : Cx} {pos : Pos}
end
section
variable {G : Glo} {X : Cx} {W' : WX} {pos : Pos}
end
end Ev

namespace Ev
open PySem PySem.Spec PyProof.Rows L2
/-! ## a dict of the module: texts to numbers -/
def KDr (K : PySem.W.Frag) (w : World) (p : Addr) (z : Str) (r : Option Int) : Prop := ∃ es n, K.lookup p = some ⟨.type "dict", none, .dict es n, #[]⟩ ∧ PySem.W.KeysLit w.params es.toList ∧ (p == sysModules) = false ∧ ∃ u : Option Value, PySem.W.nsIn K p z = some u ∧ match r with
  | some i => ∃ t, u = some (.int i t)
  | none => u = none
def KDt (K : PySem.W.Frag) (w : World) (p : Addr) (tab : List (Str × Option Int)) : Prop := ∀ e ∈ tab, KDr K w p e.1 e.2
section
variable {X : Cx}
end
section
variable {G : Glo} {X : Cx} {W' : WX} {pos : Pos}
/-! ## xs.insert(i, y) -/
end
open PySem PySem.Spec PyProof.Rows L2
/-! ## a def under another name -/
section
variable {G : Glo} {P : Program} {w : World} {mg : Str → Option Value} {base : Heap} {k n : Nat} {nm x : Str} {ps : List Str} {F : Fn} {f : Addr} {fd : FuncData} {st : Stmt}
def FdA (K : PySem.W.Frag) (mg : Str → Option Value) (st : Stmt) (nm x : Str) (ps : List Str) : Prop := ∃ (f : Addr) (fd : FuncData), Fun K nm nm st f fd ∧ mg x = some (.ref f) ∧ Binds K fd ps []
end
end Ev

namespace PySem
open PySem.AutoSeq1
end PySem
namespace Ev
open PySem PySem.Spec PyProof.Rows L2
section
variable {X : Cx}
end
section
variable {G : Glo} {X : Cx} {W' : WX} {pos : Pos}
end
open PySem PySem.Spec PyProof.Rows L2
/-! ## list(d) -/
section
variable {X : Cx}
end
section
variable {G : Glo} {X : Cx} {W' : WX} {pos : Pos}
end
end Ev

namespace Ev
open PySem PySem.Spec PyProof.Rows L2
/-! ## a dict comprehension that a plain name takes -/
section
variable {X : Cx}
end
section
variable {G : Glo} {X : Cx} {W' : WX} {pos : Pos}
end
end Ev

namespace Ev
open PySem PySem.Spec PyProof.Rows L2
/-! ## xs[::-1] -/
section
variable {prog : Program} {w : World} {A : Around} {E : Value → Shared → Prop} {s : Shared}
end
section
variable {X : Cx} {e : Expr} {te : TE} {pos p2 : Pos}
end
section
variable {G : Glo} {X : Cx} {W' : WX} {pos : Pos}
theorem RWs.turned {K : PySem.W.Frag} {ρ : List Addr} {H : Hp} : ∀ {ws : List W} {vs : List V}, RWs K ρ H ws vs → RWs K ρ H ws.reverse vs.reverse
  | [], vs, h => by unfold RWs at h; subst h; exact .nil
  | w :: ws, vs, h => by
    unfold RWs at h
    obtain ⟨v, r, e, h1, h2⟩ := h
    subst e
    rw [List.reverse_cons, List.reverse_cons]
    exact h2.turned.append (.cons h1 .nil)
end
end Ev

namespace Ev
open PySem PySem.Spec PyProof.Rows L2
/-! ## xs.index(y) -/
section
variable {G : Glo} {X : Cx} {W' : WX} {pos : Pos}
/-! ## t.index(z), t a tuple of texts -/
end
end Ev

namespace Ev
open PySem PySem.Spec PyProof.Rows L2
/-! ## instances of own classes -/
theorem FRs.length {K : PySem.W.Frag} {ρ : List Addr} {H : Hp} : ∀ {fs : List (Str × W)} {vs : List (Str × V)}, FRs K ρ H fs vs → vs.length = fs.length
  | [], vs, h => by
    unfold FRs at h
    subst h
    rfl
  | p :: r, vs, h => by
    unfold FRs at h
    obtain ⟨u, ys, rfl, h1, h2⟩ := h
    simp [h2.length]
section
variable {G : Glo} {X : Cx} {W' : WX} {pos : Pos}
/-! ### o.f -/
structure FldOk (G : Glo) (c : Nat) (f : Str) : Prop where
  cls : Cls G.K (G.cad c)
  no : NoAttr G.K (G.cad c) f
/-! ### o.f = e -/
/-! ### o.f, o.g, .. = a tuple; o a name -/
end
/-! ### o.m(..), C(..) -/
section
variable {X : Cx} {CX : CXT} {k : Nat} {f C : Addr} {fd : FuncData} {ps : List Str} {sp : Sp} {dvs : List V} {ds : List Value} {E : L2.St → XK} {x m : Str} {p pos apos : Pos} {e o : Expr} {es : List Expr} {ta : TE} {t : TA}
end
section
variable {G : Glo} {X : Cx} {W' : WX} {k c n : Nat} {x m : Str} {ps : List Str} {F : Fn} {fa : Eva} {fo : Evl} {p pos apos : Pos} {e o : Expr} {es : List Expr}
/-- a method, as a caller sees it -/
structure DefM (G : Glo) (P : Program) (w : World) (mg : Str → Option Value) (base : Heap) (k c : Nat) (m : Str) (ps : List Str) (n : Nat) (F : Fn) : Prop where
  ex : ∃ (f : Addr) (fd : FuncData), FnOk P w G.K mg base (L2.CX P w) k f fd ps (spF G F n) ∧ ps.length = n ∧ Binds G.K fd ps [] ∧ Meth G.K (G.cad c) m f ∧ Cls G.K (G.cad c)
/-- a class's __init__ -/
structure DefI (G : Glo) (P : Program) (w : World) (mg : Str → Option Value) (base : Heap) (k c : Nat) (x : Str) (ps : List Str) (n : Nat) (F : Fn) : Prop where
  ex : ∃ (f : Addr) (fd : FuncData), FnOk P w G.K mg base (L2.CX P w) k f fd ps (spF G F n) ∧ ps.length = n ∧ Binds G.K fd ps [] ∧ Mk G.K (G.cad c) f ∧ mg x = some (.ref (G.cad c))
end
/-! facts from the head -/
section
variable {G : Glo} {mg : Str → Option Value} {base : Heap} {k c n : Nat} {x m : Str} {ps : List Str} {F : Fn}
end
end Ev

namespace Ev
open PySem PySem.Spec PyProof.Rows L2
/-! ## d.get(k, z), d a dict of the module: texts to numbers -/
section
variable {X : Cx} {o e e2 : Expr} {t : TA} {apos cpos : Pos} {p : Addr}
end
section
variable {G : Glo} {X : Cx} {W' : WX} {pos : Pos}
end
end Ev

namespace Ev
open PySem PySem.Spec PyProof.Rows L2
/-! ## len(d) -/
section
variable {G : Glo} {X : Cx} {W' : WX} {pos : Pos}
end
/-! ## list(d.values()) -/
section
variable {X : Cx} {o : Expr} {td : TE} {apos ipos p pos : Pos}
end
section
variable {G : Glo} {X : Cx} {W' : WX} {pos : Pos}
/-! ## tuple(reversed(xs)), xs a list -/
/-! ## list(range(..)) -/
end
end Ev

namespace Ev
open PySem PySem.Spec PyProof.Rows L2
open PySem.W (alike alikeAll dataLt AllAlike Sortable EachIs TotalLe sameRank dataLe)
/-! ## sorted(xs, reverse=True), xs a list -/
section
variable {X : Cx} {pins : List (Addr × Obj)} {σ : L2.St} {H : Hp} {s : Shared} {E : Value → Shared → Prop}
end
section
variable {G : Glo} {X : Cx} {W' : WX} {pos : Pos}
/-! ## targets that write -/
/-! ## o.f op= e -/
end
end Ev

namespace Ev
open PySem PySem.Spec PyProof.Rows L2
/-! what the law's box and its cells promise -/
section
variable {P : Program} {w : World} {mg : Str → Option Value} {base : Heap} {G : Glo} {k n m : Nat} {x nm : Str} {ps ks : List Str} {F : Fn} {st : Stmt} {is : List Nat}
end
end Ev

namespace Ev
open PySem PySem.Spec PyProof.Rows L2
/-! ## sets of nested tuples of whole numbers -/
mutual
def noTx : NestedKey → Bool
  | .none => true
  | .num _ => true
  | .text _ => false
  | .tup ks => noTxs ks
def noTxs : List NestedKey → Bool
  | [] => true
  | k :: ks => noTx k && noTxs ks
end
section
variable {P : Program} {w : World} {s : Shared}
/-- an answer that leaves no trace -/
def Says (P : Program) (w : World) (s : Shared) (m : Sem Bool) (b : Bool) : Prop := ∀ (A : Around) (E : Value → Shared → Prop) (Q : Bool → Shared → Prop), Q b s → wpAny (model P w) A m Q E s
theorem says_pure {m : Sem Bool} {b : Bool} (h : m = pure b) : Says P w s m b := fun A E Q q => by rw [h]; exact wpAny_pure q
theorem cls_tup {n m : Nat} {a : Addr} {o : Obj} {vs : Array Value} (ho : s.heap.get? a = some o) (hc : o.cls = .type "tuple") (hd : o.data = .seq vs m) (hq : ∀ v ∈ vs.toList, Says P w s (ofAClassStatement n v) false) :
    Says P w s (ofAClassStatement (n + 1) (.ref a)) false := fun A E Q h => by
  have hT : s.TypeIs (.ref a) "tuple" := ⟨o, ho, hc⟩
  unfold ofAClassStatement
  refine wpAny_bind (wpAny_typeOf hT ?_)
  dsimp only
  have e : (("tuple" : String) == "tuple") = true := by decide
  simp only [e, if_true, Bool.not_true, Bool.false_eq_true, if_false]
  try refine wpAny_bind (wpAny_pure ?_)
  try simp only [Bool.not_true, Bool.false_eq_true, if_false]
  change wpAny _ _ (seqItems? (.ref a) >>= _) _ _ s
  refine wpAny_bind (wpAny_seqItems ho hd ?_)
  dsimp only
  refine wpAny_bind ?_
  change wpAny _ _ (forIn vs _ _) _ _ s
  rw [← Array.forIn_toList]
  refine wpAny_forIn_list _ (fun rest r z => r.1 = none ∧ z = s ∧ ∀ v ∈ rest, Says P w s (ofAClassStatement n v) false) _ ?_ ?_ _ _ ⟨rfl, rfl, hq⟩
  · rintro v rest r z ⟨hr, rfl, hall⟩
    refine wpAny_bind (hall v List.mem_cons_self _ _ _ ?_)
    simp only [Bool.false_eq_true, if_false]
    exact wpAny_pure ⟨rfl, rfl, fun u q => hall u (List.mem_cons_of_mem _ q)⟩
  · rintro ⟨r1, r2⟩ z ⟨hr, rfl, _⟩
    obtain rfl : r1 = none := hr
    exact wpAny_pure h
theorem hbv_tup {n m : Nat} {a : Addr} {o : Obj} {vs : Array Value} (ho : s.heap.get? a = some o) (hc : o.cls = .type "tuple") (hd : o.data = .seq vs m) (hq : ∀ v ∈ vs.toList, Says P w s (hashByValue n v) true) :
    Says P w s (hashByValue (n + 1) (.ref a)) true := fun A E Q h => by
  have hT : s.TypeIs (.ref a) "tuple" := ⟨o, ho, hc⟩
  unfold hashByValue
  refine wpAny_bind (wpAny_specialOf hT F.slot_tuple_hash.lookup ?_)
  change wpAny _ _ (seqItems? (.ref a) >>= _) _ _ s
  refine wpAny_bind (wpAny_seqItems ho hd ?_)
  refine wpAny_bind ?_
  change wpAny _ _ (forIn vs _ _) _ _ s
  rw [← Array.forIn_toList]
  refine wpAny_forIn_list _ (fun rest r z => r.1 = none ∧ z = s ∧ ∀ v ∈ rest, Says P w s (hashByValue n v) true) _ ?_ ?_ _ _ ⟨rfl, rfl, hq⟩
  · rintro v rest r z ⟨hr, rfl, hall⟩
    refine wpAny_bind (hall v List.mem_cons_self _ _ _ ?_)
    simp only [Bool.not_true, Bool.false_eq_true, if_false]
    exact wpAny_pure ⟨rfl, rfl, fun u q => hall u (List.mem_cons_of_mem _ q)⟩
  · rintro ⟨r1, r2⟩ z ⟨hr, rfl, _⟩
    obtain rfl : r1 = none := hr
    exact wpAny_pure h
mutual
theorem cls_key : ∀ (k : NestedKey) (v : Value) (n : Nat) (s : Shared), NestedIs s.heap k v → k.depth ≤ n → Says P w s (ofAClassStatement n v) false
  | .none, _, n, s, x, _ => by cases x; exact says_pure (by cases n <;> rfl)
  | .num i, _, n, s, x, _ => by cases x <;> exact says_pure (by cases n <;> rfl)
  | .text y, _, n, s, x, _ => by cases x; exact says_pure (by cases n <;> rfl)
  | .tup ks, _, n, s, x, hn => by
    cases x with
    | tup hg hc hd hk =>
      simp only [NestedKey.depth] at hn
      cases n with
      | zero => omega
      | succ n => exact cls_tup hg hc hd (cls_keys ks _ n s hk (by omega))
theorem cls_keys : ∀ (ks : List NestedKey) (vs : List Value) (n : Nat) (s : Shared), NestedAll s.heap ks vs → NestedKey.depthAll ks ≤ n → ∀ v ∈ vs, Says P w s (ofAClassStatement n v) false
  | [], _, n, s, x, _, v, hv => by cases x; cases hv
  | k :: ks, _, n, s, x, hn, v, hv => by
    cases x with
    | cons x1 x2 =>
      simp only [NestedKey.depthAll] at hn
      rcases List.mem_cons.mp hv with rfl | hv
      · exact cls_key k _ n s x1 (by omega)
      · exact cls_keys ks _ n s x2 (by omega) v hv
end
mutual
theorem hbv_key : ∀ (k : NestedKey) (v : Value) (n : Nat) (s : Shared), NestedIs s.heap k v → k.depth ≤ n → noTx k = true → Says P w s (hashByValue n v) true
  | .none, _, n, s, x, _, _ => by cases x; exact says_pure (by cases n <;> rfl)
  | .num i, _, n, s, x, _, _ => by cases x <;> exact says_pure (by cases n <;> rfl)
  | .text y, _, n, s, x, _, ht => by simp [noTx] at ht
  | .tup ks, _, n, s, x, hn, ht => by
    cases x with
    | tup hg hc hd hk =>
      simp only [NestedKey.depth] at hn
      cases n with
      | zero => omega
      | succ n => exact hbv_tup hg hc hd (hbv_keys ks _ n s hk (by omega) (by simpa [noTx] using ht))
theorem hbv_keys : ∀ (ks : List NestedKey) (vs : List Value) (n : Nat) (s : Shared), NestedAll s.heap ks vs → NestedKey.depthAll ks ≤ n → noTxs ks = true → ∀ v ∈ vs, Says P w s (hashByValue n v) true
  | [], _, n, s, x, _, _, v, hv => by cases x; cases hv
  | k :: ks, _, n, s, x, hn, ht, v, hv => by
    cases x with
    | cons x1 x2 =>
      simp only [NestedKey.depthAll] at hn
      simp only [noTxs, Bool.and_eq_true] at ht
      rcases List.mem_cons.mp hv with rfl | hv
      · exact hbv_key k _ n s x1 (by omega) ht.1
      · exact hbv_keys ks _ n s x2 (by omega) ht.2 v hv
end
/-- the tuple at b is the key k -/
def NKy (h : Heap) (k : NestedKey) (b : Addr) : Prop := NestedIs h k (.ref b) ∧ k.depth ≤ 8 ∧ noTx k = true
abbrev nkd (P : Program) (w : World) := nestedKind P w
theorem NKy.kind {h : Heap} {k : NestedKey} {b : Addr} (x : NKy h k b) : (nkd P w).is h k b := ⟨x.1, x.2.1⟩
theorem NKy.same {h h' : Heap} {k : NestedKey} {a b : Addr} {o : Obj} {es : Array (Int × Value)} {ep : Nat} {t : SetTable} (x : NKy h k b) (ho : h.get? a = some o) (hd : o.data = .set es ep t) (hs : Heap.SameBut a h h') : NKy h' k b :=
  ⟨NestedIs.at (fun c oc vs n hc hv => by
    have ne : c ≠ a := fun e => by
      rw [e, ho] at hc
      cases hc
      rw [hd] at hv
      cases hv
    exact (hs.2 c ne).trans hc) k _ x.1, x.2⟩
theorem NKy.keep {h h' : Heap} {k : NestedKey} {b : Addr} (x : NKy h k b) (hk : ∀ c o, h.get? c = some o → h'.get? c = some o) : NKy h' k b := ⟨NestedIs.at (fun c o _ _ q _ => hk c o q) k _ x.1, x.2⟩
end
end Ev

namespace Ev
open PySem PySem.Spec PyProof.Rows L2
section
variable {P : Program} {w : World} {A : Around} {E : Value → Shared → Prop} {s : Shared}
abbrev Mem := Addr × NestedKey
abbrev hk (w : World) (k : NestedKey) : Int := NestedKey.hash w k
def entr (w : World) (L : List Mem) : List (Int × Value) := L.map fun p => (hk w p.2, Value.ref p.1)
def hss (w : World) (L : List Mem) : List Int := L.map fun p => hk w p.2
/-- a set object whose members are the tuples of L -/
structure NSet (w : World) (h : Heap) (a : Addr) (L : List Mem) (es : Array (Int × Value)) (ep : Nat) (t : SetTable) : Prop where
  at_ : ∃ o, h.get? a = some o ∧ o.ExactSet ∧ o.data = .set es ep t
  ent : es.toList = entr w L
  tab : TabOk t (hss w L)
  nod : (L.map (·.2)).Nodup
  mem : ∀ p ∈ L, NKy h p.2 p.1
  pln : t.plain = true
  lad : w.params.followText "set-order" = true ∨ t.led = true
  wid : L.length * 5 < t.mask * 3
  few : L.length < 64
variable {a : Addr} {L : List Mem} {es : Array (Int × Value)} {ep : Nat} {t : SetTable}
theorem ent_size (h : es.toList = entr w L) : es.size = L.length := by
  have := congrArg List.length h
  simpa [entr] using this
theorem NSet.size (R : NSet w s.heap a L es ep t) : es.size = L.length := ent_size R.ent
theorem NSet.keep {h h' : Heap} (R : NSet w h a L es ep t) (ha : ∀ o, h.get? a = some o → h'.get? a = some o) (ht : ∀ p ∈ L, NKy h' p.2 p.1) : NSet w h' a L es ep t := by
  obtain ⟨o, ho, r⟩ := R.at_
  exact { R with at_ := ⟨o, ha o ho, r⟩, mem := ht }
end
end Ev

namespace Ev
open PySem PySem.Spec PyProof.Rows L2
section
variable {P : Program} {w : World} {A : Around} {E : Value → Shared → Prop} {s : Shared}
variable {a : Addr} {L : List Mem} {es : Array (Int × Value)} {ep : Nat} {t : SetTable}
end
end Ev

namespace Ev
open PySem PySem.Spec PyProof.Rows L2
section
variable {P : Program} {w : World} {A : Around} {E : Value → Shared → Prop} {s : Shared}
/-- what of ks stands in L after i of them -/
structure After (ks : List Mem) (i : Nat) (L : List Mem) : Prop where
  sub : ∀ p ∈ L, p ∈ ks
  all : ∀ j p, j < i → ks[j]? = some p → p.2 ∈ L.map (·.2)
/-- what stands between two steps of set.update: J i, from the heap h0 on; S, the set -/
structure Adds (P : Program) (w : World) (A : Around) (items : Array Value) (S : Addr) (h0 : Heap) (J : Nat → Heap → Prop) : Prop where
  stay : ∀ (i : Nat) (h h' : Heap), J i h → (∀ b o, h0.get? b = some o → h'.get? b = some o) → (∀ o, h.get? S = some o → h'.get? S = some o) → J i h'
  step : ∀ (i : Nat) (v : Value) (s : Shared) (E : Value → Shared → Prop) (Q : Bool → Shared → Prop), items[i]? = some v → J i s.heap → (∀ b o, h0.get? b = some o → s.heap.get? b = some o) →
    (∀ (b : Bool) (h' : Heap) (tk : Nat), Heap.SameBut S s.heap h' → J (i + 1) h' → s.toks ≤ tk → Q b { s with heap := h', toks := tk }) → wpAny (model P w) A (setAdd S v) Q E s
/-- a new set has no member -/
theorem NSet.fresh {h : Heap} {a : Addr} (ho : h.get? a = some { cls := .type "set", dict := none, data := .set #[] 0 (.fresh 0 0 (!w.params.followText "set-order")) }) : NSet w h a [] #[] 0 (.fresh 0 0 (!w.params.followText "set-order")) where
  at_ := ⟨_, ho, ⟨rfl, rfl, rfl⟩, rfl⟩
  ent := rfl
  tab := ⟨List.Pairwise.nil, rfl, rfl, .inl rfl, fun x hx => (by cases hx), fun i h j hi => (by simp [hss] at hi)⟩
  nod := List.nodup_nil
  mem := fun p hp => (by cases hp)
  pln := rfl
  lad := by
    cases e : w.params.followText "set-order"
    · exact .inr rfl
    · exact .inl rfl
  wid := by show 0 * 5 < 7 * 3; decide
  few := by show 0 < 64; decide
end
end Ev

namespace Ev
open PySem PySem.Spec PyProof.Rows L2
section
variable {P : Program} {w : World} {A : Around} {E : Value → Shared → Prop} {s : Shared}
end
end Ev

namespace Ev
open PySem PySem.Spec PyProof.Rows L2
open PySem.W (alike alikeAll dataLt AllAlike Sortable EachIs TotalLe sameRank dataLe)
/-! sorted(..) of one thing, or of none -/
section
variable {X : Cx} {pins : List (Addr × Obj)} {σ : L2.St} {H : Hp} {s : Shared} {E : Value → Shared → Prop}
end
section
variable {X : Cx}
end
/-! in the reckoner -/
section
variable {G : Glo} {X : Cx}
end
end Ev

namespace Ev
open PySem PySem.Spec PyProof.Rows L2
open PySem.W (alike alikeAll dataLt AllAlike Sortable EachIs TotalLe sameRank dataLe)
/-! ## set(xs), sorted(set(xs)) -/
/-- the set at a, its members' tuples unsaid -/
def NSet0 (w : World) (h : Heap) (a : Addr) (L : List Mem) : Prop := ∃ (es : Array (Int × Value)) (ep : Nat) (t : SetTable), (∃ o, h.get? a = some o ∧ o.ExactSet ∧ o.data = .set es ep t) ∧ es.toList = entr w L ∧ TabOk t (hss w L) ∧ (L.map (·.2)).Nodup ∧ t.plain = true ∧
  (w.params.followText "set-order" = true ∨ t.led = true) ∧ L.length * 5 < t.mask * 3 ∧ L.length < 64
theorem NSet.bare {w : World} {h : Heap} {a : Addr} {L : List Mem} {es : Array (Int × Value)} {ep : Nat} {t : SetTable} (R : NSet w h a L es ep t) : NSet0 w h a L := ⟨es, ep, t, R.at_, R.ent, R.tab, R.nod, R.pln, R.lad, R.wid, R.few⟩
section
variable {X : Cx} {pins : List (Addr × Obj)} {σ : L2.St} {H : Hp} {s : Shared}
end
section
variable {X : Cx}
end
end Ev

namespace Ev
open PySem PySem.Spec PyProof.Rows L2
open PySem.W (alike alikeAll dataLt AllAlike Sortable EachIs TotalLe sameRank dataLe)
/-! ## sorted(set(xs)), in the reckoner -/
mutual
theorem data_inj : ∀ a b : NestedKey, a.data = b.data → a = b
  | .none, b, h => by cases b <;> simp [NestedKey.data] at h <;> rfl
  | .num i, b, h => by cases b <;> simp [NestedKey.data] at h <;> rw [h]
  | .text x, b, h => by cases b <;> simp [NestedKey.data] at h <;> rw [h]
  | .tup ks, b, h => by
    cases b <;> simp [NestedKey.data] at h
    rw [datas_inj ks _ h]
theorem datas_inj : ∀ a b : List NestedKey, NestedKey.datas a = NestedKey.datas b → a = b
  | [], [], _ => rfl
  | [], _ :: _, h => by simp [NestedKey.datas] at h
  | _ :: _, [], h => by simp [NestedKey.datas] at h
  | x :: xs, y :: ys, h => by
    simp only [NestedKey.datas, List.cons.injEq] at h
    rw [data_inj x y h.1, datas_inj xs ys h.2]
end
theorem nkey_tup {xs : List W} {k : NestedKey} (h : nkey (.tup xs) = some k) : ∃ ks, nkeys xs = some ks ∧ k = .tup ks := by
  unfold nkey at h
  cases q : nkeys xs with
  | none => rw [q] at h; cases h
  | some ks => rw [q] at h; cases h; exact ⟨ks, rfl, rfl⟩
theorem nkeys_cons {w : W} {ws : List W} {ks : List NestedKey} (h : nkeys (w :: ws) = some ks) : ∃ k r, nkey w = some k ∧ nkeys ws = some r ∧ ks = k :: r := by
  unfold nkeys at h
  cases q : nkey w with
  | none => rw [q] at h; cases h
  | some k =>
    rw [q] at h
    cases q2 : nkeys ws with
    | none => simp only [q2] at h; cases h
    | some r => simp only [q2] at h; cases h; exact ⟨k, r, rfl, rfl, rfl⟩
mutual
theorem nkey_inj : ∀ (a b : W) (k : NestedKey), nkey a = some k → nkey b = some k → a = b
  | .k u, b, k, h1, h2 => by
    cases u <;> (unfold nkey at h1) <;> (first | (cases h1; done) | skip)
    all_goals
      cases h1
      cases b with
      | k v => cases v <;> (unfold nkey at h2) <;> first | (cases h2; rfl) | cases h2
      | tup ys => obtain ⟨_, _, e⟩ := nkey_tup h2; cases e
      | mix _ => (first | exact post_stuck (by assumption) | exact .inl (by assumption) | (exfalso; contradiction) | (unfold nkey at *; contradiction) | (unfold RW at *; simp_all; done) | (simp_all; done))
      | obj i => unfold nkey at h2; cases h2
  | .obj i, b, k, h1, h2 => by unfold nkey at h1; cases h1
  | .mix i, b, k, h1, h2 => by unfold nkey at h1; cases h1
  | .tup xs, b, k, h1, h2 => by
    obtain ⟨ks, e1, rfl⟩ := nkey_tup h1
    cases b with
    | k v => cases v <;> (unfold nkey at h2) <;> cases h2
    | tup ys =>
      obtain ⟨ks', e2, e⟩ := nkey_tup h2
      cases e
      rw [nkeys_inj xs ys ks e1 e2]
    | mix _ => (first | exact post_stuck (by assumption) | exact .inl (by assumption) | (exfalso; contradiction) | (unfold nkey at *; contradiction) | (unfold RW at *; simp_all; done) | (simp_all; done))
    | obj i => unfold nkey at h2; cases h2
theorem nkeys_inj : ∀ (a b : List W) (ks : List NestedKey), nkeys a = some ks → nkeys b = some ks → a = b
  | [], b, ks, h1, h2 => by
    unfold nkeys at h1
    cases h1
    cases b with
    | nil => rfl
    | cons y ys => obtain ⟨_, _, _, _, e⟩ := nkeys_cons h2; cases e
  | x :: xs, b, ks, h1, h2 => by
    obtain ⟨k, r, e1, e2, rfl⟩ := nkeys_cons h1
    cases b with
    | nil => unfold nkeys at h2; cases h2
    | cons y ys =>
      obtain ⟨k', r', e3, e4, e⟩ := nkeys_cons h2
      cases e
      rw [nkey_inj x y k e1 e3, nkeys_inj xs ys r e2 e4]
end
/-- a datum's key -/
def KeyIs (n : Nat) (w : W) (d : PyData) : Prop := ∃ k, nkey w = some k ∧ k.depth ≤ n ∧ noTx k = true ∧ k.data = d
/-! one order alone -/
end Ev

namespace Ev
open PySem PySem.Spec PyProof.Rows L2
open PySem.W (alike alikeAll dataLt AllAlike Sortable EachIs TotalLe sameRank dataLe)
section
variable {X : Cx}
end
/-! ### the rows of a list -/
section
variable {G : Glo}
end
end Ev

namespace Ev
open PySem PySem.Spec PyProof.Rows L2
open PySem.W (alike alikeAll dataLt AllAlike Sortable EachIs TotalLe sameRank dataLe)
end Ev

namespace Ev
open PySem PySem.Spec PyProof.Rows L2
open PySem.W (alike alikeAll dataLt AllAlike Sortable EachIs TotalLe sameRank dataLe)
section
variable {G : Glo} {X : Cx} {W' : WX} {pos : Pos}
end
end Ev

namespace Ev
open PySem PySem.Spec PyProof.Rows L2
/-! the law's box, of a list of whole numbers that nobody knows -/
section
variable {G : Glo}
end
open PySem PySem.Spec PyProof.Rows L2
section
variable {G : Glo}
theorem Cf.one {H : Hp} {p : Addr} {v : HV} {o : HO} (hp : H p = some o) (r : RO G [p] H p v o) : (Cf.mk [p] H (FH.mk 1 [(0, v)])).Ok G := by
  refine ⟨rfl, fun i j a h1 h2 => ?_, fun i a h => ?_, fun i w h => ?_⟩
  · cases i with
    | zero => cases j with
      | zero => rfl
      | succ j => simp at h2
    | succ i => simp at h1
  · cases i with
    | zero =>
      have e : p = a := by simpa using h
      show H a ≠ none
      rw [← e, hp]; simp
    | succ i => simp at h
  · have h' : lookA [(0, v)] i = some w := h
    simp only [lookA, beq_dec] at h'
    by_cases q : 0 = i
    · subst q
      simp at h'
      subst h'
      exact ⟨p, o, rfl, hp, r⟩
    · simp [q] at h'
end
end Ev

namespace Ev
open PySem PySem.Spec PyProof.Rows L2
/-! any(t), t a tuple of whole numbers -/
section
variable {X : Cx}
end
/-! in the reckoner -/
section
variable {G : Glo} {X : Cx}
end
end Ev

namespace Ev
open PySem PySem.Spec PyProof.Rows L2
section
variable {G : Glo} {X : Cx} {W' : WX} {pos : Pos}
/-! o[i] op= e, o a list -/
end
end Ev

namespace Ev
open PySem PySem.Spec PyProof.Rows L2
open PySem.W (alike alikeAll dataLt AllAlike Sortable EachIs TotalLe sameRank dataLe)
section
variable {G : Glo} {X : Cx} {W' : WX} {pos : Pos}
/-! <=, >, >= of tuples -/
end
end Ev

namespace Ev
open PySem PySem.Spec PyProof.Rows L2
section
variable {G : Glo} {X : Cx} {W' : WX} {pos : Pos}
/-! o.f op= e -/
end
end Ev

namespace Ev
open PySem PySem.Spec PyProof.Rows L2
/-! ## reversed(range(..)) as an iterator -/
section
variable {G : Glo} {X : Cx} {W' : WX} {pos : Pos}
end
end Ev

namespace Ev
open PySem PySem.Spec PyProof.Rows L2
/-! ## a dict whose keys are whole numbers -/
section
variable {G : Glo} {X : Cx} {W' : WX} {pos : Pos}
theorem KIs.length {K : PySem.W.Frag} {ρ : List Addr} {H : Hp} : ∀ {kvs : List (Int × W)} {xs : List (Key × V)}, KIs K ρ H kvs xs → xs.length = kvs.length
  | [], xs, h => by
    cases (show xs = [] from h)
    rfl
  | p :: r, xs, h => by
    obtain ⟨u, ys, rfl, h1, h2⟩ := h
    simp [h2.length]
/-! ### k in d, d[k], d[k] = v -/
end
/-! ## len(set(xs)), xs a list of whole numbers -/
section
variable {X : Cx}
end
section
variable {G : Glo} {X : Cx} {W' : WX} {pos : Pos}
end
end Ev

namespace Ev
open PySem PySem.Spec PyProof.Rows L2
/-! ## an expression whose draws and new objects are forgotten: all its ways must end alike -/
noncomputable def eqV : V → V → Bool
  | .int i, .int j => iEq i j
  | .bl a, .bl b => a == b
  | .non, .non => true
  | .str x, .str y => eqS x y
  | _, _ => false
theorem eqV_eq {a b : V} (h : eqV a b = true) : a = b := by
  cases a <;> cases b <;> first
    | rfl
    | (simp only [eqV, Bool.false_eq_true] at h; done)
    | (simp only [eqV, iEq_eq, decide_eq_true_eq] at h; rw [h])
    | (simp only [eqV, beq_iff_eq] at h; rw [h])
    | (simp only [eqV, eqS_eq, decide_eq_true_eq] at h; rw [h])
mutual
noncomputable def eqW : W → W → Bool
  | .k a, .k b => eqV a b
  | .tup xs, .tup ys => eqWs xs ys
  | .obj i, .obj j => Nat.beq i j
  | _, _ => false
noncomputable def eqWs : List W → List W → Bool
  | [], [] => true
  | x :: xs, y :: ys => match eqW x y with
    | true => eqWs xs ys
    | false => false
  | _, _ => false
end
mutual
theorem eqW_eq : ∀ {a b : W}, eqW a b = true → a = b
  | .k a, .k b, h => by unfold eqW at h; rw [eqV_eq h]
  | .tup xs, .tup ys, h => by unfold eqW at h; rw [eqWs_eq h]
  | .obj i, .obj j, h => by unfold eqW at h; rw [Nat.eq_of_beq_eq_true h]
  | .k _, .tup _, h => by unfold eqW at h; cases h
  | .k _, .obj _, h => by unfold eqW at h; cases h
  | .tup _, .k _, h => by unfold eqW at h; cases h
  | .tup _, .obj _, h => by unfold eqW at h; cases h
  | .mix _, _, h => by unfold eqW at h; cases h
  | .k _, .mix _, h => by unfold eqW at h; cases h
  | .tup _, .mix _, h => by unfold eqW at h; cases h
  | .obj _, .mix _, h => by unfold eqW at h; cases h
  | .obj _, .k _, h => by unfold eqW at h; cases h
  | .obj _, .tup _, h => by unfold eqW at h; cases h
theorem eqWs_eq : ∀ {xs ys : List W}, eqWs xs ys = true → xs = ys
  | [], [], _ => rfl
  | x :: xs, y :: ys, h => by
    unfold eqWs at h
    cases q : eqW x y with
    | false => rw [q] at h; cases h
    | true =>
      rw [q] at h
      rw [eqW_eq q, eqWs_eq h]
  | [], _ :: _, h => by unfold eqWs at h; cases h
  | _ :: _, [], h => by unfold eqWs at h; cases h
end
noncomputable def eqH : HV → HV → Bool
  | .lst xs, .lst ys => eqWs xs ys
  | .cel, .cel => true
  | .urn n, .urn m => Nat.beq n m
  | _, _ => false
/-! names below n only -/
mutual
def cloW (n : Nat) : W → Bool
  | .k _ => true
  | .tup xs => cloWs n xs
  | .obj i => Nat.blt i n
  | .mix xs => cloWs n xs
def cloWs (n : Nat) : List W → Bool
  | [] => true
  | x :: xs => match cloW n x with
    | true => cloWs n xs
    | false => false
end
mutual
theorem cloW_rw {K : PySem.W.Frag} {ρ : List Addr} {H : Hp} {n : Nat} : ∀ {w : W} {v : V}, cloW n w = true → RW K ρ H w v → RW K (ρ.take n) H w v
  | .k _, v, c, h => by unfold RW at h ⊢; exact h
  | .tup xs, v, c, h => by
    unfold RW at h ⊢
    unfold cloW at c
    obtain ⟨a, vs, e, h1, h2⟩ := h
    exact ⟨a, vs, e, h1, cloWs_rw c h2⟩
  | .obj i, v, c, h => by
    unfold RW at h ⊢
    unfold cloW at c
    obtain ⟨a, e, h1⟩ := h
    exact ⟨a, e, by rw [List.getElem?_take_of_lt (blt_of c)]; exact h1⟩
  | .mix xs, v, c, h => by
    unfold RW at h ⊢
    unfold cloW at c
    obtain ⟨a, vs, e, h1, h2⟩ := h
    exact ⟨a, vs, e, h1, cloWs_rw c h2⟩
theorem cloWs_rw {K : PySem.W.Frag} {ρ : List Addr} {H : Hp} {n : Nat} : ∀ {ws : List W} {vs : List V}, cloWs n ws = true → RWs K ρ H ws vs → RWs K (ρ.take n) H ws vs
  | [], vs, c, h => by unfold RWs at h ⊢; exact h
  | w :: ws, vs, c, h => by
    unfold cloWs at c
    cases q : cloW n w with
    | false => rw [q] at c; cases c
    | true =>
      rw [q] at c
      unfold RWs at h ⊢
      obtain ⟨v, r, e, h1, h2⟩ := h
      exact ⟨v, r, e, cloW_rw q h1, cloWs_rw c h2⟩
end
section
variable {G : Glo} {X : Cx} {W' : WX} {pos : Pos}
end
end Ev

namespace Ev
open PySem PySem.Spec PyProof.Rows L2
/-! ## an expression over one plain local and the urn, reckoned once and kept in a table -/
mutual
theorem rw_any {K : PySem.W.Frag} {ρ ρ' : List Addr} {H : Hp} : ∀ {w : W} {v : V}, cloW 0 w = true → RW K ρ H w v → RW K ρ' H w v
  | .k _, v, c, h => by unfold RW at h ⊢; exact h
  | .tup xs, v, c, h => by
    unfold RW at h ⊢
    unfold cloW at c
    obtain ⟨a, vs, e, h1, h2⟩ := h
    exact ⟨a, vs, e, h1, rws_any c h2⟩
  | .obj i, v, c, h => by
    unfold cloW at c
    exact absurd (blt_of c) (Nat.not_lt_zero i)
  | .mix xs, v, c, h => by
    unfold RW at h ⊢
    unfold cloW at c
    obtain ⟨a, vs, e, h1, h2⟩ := h
    exact ⟨a, vs, e, h1, rws_any c h2⟩
theorem rws_any {K : PySem.W.Frag} {ρ ρ' : List Addr} {H : Hp} : ∀ {ws : List W} {vs : List V}, cloWs 0 ws = true → RWs K ρ H ws vs → RWs K ρ' H ws vs
  | [], vs, c, h => by unfold RWs at h ⊢; exact h
  | w :: ws, vs, c, h => by
    unfold cloWs at c
    cases q : cloW 0 w with
    | false => rw [q] at c; cases c
    | true =>
      rw [q] at c
      unfold RWs at h ⊢
      obtain ⟨v, r, e, h1, h2⟩ := h
      exact ⟨v, r, e, rw_any q h1, rws_any c h2⟩
end
/-- the local io and the urn alone -/
def mkL (len iu io : Nat) (w : W) : Lo := setL (setL (List.replicate len none) io (some w)) iu (some (.obj 0))
abbrev UE := W × Nat × W × Nat
section
variable {G : Glo} {X : Cx} {W' : WX} {pos : Pos}
end
end Ev

namespace Ev
open PySem PySem.Spec PyProof.Rows L2
/-! ## calls of plain arguments, reckoned once: the answer may hold new lists -/
mutual
noncomputable def shW (d : Nat) : W → W
  | .k v => .k v
  | .tup xs => .tup (shWs d xs)
  | .obj i => .obj (Nat.add d i)
  | .mix xs => .mix (shWs d xs)
noncomputable def shWs (d : Nat) : List W → List W
  | [] => []
  | x :: xs => shW d x :: shWs d xs
end
mutual
theorem shW_rw {K : PySem.W.Frag} {ρ ρ' : List Addr} {H : Hp} : ∀ {w : W} {v : V}, RW K ρ' H w v → RW K (ρ ++ ρ') H (shW ρ.length w) v
  | .k _, v, h => by unfold shW; unfold RW at h ⊢; exact h
  | .tup xs, v, h => by
    unfold shW
    unfold RW at h ⊢
    obtain ⟨a, vs, e, h1, h2⟩ := h
    exact ⟨a, vs, e, h1, shWs_rw h2⟩
  | .obj i, v, h => by
    unfold shW
    unfold RW at h ⊢
    obtain ⟨a, e, h1⟩ := h
    refine ⟨a, e, ?_⟩
    show (ρ ++ ρ')[ρ.length + i]? = some a
    rw [List.getElem?_append_right (by omega)]
    rw [show ρ.length + i - ρ.length = i by omega]
    exact h1
  | .mix xs, v, h => by
    unfold shW
    unfold RW at h ⊢
    obtain ⟨a, vs, e, h1, h2⟩ := h
    exact ⟨a, vs, e, h1, shWs_rw h2⟩
theorem shWs_rw {K : PySem.W.Frag} {ρ ρ' : List Addr} {H : Hp} : ∀ {ws : List W} {vs : List V}, RWs K ρ' H ws vs → RWs K (ρ ++ ρ') H (shWs ρ.length ws) vs
  | [], vs, h => by unfold shWs; unfold RWs at h ⊢; exact h
  | w :: ws, vs, h => by
    unfold shWs
    unfold RWs at h ⊢
    obtain ⟨v, r, e, h1, h2⟩ := h
    exact ⟨v, r, e, shW_rw h1, shWs_rw h2⟩
end
section
variable {G : Glo}
end
end Ev

namespace Ev
open PySem PySem.Spec PyProof.Rows L2
/-! ## things whose lists and tuples nobody knows apart: a draw per list or tuple, all ways at once -/
inductive LockAll : Hp → (Hp → Prop) → Prop
  | done {H : Hp} {R : Hp → Prop} (h : R H) : LockAll H R
  | lock {H : Hp} {R : Hp → Prop} {a : Addr} {xs : List V} (e : H a = some (.lst xs)) (k : ∀ o, LockAll (upd H a (.frz o (.lst xs))) R) : LockAll H R
/-- H is H0, but some lists of A are locked -/
def Frzd (A : Addr → Prop) (H0 H : Hp) : Prop := ∀ a, H a = H0 a ∨ (A a ∧ ∃ o xs, H0 a = some (.lst xs) ∧ H a = some (.frz o (.lst xs)))
/-! the shape: what is told, what came out -/
mutual
noncomputable def isMx (l : List (Nat × HV)) : W → W → Bool
  | .mix ys, w => match w with
    | .tup xs => isMxs l ys xs
    | .obj i => match Nat.blt 0 i with
      | true => match lookA l i with
        | some hv => match hv with
          | .lst xs => isMxs l ys xs
          | _ => false
        | none => false
      | false => false
    | _ => false
  | .k a, w => match w with
    | .k b => eqV a b
    | _ => false
  | .tup _, _ => false
  | .obj _, _ => false
noncomputable def isMxs (l : List (Nat × HV)) : List W → List W → Bool
  | [], xs => match xs with
    | [] => true
    | _ :: _ => false
  | y :: ys, xs => match xs with
    | [] => false
    | x :: xs => match isMx l y x with
      | true => isMxs l ys xs
      | false => false
end
noncomputable def allB0 (ih : Nat → Bool) (n : Nat) : Bool := Nat.rec (motive := fun _ => Bool) true (fun k r => match ih k with
  | true => r
  | false => false) n
/-- each way gives a thing of this shape, the urn drawn this often -/
noncomputable def allMx (y : W) (n : Nat) (m : Res W) : Bool := Res.rec (motive := fun _ => Bool) (fun a S => match isMx S.l y a with
  | true => match lookA S.l 0 with
    | some hv => eqH hv (.urn n)
    | none => false
  | false => false) (fun _ _ _ _ => false) (fun k _ ih => allB0 ih k) false m
noncomputable def okX (f : Evl) (iu io len : Nat) (e : UE) : Bool := match allMx e.2.2.1 e.2.2.2 (f (mkL len iu io e.1) ⟨1, [(0, .urn e.2.1)]⟩) with
  | true => match cloW 0 e.1 with
    | true => cloW 0 e.2.2.1
    | false => false
  | false => false
section
variable {G : Glo} {X : Cx} {W' : WX}
theorem frz_tup {K : PySem.W.Frag} {A : Addr → Prop} {H0 H : Hp} (f : Frzd A H0 H) {a : Addr} {vs : List V} (h : SqT K H0 a vs) : SqT K H a vs := by
  have key : ∀ o, H0 a = some o → (∀ xs, o ≠ .lst xs) → H a = some o := fun o e n => by
    rcases f a with e' | ⟨_, _, xs, e1, _⟩
    · rw [e', e]
    · rw [e] at e1; cases e1; exact absurd rfl (n xs)
  rcases h with (h | ⟨o, h⟩) | h
  · exact .inl (.inl (key _ h fun _ z => HO.noConfusion z))
  · exact .inl (.inr ⟨o, key _ h fun _ z => HO.noConfusion z⟩)
  · exact .inr h
mutual
theorem mx_rw {C : Cf} (ok : C.Ok G) {A : Addr → Prop} {H : Hp} {ρ : List Addr} (f : Frzd A C.H H) (al : ∀ (i : Nat) (a : Addr) (vs : List V), 0 < i → C.ρ[i]? = some a → C.H a = some (.lst vs) → ∃ o, H a = some (.frz o (.lst vs))) : ∀ {y w : W} {v : V}, isMx C.S.l y w = true → RW G.K C.ρ C.H w v → RW G.K ρ H y v
  | .mix ys, w, v, h, r => by
    unfold isMx at h
    cases w with
    | k _ => cases h
    | mix _ => cases h
    | tup xs =>
      unfold RW at r ⊢
      obtain ⟨a, vs, e, h1, h2⟩ := r
      exact ⟨a, vs, e, .inl (frz_tup f h1), mxs_rw ok f al h h2⟩
    | obj i =>
      simp only at h
      cases q0 : Nat.blt 0 i with
      | false => simp only [q0] at h; cases h
      | true =>
        simp only [q0] at h
        cases q : lookA C.S.l i with
        | none => rw [q] at h; cases h
        | some hv =>
          rw [q] at h
          cases hv with
          | lst xs =>
            obtain ⟨a, vs, h1, h2, h3⟩ := Cf.lstAt ok (show C.S.get i = some (.lst xs) from q)
            unfold RW at r ⊢
            obtain ⟨a', e, h4⟩ := r
            rw [h1] at h4; cases h4
            obtain ⟨o, h5⟩ := al i a vs (blt_of q0) h1 h2
            exact ⟨a, vs, e, .inr ⟨o, h5⟩, mxs_rw ok f al h h3⟩
          | _ => cases h
  | .k a, w, v, h, r => by
    unfold isMx at h
    cases w with
    | k b =>
      have := eqV_eq h
      subst this
      unfold RW at r ⊢
      exact r
    | _ => cases h
  | .tup _, _, _, h, _ => by unfold isMx at h; cases h
  | .obj _, _, _, h, _ => by unfold isMx at h; cases h
theorem mxs_rw {C : Cf} (ok : C.Ok G) {A : Addr → Prop} {H : Hp} {ρ : List Addr} (f : Frzd A C.H H) (al : ∀ (i : Nat) (a : Addr) (vs : List V), 0 < i → C.ρ[i]? = some a → C.H a = some (.lst vs) → ∃ o, H a = some (.frz o (.lst vs))) : ∀ {ys ws : List W} {vs : List V}, isMxs C.S.l ys ws = true → RWs G.K C.ρ C.H ws vs → RWs G.K ρ H ys vs
  | [], [], vs, h, r => by unfold RWs at r ⊢; exact r
  | [], _ :: _, vs, h, r => by unfold isMxs at h; cases h
  | _ :: _, [], vs, h, r => by unfold isMxs at h; cases h
  | y :: ys, x :: xs, vs, h, r => by
    unfold isMxs at h
    simp only at h
    cases q : isMx C.S.l y x with
    | false => rw [q] at h; cases h
    | true =>
      rw [q] at h
      unfold RWs at r ⊢
      obtain ⟨v, r', e, h1, h2⟩ := r
      exact ⟨v, r', e, mx_rw ok f al q h1, mxs_rw ok f al h h2⟩
end
end
end Ev

namespace Ev
open PySem PySem.Spec PyProof.Rows L2
open PySem.W (alike alikeAll dataLt AllAlike Sortable EachIs TotalLe sameRank dataLe KeyEnd KeyIs KeyedOut)
/-! ## sorted(.., key=sum), sorted(.., key=len), reverse=True too -/
section
variable {X : Cx} {pins : List (Addr × Obj)} {σ : L2.St} {H : Hp} {s : Shared} {E : Value → Shared → Prop}
/-- keywords whose values are known -/
structure KV (X : Cx) (kws : List Keyword) (ws : List Value) : Prop where
  run : ∀ (pos : Pos) (pins : List (Addr × Obj)) (s : Shared) (σ : L2.St) (H : Hp) (Q : List Value → Shared → Prop), Inv X pins σ H s → (∀ s', Inv X pins σ H s' → Q ws s') → wpAny (model X.prog X.w) X.A (evalAll ((backToKw pos (keywordEach kws X.env)).map (·.2))) Q X.xe s
end
/-! in the reckoner -/
section
variable {G : Glo} {X : Cx} {W' : WX} {pos : Pos}
end
end Ev

namespace Ev
open PySem PySem.Spec PyProof.Rows L2
/-! ## dict(d), d a dict whose keys are tuples: the keys' hashes must be unlike (nothing is known of two keys that meet) -/
section
variable {X : Cx}
end
section
variable {G : Glo} {X : Cx} {W' : WX} {pos : Pos}
end
end Ev

namespace Ev
open PySem PySem.Spec PyProof.Rows L2
/-! ## f(..), f a local name that holds one of some defs -/
section
variable {G : Glo} {X : Cx} {W' : WX} {x : Str} {p pos : Pos} {e : Expr} {es : List Expr} {t : TA}
end
end Ev

namespace Ev
open PySem PySem.Spec PyProof.Rows L2
/-! ## len(set(t)), t a tuple of whole numbers -/
section
variable {X : Cx}
end
section
variable {G : Glo} {X : Cx} {W' : WX} {pos : Pos}
end
end Ev

namespace Ev
open PySem PySem.Spec PyProof.Rows L2
/-! ## {k: v for ..} and d.get(k, z), keys whole numbers -/
section
variable {G : Glo} {X : Cx} {W' : WX} {pos : Pos}
end
end Ev

namespace Ev
open PySem PySem.Spec PyProof.Rows L2
open PySem.W (alike dataLt AllAlike Sortable AlikeAll minD)
/-! ## min of a list of things that can be compared, the least one alone -/
section
variable {X : Cx} {pins : List (Addr × Obj)} {σ : L2.St} {H : Hp} {s : Shared}
end
section
variable {G : Glo} {X : Cx} {W' : WX} {pos : Pos}
end
end Ev

namespace Ev
open PySem PySem.Spec PyProof.Rows L2
/-! ## zip(*rows): any number of tuples -/
/-- one of the tuples: where it stands, its items, the item of this turn -/
structure Zp where
  a : Nat
  its : List Value
  x : Value
section
variable {prog : Program} {w : World} {A : Around} {E : Value → Shared → Prop} {s : Shared}
end
end Ev

namespace Ev
open PySem PySem.Spec PyProof.Rows L2
section
variable {X : Cx} {pins : List (Addr × Obj)} {σ : L2.St} {H : Hp} {s : Shared}
end
end Ev

namespace Ev
open PySem PySem.Spec PyProof.Rows L2
/-! ## zip(*rows), the reckoner's side -/
section
variable {G : Glo} {X : Cx} {W' : WX} {pos : Pos}
end
end Ev

namespace Ev
open PySem PySem.Spec PyProof.Rows L2
/-! ## list.remove of a whole number; sets of whole numbers -/
section
variable {G : Glo} {X : Cx} {W' : WX} {pos : Pos}
/-! ### set(), add, sorted -/
end
end Ev

namespace Ev
open PySem PySem.Spec PyProof.Rows L2
/-! ## d.setdefault(k, x), the keys tuples -/
section
variable {X : Cx} {pins : List (Addr × Obj)} {σ : L2.St} {H : Hp} {s : Shared}
end
section
variable {G : Glo} {X : Cx} {W' : WX} {pos : Pos}
end
end Ev

namespace Ev
open PySem PySem.Spec PyProof.Rows L2
/-! ## for v in d.values(), the keys tuples -/
section
variable {G : Glo} {X : Cx} {W' : WX} {pos : Pos}
end
end Ev

namespace Ev
open PySem PySem.Spec PyProof.Rows L2
/-! ## dict(zip(ns, ys)), the keys whole numbers -/
section
variable {X : Cx} {pos : Pos}
end
section
variable {G : Glo} {X : Cx} {W' : WX} {pos : Pos}
/-! ### tuple(range(..)) -/
end
end Ev

namespace Ev
open PySem PySem.Spec PyProof.Rows L2
/-! ## exception objects as values -/
section
variable {X : Cx}
/-- what makes an exception, as a value -/
theorem pe_of_pmk {e : Expr} {t : L2.St → Hp → XK → Prop} (h : PMk X e t) : PE X e (fun σ H Q => t σ H fun cls d H1 => ∀ a, H1 a = none → Q (.ref a) (upd H1 a (ExV cls d a))) := by
  refine ⟨fun pins s σ H Q I q => ?_⟩
  refine wpAny_mono (h pins s σ H _ I q) (fun u s' hu => ?_) fun _ _ x => x
  obtain ⟨a, oe, vs, sI, H', cls, d, rfl, J, k, hne, ha, hz, hd, h1, na, os, ag, r, q'⟩ := hu
  have new : ObjOk X.prog X.w (upd H' a (ExV cls d a)) s'.heap a (ExV cls d a) := ⟨⟨oe, vs, ha, hz, hd⟩, ⟨oe, ha⟩, fun h1 h2 ⟨o, v, q, r⟩ k => ⟨o, v, k o q, r⟩⟩
  have J0 := J.laidN (t' := s'.toks) k hne na new
  have J1 : Inv X pins σ (upd H' a (ExV cls d a)) s' := ⟨J0.ok, by rw [os]; exact J0.os, ag, J0.base, J0.loc, J0.cell, J0.free, J0.freeC, J0.pin, J0.hok, J0.len⟩
  exact ⟨.ref a, _, J1, rfl, q' a na⟩
/-- isinstance(e, c), e an exception held as a value -/
theorem call_isV : CallR X (.builtin "isinstance") (fun xs H Q => ∃ (a D : Addr) (d : Option Addr) (c : V) (cv : Value) (b : Bool), xs = [.ref a, c] ∧ H a = some (ExV (.ref D) d a) ∧ ExcC X.K D ∧ (∀ u, RelV c u → u = cv) ∧ PySem.W.kitOne X.K (.ref D) cv = some b ∧
    (∀ dd : Addr, d = some dd → ∃ f v, H dd = some (.xd [(f, v)])) ∧ Q (.bl b) H) := by
  intro pins s σ H xs us Q I r h
  obtain ⟨a, D, d, c, cv, b, rfl, ha, C, hcv, e, hdd, q⟩ := h
  cases r with
  | cons rx rr =>
    cases rr with
    | cons rt rr =>
      cases rr
      cases rx
      have ec := hcv _ rt
      subst ec
      obtain ⟨⟨oe, vs, hget, hz, hv⟩, _, _⟩ := I.hok a _ ha
      have J : ∃ od, PySem.W.InstAt s.heap a oe D od := by
        cases d with
        | none =>
          refine ⟨none, ?_⟩
          obtain ⟨oc, od, oda, osl⟩ := oe
          obtain ⟨h1, h2⟩ := hz
          dsimp only at h1 h2 hv
          subst h1 h2 hv
          exact ⟨hget, rfl, rfl, trivial⟩
        | some dd =>
          obtain ⟨f, v, ea⟩ := hdd dd rfl
          have hx : ObjOk X.prog X.w H s.heap dd (.xd [(f, v)]) := I.hok dd _ ea
          obtain ⟨mA, hns, hr⟩ := hx
          obtain ⟨od, ho, hl⟩ := lookIn_ns hns
          exact ⟨some od, hget, hz.1, by unfold PySem.W.notCls; rw [hv] <;> rfl, by rw [hz.2]; exact ho⟩
      obtain ⟨od, J⟩ := J
      exact PySem.W.kia_one (PySem.W.handS_kitx_excP C.hg C.hk C.hs C.hd C.ha C.hn C.ht C.hm) I.kIn J e (fun z => nomatch z) fun tk => ⟨.bl b, H, I.kept (t' := tk) fun _ _ z => z, rfl, q⟩
end
section
variable {G : Glo} {X : Cx} {W' : WX} {pos : Pos}
/-- X(), no own __init__ -/
noncomputable def evMk0 (c : Nat) : Evl := fun _ S => newK S (.exv c) fun n S1 => .ok (.obj n) S1
theorem se_mk0 {c : Nat} {x : Str} {p : Pos} (hx : Okx G X) (E : Exc0 G X.mg c x) (hg : Gl X x) (hdb : (x == ("__debug__" : Str)) = false := by decide) : SE G X W' (evMk0 c) (.Call (.Name x p) [] [] pos) := by
  obtain ⟨bmB, B, newId, initId, F, q⟩ := E.q
  rw [← hx.k] at q
  refine pe_imp (pe_of_pmk (pmk_own0A F q E.mg (by rw [hx.k]; exact E.kp) (raises_own (by rw [hx.k]; exact E.s1) (by rw [hx.k]; exact E.s2)) hg hdb)) fun σ H Q ⟨C, l, e, ok, r, p⟩ => ?_
  subst e
  unfold evMk0 at p
  simp only [newK_eq] at p
  intro a ha
  obtain ⟨ok1, x1, h1⟩ := Cf.alloc (v := .exv c) (o := ExV (.ref (G.cad c)) none a) ok ha ⟨none, rfl, fun dd z => nomatch z⟩
  unfold Post at p
  refine p ⟨C.ρ ++ [a], _, C.S.new (.exv c)⟩ rfl ok1 x1 (.ref a) ?_
  unfold RW
  exact ⟨a, rfl, h1⟩
/-- X(e), its own __init__ keeps e -/
noncomputable def evMkP (c : Nat) (f : Evl) : Evl := fun l S => (f l S).bnd fun _ S1 => newK S1 (.exv c) fun n S2 => .ok (.obj n) S2
theorem se_mkP {c k : Nat} {x n : Str} {f : Evl} {e : Expr} {p : Pos} (hx : Okx G X) (hr : Room k X.A) (E : ExcP G X.mg c x n) (he : SE G X W' f e) (hg : Gl X x) (hdb : (x == ("__debug__" : Str)) = false := by decide)
    (hs : starEach (e :: []) X.env = (false, eval e X.env) :: starEach [] X.env := by rfl) (hpl : (backTo pos (starEach [] X.env)).any (·.1) = false := by rfl) : SE G X W' (evMkP c f) (.Call (.Name x p) [e] [] pos) := by
  obtain ⟨fI, qn, B, newId, initId, bmB, T⟩ := E.q
  rw [← hx.k] at T
  refine pe_imp (pe_of_pmk (pmk_ownP T E.mg (by rw [hx.k]; exact E.kp) (by have := hr.dp; omega) (pa_cons he pa_nil hs) hg hdb hs hpl)) fun σ H Q ⟨C, l, e, ok, r, p⟩ => ?_
  subst e
  refine ⟨C, l, rfl, ok, r, Post.mono (fun w C1 ok1 x1 p1 v rv => ⟨v, rfl, fun d hd a ha => ?_⟩) (Post.bnd p)⟩
  obtain ⟨ok2, x2⟩ := Cf.tupd (o := .xd [(n, v)]) ok1 hd
  have p2 := Post.base x2 p1
  rw [newK_eq] at p2
  obtain ⟨ok3, x3, h3⟩ := Cf.alloc (C := ⟨C1.ρ, upd C1.H d (.xd [(n, v)]), C1.S⟩) (v := .exv c) (o := ExV (.ref (G.cad c)) (some d) a) ok2 ha ⟨some d, rfl, fun dd z => by cases z; exact ⟨n, v, upd_same⟩⟩
  unfold Post at p2
  refine p2 ⟨C1.ρ ++ [a], _, C1.S.new (.exv c)⟩ rfl ok3 x3 (.ref a) ?_
  unfold RW
  exact ⟨a, rfl, h3⟩
/-- isinstance(e, c): tab tells, by the class's number -/
noncomputable def evIsV (tab : Nat → Option Bool) (f : Evl) : Evl := fun l S => (f l S).bnd fun w S1 => match w with
  | .obj i => match S1.get i with
    | some v => match v with
      | .exv c => match tab c with
        | some b => .ok (.k (.bl b)) S1
        | none => .stuck
      | _ => .stuck
    | none => .stuck
  | _ => .stuck
theorem se_isV {tab : Nat → Option Bool} {f : Evl} {e ce : Expr} {cv : V} {u : Value} {p : Pos} (hx : Okx G X) (h : SE G X W' f e) (hce : PE X ce (tC cv)) (hcv : ∀ w, RelV cv w → w = u)
    (ht : ∀ c b, tab c = some b → ExcC G.K (G.cad c) ∧ PySem.W.kitOne G.K (.ref (G.cad c)) u = some b) (hg : Gl X "isinstance") (hm : X.mg "isinstance" = none)
    (he1 : starEach [e, ce] X.env = (false, eval e X.env) :: starEach [ce] X.env := by rfl) (he2 : starEach [ce] X.env = (false, eval ce X.env) :: starEach [] X.env := by rfl) (hpl : (backTo pos (starEach [ce] X.env)).any (·.1) = false := by rfl) :
    SE G X W' (evIsV tab f) (.Call (.Name "isinstance" p) [e, ce] [] pos) :=
  pe_imp (pe_callB call_isV hg hm PyProof.Rows.boot_isinstance (pa_cons h (pa_cons hce pa_nil he2) he1) (by decide) (by decide) he1 hpl) fun σ H Q ⟨C, l, e, ok, r, p⟩ => by
    subst e
    refine ⟨C, l, rfl, ok, r, Post.mono (fun w C1 ok1 x1 p1 v rv => ?_) (Post.bnd p)⟩
    cases w with
    | k _ => exact post_stuck p1
    | tup _ => exact post_stuck p1
    | mix _ => exact post_stuck p1
    | obj i =>
      simp only at p1
      cases q : C1.S.get i with
      | none => rw [q] at p1; exact post_stuck p1
      | some hv =>
        rw [q] at p1
        cases hv with
        | exv c =>
          simp only at p1
          cases q2 : tab c with
          | none => rw [q2] at p1; exact post_stuck p1
          | some b =>
            rw [q2] at p1
            obtain ⟨a, o, h1, h2, h3⟩ := ok1.ob i _ q
            cases o <;> try exact h3.elim
            rename_i φ
            obtain ⟨d, n1, n2⟩ := h3
            unfold RW at rv
            obtain ⟨a', rfl, e'⟩ := rv
            rw [h1] at e'; cases e'
            obtain ⟨t1, t2⟩ := ht c b q2
            exact ⟨a, G.cad c, d, cv, u, b, rfl, h2.trans (congrArg some n1), by rw [hx.k]; exact t1, hcv, by rw [hx.k]; exact t2, n2, Post.now ok1 p1 _ mk_k⟩
        | _ => exact post_stuck p1
end
end Ev

/-! an own error's class with __init__(self, f), called by a keyword -/
namespace PySem.HandSPX
open PySem PySem.W PySem.Calls PyProof.Rows
section
variable {M : Model} {A : Around} {E : Value → Shared → Prop} {h : Heap} {g : Array GenState} {d : Drawn} {t : Nat} {os : OsState}
variable {nm q : Str} {C N : Addr} {bs bm bmB : List Value} {hdct : Bool} {sn : List Str} {sub : List Value} {ab : Bool} {col : Option Bool} {dd : Option Addr} {k0 k1 k2 k3 k5 : Option Value} {B newId initId : String}
theorem check_new_ownK (F : ExcBaseFacts B newId initId bmB) (hT : ∀ X : String, bm.contains (.type X) = bmB.contains (.type X)) {kn : Str} {kv : Value} {Q : Unit → Shared → Prop}
    (hC : h.get? C = some (excClassObj nm q C N bs bm hdct sn sub ab col dd k0 k1 k2 k3 k5 newId)) (hq : Q () ⟨h, g, d, t, os⟩) : wpAny M A (checkBuiltinCall newId ⟨[.ref C], [(kn, kv)]⟩) Q E ⟨h, g, d, t, os⟩ := by
  have hcont : (Value.ref C :: bm).contains (.type B) = true := by rw [List.contains_cons, hT, F.hasB, Bool.or_true]
  have hstar := F.noStar
  simp only [checkBuiltinCall, F.newKind, F.newSplit, F.newRow]
  repeat (first | refine wpAny_loadPart_at hC ?_ | (refine wpAny_isSubtype_exc hC ?_; rw [hcont]) | refine wpAny_staticBase_exc hC ?_ | refine wpAny_madeBy_exc hC ?_ | simp only [bne_self_eq_false, Bool.false_eq_true, if_false] | wp_step)
  exact hq
end
section
variable {prog : Program} {w : World} {A : Around} {E : Value → Shared → Prop} {R : Result → Shared → Prop} {h : Heap} {g : Array GenState} {d : Drawn} {t : Nat} {os : OsState}
variable {nm q : Str} {C N : Addr} {bs bm bmB : List Value} {hdct : Bool} {sn : List Str} {sub : List Value} {ab : Bool} {col : Option Bool} {dd : Option Addr} {k0 k1 k2 k3 k5 : Option Value} {B newId initId : String}
theorem new_ownK (F : ExcBaseFacts B newId initId bmB) (hT : ∀ X : String, bm.contains (.type X) = bmB.contains (.type X)) {kn : Str} {kv : Value}
    (hC : h.get? C = some (excClassObj nm q C N bs bm hdct sn sub ab col dd k0 k1 k2 k3 k5 newId))
    (hq : R (.ok (.ret (.ref (h.objs.size + 1)))) ⟨(h.push { cls := .type "tuple", data := .seq #[] }).push
      { cls := .ref C, data := .fields #[.ref h.objs.size, .none, .none, .none, .bool false, .none] }, g, d, t, os⟩) :
    codeAny (model prog w) A (.builtin newId ⟨[.ref C], [(kn, kv)]⟩) R ⟨h, g, d, t, os⟩ := by
  have hends := F.ends
  have hcB : (Value.ref C :: bm).contains (.type B) = true := by rw [List.contains_cons, hT, F.hasB, Bool.or_true]
  have hcA : (Value.ref C :: bm).contains (.type "AttributeError") = false := by rw [List.contains_cons, hT, F.noAttr]; rfl
  have hcN : (Value.ref C :: bm).contains (.type "NameError") = false := by rw [List.contains_cons, hT, F.noName]; rfl
  refine codeAny_builtinAt F.entry ?_
  unfold Builtin.«BaseException.__new__»
  refine wpAt_bind ?_
  show wpAt _ _ _ (stack >>= _) _ _ _
  refine wpAt_bind (wpAt_stack fun p below => wpAt_of_wpAny ?_)
  wp_walk
  refine wpAt_of_wpAny ?_
  rw [F.owner]
  repeat (first | with_reducible refine wpAny_madeHere_exc F.canon hC ?_ | with_reducible refine wpAny_loadPart_at hC ?_ | (with_reducible refine wpAny_isSubtype_exc hC ?_; first | rw [hcB] | rw [hcA] | rw [hcN]) | wp_step)
  show R _ _
  rw [Heap.size_push]
  exact hq
theorem type_call_ownK (F : ExcBaseFacts B newId initId bmB) (hT : ∀ X : String, bm.contains (.type X) = bmB.contains (.type X)) {kn : Str} {kv : Value} {fI : Addr} {Q : Fin → Shared → Prop}
    (hC : h.get? C = some (excClassObj nm q C N bs bm hdct sn sub ab col dd k0 k1 k2 k3 k5 newId))
    (hi : W.Looks (model prog w) h (typeLookup (.ref C) "__init__") (some (.ref fI))) (hb : ∀ self, W.Looks (model prog w) h (bindSpecial (.ref fI) self) (.ref fI, [self]))
    (hq : codeAny (model prog w) A (.call (.ref fI) ⟨[.ref (h.objs.size + 1)], [(kn, kv)]⟩)
      (fun r s' => match r with | .ok (.ret v) => v = .none ∧ Q (.done (.ret (.ref (h.objs.size + 1)))) s' | .ok _ => False | .error e => E e s')
      ⟨(h.push (W.kdv_tup [])).push (excO C h.objs.size), g, d, t, os⟩) :
    wpAny (model prog w) A (Builtin.«type.__call__» ⟨[.ref C], [(kn, kv)]⟩) Q E ⟨h, g, d, t, os⟩ := by
  repeat (first | with_reducible refine wpAny_loadPart_at hC ?_ | with_reducible refine wpAny_madeBy_exc hC ?_ | wp_step)
  refine codeAny_call_builtin_code (Code.quiet_builtin _ F.quiet) (check_new_ownK F hT hC ?_)
  refine new_ownK F hT hC ?_
  show wpAny _ _ _ _ _ _
  have k : ∀ b o, h.get? b = some o → ((h.push (W.kdv_tup [])).push (excO C h.objs.size)).get? b = some o := fun b o e => Heap.get?_push_of_some _ (Heap.get?_push_of_some _ e)
  have hC₁ := k _ _ hC
  have hget : ((h.push (W.kdv_tup [])).push (excO C h.objs.size)).get? (h.objs.size + 1) = some (excO C h.objs.size) := by heap_get
  have hcC : (Value.ref C :: bm).contains (.ref C) = true := by simp
  have i1 := hi.keeps k
  have b1 := (hb (.ref (h.objs.size + 1))).keeps k
  unfold isInstance
  repeat (first | with_reducible refine wpAny_loadPart_at hget ?_ | (with_reducible refine wpAny_isSubtype_exc hC₁ ?_; rw [hcC]) | wp_step)
  show wpAny _ _ (typeLookup (.ref C) _) _ _ _
  refine i1.at ?_
  refine wpAny_holding (wpAny_bind (b1.at ?_))
  refine wpAny_bind (wpAny_call (codeAny_mono hq fun r s' z => ?_))
  rcases r with e | (v | _ | _ | _) <;> first | exact z | exact z.elim | skip
  obtain ⟨rfl, z⟩ := z
  first
    | exact wpAny_pure (wpAny_pure z)
    | (wp_walk; exact z)
theorem call_ownK (F : ExcBaseFacts B newId initId bmB) (hT : ∀ X : String, bm.contains (.type X) = bmB.contains (.type X)) {kn : Str} {kv : Value} {fI : Addr}
    (hC : h.get? C = some (excClassObj nm q C N bs bm hdct sn sub ab col dd k0 k1 k2 k3 k5 newId))
    (hi : W.Looks (model prog w) h (typeLookup (.ref C) "__init__") (some (.ref fI))) (hb : ∀ self, W.Looks (model prog w) h (bindSpecial (.ref fI) self) (.ref fI, [self]))
    (hq : codeAny (model prog w) (A.under (.builtin "type.__call__" ⟨[.ref C], [(kn, kv)]⟩)) (.call (.ref fI) ⟨[.ref (h.objs.size + 1)], [(kn, kv)]⟩) (W.InitBack (h.objs.size + 1) R)
      ⟨(h.push (W.kdv_tup [])).push (excO C h.objs.size), g, d, t, os⟩) :
    codeAny (model prog w) A (.call (.ref C) ⟨[], [(kn, kv)]⟩) R ⟨h, g, d, t, os⟩ := by
  have f1 := tc_lookup
  have f2 := tc_bind (.ref C)
  have hTy : (⟨h, g, d, t, os⟩ : Shared).TypeIs (.ref C) "type" := ⟨_, hC, rfl⟩
  refine codeAny_of_tree ?_
  show wpAny _ _ (callAny (.ref C) _) _ _ _
  repeat (any_goals (first | assumption | with_reducible refine wpAny_loadPart_at hC ?_ | wp_step))
  refine ⟨rfl, ?_⟩
  refine codeAny_call_builtin_at (Code.quiet_builtin _ (by decide +kernel)) entry_typeCall (wpAny_check_type_call_sub hC (type_call_ownK F hT hC hi hb ?_))
  refine codeAny_mono hq fun r s' z => ?_
  rcases r with e | (v | _ | _ | _) <;> exact z
end
end PySem.HandSPX
namespace PySem
namespace OwnX
open PySem.W PySem.Calls PyProof.Rows PySem.HandSPX
section
variable {prog : Program} {w : World} {A : Around} {E : Value → Shared → Prop} {R : Result → Shared → Prop} {s : Shared} {K : Frag} {C fI : Addr} {qn f : Str} {B newId initId : String} {bmB : List Value}
theorem own_initK (T : OwnTxt K C fI qn f B newId initId bmB) {x t0 : Addr} {v : Value} (X : K.In s.heap) (hlim : s.heap.NoLimit) (hx : s.heap.get? x = some (excO C t0)) (hroom : A.depth < recursionLimit)
    (hq : ∀ h' tk dx, InitEnd s.heap h' x C dx t0 f v → R (.ok (.ret .none)) { s with heap := h', toks := tk }) :
    codeAny (model prog w) A (.call (.ref fI) ⟨[.ref x], [(f, v)]⟩) R s := by
  obtain ⟨oc, od, doc, pm, an, cdv, ct, osl, p1, p2, q1, q2, q3, q4, ho, hcd⟩ := T.fn
  have ov := T.over
  have noN := T.noN
  rcases T.nm with rfl | rfl
  all_goals
    refine Att.call_fn (binds := [("self", .ref x), (_, v)]) X hlim ho hcd hroom (BindsTo.of_eq (by first | rfl | with_unfolding_all rfl)) (by first | rfl | decide | with_unfolding_all rfl) (fun s₁ IC => ?_) rfl rfl rfl
    obtain ⟨h₁, tk₁, rfl⟩ := IC.toInCall.same
    have k : ∀ b o, s.heap.get? b = some o → h₁.get? b = some o := IC.toInCall.keep
    have hn := IC.toInCall.ns
    have hxL : s.heap.objs.size ≠ x := Nat.ne_of_gt (Heap.lt_size hx)
    have X₁ : K.In h₁ := X.keeps k
    have hx₁ := k _ _ hx
    show wpAny _ _ (execs _ _) _ _ _
    refine wpAny_execs_cons (plainObj_wpAny_Assign_Attribute ?_)
    refine ldC (v := v) hn (by first | rfl | with_unfolding_all rfl | kernel_rfl) (ldC (v := .ref x) hn (by first | rfl | with_unfolding_all rfl | kernel_rfl) ?_)
    refine set_plain X₁ (ox := excO C t0) (od := none) ⟨hx₁, rfl, rfl, trivial⟩ T.sa ?_
    refine exc_osaX T.sf ov T.hdC noN X₁ hx₁ (fun h₃ tk₃ dx k₃ dn dne hx₃ hn₃ => ?_)
    show wpAny _ _ (execs _ _) _ _ _
    have z : s.heap.objs.size < h₁.objs.size := hn.lt
    exact wpAny_execs_nil (hq h₃ tk₃ dx ⟨fun b o hb e => k₃ b o hb (k b o e), hx₃, Nat.le_of_lt (Nat.lt_of_lt_of_le z dn), dne, hn₃⟩)
theorem own_madeK (T : OwnTxt K C fI qn f B newId initId bmB) {v : Value} (X : K.In s.heap) (hlim : s.heap.NoLimit) (hroom : A.depth + 1 < recursionLimit)
    (hq : ∀ h' tk e d, OwnMade s.heap h' e C d f v → R (.ok (.ret (.ref e))) { s with heap := h', toks := tk }) :
    codeAny (model prog w) A (.call (.ref C) ⟨[], [(f, v)]⟩) R s := by
  obtain ⟨nm, q, N, bs, bm, sn, sub, ab, col, dd, k0, k1, k2, k3, k5, hC, hbm⟩ := T.cls
  obtain ⟨hp, g, dr, tk, os⟩ := s
  have k : ∀ b o, hp.get? b = some o → ((hp.push (kdv_tup [])).push (excO C hp.objs.size)).get? b = some o := fun b o e => Heap.get?_push_of_some _ (Heap.get?_push_of_some _ e)
  have hget : ((hp.push (kdv_tup [])).push (excO C hp.objs.size)).get? (hp.objs.size + 1) = some (excO C hp.objs.size) := by heap_get
  refine call_ownK T.fb (fun X => PySem.W.excTail_contains X bm hbm) (X _ _ hC) (looks_findIn X T.iC) (fun self => bind_fn X self T.tC) ?_
  refine own_initK (s := ⟨(hp.push (kdv_tup [])).push (excO C hp.objs.size), g, dr, tk, os⟩) T (X.keeps k) (hlim.keeps k) hget ?_ fun h' tk' dx ⟨k', hx, dn, dne, hns⟩ => ?_
  · show A.depth + 1 < recursionLimit
    exact hroom
  · have old : ∀ b o, hp.get? b = some o → h'.get? b = some o := fun b o e => k' b o (Nat.ne_of_lt (Nat.lt_succ_of_lt (Heap.lt_size e))) (k b o e)
    have z : hp.objs.size + 1 + 1 ≤ dx := by
      first
        | (simpa only [Heap.size_push] using dn)
        | exact dn
        | (have q := dn; rw [Heap.size_push, Heap.size_push] at q; exact q)
    exact ⟨rfl, hq h' tk' (hp.objs.size + 1) dx ⟨old, Nat.le_succ _, ⟨_, _, hx, rfl, rfl, rfl, rfl⟩, Nat.le_trans (Nat.le_trans (Nat.le_succ _) (Nat.le_succ _)) z, dne, hns⟩⟩
end
end OwnX
end PySem
namespace L2
open PySem PySem.Spec PyProof.Rows
section
variable {X : Cx} {C fI : Addr} {qn f : Str} {B newId initId : String} {bmB : List Value}
theorem pmk_ownPK {x : Str} {a : Expr} {ta : TA} {p pos kp : Pos} (T : PySem.OwnX.OwnTxt X.K C fI qn f B newId initId bmB) (gC : X.mg x = some (.ref C)) (kC : PySem.W.keepIn X.K (.ref C) = true) (hr : X.A.depth + 1 < recursionLimit) (ha : PK X [⟨some f, a, kp⟩] ta) (hg : Gl X x) (hdb : (x == ("__debug__" : Str)) = false := by decide)
    (hall : (backToKw pos (keywordEach [⟨some f, a, kp⟩] X.env)).all (·.1.isSome) = true := by rfl) (hks : (backToKw pos (keywordEach [⟨some f, a, kp⟩] X.env)).filterMap (·.1) = [f] := by rfl)
    (hpl : ((backTo pos (starEach [] X.env)).any (·.1) || (backToKw pos (keywordEach [⟨some f, a, kp⟩] X.env)).any (·.1.isNone)) = false := by rfl) :
    PMk X (.Call (.Name x p) [] [⟨some f, a, kp⟩] pos) (tMkOwn C f ta) := by
  intro pins s σ H Q I h
  refine wpAny_Call_Name_kw (ld_glob I hg gC ?_ hdb)
  refine PySem.W.callWith_KW0 (h₀ := X.base) I.ok.mod.kin kC hall (thn (ha.run pos pins s σ H _ I h) fun us s1 hh => ?_) hpl
  obtain ⟨vs, H1, I1, r1, v, ev, q1⟩ := hh
  subst ev
  refine ⟨I1.kIn, ?_⟩
  cases r1 with
  | cons rv rn =>
    rename_i v' us'
    cases rn
    rw [hks]
    show wpAny _ _ (call (.ref C) [] [(f, v')]) _ _ _
    have hlim := I1.nolimit
    obtain ⟨hp, g, dr, tk, os⟩ := s1
    refine wpAny_call (PySem.OwnX.own_madeK T I1.kIn hlim hr fun h' tk' e d M => ?_)
    show MkP X pins σ Q (.ref e) ⟨h', g, dr, tk', os⟩
    obtain ⟨oe, fv, hoe, hc, hd, hdat, h1⟩ := M.obj
    have hns := M.ns
    obtain ⟨G', g1, g2⟩ := restrict h' fun b => decide (b ≠ e)
    have gk : ∀ b, b ≠ e → G'.get? b = h'.get? b := fun b hb => g1 b (decide_eq_true hb)
    have ge : G'.get? e = none := g2 e (by simp)
    have old : ∀ b o, hp.get? b = some o → G'.get? b = some o := fun b o q => (gk b (Nat.ne_of_lt (Nat.lt_of_lt_of_le (Heap.lt_size q) M.new))).trans (M.keep b o q)
    have ob : ObjOk X.prog X.w (upd H1 d (.xd [(f, v)])) G' d (.xd [(f, v)]) :=
      ⟨_, hns.at (fun o q => (gk d M.dne).trans q), fun n => relO_own rv f n⟩
    have J : Inv X pins σ (upd H1 d (.xd [(f, v)])) ⟨G', g, dr, tk', os⟩ := I1.laid (t' := tk') old M.dbig ob
    refine ⟨e, oe, fv, ⟨G', g, dr, tk', os⟩, _, .ref C, some d, rfl, J, fun b o q => ?_, ge, hoe, ⟨hc, hd⟩, hdat, h1, ?_, rfl, I1.bare, raises_own T.exC T.tyC, q1 d (I1.hok.fresh M.dbig)⟩
    · by_cases hb : b = e
      · have q' : G'.get? b = some o := q
        rw [hb, ge] at q'; cases q'
      · exact (gk b hb).symm.trans q
    · rw [upd_ne (Ne.symm M.dne)]
      exact I1.hok.fresh M.new
end
end L2
namespace Ev
open PySem PySem.Spec PyProof.Rows L2
section
variable {G : Glo} {X : Cx} {W' : WX} {pos : Pos}
theorem ss_raisePK {c k : Nat} {x n : Str} {f : Evl} {e : Expr} {p kp pos' : Pos} (hx : Okx G X) (hr : Room k X.A) (tk : Takes X W') (E : ExcP G X.mg c x n) (he : SE G X W' f e) (hg : Gl X x) (hdb : (x == ("__debug__" : Str)) = false := by decide)
    (hall : (backToKw pos (keywordEach [⟨some n, e, kp⟩] X.env)).all (·.1.isSome) = true := by rfl) (hks : (backToKw pos (keywordEach [⟨some n, e, kp⟩] X.env)).filterMap (·.1) = [n] := by rfl)
    (hpl : ((backTo pos (starEach [] X.env)).any (·.1) || (backToKw pos (keywordEach [⟨some n, e, kp⟩] X.env)).any (·.1.isNone)) = false := by rfl) : SS G X W' (esRaiseP c f) (.Raise (some (.Call (.Name x p) [] [⟨some n, e, kp⟩] pos)) none pos') := by
  obtain ⟨fI, qn, B, newId, initId, bmB, T⟩ := E.q
  rw [← hx.k] at T
  refine ps_imp (ps_raise hx.calm tk (pmk_ownPK T E.mg (by rw [hx.k]; exact E.kp) (by have := hr.dp; omega) (pk_cons he pk_nil) hg hdb hall hks hpl)) fun D σ H ⟨C, l, e, ok, r, p⟩ => ?_
  subst e
  refine ⟨C, l, rfl, ok, r, Post.mono (fun w C1 ok1 x1 p1 v rv => ⟨v, rfl, fun d hd => ?_⟩) (Post.bnd p)⟩
  obtain ⟨ok2, x2⟩ := Cf.tupd (o := .xd [(n, v)]) ok1 hd
  unfold Post at p1
  refine p1 ⟨C1.ρ, upd C1.H d (.xd [(n, v)]), C1.S⟩ _ (some d) σ rfl ok2 x2 ⟨rfl, ?_⟩ ((r.mono ok x1).mono ok1 x2)
  rw [E.fl]
  exact ⟨d, v, rfl, upd_same, rv.mono ok1 x2⟩
end
end Ev

namespace Ev
open PySem PySem.Spec PyProof.Rows L2
/-! ## a loop whose turns start anew, from a configuration without objects -/
section
variable {G : Glo} {W' : WX}
noncomputable def tFalse (m : Res Bool) : Bool := Res.rec (motive := fun _ => Bool) (fun b _ => match b with
  | true => false
  | false => true) (fun _ _ _ _ => false) (fun _ _ _ => false) false m
theorem post_tFalse {C : Cf} {m : Res Bool} (h : tFalse m = true) : Post G W' C m (fun b _ => b = false) := by
  cases m with
  | ok b S =>
    unfold Post
    cases b with
    | true => cases h
    | false => exact fun _ _ _ _ => rfl
  | exc _ _ _ _ => cases h
  | pick _ _ => cases h
  | stuck => cases h
noncomputable def nxOk (n : Nat) (m : Res Fl) : Bool := Res.rec (motive := fun _ => Bool) (fun r _ => match r with
  | .nx l => Nat.beq l.length n
  | _ => false) (fun _ _ _ _ => false) (fun _ _ _ => false) false m
theorem post_nxOk {n : Nat} {C : Cf} {m : Res Fl} (h : nxOk n m = true) : Post G W' C m (fun r _ => ∃ l, r = .nx l ∧ l.length = n) := by
  cases m with
  | ok r S =>
    unfold Post
    cases r with
    | nx l => exact fun _ _ _ _ => ⟨l, rfl, Nat.eq_of_beq_eq_true h⟩
    | _ => cases h
  | exc _ _ _ _ => cases h
  | pick _ _ => cases h
  | stuck => cases h
noncomputable def belowB (p : Nat → Bool) (n : Nat) : Bool := Nat.rec (motive := fun _ => Bool) true (fun k ih => match p k with
  | true => ih
  | false => false) n
theorem belowB_of {p : Nat → Bool} : ∀ n : Nat, belowB p n = true → ∀ r, r < n → p r = true := fun n => by
  induction n with
  | zero => intro _ r h; exact absurd h (Nat.not_lt_zero r)
  | succ n ih =>
    intro h r hr
    have h' : (match p n with
      | true => belowB p n
      | false => false) = true := h
    cases q : p n with
    | false => rw [q] at h'; cases h'
    | true =>
      rw [q] at h'
      rcases Nat.lt_succ_iff_lt_or_eq.mp hr with z | rfl
      · exact ih h' r z
      · exact q
theorem zero_keep {H : Hp} {C' : Cf} (x : Ext ⟨[], H, ⟨0, []⟩⟩ C') {a : Addr} {o : HO} (h : H a = some o) : C'.H a = some o := x.keep a o h fun i v e => by cases e
theorem zero_sq {K : PySem.W.Frag} {H : Hp} {C' : Cf} (x : Ext ⟨[], H, ⟨0, []⟩⟩ C') {a : Addr} {xs : List V} (h : SqL K H a xs) : SqL K C'.H a xs := by
  rcases h with (h | ⟨o, h⟩) | h
  · exact .inl (.inl (zero_keep x h))
  · exact .inl (.inr ⟨o, zero_keep x h⟩)
  · exact .inr h
theorem cut_int {ns : List Int} {lo hi : Option Int} {x : V} {i : Nat} (h : (cutV (ns.map V.int) lo hi ++ [V.int 0, V.int 1, V.int 999])[i]? = some x) : ∃ z, x = V.int z := by
  have m := List.mem_of_getElem? h
  rcases List.mem_append.mp m with m | m
  · have m2 : x ∈ ns.map V.int := List.mem_of_mem_drop (List.mem_of_mem_take m)
    obtain ⟨z, _, e⟩ := List.mem_map.mp m2
    exact ⟨z, e.symm⟩
  · have m2 : x = V.int 0 ∨ x = V.int 1 ∨ x = V.int 999 := by simpa using m
    rcases m2 with rfl | rfl | rfl <;> exact ⟨_, rfl⟩
theorem mod_nat (z : Int) : ∃ r : Nat, r < 1000 ∧ (if z < 0 then -z else z) % 1000 = ((r : Nat) : Int) := by
  refine ⟨((if z < 0 then -z else z) % 1000).toNat, ?_, ?_⟩
  · have h1 : (if z < 0 then -z else z) % 1000 < 1000 := Int.emod_lt_of_pos _ (by decide)
    omega
  · have h0 : 0 ≤ (if z < 0 then -z else z) % 1000 := Int.emod_nonneg _ (by decide)
    omega
end
end Ev

namespace LawP
open PySem PySem.Spec PyProof.Rows L2 Ev
def top (i : Nat) : Stmt := PySem.Challenge.pw_stoppedcoins_k00_errors.main.body.getD i (.Pass ⟨0, 0, 0, 0⟩)
def s_0 : Str := ⟨#[108, 105, 110, 101]⟩
theorem s_0_eq : ("line" : Str) = s_0 := by decide +kernel
def s_1 : Str := ⟨#[112, 108, 97, 99, 101]⟩
theorem s_1_eq : ("place" : Str) = s_1 := by decide +kernel
theorem bb_IndexError : bootBuiltins "IndexError" = some (.type "IndexError") := by decide +kernel
theorem bb_KeyError : bootBuiltins "KeyError" = some (.type "KeyError") := by decide +kernel
theorem bb_LookupError : bootBuiltins "LookupError" = some (.type "LookupError") := by decide +kernel
theorem bb_ValueError : bootBuiltins "ValueError" = some (.type "ValueError") := by decide +kernel
theorem bb_abs : bootBuiltins "abs" = some (.builtin "abs") := by decide +kernel
theorem bb_all : bootBuiltins "all" = some (.builtin "all") := by decide +kernel
theorem bb_bool : bootBuiltins "bool" = some (.type "bool") := by decide +kernel
theorem bb_enumerate : bootBuiltins "enumerate" = some (.type "enumerate") := by decide +kernel
theorem bb_int : bootBuiltins "int" = some (.type "int") := by decide +kernel
theorem bb_isinstance : bootBuiltins "isinstance" = some (.builtin "isinstance") := by decide +kernel
theorem bb_len : bootBuiltins "len" = some (.builtin "len") := by decide +kernel
theorem bb_list : bootBuiltins "list" = some (.type "list") := by decide +kernel
theorem bb_range : bootBuiltins "range" = some (.type "range") := by decide +kernel
theorem bb_str : bootBuiltins "str" = some (.type "str") := by decide +kernel
theorem bb_tuple : bootBuiltins "tuple" = some (.type "tuple") := by decide +kernel
theorem bb_zip : bootBuiltins "zip" = some (.type "zip") := by decide +kernel
abbrev st__law_same : Stmt := top 8
abbrev N__law_same : List Str := ["got", "goal", "mine_so", "own"]
theorem sc__law_same : FnScope N__law_same ["got", "goal"] (defScope st__law_same) := ⟨rfl, rfl, rfl, by decide +kernel, rfl, by decide +kernel, by decide +kernel⟩
abbrev st__law_caught : Stmt := top 9
abbrev N__law_caught : List Str := ["way_so", "worth", "error"]
theorem sc__law_caught : FnScope N__law_caught ["way_so", "worth"] (defScope st__law_caught) := ⟨rfl, rfl, rfl, by decide +kernel, rfl, by decide +kernel, by decide +kernel⟩
abbrev st__law_plain : Stmt := top 10
abbrev N__law_plain : List Str := ["error"]
theorem sc__law_plain : FnScope N__law_plain ["error"] (defScope st__law_plain) := ⟨rfl, rfl, rfl, by decide +kernel, rfl, by decide +kernel, by decide +kernel⟩
abbrev st__law_kinds : Stmt := top 11
abbrev N__law_kinds : List Str := ["error"]
theorem sc__law_kinds : FnScope N__law_kinds ["error"] (defScope st__law_kinds) := ⟨rfl, rfl, rfl, by decide +kernel, rfl, by decide +kernel, by decide +kernel⟩
abbrev st__law_by_hand_right : Stmt := top 12
abbrev N__law_by_hand_right : List Str := ["made_so", "told", "due", "far", "k", "own"]
theorem sc__law_by_hand_right : FnScope N__law_by_hand_right [] (defScope st__law_by_hand_right) := ⟨rfl, rfl, rfl, by decide +kernel, rfl, by decide +kernel, by decide +kernel⟩
abbrev st_law : Stmt := top 13
abbrev N_law : List Str := ["script", "cell", "place_so", "line_so", "told"]
theorem sc_law : FnScope N_law ["script"] (defScope st_law) := ⟨rfl, rfl, rfl, by decide +kernel, rfl, by decide +kernel, by decide +kernel⟩
def cflD : Nat → Option Str := fun n => match n with | 0 => some "place" | 2 => some "line" | _ => none
structure Facts (G : Glo) (mg : Str → Option Value) : Prop where
  d__law_same : Fd G.K mg st__law_same "_law_same" ["got", "goal"]
  d__law_caught : Fd G.K mg st__law_caught "_law_caught" ["way_so", "worth"]
  d__law_plain : Fd G.K mg st__law_plain "_law_plain" ["error"]
  d__law_kinds : Fd G.K mg st__law_kinds "_law_kinds" ["error"]
  d__law_by_hand_right : Fd G.K mg st__law_by_hand_right "_law_by_hand_right" []
  d_law : Fd G.K mg st_law "law" ["script"]
  n_IndexError : mg "IndexError" = none
  n_KeyError : mg "KeyError" = none
  n_LookupError : mg "LookupError" = none
  n_ValueError : mg "ValueError" = none
  n_abs : mg "abs" = none
  n_all : mg "all" = none
  n_bool : mg "bool" = none
  n_enumerate : mg "enumerate" = none
  n_int : mg "int" = none
  n_isinstance : mg "isinstance" = none
  n_len : mg "len" = none
  n_list : mg "list" = none
  n_range : mg "range" = none
  n_str : mg "str" = none
  n_tuple : mg "tuple" = none
  n_zip : mg "zip" = none
  x_NoPlace : (ExcP G mg 0 "NoPlace" "place")
  e_NoPlace : ExcC G.K (G.cad 0)
  x_NothingDone : (Exc0 G mg 1 "NothingDone")
  e_NothingDone : ExcC G.K (G.cad 1)
  x_BadLine : (ExcP G mg 2 "BadLine" "line")
  e_BadLine : ExcC G.K (G.cad 2)
  x_CanNot : (Exc0 G mg 3 "CanNot")
  e_CanNot : ExcC G.K (G.cad 3)
  x_TooMuch : (Exc0 G mg 4 "TooMuch")
  e_TooMuch : ExcC G.K (G.cad 4)
  x_Unfit : (Exc0 G mg 5 "Unfit")
  e_Unfit : ExcC G.K (G.cad 5)
  t_NoPlace_NoPlace : PySem.W.exmOne G.K (.ref (G.cad 0)) (.ref (G.cad 0)) = some true
  t_NothingDone_NoPlace : PySem.W.exmOne G.K (.ref (G.cad 1)) (.ref (G.cad 0)) = some false
  t_BadLine_NoPlace : PySem.W.exmOne G.K (.ref (G.cad 2)) (.ref (G.cad 0)) = some false
  t_CanNot_NoPlace : PySem.W.exmOne G.K (.ref (G.cad 3)) (.ref (G.cad 0)) = some false
  t_TooMuch_NoPlace : PySem.W.exmOne G.K (.ref (G.cad 4)) (.ref (G.cad 0)) = some false
  t_Unfit_NoPlace : PySem.W.exmOne G.K (.ref (G.cad 5)) (.ref (G.cad 0)) = some false
  t_NoPlace_NothingDone : PySem.W.exmOne G.K (.ref (G.cad 0)) (.ref (G.cad 1)) = some false
  t_NothingDone_NothingDone : PySem.W.exmOne G.K (.ref (G.cad 1)) (.ref (G.cad 1)) = some true
  t_BadLine_NothingDone : PySem.W.exmOne G.K (.ref (G.cad 2)) (.ref (G.cad 1)) = some false
  t_CanNot_NothingDone : PySem.W.exmOne G.K (.ref (G.cad 3)) (.ref (G.cad 1)) = some false
  t_TooMuch_NothingDone : PySem.W.exmOne G.K (.ref (G.cad 4)) (.ref (G.cad 1)) = some false
  t_Unfit_NothingDone : PySem.W.exmOne G.K (.ref (G.cad 5)) (.ref (G.cad 1)) = some false
  t_NoPlace_BadLine : PySem.W.exmOne G.K (.ref (G.cad 0)) (.ref (G.cad 2)) = some false
  t_NothingDone_BadLine : PySem.W.exmOne G.K (.ref (G.cad 1)) (.ref (G.cad 2)) = some false
  t_BadLine_BadLine : PySem.W.exmOne G.K (.ref (G.cad 2)) (.ref (G.cad 2)) = some true
  t_CanNot_BadLine : PySem.W.exmOne G.K (.ref (G.cad 3)) (.ref (G.cad 2)) = some false
  t_TooMuch_BadLine : PySem.W.exmOne G.K (.ref (G.cad 4)) (.ref (G.cad 2)) = some false
  t_Unfit_BadLine : PySem.W.exmOne G.K (.ref (G.cad 5)) (.ref (G.cad 2)) = some false
  t_NoPlace_CanNot : PySem.W.exmOne G.K (.ref (G.cad 0)) (.ref (G.cad 3)) = some false
  t_NothingDone_CanNot : PySem.W.exmOne G.K (.ref (G.cad 1)) (.ref (G.cad 3)) = some false
  t_BadLine_CanNot : PySem.W.exmOne G.K (.ref (G.cad 2)) (.ref (G.cad 3)) = some false
  t_CanNot_CanNot : PySem.W.exmOne G.K (.ref (G.cad 3)) (.ref (G.cad 3)) = some true
  t_TooMuch_CanNot : PySem.W.exmOne G.K (.ref (G.cad 4)) (.ref (G.cad 3)) = some false
  t_Unfit_CanNot : PySem.W.exmOne G.K (.ref (G.cad 5)) (.ref (G.cad 3)) = some false
  t_NoPlace_TooMuch : PySem.W.exmOne G.K (.ref (G.cad 0)) (.ref (G.cad 4)) = some false
  t_NothingDone_TooMuch : PySem.W.exmOne G.K (.ref (G.cad 1)) (.ref (G.cad 4)) = some false
  t_BadLine_TooMuch : PySem.W.exmOne G.K (.ref (G.cad 2)) (.ref (G.cad 4)) = some false
  t_CanNot_TooMuch : PySem.W.exmOne G.K (.ref (G.cad 3)) (.ref (G.cad 4)) = some false
  t_TooMuch_TooMuch : PySem.W.exmOne G.K (.ref (G.cad 4)) (.ref (G.cad 4)) = some true
  t_Unfit_TooMuch : PySem.W.exmOne G.K (.ref (G.cad 5)) (.ref (G.cad 4)) = some false
  t_NoPlace_Unfit : PySem.W.exmOne G.K (.ref (G.cad 0)) (.ref (G.cad 5)) = some false
  t_NothingDone_Unfit : PySem.W.exmOne G.K (.ref (G.cad 1)) (.ref (G.cad 5)) = some false
  t_BadLine_Unfit : PySem.W.exmOne G.K (.ref (G.cad 2)) (.ref (G.cad 5)) = some false
  t_CanNot_Unfit : PySem.W.exmOne G.K (.ref (G.cad 3)) (.ref (G.cad 5)) = some false
  t_TooMuch_Unfit : PySem.W.exmOne G.K (.ref (G.cad 4)) (.ref (G.cad 5)) = some false
  t_Unfit_Unfit : PySem.W.exmOne G.K (.ref (G.cad 5)) (.ref (G.cad 5)) = some true
  i_BadLine_BadLine : PySem.W.kitOne G.K (.ref (G.cad 2)) (.ref (G.cad 2)) = some true
  i_BadLine_CanNot : PySem.W.kitOne G.K (.ref (G.cad 2)) (.ref (G.cad 3)) = some false
  i_BadLine_IndexError : PySem.W.kitOne G.K (.ref (G.cad 2)) (.type "IndexError") = some false
  i_BadLine_KeyError : PySem.W.kitOne G.K (.ref (G.cad 2)) (.type "KeyError") = some false
  i_BadLine_LookupError : PySem.W.kitOne G.K (.ref (G.cad 2)) (.type "LookupError") = some false
  i_BadLine_NoPlace : PySem.W.kitOne G.K (.ref (G.cad 2)) (.ref (G.cad 0)) = some false
  i_BadLine_NothingDone : PySem.W.kitOne G.K (.ref (G.cad 2)) (.ref (G.cad 1)) = some false
  i_BadLine_TooMuch : PySem.W.kitOne G.K (.ref (G.cad 2)) (.ref (G.cad 4)) = some false
  i_BadLine_Unfit : PySem.W.kitOne G.K (.ref (G.cad 2)) (.ref (G.cad 5)) = some false
  i_BadLine_ValueError : PySem.W.kitOne G.K (.ref (G.cad 2)) (.type "ValueError") = some true
  i_CanNot_BadLine : PySem.W.kitOne G.K (.ref (G.cad 3)) (.ref (G.cad 2)) = some false
  i_CanNot_CanNot : PySem.W.kitOne G.K (.ref (G.cad 3)) (.ref (G.cad 3)) = some true
  i_CanNot_IndexError : PySem.W.kitOne G.K (.ref (G.cad 3)) (.type "IndexError") = some false
  i_CanNot_KeyError : PySem.W.kitOne G.K (.ref (G.cad 3)) (.type "KeyError") = some false
  i_CanNot_LookupError : PySem.W.kitOne G.K (.ref (G.cad 3)) (.type "LookupError") = some false
  i_CanNot_NoPlace : PySem.W.kitOne G.K (.ref (G.cad 3)) (.ref (G.cad 0)) = some false
  i_CanNot_NothingDone : PySem.W.kitOne G.K (.ref (G.cad 3)) (.ref (G.cad 1)) = some false
  i_CanNot_TooMuch : PySem.W.kitOne G.K (.ref (G.cad 3)) (.ref (G.cad 4)) = some false
  i_CanNot_Unfit : PySem.W.kitOne G.K (.ref (G.cad 3)) (.ref (G.cad 5)) = some false
  i_CanNot_ValueError : PySem.W.kitOne G.K (.ref (G.cad 3)) (.type "ValueError") = some true
  i_NoPlace_BadLine : PySem.W.kitOne G.K (.ref (G.cad 0)) (.ref (G.cad 2)) = some false
  i_NoPlace_CanNot : PySem.W.kitOne G.K (.ref (G.cad 0)) (.ref (G.cad 3)) = some false
  i_NoPlace_IndexError : PySem.W.kitOne G.K (.ref (G.cad 0)) (.type "IndexError") = some false
  i_NoPlace_KeyError : PySem.W.kitOne G.K (.ref (G.cad 0)) (.type "KeyError") = some false
  i_NoPlace_LookupError : PySem.W.kitOne G.K (.ref (G.cad 0)) (.type "LookupError") = some true
  i_NoPlace_NoPlace : PySem.W.kitOne G.K (.ref (G.cad 0)) (.ref (G.cad 0)) = some true
  i_NoPlace_NothingDone : PySem.W.kitOne G.K (.ref (G.cad 0)) (.ref (G.cad 1)) = some false
  i_NoPlace_TooMuch : PySem.W.kitOne G.K (.ref (G.cad 0)) (.ref (G.cad 4)) = some false
  i_NoPlace_Unfit : PySem.W.kitOne G.K (.ref (G.cad 0)) (.ref (G.cad 5)) = some false
  i_NoPlace_ValueError : PySem.W.kitOne G.K (.ref (G.cad 0)) (.type "ValueError") = some false
  i_NothingDone_BadLine : PySem.W.kitOne G.K (.ref (G.cad 1)) (.ref (G.cad 2)) = some false
  i_NothingDone_CanNot : PySem.W.kitOne G.K (.ref (G.cad 1)) (.ref (G.cad 3)) = some false
  i_NothingDone_IndexError : PySem.W.kitOne G.K (.ref (G.cad 1)) (.type "IndexError") = some false
  i_NothingDone_KeyError : PySem.W.kitOne G.K (.ref (G.cad 1)) (.type "KeyError") = some false
  i_NothingDone_LookupError : PySem.W.kitOne G.K (.ref (G.cad 1)) (.type "LookupError") = some true
  i_NothingDone_NoPlace : PySem.W.kitOne G.K (.ref (G.cad 1)) (.ref (G.cad 0)) = some false
  i_NothingDone_NothingDone : PySem.W.kitOne G.K (.ref (G.cad 1)) (.ref (G.cad 1)) = some true
  i_NothingDone_TooMuch : PySem.W.kitOne G.K (.ref (G.cad 1)) (.ref (G.cad 4)) = some false
  i_NothingDone_Unfit : PySem.W.kitOne G.K (.ref (G.cad 1)) (.ref (G.cad 5)) = some false
  i_NothingDone_ValueError : PySem.W.kitOne G.K (.ref (G.cad 1)) (.type "ValueError") = some false
  i_TooMuch_BadLine : PySem.W.kitOne G.K (.ref (G.cad 4)) (.ref (G.cad 2)) = some false
  i_TooMuch_CanNot : PySem.W.kitOne G.K (.ref (G.cad 4)) (.ref (G.cad 3)) = some false
  i_TooMuch_IndexError : PySem.W.kitOne G.K (.ref (G.cad 4)) (.type "IndexError") = some false
  i_TooMuch_KeyError : PySem.W.kitOne G.K (.ref (G.cad 4)) (.type "KeyError") = some false
  i_TooMuch_LookupError : PySem.W.kitOne G.K (.ref (G.cad 4)) (.type "LookupError") = some false
  i_TooMuch_NoPlace : PySem.W.kitOne G.K (.ref (G.cad 4)) (.ref (G.cad 0)) = some false
  i_TooMuch_NothingDone : PySem.W.kitOne G.K (.ref (G.cad 4)) (.ref (G.cad 1)) = some false
  i_TooMuch_TooMuch : PySem.W.kitOne G.K (.ref (G.cad 4)) (.ref (G.cad 4)) = some true
  i_TooMuch_Unfit : PySem.W.kitOne G.K (.ref (G.cad 4)) (.ref (G.cad 5)) = some false
  i_TooMuch_ValueError : PySem.W.kitOne G.K (.ref (G.cad 4)) (.type "ValueError") = some true
  i_Unfit_BadLine : PySem.W.kitOne G.K (.ref (G.cad 5)) (.ref (G.cad 2)) = some false
  i_Unfit_CanNot : PySem.W.kitOne G.K (.ref (G.cad 5)) (.ref (G.cad 3)) = some false
  i_Unfit_IndexError : PySem.W.kitOne G.K (.ref (G.cad 5)) (.type "IndexError") = some false
  i_Unfit_KeyError : PySem.W.kitOne G.K (.ref (G.cad 5)) (.type "KeyError") = some false
  i_Unfit_LookupError : PySem.W.kitOne G.K (.ref (G.cad 5)) (.type "LookupError") = some false
  i_Unfit_NoPlace : PySem.W.kitOne G.K (.ref (G.cad 5)) (.ref (G.cad 0)) = some false
  i_Unfit_NothingDone : PySem.W.kitOne G.K (.ref (G.cad 5)) (.ref (G.cad 1)) = some false
  i_Unfit_TooMuch : PySem.W.kitOne G.K (.ref (G.cad 5)) (.ref (G.cad 4)) = some false
  i_Unfit_Unfit : PySem.W.kitOne G.K (.ref (G.cad 5)) (.ref (G.cad 5)) = some true
  i_Unfit_ValueError : PySem.W.kitOne G.K (.ref (G.cad 5)) (.type "ValueError") = some true
section
variable {G : Glo} {mg : Str → Option Value} {base : Heap}
theorem only_NoPlace {c : Nat} (h : lookB [true, false, false, false, false, false] c = some true) : c = 0 := by
  match c, h with
  | 0, h => first | rfl | cases h
  | 1, h => first | rfl | cases h
  | 2, h => first | rfl | cases h
  | 3, h => first | rfl | cases h
  | 4, h => first | rfl | cases h
  | 5, h => first | rfl | cases h
  | n + 6, h => cases h
theorem ex_NoPlace (Fx : Facts G mg) : ∀ c b, lookB [true, false, false, false, false, false] c = some b → PySem.W.exmOne G.K (.ref (G.cad c)) (.ref (G.cad 0)) = some b := fun c b h => by
  match c, h with
  | 0, h => cases h; exact Fx.t_NoPlace_NoPlace
  | 1, h => cases h; exact Fx.t_NothingDone_NoPlace
  | 2, h => cases h; exact Fx.t_BadLine_NoPlace
  | 3, h => cases h; exact Fx.t_CanNot_NoPlace
  | 4, h => cases h; exact Fx.t_TooMuch_NoPlace
  | 5, h => cases h; exact Fx.t_Unfit_NoPlace
  | n + 6, h => cases h
theorem only_NothingDone {c : Nat} (h : lookB [false, true, false, false, false, false] c = some true) : c = 1 := by
  match c, h with
  | 0, h => first | rfl | cases h
  | 1, h => first | rfl | cases h
  | 2, h => first | rfl | cases h
  | 3, h => first | rfl | cases h
  | 4, h => first | rfl | cases h
  | 5, h => first | rfl | cases h
  | n + 6, h => cases h
theorem ex_NothingDone (Fx : Facts G mg) : ∀ c b, lookB [false, true, false, false, false, false] c = some b → PySem.W.exmOne G.K (.ref (G.cad c)) (.ref (G.cad 1)) = some b := fun c b h => by
  match c, h with
  | 0, h => cases h; exact Fx.t_NoPlace_NothingDone
  | 1, h => cases h; exact Fx.t_NothingDone_NothingDone
  | 2, h => cases h; exact Fx.t_BadLine_NothingDone
  | 3, h => cases h; exact Fx.t_CanNot_NothingDone
  | 4, h => cases h; exact Fx.t_TooMuch_NothingDone
  | 5, h => cases h; exact Fx.t_Unfit_NothingDone
  | n + 6, h => cases h
theorem only_BadLine {c : Nat} (h : lookB [false, false, true, false, false, false] c = some true) : c = 2 := by
  match c, h with
  | 0, h => first | rfl | cases h
  | 1, h => first | rfl | cases h
  | 2, h => first | rfl | cases h
  | 3, h => first | rfl | cases h
  | 4, h => first | rfl | cases h
  | 5, h => first | rfl | cases h
  | n + 6, h => cases h
theorem ex_BadLine (Fx : Facts G mg) : ∀ c b, lookB [false, false, true, false, false, false] c = some b → PySem.W.exmOne G.K (.ref (G.cad c)) (.ref (G.cad 2)) = some b := fun c b h => by
  match c, h with
  | 0, h => cases h; exact Fx.t_NoPlace_BadLine
  | 1, h => cases h; exact Fx.t_NothingDone_BadLine
  | 2, h => cases h; exact Fx.t_BadLine_BadLine
  | 3, h => cases h; exact Fx.t_CanNot_BadLine
  | 4, h => cases h; exact Fx.t_TooMuch_BadLine
  | 5, h => cases h; exact Fx.t_Unfit_BadLine
  | n + 6, h => cases h
theorem only_CanNot {c : Nat} (h : lookB [false, false, false, true, false, false] c = some true) : c = 3 := by
  match c, h with
  | 0, h => first | rfl | cases h
  | 1, h => first | rfl | cases h
  | 2, h => first | rfl | cases h
  | 3, h => first | rfl | cases h
  | 4, h => first | rfl | cases h
  | 5, h => first | rfl | cases h
  | n + 6, h => cases h
theorem ex_CanNot (Fx : Facts G mg) : ∀ c b, lookB [false, false, false, true, false, false] c = some b → PySem.W.exmOne G.K (.ref (G.cad c)) (.ref (G.cad 3)) = some b := fun c b h => by
  match c, h with
  | 0, h => cases h; exact Fx.t_NoPlace_CanNot
  | 1, h => cases h; exact Fx.t_NothingDone_CanNot
  | 2, h => cases h; exact Fx.t_BadLine_CanNot
  | 3, h => cases h; exact Fx.t_CanNot_CanNot
  | 4, h => cases h; exact Fx.t_TooMuch_CanNot
  | 5, h => cases h; exact Fx.t_Unfit_CanNot
  | n + 6, h => cases h
theorem only_TooMuch {c : Nat} (h : lookB [false, false, false, false, true, false] c = some true) : c = 4 := by
  match c, h with
  | 0, h => first | rfl | cases h
  | 1, h => first | rfl | cases h
  | 2, h => first | rfl | cases h
  | 3, h => first | rfl | cases h
  | 4, h => first | rfl | cases h
  | 5, h => first | rfl | cases h
  | n + 6, h => cases h
theorem ex_TooMuch (Fx : Facts G mg) : ∀ c b, lookB [false, false, false, false, true, false] c = some b → PySem.W.exmOne G.K (.ref (G.cad c)) (.ref (G.cad 4)) = some b := fun c b h => by
  match c, h with
  | 0, h => cases h; exact Fx.t_NoPlace_TooMuch
  | 1, h => cases h; exact Fx.t_NothingDone_TooMuch
  | 2, h => cases h; exact Fx.t_BadLine_TooMuch
  | 3, h => cases h; exact Fx.t_CanNot_TooMuch
  | 4, h => cases h; exact Fx.t_TooMuch_TooMuch
  | 5, h => cases h; exact Fx.t_Unfit_TooMuch
  | n + 6, h => cases h
theorem only_Unfit {c : Nat} (h : lookB [false, false, false, false, false, true] c = some true) : c = 5 := by
  match c, h with
  | 0, h => first | rfl | cases h
  | 1, h => first | rfl | cases h
  | 2, h => first | rfl | cases h
  | 3, h => first | rfl | cases h
  | 4, h => first | rfl | cases h
  | 5, h => first | rfl | cases h
  | n + 6, h => cases h
theorem ex_Unfit (Fx : Facts G mg) : ∀ c b, lookB [false, false, false, false, false, true] c = some b → PySem.W.exmOne G.K (.ref (G.cad c)) (.ref (G.cad 5)) = some b := fun c b h => by
  match c, h with
  | 0, h => cases h; exact Fx.t_NoPlace_Unfit
  | 1, h => cases h; exact Fx.t_NothingDone_Unfit
  | 2, h => cases h; exact Fx.t_BadLine_Unfit
  | 3, h => cases h; exact Fx.t_CanNot_Unfit
  | 4, h => cases h; exact Fx.t_TooMuch_Unfit
  | 5, h => cases h; exact Fx.t_Unfit_Unfit
  | n + 6, h => cases h
theorem tv_LookupError (Fx : Facts G mg) : ∀ c b, lookB [true, true, false, false, false, false] c = some b → ExcC G.K (G.cad c) ∧ PySem.W.kitOne G.K (.ref (G.cad c)) (.type "LookupError") = some b := fun c b h => by
  match c, h with
  | 0, h => cases h; exact ⟨Fx.e_NoPlace, Fx.i_NoPlace_LookupError⟩
  | 1, h => cases h; exact ⟨Fx.e_NothingDone, Fx.i_NothingDone_LookupError⟩
  | 2, h => cases h; exact ⟨Fx.e_BadLine, Fx.i_BadLine_LookupError⟩
  | 3, h => cases h; exact ⟨Fx.e_CanNot, Fx.i_CanNot_LookupError⟩
  | 4, h => cases h; exact ⟨Fx.e_TooMuch, Fx.i_TooMuch_LookupError⟩
  | 5, h => cases h; exact ⟨Fx.e_Unfit, Fx.i_Unfit_LookupError⟩
  | n + 6, h => cases h
theorem tv_ValueError (Fx : Facts G mg) : ∀ c b, lookB [false, false, true, true, true, true] c = some b → ExcC G.K (G.cad c) ∧ PySem.W.kitOne G.K (.ref (G.cad c)) (.type "ValueError") = some b := fun c b h => by
  match c, h with
  | 0, h => cases h; exact ⟨Fx.e_NoPlace, Fx.i_NoPlace_ValueError⟩
  | 1, h => cases h; exact ⟨Fx.e_NothingDone, Fx.i_NothingDone_ValueError⟩
  | 2, h => cases h; exact ⟨Fx.e_BadLine, Fx.i_BadLine_ValueError⟩
  | 3, h => cases h; exact ⟨Fx.e_CanNot, Fx.i_CanNot_ValueError⟩
  | 4, h => cases h; exact ⟨Fx.e_TooMuch, Fx.i_TooMuch_ValueError⟩
  | 5, h => cases h; exact ⟨Fx.e_Unfit, Fx.i_Unfit_ValueError⟩
  | n + 6, h => cases h
theorem tv_KeyError (Fx : Facts G mg) : ∀ c b, lookB [false, false, false, false, false, false] c = some b → ExcC G.K (G.cad c) ∧ PySem.W.kitOne G.K (.ref (G.cad c)) (.type "KeyError") = some b := fun c b h => by
  match c, h with
  | 0, h => cases h; exact ⟨Fx.e_NoPlace, Fx.i_NoPlace_KeyError⟩
  | 1, h => cases h; exact ⟨Fx.e_NothingDone, Fx.i_NothingDone_KeyError⟩
  | 2, h => cases h; exact ⟨Fx.e_BadLine, Fx.i_BadLine_KeyError⟩
  | 3, h => cases h; exact ⟨Fx.e_CanNot, Fx.i_CanNot_KeyError⟩
  | 4, h => cases h; exact ⟨Fx.e_TooMuch, Fx.i_TooMuch_KeyError⟩
  | 5, h => cases h; exact ⟨Fx.e_Unfit, Fx.i_Unfit_KeyError⟩
  | n + 6, h => cases h
theorem tv_IndexError (Fx : Facts G mg) : ∀ c b, lookB [false, false, false, false, false, false] c = some b → ExcC G.K (G.cad c) ∧ PySem.W.kitOne G.K (.ref (G.cad c)) (.type "IndexError") = some b := fun c b h => by
  match c, h with
  | 0, h => cases h; exact ⟨Fx.e_NoPlace, Fx.i_NoPlace_IndexError⟩
  | 1, h => cases h; exact ⟨Fx.e_NothingDone, Fx.i_NothingDone_IndexError⟩
  | 2, h => cases h; exact ⟨Fx.e_BadLine, Fx.i_BadLine_IndexError⟩
  | 3, h => cases h; exact ⟨Fx.e_CanNot, Fx.i_CanNot_IndexError⟩
  | 4, h => cases h; exact ⟨Fx.e_TooMuch, Fx.i_TooMuch_IndexError⟩
  | 5, h => cases h; exact ⟨Fx.e_Unfit, Fx.i_Unfit_IndexError⟩
  | n + 6, h => cases h
theorem tv_NoPlace (Fx : Facts G mg) : ∀ c b, lookB [true, false, false, false, false, false] c = some b → ExcC G.K (G.cad c) ∧ PySem.W.kitOne G.K (.ref (G.cad c)) (.ref (G.cad 0)) = some b := fun c b h => by
  match c, h with
  | 0, h => cases h; exact ⟨Fx.e_NoPlace, Fx.i_NoPlace_NoPlace⟩
  | 1, h => cases h; exact ⟨Fx.e_NothingDone, Fx.i_NothingDone_NoPlace⟩
  | 2, h => cases h; exact ⟨Fx.e_BadLine, Fx.i_BadLine_NoPlace⟩
  | 3, h => cases h; exact ⟨Fx.e_CanNot, Fx.i_CanNot_NoPlace⟩
  | 4, h => cases h; exact ⟨Fx.e_TooMuch, Fx.i_TooMuch_NoPlace⟩
  | 5, h => cases h; exact ⟨Fx.e_Unfit, Fx.i_Unfit_NoPlace⟩
  | n + 6, h => cases h
theorem tv_NothingDone (Fx : Facts G mg) : ∀ c b, lookB [false, true, false, false, false, false] c = some b → ExcC G.K (G.cad c) ∧ PySem.W.kitOne G.K (.ref (G.cad c)) (.ref (G.cad 1)) = some b := fun c b h => by
  match c, h with
  | 0, h => cases h; exact ⟨Fx.e_NoPlace, Fx.i_NoPlace_NothingDone⟩
  | 1, h => cases h; exact ⟨Fx.e_NothingDone, Fx.i_NothingDone_NothingDone⟩
  | 2, h => cases h; exact ⟨Fx.e_BadLine, Fx.i_BadLine_NothingDone⟩
  | 3, h => cases h; exact ⟨Fx.e_CanNot, Fx.i_CanNot_NothingDone⟩
  | 4, h => cases h; exact ⟨Fx.e_TooMuch, Fx.i_TooMuch_NothingDone⟩
  | 5, h => cases h; exact ⟨Fx.e_Unfit, Fx.i_Unfit_NothingDone⟩
  | n + 6, h => cases h
theorem tv_BadLine (Fx : Facts G mg) : ∀ c b, lookB [false, false, true, false, false, false] c = some b → ExcC G.K (G.cad c) ∧ PySem.W.kitOne G.K (.ref (G.cad c)) (.ref (G.cad 2)) = some b := fun c b h => by
  match c, h with
  | 0, h => cases h; exact ⟨Fx.e_NoPlace, Fx.i_NoPlace_BadLine⟩
  | 1, h => cases h; exact ⟨Fx.e_NothingDone, Fx.i_NothingDone_BadLine⟩
  | 2, h => cases h; exact ⟨Fx.e_BadLine, Fx.i_BadLine_BadLine⟩
  | 3, h => cases h; exact ⟨Fx.e_CanNot, Fx.i_CanNot_BadLine⟩
  | 4, h => cases h; exact ⟨Fx.e_TooMuch, Fx.i_TooMuch_BadLine⟩
  | 5, h => cases h; exact ⟨Fx.e_Unfit, Fx.i_Unfit_BadLine⟩
  | n + 6, h => cases h
theorem tv_CanNot (Fx : Facts G mg) : ∀ c b, lookB [false, false, false, true, false, false] c = some b → ExcC G.K (G.cad c) ∧ PySem.W.kitOne G.K (.ref (G.cad c)) (.ref (G.cad 3)) = some b := fun c b h => by
  match c, h with
  | 0, h => cases h; exact ⟨Fx.e_NoPlace, Fx.i_NoPlace_CanNot⟩
  | 1, h => cases h; exact ⟨Fx.e_NothingDone, Fx.i_NothingDone_CanNot⟩
  | 2, h => cases h; exact ⟨Fx.e_BadLine, Fx.i_BadLine_CanNot⟩
  | 3, h => cases h; exact ⟨Fx.e_CanNot, Fx.i_CanNot_CanNot⟩
  | 4, h => cases h; exact ⟨Fx.e_TooMuch, Fx.i_TooMuch_CanNot⟩
  | 5, h => cases h; exact ⟨Fx.e_Unfit, Fx.i_Unfit_CanNot⟩
  | n + 6, h => cases h
theorem tv_TooMuch (Fx : Facts G mg) : ∀ c b, lookB [false, false, false, false, true, false] c = some b → ExcC G.K (G.cad c) ∧ PySem.W.kitOne G.K (.ref (G.cad c)) (.ref (G.cad 4)) = some b := fun c b h => by
  match c, h with
  | 0, h => cases h; exact ⟨Fx.e_NoPlace, Fx.i_NoPlace_TooMuch⟩
  | 1, h => cases h; exact ⟨Fx.e_NothingDone, Fx.i_NothingDone_TooMuch⟩
  | 2, h => cases h; exact ⟨Fx.e_BadLine, Fx.i_BadLine_TooMuch⟩
  | 3, h => cases h; exact ⟨Fx.e_CanNot, Fx.i_CanNot_TooMuch⟩
  | 4, h => cases h; exact ⟨Fx.e_TooMuch, Fx.i_TooMuch_TooMuch⟩
  | 5, h => cases h; exact ⟨Fx.e_Unfit, Fx.i_Unfit_TooMuch⟩
  | n + 6, h => cases h
theorem tv_Unfit (Fx : Facts G mg) : ∀ c b, lookB [false, false, false, false, false, true] c = some b → ExcC G.K (G.cad c) ∧ PySem.W.kitOne G.K (.ref (G.cad c)) (.ref (G.cad 5)) = some b := fun c b h => by
  match c, h with
  | 0, h => cases h; exact ⟨Fx.e_NoPlace, Fx.i_NoPlace_Unfit⟩
  | 1, h => cases h; exact ⟨Fx.e_NothingDone, Fx.i_NothingDone_Unfit⟩
  | 2, h => cases h; exact ⟨Fx.e_BadLine, Fx.i_BadLine_Unfit⟩
  | 3, h => cases h; exact ⟨Fx.e_CanNot, Fx.i_CanNot_Unfit⟩
  | 4, h => cases h; exact ⟨Fx.e_TooMuch, Fx.i_TooMuch_Unfit⟩
  | 5, h => cases h; exact ⟨Fx.e_Unfit, Fx.i_Unfit_Unfit⟩
  | n + 6, h => cases h
noncomputable def B__law_same (r : Fn) : Evs := (esSeq (esIf (etTru (evIsi [3, 4] (evVar 1)))
  (esSeq (esIf (etOr (etBin gNe (evIsi [3] (evVar 0)) (evIsi [3] (evVar 1))) (etBin gNe (evIsi [4] (evVar 0)) (evIsi [4] (evVar 1))))
  (esRet (evK (.bl false)))
  esNil)
  (esRet (evAnd (evBin gEq (evCB cLen (eaCons (evVar 0) eaNil)) (evCB cLen (eaCons (evVar 1) eaNil))) (evCB cAll (eaCons (evLx (eiZip (eaCons (evVar 0) (eaCons (evVar 1) eaNil))) (tgTup 2 (tgCons (tgName 2) (tgCons (tgName 3) tgNil))) etYes (evCl true 2 r (eaCons (evVar 2) (eaCons (evVar 3) eaNil))) [2, 3]) eaNil)))))
  esNil)
  (esSeq (esIf (etOr (etBin gIs (evVar 1) (evK .non)) (etTru (evIsi [1, 2] (evVar 1))))
  (esRet (evAnd (evBin gEq (evVar 0) (evVar 1)) (evAnd (evBin gEq (evIsi [1] (evVar 0)) (evIsi [1] (evVar 1))) (evBin gEq (evBin gIs (evVar 0) (evK .non)) (evBin gIs (evVar 1) (evK .non))))))
  esNil)
  (esRet (evAnd (evIsi [0] (evVar 0)) (evAnd (evNot (evIsi [1] (evVar 0))) (evBin gEq (evVar 0) (evVar 1)))))))
noncomputable def E__law_same (d : Nat) : Fn := Nat.rec (motive := fun _ => Fn) (evFun (fun _ _ => .stuck) 4) (fun _ ih => evFun (B__law_same ih) 4) d
theorem okr__law_same (Fx : Facts G mg) : ∀ d : Nat, Def G G.P G.w mg base (1 + d) "_law_same" ["got", "goal"] 2 (E__law_same d)
  | 0 => by
    obtain ⟨f, fd, F, m, b⟩ := Fx.d__law_same
    exact def_mk F (fn_ok (k := 0) F sc__law_same _ (fun cdv A outer s H E hr => ss_stuck)) rfl m b
  | d + 1 => by
    have ih : Def G G.P G.w mg base (1 + d) "_law_same" ["got", "goal"] 2 (E__law_same d) := okr__law_same Fx d
    obtain ⟨f, fd, F, m, b⟩ := Fx.d__law_same
    refine def_mk F (fn_ok (k := 1 + d) F sc__law_same (B__law_same (E__law_same d)) (fun cdv A outer s H E hr => ?_)) rfl m b
    have hx : Okx G (cxB G.P G.w G.K mg base N__law_same "_law_same" (defScope st__law_same) f cdv A outer s H E) := ⟨rfl, rfl, un_of hr, rfl, rfl⟩
    have hd : Dfx (cxB G.P G.w G.K mg base N__law_same "_law_same" (defScope st__law_same) f cdv A outer s H E) := ⟨rfl, rfl⟩
    have tk : Takes (cxB G.P G.w G.K mg base N__law_same "_law_same" (defScope st__law_same) f cdv A outer s H E) (WE' E) := takes_of rfl rfl rfl rfl
    have po := passes_of (X := cxB G.P G.w G.K mg base N__law_same "_law_same" (defScope st__law_same) f cdv A outer s H E) rfl
    exact (ss_cons (ss_if (st_tru hx.k (se_isiT (cs := [3, 4]) hx (sv 1) (pa_cons (pe_bltn (by rfl) Fx.n_list bb_list rfl) (pa_cons (pe_bltn (by rfl) Fx.n_tuple bb_tuple rfl) pa_nil)) (by decide) (by decide) (by rfl) Fx.n_isinstance) (fun _ => rfl))
  (ss_cons (ss_if (st_w (sw_or (st_cop (ox_ne hx) (se_isi (c := 3) hx (sv 0) (pe_bltn (by rfl) Fx.n_list bb_list rfl) (by decide) (by rfl) Fx.n_isinstance) (se_isi (c := 3) hx (sv 1) (pe_bltn (by rfl) Fx.n_list bb_list rfl) (by decide) (by rfl) Fx.n_isinstance) rfl) (sw_or1 (st_cop (ox_ne hx) (se_isi (c := 4) hx (sv 0) (pe_bltn (by rfl) Fx.n_tuple bb_tuple rfl) (by decide) (by rfl) Fx.n_isinstance) (se_isi (c := 4) hx (sv 1) (pe_bltn (by rfl) Fx.n_tuple bb_tuple rfl) (by decide) (by rfl) Fx.n_isinstance) rfl))))
  (ss_one (ss_ret (se_k pe_bl)))
  ss_nil)
  (ss_one (ss_ret (se_and hx.k (se_cop (ox_eq hx) (se_callB (cx_len hx) (by rfl) Fx.n_len bb_len (sa_cons (sv 0) sa_nil)) (se_callB (cx_len hx) (by rfl) Fx.n_len bb_len (sa_cons (sv 1) sa_nil)) rfl) (se_one (se_callB (cx_all hx) (by rfl) Fx.n_all bb_all (sa_cons (se_lx (own := [("mine_so", 2), ("own", 3)]) hd tk hx.calm sc__law_same.nd (si_zip hx (by rfl) Fx.n_zip (sa_cons (sv 0) (sa_cons (sv 1) sa_nil))) (blkOk_by (N := N__law_same) (sc := defScope st__law_same) (own := [("mine_so", 2), ("own", 3)]) (by decide +kernel)) (kk_tup (K := G.K) rfl (kks_cons (kk_name 2) (kks_cons (kk_name 3) kks_nil))) (by decide) (fun _ _ _ _ _ _ => (pg_tup hx.calm (pgs_cons (pg_name (i := 2) sc__law_same.nd rfl (by first | exact Or.inl rfl | exact Or.inr rfl)) (pgs_cons (pg_name (i := 3) sc__law_same.nd rfl (by first | exact Or.inl rfl | exact Or.inr rfl)) pgs_nil)))) (fun _ _ _ _ _ _ _ tk => sts_nil) (fun _ _ _ _ _ _ _ tk => (se_cl true (hx.blk) ih (hr.mono (Nat.le_refl _)) (by rfl) tk (sa_cons (sv 2) (sa_cons (sv 3) sa_nil))))) sa_nil)))))))
  ss_nil)
  (ss_cons (ss_if (st_w (sw_or (st_cop (ox_is) (sv 1) (se_k pe_non) rfl) (sw_or1 (st_tru hx.k (se_isiT (cs := [1, 2]) hx (sv 1) (pa_cons (pe_bltn (by rfl) Fx.n_bool bb_bool rfl) (pa_cons (pe_bltn (by rfl) Fx.n_str bb_str rfl) pa_nil)) (by decide) (by decide) (by rfl) Fx.n_isinstance) (fun _ => rfl)))))
  (ss_one (ss_ret (se_and hx.k (se_cop (ox_eq hx) (sv 0) (sv 1) rfl) (se_and hx.k (se_cop (ox_eq hx) (se_isi (c := 1) hx (sv 0) (pe_bltn (by rfl) Fx.n_bool bb_bool rfl) (by decide) (by rfl) Fx.n_isinstance) (se_isi (c := 1) hx (sv 1) (pe_bltn (by rfl) Fx.n_bool bb_bool rfl) (by decide) (by rfl) Fx.n_isinstance) rfl) (se_one (se_cop (ox_eq hx) (se_cop (ox_is) (sv 0) (se_k pe_non) rfl) (se_cop (ox_is) (sv 1) (se_k pe_non) rfl) rfl))))))
  ss_nil)
  (ss_one (ss_ret (se_and hx.k (se_isi (c := 0) hx (sv 0) (pe_bltn (by rfl) Fx.n_int bb_int rfl) (by decide) (by rfl) Fx.n_isinstance) (se_and hx.k (se_not hx.k (se_isi (c := 1) hx (sv 0) (pe_bltn (by rfl) Fx.n_bool bb_bool rfl) (by decide) (by rfl) Fx.n_isinstance)) (se_one (se_cop (ox_eq hx) (sv 0) (sv 1) rfl))))))))
theorem ok__law_same (Fx : Facts G mg) : Def G G.P G.w mg base 12 "_law_same" ["got", "goal"] 2 (E__law_same 11) := okr__law_same Fx 11
noncomputable def B__law_caught : Evs := (esTry (esSeq (esIf (etBin gEq (evVar 0) (evK (.int 0)))
  (esRaiseP 0 (evVar 1))
  esNil)
  (esSeq (esIf (etBin gEq (evVar 0) (evK (.int 1)))
  (esRaiseP 2 (evVar 1))
  esNil)
  (esSeq (esIf (etBin gEq (evVar 0) (evK (.int 2)))
  (esRaiseP 0 (evVar 1))
  esNil)
  (esRaiseP 2 (evVar 1)))))
  (quiet [(lookB [true, false, false, false, false, false], asK (some 2) (fun x => esRet ((fun x => evLst ((fun x => eaCons ((fun _ => (evK (.str s_1))) x) ((fun x => eaCons ((fun y _ S => .ok y S) x) ((fun _ => eaNil) x)) x)) x)) x))), (lookB [false, false, true, false, false, false], asK (some 2) (fun x => esRet ((fun x => evLst ((fun x => eaCons ((fun _ => (evK (.str s_0))) x) ((fun x => eaCons ((fun y _ S => .ok y S) x) ((fun _ => eaNil) x)) x)) x)) x)))]))
noncomputable def E__law_caught : Fn := evFun B__law_caught 3
theorem ok__law_caught (Fx : Facts G mg) : Def G G.P G.w mg base 1 "_law_caught" ["way_so", "worth"] 2 E__law_caught := by
  obtain ⟨f, fd, F, m, b⟩ := Fx.d__law_caught
  refine def_mk F (fn_ok (k := 0) F sc__law_caught B__law_caught (fun cdv A outer s H E hr => ?_)) rfl m b
  have hx : Okx G (cxB G.P G.w G.K mg base N__law_caught "_law_caught" (defScope st__law_caught) f cdv A outer s H E) := ⟨rfl, rfl, un_of hr, rfl, rfl⟩
  have hd : Dfx (cxB G.P G.w G.K mg base N__law_caught "_law_caught" (defScope st__law_caught) f cdv A outer s H E) := ⟨rfl, rfl⟩
  have tk : Takes (cxB G.P G.w G.K mg base N__law_caught "_law_caught" (defScope st__law_caught) f cdv A outer s H E) (WE' E) := takes_of rfl rfl rfl rfl
  have po := passes_of (X := cxB G.P G.w G.K mg base N__law_caught "_law_caught" (defScope st__law_caught) f cdv A outer s H E) rfl
  exact (ss_one (ss_try hx hd sc__law_caught.nd tk (fun _ _ _ tk po => (ss_cons (ss_if (st_cop (ox_eq (hx.tr)) (sv 0) si rfl)
  (ss_one (ss_raiseP (c := 0) (hx.tr) hr tk Fx.x_NoPlace (sv 1) (by rfl)))
  ss_nil)
  (ss_cons (ss_if (st_cop (ox_eq (hx.tr)) (sv 0) si rfl)
  (ss_one (ss_raiseP (c := 2) (hx.tr) hr tk Fx.x_BadLine (sv 1) (by rfl)))
  ss_nil)
  (ss_cons (ss_if (st_cop (ox_eq (hx.tr)) (sv 0) si rfl)
  (ss_one (ss_raisePK (c := 0) (hx.tr) hr tk Fx.x_NoPlace (sv 1) (by rfl)))
  ss_nil)
  (ss_one (ss_raisePK (c := 2) (hx.tr) hr tk Fx.x_BadLine (sv 1) (by rfl)))))))
  (.cons ⟨by rfl, by decide, .inl Fx.x_NoPlace.mg⟩ (i := (some 2)) ⟨_, rfl, rfl, rfl⟩ (ex_NoPlace Fx) (fun c hc => (by obtain rfl := only_NoPlace hc; exact (sx_ret (sxe_lst (sxa_cons (sxe_of fun _ _ => (se_str s_1_eq)) (sxa_cons (sxe_attr hx Fx.x_NoPlace (fun _ _ => pv 2)) sxa_nil)))))) (.cons ⟨by rfl, by decide, .inl Fx.x_BadLine.mg⟩ (i := (some 2)) ⟨_, rfl, rfl, rfl⟩ (ex_BadLine Fx) (fun c hc => (by obtain rfl := only_BadLine hc; exact (sx_ret (sxe_lst (sxa_cons (sxe_of fun _ _ => (se_str s_0_eq)) (sxa_cons (sxe_attr hx Fx.x_BadLine (fun _ _ => pv 2)) sxa_nil)))))) .nil))))
noncomputable def B__law_plain : Evs := (esRet (evLst (eaCons (evIsV (lookB [true, true, false, false, false, false]) (evVar 0)) (eaCons (evIsV (lookB [false, false, true, true, true, true]) (evVar 0)) (eaCons (evIsV (lookB [false, false, false, false, false, false]) (evVar 0)) (eaCons (evIsV (lookB [false, false, false, false, false, false]) (evVar 0)) eaNil))))))
noncomputable def E__law_plain : Fn := evFun B__law_plain 1
theorem ok__law_plain (Fx : Facts G mg) : Def G G.P G.w mg base 1 "_law_plain" ["error"] 1 E__law_plain := by
  obtain ⟨f, fd, F, m, b⟩ := Fx.d__law_plain
  refine def_mk F (fn_ok (k := 0) F sc__law_plain B__law_plain (fun cdv A outer s H E hr => ?_)) rfl m b
  have hx : Okx G (cxB G.P G.w G.K mg base N__law_plain "_law_plain" (defScope st__law_plain) f cdv A outer s H E) := ⟨rfl, rfl, un_of hr, rfl, rfl⟩
  have hd : Dfx (cxB G.P G.w G.K mg base N__law_plain "_law_plain" (defScope st__law_plain) f cdv A outer s H E) := ⟨rfl, rfl⟩
  have tk : Takes (cxB G.P G.w G.K mg base N__law_plain "_law_plain" (defScope st__law_plain) f cdv A outer s H E) (WE' E) := takes_of rfl rfl rfl rfl
  have po := passes_of (X := cxB G.P G.w G.K mg base N__law_plain "_law_plain" (defScope st__law_plain) f cdv A outer s H E) rfl
  exact (ss_one (ss_ret (se_lst (sa_cons (se_isV (cv := .ty "LookupError") hx (sv 0) (pe_bltn (by rfl) Fx.n_LookupError bb_LookupError rfl) (fun _ h => h) (tv_LookupError Fx) (by rfl) Fx.n_isinstance) (sa_cons (se_isV (cv := .ty "ValueError") hx (sv 0) (pe_bltn (by rfl) Fx.n_ValueError bb_ValueError rfl) (fun _ h => h) (tv_ValueError Fx) (by rfl) Fx.n_isinstance) (sa_cons (se_isV (cv := .ty "KeyError") hx (sv 0) (pe_bltn (by rfl) Fx.n_KeyError bb_KeyError rfl) (fun _ h => h) (tv_KeyError Fx) (by rfl) Fx.n_isinstance) (sa_cons (se_isV (cv := .ty "IndexError") hx (sv 0) (pe_bltn (by rfl) Fx.n_IndexError bb_IndexError rfl) (fun _ h => h) (tv_IndexError Fx) (by rfl) Fx.n_isinstance) sa_nil)))))))
noncomputable def B__law_kinds : Evs := (esRet (evLst (eaCons (evIsV (lookB [true, false, false, false, false, false]) (evVar 0)) (eaCons (evIsV (lookB [false, true, false, false, false, false]) (evVar 0)) (eaCons (evIsV (lookB [false, false, true, false, false, false]) (evVar 0)) (eaCons (evIsV (lookB [false, false, false, true, false, false]) (evVar 0)) (eaCons (evIsV (lookB [false, false, false, false, true, false]) (evVar 0)) (eaCons (evIsV (lookB [false, false, false, false, false, true]) (evVar 0)) eaNil))))))))
noncomputable def E__law_kinds : Fn := evFun B__law_kinds 1
theorem ok__law_kinds (Fx : Facts G mg) : Def G G.P G.w mg base 1 "_law_kinds" ["error"] 1 E__law_kinds := by
  obtain ⟨f, fd, F, m, b⟩ := Fx.d__law_kinds
  refine def_mk F (fn_ok (k := 0) F sc__law_kinds B__law_kinds (fun cdv A outer s H E hr => ?_)) rfl m b
  have hx : Okx G (cxB G.P G.w G.K mg base N__law_kinds "_law_kinds" (defScope st__law_kinds) f cdv A outer s H E) := ⟨rfl, rfl, un_of hr, rfl, rfl⟩
  have hd : Dfx (cxB G.P G.w G.K mg base N__law_kinds "_law_kinds" (defScope st__law_kinds) f cdv A outer s H E) := ⟨rfl, rfl⟩
  have tk : Takes (cxB G.P G.w G.K mg base N__law_kinds "_law_kinds" (defScope st__law_kinds) f cdv A outer s H E) (WE' E) := takes_of rfl rfl rfl rfl
  have po := passes_of (X := cxB G.P G.w G.K mg base N__law_kinds "_law_kinds" (defScope st__law_kinds) f cdv A outer s H E) rfl
  exact (ss_one (ss_ret (se_lst (sa_cons (se_isV (cv := .ref (G.cad 0)) hx (sv 0) (pe_glob (by rfl) Fx.x_NoPlace.mg rfl) (fun _ h => h) (tv_NoPlace Fx) (by rfl) Fx.n_isinstance) (sa_cons (se_isV (cv := .ref (G.cad 1)) hx (sv 0) (pe_glob (by rfl) Fx.x_NothingDone.mg rfl) (fun _ h => h) (tv_NothingDone Fx) (by rfl) Fx.n_isinstance) (sa_cons (se_isV (cv := .ref (G.cad 2)) hx (sv 0) (pe_glob (by rfl) Fx.x_BadLine.mg rfl) (fun _ h => h) (tv_BadLine Fx) (by rfl) Fx.n_isinstance) (sa_cons (se_isV (cv := .ref (G.cad 3)) hx (sv 0) (pe_glob (by rfl) Fx.x_CanNot.mg rfl) (fun _ h => h) (tv_CanNot Fx) (by rfl) Fx.n_isinstance) (sa_cons (se_isV (cv := .ref (G.cad 4)) hx (sv 0) (pe_glob (by rfl) Fx.x_TooMuch.mg rfl) (fun _ h => h) (tv_TooMuch Fx) (by rfl) Fx.n_isinstance) (sa_cons (se_isV (cv := .ref (G.cad 5)) hx (sv 0) (pe_glob (by rfl) Fx.x_Unfit.mg rfl) (fun _ h => h) (tv_Unfit Fx) (by rfl) Fx.n_isinstance) sa_nil)))))))))
noncomputable def B__law_by_hand_right : Evs := (esSeq (esSet 0 (evLst (eaCons (evMkP 0 (evK (.int 7))) (eaCons (evMk0 1) (eaCons (evMkP 2 (evK (.int 7))) (eaCons (evMk0 3) (eaCons (evMk0 4) (eaCons (evMk0 5) eaNil))))))))
  (esSeq (esSet 1 (evLx (eiSeq (evVar 0)) (tgName 5) etYes (evCl true 1 E__law_plain (eaCons (evVar 5) eaNil)) [5]))
  (esSeq (esSet 2 (evBin gAdd (evBin gMul (evLst (eaCons (evLst (eaCons (evK (.bl true)) (eaCons (evK (.bl false)) (eaCons (evK (.bl false)) (eaCons (evK (.bl false)) eaNil))))) eaNil)) (evK (.int 2))) (evBin gMul (evLst (eaCons (evLst (eaCons (evK (.bl false)) (eaCons (evK (.bl true)) (eaCons (evK (.bl false)) (eaCons (evK (.bl false)) eaNil))))) eaNil)) (evK (.int 4)))))
  (esSeq (esSet 1 (evBin gAdd (evVar 1) (evLx (eiSeq (evVar 0)) (tgName 5) etYes (evCl true 1 E__law_kinds (eaCons (evVar 5) eaNil)) [5])))
  (esSeq (esSet 2 (evBin gAdd (evVar 2) (evLx (eiRng1 (evK (.int 6))) (tgName 4) etYes (evLc (eiRng1 (evK (.int 6))) (tgName 3) etYes (evBin gEq (evVar 4) (evVar 3)) [3]) [4])))
  (esRet (evCl true 2 (E__law_same 11) (eaCons (evVar 1) (eaCons (evVar 2) eaNil)))))))))
noncomputable def E__law_by_hand_right : Fn := evFun B__law_by_hand_right 6
theorem ok__law_by_hand_right (Fx : Facts G mg) : Def G G.P G.w mg base 14 "_law_by_hand_right" [] 0 E__law_by_hand_right := by
  obtain ⟨f, fd, F, m, b⟩ := Fx.d__law_by_hand_right
  refine def_mk F (fn_ok (k := 13) F sc__law_by_hand_right B__law_by_hand_right (fun cdv A outer s H E hr => ?_)) rfl m b
  have hx : Okx G (cxB G.P G.w G.K mg base N__law_by_hand_right "_law_by_hand_right" (defScope st__law_by_hand_right) f cdv A outer s H E) := ⟨rfl, rfl, un_of hr, rfl, rfl⟩
  have hd : Dfx (cxB G.P G.w G.K mg base N__law_by_hand_right "_law_by_hand_right" (defScope st__law_by_hand_right) f cdv A outer s H E) := ⟨rfl, rfl⟩
  have tk : Takes (cxB G.P G.w G.K mg base N__law_by_hand_right "_law_by_hand_right" (defScope st__law_by_hand_right) f cdv A outer s H E) (WE' E) := takes_of rfl rfl rfl rfl
  have po := passes_of (X := cxB G.P G.w G.K mg base N__law_by_hand_right "_law_by_hand_right" (defScope st__law_by_hand_right) f cdv A outer s H E) rfl
  exact (ss_cons (ss_set (i := 0) sc__law_by_hand_right.nd rfl (by first | exact Or.inl rfl | exact Or.inr rfl) (se_lst (sa_cons (se_mkP (c := 0) hx hr Fx.x_NoPlace si (by rfl)) (sa_cons (se_mk0 (c := 1) hx Fx.x_NothingDone (by rfl)) (sa_cons (se_mkP (c := 2) hx hr Fx.x_BadLine si (by rfl)) (sa_cons (se_mk0 (c := 3) hx Fx.x_CanNot (by rfl)) (sa_cons (se_mk0 (c := 4) hx Fx.x_TooMuch (by rfl)) (sa_cons (se_mk0 (c := 5) hx Fx.x_Unfit (by rfl)) sa_nil))))))))
  (ss_cons (ss_setLx (i := 1) (own := [("own", 5)]) hd tk hx.calm sc__law_by_hand_right.nd rfl rfl (sw_true rfl rfl rfl (by decide +kernel)) (si_seq hx.k (sv 0)) (blkOk_by (N := N__law_by_hand_right) (sc := defScope st__law_by_hand_right) (own := [("own", 5)]) (by decide +kernel)) (kk_name 5) (by decide) (fun _ _ _ _ _ _ => (pg_name (i := 5) sc__law_by_hand_right.nd rfl (by first | exact Or.inl rfl | exact Or.inr rfl))) (fun _ _ _ _ _ _ _ tk => sts_nil) (fun _ _ _ _ _ _ _ tk => (se_cl true (hx.blk) (ok__law_plain Fx) (hr.mono (by decide)) (by rfl) tk (sa_cons (sv 5) sa_nil))))
  (ss_cons (ss_set (i := 2) sc__law_by_hand_right.nd rfl (by first | exact Or.inl rfl | exact Or.inr rfl) (se_bop (ox_add hx) (se_bop (ox_mul hx) (se_lst (sa_cons (se_lst (sa_cons (se_k pe_bl) (sa_cons (se_k pe_bl) (sa_cons (se_k pe_bl) (sa_cons (se_k pe_bl) sa_nil))))) sa_nil)) si) (se_bop (ox_mul hx) (se_lst (sa_cons (se_lst (sa_cons (se_k pe_bl) (sa_cons (se_k pe_bl) (sa_cons (se_k pe_bl) (sa_cons (se_k pe_bl) sa_nil))))) sa_nil)) si)))
  (ss_cons (ss_set (i := 1) sc__law_by_hand_right.nd rfl (by first | exact Or.inl rfl | exact Or.inr rfl) (se_bop (ox_add hx) (sv 1) (se_lx (own := [("own", 5)]) hd tk hx.calm sc__law_by_hand_right.nd (si_seq hx.k (sv 0)) (blkOk_by (N := N__law_by_hand_right) (sc := defScope st__law_by_hand_right) (own := [("own", 5)]) (by decide +kernel)) (kk_name 5) (by decide) (fun _ _ _ _ _ _ => (pg_name (i := 5) sc__law_by_hand_right.nd rfl (by first | exact Or.inl rfl | exact Or.inr rfl))) (fun _ _ _ _ _ _ _ tk => sts_nil) (fun _ _ _ _ _ _ _ tk => (se_cl true (hx.blk) (ok__law_kinds Fx) (hr.mono (by decide)) (by rfl) tk (sa_cons (sv 5) sa_nil))))))
  (ss_cons (ss_set (i := 2) sc__law_by_hand_right.nd rfl (by first | exact Or.inl rfl | exact Or.inr rfl) (se_bop (ox_add hx) (sv 2) (se_lx (own := [("k", 4)]) hd tk hx.calm sc__law_by_hand_right.nd (si_rng1 (by rfl) Fx.n_range si) (blkOk_by (N := N__law_by_hand_right) (sc := defScope st__law_by_hand_right) (own := [("k", 4)]) (by decide +kernel)) (kk_name 4) (by decide) (fun _ _ _ _ _ _ => (pg_name (i := 4) sc__law_by_hand_right.nd rfl (by first | exact Or.inl rfl | exact Or.inr rfl))) (fun _ _ _ _ _ _ _ tk => sts_nil) (fun _ _ _ _ _ _ _ tk => (se_lc (own := [("far", 3)]) (hx.blk).calm sc__law_by_hand_right.nd (si_rng1 (by rfl) Fx.n_range si) (blkOk_by (N := N__law_by_hand_right) (own := [("far", 3)]) (by first | rfl | kernel_rfl)) _ (fun _ _ _ _ _ => (pg_name (i := 3) sc__law_by_hand_right.nd rfl (by first | exact Or.inl rfl | exact Or.inr rfl))) (kk_name 3) (fun _ _ _ _ _ => sts_nil) (fun _ _ _ _ _ => (se_cop (ox_eq ((hx.blk).blk0)) (sv 4) (sv 3) rfl)) (by decide))))))
  (ss_one (ss_ret (se_cl true hx (ok__law_same Fx) (hr.mono (by decide)) (by rfl) tk (sa_cons (sv 1) (sa_cons (sv 2) sa_nil))))))))))
noncomputable def B_t : Evt := (etNot (etTru (evCl true 0 E__law_by_hand_right eaNil)))
noncomputable def B_rest : Evs := (esSeq (esSet 3 (evBin gAdd (evVar 2) (evK (.int 1))))
  (esSeq (esSet 4 (evLst (eaCons (evCl true 2 E__law_caught (eaCons (evK (.int 0)) (eaCons (evVar 2) eaNil))) (eaCons (evCl true 2 E__law_caught (eaCons (evK (.int 1)) (eaCons (evVar 3) eaNil))) (eaCons (evCl true 2 E__law_caught (eaCons (evK (.int 2)) (eaCons (evVar 2) eaNil))) (eaCons (evCl true 2 E__law_caught (eaCons (evK (.int 3)) (eaCons (evVar 3) eaNil))) eaNil))))))
  (esIf (etNot (etTru (evCl true 2 (E__law_same 11) (eaCons (evVar 4) (eaCons (evBin gMul (evLst (eaCons (evLst (eaCons (evK (.str s_1)) (eaCons (evVar 2) eaNil))) (eaCons (evLst (eaCons (evK (.str s_0)) (eaCons (evVar 3) eaNil))) eaNil))) (evK (.int 2))) eaNil)))))
  (esRet (evK (.bl false)))
  esNil)))
noncomputable def l00 (r : Nat) : Lo := [none, none, some (.k (.int (Int.ofNat r))), none, none]
theorem ev_t : tFalse (B_t [none, none, none, none, none] ⟨0, []⟩) = true := by decide +kernel
theorem ev_b : belowB (fun r => nxOk 5 (B_rest (l00 r) ⟨0, []⟩)) 1000 = true := by decide +kernel

noncomputable def allB (f : Nat → Bool) (n : Nat) : Bool := Nat.rec (motive := fun _ => Bool) true (fun m ih => match f m with
  | true => ih
  | false => false) n
noncomputable def okW (w : W) : Bool := match w with
  | .k v => match v with
    | .bl b => b
    | _ => false
  | _ => false
noncomputable def allT (m : Res W) : Bool := Res.rec (motive := fun _ => Bool) (fun a _ => okW a) (fun _ _ _ _ => false) (fun n _ ih => allB ih n) false m

noncomputable def kLaw : Fl → FH → Res W := fun r S => match r with
  | .rt w => .ok w S
  | _ => .stuck
theorem allB_of {f : Nat → Bool} : ∀ {n : Nat}, allB f n = true → ∀ r, r < n → f r = true
  | 0, _, r, h => absurd h (Nat.not_lt_zero _)
  | m + 1, e, r, h => by
    have e' : (match f m with | true => allB f m | false => false) = true := e
    cases q : f m with
    | false => rw [q] at e'; cases e'
    | true =>
      rw [q] at e'
      by_cases z : r = m
      · rw [z]; exact q
      · exact allB_of e' r (by omega)
theorem post_allT {C : Cf} {W' : WX} : ∀ {m : Res W}, allT m = true → Post G W' C m fun w C' => w = W.k (.bl true)
  | .ok a S, h => by
    unfold Post
    intro C' _ _ _
    have h' : okW a = true := h
    unfold okW at h'
    split at h'
    · split at h'
      · rw [h']
      · cases h'
    · cases h'
  | .exc c x l S, h => by cases (show false = true from h)
  | .pick n f, h => by
    have h' : allB (fun r => allT (f r)) n = true := h
    unfold Post
    exact fun r hr => post_allT (allB_of h' r hr)
  | .stuck, h => by cases (show false = true from h)
theorem post_allB {α : Type} {C : Cf} {W' : WX} {k : α → FH → Res W} : ∀ {m : Res α}, allT (m.bnd k) = true → Post G W' C m fun a C1 => allT (k a C1.S) = true
  | .ok a S, h => by
    unfold Post
    intro C' e _ _
    rw [e]
    exact h
  | .exc c x l S, h => by cases (show false = true from h)
  | .pick n f, h => by
    have h' : allB (fun r => allT ((f r).bnd k)) n = true := h
    unfold Post
    exact fun r hr => post_allB (allB_of h' r hr)
  | .stuck, h => by cases (show false = true from h)
def spLaw (K : PySem.W.Frag) : Sp := fun vs H Q _ => ∃ (a : Addr) (ns : List Int), vs = [.ref a] ∧ SqL K H a (ns.map V.int) ∧ ns.length ≤ 63 ∧ ∀ H', Q (.bl true) H'
theorem rl_none {C : Cf} {σ : L2.St} {n : Nat} (h : σ.length = n) : RL G C (List.replicate n none) σ := ⟨by simp [h], fun i w e => by
  rw [List.getElem?_replicate] at e
  split at e <;> cases e⟩
theorem fn_law (Fx : Facts G mg) {f : Addr} {fd : FuncData} (F : Fun G.K "law" "law" st_law f fd) : FnOk G.P G.w G.K mg base (L2.CX G.P G.w) 15 f fd ["script"] (spLaw G.K) := by
  refine F.okX sc_law (fun vs H Q E h => ?_) (fun cdv A outer s H vs Q E hr h => ?_)
  · obtain ⟨a, ns, rfl, _⟩ := h
    rfl
  obtain ⟨a, ns, rfl, hS, h63, fin⟩ := h
  have hx : Okx G (cxB G.P G.w G.K mg base N_law "law" (defScope st_law) f cdv A outer s H E) := ⟨rfl, rfl, un_of hr, rfl, rfl⟩
  have hd : Dfx (cxB G.P G.w G.K mg base N_law "law" (defScope st_law) f cdv A outer s H E) := ⟨rfl, rfl⟩
  have tk : Takes (cxB G.P G.w G.K mg base N_law "law" (defScope st_law) f cdv A outer s H E) (WE' E) := takes_of rfl rfl rfl rfl
  have po := passes_of (X := (cxB G.P G.w G.K mg base N_law "law" (defScope st_law) f cdv A outer s H E)) rfl
  refine ⟨_, pss_cons (ps_if ((st_not (st_tru hx.k (se_cl0 true hx (ok__law_by_hand_right Fx) (hr.mono (by decide)) (by rfl) tk) (fun _ => rfl))))
    (pss_one (ps_ret pe_bl)) pss_nil)
    (pss_cons (ps_for po hx.calm (pi_list (pe_op op_cat (pe_callTy call_list_of (by rfl) Fx.n_list bb_list (pa_cons (pe_slice sl_list (pv 0) po_none (po_some pe_int)) pa_nil)) (pe_lst (pa_cons pe_int (pa_cons pe_int (pa_cons pe_int pa_nil))))))
      (pg_name (i := 1) sc_law.nd rfl (by first | exact Or.inl rfl | exact Or.inr rfl))
      (pss_cons (ps_set (i := 2) sc_law.nd rfl (by first | exact Or.inl rfl | exact Or.inr rfl) (pe_op op_mod (pe_callTy call_int1 (by rfl) Fx.n_int bb_int (pa_cons (pe_callB call_abs (by rfl) Fx.n_abs bb_abs (pa_cons (pv 1) pa_nil)) pa_nil)) pe_int))
      ((ss_cons (ss_set (i := 3) sc_law.nd rfl (by first | exact Or.inl rfl | exact Or.inr rfl) (se_bop (ox_add hx) (sv 2) si))
  (ss_cons (ss_set (i := 4) sc_law.nd rfl (by first | exact Or.inl rfl | exact Or.inr rfl) (se_lst (sa_cons (se_cl true hx (ok__law_caught Fx) (hr.mono (by decide)) (by rfl) tk (sa_cons si (sa_cons (sv 2) sa_nil))) (sa_cons (se_cl true hx (ok__law_caught Fx) (hr.mono (by decide)) (by rfl) tk (sa_cons si (sa_cons (sv 3) sa_nil))) (sa_cons (se_cl true hx (ok__law_caught Fx) (hr.mono (by decide)) (by rfl) tk (sa_cons si (sa_cons (sv 2) sa_nil))) (sa_cons (se_cl true hx (ok__law_caught Fx) (hr.mono (by decide)) (by rfl) tk (sa_cons si (sa_cons (sv 3) sa_nil))) sa_nil))))))
  (ss_one (ss_if (st_not (st_tru hx.k (se_cl true hx (ok__law_same Fx) (hr.mono (by decide)) (by rfl) tk (sa_cons (sv 4) (sa_cons (se_bop (ox_mul hx) (se_lst (sa_cons (se_lst (sa_cons (se_str s_1_eq) (sa_cons (sv 2) sa_nil))) (sa_cons (se_lst (sa_cons (se_str s_0_eq) (sa_cons (sv 3) sa_nil))) sa_nil))) si) sa_nil))) (fun _ => rfl)))
  (ss_one (ss_ret (se_k pe_bl)))
  ss_nil)))))))
    (pss_one (ps_ret pe_bl))), ?_⟩
  refine ⟨⟨[], H, ⟨0, []⟩⟩, [none, none, none, none, none], rfl, Cf.zero_ok, rl_none (n := 5) (σ := L2.start N_law [.ref a]) rfl, Post.mono (fun b C1 ok1 x1 eb => ?_) (post_tFalse (G := G) (W' := WE' E) (C := ⟨[], H, ⟨0, []⟩⟩) ev_t)⟩
  subst eb
  have sq1 := zero_sq x1 hS
  have hcl : (cutV (ns.map V.int) none (some 8)).length + 3 ≤ sizeLine := by
    have h1 := cutV_length (ns.map V.int) none (some 8)
    rw [List.length_map] at h1
    rw [sizeLine_eq]
    omega
  refine ⟨.ref a, rfl, 8, rfl, a, _, rfl, sq1, fun p hp => ⟨p, _, rfl, .inl (SqL.of upd_same), fun l hl => ⟨by rw [sizeLine_eq]; decide, fun q hq => ?_⟩⟩⟩
  have ne : l ≠ q := fun e => by rw [← e, upd_same] at hq; cases hq
  refine ⟨l, q, _, _, rfl, rfl, by rw [upd_ne ne]; exact upd_same, upd_same, hcl, fun r hr2 => ⟨r, rfl, ⟨_, SqL.of upd_same⟩, ?_⟩⟩
  refine for_list (K := G.K) (a := r) (xs := cutV (ns.map V.int) none (some 8) ++ [V.int 0, V.int 1, V.int 999]) (fun _ σ H => σ.length = 5 ∧ SqL G.K H r (cutV (ns.map V.int) none (some 8) ++ [V.int 0, V.int 1, V.int 999])) ⟨rfl, SqL.of upd_same⟩ (fun _ _ _ _ h => h.2) (fun i x σ H' e h => ?_) (fun σ H' h => fin H')
  obtain ⟨z, rfl⟩ := cut_int e
  obtain ⟨r0, hr0, er⟩ := mod_nat z
  have l1 : (σ.set 1 (some (V.int z))).length = 5 := by rw [List.length_set]; exact h.1
  refine ⟨.int z, by rw [List.getElem?_set_self (by rw [h.1]; decide)], z, rfl, .inl ⟨_, rfl, _, _, rfl, rfl, (show (0 : Int) < 1000 by decide), ?_⟩⟩
  show rdS G (WE' E) B_rest _ ((σ.set 1 (some (V.int z))).set 2 (some (V.int ((if z < 0 then -z else z) % 1000)))) H'
  rw [er]
  have rl0 : RL G ⟨[], H', ⟨0, []⟩⟩ (setL (List.replicate 5 none) 2 (some (.k (.int ((r0 : Nat) : Int))))) ((σ.set 1 (some (V.int z))).set 2 (some (.int ((r0 : Nat) : Int)))) := RL.set (rl_none l1) mk_k
  refine ⟨⟨[], H', ⟨0, []⟩⟩, l00 r0, rfl, Cf.zero_ok, rl0, Post.mono (fun rr C2 ok2 x2 ⟨l, e, el⟩ => ?_) (post_nxOk (n := 5) (belowB_of 1000 ev_b r0 hr0))⟩
  subst e
  intro σ3 r3
  exact ⟨r3.len.symm.trans el, zero_sq x2 h.2⟩
end
theorem fd_mk {K : PySem.W.Frag} {h : Heap} {mg : Str → Option Value} (X : K.In h) (Gn : h.Ns mainGlobals mg) {x : Str} {st : Stmt} {ps : List Str} {f : Addr} {oc : Value} {od an : Option Addr} {osl : Array (Option Value)} {kV doc pm cdv ct : Value}
    (a : PySem.W.nsIn K mainGlobals x = some (some (.ref f))) (l : K.lookup f = some ⟨oc, od, .func (PySem.W.fnOf x x (defArgs st) (defBody st) (defScope st) .none kV doc pm an cdv ct), osl⟩) (c : PySem.W.codeIn K cdv x = true) (k : PySem.W.keepIn K (.ref f) = true)
    (hb : ∀ (kV doc pm : Value) (an : Option Addr) (cdv ct : Value) (us : List Value), us.length = ps.length → bindArgs (PySem.W.fnOf x x (defArgs st) (defBody st) (defScope st) .none kV doc pm an cdv ct) ⟨us, []⟩ = pure (ps.zip us)) : Fd K mg st x ps :=
  ⟨f, _, fun_mk l c k, PySem.W.mg_of X Gn a, (fun_mk l c k).binds hb⟩
theorem fd_mkA {K : PySem.W.Frag} {h : Heap} {mg : Str → Option Value} (X : K.In h) (Gn : h.Ns mainGlobals mg) {nm x : Str} {st : Stmt} {ps : List Str} {f : Addr} {oc : Value} {od an : Option Addr} {osl : Array (Option Value)} {kV doc pm cdv ct : Value}
    (a : PySem.W.nsIn K mainGlobals x = some (some (.ref f))) (l : K.lookup f = some ⟨oc, od, .func (PySem.W.fnOf nm nm (defArgs st) (defBody st) (defScope st) .none kV doc pm an cdv ct), osl⟩) (c : PySem.W.codeIn K cdv nm = true) (k : PySem.W.keepIn K (.ref f) = true)
    (hb : ∀ (kV doc pm : Value) (an : Option Addr) (cdv ct : Value) (us : List Value), us.length = ps.length → bindArgs (PySem.W.fnOf nm nm (defArgs st) (defBody st) (defScope st) .none kV doc pm an cdv ct) ⟨us, []⟩ = pure (ps.zip us)) : FdA K mg st nm x ps :=
  ⟨f, _, fun_mk l c k, PySem.W.mg_of X Gn a, (fun_mk l c k).binds hb⟩
theorem q_mk2 {K : PySem.W.Frag} {h : Heap} {mg : Str → Option Value} (X : K.In h) (Gn : h.Ns mainGlobals mg) {x : Str} {A : Addr} {i j : Int} {t u : Tok} {dd : Option Addr} {n : Nat} {sl : Array (Option Value)}
    (a : PySem.W.nsIn K mainGlobals x = some (some (.ref A))) (l : K.lookup A = some ⟨.type "tuple", dd, .seq #[.int i t, .int j u] n, sl⟩) : ∃ v u, mg x = some u ∧ RelV v u ∧ ∀ ρ H, RW K ρ H (W.tup [W.k (.int i), W.k (.int j)]) v := by
  refine ⟨.ref A, .ref A, PySem.W.mg_of X Gn a, rfl, fun ρ H => ?_⟩
  unfold RW
  refine ⟨A, [.int i, .int j], rfl, .inr ⟨_, _, _, l, rfl, rfl, (by show 2 ≤ sizeLine; rw [sizeLine_eq]; omega), .cons ⟨t, rfl⟩ (.cons ⟨u, rfl⟩ .nil)⟩, .cons mk_k (.cons mk_k .nil)⟩
theorem q_mkP2 {K : PySem.W.Frag} {h : Heap} {mg : Str → Option Value} (X : K.In h) (Gn : h.Ns mainGlobals mg) {x : Str} {A B C : Addr} {i j k l : Int} {t1 t2 t3 t4 : Tok} {d1 d2 d3 : Option Addr} {n1 n2 n3 : Nat} {s1 s2 s3 : Array (Option Value)}
    (a : PySem.W.nsIn K mainGlobals x = some (some (.ref A))) (l1 : K.lookup A = some ⟨.type "tuple", d1, .seq #[.ref B, .ref C] n1, s1⟩) (l2 : K.lookup B = some ⟨.type "tuple", d2, .seq #[.int i t1, .int j t2] n2, s2⟩)
    (l3 : K.lookup C = some ⟨.type "tuple", d3, .seq #[.int k t3, .int l t4] n3, s3⟩) : ∃ v u, mg x = some u ∧ RelV v u ∧ ∀ ρ H, RW K ρ H (W.tup [W.tup [W.k (.int i), W.k (.int j)], W.tup [W.k (.int k), W.k (.int l)]]) v := by
  refine ⟨.ref A, .ref A, PySem.W.mg_of X Gn a, rfl, fun ρ H => ?_⟩
  unfold RW
  refine ⟨A, [.ref B, .ref C], rfl, .inr ⟨_, _, _, l1, rfl, rfl, (by show 2 ≤ sizeLine; rw [sizeLine_eq]; omega), .cons rfl (.cons rfl .nil)⟩, .cons ?_ (.cons ?_ .nil)⟩
  · unfold RW
    exact ⟨B, [.int i, .int j], rfl, .inr ⟨_, _, _, l2, rfl, rfl, (by show 2 ≤ sizeLine; rw [sizeLine_eq]; omega), .cons ⟨t1, rfl⟩ (.cons ⟨t2, rfl⟩ .nil)⟩, .cons mk_k (.cons mk_k .nil)⟩
  · unfold RW
    exact ⟨C, [.int k, .int l], rfl, .inr ⟨_, _, _, l3, rfl, rfl, (by show 2 ≤ sizeLine; rw [sizeLine_eq]; omega), .cons ⟨t3, rfl⟩ (.cons ⟨t4, rfl⟩ .nil)⟩, .cons mk_k (.cons mk_k .nil)⟩
theorem kdr_some {K : PySem.W.Frag} {w : World} {p : Addr} {z : Str} {i : Int} {t : Tok} {es : Array DictEntry} {n : Nat} (l : K.lookup p = some ⟨.type "dict", none, .dict es n, #[]⟩) (k : PySem.W.KeysLit w.params es.toList) (o : (p == sysModules) = false) (e : PySem.W.nsIn K p z = some (some (.int i t))) : KDr K w p z (some i) := ⟨es, n, l, k, o, _, e, t, rfl⟩
theorem kdr_none {K : PySem.W.Frag} {w : World} {p : Addr} {z : Str} {es : Array DictEntry} {n : Nat} (l : K.lookup p = some ⟨.type "dict", none, .dict es n, #[]⟩) (k : PySem.W.KeysLit w.params es.toList) (o : (p == sysModules) = false) (e : PySem.W.nsIn K p z = some none) : KDr K w p z none := ⟨es, n, l, k, o, _, e, rfl⟩
theorem kdt_nil {K : PySem.W.Frag} {w : World} {p : Addr} : KDt K w p [] := fun _ h => nomatch h
theorem kdt_cons {K : PySem.W.Frag} {w : World} {p : Addr} {e : Str × Option Int} {r : List (Str × Option Int)} (h : KDr K w p e.1 e.2) (t : KDt K w p r) : KDt K w p (e :: r) := fun x hx => by
  rcases List.mem_cons.mp hx with rfl | hx
  · exact h
  · exact t x hx
theorem q_mkI {K : PySem.W.Frag} {h : Heap} {mg : Str → Option Value} (X : K.In h) (Gn : h.Ns mainGlobals mg) {x : Str} {i : Int} {t : Tok}
    (a : PySem.W.nsIn K mainGlobals x = some (some (.int i t))) : ∃ v u, mg x = some u ∧ RelV v u ∧ ∀ ρ H, RW K ρ H (W.k (.int i)) v := ⟨.int i, _, PySem.W.mg_of X Gn a, ⟨t, rfl⟩, fun _ _ => mk_k⟩
theorem q_mkS {K : PySem.W.Frag} {h : Heap} {mg : Str → Option Value} {s : Str} (X : K.In h) (Gn : h.Ns mainGlobals mg) {x : Str} {t : Tok}
    (a : PySem.W.nsIn K mainGlobals x = some (some (.str s t))) : ∃ v u, mg x = some u ∧ RelV v u ∧ ∀ ρ H, RW K ρ H (W.k (.str s)) v := ⟨.str s, _, PySem.W.mg_of X Gn a, ⟨t, rfl⟩, fun _ _ => mk_k⟩

structure Clf (G : Glo) (mg : Str → Option Value) : Prop where
  x_NoPlace : (ExcP G mg 0 "NoPlace" "place")
  e_NoPlace : ExcC G.K (G.cad 0)
  x_NothingDone : (Exc0 G mg 1 "NothingDone")
  e_NothingDone : ExcC G.K (G.cad 1)
  x_BadLine : (ExcP G mg 2 "BadLine" "line")
  e_BadLine : ExcC G.K (G.cad 2)
  x_CanNot : (Exc0 G mg 3 "CanNot")
  e_CanNot : ExcC G.K (G.cad 3)
  x_TooMuch : (Exc0 G mg 4 "TooMuch")
  e_TooMuch : ExcC G.K (G.cad 4)
  x_Unfit : (Exc0 G mg 5 "Unfit")
  e_Unfit : ExcC G.K (G.cad 5)
  t_NoPlace_NoPlace : PySem.W.exmOne G.K (.ref (G.cad 0)) (.ref (G.cad 0)) = some true
  t_NothingDone_NoPlace : PySem.W.exmOne G.K (.ref (G.cad 1)) (.ref (G.cad 0)) = some false
  t_BadLine_NoPlace : PySem.W.exmOne G.K (.ref (G.cad 2)) (.ref (G.cad 0)) = some false
  t_CanNot_NoPlace : PySem.W.exmOne G.K (.ref (G.cad 3)) (.ref (G.cad 0)) = some false
  t_TooMuch_NoPlace : PySem.W.exmOne G.K (.ref (G.cad 4)) (.ref (G.cad 0)) = some false
  t_Unfit_NoPlace : PySem.W.exmOne G.K (.ref (G.cad 5)) (.ref (G.cad 0)) = some false
  t_NoPlace_NothingDone : PySem.W.exmOne G.K (.ref (G.cad 0)) (.ref (G.cad 1)) = some false
  t_NothingDone_NothingDone : PySem.W.exmOne G.K (.ref (G.cad 1)) (.ref (G.cad 1)) = some true
  t_BadLine_NothingDone : PySem.W.exmOne G.K (.ref (G.cad 2)) (.ref (G.cad 1)) = some false
  t_CanNot_NothingDone : PySem.W.exmOne G.K (.ref (G.cad 3)) (.ref (G.cad 1)) = some false
  t_TooMuch_NothingDone : PySem.W.exmOne G.K (.ref (G.cad 4)) (.ref (G.cad 1)) = some false
  t_Unfit_NothingDone : PySem.W.exmOne G.K (.ref (G.cad 5)) (.ref (G.cad 1)) = some false
  t_NoPlace_BadLine : PySem.W.exmOne G.K (.ref (G.cad 0)) (.ref (G.cad 2)) = some false
  t_NothingDone_BadLine : PySem.W.exmOne G.K (.ref (G.cad 1)) (.ref (G.cad 2)) = some false
  t_BadLine_BadLine : PySem.W.exmOne G.K (.ref (G.cad 2)) (.ref (G.cad 2)) = some true
  t_CanNot_BadLine : PySem.W.exmOne G.K (.ref (G.cad 3)) (.ref (G.cad 2)) = some false
  t_TooMuch_BadLine : PySem.W.exmOne G.K (.ref (G.cad 4)) (.ref (G.cad 2)) = some false
  t_Unfit_BadLine : PySem.W.exmOne G.K (.ref (G.cad 5)) (.ref (G.cad 2)) = some false
  t_NoPlace_CanNot : PySem.W.exmOne G.K (.ref (G.cad 0)) (.ref (G.cad 3)) = some false
  t_NothingDone_CanNot : PySem.W.exmOne G.K (.ref (G.cad 1)) (.ref (G.cad 3)) = some false
  t_BadLine_CanNot : PySem.W.exmOne G.K (.ref (G.cad 2)) (.ref (G.cad 3)) = some false
  t_CanNot_CanNot : PySem.W.exmOne G.K (.ref (G.cad 3)) (.ref (G.cad 3)) = some true
  t_TooMuch_CanNot : PySem.W.exmOne G.K (.ref (G.cad 4)) (.ref (G.cad 3)) = some false
  t_Unfit_CanNot : PySem.W.exmOne G.K (.ref (G.cad 5)) (.ref (G.cad 3)) = some false
  t_NoPlace_TooMuch : PySem.W.exmOne G.K (.ref (G.cad 0)) (.ref (G.cad 4)) = some false
  t_NothingDone_TooMuch : PySem.W.exmOne G.K (.ref (G.cad 1)) (.ref (G.cad 4)) = some false
  t_BadLine_TooMuch : PySem.W.exmOne G.K (.ref (G.cad 2)) (.ref (G.cad 4)) = some false
  t_CanNot_TooMuch : PySem.W.exmOne G.K (.ref (G.cad 3)) (.ref (G.cad 4)) = some false
  t_TooMuch_TooMuch : PySem.W.exmOne G.K (.ref (G.cad 4)) (.ref (G.cad 4)) = some true
  t_Unfit_TooMuch : PySem.W.exmOne G.K (.ref (G.cad 5)) (.ref (G.cad 4)) = some false
  t_NoPlace_Unfit : PySem.W.exmOne G.K (.ref (G.cad 0)) (.ref (G.cad 5)) = some false
  t_NothingDone_Unfit : PySem.W.exmOne G.K (.ref (G.cad 1)) (.ref (G.cad 5)) = some false
  t_BadLine_Unfit : PySem.W.exmOne G.K (.ref (G.cad 2)) (.ref (G.cad 5)) = some false
  t_CanNot_Unfit : PySem.W.exmOne G.K (.ref (G.cad 3)) (.ref (G.cad 5)) = some false
  t_TooMuch_Unfit : PySem.W.exmOne G.K (.ref (G.cad 4)) (.ref (G.cad 5)) = some false
  t_Unfit_Unfit : PySem.W.exmOne G.K (.ref (G.cad 5)) (.ref (G.cad 5)) = some true
  i_BadLine_BadLine : PySem.W.kitOne G.K (.ref (G.cad 2)) (.ref (G.cad 2)) = some true
  i_BadLine_CanNot : PySem.W.kitOne G.K (.ref (G.cad 2)) (.ref (G.cad 3)) = some false
  i_BadLine_IndexError : PySem.W.kitOne G.K (.ref (G.cad 2)) (.type "IndexError") = some false
  i_BadLine_KeyError : PySem.W.kitOne G.K (.ref (G.cad 2)) (.type "KeyError") = some false
  i_BadLine_LookupError : PySem.W.kitOne G.K (.ref (G.cad 2)) (.type "LookupError") = some false
  i_BadLine_NoPlace : PySem.W.kitOne G.K (.ref (G.cad 2)) (.ref (G.cad 0)) = some false
  i_BadLine_NothingDone : PySem.W.kitOne G.K (.ref (G.cad 2)) (.ref (G.cad 1)) = some false
  i_BadLine_TooMuch : PySem.W.kitOne G.K (.ref (G.cad 2)) (.ref (G.cad 4)) = some false
  i_BadLine_Unfit : PySem.W.kitOne G.K (.ref (G.cad 2)) (.ref (G.cad 5)) = some false
  i_BadLine_ValueError : PySem.W.kitOne G.K (.ref (G.cad 2)) (.type "ValueError") = some true
  i_CanNot_BadLine : PySem.W.kitOne G.K (.ref (G.cad 3)) (.ref (G.cad 2)) = some false
  i_CanNot_CanNot : PySem.W.kitOne G.K (.ref (G.cad 3)) (.ref (G.cad 3)) = some true
  i_CanNot_IndexError : PySem.W.kitOne G.K (.ref (G.cad 3)) (.type "IndexError") = some false
  i_CanNot_KeyError : PySem.W.kitOne G.K (.ref (G.cad 3)) (.type "KeyError") = some false
  i_CanNot_LookupError : PySem.W.kitOne G.K (.ref (G.cad 3)) (.type "LookupError") = some false
  i_CanNot_NoPlace : PySem.W.kitOne G.K (.ref (G.cad 3)) (.ref (G.cad 0)) = some false
  i_CanNot_NothingDone : PySem.W.kitOne G.K (.ref (G.cad 3)) (.ref (G.cad 1)) = some false
  i_CanNot_TooMuch : PySem.W.kitOne G.K (.ref (G.cad 3)) (.ref (G.cad 4)) = some false
  i_CanNot_Unfit : PySem.W.kitOne G.K (.ref (G.cad 3)) (.ref (G.cad 5)) = some false
  i_CanNot_ValueError : PySem.W.kitOne G.K (.ref (G.cad 3)) (.type "ValueError") = some true
  i_NoPlace_BadLine : PySem.W.kitOne G.K (.ref (G.cad 0)) (.ref (G.cad 2)) = some false
  i_NoPlace_CanNot : PySem.W.kitOne G.K (.ref (G.cad 0)) (.ref (G.cad 3)) = some false
  i_NoPlace_IndexError : PySem.W.kitOne G.K (.ref (G.cad 0)) (.type "IndexError") = some false
  i_NoPlace_KeyError : PySem.W.kitOne G.K (.ref (G.cad 0)) (.type "KeyError") = some false
  i_NoPlace_LookupError : PySem.W.kitOne G.K (.ref (G.cad 0)) (.type "LookupError") = some true
  i_NoPlace_NoPlace : PySem.W.kitOne G.K (.ref (G.cad 0)) (.ref (G.cad 0)) = some true
  i_NoPlace_NothingDone : PySem.W.kitOne G.K (.ref (G.cad 0)) (.ref (G.cad 1)) = some false
  i_NoPlace_TooMuch : PySem.W.kitOne G.K (.ref (G.cad 0)) (.ref (G.cad 4)) = some false
  i_NoPlace_Unfit : PySem.W.kitOne G.K (.ref (G.cad 0)) (.ref (G.cad 5)) = some false
  i_NoPlace_ValueError : PySem.W.kitOne G.K (.ref (G.cad 0)) (.type "ValueError") = some false
  i_NothingDone_BadLine : PySem.W.kitOne G.K (.ref (G.cad 1)) (.ref (G.cad 2)) = some false
  i_NothingDone_CanNot : PySem.W.kitOne G.K (.ref (G.cad 1)) (.ref (G.cad 3)) = some false
  i_NothingDone_IndexError : PySem.W.kitOne G.K (.ref (G.cad 1)) (.type "IndexError") = some false
  i_NothingDone_KeyError : PySem.W.kitOne G.K (.ref (G.cad 1)) (.type "KeyError") = some false
  i_NothingDone_LookupError : PySem.W.kitOne G.K (.ref (G.cad 1)) (.type "LookupError") = some true
  i_NothingDone_NoPlace : PySem.W.kitOne G.K (.ref (G.cad 1)) (.ref (G.cad 0)) = some false
  i_NothingDone_NothingDone : PySem.W.kitOne G.K (.ref (G.cad 1)) (.ref (G.cad 1)) = some true
  i_NothingDone_TooMuch : PySem.W.kitOne G.K (.ref (G.cad 1)) (.ref (G.cad 4)) = some false
  i_NothingDone_Unfit : PySem.W.kitOne G.K (.ref (G.cad 1)) (.ref (G.cad 5)) = some false
  i_NothingDone_ValueError : PySem.W.kitOne G.K (.ref (G.cad 1)) (.type "ValueError") = some false
  i_TooMuch_BadLine : PySem.W.kitOne G.K (.ref (G.cad 4)) (.ref (G.cad 2)) = some false
  i_TooMuch_CanNot : PySem.W.kitOne G.K (.ref (G.cad 4)) (.ref (G.cad 3)) = some false
  i_TooMuch_IndexError : PySem.W.kitOne G.K (.ref (G.cad 4)) (.type "IndexError") = some false
  i_TooMuch_KeyError : PySem.W.kitOne G.K (.ref (G.cad 4)) (.type "KeyError") = some false
  i_TooMuch_LookupError : PySem.W.kitOne G.K (.ref (G.cad 4)) (.type "LookupError") = some false
  i_TooMuch_NoPlace : PySem.W.kitOne G.K (.ref (G.cad 4)) (.ref (G.cad 0)) = some false
  i_TooMuch_NothingDone : PySem.W.kitOne G.K (.ref (G.cad 4)) (.ref (G.cad 1)) = some false
  i_TooMuch_TooMuch : PySem.W.kitOne G.K (.ref (G.cad 4)) (.ref (G.cad 4)) = some true
  i_TooMuch_Unfit : PySem.W.kitOne G.K (.ref (G.cad 4)) (.ref (G.cad 5)) = some false
  i_TooMuch_ValueError : PySem.W.kitOne G.K (.ref (G.cad 4)) (.type "ValueError") = some true
  i_Unfit_BadLine : PySem.W.kitOne G.K (.ref (G.cad 5)) (.ref (G.cad 2)) = some false
  i_Unfit_CanNot : PySem.W.kitOne G.K (.ref (G.cad 5)) (.ref (G.cad 3)) = some false
  i_Unfit_IndexError : PySem.W.kitOne G.K (.ref (G.cad 5)) (.type "IndexError") = some false
  i_Unfit_KeyError : PySem.W.kitOne G.K (.ref (G.cad 5)) (.type "KeyError") = some false
  i_Unfit_LookupError : PySem.W.kitOne G.K (.ref (G.cad 5)) (.type "LookupError") = some false
  i_Unfit_NoPlace : PySem.W.kitOne G.K (.ref (G.cad 5)) (.ref (G.cad 0)) = some false
  i_Unfit_NothingDone : PySem.W.kitOne G.K (.ref (G.cad 5)) (.ref (G.cad 1)) = some false
  i_Unfit_TooMuch : PySem.W.kitOne G.K (.ref (G.cad 5)) (.ref (G.cad 4)) = some false
  i_Unfit_Unfit : PySem.W.kitOne G.K (.ref (G.cad 5)) (.ref (G.cad 5)) = some true
  i_Unfit_ValueError : PySem.W.kitOne G.K (.ref (G.cad 5)) (.type "ValueError") = some true
theorem cls_mk {K : PySem.W.Frag} {h : Heap} {mg : Str → Option Value} (P : Program) (w : World) (X : K.In h) (Gn : h.Ns mainGlobals mg) {C0 C1 C2 C3 C4 C5 : Addr} {F0 N0 : Addr} {nm0 qq0 : Str} {bs0 : List Value} {sn0 : List Str} {sub0 : List Value} {ab0 : Bool} {col0 : Option Bool} {dd0 : Option Addr} {ma0 mb0 mc0 md0 me0 : Option Value} {oc0 dc0 pm0 cd0 ct0 : Value} {od0 an0 : Option Addr} {sl0 : Array (Option Value)} {p0a p0b q0a q0b q0c q0d : Pos} {F2 N2 : Addr} {nm2 qq2 : Str} {bs2 : List Value} {sn2 : List Str} {sub2 : List Value} {ab2 : Bool} {col2 : Option Bool} {dd2 : Option Addr} {ma2 mb2 mc2 md2 me2 : Option Value} {oc2 dc2 pm2 cd2 ct2 : Value} {od2 an2 : Option Addr} {sl2 : Array (Option Value)} {p2a p2b q2a q2b q2c q2d : Pos}
    (a0 : PySem.W.nsIn K mainGlobals "NoPlace" = some (some (.ref C0)))
    (b0 : K.lookup C0 = some (excClassObj nm0 qq0 C0 N0 bs0 [.type "LookupError", .type "Exception", .type "BaseException", .type "object"] true sn0 sub0 ab0 col0 dd0 ma0 mb0 mc0 md0 me0 "LookupError.__new__"))
    (sa0 : PySem.W.findIn K (.ref C0) "__setattr__" = some (some (.builtin "object.__setattr__")))
    (nb0 : PySem.W.findIn K (.ref C0) "place" = some none)
    (fi0 : PySem.W.findIn K (.ref C0) "__init__" = some (some (.ref F0)))
    (tf0 : PySem.W.typeIn K (.ref F0) = some (.type "function"))
    (lf0 : K.lookup F0 = some ⟨oc0, od0, .func (PySem.W.fnOf "__init__" "NoPlace.__init__" (PySem.OwnX.iA p0a p0b "place") (PySem.OwnX.iB q0a q0b q0c q0d "place") (PySem.OwnX.iS "place") .none .none dc0 pm0 an0 cd0 ct0), sl0⟩)
    (cc0 : PySem.W.codeIn K cd0 "NoPlace.__init__" = true)
    (c0 : PySem.W.keepIn K (.ref C0) = true)
    (d0 : PySem.W.subIn K (.ref C0) (.type "BaseException") = some true)
    (e0 : PySem.W.typeIn K (.ref C0) = some (.type "type"))
    (f0 : PySem.W.findIn K (.ref C0) "__getattribute__" = some (some (.builtin "BaseException.__getattribute__")))
    (g0 : PySem.W.findIn K (.ref C0) "__getattr__" = some none)
    (h0 : PySem.W.hasDictIn K C0 = true)
    (j0 : PySem.W.findIn K (.ref C0) "__class__" = some (some (.builtin "object.__class__")))
    (m0 : PySem.W.mroIn K C0 (.type "object") = some true)
    (a1 : PySem.W.nsIn K mainGlobals "NothingDone" = some (some (.ref C1)))
    (b1 : PySem.W.excIn K C1 [.type "LookupError", .type "Exception", .type "BaseException", .type "object"] "LookupError.__new__" = true)
    (c1 : PySem.W.keepIn K (.ref C1) = true)
    (d1 : PySem.W.subIn K (.ref C1) (.type "BaseException") = some true)
    (e1 : PySem.W.typeIn K (.ref C1) = some (.type "type"))
    (f1 : PySem.W.findIn K (.ref C1) "__getattribute__" = some (some (.builtin "BaseException.__getattribute__")))
    (g1 : PySem.W.findIn K (.ref C1) "__getattr__" = some none)
    (h1 : PySem.W.hasDictIn K C1 = true)
    (j1 : PySem.W.findIn K (.ref C1) "__class__" = some (some (.builtin "object.__class__")))
    (m1 : PySem.W.mroIn K C1 (.type "object") = some true)
    (a2 : PySem.W.nsIn K mainGlobals "BadLine" = some (some (.ref C2)))
    (b2 : K.lookup C2 = some (excClassObj nm2 qq2 C2 N2 bs2 [.type "ValueError", .type "Exception", .type "BaseException", .type "object"] true sn2 sub2 ab2 col2 dd2 ma2 mb2 mc2 md2 me2 "ValueError.__new__"))
    (sa2 : PySem.W.findIn K (.ref C2) "__setattr__" = some (some (.builtin "object.__setattr__")))
    (nb2 : PySem.W.findIn K (.ref C2) "line" = some none)
    (fi2 : PySem.W.findIn K (.ref C2) "__init__" = some (some (.ref F2)))
    (tf2 : PySem.W.typeIn K (.ref F2) = some (.type "function"))
    (lf2 : K.lookup F2 = some ⟨oc2, od2, .func (PySem.W.fnOf "__init__" "BadLine.__init__" (PySem.OwnX.iA p2a p2b "line") (PySem.OwnX.iB q2a q2b q2c q2d "line") (PySem.OwnX.iS "line") .none .none dc2 pm2 an2 cd2 ct2), sl2⟩)
    (cc2 : PySem.W.codeIn K cd2 "BadLine.__init__" = true)
    (c2 : PySem.W.keepIn K (.ref C2) = true)
    (d2 : PySem.W.subIn K (.ref C2) (.type "BaseException") = some true)
    (e2 : PySem.W.typeIn K (.ref C2) = some (.type "type"))
    (f2 : PySem.W.findIn K (.ref C2) "__getattribute__" = some (some (.builtin "BaseException.__getattribute__")))
    (g2 : PySem.W.findIn K (.ref C2) "__getattr__" = some none)
    (h2 : PySem.W.hasDictIn K C2 = true)
    (j2 : PySem.W.findIn K (.ref C2) "__class__" = some (some (.builtin "object.__class__")))
    (m2 : PySem.W.mroIn K C2 (.type "object") = some true)
    (a3 : PySem.W.nsIn K mainGlobals "CanNot" = some (some (.ref C3)))
    (b3 : PySem.W.excIn K C3 [.type "ValueError", .type "Exception", .type "BaseException", .type "object"] "ValueError.__new__" = true)
    (c3 : PySem.W.keepIn K (.ref C3) = true)
    (d3 : PySem.W.subIn K (.ref C3) (.type "BaseException") = some true)
    (e3 : PySem.W.typeIn K (.ref C3) = some (.type "type"))
    (f3 : PySem.W.findIn K (.ref C3) "__getattribute__" = some (some (.builtin "BaseException.__getattribute__")))
    (g3 : PySem.W.findIn K (.ref C3) "__getattr__" = some none)
    (h3 : PySem.W.hasDictIn K C3 = true)
    (j3 : PySem.W.findIn K (.ref C3) "__class__" = some (some (.builtin "object.__class__")))
    (m3 : PySem.W.mroIn K C3 (.type "object") = some true)
    (a4 : PySem.W.nsIn K mainGlobals "TooMuch" = some (some (.ref C4)))
    (b4 : PySem.W.excIn K C4 [.type "ValueError", .type "Exception", .type "BaseException", .type "object"] "ValueError.__new__" = true)
    (c4 : PySem.W.keepIn K (.ref C4) = true)
    (d4 : PySem.W.subIn K (.ref C4) (.type "BaseException") = some true)
    (e4 : PySem.W.typeIn K (.ref C4) = some (.type "type"))
    (f4 : PySem.W.findIn K (.ref C4) "__getattribute__" = some (some (.builtin "BaseException.__getattribute__")))
    (g4 : PySem.W.findIn K (.ref C4) "__getattr__" = some none)
    (h4 : PySem.W.hasDictIn K C4 = true)
    (j4 : PySem.W.findIn K (.ref C4) "__class__" = some (some (.builtin "object.__class__")))
    (m4 : PySem.W.mroIn K C4 (.type "object") = some true)
    (a5 : PySem.W.nsIn K mainGlobals "Unfit" = some (some (.ref C5)))
    (b5 : PySem.W.excIn K C5 [.type "ValueError", .type "Exception", .type "BaseException", .type "object"] "ValueError.__new__" = true)
    (c5 : PySem.W.keepIn K (.ref C5) = true)
    (d5 : PySem.W.subIn K (.ref C5) (.type "BaseException") = some true)
    (e5 : PySem.W.typeIn K (.ref C5) = some (.type "type"))
    (f5 : PySem.W.findIn K (.ref C5) "__getattribute__" = some (some (.builtin "BaseException.__getattribute__")))
    (g5 : PySem.W.findIn K (.ref C5) "__getattr__" = some none)
    (h5 : PySem.W.hasDictIn K C5 = true)
    (j5 : PySem.W.findIn K (.ref C5) "__class__" = some (some (.builtin "object.__class__")))
    (m5 : PySem.W.mroIn K C5 (.type "object") = some true)
    (n1 : PySem.W.specialIn K (.builtin "object.__class__") "__get__" = some (some (.builtin "getset_descriptor.__get__"))) (n2 : PySem.W.takesIn K (.builtin "object.__class__") = some true)
    (s0_0 : PySem.W.subIn K (.ref C0) (.ref C0) = some true)
    (s1_0 : PySem.W.subIn K (.ref C1) (.ref C0) = some false)
    (s2_0 : PySem.W.subIn K (.ref C2) (.ref C0) = some false)
    (s3_0 : PySem.W.subIn K (.ref C3) (.ref C0) = some false)
    (s4_0 : PySem.W.subIn K (.ref C4) (.ref C0) = some false)
    (s5_0 : PySem.W.subIn K (.ref C5) (.ref C0) = some false)
    (s0_1 : PySem.W.subIn K (.ref C0) (.ref C1) = some false)
    (s1_1 : PySem.W.subIn K (.ref C1) (.ref C1) = some true)
    (s2_1 : PySem.W.subIn K (.ref C2) (.ref C1) = some false)
    (s3_1 : PySem.W.subIn K (.ref C3) (.ref C1) = some false)
    (s4_1 : PySem.W.subIn K (.ref C4) (.ref C1) = some false)
    (s5_1 : PySem.W.subIn K (.ref C5) (.ref C1) = some false)
    (s0_2 : PySem.W.subIn K (.ref C0) (.ref C2) = some false)
    (s1_2 : PySem.W.subIn K (.ref C1) (.ref C2) = some false)
    (s2_2 : PySem.W.subIn K (.ref C2) (.ref C2) = some true)
    (s3_2 : PySem.W.subIn K (.ref C3) (.ref C2) = some false)
    (s4_2 : PySem.W.subIn K (.ref C4) (.ref C2) = some false)
    (s5_2 : PySem.W.subIn K (.ref C5) (.ref C2) = some false)
    (s0_3 : PySem.W.subIn K (.ref C0) (.ref C3) = some false)
    (s1_3 : PySem.W.subIn K (.ref C1) (.ref C3) = some false)
    (s2_3 : PySem.W.subIn K (.ref C2) (.ref C3) = some false)
    (s3_3 : PySem.W.subIn K (.ref C3) (.ref C3) = some true)
    (s4_3 : PySem.W.subIn K (.ref C4) (.ref C3) = some false)
    (s5_3 : PySem.W.subIn K (.ref C5) (.ref C3) = some false)
    (s0_4 : PySem.W.subIn K (.ref C0) (.ref C4) = some false)
    (s1_4 : PySem.W.subIn K (.ref C1) (.ref C4) = some false)
    (s2_4 : PySem.W.subIn K (.ref C2) (.ref C4) = some false)
    (s3_4 : PySem.W.subIn K (.ref C3) (.ref C4) = some false)
    (s4_4 : PySem.W.subIn K (.ref C4) (.ref C4) = some true)
    (s5_4 : PySem.W.subIn K (.ref C5) (.ref C4) = some false)
    (s0_5 : PySem.W.subIn K (.ref C0) (.ref C5) = some false)
    (s1_5 : PySem.W.subIn K (.ref C1) (.ref C5) = some false)
    (s2_5 : PySem.W.subIn K (.ref C2) (.ref C5) = some false)
    (s3_5 : PySem.W.subIn K (.ref C3) (.ref C5) = some false)
    (s4_5 : PySem.W.subIn K (.ref C4) (.ref C5) = some false)
    (s5_5 : PySem.W.subIn K (.ref C5) (.ref C5) = some true)
    (k2_BadLine : PySem.W.kitOne K (.ref C2) (.ref C2) = some true)
    (k2_CanNot : PySem.W.kitOne K (.ref C2) (.ref C3) = some false)
    (k2_IndexError : PySem.W.kitOne K (.ref C2) (.type "IndexError") = some false)
    (k2_KeyError : PySem.W.kitOne K (.ref C2) (.type "KeyError") = some false)
    (k2_LookupError : PySem.W.kitOne K (.ref C2) (.type "LookupError") = some false)
    (k2_NoPlace : PySem.W.kitOne K (.ref C2) (.ref C0) = some false)
    (k2_NothingDone : PySem.W.kitOne K (.ref C2) (.ref C1) = some false)
    (k2_TooMuch : PySem.W.kitOne K (.ref C2) (.ref C4) = some false)
    (k2_Unfit : PySem.W.kitOne K (.ref C2) (.ref C5) = some false)
    (k2_ValueError : PySem.W.kitOne K (.ref C2) (.type "ValueError") = some true)
    (k3_BadLine : PySem.W.kitOne K (.ref C3) (.ref C2) = some false)
    (k3_CanNot : PySem.W.kitOne K (.ref C3) (.ref C3) = some true)
    (k3_IndexError : PySem.W.kitOne K (.ref C3) (.type "IndexError") = some false)
    (k3_KeyError : PySem.W.kitOne K (.ref C3) (.type "KeyError") = some false)
    (k3_LookupError : PySem.W.kitOne K (.ref C3) (.type "LookupError") = some false)
    (k3_NoPlace : PySem.W.kitOne K (.ref C3) (.ref C0) = some false)
    (k3_NothingDone : PySem.W.kitOne K (.ref C3) (.ref C1) = some false)
    (k3_TooMuch : PySem.W.kitOne K (.ref C3) (.ref C4) = some false)
    (k3_Unfit : PySem.W.kitOne K (.ref C3) (.ref C5) = some false)
    (k3_ValueError : PySem.W.kitOne K (.ref C3) (.type "ValueError") = some true)
    (k0_BadLine : PySem.W.kitOne K (.ref C0) (.ref C2) = some false)
    (k0_CanNot : PySem.W.kitOne K (.ref C0) (.ref C3) = some false)
    (k0_IndexError : PySem.W.kitOne K (.ref C0) (.type "IndexError") = some false)
    (k0_KeyError : PySem.W.kitOne K (.ref C0) (.type "KeyError") = some false)
    (k0_LookupError : PySem.W.kitOne K (.ref C0) (.type "LookupError") = some true)
    (k0_NoPlace : PySem.W.kitOne K (.ref C0) (.ref C0) = some true)
    (k0_NothingDone : PySem.W.kitOne K (.ref C0) (.ref C1) = some false)
    (k0_TooMuch : PySem.W.kitOne K (.ref C0) (.ref C4) = some false)
    (k0_Unfit : PySem.W.kitOne K (.ref C0) (.ref C5) = some false)
    (k0_ValueError : PySem.W.kitOne K (.ref C0) (.type "ValueError") = some false)
    (k1_BadLine : PySem.W.kitOne K (.ref C1) (.ref C2) = some false)
    (k1_CanNot : PySem.W.kitOne K (.ref C1) (.ref C3) = some false)
    (k1_IndexError : PySem.W.kitOne K (.ref C1) (.type "IndexError") = some false)
    (k1_KeyError : PySem.W.kitOne K (.ref C1) (.type "KeyError") = some false)
    (k1_LookupError : PySem.W.kitOne K (.ref C1) (.type "LookupError") = some true)
    (k1_NoPlace : PySem.W.kitOne K (.ref C1) (.ref C0) = some false)
    (k1_NothingDone : PySem.W.kitOne K (.ref C1) (.ref C1) = some true)
    (k1_TooMuch : PySem.W.kitOne K (.ref C1) (.ref C4) = some false)
    (k1_Unfit : PySem.W.kitOne K (.ref C1) (.ref C5) = some false)
    (k1_ValueError : PySem.W.kitOne K (.ref C1) (.type "ValueError") = some false)
    (k4_BadLine : PySem.W.kitOne K (.ref C4) (.ref C2) = some false)
    (k4_CanNot : PySem.W.kitOne K (.ref C4) (.ref C3) = some false)
    (k4_IndexError : PySem.W.kitOne K (.ref C4) (.type "IndexError") = some false)
    (k4_KeyError : PySem.W.kitOne K (.ref C4) (.type "KeyError") = some false)
    (k4_LookupError : PySem.W.kitOne K (.ref C4) (.type "LookupError") = some false)
    (k4_NoPlace : PySem.W.kitOne K (.ref C4) (.ref C0) = some false)
    (k4_NothingDone : PySem.W.kitOne K (.ref C4) (.ref C1) = some false)
    (k4_TooMuch : PySem.W.kitOne K (.ref C4) (.ref C4) = some true)
    (k4_Unfit : PySem.W.kitOne K (.ref C4) (.ref C5) = some false)
    (k4_ValueError : PySem.W.kitOne K (.ref C4) (.type "ValueError") = some true)
    (k5_BadLine : PySem.W.kitOne K (.ref C5) (.ref C2) = some false)
    (k5_CanNot : PySem.W.kitOne K (.ref C5) (.ref C3) = some false)
    (k5_IndexError : PySem.W.kitOne K (.ref C5) (.type "IndexError") = some false)
    (k5_KeyError : PySem.W.kitOne K (.ref C5) (.type "KeyError") = some false)
    (k5_LookupError : PySem.W.kitOne K (.ref C5) (.type "LookupError") = some false)
    (k5_NoPlace : PySem.W.kitOne K (.ref C5) (.ref C0) = some false)
    (k5_NothingDone : PySem.W.kitOne K (.ref C5) (.ref C1) = some false)
    (k5_TooMuch : PySem.W.kitOne K (.ref C5) (.ref C4) = some false)
    (k5_Unfit : PySem.W.kitOne K (.ref C5) (.ref C5) = some true)
    (k5_ValueError : PySem.W.kitOne K (.ref C5) (.type "ValueError") = some true)
    : ∃ cad : Nat → Addr, Clf ⟨K, cad, cflD, P, w⟩ mg :=
  ⟨fun n => match n with | 0 => C0 | 1 => C1 | 2 => C2 | 3 => C3 | 4 => C4 | _ => C5, {
    x_NoPlace := ⟨rfl, PySem.W.mg_of X Gn a0, ⟨F0, "NoPlace.__init__", "LookupError", _, _, _, { nm := .inl rfl, fb := PySem.F.excBase_LookupError, sf := PySem.F.store_LookupError, cls := ⟨_, _, _, _, _, _, _, _, _, _, _, _, _, _, _, b0, by decide +kernel⟩, sa := sa0, ga := f0, gg := g0, noN := nb0, iC := fi0, tC := tf0, exC := d0, tyC := e0, hdC := h0, fn := ⟨_, _, _, _, _, _, _, _, _, _, _, _, _, _, lf0, cc0⟩ }⟩, c0⟩
    e_NoPlace := ⟨f0, g0, d0, h0, j0, n1, n2, m0⟩
    x_NothingDone := ⟨rfl, PySem.W.mg_of X Gn a1, ⟨_, "LookupError", _, _, PySem.F.excBase_LookupError, b1⟩, c1, d1, e1⟩
    e_NothingDone := ⟨f1, g1, d1, h1, j1, n1, n2, m1⟩
    x_BadLine := ⟨rfl, PySem.W.mg_of X Gn a2, ⟨F2, "BadLine.__init__", "ValueError", _, _, _, { nm := .inr rfl, fb := PySem.F.excBase_ValueError, sf := PySem.F.store_ValueError, cls := ⟨_, _, _, _, _, _, _, _, _, _, _, _, _, _, _, b2, by decide +kernel⟩, sa := sa2, ga := f2, gg := g2, noN := nb2, iC := fi2, tC := tf2, exC := d2, tyC := e2, hdC := h2, fn := ⟨_, _, _, _, _, _, _, _, _, _, _, _, _, _, lf2, cc2⟩ }⟩, c2⟩
    e_BadLine := ⟨f2, g2, d2, h2, j2, n1, n2, m2⟩
    x_CanNot := ⟨rfl, PySem.W.mg_of X Gn a3, ⟨_, "ValueError", _, _, PySem.F.excBase_ValueError, b3⟩, c3, d3, e3⟩
    e_CanNot := ⟨f3, g3, d3, h3, j3, n1, n2, m3⟩
    x_TooMuch := ⟨rfl, PySem.W.mg_of X Gn a4, ⟨_, "ValueError", _, _, PySem.F.excBase_ValueError, b4⟩, c4, d4, e4⟩
    e_TooMuch := ⟨f4, g4, d4, h4, j4, n1, n2, m4⟩
    x_Unfit := ⟨rfl, PySem.W.mg_of X Gn a5, ⟨_, "ValueError", _, _, PySem.F.excBase_ValueError, b5⟩, c5, d5, e5⟩
    e_Unfit := ⟨f5, g5, d5, h5, j5, n1, n2, m5⟩
    t_NoPlace_NoPlace := PySem.W.exm_ref d0 h0 e0 s0_0
    t_NothingDone_NoPlace := PySem.W.exm_ref d0 h0 e0 s1_0
    t_BadLine_NoPlace := PySem.W.exm_ref d0 h0 e0 s2_0
    t_CanNot_NoPlace := PySem.W.exm_ref d0 h0 e0 s3_0
    t_TooMuch_NoPlace := PySem.W.exm_ref d0 h0 e0 s4_0
    t_Unfit_NoPlace := PySem.W.exm_ref d0 h0 e0 s5_0
    t_NoPlace_NothingDone := PySem.W.exm_ref d1 h1 e1 s0_1
    t_NothingDone_NothingDone := PySem.W.exm_ref d1 h1 e1 s1_1
    t_BadLine_NothingDone := PySem.W.exm_ref d1 h1 e1 s2_1
    t_CanNot_NothingDone := PySem.W.exm_ref d1 h1 e1 s3_1
    t_TooMuch_NothingDone := PySem.W.exm_ref d1 h1 e1 s4_1
    t_Unfit_NothingDone := PySem.W.exm_ref d1 h1 e1 s5_1
    t_NoPlace_BadLine := PySem.W.exm_ref d2 h2 e2 s0_2
    t_NothingDone_BadLine := PySem.W.exm_ref d2 h2 e2 s1_2
    t_BadLine_BadLine := PySem.W.exm_ref d2 h2 e2 s2_2
    t_CanNot_BadLine := PySem.W.exm_ref d2 h2 e2 s3_2
    t_TooMuch_BadLine := PySem.W.exm_ref d2 h2 e2 s4_2
    t_Unfit_BadLine := PySem.W.exm_ref d2 h2 e2 s5_2
    t_NoPlace_CanNot := PySem.W.exm_ref d3 h3 e3 s0_3
    t_NothingDone_CanNot := PySem.W.exm_ref d3 h3 e3 s1_3
    t_BadLine_CanNot := PySem.W.exm_ref d3 h3 e3 s2_3
    t_CanNot_CanNot := PySem.W.exm_ref d3 h3 e3 s3_3
    t_TooMuch_CanNot := PySem.W.exm_ref d3 h3 e3 s4_3
    t_Unfit_CanNot := PySem.W.exm_ref d3 h3 e3 s5_3
    t_NoPlace_TooMuch := PySem.W.exm_ref d4 h4 e4 s0_4
    t_NothingDone_TooMuch := PySem.W.exm_ref d4 h4 e4 s1_4
    t_BadLine_TooMuch := PySem.W.exm_ref d4 h4 e4 s2_4
    t_CanNot_TooMuch := PySem.W.exm_ref d4 h4 e4 s3_4
    t_TooMuch_TooMuch := PySem.W.exm_ref d4 h4 e4 s4_4
    t_Unfit_TooMuch := PySem.W.exm_ref d4 h4 e4 s5_4
    t_NoPlace_Unfit := PySem.W.exm_ref d5 h5 e5 s0_5
    t_NothingDone_Unfit := PySem.W.exm_ref d5 h5 e5 s1_5
    t_BadLine_Unfit := PySem.W.exm_ref d5 h5 e5 s2_5
    t_CanNot_Unfit := PySem.W.exm_ref d5 h5 e5 s3_5
    t_TooMuch_Unfit := PySem.W.exm_ref d5 h5 e5 s4_5
    t_Unfit_Unfit := PySem.W.exm_ref d5 h5 e5 s5_5
    i_BadLine_BadLine := k2_BadLine
    i_BadLine_CanNot := k2_CanNot
    i_BadLine_IndexError := k2_IndexError
    i_BadLine_KeyError := k2_KeyError
    i_BadLine_LookupError := k2_LookupError
    i_BadLine_NoPlace := k2_NoPlace
    i_BadLine_NothingDone := k2_NothingDone
    i_BadLine_TooMuch := k2_TooMuch
    i_BadLine_Unfit := k2_Unfit
    i_BadLine_ValueError := k2_ValueError
    i_CanNot_BadLine := k3_BadLine
    i_CanNot_CanNot := k3_CanNot
    i_CanNot_IndexError := k3_IndexError
    i_CanNot_KeyError := k3_KeyError
    i_CanNot_LookupError := k3_LookupError
    i_CanNot_NoPlace := k3_NoPlace
    i_CanNot_NothingDone := k3_NothingDone
    i_CanNot_TooMuch := k3_TooMuch
    i_CanNot_Unfit := k3_Unfit
    i_CanNot_ValueError := k3_ValueError
    i_NoPlace_BadLine := k0_BadLine
    i_NoPlace_CanNot := k0_CanNot
    i_NoPlace_IndexError := k0_IndexError
    i_NoPlace_KeyError := k0_KeyError
    i_NoPlace_LookupError := k0_LookupError
    i_NoPlace_NoPlace := k0_NoPlace
    i_NoPlace_NothingDone := k0_NothingDone
    i_NoPlace_TooMuch := k0_TooMuch
    i_NoPlace_Unfit := k0_Unfit
    i_NoPlace_ValueError := k0_ValueError
    i_NothingDone_BadLine := k1_BadLine
    i_NothingDone_CanNot := k1_CanNot
    i_NothingDone_IndexError := k1_IndexError
    i_NothingDone_KeyError := k1_KeyError
    i_NothingDone_LookupError := k1_LookupError
    i_NothingDone_NoPlace := k1_NoPlace
    i_NothingDone_NothingDone := k1_NothingDone
    i_NothingDone_TooMuch := k1_TooMuch
    i_NothingDone_Unfit := k1_Unfit
    i_NothingDone_ValueError := k1_ValueError
    i_TooMuch_BadLine := k4_BadLine
    i_TooMuch_CanNot := k4_CanNot
    i_TooMuch_IndexError := k4_IndexError
    i_TooMuch_KeyError := k4_KeyError
    i_TooMuch_LookupError := k4_LookupError
    i_TooMuch_NoPlace := k4_NoPlace
    i_TooMuch_NothingDone := k4_NothingDone
    i_TooMuch_TooMuch := k4_TooMuch
    i_TooMuch_Unfit := k4_Unfit
    i_TooMuch_ValueError := k4_ValueError
    i_Unfit_BadLine := k5_BadLine
    i_Unfit_CanNot := k5_CanNot
    i_Unfit_IndexError := k5_IndexError
    i_Unfit_KeyError := k5_KeyError
    i_Unfit_LookupError := k5_LookupError
    i_Unfit_NoPlace := k5_NoPlace
    i_Unfit_NothingDone := k5_NothingDone
    i_Unfit_TooMuch := k5_TooMuch
    i_Unfit_Unfit := k5_Unfit
    i_Unfit_ValueError := k5_ValueError
  }⟩
theorem law_walk {l : PySem.W.OpenLaw} {q : Program} {loose : List Str} {XP : (Str → Option Value) → Heap → Prop} {YP : World → Heap → Prop} {d : DefRec} {K : Params → PySem.W.Frag} (hn : l.most = some 63) (hdf : d.params.defaults = [])
    (hY : ∀ (w : World) (h : Heap), YP w h → (K w.params).In h)
    (F : ∀ (w : World) (mg : Str → Option Value) (fa : Addr) (h : Heap), (K w.params).In h → h.Ns mainGlobals mg → mg d.name = some (.ref fa) →
      ∃ fd : FuncData, (∀ (s : Shared) (u : Value), BindsTo s fd ⟨[u], []⟩ [("script", u)]) ∧ ∀ base : Heap, (K w.params).In base → base.Ns mainGlobals mg → FnOk l.prog w (K w.params) mg base (L2.CX l.prog w) 15 fa fd ["script"] (spLaw (K w.params))) :
    PySem.W.WalkO q loose XP YP l.row.toRowW d [] (fun f vs => PySem.call f vs) :=
  L2.walk_of (n := 63) (k := 15) (x := "script") (CX := fun w => L2.CX l.prog w) (sp := fun w => spLaw (K w.params)) hn (by decide) hdf ⟨rfl, by decide, by decide⟩ hY F (fun _ _ a ns hl _ hS => ⟨a, ns, rfl, hS, hl, fun _ => rfl⟩) fun _ _ _ _ _ ⟨_, _, _, _, _, _, _, _, _, _, _, _, z⟩ => z
end LawP
open PySem PySem.W PyProof.Rows
set_option maxRecDepth 100000 in
set_option maxHeartbeats 0 in
theorem PySem.Challenge.cw_stoppedcoins_k00_errors_holds : PySem.Challenge.rw_stoppedcoins_k00_errors.Holds := by
  refine hd_law ?_
  k_fill
  refine LawP.law_walk (l := PySem.Challenge.rw_stoppedcoins_k00_errors) rfl rfl (fun w h Y => PySem.W.kIn_of Y) ?F
  case F =>
    intro w mg fa h KX Gn hmg
    have d__law_same : Ev.Fd (L2.KOf KX) mg LawP.st__law_same "_law_same" ["got", "goal"] := by
      refine' LawP.fd_mk KX Gn ?a ?l ?c ?k (fun _ _ _ _ _ _ us hl => match us, hl with | [_, _], _ => rfl)
      (case a => k_is); (case l => k_is); (case c => k_is); (case k => k_is)
    have d__law_caught : Ev.Fd (L2.KOf KX) mg LawP.st__law_caught "_law_caught" ["way_so", "worth"] := by
      refine' LawP.fd_mk KX Gn ?a ?l ?c ?k (fun _ _ _ _ _ _ us hl => match us, hl with | [_, _], _ => rfl)
      (case a => k_is); (case l => k_is); (case c => k_is); (case k => k_is)
    have d__law_plain : Ev.Fd (L2.KOf KX) mg LawP.st__law_plain "_law_plain" ["error"] := by
      refine' LawP.fd_mk KX Gn ?a ?l ?c ?k (fun _ _ _ _ _ _ us hl => match us, hl with | [_], _ => rfl)
      (case a => k_is); (case l => k_is); (case c => k_is); (case k => k_is)
    have d__law_kinds : Ev.Fd (L2.KOf KX) mg LawP.st__law_kinds "_law_kinds" ["error"] := by
      refine' LawP.fd_mk KX Gn ?a ?l ?c ?k (fun _ _ _ _ _ _ us hl => match us, hl with | [_], _ => rfl)
      (case a => k_is); (case l => k_is); (case c => k_is); (case k => k_is)
    have d__law_by_hand_right : Ev.Fd (L2.KOf KX) mg LawP.st__law_by_hand_right "_law_by_hand_right" [] := by
      refine' LawP.fd_mk KX Gn ?a ?l ?c ?k (fun _ _ _ _ _ _ us hl => match us, hl with | [], _ => rfl)
      (case a => k_is); (case l => k_is); (case c => k_is); (case k => k_is)
    have d_law : Ev.Fd (L2.KOf KX) mg LawP.st_law "law" ["script"] := by
      refine' LawP.fd_mk KX Gn ?a ?l ?c ?k (fun _ _ _ _ _ _ us hl => match us, hl with | [_], _ => rfl)
      (case a => k_is); (case l => k_is); (case c => k_is); (case k => k_is)
    have n_IndexError : mg "IndexError" = none := PySem.W.mg_none_of KX Gn (by k_is)
    have n_KeyError : mg "KeyError" = none := PySem.W.mg_none_of KX Gn (by k_is)
    have n_LookupError : mg "LookupError" = none := PySem.W.mg_none_of KX Gn (by k_is)
    have n_ValueError : mg "ValueError" = none := PySem.W.mg_none_of KX Gn (by k_is)
    have n_abs : mg "abs" = none := PySem.W.mg_none_of KX Gn (by k_is)
    have n_all : mg "all" = none := PySem.W.mg_none_of KX Gn (by k_is)
    have n_bool : mg "bool" = none := PySem.W.mg_none_of KX Gn (by k_is)
    have n_enumerate : mg "enumerate" = none := PySem.W.mg_none_of KX Gn (by k_is)
    have n_int : mg "int" = none := PySem.W.mg_none_of KX Gn (by k_is)
    have n_isinstance : mg "isinstance" = none := PySem.W.mg_none_of KX Gn (by k_is)
    have n_len : mg "len" = none := PySem.W.mg_none_of KX Gn (by k_is)
    have n_list : mg "list" = none := PySem.W.mg_none_of KX Gn (by k_is)
    have n_range : mg "range" = none := PySem.W.mg_none_of KX Gn (by k_is)
    have n_str : mg "str" = none := PySem.W.mg_none_of KX Gn (by k_is)
    have n_tuple : mg "tuple" = none := PySem.W.mg_none_of KX Gn (by k_is)
    have n_zip : mg "zip" = none := PySem.W.mg_none_of KX Gn (by k_is)
    have cl : ∃ cad : Nat → Addr, LawP.Clf ⟨L2.KOf KX, cad, LawP.cflD, PySem.Challenge.rw_stoppedcoins_k00_errors.prog, w⟩ mg := by
      dsimp only [L2.KOf]
      refine' LawP.cls_mk _ _ KX Gn ?cq_a0 ?cq_b0 ?cq_sa0 ?cq_nb0 ?cq_fi0 ?cq_tf0 ?cq_lf0 ?cq_cc0 ?cq_c0 ?cq_d0 ?cq_e0 ?cq_f0 ?cq_g0 ?cq_h0 ?cq_j0 ?cq_m0 ?cq_a1 ?cq_b1 ?cq_c1 ?cq_d1 ?cq_e1 ?cq_f1 ?cq_g1 ?cq_h1 ?cq_j1 ?cq_m1 ?cq_a2 ?cq_b2 ?cq_sa2 ?cq_nb2 ?cq_fi2 ?cq_tf2 ?cq_lf2 ?cq_cc2 ?cq_c2 ?cq_d2 ?cq_e2 ?cq_f2 ?cq_g2 ?cq_h2 ?cq_j2 ?cq_m2 ?cq_a3 ?cq_b3 ?cq_c3 ?cq_d3 ?cq_e3 ?cq_f3 ?cq_g3 ?cq_h3 ?cq_j3 ?cq_m3 ?cq_a4 ?cq_b4 ?cq_c4 ?cq_d4 ?cq_e4 ?cq_f4 ?cq_g4 ?cq_h4 ?cq_j4 ?cq_m4 ?cq_a5 ?cq_b5 ?cq_c5 ?cq_d5 ?cq_e5 ?cq_f5 ?cq_g5 ?cq_h5 ?cq_j5 ?cq_m5 ?cq_n1 ?cq_n2 ?cq_s0_0 ?cq_s1_0 ?cq_s2_0 ?cq_s3_0 ?cq_s4_0 ?cq_s5_0 ?cq_s0_1 ?cq_s1_1 ?cq_s2_1 ?cq_s3_1 ?cq_s4_1 ?cq_s5_1 ?cq_s0_2 ?cq_s1_2 ?cq_s2_2 ?cq_s3_2 ?cq_s4_2 ?cq_s5_2 ?cq_s0_3 ?cq_s1_3 ?cq_s2_3 ?cq_s3_3 ?cq_s4_3 ?cq_s5_3 ?cq_s0_4 ?cq_s1_4 ?cq_s2_4 ?cq_s3_4 ?cq_s4_4 ?cq_s5_4 ?cq_s0_5 ?cq_s1_5 ?cq_s2_5 ?cq_s3_5 ?cq_s4_5 ?cq_s5_5 ?cq_k2_BadLine ?cq_k2_CanNot ?cq_k2_IndexError ?cq_k2_KeyError ?cq_k2_LookupError ?cq_k2_NoPlace ?cq_k2_NothingDone ?cq_k2_TooMuch ?cq_k2_Unfit ?cq_k2_ValueError ?cq_k3_BadLine ?cq_k3_CanNot ?cq_k3_IndexError ?cq_k3_KeyError ?cq_k3_LookupError ?cq_k3_NoPlace ?cq_k3_NothingDone ?cq_k3_TooMuch ?cq_k3_Unfit ?cq_k3_ValueError ?cq_k0_BadLine ?cq_k0_CanNot ?cq_k0_IndexError ?cq_k0_KeyError ?cq_k0_LookupError ?cq_k0_NoPlace ?cq_k0_NothingDone ?cq_k0_TooMuch ?cq_k0_Unfit ?cq_k0_ValueError ?cq_k1_BadLine ?cq_k1_CanNot ?cq_k1_IndexError ?cq_k1_KeyError ?cq_k1_LookupError ?cq_k1_NoPlace ?cq_k1_NothingDone ?cq_k1_TooMuch ?cq_k1_Unfit ?cq_k1_ValueError ?cq_k4_BadLine ?cq_k4_CanNot ?cq_k4_IndexError ?cq_k4_KeyError ?cq_k4_LookupError ?cq_k4_NoPlace ?cq_k4_NothingDone ?cq_k4_TooMuch ?cq_k4_Unfit ?cq_k4_ValueError ?cq_k5_BadLine ?cq_k5_CanNot ?cq_k5_IndexError ?cq_k5_KeyError ?cq_k5_LookupError ?cq_k5_NoPlace ?cq_k5_NothingDone ?cq_k5_TooMuch ?cq_k5_Unfit ?cq_k5_ValueError
      (case cq_a0 => first | k_is | k_exc | kit_is | kts_exm | (dsimp only [L2.KOf]; first | k_is | k_exc | kit_is | kts_exm) | rfl)
      (case cq_b0 => first | k_is | k_exc | kit_is | kts_exm | (dsimp only [L2.KOf]; first | k_is | k_exc | kit_is | kts_exm) | rfl)
      (case cq_sa0 => first | k_is | k_exc | kit_is | kts_exm | (dsimp only [L2.KOf]; first | k_is | k_exc | kit_is | kts_exm) | rfl)
      (case cq_nb0 => first | k_is | k_exc | kit_is | kts_exm | (dsimp only [L2.KOf]; first | k_is | k_exc | kit_is | kts_exm) | rfl)
      (case cq_fi0 => first | k_is | k_exc | kit_is | kts_exm | (dsimp only [L2.KOf]; first | k_is | k_exc | kit_is | kts_exm) | rfl)
      (case cq_tf0 => first | k_is | k_exc | kit_is | kts_exm | (dsimp only [L2.KOf]; first | k_is | k_exc | kit_is | kts_exm) | rfl)
      (case cq_lf0 => first | k_is | k_exc | kit_is | kts_exm | (dsimp only [L2.KOf]; first | k_is | k_exc | kit_is | kts_exm) | rfl)
      (case cq_cc0 => first | k_is | k_exc | kit_is | kts_exm | (dsimp only [L2.KOf]; first | k_is | k_exc | kit_is | kts_exm) | rfl)
      (case cq_c0 => first | k_is | k_exc | kit_is | kts_exm | (dsimp only [L2.KOf]; first | k_is | k_exc | kit_is | kts_exm) | rfl)
      (case cq_d0 => first | k_is | k_exc | kit_is | kts_exm | (dsimp only [L2.KOf]; first | k_is | k_exc | kit_is | kts_exm) | rfl)
      (case cq_e0 => first | k_is | k_exc | kit_is | kts_exm | (dsimp only [L2.KOf]; first | k_is | k_exc | kit_is | kts_exm) | rfl)
      (case cq_f0 => first | k_is | k_exc | kit_is | kts_exm | (dsimp only [L2.KOf]; first | k_is | k_exc | kit_is | kts_exm) | rfl)
      (case cq_g0 => first | k_is | k_exc | kit_is | kts_exm | (dsimp only [L2.KOf]; first | k_is | k_exc | kit_is | kts_exm) | rfl)
      (case cq_h0 => first | k_is | k_exc | kit_is | kts_exm | (dsimp only [L2.KOf]; first | k_is | k_exc | kit_is | kts_exm) | rfl)
      (case cq_j0 => first | k_is | k_exc | kit_is | kts_exm | (dsimp only [L2.KOf]; first | k_is | k_exc | kit_is | kts_exm) | rfl)
      (case cq_m0 => first | k_is | k_exc | kit_is | kts_exm | (dsimp only [L2.KOf]; first | k_is | k_exc | kit_is | kts_exm) | rfl)
      (case cq_a1 => first | k_is | k_exc | kit_is | kts_exm | (dsimp only [L2.KOf]; first | k_is | k_exc | kit_is | kts_exm) | rfl)
      (case cq_b1 => first | k_is | k_exc | kit_is | kts_exm | (dsimp only [L2.KOf]; first | k_is | k_exc | kit_is | kts_exm) | rfl)
      (case cq_c1 => first | k_is | k_exc | kit_is | kts_exm | (dsimp only [L2.KOf]; first | k_is | k_exc | kit_is | kts_exm) | rfl)
      (case cq_d1 => first | k_is | k_exc | kit_is | kts_exm | (dsimp only [L2.KOf]; first | k_is | k_exc | kit_is | kts_exm) | rfl)
      (case cq_e1 => first | k_is | k_exc | kit_is | kts_exm | (dsimp only [L2.KOf]; first | k_is | k_exc | kit_is | kts_exm) | rfl)
      (case cq_f1 => first | k_is | k_exc | kit_is | kts_exm | (dsimp only [L2.KOf]; first | k_is | k_exc | kit_is | kts_exm) | rfl)
      (case cq_g1 => first | k_is | k_exc | kit_is | kts_exm | (dsimp only [L2.KOf]; first | k_is | k_exc | kit_is | kts_exm) | rfl)
      (case cq_h1 => first | k_is | k_exc | kit_is | kts_exm | (dsimp only [L2.KOf]; first | k_is | k_exc | kit_is | kts_exm) | rfl)
      (case cq_j1 => first | k_is | k_exc | kit_is | kts_exm | (dsimp only [L2.KOf]; first | k_is | k_exc | kit_is | kts_exm) | rfl)
      (case cq_m1 => first | k_is | k_exc | kit_is | kts_exm | (dsimp only [L2.KOf]; first | k_is | k_exc | kit_is | kts_exm) | rfl)
      (case cq_a2 => first | k_is | k_exc | kit_is | kts_exm | (dsimp only [L2.KOf]; first | k_is | k_exc | kit_is | kts_exm) | rfl)
      (case cq_b2 => first | k_is | k_exc | kit_is | kts_exm | (dsimp only [L2.KOf]; first | k_is | k_exc | kit_is | kts_exm) | rfl)
      (case cq_sa2 => first | k_is | k_exc | kit_is | kts_exm | (dsimp only [L2.KOf]; first | k_is | k_exc | kit_is | kts_exm) | rfl)
      (case cq_nb2 => first | k_is | k_exc | kit_is | kts_exm | (dsimp only [L2.KOf]; first | k_is | k_exc | kit_is | kts_exm) | rfl)
      (case cq_fi2 => first | k_is | k_exc | kit_is | kts_exm | (dsimp only [L2.KOf]; first | k_is | k_exc | kit_is | kts_exm) | rfl)
      (case cq_tf2 => first | k_is | k_exc | kit_is | kts_exm | (dsimp only [L2.KOf]; first | k_is | k_exc | kit_is | kts_exm) | rfl)
      (case cq_lf2 => first | k_is | k_exc | kit_is | kts_exm | (dsimp only [L2.KOf]; first | k_is | k_exc | kit_is | kts_exm) | rfl)
      (case cq_cc2 => first | k_is | k_exc | kit_is | kts_exm | (dsimp only [L2.KOf]; first | k_is | k_exc | kit_is | kts_exm) | rfl)
      (case cq_c2 => first | k_is | k_exc | kit_is | kts_exm | (dsimp only [L2.KOf]; first | k_is | k_exc | kit_is | kts_exm) | rfl)
      (case cq_d2 => first | k_is | k_exc | kit_is | kts_exm | (dsimp only [L2.KOf]; first | k_is | k_exc | kit_is | kts_exm) | rfl)
      (case cq_e2 => first | k_is | k_exc | kit_is | kts_exm | (dsimp only [L2.KOf]; first | k_is | k_exc | kit_is | kts_exm) | rfl)
      (case cq_f2 => first | k_is | k_exc | kit_is | kts_exm | (dsimp only [L2.KOf]; first | k_is | k_exc | kit_is | kts_exm) | rfl)
      (case cq_g2 => first | k_is | k_exc | kit_is | kts_exm | (dsimp only [L2.KOf]; first | k_is | k_exc | kit_is | kts_exm) | rfl)
      (case cq_h2 => first | k_is | k_exc | kit_is | kts_exm | (dsimp only [L2.KOf]; first | k_is | k_exc | kit_is | kts_exm) | rfl)
      (case cq_j2 => first | k_is | k_exc | kit_is | kts_exm | (dsimp only [L2.KOf]; first | k_is | k_exc | kit_is | kts_exm) | rfl)
      (case cq_m2 => first | k_is | k_exc | kit_is | kts_exm | (dsimp only [L2.KOf]; first | k_is | k_exc | kit_is | kts_exm) | rfl)
      (case cq_a3 => first | k_is | k_exc | kit_is | kts_exm | (dsimp only [L2.KOf]; first | k_is | k_exc | kit_is | kts_exm) | rfl)
      (case cq_b3 => first | k_is | k_exc | kit_is | kts_exm | (dsimp only [L2.KOf]; first | k_is | k_exc | kit_is | kts_exm) | rfl)
      (case cq_c3 => first | k_is | k_exc | kit_is | kts_exm | (dsimp only [L2.KOf]; first | k_is | k_exc | kit_is | kts_exm) | rfl)
      (case cq_d3 => first | k_is | k_exc | kit_is | kts_exm | (dsimp only [L2.KOf]; first | k_is | k_exc | kit_is | kts_exm) | rfl)
      (case cq_e3 => first | k_is | k_exc | kit_is | kts_exm | (dsimp only [L2.KOf]; first | k_is | k_exc | kit_is | kts_exm) | rfl)
      (case cq_f3 => first | k_is | k_exc | kit_is | kts_exm | (dsimp only [L2.KOf]; first | k_is | k_exc | kit_is | kts_exm) | rfl)
      (case cq_g3 => first | k_is | k_exc | kit_is | kts_exm | (dsimp only [L2.KOf]; first | k_is | k_exc | kit_is | kts_exm) | rfl)
      (case cq_h3 => first | k_is | k_exc | kit_is | kts_exm | (dsimp only [L2.KOf]; first | k_is | k_exc | kit_is | kts_exm) | rfl)
      (case cq_j3 => first | k_is | k_exc | kit_is | kts_exm | (dsimp only [L2.KOf]; first | k_is | k_exc | kit_is | kts_exm) | rfl)
      (case cq_m3 => first | k_is | k_exc | kit_is | kts_exm | (dsimp only [L2.KOf]; first | k_is | k_exc | kit_is | kts_exm) | rfl)
      (case cq_a4 => first | k_is | k_exc | kit_is | kts_exm | (dsimp only [L2.KOf]; first | k_is | k_exc | kit_is | kts_exm) | rfl)
      (case cq_b4 => first | k_is | k_exc | kit_is | kts_exm | (dsimp only [L2.KOf]; first | k_is | k_exc | kit_is | kts_exm) | rfl)
      (case cq_c4 => first | k_is | k_exc | kit_is | kts_exm | (dsimp only [L2.KOf]; first | k_is | k_exc | kit_is | kts_exm) | rfl)
      (case cq_d4 => first | k_is | k_exc | kit_is | kts_exm | (dsimp only [L2.KOf]; first | k_is | k_exc | kit_is | kts_exm) | rfl)
      (case cq_e4 => first | k_is | k_exc | kit_is | kts_exm | (dsimp only [L2.KOf]; first | k_is | k_exc | kit_is | kts_exm) | rfl)
      (case cq_f4 => first | k_is | k_exc | kit_is | kts_exm | (dsimp only [L2.KOf]; first | k_is | k_exc | kit_is | kts_exm) | rfl)
      (case cq_g4 => first | k_is | k_exc | kit_is | kts_exm | (dsimp only [L2.KOf]; first | k_is | k_exc | kit_is | kts_exm) | rfl)
      (case cq_h4 => first | k_is | k_exc | kit_is | kts_exm | (dsimp only [L2.KOf]; first | k_is | k_exc | kit_is | kts_exm) | rfl)
      (case cq_j4 => first | k_is | k_exc | kit_is | kts_exm | (dsimp only [L2.KOf]; first | k_is | k_exc | kit_is | kts_exm) | rfl)
      (case cq_m4 => first | k_is | k_exc | kit_is | kts_exm | (dsimp only [L2.KOf]; first | k_is | k_exc | kit_is | kts_exm) | rfl)
      (case cq_a5 => first | k_is | k_exc | kit_is | kts_exm | (dsimp only [L2.KOf]; first | k_is | k_exc | kit_is | kts_exm) | rfl)
      (case cq_b5 => first | k_is | k_exc | kit_is | kts_exm | (dsimp only [L2.KOf]; first | k_is | k_exc | kit_is | kts_exm) | rfl)
      (case cq_c5 => first | k_is | k_exc | kit_is | kts_exm | (dsimp only [L2.KOf]; first | k_is | k_exc | kit_is | kts_exm) | rfl)
      (case cq_d5 => first | k_is | k_exc | kit_is | kts_exm | (dsimp only [L2.KOf]; first | k_is | k_exc | kit_is | kts_exm) | rfl)
      (case cq_e5 => first | k_is | k_exc | kit_is | kts_exm | (dsimp only [L2.KOf]; first | k_is | k_exc | kit_is | kts_exm) | rfl)
      (case cq_f5 => first | k_is | k_exc | kit_is | kts_exm | (dsimp only [L2.KOf]; first | k_is | k_exc | kit_is | kts_exm) | rfl)
      (case cq_g5 => first | k_is | k_exc | kit_is | kts_exm | (dsimp only [L2.KOf]; first | k_is | k_exc | kit_is | kts_exm) | rfl)
      (case cq_h5 => first | k_is | k_exc | kit_is | kts_exm | (dsimp only [L2.KOf]; first | k_is | k_exc | kit_is | kts_exm) | rfl)
      (case cq_j5 => first | k_is | k_exc | kit_is | kts_exm | (dsimp only [L2.KOf]; first | k_is | k_exc | kit_is | kts_exm) | rfl)
      (case cq_m5 => first | k_is | k_exc | kit_is | kts_exm | (dsimp only [L2.KOf]; first | k_is | k_exc | kit_is | kts_exm) | rfl)
      (case cq_n1 => first | k_is | k_exc | kit_is | kts_exm | (dsimp only [L2.KOf]; first | k_is | k_exc | kit_is | kts_exm) | rfl)
      (case cq_n2 => first | k_is | k_exc | kit_is | kts_exm | (dsimp only [L2.KOf]; first | k_is | k_exc | kit_is | kts_exm) | rfl)
      (case cq_s0_0 => first | k_is | k_exc | kit_is | kts_exm | (dsimp only [L2.KOf]; first | k_is | k_exc | kit_is | kts_exm) | rfl)
      (case cq_s1_0 => first | k_is | k_exc | kit_is | kts_exm | (dsimp only [L2.KOf]; first | k_is | k_exc | kit_is | kts_exm) | rfl)
      (case cq_s2_0 => first | k_is | k_exc | kit_is | kts_exm | (dsimp only [L2.KOf]; first | k_is | k_exc | kit_is | kts_exm) | rfl)
      (case cq_s3_0 => first | k_is | k_exc | kit_is | kts_exm | (dsimp only [L2.KOf]; first | k_is | k_exc | kit_is | kts_exm) | rfl)
      (case cq_s4_0 => first | k_is | k_exc | kit_is | kts_exm | (dsimp only [L2.KOf]; first | k_is | k_exc | kit_is | kts_exm) | rfl)
      (case cq_s5_0 => first | k_is | k_exc | kit_is | kts_exm | (dsimp only [L2.KOf]; first | k_is | k_exc | kit_is | kts_exm) | rfl)
      (case cq_s0_1 => first | k_is | k_exc | kit_is | kts_exm | (dsimp only [L2.KOf]; first | k_is | k_exc | kit_is | kts_exm) | rfl)
      (case cq_s1_1 => first | k_is | k_exc | kit_is | kts_exm | (dsimp only [L2.KOf]; first | k_is | k_exc | kit_is | kts_exm) | rfl)
      (case cq_s2_1 => first | k_is | k_exc | kit_is | kts_exm | (dsimp only [L2.KOf]; first | k_is | k_exc | kit_is | kts_exm) | rfl)
      (case cq_s3_1 => first | k_is | k_exc | kit_is | kts_exm | (dsimp only [L2.KOf]; first | k_is | k_exc | kit_is | kts_exm) | rfl)
      (case cq_s4_1 => first | k_is | k_exc | kit_is | kts_exm | (dsimp only [L2.KOf]; first | k_is | k_exc | kit_is | kts_exm) | rfl)
      (case cq_s5_1 => first | k_is | k_exc | kit_is | kts_exm | (dsimp only [L2.KOf]; first | k_is | k_exc | kit_is | kts_exm) | rfl)
      (case cq_s0_2 => first | k_is | k_exc | kit_is | kts_exm | (dsimp only [L2.KOf]; first | k_is | k_exc | kit_is | kts_exm) | rfl)
      (case cq_s1_2 => first | k_is | k_exc | kit_is | kts_exm | (dsimp only [L2.KOf]; first | k_is | k_exc | kit_is | kts_exm) | rfl)
      (case cq_s2_2 => first | k_is | k_exc | kit_is | kts_exm | (dsimp only [L2.KOf]; first | k_is | k_exc | kit_is | kts_exm) | rfl)
      (case cq_s3_2 => first | k_is | k_exc | kit_is | kts_exm | (dsimp only [L2.KOf]; first | k_is | k_exc | kit_is | kts_exm) | rfl)
      (case cq_s4_2 => first | k_is | k_exc | kit_is | kts_exm | (dsimp only [L2.KOf]; first | k_is | k_exc | kit_is | kts_exm) | rfl)
      (case cq_s5_2 => first | k_is | k_exc | kit_is | kts_exm | (dsimp only [L2.KOf]; first | k_is | k_exc | kit_is | kts_exm) | rfl)
      (case cq_s0_3 => first | k_is | k_exc | kit_is | kts_exm | (dsimp only [L2.KOf]; first | k_is | k_exc | kit_is | kts_exm) | rfl)
      (case cq_s1_3 => first | k_is | k_exc | kit_is | kts_exm | (dsimp only [L2.KOf]; first | k_is | k_exc | kit_is | kts_exm) | rfl)
      (case cq_s2_3 => first | k_is | k_exc | kit_is | kts_exm | (dsimp only [L2.KOf]; first | k_is | k_exc | kit_is | kts_exm) | rfl)
      (case cq_s3_3 => first | k_is | k_exc | kit_is | kts_exm | (dsimp only [L2.KOf]; first | k_is | k_exc | kit_is | kts_exm) | rfl)
      (case cq_s4_3 => first | k_is | k_exc | kit_is | kts_exm | (dsimp only [L2.KOf]; first | k_is | k_exc | kit_is | kts_exm) | rfl)
      (case cq_s5_3 => first | k_is | k_exc | kit_is | kts_exm | (dsimp only [L2.KOf]; first | k_is | k_exc | kit_is | kts_exm) | rfl)
      (case cq_s0_4 => first | k_is | k_exc | kit_is | kts_exm | (dsimp only [L2.KOf]; first | k_is | k_exc | kit_is | kts_exm) | rfl)
      (case cq_s1_4 => first | k_is | k_exc | kit_is | kts_exm | (dsimp only [L2.KOf]; first | k_is | k_exc | kit_is | kts_exm) | rfl)
      (case cq_s2_4 => first | k_is | k_exc | kit_is | kts_exm | (dsimp only [L2.KOf]; first | k_is | k_exc | kit_is | kts_exm) | rfl)
      (case cq_s3_4 => first | k_is | k_exc | kit_is | kts_exm | (dsimp only [L2.KOf]; first | k_is | k_exc | kit_is | kts_exm) | rfl)
      (case cq_s4_4 => first | k_is | k_exc | kit_is | kts_exm | (dsimp only [L2.KOf]; first | k_is | k_exc | kit_is | kts_exm) | rfl)
      (case cq_s5_4 => first | k_is | k_exc | kit_is | kts_exm | (dsimp only [L2.KOf]; first | k_is | k_exc | kit_is | kts_exm) | rfl)
      (case cq_s0_5 => first | k_is | k_exc | kit_is | kts_exm | (dsimp only [L2.KOf]; first | k_is | k_exc | kit_is | kts_exm) | rfl)
      (case cq_s1_5 => first | k_is | k_exc | kit_is | kts_exm | (dsimp only [L2.KOf]; first | k_is | k_exc | kit_is | kts_exm) | rfl)
      (case cq_s2_5 => first | k_is | k_exc | kit_is | kts_exm | (dsimp only [L2.KOf]; first | k_is | k_exc | kit_is | kts_exm) | rfl)
      (case cq_s3_5 => first | k_is | k_exc | kit_is | kts_exm | (dsimp only [L2.KOf]; first | k_is | k_exc | kit_is | kts_exm) | rfl)
      (case cq_s4_5 => first | k_is | k_exc | kit_is | kts_exm | (dsimp only [L2.KOf]; first | k_is | k_exc | kit_is | kts_exm) | rfl)
      (case cq_s5_5 => first | k_is | k_exc | kit_is | kts_exm | (dsimp only [L2.KOf]; first | k_is | k_exc | kit_is | kts_exm) | rfl)
      (case cq_k2_BadLine => first | k_is | k_exc | kit_is | kts_exm | (dsimp only [L2.KOf]; first | k_is | k_exc | kit_is | kts_exm) | rfl)
      (case cq_k2_CanNot => first | k_is | k_exc | kit_is | kts_exm | (dsimp only [L2.KOf]; first | k_is | k_exc | kit_is | kts_exm) | rfl)
      (case cq_k2_IndexError => first | k_is | k_exc | kit_is | kts_exm | (dsimp only [L2.KOf]; first | k_is | k_exc | kit_is | kts_exm) | rfl)
      (case cq_k2_KeyError => first | k_is | k_exc | kit_is | kts_exm | (dsimp only [L2.KOf]; first | k_is | k_exc | kit_is | kts_exm) | rfl)
      (case cq_k2_LookupError => first | k_is | k_exc | kit_is | kts_exm | (dsimp only [L2.KOf]; first | k_is | k_exc | kit_is | kts_exm) | rfl)
      (case cq_k2_NoPlace => first | k_is | k_exc | kit_is | kts_exm | (dsimp only [L2.KOf]; first | k_is | k_exc | kit_is | kts_exm) | rfl)
      (case cq_k2_NothingDone => first | k_is | k_exc | kit_is | kts_exm | (dsimp only [L2.KOf]; first | k_is | k_exc | kit_is | kts_exm) | rfl)
      (case cq_k2_TooMuch => first | k_is | k_exc | kit_is | kts_exm | (dsimp only [L2.KOf]; first | k_is | k_exc | kit_is | kts_exm) | rfl)
      (case cq_k2_Unfit => first | k_is | k_exc | kit_is | kts_exm | (dsimp only [L2.KOf]; first | k_is | k_exc | kit_is | kts_exm) | rfl)
      (case cq_k2_ValueError => first | k_is | k_exc | kit_is | kts_exm | (dsimp only [L2.KOf]; first | k_is | k_exc | kit_is | kts_exm) | rfl)
      (case cq_k3_BadLine => first | k_is | k_exc | kit_is | kts_exm | (dsimp only [L2.KOf]; first | k_is | k_exc | kit_is | kts_exm) | rfl)
      (case cq_k3_CanNot => first | k_is | k_exc | kit_is | kts_exm | (dsimp only [L2.KOf]; first | k_is | k_exc | kit_is | kts_exm) | rfl)
      (case cq_k3_IndexError => first | k_is | k_exc | kit_is | kts_exm | (dsimp only [L2.KOf]; first | k_is | k_exc | kit_is | kts_exm) | rfl)
      (case cq_k3_KeyError => first | k_is | k_exc | kit_is | kts_exm | (dsimp only [L2.KOf]; first | k_is | k_exc | kit_is | kts_exm) | rfl)
      (case cq_k3_LookupError => first | k_is | k_exc | kit_is | kts_exm | (dsimp only [L2.KOf]; first | k_is | k_exc | kit_is | kts_exm) | rfl)
      (case cq_k3_NoPlace => first | k_is | k_exc | kit_is | kts_exm | (dsimp only [L2.KOf]; first | k_is | k_exc | kit_is | kts_exm) | rfl)
      (case cq_k3_NothingDone => first | k_is | k_exc | kit_is | kts_exm | (dsimp only [L2.KOf]; first | k_is | k_exc | kit_is | kts_exm) | rfl)
      (case cq_k3_TooMuch => first | k_is | k_exc | kit_is | kts_exm | (dsimp only [L2.KOf]; first | k_is | k_exc | kit_is | kts_exm) | rfl)
      (case cq_k3_Unfit => first | k_is | k_exc | kit_is | kts_exm | (dsimp only [L2.KOf]; first | k_is | k_exc | kit_is | kts_exm) | rfl)
      (case cq_k3_ValueError => first | k_is | k_exc | kit_is | kts_exm | (dsimp only [L2.KOf]; first | k_is | k_exc | kit_is | kts_exm) | rfl)
      (case cq_k0_BadLine => first | k_is | k_exc | kit_is | kts_exm | (dsimp only [L2.KOf]; first | k_is | k_exc | kit_is | kts_exm) | rfl)
      (case cq_k0_CanNot => first | k_is | k_exc | kit_is | kts_exm | (dsimp only [L2.KOf]; first | k_is | k_exc | kit_is | kts_exm) | rfl)
      (case cq_k0_IndexError => first | k_is | k_exc | kit_is | kts_exm | (dsimp only [L2.KOf]; first | k_is | k_exc | kit_is | kts_exm) | rfl)
      (case cq_k0_KeyError => first | k_is | k_exc | kit_is | kts_exm | (dsimp only [L2.KOf]; first | k_is | k_exc | kit_is | kts_exm) | rfl)
      (case cq_k0_LookupError => first | k_is | k_exc | kit_is | kts_exm | (dsimp only [L2.KOf]; first | k_is | k_exc | kit_is | kts_exm) | rfl)
      (case cq_k0_NoPlace => first | k_is | k_exc | kit_is | kts_exm | (dsimp only [L2.KOf]; first | k_is | k_exc | kit_is | kts_exm) | rfl)
      (case cq_k0_NothingDone => first | k_is | k_exc | kit_is | kts_exm | (dsimp only [L2.KOf]; first | k_is | k_exc | kit_is | kts_exm) | rfl)
      (case cq_k0_TooMuch => first | k_is | k_exc | kit_is | kts_exm | (dsimp only [L2.KOf]; first | k_is | k_exc | kit_is | kts_exm) | rfl)
      (case cq_k0_Unfit => first | k_is | k_exc | kit_is | kts_exm | (dsimp only [L2.KOf]; first | k_is | k_exc | kit_is | kts_exm) | rfl)
      (case cq_k0_ValueError => first | k_is | k_exc | kit_is | kts_exm | (dsimp only [L2.KOf]; first | k_is | k_exc | kit_is | kts_exm) | rfl)
      (case cq_k1_BadLine => first | k_is | k_exc | kit_is | kts_exm | (dsimp only [L2.KOf]; first | k_is | k_exc | kit_is | kts_exm) | rfl)
      (case cq_k1_CanNot => first | k_is | k_exc | kit_is | kts_exm | (dsimp only [L2.KOf]; first | k_is | k_exc | kit_is | kts_exm) | rfl)
      (case cq_k1_IndexError => first | k_is | k_exc | kit_is | kts_exm | (dsimp only [L2.KOf]; first | k_is | k_exc | kit_is | kts_exm) | rfl)
      (case cq_k1_KeyError => first | k_is | k_exc | kit_is | kts_exm | (dsimp only [L2.KOf]; first | k_is | k_exc | kit_is | kts_exm) | rfl)
      (case cq_k1_LookupError => first | k_is | k_exc | kit_is | kts_exm | (dsimp only [L2.KOf]; first | k_is | k_exc | kit_is | kts_exm) | rfl)
      (case cq_k1_NoPlace => first | k_is | k_exc | kit_is | kts_exm | (dsimp only [L2.KOf]; first | k_is | k_exc | kit_is | kts_exm) | rfl)
      (case cq_k1_NothingDone => first | k_is | k_exc | kit_is | kts_exm | (dsimp only [L2.KOf]; first | k_is | k_exc | kit_is | kts_exm) | rfl)
      (case cq_k1_TooMuch => first | k_is | k_exc | kit_is | kts_exm | (dsimp only [L2.KOf]; first | k_is | k_exc | kit_is | kts_exm) | rfl)
      (case cq_k1_Unfit => first | k_is | k_exc | kit_is | kts_exm | (dsimp only [L2.KOf]; first | k_is | k_exc | kit_is | kts_exm) | rfl)
      (case cq_k1_ValueError => first | k_is | k_exc | kit_is | kts_exm | (dsimp only [L2.KOf]; first | k_is | k_exc | kit_is | kts_exm) | rfl)
      (case cq_k4_BadLine => first | k_is | k_exc | kit_is | kts_exm | (dsimp only [L2.KOf]; first | k_is | k_exc | kit_is | kts_exm) | rfl)
      (case cq_k4_CanNot => first | k_is | k_exc | kit_is | kts_exm | (dsimp only [L2.KOf]; first | k_is | k_exc | kit_is | kts_exm) | rfl)
      (case cq_k4_IndexError => first | k_is | k_exc | kit_is | kts_exm | (dsimp only [L2.KOf]; first | k_is | k_exc | kit_is | kts_exm) | rfl)
      (case cq_k4_KeyError => first | k_is | k_exc | kit_is | kts_exm | (dsimp only [L2.KOf]; first | k_is | k_exc | kit_is | kts_exm) | rfl)
      (case cq_k4_LookupError => first | k_is | k_exc | kit_is | kts_exm | (dsimp only [L2.KOf]; first | k_is | k_exc | kit_is | kts_exm) | rfl)
      (case cq_k4_NoPlace => first | k_is | k_exc | kit_is | kts_exm | (dsimp only [L2.KOf]; first | k_is | k_exc | kit_is | kts_exm) | rfl)
      (case cq_k4_NothingDone => first | k_is | k_exc | kit_is | kts_exm | (dsimp only [L2.KOf]; first | k_is | k_exc | kit_is | kts_exm) | rfl)
      (case cq_k4_TooMuch => first | k_is | k_exc | kit_is | kts_exm | (dsimp only [L2.KOf]; first | k_is | k_exc | kit_is | kts_exm) | rfl)
      (case cq_k4_Unfit => first | k_is | k_exc | kit_is | kts_exm | (dsimp only [L2.KOf]; first | k_is | k_exc | kit_is | kts_exm) | rfl)
      (case cq_k4_ValueError => first | k_is | k_exc | kit_is | kts_exm | (dsimp only [L2.KOf]; first | k_is | k_exc | kit_is | kts_exm) | rfl)
      (case cq_k5_BadLine => first | k_is | k_exc | kit_is | kts_exm | (dsimp only [L2.KOf]; first | k_is | k_exc | kit_is | kts_exm) | rfl)
      (case cq_k5_CanNot => first | k_is | k_exc | kit_is | kts_exm | (dsimp only [L2.KOf]; first | k_is | k_exc | kit_is | kts_exm) | rfl)
      (case cq_k5_IndexError => first | k_is | k_exc | kit_is | kts_exm | (dsimp only [L2.KOf]; first | k_is | k_exc | kit_is | kts_exm) | rfl)
      (case cq_k5_KeyError => first | k_is | k_exc | kit_is | kts_exm | (dsimp only [L2.KOf]; first | k_is | k_exc | kit_is | kts_exm) | rfl)
      (case cq_k5_LookupError => first | k_is | k_exc | kit_is | kts_exm | (dsimp only [L2.KOf]; first | k_is | k_exc | kit_is | kts_exm) | rfl)
      (case cq_k5_NoPlace => first | k_is | k_exc | kit_is | kts_exm | (dsimp only [L2.KOf]; first | k_is | k_exc | kit_is | kts_exm) | rfl)
      (case cq_k5_NothingDone => first | k_is | k_exc | kit_is | kts_exm | (dsimp only [L2.KOf]; first | k_is | k_exc | kit_is | kts_exm) | rfl)
      (case cq_k5_TooMuch => first | k_is | k_exc | kit_is | kts_exm | (dsimp only [L2.KOf]; first | k_is | k_exc | kit_is | kts_exm) | rfl)
      (case cq_k5_Unfit => first | k_is | k_exc | kit_is | kts_exm | (dsimp only [L2.KOf]; first | k_is | k_exc | kit_is | kts_exm) | rfl)
      (case cq_k5_ValueError => first | k_is | k_exc | kit_is | kts_exm | (dsimp only [L2.KOf]; first | k_is | k_exc | kit_is | kts_exm) | rfl)
    obtain ⟨cad, cl⟩ := cl
    have Fx : LawP.Facts ⟨L2.KOf KX, cad, LawP.cflD, PySem.Challenge.rw_stoppedcoins_k00_errors.prog, w⟩ mg := {
      d__law_same := d__law_same
      d__law_caught := d__law_caught
      d__law_plain := d__law_plain
      d__law_kinds := d__law_kinds
      d__law_by_hand_right := d__law_by_hand_right
      d_law := d_law
      n_IndexError := n_IndexError
      n_KeyError := n_KeyError
      n_LookupError := n_LookupError
      n_ValueError := n_ValueError
      n_abs := n_abs
      n_all := n_all
      n_bool := n_bool
      n_enumerate := n_enumerate
      n_int := n_int
      n_isinstance := n_isinstance
      n_len := n_len
      n_list := n_list
      n_range := n_range
      n_str := n_str
      n_tuple := n_tuple
      n_zip := n_zip
      x_NoPlace := cl.x_NoPlace
      e_NoPlace := cl.e_NoPlace
      x_NothingDone := cl.x_NothingDone
      e_NothingDone := cl.e_NothingDone
      x_BadLine := cl.x_BadLine
      e_BadLine := cl.e_BadLine
      x_CanNot := cl.x_CanNot
      e_CanNot := cl.e_CanNot
      x_TooMuch := cl.x_TooMuch
      e_TooMuch := cl.e_TooMuch
      x_Unfit := cl.x_Unfit
      e_Unfit := cl.e_Unfit
      t_NoPlace_NoPlace := cl.t_NoPlace_NoPlace
      t_NothingDone_NoPlace := cl.t_NothingDone_NoPlace
      t_BadLine_NoPlace := cl.t_BadLine_NoPlace
      t_CanNot_NoPlace := cl.t_CanNot_NoPlace
      t_TooMuch_NoPlace := cl.t_TooMuch_NoPlace
      t_Unfit_NoPlace := cl.t_Unfit_NoPlace
      t_NoPlace_NothingDone := cl.t_NoPlace_NothingDone
      t_NothingDone_NothingDone := cl.t_NothingDone_NothingDone
      t_BadLine_NothingDone := cl.t_BadLine_NothingDone
      t_CanNot_NothingDone := cl.t_CanNot_NothingDone
      t_TooMuch_NothingDone := cl.t_TooMuch_NothingDone
      t_Unfit_NothingDone := cl.t_Unfit_NothingDone
      t_NoPlace_BadLine := cl.t_NoPlace_BadLine
      t_NothingDone_BadLine := cl.t_NothingDone_BadLine
      t_BadLine_BadLine := cl.t_BadLine_BadLine
      t_CanNot_BadLine := cl.t_CanNot_BadLine
      t_TooMuch_BadLine := cl.t_TooMuch_BadLine
      t_Unfit_BadLine := cl.t_Unfit_BadLine
      t_NoPlace_CanNot := cl.t_NoPlace_CanNot
      t_NothingDone_CanNot := cl.t_NothingDone_CanNot
      t_BadLine_CanNot := cl.t_BadLine_CanNot
      t_CanNot_CanNot := cl.t_CanNot_CanNot
      t_TooMuch_CanNot := cl.t_TooMuch_CanNot
      t_Unfit_CanNot := cl.t_Unfit_CanNot
      t_NoPlace_TooMuch := cl.t_NoPlace_TooMuch
      t_NothingDone_TooMuch := cl.t_NothingDone_TooMuch
      t_BadLine_TooMuch := cl.t_BadLine_TooMuch
      t_CanNot_TooMuch := cl.t_CanNot_TooMuch
      t_TooMuch_TooMuch := cl.t_TooMuch_TooMuch
      t_Unfit_TooMuch := cl.t_Unfit_TooMuch
      t_NoPlace_Unfit := cl.t_NoPlace_Unfit
      t_NothingDone_Unfit := cl.t_NothingDone_Unfit
      t_BadLine_Unfit := cl.t_BadLine_Unfit
      t_CanNot_Unfit := cl.t_CanNot_Unfit
      t_TooMuch_Unfit := cl.t_TooMuch_Unfit
      t_Unfit_Unfit := cl.t_Unfit_Unfit
      i_BadLine_BadLine := cl.i_BadLine_BadLine
      i_BadLine_CanNot := cl.i_BadLine_CanNot
      i_BadLine_IndexError := cl.i_BadLine_IndexError
      i_BadLine_KeyError := cl.i_BadLine_KeyError
      i_BadLine_LookupError := cl.i_BadLine_LookupError
      i_BadLine_NoPlace := cl.i_BadLine_NoPlace
      i_BadLine_NothingDone := cl.i_BadLine_NothingDone
      i_BadLine_TooMuch := cl.i_BadLine_TooMuch
      i_BadLine_Unfit := cl.i_BadLine_Unfit
      i_BadLine_ValueError := cl.i_BadLine_ValueError
      i_CanNot_BadLine := cl.i_CanNot_BadLine
      i_CanNot_CanNot := cl.i_CanNot_CanNot
      i_CanNot_IndexError := cl.i_CanNot_IndexError
      i_CanNot_KeyError := cl.i_CanNot_KeyError
      i_CanNot_LookupError := cl.i_CanNot_LookupError
      i_CanNot_NoPlace := cl.i_CanNot_NoPlace
      i_CanNot_NothingDone := cl.i_CanNot_NothingDone
      i_CanNot_TooMuch := cl.i_CanNot_TooMuch
      i_CanNot_Unfit := cl.i_CanNot_Unfit
      i_CanNot_ValueError := cl.i_CanNot_ValueError
      i_NoPlace_BadLine := cl.i_NoPlace_BadLine
      i_NoPlace_CanNot := cl.i_NoPlace_CanNot
      i_NoPlace_IndexError := cl.i_NoPlace_IndexError
      i_NoPlace_KeyError := cl.i_NoPlace_KeyError
      i_NoPlace_LookupError := cl.i_NoPlace_LookupError
      i_NoPlace_NoPlace := cl.i_NoPlace_NoPlace
      i_NoPlace_NothingDone := cl.i_NoPlace_NothingDone
      i_NoPlace_TooMuch := cl.i_NoPlace_TooMuch
      i_NoPlace_Unfit := cl.i_NoPlace_Unfit
      i_NoPlace_ValueError := cl.i_NoPlace_ValueError
      i_NothingDone_BadLine := cl.i_NothingDone_BadLine
      i_NothingDone_CanNot := cl.i_NothingDone_CanNot
      i_NothingDone_IndexError := cl.i_NothingDone_IndexError
      i_NothingDone_KeyError := cl.i_NothingDone_KeyError
      i_NothingDone_LookupError := cl.i_NothingDone_LookupError
      i_NothingDone_NoPlace := cl.i_NothingDone_NoPlace
      i_NothingDone_NothingDone := cl.i_NothingDone_NothingDone
      i_NothingDone_TooMuch := cl.i_NothingDone_TooMuch
      i_NothingDone_Unfit := cl.i_NothingDone_Unfit
      i_NothingDone_ValueError := cl.i_NothingDone_ValueError
      i_TooMuch_BadLine := cl.i_TooMuch_BadLine
      i_TooMuch_CanNot := cl.i_TooMuch_CanNot
      i_TooMuch_IndexError := cl.i_TooMuch_IndexError
      i_TooMuch_KeyError := cl.i_TooMuch_KeyError
      i_TooMuch_LookupError := cl.i_TooMuch_LookupError
      i_TooMuch_NoPlace := cl.i_TooMuch_NoPlace
      i_TooMuch_NothingDone := cl.i_TooMuch_NothingDone
      i_TooMuch_TooMuch := cl.i_TooMuch_TooMuch
      i_TooMuch_Unfit := cl.i_TooMuch_Unfit
      i_TooMuch_ValueError := cl.i_TooMuch_ValueError
      i_Unfit_BadLine := cl.i_Unfit_BadLine
      i_Unfit_CanNot := cl.i_Unfit_CanNot
      i_Unfit_IndexError := cl.i_Unfit_IndexError
      i_Unfit_KeyError := cl.i_Unfit_KeyError
      i_Unfit_LookupError := cl.i_Unfit_LookupError
      i_Unfit_NoPlace := cl.i_Unfit_NoPlace
      i_Unfit_NothingDone := cl.i_Unfit_NothingDone
      i_Unfit_TooMuch := cl.i_Unfit_TooMuch
      i_Unfit_Unfit := cl.i_Unfit_Unfit
      i_Unfit_ValueError := cl.i_Unfit_ValueError
    }
    obtain ⟨f, fd, Fu, m, b⟩ := Fx.d_law
    have e : fa = f := by
      have z := hmg.symm.trans m
      cases z
      rfl
    subst e
    obtain ⟨oc, od, kV, doc, pm, an, cdv, ct, osl, ef, lk, hcd⟩ := id Fu.ex
    exact ⟨fd, fun s u => by rw [ef]; exact .of_eq rfl, fun base _ _ => LawP.fn_law Fx Fu⟩
